import PyProof.Rows.All
import Wide.All
import OpenK.AllK
import Wide.FinOn
import HandS.ForMost
import HandS.Zip
import HandS.TupMul
import HandS.Codes
import KE.GoesMore
import KE.GoesEnum
import HandS.Defaults
import HandS.IsInst
import HandS.Wide
import HandS.WideBits
import HandS.NoneIn
import HandS.OwnEq
import HandS.Star
import HandS.SetTxtIn
import HandS.Dict
import HandS.SetKeys
import HandS.TupLen
import KE.KeyNested
import PyProof.DictMoreH
import PyProof.DictRoadsH
import PyProof.Rows.TupDisplay
import HandS.ExcInit
import HandS.ExcField
import HandS.ExcIs
import HandS.Nested
import HandS.ClsMeth
import HandS.HeadHook1
import KE.KSuper
import KE.KExcSuper
import HandS.WordsExc
import HandS.ExcInitHot
import KE.KExcIs
import HandS.HeadHook2
import HandS.Property
import KE.KOpsOwn
import HandS.NamedTupGet
import HandS.ExcCtx
import HandS.ExcOwn
import PyProof.StrOps2
import HandS.Strs
import OpenK.KMeth
import HandS.Replace
import HandS.Conv
import PyProof.StrLawsFirst
import HandS.Style
import HandS.SortInts
import HandS.Head0
import HandS.Head1
import HandS.Head2
import HandS.HeadEnd
import PySem.Challenge.RW_signedpacts_k02_machine_operators
set_option Elab.async false
set_option linter.all false
set_option maxRecDepth 100000
set_option maxHeartbeats 4000000
namespace Z
open PySem PySem.Spec PyProof.Rows L2
/-! ### zip over two sequences, each a list (true) or a tuple (false) -/
def SqK (b : Bool) (K : PySem.W.Frag) (H : Hp) (a : Addr) (xs : List V) : Prop := match b with
  | true => SqL K H a xs
  | false => SqT K H a xs
def ItK (b : Bool) (h : Heap) (it l : Addr) (i : Nat) : Prop := match b with
  | true => h.IsListIter it l i
  | false => h.IsTupleIter it l i
def IsK (b : Bool) (h : Heap) (l : Addr) (xs : Array Value) : Prop := match b with
  | true => h.IsList l xs
  | false => h.IsTuple l xs
theorem ItK.at' {b : Bool} {h h' : Heap} {it l : Addr} {i : Nat} (x : ItK b h it l i) (k : ∀ o, h.get? it = some o → h'.get? it = some o) : ItK b h' it l i := by
  cases b
  · exact Heap.IsTupleIter.at x k
  · exact Heap.IsListIter.at x k
theorem ItK.obj {b : Bool} {h : Heap} {it l : Addr} {i : Nat} (x : ItK b h it l i) : ∃ o, h.get? it = some o ∧ ∀ v, o.data ≠ .cell v := by
  cases b
  · obtain ⟨o, e, _, d⟩ := (show h.IsTupleIter it l i from x)
    exact ⟨o, e, fun v q => by rw [d] at q; cases q⟩
  · obtain ⟨o, e, _, d⟩ := (show h.IsListIter it l i from x)
    exact ⟨o, e, fun v q => by rw [d] at q; cases q⟩
theorem sqk_is {X : Cx} {pins : List (Addr × Obj)} {σ : L2.St} {H : Hp} {s : Shared} {b : Bool} {a : Addr} {xs : List V} (I : Inv X pins σ H s) (h : SqK b X.K H a xs) :
    ∃ its : List Value, Vals xs its ∧ IsK b s.heap a its.toArray ∧ a < s.heap.objs.size := by
  cases b
  · obtain ⟨its, r, p, _⟩ := I.tuple h
    obtain ⟨o, ho, _⟩ := id p
    exact ⟨its, r, p, Heap.lt_size ho⟩
  · obtain ⟨its, r, p, _⟩ := I.list h
    exact ⟨its, r, p.isList, p.lt⟩
theorem sqk_inj {X : Cx} {pins : List (Addr × Obj)} {σ : L2.St} {H : Hp} {s : Shared} {b : Bool} {a : Addr} {xs ys : List V} (I : Inv X pins σ H s) (h : SqK b X.K H a xs) (h' : SqK b X.K H a ys) : xs = ys := by
  cases b
  · exact I.tuple_inj h h'
  · exact I.list_inj h h'
theorem drawsK {prog : Program} {w : World} {A : Around} (b : Bool) (hh : A.handled = none) (it l : Addr) (hne : l ≠ it) (items : Array Value) :
    Draws prog w A it [it, l] items.size (fun i v => items[i]? = some v) (fun i h => ItK b h it l i ∧ IsK b h l items) := by
  cases b
  · exact Draws.tuple hh it l hne items
  · exact Draws.list hh it l hne items
def ItzM (p q : Bool) (K : PySem.W.Frag) (a b : Addr) : It :=
  ⟨fun i H => ∃ (xs ys : List V) (x y : V), SqK p K H a xs ∧ SqK q K H b ys ∧ xs[i]? = some x ∧ ys[i]? = some y,
   fun i H v H' => ∃ T x y, v = .ref T ∧ H T = none ∧ H' = upd H T (.tup [x, y]) ∧ (∀ xs, SqK p K H a xs → xs[i]? = some x) ∧ (∀ ys, SqK q K H b ys → ys[i]? = some y),
   fun i H => ∃ xs ys : List V, SqK p K H a xs ∧ SqK q K H b ys ∧ (xs.length ≤ i ∨ ys.length ≤ i) ∧ i ≤ xs.length ∧ i ≤ ys.length⟩
theorem zsep {z TI TO i1 i2 a b : Addr} (D : ZipApart z TI TO i1 i2 a b) : ZipSep2 z TI TO i1 i2 [i1, a] [i2, b] where
  TIz := D.TIz
  TOz := D.TOz
  TITO := D.TITO
  TIi1 := D.TIi1
  mem1 := List.mem_cons_self
  zf1 := fun h => by rcases List.mem_cons.mp h with e | h; exact D.i1z e.symm; exact D.l1z (List.mem_singleton.mp h).symm
  Tf1 := fun h => by rcases List.mem_cons.mp h with e | h; exact D.TOi1 e; exact D.l1TO (List.mem_singleton.mp h).symm
  TIi2 := D.TIi2
  mem2 := List.mem_cons_self
  zf2 := fun h => by rcases List.mem_cons.mp h with e | h; exact D.i2z e.symm; exact D.l2z (List.mem_singleton.mp h).symm
  Tf2 := fun h => by rcases List.mem_cons.mp h with e | h; exact D.TOi2 e; exact D.l2TO (List.mem_singleton.mp h).symm
  sep1_2 := fun h => by rcases List.mem_cons.mp h with e | h; exact D.i12 e; exact D.l2i1 (List.mem_singleton.mp h).symm
  sep2_1 := fun h => by rcases List.mem_cons.mp h with e | h; exact D.i12 e.symm; exact D.l1i2 (List.mem_singleton.mp h).symm
theorem five {c z TI TO i1 i2 : Addr} {Pr : Addr → Prop} (hc : c ∈ [z, TI, TO, i1, i2]) (a : Pr z) (b : Pr TI) (d : Pr TO) (e : Pr i1) (f : Pr i2) : Pr c := by
  have q : c = z ∨ c = TI ∨ c = TO ∨ c = i1 ∨ c = i2 := by simpa using hc
  rcases q with rfl | rfl | rfl | rfl | rfl <;> assumption
theorem turn_zipM {p q : Bool} {P : Program} {w : World} {K : PySem.W.Frag} {elts : List Expr} {kk : Nat} {tpos : Pos} {a b z TI TO i1 i2 : Addr} (D : ZipApart z TI TO i1 i2 a b) :
    Turn P w K (.Tuple elts kk tpos) (ItzM p q K a b) [z, TI, TO, i1, i2] z (fun i h => IsZip h z TI TO .none ∧ IsTupOf2 h TI (.ref i1) (.ref i2) ∧ (∃ x y, IsTupOf2 h TO x y) ∧ ItK p h i1 a i ∧ ItK q h i2 b i) where
  mem := by simp
  obj := fun i h st c hc => by
    obtain ⟨hz, hI, ⟨x, y, hO⟩, h1, h2⟩ := st
    exact five (Pr := fun c => ∃ o, h.get? c = some o ∧ ∀ v, o.data ≠ .cell v) hc ⟨_, hz, fun v q => nomatch q⟩ ⟨_, hI, fun v q => nomatch q⟩ ⟨_, hO, fun v q => nomatch q⟩ h1.obj h2.obj
  keep := fun i h h' st k => by
    obtain ⟨hz, hI, ⟨x, y, hO⟩, h1, h2⟩ := st
    exact ⟨k z (by simp) _ hz, k TI (by simp) _ hI, ⟨x, y, k TO (by simp) _ hO⟩, h1.at' (fun o e => k i1 (by simp) o e), h2.at' (fun o e => k i2 (by simp) o e)⟩
  item := by
    intro X hP hw hK hc i pins s σ H E I hf st hg
    subst hP hw hK
    obtain ⟨hz, hI, ⟨x0, y0, hO⟩, h1, h2⟩ := st
    obtain ⟨xs, ys, x, y, qx, qy, ex, ey⟩ := hg
    obtain ⟨us, rx, kx, _⟩ := sqk_is I qx
    obtain ⟨vs, ry, ky, _⟩ := sqk_is I qy
    obtain ⟨u, eu, ru⟩ := rx.get ex
    obtain ⟨v, ev, rv⟩ := ry.get ey
    have hzl : z < s.heap.objs.size := Heap.lt_size hz
    have lu : i < us.toArray.size := by simpa using (List.getElem?_eq_some_iff.mp eu).1
    have lv : i < vs.toArray.size := by simpa using (List.getElem?_eq_some_iff.mp ev).1
    have hh : X.A.in1.handled = none := I.ok.hd hc
    refine wpAny_pyNext_zipD2_item (zsep D) (drawsK p hh i1 a D.l1i1 us.toArray) (drawsK q hh i2 b D.l2i2 vs.toArray) hz hI hO ⟨h1, kx⟩ ⟨h2, ky⟩ lu lv fun m1 m2 g tk p1 p2 gz gO g1 g2 gT gs gk => ?_
    have e1 : m1 = u := by
      have t1 : us.toArray[i]? = some u := by simpa using eu
      exact Option.some.inj (p1.symm.trans t1)
    have e2 : m2 = v := by
      have t1 : vs.toArray[i]? = some v := by simpa using ev
      exact Option.some.inj (p2.symm.trans t1)
    subst e1 e2
    refine ⟨_, rfl, wpAny_letOwnedTupleGo_zip (s := { s with heap := g, toks := tk }) gz fun g' gz' sb => ?_⟩
    have gT' : g'.get? s.heap.objs.size = some { cls := .type "tuple", data := .seq #[m1, m2] } := (sb.2 _ (Nat.ne_of_gt hzl)).trans gT
    have nw : ObjOk X.prog X.w (upd H s.heap.objs.size (.tup [x, y])) g' s.heap.objs.size (.tup [x, y]) := ⟨by show 2 ≤ sizeLine; decide, [m1, m2], .cons ru (.cons rv .nil), ⟨_, gT', rfl, _, rfl⟩⟩
    have I1 : Inv X pins σ (upd H s.heap.objs.size (.tup [x, y])) { s with heap := g', toks := tk } :=
      I.turnedNew (t' := tk) (ch := [z, TI, TO, i1, i2]) (fun c o nb e => (sb.2 c (fun w => nb (by simp [w]))).trans (gk c o (fun w => nb (by simp [w])) (fun w => nb (by simp [w])) (fun w => nb (by simp [w])) (fun w => nb (by simp [w])) e)) hf (Nat.le_refl _) nw
    refine ⟨.ref s.heap.objs.size, _, I1, rfl, ⟨_, x, y, rfl, I.hok.fresh (Nat.le_refl _), rfl, fun l hl => by rw [sqk_inj I hl qx]; exact ex, fun l hl => by rw [sqk_inj I hl qy]; exact ey⟩, ⟨gz', ?_, ⟨m1, m2, ?_⟩, ?_, ?_⟩, fun c hcm => ?_⟩
    · exact (sb.2 _ D.TIz).trans (gk _ _ D.TIz D.TITO D.TIi1 D.TIi2 hI)
    · exact (sb.2 _ D.TOz).trans gO
    · exact ItK.at' g1.1 (fun o e => (sb.2 _ D.i1z).trans e)
    · exact ItK.at' g2.1 (fun o e => (sb.2 _ D.i2z).trans e)
    · have lt : c < s.heap.objs.size := by
        obtain ⟨o1, q1, _⟩ := h1.obj
        obtain ⟨o2, q2, _⟩ := h2.obj
        exact five (Pr := fun c => c < s.heap.objs.size) hcm hzl (Heap.lt_size hI) (Heap.lt_size hO) (Heap.lt_size q1) (Heap.lt_size q2)
      rw [upd_ne (Nat.ne_of_lt lt)]
      exact (hf c hcm).1
  done := by
    intro X hP hw hK hc i pins s σ H E I hf st hg
    subst hP hw hK
    obtain ⟨hz, hI, ⟨x0, y0, hO⟩, h1, h2⟩ := st
    obtain ⟨xs, ys, qx, qy, hend, le1, le2⟩ := hg
    obtain ⟨us, rx, kx, _⟩ := sqk_is I qx
    obtain ⟨vs, ry, ky, _⟩ := sqk_is I qy
    have l1 := rx.length
    have l2 := ry.length
    have n1 : us.toArray.size = us.length := by simp
    have n2 : vs.toArray.size = vs.length := by simp
    have hh : X.A.in1.handled = none := I.ok.hd hc
    refine wpAny_pyNext_zipD2_end (i := i) (zsep D) (drawsK p hh i1 a D.l1i1 us.toArray) (drawsK q hh i2 b D.l2i2 vs.toArray) hz hI hO ⟨h1, kx⟩ ⟨h2, ky⟩ (by omega) (by omega) (by omega) fun g tk gk => ?_
    exact ⟨rfl, I.turnedL (t' := tk) (ch := [z, TI, TO, i1, i2]) (fun c o nb e => gk c o (fun w => nb (by simp [w])) (fun w => nb (by simp [w])) (fun w => nb (by simp [w])) (fun w => nb (by simp [w])) e) hf⟩
  self := fun A i s Q E st h => wpAny_pyIter_zip st.1 h
def iZipM (K : PySem.W.Frag) (ta : TA) : TI := fun σ H R => ta σ H fun vs H1 => ∃ p q a b xs ys, vs = [.ref a, .ref b] ∧ SqK p K H1 a xs ∧ SqK q K H1 b ys ∧ R (ItzM p q K a b) H1
theorem begK {p : Bool} {h : Heap} {a : Addr} {xs : Array Value} (k : IsK p h a xs) : ∃ o Hp', Begins (.ref a) o Hp' ∧ Hp' h ∧ ∀ h' it, h'.get? it = some o → ItK p h' it a 0 := by
  cases p
  · exact ⟨_, _, begins_tuple a xs, k, fun h' it e => ⟨_, e, rfl, rfl⟩⟩
  · exact ⟨_, _, begins_list a xs, k, fun h' it e => ⟨_, e, rfl, rfl⟩⟩
theorem pi_zipM {X : Cx} {e e2 : Expr} {ta : TA} {p pos tpos : Pos} {elts : List Expr} {kk : Nat} (hg : Gl X "zip") (hm : X.mg "zip" = none) (ha : PA X [e, e2] ta)
    (hs : starEach [e, e2] X.env = (false, eval e X.env) :: starEach [e2] X.env := by rfl) (hpl : (backTo pos (starEach [e2] X.env)).any (·.1) = false := by rfl) :
    PI X (.Tuple elts kk tpos) (.Call (.Name "zip" p) [e, e2] [] pos) (iZipM X.K ta) := by
  constructor
  intro pins s σ H R I h
  refine Call_ (ld_blt I hg hm PyProof.Rows.boot_zip (PyProof.Rows.callWith_type1 (thn (ha.run pos pins s σ H _ I h) fun us s1 ⟨vs, H1, I1, r1, q1⟩ => ?_) hs hpl))
  obtain ⟨k1, k2, a, b, xs, ys, ex, qx, qy, q⟩ := q1
  subst ex
  obtain ⟨u, v, rfl, ru, rv⟩ := Vals.two r1
  cases ru
  cases rv
  obtain ⟨i1, _, p1, lt1⟩ := sqk_is I1 qx
  obtain ⟨i2, _, p2, lt2⟩ := sqk_is I1 qy
  obtain ⟨o1, G1, B1, g1, w1⟩ := begK p1
  obtain ⟨o2, G2, B2, g2, w2⟩ := begK p2
  refine zip_begins2 B1 B2 g1 g2 fun h' hz hI hO e1 e2 hsz hk => wpAny_pyIter_zip hz ?_
  have I2 : Inv X pins σ H1 { s1 with heap := h' } := I1.kept (t' := s1.toks) hk
  refine ⟨s1.heap.objs.size + 4, [s1.heap.objs.size + 4, s1.heap.objs.size + 2, s1.heap.objs.size + 3, s1.heap.objs.size, s1.heap.objs.size + 1], _, _, H1, rfl, I2, turn_zipM (PySem.W.ktu_apart s1.heap.objs.size a b lt1 lt2), ⟨hz, hI, ⟨_, _, hO⟩, w1 _ _ e1, w2 _ _ e2⟩, fun c hcm => ?_, q⟩
  have hle : s1.heap.objs.size ≤ c := five (Pr := fun c => s1.heap.objs.size ≤ c) hcm (Nat.le_add_right _ _) (Nat.le_add_right _ _) (Nat.le_add_right _ _) (Nat.le_refl _) (Nat.le_add_right _ _)
  exact I1.fpOk hle (I1.hok.fresh hle)
end Z
set_option Elab.async false
set_option linter.all false
set_option maxRecDepth 100000
set_option maxHeartbeats 4000000
namespace Z
open PySem PySem.Spec PyProof.Rows L2
/-! ### (v,) * k for 0 ≤ k -/
theorem tmul0 (l : Addr) (v : Value) (n : Nat) (dd : Option Addr) (sl : Array (Option Value)) (u : Tok) :
    Meets (Builtin.«tuple.__mul__» ⟨[.ref l, .int 0 u], []⟩) (fun _ R s => s.heap.get? l = some { cls := .type "tuple", dict := dd, data := .seq #[v] n, slots := sl } ∧
      R (.ok (.ret (Value.ref s.heap.objs.size))) { s with heap := s.heap.push { cls := Value.type "tuple", data := Data.seq #[] }, toks := s.toks }) :=
  .of_wp fun prog w A R s h => by
    obtain ⟨hp, g, d, tk, os⟩ := s
    obtain ⟨hl, h⟩ := h
    have f1 := AutoSeq1.idx_int
    wp_walk using AutoSeq1.wpAny_loadPart' hl
    exact ⟨_, rfl, h⟩
theorem tmul1 (l : Addr) (items : Array Value) (n : Nat) (dd : Option Addr) (sl : Array (Option Value)) (u : Tok) :
    Meets (Builtin.«tuple.__mul__» ⟨[.ref l, .int 1 u], []⟩) (fun _ R s => s.heap.get? l = some { cls := .type "tuple", dict := dd, data := .seq items n, slots := sl } ∧ R (.ok (.ret (Value.ref l))) s) :=
  .of_wp fun prog w A R s h => by
    obtain ⟨hp, g, d, tk, os⟩ := s
    obtain ⟨hl, h⟩ := h
    have f1 := AutoSeq1.idx_int
    wp_walk using AutoSeq1.wpAny_loadPart' hl
    exact ⟨_, rfl, h⟩
theorem same_new {H : Hp} {p : Addr} {o : HO} (h : H p = none) : Same H (upd H p o) := fun b x e => by
  rw [upd_ne (ne_of_none e h)]
  exact e
def rRepU : R2 := fun x y H Q => ∃ l k v, x = .ref l ∧ y = .int k ∧ H l = some (.tup [v]) ∧ 0 ≤ k ∧ k ≤ 1000 ∧ ∀ p H', Same H H' → H' p = some (.tup (List.replicate k.toNat v)) → Q (.ref p) H'
theorem op_repU {X : Cx} : OpR X (binaryOp .Mult) rRepU := by
  intro pins s σ H x y vv uu Q I rx ry h
  obtain ⟨l, k, v, rfl, rfl, hT, h0, h1, q⟩ := id h
  by_cases k2 : 2 ≤ k
  · refine op_repT pins s σ H _ _ vv uu Q I rx ry ⟨l, k, [v], rfl, rfl, .inl (.inl hT), by simp, k2, h1, by simp, fun p np => q p _ (same_new np) ?_⟩
    rw [upd_same]
    congr 2
    generalize k.toNat = m
    induction m with
    | zero => rfl
    | succ m ih => rw [List.replicate_succ, List.flatten_cons, ih, List.replicate_succ]; rfl
  · cases rx
    obtain ⟨t, rfl⟩ := ry
    obtain ⟨its, r, ⟨⟨cls, dd, data, sl⟩, ho, hc, n, hd⟩, hs⟩ := I.tuple (.inl (.inl hT) : SqT X.K H l [v])
    simp only at hc hd
    subst hc hd
    obtain ⟨u, rfl, ru⟩ := Vals.one r
    by_cases k1 : k = 1
    · subst k1
      refine wpAny_binaryOp_repeat_ref (T := "tuple") (U := "int") (by decide) ⟨_, ho, rfl⟩ (fun s' => typeIs_int s' 1 t) noFill_tuple_mul F.fills_int_mul F.slot_int_rmul repeat_tuple F.slot_int_index.lookup
        (call_meets F.slot_int_rmul (typeIs_int s 1 t) F.entry_int_rmul (F.args_int_rmul_2 _ _) (int_rmul_tuple 1 t l [u].toArray n dd sl)
          ⟨ho, rfl, ⟨_, ho, rfl⟩, call_meets F.slot_tuple_mul ⟨_, ho, rfl⟩ F.entry_tuple_mul (F.args_tuple_mul_2 _ _) (tmul1 l [u].toArray n dd sl t) ⟨ho, ?_⟩⟩)
      exact ⟨.ref l, H, I, rfl, q l H (Same.refl H) hT⟩
    · have k0 : k = 0 := by omega
      subst k0
      refine wpAny_binaryOp_repeat_ref (T := "tuple") (U := "int") (by decide) ⟨_, ho, rfl⟩ (fun s' => typeIs_int s' 0 t) noFill_tuple_mul F.fills_int_mul F.slot_int_rmul repeat_tuple F.slot_int_index.lookup
        (call_meets F.slot_int_rmul (typeIs_int s 0 t) F.entry_int_rmul (F.args_int_rmul_2 _ _) (int_rmul_tuple 0 t l [u].toArray n dd sl)
          ⟨ho, rfl, ⟨_, ho, rfl⟩, call_meets F.slot_tuple_mul ⟨_, ho, rfl⟩ F.entry_tuple_mul (F.args_tuple_mul_2 _ _) (tmul0 l u n dd sl t) ⟨ho, ?_⟩⟩)
      refine ⟨.ref s.heap.objs.size, _, I.laid (t' := s.toks) (o := .tup []) (fun b ob z => Heap.get?_push_of_some _ z) (Nat.le_refl _) ?_, rfl, q _ _ (same_new (I.hok.fresh (Nat.le_refl _))) upd_same⟩
      exact ⟨Nat.zero_le _, [], .nil, IsTup.new _ _⟩
/-! ### loops and comprehensions over any iterator -/
def forW (J : It) (g : TG) (tb : TS) (D : Ends) (σ : L2.St) (H : Hp) : Prop := ∃ W : Nat → Nat → L2.St → Hp → Prop, (∃ m, W 0 m σ H) ∧ ∀ i m σ H, W i m σ H →
  (J.stop i H ∧ D.nx σ H) ∨ (J.go i H ∧ ∃ N : L2.St → Hp → Prop, (∀ σ' H', N σ' H' → ∃ m', m' < m ∧ W (i + 1) m' σ' H') ∧ ∀ x H', J.yld i H x H' → g x σ H' fun σ2 H2 => tb { D with nx := N, ct := N, bk := D.nx } σ2 H2)
theorem for_gen {J : It} {n : Nat} {g : TG} {tb : TS} {D : Ends} {σ : L2.St} {H : Hp} (Pv : Nat → L2.St → Hp → Prop) (h0 : Pv 0 σ H) (hgo : ∀ i σ H, i < n → Pv i σ H → J.go i H) (hst : ∀ σ H, Pv n σ H → J.stop n H)
    (hs : ∀ i σ H x H', i < n → Pv i σ H → J.yld i H x H' → g x σ H' fun σ2 H2 => tb { D with nx := Pv (i + 1), ct := Pv (i + 1), bk := D.nx } σ2 H2) (hd : ∀ σ H, Pv n σ H → D.nx σ H) : forW J g tb D σ H := by
  refine ⟨fun i m σ H => m = n - i ∧ i ≤ n ∧ Pv i σ H, ⟨n, by omega, Nat.zero_le _, h0⟩, fun i m σ H w => ?_⟩
  obtain ⟨rfl, hi, p⟩ := w
  by_cases hlt : i < n
  · exact .inr ⟨hgo i σ H hlt p, Pv (i + 1), fun σ' H' z => ⟨n - (i + 1), by omega, rfl, hlt, z⟩, fun x H' y => hs i σ H x H' hlt p y⟩
  · have e : i = n := by omega
    subst e
    exact .inl ⟨hst σ H p, hd σ H p⟩
def lcW (J : It) (g : TG) (tt : TT) (te : TE) (vs : List Nat) (σ : L2.St) (D : Addr) (Qd : Hp → Prop) (H1 : Hp) : Prop := ∃ W : Nat → Nat → Hp → Prop, (∃ m, W 0 m (upd H1 D (.lst []))) ∧ ∀ i m H, W i m H →
  (J.stop i H ∧ Qd H) ∨ (J.go i H ∧ ∃ Nx : Hp → Prop, (∀ H', Nx H' → ∃ m', m' < m ∧ W (i + 1) m' H') ∧ ∀ x H', J.yld i H x H' → g x (wipe σ vs) H' fun σ2 H2 => wipe σ2 vs = wipe σ vs ∧ tt σ2 H2 fun b H3 =>
    if b = true then te σ2 H3 fun y H4 => ∃ acc, H4 D = some (.lst acc) ∧ acc.length < sizeLine ∧ Nx (upd H4 D (.lst (acc ++ [y]))) else Nx H3)
theorem lc_gen {J : It} {n : Nat} {g : TG} {tt : TT} {te : TE} {vs : List Nat} {σ : L2.St} {H1 : Hp} {D : Addr} {Qd : Hp → Prop} (Pv : Nat → Hp → Prop) (h0 : Pv 0 (upd H1 D (.lst []))) (hgo : ∀ i H, i < n → Pv i H → J.go i H) (hst : ∀ H, Pv n H → J.stop n H)
    (hs : ∀ i H x H', i < n → Pv i H → J.yld i H x H' → g x (wipe σ vs) H' fun σ2 H2 => wipe σ2 vs = wipe σ vs ∧ tt σ2 H2 fun b H3 =>
      if b = true then te σ2 H3 fun y H4 => ∃ acc, H4 D = some (.lst acc) ∧ acc.length < sizeLine ∧ Pv (i + 1) (upd H4 D (.lst (acc ++ [y]))) else Pv (i + 1) H3) (hd : ∀ H, Pv n H → Qd H) : lcW J g tt te vs σ D Qd H1 := by
  refine ⟨fun i m H => m = n - i ∧ i ≤ n ∧ Pv i H, ⟨n, by omega, Nat.zero_le _, h0⟩, fun i m H w => ?_⟩
  obtain ⟨rfl, hi, p⟩ := w
  by_cases hlt : i < n
  · exact .inr ⟨hgo i H hlt p, Pv (i + 1), fun H' z => ⟨n - (i + 1), by omega, rfl, hlt, z⟩, fun x H' y => hs i H x H' hlt p y⟩
  · have e : i = n := by omega
    subst e
    exact .inl ⟨hst H p, hd H p⟩
/-! ### a def of the module that may be called by its name -/
structure Cal (P : Program) (w : World) (K : PySem.W.Frag) (mg : Str → Option Value) (base : Heap) (k : Nat) (x : Str) (sp : Sp) : Prop where
  ex : ∃ (f : Addr) (fd : FuncData) (ps : List Str), FnOk P w K mg base CX0 k f fd ps sp ∧ mg x = some (.ref f) ∧ PySem.W.keepIn K (.ref f) = true ∧ Binds K fd ps []
section
variable {X : Cx} {k j : Nat} {x : Str} {sp : Sp} {p pos : Pos} {e : Expr} {es : List Expr} {t : TA}
theorem pe_cl (c : Cal X.prog X.w X.K X.mg X.base k x sp) (hr : Room j X.A) (hk : k ≤ j) (hg : Gl X x) (ha : PA X (e :: es) t)
    (hdb : (x == ("__debug__" : Str)) = false := by decide) (he : starEach (e :: es) X.env = (false, eval e X.env) :: starEach es X.env := by rfl) (hpl : (backTo pos (starEach es X.env)).any (·.1) = false := by rfl) : PE X (.Call (.Name x p) (e :: es) [] pos) (tCall sp [] E0 t) := by
  obtain ⟨f, fd, ps, F, hm, kp, b⟩ := c.ex
  exact pe_call F (hr.mono hk) hg hm kp b .nil pass0 ha hdb he hpl
end
structure CalK (P : Program) (w : World) (K : PySem.W.Frag) (mg : Str → Option Value) (base : Heap) (k : Nat) (x : Str) (n : Nat) (ks : List Str) (gV : List V → List V → List V) (sp : Sp) : Prop where
  ex : ∃ (f : Addr) (fd : FuncData) (ps : List Str) (g : List Value → List Value → List Value), FnOk P w K mg base CX0 k f fd ps sp ∧ mg x = some (.ref f) ∧ PySem.W.keepIn K (.ref f) = true ∧ KBn K fd ps n ks g gV
section
variable {X : Cx} {k j n : Nat} {x : Str} {sp : Sp} {ks : List Str} {gV : List V → List V → List V} {p pos : Pos} {e : Expr} {es : List Expr} {kws : List Keyword} {t tk : TA}
theorem pe_clK (c : CalK X.prog X.w X.K X.mg X.base k x n ks gV sp) (hr : Room j X.A) (hk : k ≤ j) (hg : Gl X x) (ha : PA X (e :: es) t) (hkw : PK X kws tk)
    (hall : (backToKw pos (keywordEach kws X.env)).all (·.1.isSome) = true := by rfl) (hks : (backToKw pos (keywordEach kws X.env)).filterMap (·.1) = ks := by rfl) (hdb : (x == ("__debug__" : Str)) = false := by decide)
    (he : starEach (e :: es) X.env = (false, eval e X.env) :: starEach es X.env := by rfl) (hpl : ((backTo pos (starEach (e :: es) X.env)).any (·.1) || (backToKw pos (keywordEach kws X.env)).any (·.1.isNone)) = false := by rfl) :
    PE X (.Call (.Name x p) (e :: es) kws pos) (tCallN n ks.length sp gV E0 t tk) := by
  obtain ⟨f, fd, ps, g, F, hm, kp, b⟩ := c.ex
  exact pe_callN F (hr.mono hk) hg hm kp b pass0 ha hkw hall hks hdb he hpl
end
/-! ### heaps -/
/-- all but p stands -/
def SB (p : Addr) (H H' : Hp) : Prop := ∀ b o, b ≠ p → H b = some o → H' b = some o
theorem Same.sb {p : Addr} {H H' : Hp} (s : Same H H') : SB p H H' := fun b o _ h => s b o h
theorem SB.trans {p : Addr} {H H1 H2 : Hp} (a : SB p H H1) (b : SB p H1 H2) : SB p H H2 := fun c o n h => b c o n (a c o n h)
theorem SB.upd {p : Addr} {H H' : Hp} {o : HO} (s : SB p H H') : SB p H (upd H' p o) := fun b u n h => by
  rw [upd_ne n]
  exact s b u n h
theorem SB.same {p : Addr} {H H' : Hp} (s : SB p H H') (n : H p = none) : Same H H' := fun b o h => s b o (ne_of_none h n) h
theorem Same.mut {p : Addr} {H H' : Hp} {o : HO} (s : Same H H') (n : H p = none) : Same H (L2.upd H' p o) := fun b u h => by
  rw [upd_ne (ne_of_none h n)]
  exact s b u h
theorem SB.sq {K : PySem.W.Frag} {p a : Addr} {H H' : Hp} {xs : List V} (s : SB p H H') (n : a ≠ p) (h : SqL K H a xs) : SqL K H' a xs := by
  rcases h with (h | ⟨o, h⟩) | h
  · exact .inl (.inl (s _ _ n h))
  · exact .inl (.inr ⟨o, s _ _ n h⟩)
  · exact .inr h
theorem Same.sqT {K : PySem.W.Frag} {a : Addr} {H H' : Hp} {xs : List V} (s : Same H H') (h : SqT K H a xs) : SqT K H' a xs := by
  rcases h with (h | ⟨o, h⟩) | h
  · exact .inl (.inl (s _ _ h))
  · exact .inl (.inr ⟨o, s _ _ h⟩)
  · exact .inr h
theorem Same.sqK {b : Bool} {K : PySem.W.Frag} {a : Addr} {H H' : Hp} {xs : List V} (s : Same H H') (h : SqK b K H a xs) : SqK b K H' a xs := by
  cases b
  · exact Z.Same.sqT s h
  · exact s.seq h
theorem at_map {α : Type} {f : α → V} {xs : List α} {i : Nat} {x : α} (h : xs[i]? = some x) : atI (xs.map f) (i : Int) = some (f x) := atI_nat (by rw [List.getElem?_map, h]; rfl)
theorem of_map {α : Type} {f : α → V} {xs : List α} {i : Nat} {v : V} (h : (xs.map f)[i]? = some v) : ∃ x, xs[i]? = some x ∧ v = f x := by
  rw [List.getElem?_map] at h
  cases e : xs[i]? with
  | none => rw [e] at h; cases h
  | some x => rw [e] at h; exact ⟨x, rfl, (Option.some.inj h).symm⟩
end Z
set_option Elab.async false
set_option linter.all false
set_option maxRecDepth 100000
set_option maxHeartbeats 4000000
namespace Z
open PySem PySem.Spec PyProof.Rows L2
/-! ### data -/
def sqD (b : Bool) (ds : List PyData) : PyData := match b with
  | true => .list ds
  | false => .tuple ds
def intsD (b : Bool) (ns : List Int) : PyData := sqD b (ns.map PyData.int)
def matD (b : Bool) (rs : List (List Int)) : PyData := sqD b (rs.map (intsD b))
theorem dp_sq {b : Bool} {K : PySem.W.Frag} {H : Hp} {a : Addr} {xs : List V} {ds : List PyData} (h : SqK b K H a xs) (d : DpAll K H xs ds) : Dp K H (.ref a) (sqD b ds) := by
  cases b
  · exact .tup h d
  · exact .lst h d
theorem dpa_ints {K : PySem.W.Frag} {H : Hp} : ∀ ns : List Int, DpAll K H (ns.map V.int) (ns.map PyData.int)
  | [] => .nil
  | n :: r => .cons (.int n) (dpa_ints r)
theorem dp_ints {b : Bool} {K : PySem.W.Frag} {H : Hp} {a : Addr} {ns : List Int} (h : SqK b K H a (ns.map V.int)) : Dp K H (.ref a) (intsD b ns) := dp_sq h (dpa_ints ns)
/-- a matrix: a list (or tuple) of lists (or tuples) of ints, at ps -/
def Mat (b : Bool) (K : PySem.W.Frag) (H : Hp) (a : Addr) (ps : List Addr) (rs : List (List Int)) : Prop := SqK b K H a (ps.map V.ref) ∧ ps.length = rs.length ∧ ∀ (i : Nat) (p : Addr) (r : List Int), ps[i]? = some p → rs[i]? = some r → SqK b K H p (r.map V.int)
theorem Mat.mono {b : Bool} {K : PySem.W.Frag} {H H' : Hp} {a : Addr} {ps : List Addr} {rs : List (List Int)} (s : Same H H') (m : Mat b K H a ps rs) : Mat b K H' a ps rs := ⟨Z.Same.sqK s m.1, m.2.1, fun i p r h1 h2 => Z.Same.sqK s (m.2.2 i p r h1 h2)⟩
theorem dpa_mat {b : Bool} {K : PySem.W.Frag} {H : Hp} : ∀ (ps : List Addr) (rs : List (List Int)), ps.length = rs.length → (∀ (i : Nat) (p : Addr) (r : List Int), ps[i]? = some p → rs[i]? = some r → SqK b K H p (r.map V.int)) → DpAll K H (ps.map V.ref) (rs.map (intsD b))
  | [], [], _, _ => .nil
  | p :: ps, r :: rs, hl, h => .cons (dp_ints (h 0 p r rfl rfl)) (dpa_mat ps rs (by simpa using hl) fun i q s h1 h2 => h (i + 1) q s h1 h2)
theorem Mat.dp {b : Bool} {K : PySem.W.Frag} {H : Hp} {a : Addr} {ps : List Addr} {rs : List (List Int)} (m : Mat b K H a ps rs) : Dp K H (.ref a) (matD b rs) := dp_sq m.1 (dpa_mat ps rs m.2.1 m.2.2)
theorem lay_ints : ∀ ns : List Int, PyData.canLayAll0 (ns.map PyData.int) = true
  | [] => rfl
  | n :: r => by
    rw [List.map_cons, PyData.canLayAll0, lay_ints r]
    rfl
theorem dep_ints : ∀ ns : List Int, PyData.depthAll (ns.map PyData.int) = 0
  | [] => rfl
  | n :: r => by
    rw [List.map_cons, PyData.depthAll, dep_ints r]
    rfl
theorem shaped_ints (b : Bool) (ns : List Int) : SeqAt.shaped (intsD b ns) = true := by
  unfold SeqAt.shaped intsD
  cases b
  · show (PyData.canLayAll0 (ns.map PyData.int) && decide (PyData.depthAll (ns.map PyData.int) + 1 ≤ 64)) = true
    rw [lay_ints, dep_ints]
    rfl
  · show (PyData.canLayAll0 (ns.map PyData.int) && decide (PyData.depthAll (ns.map PyData.int) + 1 ≤ 64)) = true
    rw [lay_ints, dep_ints]
    rfl
theorem lay_mat (b : Bool) : ∀ rs : List (List Int), PyData.canLayAll0 (rs.map (intsD b)) = true
  | [] => rfl
  | n :: r => by
    rw [List.map_cons, PyData.canLayAll0, lay_mat b r, SeqAt.canLay_of_shaped (shaped_ints b n)]
    rfl
theorem dep_mat (b : Bool) : ∀ rs : List (List Int), PyData.depthAll (rs.map (intsD b)) ≤ 1
  | [] => Nat.zero_le _
  | n :: r => by
    rw [List.map_cons, PyData.depthAll]
    have h := dep_mat b r
    have h2 : (intsD b n).depth = 1 := by
      cases b
      · show PyData.depthAll (n.map PyData.int) + 1 = 1
        rw [dep_ints]
      · show PyData.depthAll (n.map PyData.int) + 1 = 1
        rw [dep_ints]
    omega
theorem shaped_mat (b : Bool) (rs : List (List Int)) : SeqAt.shaped (matD b rs) = true := by
  have h := dep_mat b rs
  unfold SeqAt.shaped matD
  cases b
  · show (PyData.canLayAll0 (rs.map (intsD false)) && decide (PyData.depthAll (rs.map (intsD false)) + 1 ≤ 64)) = true
    rw [lay_mat, decide_eq_true (by omega)]
    rfl
  · show (PyData.canLayAll0 (rs.map (intsD true)) && decide (PyData.depthAll (rs.map (intsD true)) + 1 ≤ 64)) = true
    rw [lay_mat, decide_eq_true (by omega)]
    rfl
theorem same2 {K : PySem.W.Frag} {H : Hp} {x y : V} {d : PyData} {R : PyData → PyData → Prop} (hx : Dp K H x d) (hy : Dp K H y d) (hs : SeqAt.shaped d = true) (q : R d d) : ∃ d' e', Dp K H x d' ∧ Dp K H y e' ∧ SeqAt.shaped d' = true ∧ SeqAt.shaped e' = true ∧ R d' e' := ⟨d, d, hx, hy, hs, hs, q⟩
theorem eqv_same {d : PyData} (hs : SeqAt.shaped d = true) : PyData.eqv d d = true := SeqAt.eqv_refl d (SeqAt.canLay_of_shaped hs)
/-! ### a target that is one of two kinds -/
def gOr (t u : TG) : TG := fun v σ H Q => t v σ H Q ∨ u v σ H Q
theorem pg_or {X : Cx} {e : Expr} {t u : TG} (h1 : PG X e t) (h2 : PG X e u) : PG X e (gOr t u) := by
  refine ⟨fun pins s σ H v uu Q I r hw => ?_⟩
  rcases hw with h | h
  · exact h1.run pins s σ H v uu Q I r h
  · exact h2.run pins s σ H v uu Q I r h
/-! ### isinstance of built-in kinds -/
theorem isi {K : PySem.W.Frag} {H : Hp} {x : V} {T c : String} {b : Bool} {R : Bool → Prop} (t : TyOf K H x (.type T)) (h : kitB T c = some b) (q : R b) : ∃ (x' c' : V) (t' u' : Value) (b' : Bool), [x, .ty c] = [x', c'] ∧ ClsV c' u' ∧ TyX K H x' t' ∧ PySem.W.kitOne K t' u' = some b' ∧ R b' :=
  ⟨x, .ty c, .type T, .type c, b, rfl, .ty c, .base t, kit_ty h, q⟩
/-! ### rules by the written part itself (within a comprehension's block) -/
section
variable {X : Cx} {K : PySem.W.Frag}
theorem ix_list_K (h : X.K = K) : IxR X (rIxL K) := by subst h; exact ix_list
theorem ix_tup_K (h : X.K = K) : IxR X (rIxT K) := by subst h; exact ix_tup
theorem ix_seq_K (h : X.K = K) : IxR X (rIx K) := by subst h; exact ix_seq
theorem call_len_seq_K (h : X.K = K) : CallR X (.builtin "len") (fun xs H Q => ∃ p ys, xs = [.ref p] ∧ (SqL K H p ys ∨ SqT K H p ys) ∧ Q (.int ys.length) H) := by subst h; exact call_len_seq
theorem call_list_of_K (h : X.K = K) : CallR X (.type "list") (fun xs H Q => ∃ p ys, xs = [.ref p] ∧ (SqL K H p ys ∨ SqT K H p ys) ∧ ∀ l, H l = none → Q (.ref l) (upd H l (.lst ys))) := by subst h; exact call_list_of
theorem call_tuple_of_K (h : X.K = K) : CallR X (.type "tuple") (fun xs H Q => ∃ p ys, xs = [.ref p] ∧ ((SqL K H p ys ∧ ∀ l, H l = none → Q (.ref l) (upd H l (.tup ys))) ∨ (SqT K H p ys ∧ Q (.ref p) H))) := by subst h; exact call_tuple_of
theorem op_in_seq_K (h : X.K = K) : OpR X (compareOp .In) (rIn K false) := by subst h; exact op_in_seq
theorem op_notIn_seq_K (h : X.K = K) : OpR X (compareOp .NotIn) (rIn K true) := by subst h; exact op_notIn_seq
theorem op_eqD_K (h : X.K = K) (hu : X.A.units + 64 < cLine) : OpR X (compareOp .Eq) (rEqD K) := by subst h; exact op_eqD hu
theorem op_neD_K (h : X.K = K) (hu : X.A.units + 64 < cLine) : OpR X (compareOp .NotEq) (rNeD K) := by subst h; exact op_neD hu
theorem call_isi_K (h : X.K = K) : CallR X (.builtin "isinstance") (rIsi K) := by subst h; exact call_isi
end
/-! ### great products -/
theorem big_mul {i j : Int} (hi : i.natAbs < 2 ^ 4000) (hj : j.natAbs < 2 ^ 4000) : CMulX i j := mulx_ok hi hj (by decide)
/-! ### sums of multiples of rows -/
def combN (rs : List (List Int)) (fs : List Int) (w : Nat) : Nat → List Int
  | 0 => List.replicate w 0
  | n + 1 => List.zipWith (fun a b => a + fs.getD n 0 * b) (combN rs fs w n) (rs.getD n [])
theorem combN_len {rs : List (List Int)} {fs : List Int} {w : Nat} (h : ∀ r ∈ rs, r.length = w) : ∀ n, n ≤ rs.length → (combN rs fs w n).length = w
  | 0, _ => List.length_replicate
  | n + 1, hn => by
    rw [combN, List.length_zipWith, combN_len h n (by omega), List.getD_eq_getElem?_getD, List.getElem?_eq_getElem (by omega), Option.getD_some, h _ (List.getElem_mem _)]
    omega
theorem combN_at {rs : List (List Int)} {fs : List Int} {w i c : Nat} (hi : i < rs.length) (hf : i < fs.length) (c1 : c < (combN rs fs w i).length) (c2 : c < rs[i].length) : (combN rs fs w (i + 1))[c]? = some ((combN rs fs w i)[c] + fs[i] * rs[i][c]) := by
  have g1 : fs.getD i 0 = fs[i] := by rw [List.getD_eq_getElem?_getD, List.getElem?_eq_getElem hf]; rfl
  have g2 : rs.getD i [] = rs[i] := by rw [List.getD_eq_getElem?_getD, List.getElem?_eq_getElem hi]; rfl
  rw [combN, List.getElem?_zipWith, g1, g2, List.getElem?_eq_getElem c1, List.getElem?_eq_getElem c2]
end Z
set_option Elab.async false
set_option linter.all false
set_option maxRecDepth 100000
set_option maxHeartbeats 4000000
namespace Z
open PySem PySem.Spec PyProof.Rows L2
open C8 (pss_cut tCut)
local macro_rules | `(tactic| walk_at "num") => `(tactic| first | omega | decide | exact ⟨by omega, by omega⟩ | exact ⟨by omega, by omega, by omega⟩ | exact ⟨by decide, by decide, by decide⟩ | exact Or.inl ⟨by omega, by omega⟩ | exact Or.inr ⟨by omega, by omega⟩)
local macro_rules | `(tactic| walk_at "go") => `(tactic| repeat (first | refine ⟨_, rfl, ?_⟩ | refine ⟨_, _, rfl, rfl, ?_⟩ | refine ⟨_, _, rfl, rfl, (by walk_at "num"), ?_⟩ | refine Or.inl ⟨_, rfl, ?_⟩ | refine ⟨rfl, ?_⟩ | refine And.intro (by walk_at "num") ?_))
def topS (i : Nat) : Stmt := PySem.Challenge.pw_signedpacts_k02_machine_operators.main.body.getD i (.Pass ⟨0, 0, 0, 0⟩)
abbrev s_cell : Stmt := topS 25
abbrev N_cell : List Str := ["_law_script", "_law_k"]
abbrev P_cell : List Str := ["_law_script", "_law_k"]
theorem sc_cell : FnScope N_cell P_cell (defScope s_cell) := ⟨rfl, rfl, rfl, by decide +kernel, rfl, by decide +kernel, by decide +kernel⟩
abbrev s_draws : Stmt := topS 26
abbrev N_draws : List Str := ["_law_cell_here", "_law_many", "_law_rest", "_law_large", "_law_seed", "_law_found", "_law_k"]
abbrev P_draws : List Str := ["_law_cell_here", "_law_many"]
theorem sc_draws : FnScope N_draws P_draws (defScope s_draws) := ⟨rfl, rfl, rfl, by decide +kernel, rfl, by decide +kernel, by decide +kernel⟩
abbrev s_take : Stmt := topS 27
abbrev N_take : List Str := ["_law_draws_here", "_law_place"]
abbrev P_take : List Str := ["_law_draws_here", "_law_place"]
theorem sc_take : FnScope N_take P_take (defScope s_take) := ⟨rfl, rfl, rfl, by decide +kernel, rfl, by decide +kernel, by decide +kernel⟩
abbrev FnP (K : PySem.W.Frag) (x : Str) (st : Stmt) (f : Addr) (fd : FuncData) : Prop := FunD K x x (defArgs st) (defBody st) (defScope st) [] [] f fd
section
variable {P : Program} {w : World} {K : PySem.W.Frag} {mg : Str → Option Value} {base : Heap} {f : Addr} {fd : FuncData}
theorem cal_of {k : Nat} {x : Str} {st : Stmt} {ps : List Str} {sp : Sp} (F : FnP K x st f fd) (g : mg x = some (.ref f)) (b : Binds K fd ps []) (h : FnOk P w K mg base CX0 k f fd ps sp) : Cal P w K mg base k x sp := ⟨f, fd, ps, h, g, F.kp, b⟩
/-! ### _law_cell -/
def spCell (K : PySem.W.Frag) : Sp := fun vs H Q _ => ∃ (a : Addr) (ns : List Int) (k : Nat), vs = [.ref a, .int (k : Int)] ∧ SqL K H a (ns.map V.int) ∧ Q (.int (ns.getD k 0)) H
theorem ok_cell (F : FnP K "_law_cell" s_cell f fd) (m_len : mg "len" = none) (m_int : mg "int" = none) : FnOk P w K mg base CX0 1 f fd P_cell (spCell K) := by
  refine F.ok sc_cell (fun vs H Q E h => ?_) (fun cdv A outer s H vs Q E hr h => ?_)
  · obtain ⟨a, ns, k, rfl, _⟩ := h
    rfl
  · obtain ⟨a, ns, k, rfl, hS, q⟩ := h
    refine ⟨_, PSs.nox (pss_cons (ps_if (pt_cmpR op_lt (pv 1) (pe_callB call_len_seq (by rfl) m_len PySem.boot_len (pa_cons (pv 0) pa_nil)) (nomark _)) (pss_one (ps_ret (pe_callTy call_int1 (by rfl) m_int (by decide +kernel) (pa_cons (pe_ix ix_list (pv 0) (pv 1) (fun _ _ => rfl)) pa_nil)))) pss_nil)
      (pss_one (ps_ret pe_int))), ?_⟩
    walk_at "go"
    refine ⟨a, _, rfl, .inl hS, ?_⟩
    walk_at "go"
    rw [List.length_map]
    refine ite2 (fun e => ?_) (fun e => ?_)
    · have hk : k < ns.length := by have := of_decide_eq_true e; omega
      walk_at "go"
      refine ⟨a, _, _, _, rfl, rfl, hS, at_map (List.getElem?_eq_getElem hk), ?_⟩
      walk_at "go"
      rw [List.getD_eq_getElem?_getD, List.getElem?_eq_getElem hk] at q
      exact q
    · have hk : ¬ k < ns.length := fun z => e (decide_eq_true (by omega))
      rw [List.getD_eq_getElem?_getD, List.getElem?_eq_none (by omega)] at q
      exact q
/-! ### _law_draws -/
def Dr (n : Nat) (ds : List Int) : Prop := ds.length = n ∧ ∀ d ∈ ds, 0 ≤ d ∧ d < 1000000
def spDraws : Sp := fun vs H Q _ => ∃ (c : Int) (n : Nat), vs = [.int c, .int (n : Int)] ∧ n ≤ 100000 ∧ ∀ p ds, H p = none → Dr n ds → Q (.ref p) (upd H p (.lst (ds.map V.int)))
theorem ok_draws (F : FnP K "_law_draws" s_draws f fd) (m_int : mg "int" = none) (m_abs : mg "abs" = none) (m_range : mg "range" = none) : FnOk P w K mg base CX0 1 f fd P_draws spDraws := by
  refine F.ok sc_draws (fun vs H Q E h => ?_) (fun cdv A outer s H vs Q E hr h => ?_)
  · obtain ⟨c, n, rfl, _⟩ := h
    rfl
  · obtain ⟨c, n, rfl, hn, q⟩ := h
    refine ⟨_, PSs.nox (pss_cons (ps_set (i := 2) sc_draws.nd rfl (by first | exact .inl rfl | exact .inr rfl) (pe_callB call_abs (by rfl) m_abs (by decide +kernel) (pa_cons (pe_callTy call_int1 (by rfl) m_int (by decide +kernel) (pa_cons (pv 0) pa_nil)) pa_nil)))
      (pss_cons (ps_set (i := 3) sc_draws.nd rfl (by first | exact .inl rfl | exact .inr rfl) (pe_cmpR op_ge (pv 2) (pe_op op_pow pe_int pe_int) (nomark _)))
      (pss_cons (ps_set (i := 4) sc_draws.nd rfl (by first | exact .inl rfl | exact .inr rfl) (pe_op op_mod (pe_callTy call_int1 (by rfl) m_int (by decide +kernel) (pa_cons (pv 2) pa_nil)) pe_int))
      (pss_cons (ps_set (i := 5) sc_draws.nd rfl (by first | exact .inl rfl | exact .inr rfl) (pe_lst pa_nil))
      (pss_cons (ps_for PassesOwn.never rfl (pi_range1 (by rfl) m_range (pa_cons (pv 1) pa_nil)) (pg_name (i := 6) sc_draws.nd rfl (by first | exact .inl rfl | exact .inr rfl))
        (pss_cons (ps_set (i := 4) sc_draws.nd rfl (by first | exact .inl rfl | exact .inr rfl) (pe_op op_mod (pe_callTy call_int1 (by rfl) m_int (by decide +kernel) (pa_cons (pe_op op_add (pe_op op_add (pe_op op_mul (pv 4) pe_int) (pe_op op_mul pe_int (pv 6))) pe_int) pa_nil)) pe_int))
      (pss_one (ps_if (PW.pt (pw_and (pt_val (pv 3)) (pw_and1 (pt_cmpR op_gt (pv 2) pe_int (nomark _))))) (pss_cons (ps_expr (pe_bm PySem.F.plainAttrs_list PySem.F.slot_list_append PySem.F.type_list_append mt_append (pv 5) (pa_cons (pe_op op_mod (pe_callTy call_int1 (by rfl) m_int (by decide +kernel) (pa_cons (pv 2) pa_nil)) pe_int) pa_nil)))
      (pss_one (ps_set (i := 2) sc_draws.nd rfl (by first | exact .inl rfl | exact .inr rfl) (pe_op op_fdiv (pv 2) pe_int)))) (pss_one (ps_expr (pe_bm PySem.F.plainAttrs_list PySem.F.slot_list_append PySem.F.type_list_append mt_append (pv 5) (pa_cons (pe_op op_mod (pe_callTy call_int1 (by rfl) m_int (by decide +kernel) (pa_cons (pe_op op_fdiv (pe_op op_mod (pe_callTy call_int1 (by rfl) m_int (by decide +kernel) (pa_cons (pe_op op_add (pe_op op_mul (pv 4) pe_int) (pe_op op_mul pe_int (pv 6))) pa_nil)) pe_int) pe_int) pa_nil)) pe_int) pa_nil))))))))
      (pss_one (ps_ret (pv 5)))))))), ?_⟩
    walk_at "go"
    intro p np
    walk_at "go"
    refine for_gen (n := n) (fun i σ H1 => ∃ (r : Int) (z : Int) (ds : List Int) (v : Option V), 0 ≤ r ∧ 0 ≤ z ∧ z < 2147483647 ∧ Dr i ds ∧ H1 = upd H p (.lst (ds.map V.int)) ∧
      σ = [some (.int c), some (.int (n : Int)), some (.int r), some (.bl (decide ((10 : Int) ^ 18 ≤ (if c < 0 then -c else c)))), some (.int z), some (.ref p), v]) ?_ ?_ ?_ ?_ ?_
    · refine ⟨_, _, [], none, ?_, ?_, ?_, ⟨rfl, fun d hd => nomatch hd⟩, rfl, rfl⟩
      · split <;> omega
      · omega
      · omega
    · intro i σ H1 hi _
      show i < (n : Int).toNat
      omega
    · intro σ H1 _
      show (n : Int).toNat ≤ n
      omega
    · rintro i σ H1 x H' hi ⟨r, z, ds, v, hr0, hz0, hz1, hd, rfl, rfl⟩ ⟨rfl, rfl⟩
      have hlen : (ds.map V.int).length < sizeLine := by
        rw [List.length_map, hd.1]
        exact Nat.lt_of_lt_of_le hi (Nat.le_trans hn (by decide))
      have fin : ∀ (r' z' d : Int) (u : Option V), 0 ≤ r' → 0 ≤ z' → z' < 2147483647 → 0 ≤ d → d < 1000000 → ∃ (r : Int) (z : Int) (es : List Int) (v : Option V), 0 ≤ r ∧ 0 ≤ z ∧ z < 2147483647 ∧ Dr (i + 1) es ∧ upd (upd H p (.lst (ds.map V.int))) p (.lst (ds.map V.int ++ [.int d])) = upd H p (.lst (es.map V.int)) ∧
          [some (.int c), some (.int (n : Int)), some (.int r'), some (.bl (decide ((10 : Int) ^ 18 ≤ (if c < 0 then -c else c)))), some (.int z'), some (.ref p), u] = [some (.int c), some (.int (n : Int)), some (.int r), some (.bl (decide ((10 : Int) ^ 18 ≤ (if c < 0 then -c else c)))), some (.int z), some (.ref p), v] := by
        intro r' z' d u a1 a2 a3 a4 a5
        refine ⟨r', z', ds ++ [d], u, a1, a2, a3, ⟨by rw [List.length_append, hd.1]; rfl, fun x hx => ?_⟩, ?_, rfl⟩
        · rcases List.mem_append.mp hx with h | h
          · exact hd.2 x h
          · rw [List.mem_singleton.mp h]
            exact ⟨a4, a5⟩
        · rw [upd_upd, List.map_append]
          rfl
      walk_at "go"
      refine ite2 (fun e => ?_) (fun e => ?_)
      · walk_at "go"
        refine ite2 (fun e2 => ?_) (fun e2 => ?_)
        · walk_at "go"
          refine ⟨.inl ⟨rfl, _, .inl (.inl upd_same)⟩, ?_⟩
          walk_at "go"
          refine ⟨_, _, _, rfl, rfl, upd_same, hlen, ?_⟩
          walk_at "go"
          exact fin _ _ _ _ (by omega) (by omega) (by omega) (by omega) (by omega)
        · walk_at "go"
          refine ⟨.inl ⟨rfl, _, .inl (.inl upd_same)⟩, ?_⟩
          walk_at "go"
          refine ⟨_, _, _, rfl, rfl, upd_same, hlen, ?_⟩
          walk_at "go"
          exact fin _ _ _ _ (by omega) (by omega) (by omega) (by omega) (by omega)
      · walk_at "go"
        refine ⟨.inl ⟨rfl, _, .inl (.inl upd_same)⟩, ?_⟩
        walk_at "go"
        refine ⟨_, _, _, rfl, rfl, upd_same, hlen, ?_⟩
        walk_at "go"
        exact fin _ _ _ _ (by omega) (by omega) (by omega) (by omega) (by omega)
    · rintro σ H1 ⟨r, z, ds, v, hr0, hz0, hz1, hd, rfl, rfl⟩
      walk_at "go"
      exact q p ds np hd
/-! ### _law_take -/
def spTake (K : PySem.W.Frag) : Sp := fun vs H Q _ => ∃ (a p : Addr) (n m : Nat) (ds : List Int), vs = [.ref a, .ref p] ∧ SqL K H a (ds.map V.int) ∧ Dr n ds ∧ H p = some (.lst [.int (m : Int)]) ∧ a ≠ p ∧ ∀ r : Int, 0 ≤ r → r < 1000000 → Q (.int r) (upd H p (.lst [.int ((m + 1 : Nat) : Int)]))
theorem ok_take (F : FnP K "_law_take" s_take f fd) (m_len : mg "len" = none) : FnOk P w K mg base CX0 1 f fd P_take (spTake K) := by
  refine F.ok sc_take (fun vs H Q E h => ?_) (fun cdv A outer s H vs Q E hr h => ?_)
  · obtain ⟨a, p, n, m, ds, rfl, _⟩ := h
    rfl
  · obtain ⟨a, p, n, m, ds, rfl, hS, hd, hp, ne, q⟩ := h
    refine ⟨_, PSs.nox (pss_cons (ps_asg (pe_op op_add (pe_ix ix_list (pv 1) pe_int (fun _ _ => rfl)) pe_int) (pg_sub (pv 1) pe_int set_list))
      (pss_cons (ps_if (pt_cmpR op_gt (pe_ix ix_list (pv 1) pe_int (fun _ _ => rfl)) (pe_callB call_len_seq (by rfl) m_len PySem.boot_len (pa_cons (pv 0) pa_nil)) (nomark _)) (pss_one (ps_ret pe_int)) pss_nil)
      (pss_one (ps_ret (pe_ix ix_list (pv 0) (pe_op op_sub (pe_ix ix_list (pv 1) pe_int (fun _ _ => rfl)) pe_int) (fun _ _ => rfl)))))), ?_⟩
    have sb : SB p H (upd H p (.lst [.int ((m + 1 : Nat) : Int)])) := SB.upd (Z.Same.sb (Same.refl H))
    have hS' := sb.sq ne hS
    walk_at "go"
    refine ⟨p, _, 0, _, rfl, rfl, SqL.of hp, rfl, ?_⟩
    walk_at "go"
    refine ⟨p, _, 0, 0, rfl, rfl, hp, rfl, ?_⟩
    show tSeq _ _ _ _ (upd H p (.lst [.int ((m : Int) + 1)]))
    rw [show ((m : Int) + 1) = ((m + 1 : Nat) : Int) by omega]
    walk_at "go"
    refine ⟨p, _, 0, _, rfl, rfl, SqL.of upd_same, rfl, ?_⟩
    walk_at "go"
    refine ⟨a, _, rfl, .inl hS', ?_⟩
    walk_at "go"
    rw [List.length_map]
    refine ite2 (fun e => ?_) (fun e => ?_)
    · exact q 0 (by omega) (by omega)
    · have hk : m < ds.length := by
        apply Decidable.byContradiction
        intro z
        exact e (decide_eq_true (by omega))
      walk_at "go"
      refine ⟨p, _, 0, _, rfl, rfl, SqL.of upd_same, rfl, ?_⟩
      walk_at "go"
      refine ⟨a, _, _, _, rfl, rfl, hS', at_of (by omega) (show (ds.map V.int)[m]? = some (.int ds[m]) by rw [List.getElem?_map, List.getElem?_eq_getElem hk]; rfl), ?_⟩
      have h1 := hd.2 ds[m] (List.getElem_mem hk)
      exact q _ h1.1 h1.2
end
end Z
set_option Elab.async false
set_option linter.all false
set_option maxRecDepth 100000
set_option maxHeartbeats 4000000
namespace Z
open PySem PySem.Spec PyProof.Rows L2
/-! ### own classes: making, methods, calls of instances, == -/
structure Mak (P : Program) (w : World) (K : PySem.W.Frag) (mg : Str → Option Value) (base : Heap) (k : Nat) (x : Str) (sp : Sp) : Prop where
  ex : ∃ (C f : Addr) (fd : FuncData) (ps : List Str) (si : Sp), Mk K C f ∧ FnOk P w K mg base CX0 k f fd ps si ∧ mg x = some (.ref C) ∧ Binds K fd ps [] ∧
    ∀ vs H Q E, sp vs H Q E → ∀ n dx, H n = none → H dx = none → dx ≠ n → si (.ref n :: vs) (upd (upd H dx (.own n)) n (.ins C dx [])) (fun v H2 => v = .non ∧ Q (.ref n) H2) E
structure Met (P : Program) (w : World) (K : PySem.W.Frag) (mg : Str → Option Value) (base : Heap) (k : Nat) (C : Addr) (m : Str) (sp : Sp) : Prop where
  ex : ∃ (f : Addr) (fd : FuncData) (ps : List Str), Cls K C ∧ Meth K C m f ∧ FnOk P w K mg base CX0 k f fd ps sp ∧ Binds K fd ps []
section
variable {X : Cx} {k j : Nat} {x m : Str} {sp : Sp} {C : Addr} {p pos apos : Pos} {e o : Expr} {es : List Expr} {t : TA} {ta : TE}
theorem pe_mk (c : Mak X.prog X.w X.K X.mg X.base k x sp) (hr : Room j X.A) (hk : k + 1 ≤ j) (hg : Gl X x) (ha : PA X (e :: es) t)
    (hdb : (x == ("__debug__" : Str)) = false := by decide) (he : starEach (e :: es) X.env = (false, eval e X.env) :: starEach es X.env := by rfl) (hpl : (backTo pos (starEach es X.env)).any (·.1) = false := by rfl) : PE X (.Call (.Name x p) (e :: es) [] pos) (tCall sp [] E0 t) := by
  obtain ⟨C, f, fd, ps, si, M, F, hm, b, imp⟩ := c.ex
  constructor
  intro pins s σ H Q I h
  refine wpAny_Call_Name_kw (ld_glob I hg hm ?_ hdb)
  refine PySem.W.callWith_K (h₀ := X.base) I.ok.mod.kin M.kp (thn (ha.run pos pins s σ H _ I h) fun us s1 ⟨vs, H1, I1, r, q⟩ => ⟨I1.kIn, ?_⟩) he hpl
  have q2 : sp vs H1 Q E0 := by
    have z : sp (vs ++ []) H1 Q E0 := q
    rw [List.append_nil] at z
    exact z
  refine run_make (dvs := []) M F (hr.mono hk) b .nil pass0 I1 r (fun n dx n1 n2 n3 => ?_)
  rw [List.append_nil]
  exact imp _ _ _ _ q2 n dx n1 n2 n3
theorem pe_me {pl : Sem Bool} (c : Met X.prog X.w X.K X.mg X.base k C m sp) (he : PE X o ta) (hr : Room j X.A) (hk : k ≤ j) (ha : PA X (e :: es) t)
    (hst : starEach (e :: es) X.env = (false, eval e X.env) :: starEach es X.env := by rfl) (hpl : (backTo pos (starEach es X.env)).any (·.1) = false := by rfl)
    (ht : eval (.Call (.Attribute o m apos) (e :: es) [] pos) X.env = (do
      let ov ← eval o X.env
      standAt apos.atName
      let (f, first) ← holding [ov] (getMethod ov m pl)
      callWith pos f first (backTo pos (starEach (e :: es) X.env)) (backToKw pos (keywordEach [] X.env))) := by rfl) : PE X (.Call (.Attribute o m apos) (e :: es) [] pos) (tMeth C m sp [] E0 ta t) := by
  obtain ⟨f, fd, ps, cl, me, F, b⟩ := c.ex
  exact pe_meth he cl me F (hr.mono hk) b .nil pass0 ha hst hpl ht
theorem pe_me0 {pl : Sem Bool} (c : Met X.prog X.w X.K X.mg X.base k C m sp) (he : PE X o ta) (hr : Room j X.A) (hk : k ≤ j)
    (ht : eval (.Call (.Attribute o m apos) [] [] pos) X.env = (do
      let ov ← eval o X.env
      standAt apos.atName
      let (f, first) ← holding [ov] (getMethod ov m pl)
      callWith pos f first (backTo pos (starEach [] X.env)) (backToKw pos (keywordEach [] X.env))) := by rfl) : PE X (.Call (.Attribute o m apos) [] [] pos) (tMeth C m sp [] E0 ta tNil) := by
  obtain ⟨f, fd, ps, cl, me, F, b⟩ := c.ex
  exact pe_meth0 he cl me F (hr.mono hk) b .nil pass0 ht
end
/-! ### f(e, ..), f an instance of C -/
structure Cob (P : Program) (w : World) (K : PySem.W.Frag) (mg : Str → Option Value) (base : Heap) (k : Nat) (C : Addr) (sp : Sp) : Prop where
  ex : ∃ g : Addr, StX.CallO K C g ∧ FnR P w K mg base CX0 k g sp
def tCo (C : Addr) (sp : Sp) (tf : TE) (t : TA) : TE := fun σ H Q => tf σ H fun y H1 => ∃ a, y = V.ref a ∧ t σ H1 fun vs H2 => (∃ dx fs, H2 a = some (.ins C dx fs)) ∧ sp (V.ref a :: vs) H2 Q E0
section
variable {X : Cx} {k j : Nat} {sp : Sp} {C : Addr} {pos : Pos} {e fe : Expr} {es : List Expr} {t : TA} {tf : TE}
theorem pe_co (c : Cob X.prog X.w X.K X.mg X.base k C sp) (hf : PE X fe tf) (hr : Room j X.A) (hk : k ≤ j) (ha : PA X (e :: es) t)
    (ht : eval (.Call fe (e :: es) [] pos) X.env = (do callWith pos (← eval fe X.env) [] (backTo pos (starEach (e :: es) X.env)) (backToKw pos (keywordEach [] X.env))) := by rfl)
    (he : starEach (e :: es) X.env = (false, eval e X.env) :: starEach es X.env := by rfl) (hpl : (backTo pos (starEach es X.env)).any (·.1) = false := by rfl) : PE X (.Call fe (e :: es) [] pos) (tCo C sp tf t) := by
  obtain ⟨g, co, F⟩ := c.ex
  constructor
  intro pins s σ H Q I h
  refine Call_ (thn (hf.run pins s σ H _ I h) fun u s1 ⟨y, H1, I1, ry, a, ey, q⟩ => ?_) ht
  subst ey
  obtain rfl : u = Value.ref a := ry
  refine StX.callO_with (thn (ha.run pos pins s1 σ H1 _ I1 q) fun us s2 ⟨vs, H2, I2, r, hi, q2⟩ => ?_) he hpl
  have hi2 : StX.InsC X H2 a C := .inr hi
  obtain ⟨ox, od, J, hd⟩ := StX.insC_at I2 hi2
  exact ⟨⟨C, ox, od, J, hd⟩, StX.run_callO co F (hr.mono hk) pass0 I2 hi2 r q2⟩
end
/-! ### a == b by the class's own __eq__ -/
structure Eqo (P : Program) (w : World) (K : PySem.W.Frag) (mg : Str → Option Value) (base : Heap) (k : Nat) (C : Addr) (sp : Sp) : Prop where
  ex : ∃ (f : Addr) (fd : FuncData) (ps : List Str), FnOk P w K mg base CX0 k f fd ps sp ∧ PySem.W.findIn K (.ref C) "__eq__" = some (some (.ref f)) ∧ PySem.W.isFn K (.ref f) = true ∧ Binds K fd ps []
def rOwn (C : Addr) (sp : Sp) : R2 := fun x y H Q => ∃ a b dx dy fs gs, x = .ref a ∧ y = .ref b ∧ H a = some (.ins C dx fs) ∧ H b = some (.ins C dy gs) ∧ sp [.ref a, .ref b] H (fun v H' => ∃ r, v = .bl r ∧ Q v H') E0
theorem op_own {X : Cx} {k j : Nat} {C : Addr} {sp : Sp} (c : Eqo X.prog X.w X.K X.mg X.base k C sp) (hr : Room j X.A) (hk : k ≤ j) : OpR X (compareOp .Eq) (rOwn C sp) := by
  intro pins s σ H x y v u Q I rx ry hq
  obtain ⟨f, fd, ps, F, hs, hf, hb⟩ := c.ex
  obtain ⟨a, b, dx, dy, fs, gs, rfl, rfl, ha, hb', q⟩ := hq
  cases rx
  cases ry
  obtain ⟨mA, J, _⟩ := ins_get I.hok ha
  obtain ⟨mB, J', _⟩ := ins_get I.hok hb'
  obtain ⟨od, J, _⟩ := J.look
  obtain ⟨od', J', _⟩ := J'.look
  obtain ⟨m, hF⟩ := I.fr
  show wpAny (model X.prog X.w) X.A (richCompare .Eq (Value.ref a) (Value.ref b)) (EP X pins σ Q) X.xe s
  refine PySem.W.cmp_K (op := .Eq) (tb := .ref C) (hr.mono hk).units0 hF I.ok.mod.kin J J'.type (by simp [PySem.W.notFirst]) hs hf ?_
  have r2 : Vals [V.ref a, V.ref b] [Value.ref a, Value.ref b] := .cons rfl (.cons rfl .nil)
  refine thn (run_fn (dvs := []) F (hr.mono hk) hb .nil pass0 I r2 q) fun r s' z => ?_
  obtain ⟨v, H', I', rv, b', rfl, q'⟩ := z
  cases rv
  exact ⟨.bl b', H', I', rfl, q'⟩
end Z
set_option linter.all false
set_option maxRecDepth 100000
set_option maxHeartbeats 4000000
namespace Z
open PySem PySem.Spec PyProof.Rows L2
/-! ### dicts whose keys are tuples of ints, texts, None, bools and such tuples; the values are ints -/
mutual
inductive NkV (H : Hp) : NestedKey → V → Prop
  | none : NkV H .none .non
  | bl (b : Bool) : NkV H (.num (if b = true then 1 else 0)) (.bl b)
  | int (i : Int) : NkV H (.num i) (.int i)
  | str (x : Str) : NkV H (.text x) (.str x)
  | tup {a : Addr} {ks : List NestedKey} {vs : List V} : H a = some (.tup vs) → NkA H ks vs → NkV H (.tup ks) (.ref a)
inductive NkA (H : Hp) : List NestedKey → List V → Prop
  | nil : NkA H [] []
  | cons {k : NestedKey} {v : V} {ks : List NestedKey} {vs : List V} : NkV H k v → NkA H ks vs → NkA H (k :: ks) (v :: vs)
end
mutual
theorem NkV.mono {H H' : Hp} (s : Same H H') : ∀ {k : NestedKey} {v : V}, NkV H k v → NkV H' k v
  | _, _, .none => .none
  | _, _, .bl b => .bl b
  | _, _, .int i => .int i
  | _, _, .str x => .str x
  | _, _, .tup e t => .tup (s _ _ e) (NkA.mono s t)
theorem NkA.mono {H H' : Hp} (s : Same H H') : ∀ {ks : List NestedKey} {vs : List V}, NkA H ks vs → NkA H' ks vs
  | _, _, .nil => .nil
  | _, _, .cons x t => .cons (NkV.mono s x) (NkA.mono s t)
end
mutual
theorem NkV.keepT {H H' : Hp} (s : ∀ c vs, H c = some (.tup vs) → H' c = some (.tup vs)) : ∀ {k : NestedKey} {v : V}, NkV H k v → NkV H' k v
  | _, _, .none => .none
  | _, _, .bl b => .bl b
  | _, _, .int i => .int i
  | _, _, .str x => .str x
  | _, _, .tup e t => .tup (s _ _ e) (NkA.keepT s t)
theorem NkA.keepT {H H' : Hp} (s : ∀ c vs, H c = some (.tup vs) → H' c = some (.tup vs)) : ∀ {ks : List NestedKey} {vs : List V}, NkA H ks vs → NkA H' ks vs
  | _, _, .nil => .nil
  | _, _, .cons x t => .cons (NkV.keepT s x) (NkA.keepT s t)
end
mutual
theorem NkV.is {P : Program} {w : World} {H : Hp} {h : Heap} (ok : HOk P w H h) : ∀ {k : NestedKey} {y : V} {u : Value}, NkV H k y → RelV y u → NestedIs h k u
  | _, _, u, .none, r => by
    cases (show u = Value.none from r)
    exact .none
  | _, _, u, .bl b, r => by
    cases (show u = Value.bool b from r)
    exact .bool rfl
  | _, _, u, .int i, r => by
    obtain ⟨t, rfl⟩ := (show ∃ t, u = Value.int i t from r)
    exact .int i t
  | _, _, u, .str x, r => by
    obtain ⟨t, rfl⟩ := (show ∃ t, u = Value.str x t from r)
    exact .text x t
  | _, _, u, @NkV.tup _ a ks vs e t, r => by
    cases (show u = Value.ref a from r)
    obtain ⟨_, its, rv, o, h1, h2, n, h3⟩ := (show ObjOk P w H h a (.tup vs) from ok a _ e)
    exact .tup h1 h2 h3 (by simpa using NkA.is ok t rv)
theorem NkA.is {P : Program} {w : World} {H : Hp} {h : Heap} (ok : HOk P w H h) : ∀ {ks : List NestedKey} {vs : List V} {us : List Value}, NkA H ks vs → Vals vs us → NestedAll h ks us
  | _, _, _, .nil, .nil => .nil
  | _, _, _, .cons x t, .cons r rs => .cons (NkV.is ok x r) (NkA.is ok t rs)
end
/-- the dict's own object -/
def DNo (P : Program) (w : World) (a : Addr) (kvs : List (NestedKey × Addr × Int)) : HO := .ext fun h => kvs.length ≤ sizeLine ∧ (a == sysModules) = false ∧ ∃ xs : List (NestedKey × Addr × Value),
  Paired (fun (p : NestedKey × Addr × Int) (q : NestedKey × Addr × Value) => p.1 = q.1 ∧ p.2.1 = q.2.1 ∧ ∃ t, q.2.2 = .int p.2.2 t) kvs xs ∧
  ∃ o es ep, h.get? a = some o ∧ o.ExactDict ∧ o.data = .dict es ep ∧ es.toList = xs.map (entryOfKey (nestedKind P w)) ∧ (xs.map (·.1)).Nodup
/-- a dict, its keys there -/
structure DN (P : Program) (w : World) (H : Hp) (a : Addr) (kvs : List (NestedKey × Addr × Int)) : Prop where
  at_ : H a = some (DNo P w a kvs)
  ks : ∀ x ∈ kvs, NkV H x.1 (.ref x.2.1) ∧ x.1.depth ≤ 8
theorem DN.mono {P : Program} {w : World} {H H' : Hp} {a : Addr} {kvs : List (NestedKey × Addr × Int)} (s : Same H H') (d : DN P w H a kvs) : DN P w H' a kvs := ⟨s _ _ d.at_, fun x m => ⟨(d.ks x m).1.mono s, (d.ks x m).2⟩⟩
abbrev Prn (p : NestedKey × Addr × Int) (q : NestedKey × Addr × Value) : Prop := p.1 = q.1 ∧ p.2.1 = q.2.1 ∧ ∃ t, q.2.2 = .int p.2.2 t
theorem dn_of {P : Program} {w : World} {H : Hp} {h : Heap} {a : Addr} {kvs : List (NestedKey × Addr × Int)} (ok : HOk P w H h) (d : DN P w H a kvs) : kvs.length ≤ sizeLine ∧ (a == sysModules) = false ∧ ∃ xs, Paired Prn kvs xs ∧ h.DictOfH (nestedKind P w) a xs := by
  obtain ⟨⟨z, y, xs, r, o, es, ep, h1, h2, h3, h4, h5⟩, _⟩ := (show ObjOk P w H h a (DNo P w a kvs) from ok a _ d.at_)
  refine ⟨z, y, xs, r, o, es, ep, h1, h2, h3, h4, ?_, h5⟩
  have all : ∀ {l : List (NestedKey × Addr × Int)} {m : List (NestedKey × Addr × Value)}, Paired Prn l m → (∀ x ∈ l, NkV H x.1 (.ref x.2.1) ∧ x.1.depth ≤ 8) → ∀ x ∈ m, (nestedKind P w).is h x.1 x.2.1 := by
    intro l m q
    induction q with
    | nil => intro _ x hx; exact nomatch hx
    | @cons p q ps qs hq t ih =>
      intro hk x hx
      rcases List.mem_cons.mp hx with e | hx
      · subst e
        obtain ⟨k1, k2⟩ := hk p List.mem_cons_self
        rw [← hq.1, ← hq.2.1]
        exact ⟨k1.is ok rfl, k2⟩
      · exact ih (fun y m => hk y (List.mem_cons_of_mem _ m)) x hx
  exact all r d.ks
theorem dno_ok {P : Program} {w : World} {H : Hp} {h : Heap} {a : Addr} {kvs : List (NestedKey × Addr × Int)} {xs : List (NestedKey × Addr × Value)} (z : kvs.length ≤ sizeLine) (y : (a == sysModules) = false) (r : Paired Prn kvs xs) (dd : h.DictOfH (nestedKind P w) a xs) : ObjOk P w H h a (DNo P w a kvs) := by
  obtain ⟨o, es, ep, h1, h2, h3, h4, _, h5⟩ := dd
  exact ⟨⟨z, y, xs, r, o, es, ep, h1, h2, h3, h4, h5⟩, ⟨o, h1⟩, fun g1 g2 ⟨z, y, xs, r, o, es, ep, h1, h2⟩ k => ⟨z, y, xs, r, o, es, ep, k o h1, h2⟩⟩
def atN (kvs : List (NestedKey × Addr × Int)) (k : NestedKey) : Option Int := (kvs.find? fun x => decide (x.1 = k)).map (·.2.2)
theorem atN_rel {k : NestedKey} : ∀ {kvs : List (NestedKey × Addr × Int)} {xs : List (NestedKey × Addr × Value)}, Paired Prn kvs xs → (atN kvs k = none → atKey xs k = none) ∧ ∀ i, atN kvs k = some i → ∃ p t, atKey xs k = some p ∧ p.2 = Value.int i t := by
  intro kvs xs q
  induction q with
  | nil => exact ⟨fun _ => rfl, fun i h => by cases h⟩
  | @cons p q ps qs hq t ih =>
    obtain ⟨e1, e2, tk, e3⟩ := hq
    by_cases c : p.1 = k
    · refine ⟨fun h => ?_, fun i h => ?_⟩
      · unfold atN at h
        rw [List.find?_cons, decide_eq_true c] at h
        cases h
      · unfold atN at h
        rw [List.find?_cons, decide_eq_true c] at h
        refine ⟨q.2, tk, ?_, ?_⟩
        · unfold atKey
          rw [List.find?_cons, decide_eq_true (e1 ▸ c)]
          rfl
        · rw [e3]
          injection h with h
          rw [show p.2.2 = i from h]
    · have c2 : ¬ q.1 = k := fun z => c (e1.trans z)
      have h1 : atN (p :: ps) k = atN ps k := by
        unfold atN
        rw [List.find?_cons, decide_eq_false c]
      have h2 : atKey (q :: qs) k = atKey qs k := by
        unfold atKey
        rw [List.find?_cons, decide_eq_false c2]
      rw [h1, h2]
      exact ih
theorem paired_snoc {α β : Type} {F : α → β → Prop} {x : α} {y : β} : ∀ {l : List α} {m : List β}, Paired F l m → F x y → Paired F (l ++ [x]) (m ++ [y])
  | _, _, .nil, h => .cons h .nil
  | _, _, .cons r t, h => .cons r (paired_snoc t h)
section
variable {X : Cx} {pins : List (Addr × Obj)} {σ : L2.St} {H : Hp} {s : Shared} {a : Addr} {u r : Value} {A : Around} {E : Value → Shared → Prop}
theorem isDN_at {kvs : List (NestedKey × Addr × Int)} (I : Inv X pins σ H s) (d : DN X.prog X.w H a kvs) :
    s.TypeIs (.ref a) "dict" ∧ (∀ b, Value.ref a = .ref b → ∃ ob, s.heap.get? b = some ob ∧ ob.dict = none) ∧ (a == sysModules) = false := by
  obtain ⟨_, hd, xs, _, dd⟩ := dn_of I.hok d
  refine ⟨dd.typeIs, fun b q => ?_, hd⟩
  cases q
  obtain ⟨ob, _, _, h1, h2, _⟩ := dd
  exact ⟨ob, h1, h2.2.1⟩
theorem dn_setd {kvs : List (NestedKey × Addr × Int)} {k : NestedKey} {b : Addr} {i : Int} {Q : Value → Shared → Prop} (hu : A.units + 9 < cLine) (I : Inv X pins σ H s) (d : DN X.prog X.w H a kvs) (hk : NkV H k (.ref b)) (hd8 : k.depth ≤ 8) (rd : RelV (.int i) r) (hl : kvs.length < sizeLine)
    (h1 : ∀ v, atN kvs k = some v → ∀ (w' : Value) (s' : Shared), Inv X pins σ H s' → RelV (.int v) w' → Q w' s') (h2 : atN kvs k = none → ∀ (w' : Value) (s' : Shared), Inv X pins σ (upd H a (DNo X.prog X.w a (kvs ++ [(k, b, i)]))) s' → RelV (.int i) w' → Q w' s') :
    wpAny (model X.prog X.w) A (call (.builtin "dict.setdefault") [.ref a, .ref b, r]) Q E s := by
  obtain ⟨z, hd, xs, rel, dd⟩ := dn_of I.hok d
  have hz : xs.length ≤ sizeLine := by rw [← Paired.length rel]; exact z
  obtain ⟨q1, q2⟩ := atN_rel (k := k) rel
  refine call_setdefault_heap (hsz := hz) (show (nestedKind X.prog X.w).room A.in1 from ?_) ⟨hk.is I.hok rfl, hd8⟩ hd dd (fun p hp => ?_) fun hn h' dd' hs => ?_
  · show A.in1.units + 8 < cLine
    rw [Around.in1_units]
    omega
  · cases e : atN kvs k with
    | none => rw [q1 e] at hp; cases hp
    | some v =>
      obtain ⟨p2, t, e1, e2⟩ := q2 v e
      rw [e1] at hp
      cases hp
      rw [e2]
      exact h1 v e _ _ (I.tok _) ⟨t, rfl⟩
  · cases e : atN kvs k with
    | some v =>
      obtain ⟨p2, t, e1, e2⟩ := q2 v e
      rw [e1] at hn
      cases hn
    | none =>
      rw [storedH_new hn] at dd'
      have he : ∃ q, h'.get? a = some q := let ⟨q, _, _, hq, _⟩ := dd'; ⟨q, hq⟩
      obtain ⟨t, rfl⟩ := (show ∃ t, r = Value.int i t from rd)
      exact h2 e _ _ (d_write (t' := _) I (by rw [d.at_]; exact True.intro) hs he (dno_ok (by rw [List.length_append]; exact hl) hd (paired_snoc rel ⟨rfl, rfl, t, rfl⟩) dd')) ⟨t, rfl⟩
theorem dno_new {P : Program} {w : World} {H : Hp} (h : Heap) (hb : sysModules < h.objs.size) : ObjOk P w H (h.push { cls := .type "dict", data := .dict #[] }) h.objs.size (DNo P w h.objs.size []) :=
  dno_ok (xs := []) (Nat.zero_le _) (beq_eq_false_iff_ne.mpr (Ne.symm (Nat.ne_of_lt hb))) .nil (Heap.DictOfH.new h)
end
/-- {}, to be such a dict -/
def tDNewN (P : Program) (w : World) : TE := fun _ H Q => ∀ p, H p = none → Q (.ref p) (upd H p (DNo P w p []))
theorem pe_dnewN {X : Cx} {P : Program} {w : World} {pos : Pos} (hP : X.prog = P) (hw : X.w = w) : PE X (.Dict [] [] pos) (tDNewN P w) := by
  subst hP hw
  exact ⟨fun pins s σ H Q I h => wpAny_Dict_empty ⟨.ref s.heap.objs.size, _, I.laid (a := s.heap.objs.size) (o := DNo X.prog X.w s.heap.objs.size []) (t' := s.toks) (fun _ _ q => Heap.get?_push_of_some _ q) (Nat.le_refl _) (dno_new s.heap I.big), rfl, h _ (I.hok.fresh (Nat.le_refl _))⟩⟩
theorem dn_new {P : Program} {w : World} {H : Hp} {p : Addr} : DN P w (upd H p (DNo P w p [])) p [] := ⟨upd_same, fun x m => absurd m (by simp)⟩
/-- len(d) -/
def rLenN (P : Program) (w : World) : List V → Hp → VK → Prop := fun xs H Q => ∃ (p : Addr) (kvs : List (NestedKey × Addr × Int)), xs = [.ref p] ∧ DN P w H p kvs ∧ Q (.int ((kvs.length : Nat) : Int)) H
theorem call_lenN {X : Cx} {P : Program} {w : World} (hP : X.prog = P) (hw : X.w = w) : CallR X (.builtin "len") (rLenN P w) := by
  subst hP hw
  intro pins s σ H xs us Q I r h
  obtain ⟨p, kvs, rfl, hp, q⟩ := h
  obtain ⟨u, rfl, rx⟩ := vals1 r
  obtain rfl : u = .ref p := rx
  obtain ⟨z, hd, ys, rel, dd⟩ := dn_of I.hok hp
  have hl : kvs.length = ys.length := Paired.length rel
  refine call_len_dictH hd dd (by rw [← hl]; rw [sizeLine_eq] at z; omega) ?_
  rw [← hl]
  exact ⟨.int ((kvs.length : Nat) : Int), H, I.tok _, ⟨_, rfl⟩, q⟩
/-- d.setdefault(y, z) -/
def tDSetdN (P : Program) (w : World) (td ty tx : TE) : TE := fun σ H Q => td σ H fun x H1 => ∃ a, x = .ref a ∧ (∃ kvs, DN P w H1 a kvs) ∧ ty σ H1 fun y H2 => tx σ H2 fun z H3 => ∃ (kvs : List (NestedKey × Addr × Int)) (k : NestedKey) (b : Addr) (i : Int), DN P w H3 a kvs ∧ y = .ref b ∧ z = .int i ∧ NkV H3 k (.ref b) ∧ k.depth ≤ 8 ∧ kvs.length < sizeLine ∧
  (∀ v, atN kvs k = some v → Q (.int v) H3) ∧ (atN kvs k = none → Q (.int i) (upd H3 a (DNo P w a (kvs ++ [(k, b, i)]))))
theorem pe_dsetdN {X : Cx} {P : Program} {w : World} {o e f : Expr} {td ty tx : TE} {apos cpos : Pos} (hu : X.A.units + 9 < cLine) (hP : X.prog = P) (hw : X.w = w) (ho : PE X o td) (he : PE X e ty) (hf : PE X f tx) (m : M2 X o "setdefault" apos e f cpos) : PE X (.Call (.Attribute o "setdefault" apos) [e, f] [] cpos) (tDSetdN P w td ty tx) := by
  subst hP hw
  refine ⟨fun pins s σ H Q I h => ?_⟩
  refine wpAny_Call_method m.base m.few m.line PySem.F.plainAttrs_dict PySem.F.slot_dict_setdefault PySem.F.type_dict_setdefault (thn (ho.run pins s σ H _ I h) fun u s1 ⟨x, H1, I1, rx, a, ex, ⟨kvs0, d⟩, q1⟩ => ?_)
  subst ex
  obtain rfl : u = Value.ref a := rx
  obtain ⟨t1, t2, _⟩ := isDN_at I1 d
  refine ⟨t1, t2, ?_⟩
  rw [m.trees]
  refine Calls.callWith_builtin rfl (Calls.evalArgs_plain (Calls.spliced_cons (thn (he.run pins s1 σ H1 _ I1 q1) fun iv s2 ⟨y, H2, I2, ry, q2⟩ =>
    Calls.spliced_cons (thn (hf.run pins s2 σ H2 _ I2 q2) fun fv s3 ⟨z, H3, I3, rz, kvs, k, b, i, ea, ey, ez, hk, h8, hl, q3, q4⟩ => Calls.spliced_nil ?_))))
  subst ey ez
  obtain rfl : iv = Value.ref b := ry
  exact dn_setd hu I3 ea hk h8 rz hl (fun v hv w' s4 I4 rw' => ⟨.int v, _, I4, rw', q3 v hv⟩) fun hn w' s4 I4 rw' => ⟨.int i, _, I4, rw', q4 hn⟩
theorem DN.put {P : Program} {w : World} {H : Hp} {a b : Addr} {kvs : List (NestedKey × Addr × Int)} {k : NestedKey} {i : Int} (d : DN P w H a kvs) (hk : NkV H k (.ref b)) (h8 : k.depth ≤ 8) : DN P w (upd H a (DNo P w a (kvs ++ [(k, b, i)]))) a (kvs ++ [(k, b, i)]) := by
  have key : ∀ {u : NestedKey} {v : V}, NkV H u v → NkV (upd H a (DNo P w a (kvs ++ [(k, b, i)]))) u v := by
    have ht : ∀ c vs, H c = some (.tup vs) → (upd H a (DNo P w a (kvs ++ [(k, b, i)]))) c = some (.tup vs) := fun c vs h => by
      rw [upd_ne (fun q => by rw [q, d.at_] at h; cases h)]
      exact h
    intro u v h
    exact NkV.keepT ht h
  refine ⟨upd_same, fun x m => ?_⟩
  rcases List.mem_append.mp m with m | m
  · exact ⟨key (d.ks x m).1, (d.ks x m).2⟩
  · rw [List.mem_singleton.mp m]
    exact ⟨key hk, h8⟩
end Z
set_option linter.all false
set_option maxRecDepth 100000
set_option maxHeartbeats 4000000
namespace Z
open PySem PySem.Spec PyProof.Rows L2
section
variable {X : Cx} {pins : List (Addr × Obj)} {σ : L2.St} {H : Hp} {s : Shared} {a : Addr} {u r : Value} {A : Around} {E : Value → Shared → Prop}
theorem room_dn {A : Around} {P : Program} {w : World} (hu : A.units + 9 < cLine) : (nestedKind P w).room A.in1 := by
  show A.in1.units + 8 < cLine
  rw [Around.in1_units]
  omega
theorem dn_getItem {kvs : List (NestedKey × Addr × Int)} {k : NestedKey} {b : Addr} {i : Int} {Q : Value → Shared → Prop} (hu : A.units + 9 < cLine) (I : Inv X pins σ H s) (d : DN X.prog X.w H a kvs) (hk : NkV H k (.ref b)) (h8 : k.depth ≤ 8) (e : atN kvs k = some i)
    (h : ∀ (w' : Value) (s' : Shared), Inv X pins σ H s' → RelV (.int i) w' → Q w' s') : wpAny (model X.prog X.w) A (getItem (.ref a) (.ref b)) Q E s := by
  obtain ⟨z, hd, xs, rel, dd⟩ := dn_of I.hok d
  obtain ⟨p, t, e1, e2⟩ := (atN_rel (k := k) rel).2 i e
  refine wpAny_getItem_heap (room_dn hu) ⟨hk.is I.hok rfl, h8⟩ dd e1 ?_
  rw [e2]
  exact h _ _ (I.tok _) ⟨t, rfl⟩
theorem atN_isSome {kvs : List (NestedKey × Addr × Int)} {xs : List (NestedKey × Addr × Value)} (rel : Paired Prn kvs xs) (k : NestedKey) : (atKey xs k).isSome = (atN kvs k).isSome := by
  obtain ⟨q1, q2⟩ := atN_rel (k := k) rel
  cases e : atN kvs k with
  | none =>
    rw [q1 e]
    rfl
  | some v =>
    obtain ⟨p, t, e1, _⟩ := q2 v e
    rw [e1]
    rfl
theorem dn_in {kvs : List (NestedKey × Addr × Int)} {k : NestedKey} {b : Addr} {Q : Value → Shared → Prop} (hu : A.units + 9 < cLine) (I : Inv X pins σ H s) (d : DN X.prog X.w H a kvs) (hk : NkV H k (.ref b)) (h8 : k.depth ≤ 8)
    (h : ∀ s' : Shared, Inv X pins σ H s' → Q (.bool (atN kvs k).isSome) s') : wpAny (model X.prog X.w) A (compareOp .In (.ref b) (.ref a)) Q E s := by
  obtain ⟨z, hd, xs, rel, dd⟩ := dn_of I.hok d
  refine wpAny_in_heap (room_dn hu) ⟨hk.is I.hok rfl, h8⟩ hd dd ?_
  rw [atN_isSome rel]
  exact h _ (I.tok _)
theorem dn_notIn {kvs : List (NestedKey × Addr × Int)} {k : NestedKey} {b : Addr} {Q : Value → Shared → Prop} (hu : A.units + 9 < cLine) (I : Inv X pins σ H s) (d : DN X.prog X.w H a kvs) (hk : NkV H k (.ref b)) (h8 : k.depth ≤ 8)
    (h : ∀ s' : Shared, Inv X pins σ H s' → Q (.bool (!(atN kvs k).isSome)) s') : wpAny (model X.prog X.w) A (compareOp .NotIn (.ref b) (.ref a)) Q E s := by
  obtain ⟨z, hd, xs, rel, dd⟩ := dn_of I.hok d
  refine wpAny_notIn_heap (room_dn hu) ⟨hk.is I.hok rfl, h8⟩ hd dd ?_
  rw [atN_isSome rel]
  exact h _ (I.tok _)
theorem dn_setItem {kvs : List (NestedKey × Addr × Int)} {k : NestedKey} {b : Addr} {i : Int} {Q : Unit → Shared → Prop} (hu : A.units + 9 < cLine) (I : Inv X pins σ H s) (d : DN X.prog X.w H a kvs) (hk : NkV H k (.ref b)) (h8 : k.depth ≤ 8) (rd : RelV (.int i) r) (e : atN kvs k = none) (hl : kvs.length < sizeLine)
    (h : ∀ s' : Shared, Inv X pins σ (upd H a (DNo X.prog X.w a (kvs ++ [(k, b, i)]))) s' → Q () s') : wpAny (model X.prog X.w) A (setItem (.ref a) (.ref b) r) Q E s := by
  obtain ⟨z, hd, xs, rel, dd⟩ := dn_of I.hok d
  have hz : xs.length ≤ sizeLine := by rw [← Paired.length rel]; exact z
  refine wpAny_setItem_heap (hsz := hz) (room_dn hu) ⟨hk.is I.hok rfl, h8⟩ dd fun h' dd' hs => h _ ?_
  rw [storedH_new ((atN_rel (k := k) rel).1 e)] at dd'
  have he : ∃ q, h'.get? a = some q := let ⟨q, _, _, hq, _⟩ := dd'; ⟨q, hq⟩
  obtain ⟨t, rfl⟩ := (show ∃ t, r = Value.int i t from rd)
  exact d_write (t' := _) I (by rw [d.at_]; exact True.intro) hs he (dno_ok (by rw [List.length_append]; exact hl) hd (paired_snoc rel ⟨rfl, rfl, t, rfl⟩) dd')
theorem dn_set0 {k : NestedKey} {b : Addr} {i : Int} {Q : PUnit → Shared → Prop} (hu : A.units + 9 < cLine) (I : Inv X pins σ H s) (d : DN X.prog X.w H a []) (hk : NkV H k (.ref b)) (h8 : k.depth ≤ 8) (rd : RelV (.int i) r)
    (h : ∀ s' : Shared, Inv X pins σ (upd H a (DNo X.prog X.w a [(k, b, i)])) s' → Q PUnit.unit s') : wpAny (model X.prog X.w) A (dictSet a (.ref b) r) Q E s := by
  obtain ⟨z, hd, xs, rel, dd⟩ := dn_of I.hok d
  cases rel
  refine wpAny_dictSet_heap (hsz := Nat.zero_le _) (show (nestedKind X.prog X.w).room A from ?_) ⟨hk.is I.hok rfl, h8⟩ dd fun h' dd' hs => h _ ?_
  · show A.units + 8 < cLine
    omega
  rw [storedH_new rfl] at dd'
  have he : ∃ q, h'.get? a = some q := let ⟨q, _, _, hq, _⟩ := dd'; ⟨q, hq⟩
  obtain ⟨t, rfl⟩ := (show ∃ t, r = Value.int i t from rd)
  exact d_write (t' := _) I (by rw [d.at_]; exact True.intro) hs he (dno_ok (Nat.le_of_lt (show 1 < sizeLine by decide)) hd (.cons ⟨rfl, rfl, t, rfl⟩ .nil) dd')
end
/-- d[y] -/
def tDGetN (P : Program) (w : World) (td ty : TE) : TE := fun σ H Q => td σ H fun x H1 => ty σ H1 fun y H2 => ∃ (a : Addr) (kvs : List (NestedKey × Addr × Int)) (k : NestedKey) (b : Addr) (i : Int), x = .ref a ∧ y = .ref b ∧ DN P w H2 a kvs ∧ NkV H2 k (.ref b) ∧ k.depth ≤ 8 ∧ atN kvs k = some i ∧ Q (.int i) H2
theorem pe_dgetN {X : Cx} {P : Program} {w : World} {o i : Expr} {td ty : TE} {pos : Pos} (hu : X.A.units + 9 < cLine) (hP : X.prog = P) (hw : X.w = w) (ho : PE X o td) (hi : PE X i ty) (hs : NoSl i) : PE X (.Subscript o i pos) (tDGetN P w td ty) := by
  subst hP hw
  refine ⟨fun pins s σ H Q I h => ?_⟩
  refine subD_of PySem.F.slot_dict_getitem.lookup hs (thn (ho.run pins s σ H _ I h) fun u s1 ⟨x, H1, I1, rx, q1⟩ => thn (hi.run pins s1 σ H1 _ I1 q1) fun iv s2 ⟨y, H2, I2, ry, a, kvs, k, b, i, ex, ey, d, hk, h8, e, q2⟩ => ?_)
  subst ex ey
  obtain rfl : u = Value.ref a := rx
  obtain rfl : iv = Value.ref b := ry
  exact ⟨(isDN_at I2 d).1, dn_getItem hu I2 d hk h8 e fun w' s3 I3 rw' => ⟨.int i, H2, I3, rw', q2⟩⟩
/-- y in d, y not in d -/
def tDInN (P : Program) (w : World) (ty td : TE) : TE := fun σ H Q => ty σ H fun y H1 => td σ H1 fun x H2 => ∃ (a : Addr) (kvs : List (NestedKey × Addr × Int)) (k : NestedKey) (b : Addr), x = .ref a ∧ y = .ref b ∧ DN P w H2 a kvs ∧ NkV H2 k (.ref b) ∧ k.depth ≤ 8 ∧ Q (.bl (atN kvs k).isSome) H2
def tDNotInN (P : Program) (w : World) (ty td : TE) : TE := fun σ H Q => ty σ H fun y H1 => td σ H1 fun x H2 => ∃ (a : Addr) (kvs : List (NestedKey × Addr × Int)) (k : NestedKey) (b : Addr), x = .ref a ∧ y = .ref b ∧ DN P w H2 a kvs ∧ NkV H2 k (.ref b) ∧ k.depth ≤ 8 ∧ Q (.bl (!(atN kvs k).isSome)) H2
theorem pc_dinN {X : Cx} {P : Program} {w : World} {o i : Expr} {td ty : TE} (hu : X.A.units + 9 < cLine) (hP : X.prog = P) (hw : X.w = w) (hi : PE X i ty) (ho : PE X o td) : PC X .In i o (tDInN P w ty td) := by
  subst hP hw
  refine ⟨fun pins s σ H Q I h => ?_⟩
  refine thn (hi.run pins s σ H _ I h) fun iv s1 ⟨y, H1, I1, ry, q1⟩ => thn (ho.run pins s1 σ H1 _ I1 q1) fun u s2 ⟨x, H2, I2, rx, a, kvs, k, b, ex, ey, d, hk, h8, q2⟩ => ?_
  subst ex ey
  obtain rfl : u = Value.ref a := rx
  obtain rfl : iv = Value.ref b := ry
  exact dn_in hu I2 d hk h8 fun s3 I3 => ⟨.bl _, H2, I3, rfl, q2⟩
theorem pc_dnotinN {X : Cx} {P : Program} {w : World} {o i : Expr} {td ty : TE} (hu : X.A.units + 9 < cLine) (hP : X.prog = P) (hw : X.w = w) (hi : PE X i ty) (ho : PE X o td) : PC X .NotIn i o (tDNotInN P w ty td) := by
  subst hP hw
  refine ⟨fun pins s σ H Q I h => ?_⟩
  refine thn (hi.run pins s σ H _ I h) fun iv s1 ⟨y, H1, I1, ry, q1⟩ => thn (ho.run pins s1 σ H1 _ I1 q1) fun u s2 ⟨x, H2, I2, rx, a, kvs, k, b, ex, ey, d, hk, h8, q2⟩ => ?_
  subst ex ey
  obtain rfl : u = Value.ref a := rx
  obtain rfl : iv = Value.ref b := ry
  exact dn_notIn hu I2 d hk h8 fun s3 I3 => ⟨.bl _, H2, I3, rfl, q2⟩
/-- d[y] = v, y not there -/
def rSetN (P : Program) (w : World) : TSet := fun o i v H Q => ∃ (a : Addr) (kvs : List (NestedKey × Addr × Int)) (k : NestedKey) (b : Addr) (z : Int), o = .ref a ∧ i = .ref b ∧ v = .int z ∧ DN P w H a kvs ∧ NkV H k (.ref b) ∧ k.depth ≤ 8 ∧ atN kvs k = none ∧ kvs.length < sizeLine ∧ Q (upd H a (DNo P w a (kvs ++ [(k, b, z)])))
theorem set_dN {X : Cx} {P : Program} {w : World} (hu : X.A.units + 9 < cLine) (hP : X.prog = P) (hw : X.w = w) : PSet X (rSetN P w) := by
  subst hP hw
  intro pins s σ H o i v ov iv u Q I ro ri rv h
  obtain ⟨a, kvs, k, b, z, rfl, rfl, rfl, d, hk, h8, e, hl, q⟩ := h
  obtain rfl : ov = Value.ref a := ro
  obtain rfl : iv = Value.ref b := ri
  exact dn_setItem hu I d hk h8 rv e hl fun s' I' => ⟨_, I', q⟩
/-- {k: v} -/
def tDisp1N (P : Program) (w : World) (tk tv : TE) : TE := fun σ H Q => ∀ p, H p = none → tk σ (upd H p (DNo P w p [])) fun x H1 => tv σ H1 fun y H2 => ∃ (k : NestedKey) (b : Addr) (i : Int), x = .ref b ∧ y = .int i ∧ DN P w H2 p [] ∧ NkV H2 k (.ref b) ∧ k.depth ≤ 8 ∧ Q (.ref p) (upd H2 p (DNo P w p [(k, b, i)]))
theorem pe_disp1N {X : Cx} {P : Program} {w : World} {k v : Expr} {tk tv : TE} {pos : Pos} (hu : X.A.units + 9 < cLine) (hP : X.prog = P) (hw : X.w = w) (hk : PE X k tk) (hv : PE X v tv) : PE X (.Dict [some k] [v] pos) (tDisp1N P w tk tv) := by
  subst hP hw
  refine ⟨fun pins s σ H Q I q => ?_⟩
  have hn := I.hok.fresh (Nat.le_refl s.heap.objs.size)
  have I1 := I.laid (a := s.heap.objs.size) (o := DNo X.prog X.w s.heap.objs.size []) (h' := s.heap.push { cls := .type "dict", data := .dict #[] }) (t' := s.toks) (fun _ _ q => Heap.get?_push_of_some _ q) (Nat.le_refl _) (dno_new s.heap I.big)
  refine wpAny_Dict_any rfl rfl (by simp) (by simp) ?_
  refine pairTrees_cons_walk (thn (hk.run pins _ σ _ _ I1 (q _ hn)) fun kv s1 ⟨x, H1, J1, rx, q1⟩ => thn (hv.run pins s1 σ H1 _ J1 q1) fun vv s2 ⟨y, H2, J2, ry, k, b, i, ex, ey, d, nk, h8, q2⟩ => pairTrees_nil_walk ?_)
  subst ex ey
  obtain rfl : kv = Value.ref b := rx
  unfold storeAll
  rw [List.forIn_cons]
  refine wpAny_bind (wpAny_bind (dn_set0 hu J2 d nk h8 ry fun s' I' => wpAny_pure ?_))
  show wpAny _ _ (forIn [] PUnit.unit _) _ _ _
  rw [List.forIn_nil]
  exact wpAny_pure ⟨.ref s.heap.objs.size, _, I', rfl, q2⟩
theorem dn_disp {P : Program} {w : World} {H : Hp} {p b : Addr} {k : NestedKey} {i : Int} (d : DN P w H p []) (hk : NkV H k (.ref b)) (h8 : k.depth ≤ 8) : DN P w (upd H p (DNo P w p [(k, b, i)])) p [(k, b, i)] := DN.put d hk h8
end Z
set_option Elab.async false
set_option linter.all false
set_option maxRecDepth 100000
set_option maxHeartbeats 4000000
namespace Z
open PySem PySem.Spec PyProof.Rows L2 NdefX
/-! ### an own exception whose __init__ begins with super().__init__(..) -/
/-- what the written part says of it: the function f of the class C (cell cc, code c) -/
structure SupK (P : Program) (K : PySem.W.Frag) (C f c cc : Addr) (fd : FuncData) : Prop where
  lk : ∃ oc od osl, K.lookup f = some ⟨oc, od, .func fd, osl⟩
  code : ∃ (ccl : Value) (cdd : Option Addr) (vs : Array Value) (ccs : Array (Option Value)) (file : Str) (tf : Tok), K.lookup c = some ⟨ccl, cdd, .fields vs, ccs⟩ ∧ vs[2]? = some (.str file tf) ∧ ((P.main.file : Str) == file) = true
  cell : ∃ cl cld csl, K.lookup cc = some ⟨cl, cld, .cell (some (.ref C)), csl⟩
  top : (P.main.scope.names.lookup ("super" : Str)).isSome = false
  mro : PySem.W.mroIn K C (.ref C) = some true
  opq : PySem.W.nsIn K cStatics "thirdparty.any" = some none
  ini : PySem.W.ks_superIn K C C "__init__" = some (some (.builtin "ValueError.__init__"))
  sub : PySem.W.subIn K (.ref C) (.type "ValueError") = some true
  exi : PySem.W.excInitIn K C He.veBase "ValueError.__new__" = true
  oex : OexC K C
section
variable {CX : CXT} {P : Program} {w : World} {K : PySem.W.Frag} {mg : Str → Option Value} {base : Heap} {N ps : List Str} {F : NF} {f C a cc : Addr} {A : Around} {outer : List Env} {s0 s : Shared} {H0 H : Hp} {E : XK} {σ : L2.St}
/-- the bound __init__ called -/
theorem call_mw {X : Cx} {pins : List (Addr × Obj)} {u : Addr} {us : List Value} {Q : Value → Shared → Prop} {E : Value → Shared → Prop} {A : Around} (S : SupK X.prog X.K C f c cc fd) (I : Inv X ((u, PySem.W.kxs_mw "ValueError.__init__" a) :: pins) σ H s) (e : H a = some (exo a C none)) (hz : us.length ≤ sizeLine)
    (h : ∀ s', Inv X ((u, PySem.W.kxs_mw "ValueError.__init__" a) :: pins) σ H s' → Q .none s') : wpAny (model X.prog X.w) A (call (.ref u) us) Q E s := by
  have FB := F.excBase_ValueError
  obtain ⟨nm, N', qn, bs, bm, hdct, sn, sub, ab, col, dd, k0, k1, k2, k3, k5, hC, hT⟩ := PySem.W.excInit_of I.kIn S.exi
  have hu := (I.pin (u, PySem.W.kxs_mw "ValueError.__init__" a) (List.mem_append_right _ (List.mem_cons_self ..))).1
  obtain ⟨t1, he⟩ := exo_at I.hok e
  obtain ⟨hh, g, d, tk, os⟩ := s
  refine wpAny_call (codeAny_of_tree ?_)
  show wpAny _ A.in1 (callAny (.ref u) ⟨us, []⟩) _ _ _
  simp only [callAny]
  refine wpAny_bind (wpAny_load hu ?_)
  simp only [PySem.W.kxs_mw, show (Value.type "method-wrapper" == Value.type "method" || Value.type "method-wrapper" == Value.type "builtin_function_or_method" || Value.type "method-wrapper" == Value.type "method-wrapper") = true by decide, if_true]
  refine PySem.W.KFB.if_so (by decide) ?_
  refine wpAny_bind (PySem.W.check_bound_init FB.toExcCallFacts hC he rfl ?_)
  refine wpAny_bind (wpAny_pure (wpAny_pure ?_))
  refine ⟨plainId_quiet FB.init.plain _, codeAny_builtin FB.initEntry ?_⟩
  refine PySem.W.exc_init_tree (cls := .ref C) (t0 := t1) (dv := none) (c2 := .none) (c3 := .none) (b4 := .bool false) he hz fun h' k hx _ => ?_
  have J := I.write (t' := tk) (x := a) (e := a) (o := exo a C none) (by rw [e]; exact True.intro) (.inl rfl) k ⟨_, hx⟩ (exo_ok hx)
  have eu : upd H a (exo a C none) = H := by
    funext b
    by_cases hb : b = a
    · rw [hb, upd_same, e]
    · rw [upd_ne hb]
  rw [eu] at J
  exact h _ J
/-- super().__init__(e, ..), the first statement -/
theorem super_first {pl : Sem Bool} {fd : FuncData} {ar : Arg} {t : TA} {e : Expr} {es : List Expr} {p0 p1 p2 pos pos2 : Pos} {Qn : Hp → Prop} (S : SupK P K C f F.c cc fd) (hcl : F.cl = [(("__class__" : Str), cc)]) (hp : (fd.params.posonlyargs ++ fd.params.args).head? = some ar)
    (hks : F.scope.names.lookup ("super" : Str) = some .globalImplicit) (hkc : F.scope.names.lookup ("__class__" : Str) = some .free) (hka : F.scope.names.lookup ar.arg = some .local) (hk : F.scope.kind = .function) (m_super : mg "super" = none)
    (hN : N[0]? = some ar.arg) (ha : PA (ncx CX P w K mg base N F f A outer s0 H0 E) (e :: es) t) (I : Inv (ncx CX P w K mg base N F f A outer s0 H0 E) [] σ H s) (hs : σ[0]? = some (some (.ref a))) (hx : H a = some (exo a C none))
    (ht : t σ H fun vs H1 => vs.length ≤ 1000 ∧ H1 a = some (exo a C none) ∧ Qn H1)
    (hint : interactive (ncx CX P w K mg base N F f A outer s0 H0 E).env = false := by rfl) (hsw : swapsWith (.Call (.Attribute (.Call (.Name "super" p0) [] [] p1) "__init__" p2) (e :: es) [] pos) none pos2.line (ncx CX P w K mg base N F f A outer s0 H0 E).env = pure false := by rfl)
    (hev : eval (.Call (.Attribute (.Call (.Name "super" p0) [] [] p1) "__init__" p2) (e :: es) [] pos) (ncx CX P w K mg base N F f A outer s0 H0 E).env = (do
      let ov ← attributeBase (.Call (.Name "super" p0) [] [] p1) "__init__" (ncx CX P w K mg base N F f A outer s0 H0 E).env (eval (.Call (.Name "super" p0) [] [] p1) (ncx CX P w K mg base N F f A outer s0 H0 E).env)
      standAt p2.atName
      let (g, first) ← holding [ov] (getMethod ov "__init__" pl)
      callWith pos g first (backTo pos (starEach (e :: es) (ncx CX P w K mg base N F f A outer s0 H0 E).env)) []) := by rfl)
    (he : starEach (e :: es) (ncx CX P w K mg base N F f A outer s0 H0 E).env = (false, eval e (ncx CX P w K mg base N F f A outer s0 H0 E).env) :: starEach es (ncx CX P w K mg base N F f A outer s0 H0 E).env := by rfl) (hpl : (backTo pos (starEach es (ncx CX P w K mg base N F f A outer s0 H0 E).env)).any (·.1) = false := by rfl) :
    _root_.PySem.wpAt (model P w) (ncx CX P w K mg base N F f A outer s0 H0 E).A (.func F.body (ncx CX P w K mg base N F f A outer s0 H0 E).env) (exec (.Expr (.Call (.Attribute (.Call (.Name "super" p0) [] [] p1) "__init__" p2) (e :: es) [] pos) pos2) (ncx CX P w K mg base N F f A outer s0 H0 E).env)
      (fun fl s' => fl = .next ∧ ∃ H1, Inv (ncx CX P w K mg base N F f A outer s0 H0 E) [] σ H1 s' ∧ H1 a = some (exo a C none) ∧ Qn H1) (ncx CX P w K mg base N F f A outer s0 H0 E).xe s := by
  obtain ⟨oc, od, osl, lkf⟩ := S.lk
  obtain ⟨ccl, cdd, vs, ccs, file, tf, lkc, hvs, hfile⟩ := S.code
  obtain ⟨cl, cld, csl, lkcc⟩ := S.cell
  have KX : K.In s.heap := I.kIn
  obtain ⟨m, hn, hl⟩ := I.loc
  obtain ⟨u, ru, lu⟩ := hl 0 ar.arg (.ref a) hN hs (.inl hka)
  obtain rfl : u = .ref a := ru
  have hma : m ar.arg = some (.ref a) := by
    rcases lu with ⟨_, z⟩ | ⟨z, _⟩
    · exact z
    · rcases z with z | z
      · rw [show (ncx CX P w K mg base N F f A outer s0 H0 E).env.kindOf ar.arg = some .local from hka] at z; cases z
      · rw [show (ncx CX P w K mg base N F f A outer s0 H0 E).env.kindOf ar.arg = some .local from hka] at z; cases z
  obtain ⟨nm, q, NN, bs, bm, sn, sub, ab, col, dd, k0, k1, k2, k3, k5, hC, hbm⟩ := S.oex.cls
  obtain ⟨t1, hox⟩ := exo_at I.hok hx
  refine ks_wpAt_Expr_any (ks_wpAt_MethodCall ?_ hev) hint hsw
  refine ks_wpAt_super_base (env := (ncx CX P w K mg base N F f A outer s0 H0 E).env) (cc := F.c) hks hkc (by decide) rfl (KX _ _ lkf) rfl hp rfl (KX _ _ lkc) rfl hvs hfile S.top ?_
  obtain ⟨mb, h1, h2⟩ := I.mod.blt
  refine PySem.W.ks_loadName_global hk hks (Calls.loadGlobal_builtin (by rw [I.ok.glob]; exact I.mod.glob.keeps I.bk) m_super (by rw [I.ok.blt]; exact h1.keeps I.bk) ((h2 "super" (by decide)).trans (by decide +kernel)) ⟨rfl, ?_⟩)
  refine wpAny_loadName_free hk hkc (c := cc) (by show F.cl.lookup _ = _; rw [hcl]; rfl) ⟨_, KX _ _ lkcc, rfl⟩ ?_
  refine wpAny_loadName_local hk hka hn hma ?_
  refine ks_wpAny_isType_cls (KX _ _ hC) rfl ⟨rfl, ?_⟩
  obtain ⟨hh, g, d, tk, os⟩ := s
  refine ks_wpAny_call_super (KX _ _ hC) rfl hox rfl (fun c z => by cases z) (PySem.W.looks_mroIn KX S.mro) (fun h' eso kso => ?_)
  have I2 : Inv (ncx CX P w K mg base N F f A outer s0 H0 E) [] σ H ⟨h', g, d, tk, os⟩ := I.kept kso
  have KX2 : K.In h' := I2.kIn
  have hox2 := kso _ _ hox
  have IA : PySem.W.InstAt h' a _ C none := ⟨hox2, rfl, rfl, trivial⟩
  have hI : PySem.W.Looks (model P w) h' (isInstance (.ref a) (.type "ValueError")) true := IA.type.andThen (PySem.W.looks_subIn KX2 S.sub)
  have hm := S.ini
  cases hc : PySem.W.clsIn K C with
  | none =>
    unfold PySem.W.ks_superIn at hm
    rw [hc] at hm
    cases hm
  | some cd =>
    unfold PySem.W.ks_superIn at hm
    rw [hc] at hm
    refine PySem.W.kxs_getMethod PySem.W.kxs_ValueError eso (PySem.W.looks_opaque KX2 S.opq) (l₀ := cd.mro) ?_ rfl KX2 hm hI (PySem.W.ks_ne KX2 IA hc) (by decide) ?_
    · exact fun A Q E s k q => wpAny_bind ((PySem.W.looks_clsIn KX2 hc) A _ E s k (wpAny_pure q))
    · have I3 : Inv (ncx CX P w K mg base N F f A outer s0 H0 E) [(h'.objs.size, PySem.W.kxs_mw "ValueError.__init__" a)] σ H ⟨h'.push (PySem.W.kxs_mw "ValueError.__init__" a), g, d, tk + 1, os⟩ := ClX.pin_new I2 (fun b o e => Heap.get?_push_of_some _ e) (Nat.le_refl _) (Heap.get?_push_at rfl rfl) (fun v z => by cases z)
      rw [he]
      refine PySem.W.kxs_callWith (i := "ValueError.__init__") (x := a) (by show (false || (backTo pos (starEach es _)).any (·.1)) = false; rw [hpl]; rfl) ?_
      refine PySem.Calls.evalArgs_plain ?_
      have hrun := ha.run pos _ _ σ H _ I3 ht
      rw [he] at hrun
      refine thn hrun fun us s3 ⟨ws, H3, I4, r, q1, q2, q3⟩ => ?_
      refine ⟨ClX.pin_at I4, ?_⟩
      refine call_mw (X := ncx CX P w K mg base N F f A outer s0 H0 E) S I4 q2 (by show us.length ≤ sizeLine; rw [← r.length]; exact Nat.le_trans q1 (by decide)) fun s' I5 => ⟨rfl, H3, ClX.unpin I5, q2, q3⟩
theorem wpAt_to {M : Model} {A : Around} {c : Code} {α : Type} {m : Sem α} {Q Q' : α → Shared → Prop} {E : Value → Shared → Prop} {s : Shared} (h : _root_.PySem.wpAt M A c m Q E s) (hq : ∀ a s', Q a s' → Q' a s') : _root_.PySem.wpAt M A c m Q' E s := ks_wpAt_mono h hq fun _ _ z => z
/-- THE RULE: such an __init__, the rest of its body by its readings -/
theorem sup_ok {pl : Sem Bool} {fd : FuncData} {dV kV doc pm ct : Value} {an : Option Addr} {ar : Arg} {k : Nat} {sp : Sp} {txt : Str} {j : Nat} {p0 p1 p2 p3 pos pos2 : Pos} {rest : List Stmt} (hfd : fd = PySem.W.fnX F.name F.qual F.params F.body F.scope F.cl dV kV doc pm an (.ref F.c) ct)
    (S : SupK P K C f F.c cc fd) (hcd : PySem.W.codeIn K (.ref F.c) F.qual = true) (NS : NScope N ps ["__class__"] F.scope) (hcl : F.cl = [(("__class__" : Str), cc)]) (hp : (F.params.posonlyargs ++ F.params.args).head? = some ar) (hks : F.scope.names.lookup ("super" : Str) = some .globalImplicit) (m_super : mg "super" = none)
    (hN : N[0]? = some ar.arg) (hka : F.scope.names.lookup ar.arg = some .local)
    (hb : F.body = .Expr (.Call (.Attribute (.Call (.Name "super" p0) [] [] p1) "__init__" p2) [.Constant (.str txt) j p3] [] pos) pos2 :: rest)
    (len : ∀ vs H Q E, sp vs H Q E → vs.length = ps.length) (hself : ∀ vs H Q E, sp vs H Q E → ∃ a vs', vs = .ref a :: vs' ∧ H a = some (exo a C none))
    (hint : ∀ (A : Around) (outer : List Env) (s : Shared) (H : Hp) (E : XK), interactive (ncx CX P w K mg base N F f A outer s H E).env = false)
    (hsw : ∀ (A : Around) (outer : List Env) (s : Shared) (H : Hp) (E : XK), swapsWith (.Call (.Attribute (.Call (.Name "super" p0) [] [] p1) "__init__" p2) [.Constant (.str txt) j p3] [] pos) none pos2.line (ncx CX P w K mg base N F f A outer s H E).env = pure false)
    (hev : ∀ (A : Around) (outer : List Env) (s : Shared) (H : Hp) (E : XK), eval (.Call (.Attribute (.Call (.Name "super" p0) [] [] p1) "__init__" p2) [.Constant (.str txt) j p3] [] pos) (ncx CX P w K mg base N F f A outer s H E).env = (do
      let ov ← attributeBase (.Call (.Name "super" p0) [] [] p1) "__init__" (ncx CX P w K mg base N F f A outer s H E).env (eval (.Call (.Name "super" p0) [] [] p1) (ncx CX P w K mg base N F f A outer s H E).env)
      standAt p2.atName
      let (g, first) ← holding [ov] (getMethod ov "__init__" pl)
      callWith pos g first (backTo pos (starEach [.Constant (.str txt) j p3] (ncx CX P w K mg base N F f A outer s H E).env)) []))
    (hrest : ∀ (A : Around) (outer : List Env) (s : Shared) (H : Hp) (vs : List V) (Q : VK) (E : XK), sp vs H Q E → ∃ t, PSs (ncx CX P w K mg base N F f A outer s H E) rest t ∧ t { nx := fun _ H' => Q .non H', rt := Q } (startF N vs [some (.ref C)]) H) : FnOk P w K mg base CX (k + 1) f fd ps sp := by
  refine ⟨len, fun A outer s H args us vs Q E hr e0 hbn r hsp => ?_⟩
  have hl := len _ _ _ _ hsp
  have KX : K.In s.heap := e0.mod.kin.keeps fun b o e => (e0.bs b o e).1
  have lim : s.heap.NoLimit := e0.mod.nolimit.keeps fun b o e => (e0.bs b o e).1
  obtain ⟨oc, od, osl, lkf⟩ := S.lk
  obtain ⟨cl, cld, csl, lkcc⟩ := S.cell
  have CA : CellsAt F.cl ["__class__"] [some (.ref C)] s.heap H := by
    refine ⟨rfl, fun y c e => ?_, fun x y c e1 e2 => ?_, fun i y e => ?_⟩
    · rw [hcl] at e
      have ec : c = cc := by
        unfold List.lookup at e
        split at e
        · exact (Option.some.inj e).symm
        · cases e
      subst ec
      exact ⟨(e0.bs _ _ (e0.mod.kin _ _ lkcc)).2, _, _, KX _ _ lkcc, rfl⟩
    · rw [hcl] at e1 e2
      have k : ∀ z : Str, ([(("__class__" : Str), cc)] : List (Str × Addr)).lookup z = some c → z = "__class__" := fun z e => by
        unfold List.lookup at e
        split at e
        · next h => exact beq_iff_eq.mp h
        · cases e
      rw [k x e1, k y e2]
    · have ey : y = "__class__" := by
        cases i with
        | zero => exact (Option.some.inj e).symm
        | succ i => cases e
      subst ey
      refine ⟨cc, by rw [hcl]; rfl, fun v hv => ?_⟩
      have ei : i = 0 := by
        cases i with
        | zero => rfl
        | succ i => cases e
      subst ei
      obtain rfl : V.ref C = v := Option.some.inj (Option.some.inj hv)
      exact ⟨.ref C, rfl, _, KX _ _ lkcc, rfl⟩
  subst hfd
  refine ks_codeAny_call_defAt hr.depth (KX _ _ lkf) rfl lim (PySem.W.codeRec_of KX hcd) rfl hbn NS.nocell (fun ⟨n, _⟩ hy => NS.par n (List.of_mem_zip hy).1) (fun h₁ hns kp => ?_) NS.co NS.gen NS.kind
  show _root_.PySem.wpAt _ (ncx CX P w K mg base N F f A outer s H E).A (.func F.body (ncx CX P w K mg base N F f A outer s H E).env) (execs F.body (ncx CX P w K mg base N F f A outer s H E).env) _ (ncx CX P w K mg base N F f A outer s H E).xe _
  have I : Inv (ncx CX P w K mg base N F f A outer s H E) [] (startF N vs [some (.ref C)]) H { s with heap := h₁, toks := s.toks + (ps.zip us).length } := inv_startN NS hr.hd e0 hl r CA hns kp
  obtain ⟨a, vs', rfl, hx⟩ := hself _ _ _ _ hsp
  have hexe : execs F.body (ncx CX P w K mg base N F f A outer s H E).env = execs (.Expr (.Call (.Attribute (.Call (.Name "super" p0) [] [] p1) "__init__" p2) [.Constant (.str txt) j p3] [] pos) pos2 :: rest) (ncx CX P w K mg base N F f A outer s H E).env := by rw [hb]
  rw [hexe]
  refine ks_wpAt_execs_cons (wpAt_to (super_first (Qn := fun H1 => H1 = H) S hcl hp hks (NS.frk _ (List.mem_cons_self ..)) hka NS.kind m_super hN (pa_cons pe_str pa_nil) I rfl hx ⟨by simp, hx, rfl⟩ (hint A outer s H E) (hsw A outer s H E) (hev A outer s H E)) ?_)
  rintro fl s1 ⟨rfl, H1, I1, _, rfl⟩
  obtain ⟨t, ht, hq⟩ := hrest A outer s H1 _ Q E hsp
  refine wpAt_of_wpAny (wpAny_mono (ht.run [] _ _ H1 _ I1 hq) (fun fl s' hs => ?_) fun e s' hs => hs)
  have fin : ∀ {σ' : L2.St} {H' : Hp} {v : V} {u : Value}, Inv (ncx CX P w K mg base N F f A outer s H1 E) [] σ' H' s' → L2.RelV v u → Q v H' → CE outer P w H1 s Q u s' :=
    fun {σ' H' v u} J rv q => ⟨v, H', J.os, J.bare, J.base, J.hok, rv, q⟩
  cases fl with
  | ret u =>
    obtain ⟨v, σ', H', J, rv, q⟩ := hs
    exact fin J rv q
  | next =>
    obtain ⟨σ', H', J, q⟩ := hs
    exact fin (v := V.non) (u := Value.none) J rfl q
  | brk =>
    obtain ⟨_, _, _, q⟩ := hs
    exact False.elim q
  | cont =>
    obtain ⟨_, _, _, q⟩ := hs
    exact False.elim q
end
end Z
set_option Elab.async false
set_option linter.all false
set_option maxRecDepth 100000
set_option maxHeartbeats 4000000
namespace Z
open PySem PySem.Spec PyProof.Rows L2 NdefX
/-! ### class X(..): def __init__(self, v): super().__init__("text"); self.field = v -/
def spEx (C : Addr) (field : Str) : Sp := fun vs H Q _ => ∃ (a : Addr) (v : V), vs = [.ref a, v] ∧ H a = some (exo a C none) ∧ ∀ dx, H dx = none → dx ≠ a → Q .non (upd (upd H dx (exd dx [(field, v)])) a (exo a C (some dx)))
theorem exn_ok {P : Program} {w : World} {K : PySem.W.Frag} {mg : Str → Option Value} {base : Heap} {F : NF} {f C cc : Addr} {pl : Sem Bool} {fd : FuncData} {dV kV doc pm ct : Value} {an : Option Addr} {ar : Arg} {txt v field : Str} {j : Nat} {p0 p1 p2 p3 pos pos2 q1 q2 q3 q4 : Pos} (hfd : fd = PySem.W.fnX F.name F.qual F.params F.body F.scope F.cl dV kV doc pm an (.ref F.c) ct)
    (S : SupK P K C f F.c cc fd) (hcd : PySem.W.codeIn K (.ref F.c) F.qual = true) (NS : NScope ["self", v, "__class__"] ["self", v] ["__class__"] F.scope) (hcl : F.cl = [(("__class__" : Str), cc)]) (hp : (F.params.posonlyargs ++ F.params.args).head? = some ar) (har : ar.arg = "self") (hks : F.scope.names.lookup ("super" : Str) = some .globalImplicit) (m_super : mg "super" = none)
    (hno : PySem.W.findIn K (.ref C) field = some none) (hvd : (v == ("__debug__" : Str)) = false) (hvc : (v == ("__classdict__" : Str)) = false)
    (hb : F.body = [.Expr (.Call (.Attribute (.Call (.Name "super" p0) [] [] p1) "__init__" p2) [.Constant (.str txt) j p3] [] pos) pos2, .Assign [.Attribute (.Name "self" q1) field q2] (.Name v q3) q4])
    (hint : ∀ (A : Around) (outer : List Env) (s : Shared) (H : Hp) (E : XK), interactive (ncx CX0 P w K mg base ["self", v, "__class__"] F f A outer s H E).env = false)
    (hsw : ∀ (A : Around) (outer : List Env) (s : Shared) (H : Hp) (E : XK), swapsWith (.Call (.Attribute (.Call (.Name "super" p0) [] [] p1) "__init__" p2) [.Constant (.str txt) j p3] [] pos) none pos2.line (ncx CX0 P w K mg base ["self", v, "__class__"] F f A outer s H E).env = pure false)
    (hev : ∀ (A : Around) (outer : List Env) (s : Shared) (H : Hp) (E : XK), eval (.Call (.Attribute (.Call (.Name "super" p0) [] [] p1) "__init__" p2) [.Constant (.str txt) j p3] [] pos) (ncx CX0 P w K mg base ["self", v, "__class__"] F f A outer s H E).env = (do
      let ov ← attributeBase (.Call (.Name "super" p0) [] [] p1) "__init__" (ncx CX0 P w K mg base ["self", v, "__class__"] F f A outer s H E).env (eval (.Call (.Name "super" p0) [] [] p1) (ncx CX0 P w K mg base ["self", v, "__class__"] F f A outer s H E).env)
      standAt p2.atName
      let (g, first) ← holding [ov] (getMethod ov "__init__" pl)
      callWith pos g first (backTo pos (starEach [.Constant (.str txt) j p3] (ncx CX0 P w K mg base ["self", v, "__class__"] F f A outer s H E).env)) []))
    (hs2 : ∀ (A : Around) (outer : List Env) (s : Shared) (H : Hp) (E : XK), swapsWith (.Name v q3) (some (.Attribute (.Name "self" q1) field q2)) q4.line (ncx CX0 P w K mg base ["self", v, "__class__"] F f A outer s H E).env = pure false) : FnOk P w K mg base CX0 1 f fd ["self", v] (spEx C field) := by
  refine sup_ok (k := 0) (rest := [.Assign [.Attribute (.Name "self" q1) field q2] (.Name v q3) q4]) hfd S hcd NS hcl hp hks m_super (by rw [har]; rfl) (by rw [har]; exact NS.par _ (List.mem_cons_self ..)) hb (fun vs H Q E h => ?_) (fun vs H Q E h => ?_) hint hsw hev (fun A outer s H vs Q E h => ?_)
  · obtain ⟨a, y, rfl, _⟩ := h
    rfl
  · obtain ⟨a, y, rfl, hx, _⟩ := h
    exact ⟨a, [y], rfl, hx⟩
  · obtain ⟨a, y, rfl, hx, q⟩ := h
    refine ⟨_, pss_one (ps_ost (pe_var (i := 0) rfl (.inl (NS.par _ (List.mem_cons_self ..)))) (pe_var (i := 1) rfl (.inl (NS.par _ (List.mem_cons_of_mem _ (List.mem_cons_self ..)))) hvd hvc) (hs2 A outer s H E)), ?_⟩
    refine ⟨y, rfl, .ref a, rfl, a, C, rfl, S.oex, hno, .inl ⟨hx, fun dx n1 n2 => ?_⟩⟩
    exact q dx n1 n2
/-! ### raise X(e) -/
structure Exn (P : Program) (w : World) (K : PySem.W.Frag) (mg : Str → Option Value) (base : Heap) (x : Str) (C : Addr) (field : Str) : Prop where
  oex : OexC K C
  gl : mg x = some (.ref C)
  ini : ∃ fI fd ps, PySem.W.findIn K (.ref C) "__init__" = some (some (.ref fI)) ∧ PySem.W.typeIn K (.ref fI) = some (.type "function") ∧ FnOk P w K mg base CX0 1 fI fd ps (spEx C field) ∧ Binds K fd ps []
/-! ### C(e): the exception's object has no context -/
section
variable {X : Cx} {x : Str} {C g : Addr} {k : Nat} {fd : FuncData} {ps : List Str} {sp : Sp} {e : Expr} {ta : TA} {p pos : Pos}
/-- the two objects that type.__call__ lays -/
abbrev hp2 (h : Heap) (C : Addr) (us : List Value) : Heap :=
  (h.push (PySem.W.kdv_tup us)).push (PySem.HandSPX.excO C h.objs.size)
theorem hp2_keep {h : Heap} {us : List Value} (b : Addr) (o : Obj) (z : h.get? b = some o) :
    (hp2 h C us).get? b = some o := Heap.get?_push_of_some _ (Heap.get?_push_of_some _ z)
theorem hp2_at {h : Heap} {us : List Value} :
    (hp2 h C us).get? (h.objs.size + 1) = some (PySem.HandSPX.excO C h.objs.size) := by heap_get
theorem inv2 {pins : List (Addr × Obj)} {σ : L2.St} {H : Hp} {h : Heap} {gs : Array GenState} {dr : Drawn} {tk : Nat} {os : OsState} {us : List Value}
    (I : Inv X pins σ H ⟨h, gs, dr, tk, os⟩) :
    Inv X pins σ (upd H (h.objs.size + 1) (exo (h.objs.size + 1) C none)) ⟨hp2 h C us, gs, dr, tk, os⟩ :=
  I.laid (t' := tk) (a := h.objs.size + 1) (o := exo (h.objs.size + 1) C none) (h' := hp2 h C us)
    hp2_keep (Nat.le_succ _) (exo_ok hp2_at)
theorem pmkN (T : OexC X.K C)
    (iC : PySem.W.findIn X.K (.ref C) "__init__" = some (some (.ref g)))
    (tI : PySem.W.typeIn X.K (.ref g) = some (.type "function"))
    (F : FnOk X.prog X.w X.K X.mg X.base CX0 k g fd ps sp) (hr : Room (k + 1) X.A) (hb : Binds X.K fd ps [])
    (hg : Gl X x) (hm : X.mg x = some (.ref C)) (ha : PA X [e] ta)
    (hdb : (x == ("__debug__" : Str)) = false := by decide)
    (he : starEach [e] X.env = (false, eval e X.env) :: starEach [] X.env := by rfl)
    (hpl : (backTo pos (starEach [] X.env)).any (·.1) = false := by rfl) :
    L2N.PMk X (.Call (.Name x p) [e] [] pos) (tMkO C sp [] ta) := by
  intro pins s σ H Q I h
  obtain ⟨_, _, _, _, vm, _, _, _, _, _, _, _, _, _, _, atC, inM⟩ := T.cls
  refine wpAny_Call_Name_kw (ld_glob I hg hm ?_ hdb)
  refine PySem.W.callWith_K (h₀ := X.base) I.ok.mod.kin T.kC ?_ he hpl
  refine thn (ha.run pos pins s σ H _ I h) fun us s1 hh => ?_
  obtain ⟨vs, H1, J, r, few, q⟩ := hh
  refine ⟨J.kIn, ?_⟩
  obtain ⟨hp, gs, dr, tk, os⟩ := s1
  have q := q (hp.objs.size + 1) (J.hok.fresh (Nat.le_succ _))
  rw [List.append_nil] at q
  have J2 := inv2 (C := C) (us := us) J
  have r2 : Vals (V.ref (hp.objs.size + 1) :: vs) (Value.ref (hp.objs.size + 1) :: us) := .cons rfl r
  have len2 : (Value.ref (hp.objs.size + 1) :: us ++ []).length = ps.length := by
    rw [List.append_nil, ← r2.length]
    exact F.len _ _ _ _ q
  have b2 := hb _ (Value.ref (hp.objs.size + 1) :: us) J2.kIn len2
  rw [List.append_nil] at b2
  have few2 : us.length ≤ sizeLine := by
    have := Paired.length r
    rw [sizeLine_eq]
    omega
  have run := F.run _ X.stack _ _ _ _ _ _ _ (hr.make C us []) (J2.env0.make C us []) b2 r2 q
  refine wpAny_call (PySem.HandSPX.call_own PySem.F.excBase_ValueError (fun Y => PySem.HandSPX.refsVE_contains Y vm inM)
    (J.kIn _ _ atC) (PySem.W.looks_findIn J.kIn iC) (fun self => PySem.W.bind_fn J.kIn self tI) few2
    (codeAny_mono run fun res s' z => ?_))
  match res, z with
  | .error er, z => exact z.elim
  | .ok (.ret u), z =>
    obtain ⟨v, H2, eo, bare, un, ok2, rv, ev, d, fs, ea, ed, nd, q2⟩ := z
    subst ev
    obtain ⟨h2, g2, d2, t2, os'⟩ := s'
    obtain ⟨t0, G, J3, kG, ge, hoe, na⟩ := mk_end0 (d2 := d2) (t2 := t2) J (Nat.le_succ _) hp2_keep un ok2 eo bare ea ed nd
    refine ⟨rv, hp.objs.size + 1, _, _, ⟨G, g2, d2, t2, os'⟩, _, .ref C, some d, rfl, J3, kG, ge, hoe, ⟨rfl, rfl, fun ws ew => ?_⟩, rfl, rfl, na, rfl, bare, raises_own T.exC T.tyC, q2⟩
    cases ew
    rfl
end
section
variable {X : Cx} {x field : Str} {C : Addr} {j : Nat} {e : Expr} {ta : TA} {p pos pos2 : Pos} {W : WX}
theorem pmk_exn (c : Exn X.prog X.w X.K X.mg X.base x C field) (hr : Room j X.A) (hk : 2 ≤ j) (hg : Gl X x) (ha : PA X [e] ta) (hdb : (x == ("__debug__" : Str)) = false := by decide) (he : starEach [e] X.env = (false, eval e X.env) :: starEach [] X.env := by rfl) (hpl : (backTo pos (starEach [] X.env)).any (·.1) = false := by rfl) :
    L2N.PMk X (.Call (.Name x p) [e] [] pos) (tMkO C (spEx C field) [] ta) := by
  obtain ⟨fI, fd, ps, iC, tI, F1, b⟩ := c.ini
  exact pmkN (X := X) (pos := pos) (p := p) c.oex iC tI F1 (hr.mono hk) b hg c.gl ha hdb he hpl
/-- raise X(e) -/
theorem ps_exn (hc : X.calm = true) (tk : L2N.Takes X W) (c : Exn X.prog X.w X.K X.mg X.base x C field) (hr : Room j X.A) (hk : 2 ≤ j) (hg : Gl X x) (ha : PA X [e] ta) (hdb : (x == ("__debug__" : Str)) = false := by decide) (he : starEach [e] X.env = (false, eval e X.env) :: starEach [] X.env := by rfl) (hpl : (backTo pos (starEach [] X.env)).any (·.1) = false := by rfl) :
    PS X (.Raise (some (.Call (.Name x p) [e] [] pos)) none pos2) (fun _ σ H => tMkO C (spEx C field) [] ta σ H fun cls d H' => W cls d σ H') := L2N.ps_raise hc tk (pmk_exn c hr hk hg ha hdb he hpl)
end
/-- what is left to show of X(v) -/
theorem mkx_of {C : Addr} {field : Str} {v : V} {H1 : Hp} {Q : XK} (q : ∀ d, H1 d = none → Q (.ref C) (some d) (upd H1 d (.xd [(field, v)]))) :
    [v].length ≤ 1000 ∧ ∀ a, H1 a = none → spEx C field (.ref a :: ([v] ++ [])) (upd H1 a (exo a C none)) (fun v H2 => v = .non ∧ ∃ (d : Addr) (fs : List (Str × V)), H2 a = some (exo a C (some d)) ∧ H2 d = some (exd d fs) ∧ H1 d = none ∧ Q (.ref C) (some d) (upd (del H2 a) d (.xd fs))) (fun _ _ _ => False) := by
  refine ⟨by simp, fun a na => ⟨a, v, rfl, upd_same, fun dx n1 n2 => ⟨rfl, dx, [(field, v)], upd_same, ?_, ?_, ?_⟩⟩⟩
  · rw [upd_ne n2, upd_same]
  · rw [← n1, upd_ne n2]
  · have n3 : H1 dx = none := by rw [← n1, upd_ne n2]
    have e1 : upd (del (upd (upd (upd H1 a (exo a C none)) dx (exd dx [(field, v)])) a (exo a C (some dx))) a) dx (.xd [(field, v)]) = upd H1 dx (.xd [(field, v)]) := by
      funext b
      by_cases hb : b = dx
      · rw [hb, upd_same, upd_same]
      · rw [upd_ne hb, upd_ne hb]
        by_cases ha2 : b = a
        · rw [ha2, del_same, na]
        · rw [del_ne ha2, upd_ne ha2, upd_ne hb, upd_ne ha2]
    rw [e1]
    exact q dx n3
/-! ### calls that may raise -/
structure CalX (P : Program) (w : World) (K : PySem.W.Frag) (mg : Str → Option Value) (base : Heap) (k : Nat) (x : Str) (sp : Sp) : Prop where
  ex : ∃ (f : Addr) (fd : FuncData) (ps : List Str), FnOk P w K mg base (L2N.CX P w) k f fd ps sp ∧ mg x = some (.ref f) ∧ PySem.W.keepIn K (.ref f) = true ∧ Binds K fd ps []
structure MakX (P : Program) (w : World) (K : PySem.W.Frag) (mg : Str → Option Value) (base : Heap) (k : Nat) (x : Str) (C : Addr) (sp : Sp) : Prop where
  ex : ∃ (f : Addr) (fd : FuncData) (ps : List Str), Mk K C f ∧ FnOk P w K mg base (L2N.CX P w) k f fd ps sp ∧ mg x = some (.ref C) ∧ Binds K fd ps []
structure MetX (P : Program) (w : World) (K : PySem.W.Frag) (mg : Str → Option Value) (base : Heap) (k : Nat) (C : Addr) (m : Str) (sp : Sp) : Prop where
  ex : ∃ (f : Addr) (fd : FuncData) (ps : List Str), Cls K C ∧ Meth K C m f ∧ FnOk P w K mg base (L2N.CX P w) k f fd ps sp ∧ Binds K fd ps []
structure CobX (P : Program) (w : World) (K : PySem.W.Frag) (mg : Str → Option Value) (base : Heap) (k : Nat) (C : Addr) (sp : Sp) : Prop where
  ex : ∃ (g : Addr) (fd : FuncData) (ps : List Str), StX.CallO K C g ∧ FnOk P w K mg base (L2N.CX P w) k g fd ps sp ∧ Binds K fd ps []
/-- C(e, ..) by its __init__'s promise; what is raised at the slots -/
def tMkW (C : Addr) (sp : Sp) (E : L2.St → XK) (t : TA) : TE := fun σ H Q => t σ H fun vs H1 => ∀ n dx, H1 n = none → H1 dx = none → dx ≠ n → sp (.ref n :: vs) (upd (upd H1 dx (.own n)) n (.ins C dx [])) (fun v H2 => v = .non ∧ Q (.ref n) H2) (E σ)
def tCoW (C : Addr) (sp : Sp) (E : L2.St → XK) (tf : TE) (t : TA) : TE := fun σ H Q => tf σ H fun y H1 => ∃ a, y = V.ref a ∧ t σ H1 fun vs H2 => (∃ dx fs, H2 a = some (.ins C dx fs)) ∧ sp (V.ref a :: vs) H2 Q (E σ)
def tMeW (C : Addr) (m : Str) (sp : Sp) (E : L2.St → XK) (ta : TE) (t : TA) : TE := fun σ H Q => ta σ H fun x H1 => ∃ a dx fs, x = V.ref a ∧ H1 a = some (.ins C dx fs) ∧ List.lookup m fs = none ∧ t σ H1 fun vs H2 => sp (x :: vs) H2 Q (E σ)
section
variable {X : Cx} {k j : Nat} {x m : Str} {sp : Sp} {C : Addr} {p pos apos : Pos} {e o fe : Expr} {es : List Expr} {t : TA} {ta tf : TE} {W : WX} {E : L2.St → XK}
theorem passS0 {σ : L2.St} : PassesAt (L2N.CX X.prog X.w) X σ E0 := fun _ _ _ _ _ _ h => by
  obtain ⟨_, _, _, _, _, _, _, _, _, _, _, _, z⟩ := h
  exact z.elim
/-- any result of a promise, at the slots -/
theorem back_at {σ : L2.St} {H : Hp} {s : Shared} {pins : List (Addr × Obj)} {Q : VK} {E : XK} {CX : CXT} (hx : PassesAt CX X σ E) (I : Inv X pins σ H s) : ∀ (r : Result) (s' : Shared), CR CX X.stack X.prog X.w H s Q E r s' → match r with
    | .ok (.ret v) => EP X pins σ Q v s'
    | .ok _ => False
    | .error e => X.xe e s'
  | .error e, s', h => hx pins H s e s' I h
  | .ok (.ret u), s', h => I.after h
  | .ok .next, s', h => h
  | .ok .brk, s', h => h
  | .ok .cont, s', h => h
theorem pe_clE (c : CalX X.prog X.w X.K X.mg X.base k x sp) (hx : ∀ σ, PassesAt (L2N.CX X.prog X.w) X σ (E σ)) (hr : Room j X.A) (hk : k ≤ j) (hg : Gl X x) (ha : PA X (e :: es) t) (hdb : (x == ("__debug__" : Str)) = false := by decide) (he : starEach (e :: es) X.env = (false, eval e X.env) :: starEach es X.env := by rfl) (hpl : (backTo pos (starEach es X.env)).any (·.1) = false := by rfl) :
    PE X (.Call (.Name x p) (e :: es) [] pos) (tCallS sp E t) := by
  obtain ⟨f, fd, ps, F, hm, kp, b⟩ := c.ex
  exact pe_callS F (hr.mono hk) hg hm kp b hx ha hdb he hpl
theorem pe_mkE (c : MakX X.prog X.w X.K X.mg X.base k x C sp) (hx : ∀ σ, PassesAt (L2N.CX X.prog X.w) X σ (E σ)) (hr : Room j X.A) (hk : k + 1 ≤ j) (hg : Gl X x) (ha : PA X (e :: es) t) (hdb : (x == ("__debug__" : Str)) = false := by decide) (he : starEach (e :: es) X.env = (false, eval e X.env) :: starEach es X.env := by rfl) (hpl : (backTo pos (starEach es X.env)).any (·.1) = false := by rfl) :
    PE X (.Call (.Name x p) (e :: es) [] pos) (tMkW C sp E t) := by
  obtain ⟨f, fd, ps, M, F, hm, b⟩ := c.ex
  constructor
  intro pins s σ H Q I h
  refine wpAny_Call_Name_kw (ld_glob I hg hm ?_ hdb)
  refine PySem.W.callWith_K (h₀ := X.base) I.ok.mod.kin M.kp (thn (ha.run pos pins s σ H _ I h) fun us s1 z => ?_) he hpl
  obtain ⟨vs, H1, I1, rr, q⟩ := z
  refine ⟨I1.kIn, ?_⟩
  obtain ⟨n, hn⟩ : ∃ n, n = s1.heap.objs.size := ⟨_, rfl⟩
  have q1 := q (n + 1) n (I1.hok.fresh (by rw [hn]; exact Nat.le_succ _)) (I1.hok.fresh (by rw [hn]; exact Nat.le_refl _)) (Nat.ne_of_lt (Nat.lt_succ_self _))
  subst hn
  have J := Inv.made (C := C) I1
  have r3 : Vals (V.ref (s1.heap.objs.size + 1) :: vs) (Value.ref (s1.heap.objs.size + 1) :: us) := .cons rfl rr
  have b3 := b { s1 with heap := (s1.heap.push PySem.W.emptyDict).push (PySem.W.instObj C s1.heap.objs.size) } (Value.ref (s1.heap.objs.size + 1) :: us) J.kIn (by rw [List.append_nil, ← r3.length]; exact F.len _ _ _ _ q1)
  rw [List.append_nil] at b3
  have run := F.run _ X.stack _ _ _ _ _ _ _ ((hr.mono hk).make C us []) (J.env0.make C us []) b3 r3 q1
  refine wpAny_call (make_map (f := f) I1.kIn M.makes M.init (beq_iff_eq.mp M.fn) (codeAny_mono run fun r s' hq => ?_))
  have z := back_at (hx σ) J r s' hq
  match r, z with
  | .error e, z => exact z
  | .ok (.ret u), ⟨v, H', J', rv, ev, q3⟩ =>
    subst ev
    exact ⟨rv, V.ref (s1.heap.objs.size + 1), H', J', rfl, q3⟩
theorem run_atE {f : Addr} {fd : FuncData} {ps : List Str} {σ : L2.St} {H : Hp} {s : Shared} {pins : List (Addr × Obj)} {Q : VK} {us : List Value} {vs : List V} (F : FnOk X.prog X.w X.K X.mg X.base (L2N.CX X.prog X.w) k f fd ps sp) (b : Binds X.K fd ps []) (hx : PassesAt (L2N.CX X.prog X.w) X σ (E σ)) (hr : Room k X.A) (I : Inv X pins σ H s) (r : Vals vs us) (h : sp vs H Q (E σ)) :
    codeAny (model X.prog X.w) X.A (.call (.ref f) ⟨us, []⟩) (fun r s' => match r with | .ok (.ret v) => EP X pins σ Q v s' | .ok _ => False | .error e => X.xe e s') s := by
  have b3 := b s us I.kIn (by rw [List.append_nil, ← r.length]; exact F.len _ _ _ _ h)
  rw [List.append_nil] at b3
  exact codeAny_mono (F.run _ X.stack _ _ _ _ _ _ _ hr I.env0 b3 r h) (back_at hx I)
theorem pe_coE (c : CobX X.prog X.w X.K X.mg X.base k C sp) (hf : PE X fe tf) (hx : ∀ σ, PassesAt (L2N.CX X.prog X.w) X σ (E σ)) (hr : Room j X.A) (hk : k ≤ j) (ha : PA X (e :: es) t)
    (ht : eval (.Call fe (e :: es) [] pos) X.env = (do callWith pos (← eval fe X.env) [] (backTo pos (starEach (e :: es) X.env)) (backToKw pos (keywordEach [] X.env))) := by rfl)
    (he : starEach (e :: es) X.env = (false, eval e X.env) :: starEach es X.env := by rfl) (hpl : (backTo pos (starEach es X.env)).any (·.1) = false := by rfl) : PE X (.Call fe (e :: es) [] pos) (tCoW C sp E tf t) := by
  obtain ⟨g, fd, ps, co, F, b⟩ := c.ex
  constructor
  intro pins s σ H Q I h
  refine Call_ (thn (hf.run pins s σ H _ I h) fun u s1 ⟨y, H1, I1, ry, a, ey, q⟩ => ?_) ht
  subst ey
  obtain rfl : u = Value.ref a := ry
  refine StX.callO_with (thn (ha.run pos pins s1 σ H1 _ I1 q) fun us s2 z => ?_) he hpl
  obtain ⟨vs, H2, I2, r, hi, q2⟩ := z
  have hi2 : StX.InsC X H2 a C := .inr hi
  obtain ⟨ox, od, J, hd⟩ := StX.insC_at I2 hi2
  exact ⟨⟨C, ox, od, J, hd⟩, wpAny_call (PySem.W.kco_code I2.kIn J hd co.at_ co.fn co.fi (run_atE (vs := .ref a :: vs) (us := .ref a :: us) F b (hx σ) (hr.mono hk) I2 (.cons rfl r) q2))⟩
theorem pe_meE {pl : Sem Bool} (c : MetX X.prog X.w X.K X.mg X.base k C m sp) (ho : PE X o ta) (hx : ∀ σ, PassesAt (L2N.CX X.prog X.w) X σ (E σ)) (hr : Room j X.A) (hk : k ≤ j) (ha : PA X (e :: es) t)
    (hst : starEach (e :: es) X.env = (false, eval e X.env) :: starEach es X.env := by rfl) (hpl : (backTo pos (starEach es X.env)).any (·.1) = false := by rfl)
    (ht : eval (.Call (.Attribute o m apos) (e :: es) [] pos) X.env = (do
      let ov ← eval o X.env
      standAt apos.atName
      let (g, first) ← holding [ov] (getMethod ov m pl)
      callWith pos g first (backTo pos (starEach (e :: es) X.env)) (backToKw pos (keywordEach [] X.env))) := by rfl) : PE X (.Call (.Attribute o m apos) (e :: es) [] pos) (tMeW C m sp E ta t) := by
  obtain ⟨f, fd, ps, cl, me, F, b⟩ := c.ex
  constructor
  intro pins s σ H Q I h
  refine PySem.W.methodCall_KW (pl := pl) (thn (ho.run pins s σ H _ I h) fun u s1 z => ?_) ht
  obtain ⟨y, H1, I1, ry, a, dx, fs, ey, ea, l, q⟩ := z
  subst ey
  obtain rfl : u = Value.ref a := ry
  refine getmeth_ok I1 ea cl me l ?_
  refine PySem.W.callWith_K (first := [.ref a]) (h₀ := X.base) I.ok.mod.kin me.kp (thn (ha.run pos pins s1 σ H1 _ I1 q) fun us s2 z => ?_) hst hpl
  obtain ⟨vs, H2, I2, r, q2⟩ := z
  exact ⟨I2.kIn, wpAny_call (run_atE (vs := .ref a :: vs) (us := .ref a :: us) F b (hx σ) (hr.mono hk) I2 (.cons rfl r) q2)⟩
theorem takes_fn {P : Program} {w : World} {K : PySem.W.Frag} {mg : Str → Option Value} {base : Heap} {N : List Str} {qual : Str} {scope : Scope} {f : Addr} {cd : Value} {A : Around} {outer : List Env} {s : Shared} {H : Hp} {E : XK} : L2N.Takes (cxOf (L2N.CX P w) P w K mg base N qual scope f cd A outer s H E) (fun cls d _ H' => E cls d H') := L2N.takes_of rfl rfl rfl rfl
end
end Z
set_option Elab.async false
set_option linter.all false
set_option maxRecDepth 100000
set_option maxHeartbeats 4000000
namespace Z
open PySem PySem.Spec PyProof.Rows L2 L2H
/-! ### calls within an except suite -/
section
variable {P : Program} {w : World} {K : PySem.W.Frag} {mg : Str → Option Value} {base : Heap} {x qual : Str} {params : Arguments} {body : List Stmt} {scope : Scope} {dvs : List V} {kws : List (Str × V)} {f : Addr} {fd : FuncData}
theorem fund_okH {N ps : List Str} {k : Nat} {sp : Sp} (F : FunD K x qual params body scope dvs kws f fd) (S : FnScope N ps scope) (len : ∀ vs H Q E, sp vs H Q E → vs.length = ps.length)
    (hbody : ∀ (cdv : Value) (A : Around) (outer : List Env) (s : Shared) (H : Hp) (vs : List V) (Q : VK) (E : XK) (p : Addr × Obj), Hot1 A p → RoomH k (A.deeper (envOfC qual scope s.heap.objs.size f cdv)) → sp vs H Q E →
      ∃ t, PSs (cxH CX0 P w K mg base N qual scope f cdv A outer s H E p) body t ∧ t { nx := fun _ H' => Q .non H', rt := Q } (L2.start N vs) H) : FnH P w K mg base CX0 (k + 1) f fd ps sp := by
  obtain ⟨oc, od, dV, kV, doc, pm, an, cdv, ct, osl, rfl, lk, hcd, _, _⟩ := F.ex
  exact fn_ofH lk hcd S len (hbody cdv)
structure CalH (P : Program) (w : World) (K : PySem.W.Frag) (mg : Str → Option Value) (base : Heap) (k : Nat) (x : Str) (sp : Sp) : Prop where
  ex : ∃ (f : Addr) (fd : FuncData) (ps : List Str), FnH P w K mg base CX0 k f fd ps sp ∧ mg x = some (.ref f) ∧ PySem.W.keepIn K (.ref f) = true ∧ Binds K fd ps []
end
section
variable {X : Cx} {k j : Nat} {x : Str} {sp : Sp} {p pos : Pos} {e : Expr} {es : List Expr} {t : TA}
theorem pe_clH (c : CalH X.prog X.w X.K X.mg X.base k x sp) (hr : RoomH j X.A) (hk : k ≤ j) (hc : HotC X) (hg : Gl X x) (ha : PA X (e :: es) t) (hdb : (x == ("__debug__" : Str)) = false := by decide) (he : starEach (e :: es) X.env = (false, eval e X.env) :: starEach es X.env := by rfl) (hpl : (backTo pos (starEach es X.env)).any (·.1) = false := by rfl) :
    PE X (.Call (.Name x p) (e :: es) [] pos) (tCallS sp (fun _ => E0) t) := by
  obtain ⟨f, fd, ps, F, hm, kp, b⟩ := c.ex
  exact pe_callH F (hr.mono hk) hc hg hm kp b (fun σ _ _ _ _ _ _ h => h.elim) ha hdb he hpl
theorem hotC_suite {a : Addr} {cls : Value} {d : Option Addr} {oe : Obj} {pn : List (Addr × Obj)} (hz : L2N.Zn cls d oe) (hf : ∃ vs, oe.data = .fields vs) : HotC (X.suite a ((a, oe) :: pn)) := by
  obtain ⟨vs, e⟩ := hf
  exact ⟨(a, oe), ⟨rfl, vs, e, hz.2.2 vs e⟩, List.mem_cons_self⟩
theorem room_mark {v : Option Value} {A : Around} (r : Room j A) : RoomH j (A.mark v) := roomH_mark r v
theorem takes0N : L2N.Takes X (fun _ _ _ _ => False) := fun _ _ x => by
  obtain ⟨_, _, _, _, _, _, _, _, _, _, _, _, _, _, _, _, z⟩ := x
  exact z.elim
end
theorem hotC_fn {P : Program} {w : World} {K : PySem.W.Frag} {mg : Str → Option Value} {base : Heap} {CX : CXT} {N : List Str} {qual : Str} {scope : Scope} {f : Addr} {cd : Value} {A : Around} {outer : List Env} {s : Shared} {H : Hp} {E : XK} {p : Addr × Obj} (h : Hot1 A p) : HotC (cxH CX P w K mg base N qual scope f cd A outer s H E p) :=
  ⟨p, ⟨h.1, h.2⟩, List.mem_cons_self⟩
end Z
set_option Elab.async false
set_option linter.all false
set_option maxRecDepth 100000
set_option maxHeartbeats 4000000
namespace Z
open PySem PySem.Spec PyProof.Rows L2 NdefX
/-! ### what the head tells of such a class -/
def oexB (K : PySem.W.Frag) (C : Addr) : Bool := (match K.lookup C with
  | some ⟨.type t, _, .cls cd, sl⟩ => (match cd.mro, sl.toList with
    | .ref D :: bm, [_, _, _, _, some (.builtin n), _] => decide (t = "type") && (decide (D = C) && (decide (n = "ValueError.__new__") && (!cd.hasDel && (cd.hasDict && PySem.HandSPX.refsVE bm))))
    | _, _ => false)
  | _ => false) && (He.eqO (PySem.W.findIn K (.ref C) "__setattr__") (some (some (.builtin "object.__setattr__"))) && (decide (PySem.W.subIn K (.ref C) (.type "BaseException") = some true) && (decide (PySem.W.typeIn K (.ref C) = some (.type "type")) && PySem.W.keepIn K (.ref C))))
theorem oexB_ok {K : PySem.W.Frag} {C : Addr} (h : oexB K C = true) : OexC K C := by
  obtain ⟨h0, h⟩ := He.ba h
  obtain ⟨h1, h⟩ := He.ba h
  obtain ⟨h2, h⟩ := He.ba h
  obtain ⟨h3, h4⟩ := He.ba h
  refine ⟨?_, He.eqO_ok h1, of_decide_eq_true h2, of_decide_eq_true h3, h4⟩
  split at h0
  · next t dd cd sl lk =>
    split at h0
    · next D bm a0 a1 a2 a3 n a5 em es =>
      obtain ⟨g1, h0⟩ := He.ba h0
      obtain ⟨g2, h0⟩ := He.ba h0
      obtain ⟨g3, h0⟩ := He.ba h0
      obtain ⟨g4, h0⟩ := He.ba h0
      obtain ⟨g5, g6⟩ := He.ba h0
      have g1 := of_decide_eq_true g1
      have g2 := of_decide_eq_true g2
      have g3 := of_decide_eq_true g3
      subst g1 g2 g3
      obtain ⟨c1, c2, c3, c4, c5, c6, c7, c8, c9, c10, c11⟩ := cd
      have k3 : c3 = .ref D :: bm := em
      have k4 : c11 = false := by
        have z : (!c11) = true := g4
        cases c11
        · rfl
        · cases z
      have k5 : c6 = true := g5
      clear em g4 g5
      subst k3 k4 k5
      refine ⟨c1, c5, c4, c2, bm, c7, c8, c9, c10, dd, a0, a1, a2, a3, a5, ?_, g6⟩
      rw [lk]
      have : sl = #[a0, a1, a2, a3, some (.builtin "ValueError.__new__"), a5] := by
        apply Array.toList_inj.mp
        rw [es]
      rw [this]
    · cases h0
  · cases h0
def initFd (K : PySem.W.Frag) (C : Addr) : Option FuncData := match K.lookup (He.ma K C "__init__") with
  | some ⟨_, _, .func fd, _⟩ => some fd
  | _ => none
abbrev SupV : Type := Option (Str × Str × Arguments × FuncBody × Scope × Addr × List Str × Value × Addr)
def supObs (K : PySem.W.Frag) (x : Str) : SupV := (initFd K (He.ga K x)).map fun fd => (fd.name, fd.qualname, fd.params, fd.body, fd.scope, fd.globals, fd.closure.map (·.1), fd.defaults, fd.builtins)
def supVal (q : Str) (st : Stmt) : SupV := some ("__init__", q, defArgs st, .stmts (defBody st), defScope st, mainGlobals, ["__class__"], .none, builtinsNs)
def supB (fl : Str) (K : PySem.W.Frag) (C : Addr) (q : Str) : Bool := (match initFd K C with
  | some fd => (match fd.code, fd.closure with
    | .ref c, [(_, cc)] => PySem.W.codeIn K (.ref c) q && ((match K.lookup c with
      | some ⟨_, _, .fields vs, _⟩ => (match (vs[2]? : Option Value) with
        | some (.str file _) => fl == file
        | _ => false)
      | _ => false) && (match K.lookup cc with
      | some ⟨_, _, .cell (some (.ref D)), _⟩ => decide (D = C)
      | _ => false))
    | _, _ => false)
  | none => false) && (decide (PySem.W.mroIn K C (.ref C) = some true) && (He.eqO (PySem.W.nsIn K cStatics "thirdparty.any") (some none) && (He.eqO (PySem.W.ks_superIn K C C "__init__") (some (some (.builtin "ValueError.__init__"))) && (decide (PySem.W.subIn K (.ref C) (.type "ValueError") = some true) && (PySem.W.excInitIn K C He.veBase "ValueError.__new__" && oexB K C)))))
theorem sup_of {P : Program} {K : PySem.W.Frag} {x q fl : Str} {st : Stmt} (h1 : supObs K x = supVal q st) (h2 : supB fl K (He.ga K x) q = true) (hfl : ((P.main.file : Str) == fl) = true) (htop : (P.main.scope.names.lookup ("super" : Str)).isSome = false) :
    ∃ (c cc : Addr) (fd : FuncData) (kV doc pm ct : Value) (an : Option Addr), fd = PySem.W.fnX "__init__" q (defArgs st) (defBody st) (defScope st) [(("__class__" : Str), cc)] .none kV doc pm an (.ref c) ct ∧ SupK P K (He.ga K x) (He.ma K (He.ga K x) "__init__") c cc fd ∧ PySem.W.codeIn K (.ref c) q = true := by
  obtain ⟨g0, h2⟩ := He.ba h2
  obtain ⟨g1, h2⟩ := He.ba h2
  obtain ⟨g2, h2⟩ := He.ba h2
  obtain ⟨g3, h2⟩ := He.ba h2
  obtain ⟨g4, h2⟩ := He.ba h2
  obtain ⟨g5, g6⟩ := He.ba h2
  unfold supObs at h1
  cases e : initFd K (He.ga K x) with
  | none =>
    rw [e] at h1
    cases h1
  | some fd =>
    rw [e] at h1 g0
    have lk : ∃ oc od osl, K.lookup (He.ma K (He.ga K x) "__init__") = some ⟨oc, od, .func fd, osl⟩ := by
      unfold initFd at e
      split at e
      · next oc od fd' osl l =>
        cases e
        exact ⟨_, _, _, l⟩
      · cases e
    obtain ⟨n1, n2, n3, n4, n5, n6, n7, n8, n9, n10, n11, n12, n13, n14, n15⟩ := fd
    have h1 : (some (n1, n2, n3, n4, n5, n6, n7.map (·.1), n8, n15) : SupV) = supVal q st := h1
    unfold supVal at h1
    simp only [Option.some.injEq, Prod.mk.injEq] at h1
    obtain ⟨a1, a2, a3, a4, a5, a6, a7, a8, a9⟩ := h1
    subst a1 a2 a3 a4 a5 a6 a8 a9
    dsimp only at g0
    split at g0
    · next c y cc =>
      obtain ⟨b1, g0⟩ := He.ba g0
      obtain ⟨b2, b3⟩ := He.ba g0
      have ey : y = "__class__" := by
        have := a7
        simpa using this
      subst ey
      refine ⟨c, cc, _, _, _, _, _, _, rfl, ⟨lk, ?_, ?_, htop, of_decide_eq_true g1, He.eqO_ok g2, He.eqO_ok g3, of_decide_eq_true g4, g5, oexB_ok g6⟩, b1⟩
      · split at b2
        · next u1 u2 vs u3 l =>
          split at b2
          · next file tf ev =>
            refine ⟨_, _, vs, _, file, tf, l, ev, ?_⟩
            rw [beq_iff_eq.mp b2] at hfl
            exact hfl
          · cases b2
        · cases b2
      · split at b3
        · next u1 u2 D u3 l =>
          have := of_decide_eq_true b3
          subst this
          exact ⟨_, _, _, l⟩
        · cases b3
    · cases g0
end Z
set_option Elab.async false
set_option linter.all false
set_option maxRecDepth 100000
set_option maxHeartbeats 4000000
namespace Z
open PySem PySem.Spec PyProof.Rows L2 NdefX
/-! ### isinstance(e, c), e a caught error with a dict of its own -/
def rIsX (K : PySem.W.Frag) (a : Addr) (cls : Value) (d : Option Addr) : List V → Hp → VK → Prop := fun xs H Q => ∃ (D dd : Addr) (fs : List (Str × V)) (c : V) (cv : Value) (b : Bool), cls = .ref D ∧ d = some dd ∧ ExcC K D ∧ H dd = some (.xd fs) ∧ xs = [.ref a, c] ∧ (∀ u, RelV c u → u = cv) ∧ PySem.W.kitOne K (.ref D) cv = some b ∧ Q (.bl b) H
theorem call_isX {X : Cx} {a : Addr} {cls : Value} {d : Option Addr} {oe : Obj} {pn : List (Addr × Obj)} (hz : Zc cls d oe) (hf : ∃ vs, oe.data = .fields vs) : CallR (X.suite a ((a, oe) :: pn)) (.builtin "isinstance") (rIsX X.K a cls d) := by
  intro pins s σ H xs us Q I r h
  obtain ⟨D, dd, fs, c, cv, b, rfl, rfl, C, ed, rfl, hcv, e, q⟩ := h
  obtain ⟨u1, u2, rfl, r1, r2⟩ := vals2 r
  cases r1
  have ec := hcv _ r2
  subst ec
  obtain ⟨hget, _⟩ := I.pin (a, oe) (List.mem_append.mpr (.inl List.mem_cons_self))
  obtain ⟨vs, hv⟩ := hf
  have hx : ObjOk X.prog X.w H s.heap dd (.xd fs) := I.hok dd _ ed
  obtain ⟨mA, hns, hr⟩ := hx
  obtain ⟨od, ho, hl⟩ := lookIn_ns hns
  have J : PySem.W.InstAt s.heap a oe D (some od) := ⟨hget, hz.1, by unfold PySem.W.notCls; rw [hv] <;> rfl, by rw [hz.2]; exact ho⟩
  have hcl : (PySem.W.clsIn X.K D).isSome = true := by
    obtain ⟨cd, hc, _⟩ := PySem.W.any_some C.hd
    rw [hc]
    rfl
  exact PySem.W.kia_one (PySem.W.kitx_exc hcl C.hg C.hk C.hs C.ha C.hn C.ht C.hm) I.kIn J e (fun z => nomatch z) fun tk => ⟨.bl b, H, I.kept (t' := tk) fun _ _ z => z, rfl, q⟩
end Z
set_option Elab.async false
set_option linter.all false
set_option maxRecDepth 100000
set_option maxHeartbeats 4000000
namespace Z
open PySem PySem.Spec PyProof.Rows L2 NdefX
/-! ### the head with own exceptions: facts of defs and classes, one more Bool, the __init__s -/
def asX (g : Addr → Option Obj) (n : Nat) : List Addr := He.asD g n ++ [cStatics]
def hookX (n : Nat) (fa : List He.Fa) (fn : List He.DefD) (xs : List Str) (vs : List SupV) (ex : PySem.W.Frag → Bool) : PySem.W.Hook where
  α := He.AlD × (List SupV × Bool)
  obs := fun s => (He.obsD fa fn (He.frG s.heap.get? (asX s.heap.get? n)), xs.map (supObs (He.frG s.heap.get? (asX s.heap.get? n))), ex (He.frG s.heap.get? (asX s.heap.get? n)))
  val := fun _ => (He.valD fn, vs, true)
  says := fun _ h => ∃ K : PySem.W.Frag, K.In h ∧ He.SaysD fa fn K ∧ xs.map (supObs K) = vs ∧ ex K = true
  of := fun _ _ e => ⟨_, He.frG_in, congrArg (fun z : He.AlD × (List SupV × Bool) => z.1) e, congrArg (fun z : He.AlD × (List SupV × Bool) => z.2.1) e, congrArg (fun z : He.AlD × (List SupV × Bool) => z.2.2) e⟩
  keeps := fun _ _ _ ⟨K, hK, c⟩ k => ⟨K, PySem.W.Frag.In.keeps hK k, c⟩
def obX (n : Nat) (fa : List He.Fa) (fn : List He.DefD) (xs : List Str) (ex : PySem.W.Frag → Bool) (g : Addr → Option Obj) : He.AlD × (List SupV × Bool) := (He.obsD fa fn (He.frG g (asX g n)), xs.map (supObs (He.frG g (asX g n))), ex (He.frG g (asX g n)))
theorem obX_eq {n : Nat} {fa : List He.Fa} {fn : List He.DefD} {xs : List Str} {vs : List SupV} {ex : PySem.W.Frag → Bool} {g : Addr → Option Obj} {s : Shared} (h : ∀ a, g a = s.heap.get? a) : obX n fa fn xs ex g = (hookX n fa fn xs vs ex).obs s := by
  have e : g = s.heap.get? := funext h
  rw [e] <;> rfl
theorem sup_at {xs : List Str} {vs : List SupV} {K : PySem.W.Frag} (e : xs.map (supObs K) = vs) (i : Nat) {x : Str} {v : SupV} (h1 : xs[i]? = some x := by rfl) (h2 : vs[i]? = some v := by rfl) : supObs K x = v := by
  have := congrArg (fun z : List SupV => z[i]?) e
  simp only [List.getElem?_map, h1, h2] at this
  exact Option.some.inj this
def excB (K : PySem.W.Frag) (D : Addr) : Bool := He.eqO (PySem.W.findIn K (.ref D) "__getattribute__") (some (some (.builtin "BaseException.__getattribute__"))) && (He.eqO (PySem.W.findIn K (.ref D) "__getattr__") (some none) && (decide (PySem.W.subIn K (.ref D) (.type "BaseException") = some true) && (PySem.W.hasDictIn K D && (He.eqO (PySem.W.findIn K (.ref D) "__class__") (some (some (.builtin "object.__class__"))) && (He.eqO (PySem.W.specialIn K (.builtin "object.__class__") "__get__") (some (some (.builtin "getset_descriptor.__get__"))) && (decide (PySem.W.takesIn K (.builtin "object.__class__") = some true) && decide (PySem.W.mroIn K D (.type "object") = some true)))))))
theorem excB_ok {K : PySem.W.Frag} {D : Addr} (h : excB K D = true) : ExcC K D ∧ XfC K D := by
  obtain ⟨h1, h⟩ := He.ba h
  obtain ⟨h2, h⟩ := He.ba h
  obtain ⟨h3, h⟩ := He.ba h
  obtain ⟨h4, h⟩ := He.ba h
  obtain ⟨h5, h⟩ := He.ba h
  obtain ⟨h6, h⟩ := He.ba h
  obtain ⟨h7, h8⟩ := He.ba h
  exact ⟨⟨He.eqO_ok h1, He.eqO_ok h2, of_decide_eq_true h3, h4, He.eqO_ok h5, He.eqO_ok h6, of_decide_eq_true h7, of_decide_eq_true h8⟩, ⟨He.eqO_ok h1, He.eqO_ok h2, of_decide_eq_true h3, h4⟩⟩
/-- an own exception class with the field -/
def exnB (fl q field : Str) (K : PySem.W.Frag) (C : Addr) : Bool := supB fl K C q && (He.eqO (PySem.W.findIn K (.ref C) "__init__") (some (some (.ref (He.ma K C "__init__")))) && (decide (PySem.W.typeIn K (.ref (He.ma K C "__init__")) = some (.type "function")) && (He.eqO (PySem.W.findIn K (.ref C) field) (some none) && excB K C)))
structure ExnF (K : PySem.W.Frag) (C : Addr) (q field fl : Str) : Prop where
  sup : supB fl K C q = true
  ini : PySem.W.findIn K (.ref C) "__init__" = some (some (.ref (He.ma K C "__init__")))
  ty : PySem.W.typeIn K (.ref (He.ma K C "__init__")) = some (.type "function")
  no : PySem.W.findIn K (.ref C) field = some none
  ec : ExcC K C
  xf : XfC K C
theorem exnB_ok {fl q field : Str} {K : PySem.W.Frag} {C : Addr} (h : exnB fl q field K C = true) : ExnF K C q field fl := by
  obtain ⟨h1, h⟩ := He.ba h
  obtain ⟨h2, h⟩ := He.ba h
  obtain ⟨h3, h⟩ := He.ba h
  obtain ⟨h4, h5⟩ := He.ba h
  exact ⟨h1, He.eqO_ok h2, of_decide_eq_true h3, He.eqO_ok h4, (excB_ok h5).1, (excB_ok h5).2⟩
def exmB (K : PySem.W.Frag) (a b : Addr) : Bool := decide (PySem.W.exmOne K (.ref a) (.ref b) = some true)
def kitVB (K : PySem.W.Frag) (a : Addr) (v : Value) (b : Bool) : Bool := decide (PySem.W.kitOne K (.ref a) v = some b)
end Z
set_option Elab.async false
set_option linter.all false
set_option maxRecDepth 100000
set_option maxHeartbeats 4000000
namespace Z
open PySem PySem.Spec PyProof.Rows L2 NdefX
/-! ### the head with own exceptions and properties: further observations are any functions of the written part -/
def hookY (n : Nat) (fa : List He.Fa) (fn : List He.DefD) (xs : List (PySem.W.Frag → SupV)) (vs : List SupV) (ex : PySem.W.Frag → Bool) : PySem.W.Hook where
  α := He.AlD × (List SupV × Bool)
  obs := fun s => (He.obsD fa fn (He.frG s.heap.get? (asX s.heap.get? n)), xs.map (fun f => f (He.frG s.heap.get? (asX s.heap.get? n))), ex (He.frG s.heap.get? (asX s.heap.get? n)))
  val := fun _ => (He.valD fn, vs, true)
  says := fun _ h => ∃ K : PySem.W.Frag, K.In h ∧ He.SaysD fa fn K ∧ xs.map (fun f => f K) = vs ∧ ex K = true
  of := fun _ _ e => ⟨_, He.frG_in, congrArg (fun z : He.AlD × (List SupV × Bool) => z.1) e, congrArg (fun z : He.AlD × (List SupV × Bool) => z.2.1) e, congrArg (fun z : He.AlD × (List SupV × Bool) => z.2.2) e⟩
  keeps := fun _ _ _ ⟨K, hK, c⟩ k => ⟨K, PySem.W.Frag.In.keeps hK k, c⟩
def obY (n : Nat) (fa : List He.Fa) (fn : List He.DefD) (xs : List (PySem.W.Frag → SupV)) (ex : PySem.W.Frag → Bool) (g : Addr → Option Obj) : He.AlD × (List SupV × Bool) := (He.obsD fa fn (He.frG g (asX g n)), xs.map (fun f => f (He.frG g (asX g n))), ex (He.frG g (asX g n)))
theorem obY_eq {n : Nat} {fa : List He.Fa} {fn : List He.DefD} {xs : List (PySem.W.Frag → SupV)} {vs : List SupV} {ex : PySem.W.Frag → Bool} {g : Addr → Option Obj} {s : Shared} (h : ∀ a, g a = s.heap.get? a) : obY n fa fn xs ex g = (hookY n fa fn xs vs ex).obs s := by
  have e : g = s.heap.get? := funext h
  rw [e] <;> rfl
theorem y_at {xs : List (PySem.W.Frag → SupV)} {vs : List SupV} {K : PySem.W.Frag} (e : xs.map (fun f => f K) = vs) (i : Nat) {f : PySem.W.Frag → SupV} {v : SupV} (h1 : xs[i]? = some f := by rfl) (h2 : vs[i]? = some v := by rfl) : f K = v := by
  have := congrArg (fun z : List SupV => z[i]?) e
  simp only [List.getElem?_map, h1, h2] at this
  exact Option.some.inj this
def isB (K : PySem.W.Frag) (C : Addr) : Bool := He.eqO (PySem.W.findIn K (.ref C) "__class__") (some (some (.builtin "object.__class__"))) && (He.eqO (PySem.W.specialIn K (.builtin "object.__class__") "__get__") (some (some (.builtin "getset_descriptor.__get__"))) && (decide (PySem.W.takesIn K (.builtin "object.__class__") = some true) && (decide (PySem.W.mroIn K C (.type "object") = some true) && decide (PySem.W.kitOne K (.ref C) (.ref C) = some true))))
theorem isB_ok {K : PySem.W.Frag} {C : Addr} (cl : Cls K C) (h : isB K C = true) : C8.InsC K C := by
  obtain ⟨h1, h⟩ := He.ba h
  obtain ⟨h2, h⟩ := He.ba h
  obtain ⟨h3, h⟩ := He.ba h
  obtain ⟨h4, h5⟩ := He.ba h
  exact ⟨cl, He.eqO_ok h1, He.eqO_ok h2, of_decide_eq_true h3, of_decide_eq_true h4, of_decide_eq_true h5⟩
def spB (K : PySem.W.Frag) (C : Addr) (m : Str) : Bool := He.eqO (PySem.W.findIn K (.ref C) m) (some (some (.ref (He.ma K C m)))) && (PySem.W.isFn K (.ref (He.ma K C m)) && PySem.W.fnIn K (He.ma K C m))
theorem spB_ok {K : PySem.W.Frag} {C : Addr} {m : Str} (h : spB K C m = true) : PySem.W.findIn K (.ref C) m = some (some (.ref (He.ma K C m))) ∧ PySem.W.isFn K (.ref (He.ma K C m)) = true ∧ PySem.W.fnIn K (He.ma K C m) = true := by
  obtain ⟨h1, h⟩ := He.ba h
  obtain ⟨h2, h3⟩ := He.ba h
  exact ⟨He.eqO_ok h1, h2, h3⟩
theorem all_at {bs : List Bool} (h : bs.all id = true) (i : Nat) {b : Bool} (e : bs[i]? = some b := by rfl) : b = true := List.all_eq_true.mp h b (List.mem_of_getElem? e)
theorem fnr_ok {P : Program} {w : World} {K : PySem.W.Frag} {mg : Str → Option Value} {base : Heap} {k : Nat} {f : Addr} {fd : FuncData} {ps : List Str} {sp : Sp} (F : FnOk P w K mg base CX0 k f fd ps sp) (b : Binds K fd ps []) : FnR P w K mg base CX0 k f sp := (FnOk.raw (dvs := []) F b .nil).imp fun vs H Q E h => by
  show sp (vs ++ []) H Q E
  rw [List.append_nil]
  exact h
/-! a property's getter -/
def gtA (K : PySem.W.Frag) (C : Addr) (m : Str) : Addr := match PySem.W.recIn K (He.ma K C m) "property" with
  | some (.ref g :: _) => g
  | _ => 0
def fdAt (K : PySem.W.Frag) (g : Addr) : Option FuncData := match K.lookup g with
  | some ⟨_, _, .func fd, _⟩ => some fd
  | _ => none
def propObs (x m : Str) (K : PySem.W.Frag) : SupV := (fdAt K (gtA K (He.ga K x) m)).map fun fd => (fd.name, fd.qualname, fd.params, fd.body, fd.scope, fd.globals, fd.closure.map (·.1), fd.defaults, fd.builtins)
def propVal (m q : Str) (st : Stmt) : SupV := some (m, q, defArgs st, .stmts (defBody st), defScope st, mainGlobals, [], .none, builtinsNs)
def propB (K : PySem.W.Frag) (C : Addr) (m q : Str) : Bool := He.eqO (PySem.W.findIn K (.ref C) m) (some (some (.ref (He.ma K C m)))) && (He.eqO (PySem.W.specialIn K (.ref (He.ma K C m)) "__get__") (some (some (.builtin "property.__get__"))) && (decide (PySem.W.takesIn K (.ref (He.ma K C m)) = some true) && ((match PySem.W.recIn K (He.ma K C m) "property" with
  | some (.ref _ :: _) => true
  | _ => false) && (PySem.W.keepIn K (.ref (gtA K C m)) && (match fdAt K (gtA K C m) with
  | some fd => PySem.W.codeIn K fd.code q && (He.dflB K fd.defaults [] && He.kwdB K fd.kwdefaults [])
  | none => false)))))
theorem prop_of {K : PySem.W.Frag} {x m q : Str} {st : Stmt} (h1 : propObs x m K = propVal m q st) (h2 : propB K (He.ga K x) m q = true) : ∃ fd : FuncData, PropOf K (He.ga K x) m (He.ma K (He.ga K x) m) (gtA K (He.ga K x) m) ∧ FunD K m q (defArgs st) (defBody st) (defScope st) [] [] (gtA K (He.ga K x) m) fd := by
  obtain ⟨g0, h2⟩ := He.ba h2
  obtain ⟨g1, h2⟩ := He.ba h2
  obtain ⟨g2, h2⟩ := He.ba h2
  obtain ⟨g3, h2⟩ := He.ba h2
  obtain ⟨g4, g5⟩ := He.ba h2
  have P : PropOf K (He.ga K x) m (He.ma K (He.ga K x) m) (gtA K (He.ga K x) m) := by
    refine ⟨He.eqO_ok g0, He.eqO_ok g1, of_decide_eq_true g2, ?_⟩
    unfold gtA
    split at g3
    · next g rest e =>
      rw [e]
      exact ⟨rest, rfl⟩
    · cases g3
  unfold propObs at h1
  cases e : fdAt K (gtA K (He.ga K x) m) with
  | none =>
    rw [e] at h1
    cases h1
  | some fd =>
    rw [e] at h1 g5
    have lk : ∃ oc od osl, K.lookup (gtA K (He.ga K x) m) = some ⟨oc, od, .func fd, osl⟩ := by
      unfold fdAt at e
      split at e
      · next oc od fd' osl l =>
        cases e
        exact ⟨_, _, _, l⟩
      · cases e
    obtain ⟨oc, od, osl, lk⟩ := lk
    obtain ⟨n1, n2, n3, n4, n5, n6, n7, n8, n9, n10, n11, n12, n13, n14, n15⟩ := fd
    have h1 : (some (n1, n2, n3, n4, n5, n6, n7.map (·.1), n8, n15) : SupV) = propVal m q st := h1
    unfold propVal at h1
    simp only [Option.some.injEq, Prod.mk.injEq] at h1
    obtain ⟨a1, a2, a3, a4, a5, a6, a7, a8, a9⟩ := h1
    have a7 : n7 = [] := List.map_eq_nil_iff.mp a7
    subst a1 a2 a3 a4 a5 a6 a7 a8 a9
    obtain ⟨k1, k2⟩ := He.ba (show (PySem.W.codeIn K n13 n2 && (He.dflB K .none [] && He.kwdB K n9 [])) = true from g5)
    obtain ⟨k3, k4⟩ := He.ba k2
    exact ⟨_, P, ⟨oc, od, _, n9, n10, n11, n12, n13, n14, osl, rfl, lk, k1, He.dflB_ok k3, He.kwdB_ok k4⟩, g4⟩
end Z
set_option Elab.async false
set_option linter.all false
set_option maxRecDepth 100000
set_option maxHeartbeats 4000000
namespace Z
open PySem PySem.Spec PyProof.Rows L2
/-! ### comprehensions that give ints, over a list of ints and over a range -/
theorem lc_ofs {K : PySem.W.Frag} {J : It} {D : Addr} {n : Nat} {H0 : Hp} {i : Nat} {te : TE} {vs : List Nat} {σ : L2.St} {Qd : Hp → Prop} (g : Nat → Int) (xv : Nat → V) (hn : n ≤ 1000000) (nD : H0 D = none)
    (hgo : ∀ k H1, k < n → Same H0 H1 → J.go k H1) (hst : ∀ H1, Same H0 H1 → J.stop n H1) (hy : ∀ k H1 x H2, k < n → Same H0 H1 → J.yld k H1 x H2 → H2 = H1 ∧ x = xv k)
    (hw : ∀ k, wipe ((wipe σ vs).set i (some (xv k))) vs = wipe σ vs)
    (ht : ∀ k H1 (Q : VK), k < n → Same H0 H1 → (∀ H2, Same H1 H2 → Q (.int (g k)) H2) → te ((wipe σ vs).set i (some (xv k))) H1 Q)
    (hd : ∀ H1, Same H0 H1 → H1 D = some (.lst (((List.range n).map g).map V.int)) → Qd H1) : lcW J (gName i) tYes te vs σ D Qd H0 := by
  refine lc_gen (n := n) (fun k H1 => Same H0 H1 ∧ H1 D = some (.lst (((List.range k).map g).map V.int))) ⟨same_new nD, upd_same⟩ (fun k H1 hk p => hgo k H1 hk p.1) (fun H1 p => hst H1 p.1) ?_ (fun H1 p => hd H1 p.1 p.2)
  rintro k H1 x H2 hk ⟨s, e⟩ y
  obtain ⟨rfl, rfl⟩ := hy k H1 x H2 hk s y
  refine ⟨hw k, ?_⟩
  refine ht k _ _ hk s (fun H3 s3 => ⟨_, s3 _ _ e, ?_, Z.Same.mut (s.trans s3) nD, ?_⟩)
  · rw [List.length_map, List.length_map, List.length_range]
    exact Nat.lt_of_lt_of_le hk (Nat.le_trans hn (by decide))
  · rw [upd_same, List.range_succ, List.map_append, List.map_append]
    rfl
theorem lc_rng {K : PySem.W.Frag} {lo : Int} {D : Addr} {n : Nat} {H0 : Hp} {i : Nat} {te : TE} {vs : List Nat} {σ : L2.St} {Qd : Hp → Prop} (g : Nat → Int) (hn : n ≤ 1000000) (nD : H0 D = none) (hw : ∀ k : Nat, wipe ((wipe σ vs).set i (some (.int (lo + k)))) vs = wipe σ vs)
    (ht : ∀ (k : Nat) H1 (Q : VK), k < n → Same H0 H1 → (∀ H2, Same H1 H2 → Q (.int (g k)) H2) → te ((wipe σ vs).set i (some (.int (lo + k)))) H1 Q)
    (hd : ∀ H1, Same H0 H1 → H1 D = some (.lst (((List.range n).map g).map V.int)) → Qd H1) : lcW (Itr lo n) (gName i) tYes te vs σ D Qd H0 :=
  lc_ofs (K := K) g (fun k => .int (lo + k)) hn nD (fun k H1 hk _ => hk) (fun H1 _ => Nat.le_refl _) (fun k H1 x H2 _ _ y => y) hw ht hd
theorem lc_lst {K : PySem.W.Frag} {a D : Addr} {xs : List Int} {H0 : Hp} {i : Nat} {te : TE} {vs : List Nat} {σ : L2.St} {Qd : Hp → Prop} (hS : SqL K H0 a (xs.map V.int)) (g : Int → Int) (hn : xs.length ≤ 1000000) (nD : H0 D = none) (hw : ∀ x : Int, wipe ((wipe σ vs).set i (some (.int x))) vs = wipe σ vs)
    (ht : ∀ x H1 (Q : VK), x ∈ xs → Same H0 H1 → (∀ H2, Same H1 H2 → Q (.int (g x)) H2) → te ((wipe σ vs).set i (some (.int x))) H1 Q)
    (hd : ∀ H1, Same H0 H1 → H1 D = some (.lst ((xs.map g).map V.int)) → Qd H1) : lcW (Itl K a) (gName i) tYes te vs σ D Qd H0 := by
  have ex : ∀ k, k < xs.length → (xs.map V.int)[k]? = some (.int (xs.getD k 0)) := fun k hk => by
    rw [List.getElem?_map, List.getD_eq_getElem?_getD, List.getElem?_eq_getElem hk]
    rfl
  refine lc_ofs (K := K) (n := xs.length) (fun k => g (xs.getD k 0)) (fun k => .int (xs.getD k 0)) hn nD (fun k H1 hk s => ⟨_, _, s.seq hS, ex k hk⟩) (fun H1 s => ⟨_, s.seq hS, by rw [List.length_map]; exact Nat.le_refl _⟩) (fun k H1 x H2 hk s y => ⟨y.1, Option.some.inj ((y.2 _ (s.seq hS)).symm.trans (ex k hk))⟩) (fun k => hw _) (fun k H1 Q hk s q => ht _ H1 Q ?_ s q) (fun H1 s e => hd H1 s ?_)
  · rw [List.getD_eq_getElem?_getD, List.getElem?_eq_getElem hk]
    exact List.getElem_mem hk
  · rw [e]
    congr 2
    congr 1
    apply List.ext_getElem
    · rw [List.length_map, List.length_map, List.length_range]
    · intro k h1 h2
      rw [List.length_map] at h2
      rw [List.getElem_map, List.getElem_map, List.getElem_range, List.getD_eq_getElem?_getD, List.getElem?_eq_getElem h2]
      rfl
/-- for x in xs, ints -/
theorem for_lst {K : PySem.W.Frag} {a : Addr} {xs : List Int} {H0 H : Hp} {i : Nat} {tb : TS} {D : Ends} {σ : L2.St} (hS : SqL K H0 a (xs.map V.int)) (Pv : Nat → L2.St → Hp → Prop) (h0 : Pv 0 σ H) (hq : ∀ k σ H1, Pv k σ H1 → Same H0 H1)
    (hs : ∀ (k : Nat) (x : Int) (σ : L2.St) (H1 : Hp), xs[k]? = some x → Pv k σ H1 → tb { D with nx := Pv (k + 1), ct := Pv (k + 1), bk := D.nx } (σ.set i (some (.int x))) H1)
    (hd : ∀ σ H1, Pv xs.length σ H1 → D.nx σ H1) : forW (Itl K a) (gName i) tb D σ H := by
  have ex : ∀ k, k < xs.length → (xs.map V.int)[k]? = some (.int (xs.getD k 0)) := fun k hk => by
    rw [List.getElem?_map, List.getD_eq_getElem?_getD, List.getElem?_eq_getElem hk]
    rfl
  refine for_gen (n := xs.length) Pv h0 (fun k σ H1 hk p => ⟨_, _, (hq k σ H1 p).seq hS, ex k hk⟩) (fun σ H1 p => ⟨_, (hq _ σ H1 p).seq hS, by rw [List.length_map]; exact Nat.le_refl _⟩) ?_ hd
  intro k σ H1 x H2 hk p y
  obtain ⟨rfl, e⟩ := y
  have e2 := Option.some.inj ((e _ ((hq k σ _ p).seq hS)).symm.trans (ex k hk))
  subst e2
  refine hs k _ σ _ ?_ p
  rw [List.getD_eq_getElem?_getD, List.getElem?_eq_getElem hk]
  rfl
/-- for x in xs, any values -/
theorem for_vs {K : PySem.W.Frag} {a : Addr} {xs : List V} {H0 H : Hp} {i : Nat} {tb : TS} {D : Ends} {σ : L2.St} (hS : SqL K H0 a xs) (Pv : Nat → L2.St → Hp → Prop) (h0 : Pv 0 σ H) (hq : ∀ k σ H1, Pv k σ H1 → Same H0 H1)
    (hs : ∀ (k : Nat) (x : V) (σ : L2.St) (H1 : Hp), xs[k]? = some x → Pv k σ H1 → tb { D with nx := Pv (k + 1), ct := Pv (k + 1), bk := D.nx } (σ.set i (some x)) H1)
    (hd : ∀ σ H1, Pv xs.length σ H1 → D.nx σ H1) : forW (Itl K a) (gName i) tb D σ H := by
  refine for_gen (n := xs.length) Pv h0 (fun k σ H1 hk p => ⟨_, _, (hq k σ H1 p).seq hS, List.getElem?_eq_getElem hk⟩) (fun σ H1 p => ⟨_, (hq _ σ H1 p).seq hS, Nat.le_refl _⟩) ?_ hd
  intro k σ H1 x H2 hk p y
  obtain ⟨rfl, e⟩ := y
  exact hs k x σ _ (e _ ((hq k σ _ p).seq hS)) p
theorem pe_fld_K {X : Cx} {K : PySem.W.Frag} {e : Expr} {f : Str} {pos : Pos} {ta : TE} (h : X.K = K) (he : PE X e ta) (hb : attributeBase e f X.env (eval e X.env) = eval e X.env) : PE X (.Attribute e f pos) (tFld K ta f) := by
  subst h
  exact pe_fld he hb
/-! ### reads -/
theorem at_nat {xs : List Int} {i : Int} (h0 : 0 ≤ i) (h1 : i < xs.length) : atI (xs.map V.int) i = some (.int (xs.getD i.toNat 0)) := by
  have hk : i.toNat < xs.length := by omega
  rw [show i = ((i.toNat : Nat) : Int) by omega, List.getD_eq_getElem?_getD, Int.toNat_natCast, List.getElem?_eq_getElem hk]
  exact at_map (List.getElem?_eq_getElem hk)
theorem rd_at {K : PySem.W.Frag} {H : Hp} {a : Addr} {xs : List Int} {i : Int} {R : V → Prop} (h : SqL K H a (xs.map V.int)) (h0 : 0 ≤ i) (h1 : i < xs.length) (q : R (.int (xs.getD i.toNat 0))) : ∃ a' ys j v, V.ref a = .ref a' ∧ V.int i = .int j ∧ SqL K H a' ys ∧ atI ys j = some v ∧ R v := ⟨a, _, i, _, rfl, rfl, h, at_nat h0 h1, q⟩
theorem rd_atT {K : PySem.W.Frag} {H : Hp} {a : Addr} {xs : List Int} {i : Int} {R : V → Prop} (h : SqT K H a (xs.map V.int)) (h0 : 0 ≤ i) (h1 : i < xs.length) (q : R (.int (xs.getD i.toNat 0))) : ∃ a' ys j v, V.ref a = .ref a' ∧ V.int i = .int j ∧ SqT K H a' ys ∧ atI ys j = some v ∧ R v := ⟨a, _, i, _, rfl, rfl, h, at_nat h0 h1, q⟩
end Z
set_option Elab.async false
set_option linter.all false
set_option maxRecDepth 100000
set_option maxHeartbeats 4000000
namespace Z
open PySem PySem.Spec PyProof.Rows L2
/-! ### enumerate(x) of one argument: x a list, a tuple or a text -/
theorem enum_new1 {v : Value} {o : Obj} {G : Heap → Prop} (B : Begins v o G) :
    Meets (Builtin.«enumerate.__new__» ⟨[.type "enumerate", v], []⟩) (fun _ R s => G s.heap ∧
      R (.ok (.ret (.ref (s.heap.push o).objs.size))) { s with heap := (s.heap.push o).push { cls := .type "enumerate", data := .fields #[.none, .bool false, .ref s.heap.objs.size, rawInt 0, .none, .none] } }) :=
  .of_wp fun prog w A R s h => by
    obtain ⟨hp, gl, dd, tok, oo⟩ := s
    obtain ⟨g1, h⟩ := h
    have hsub := sub_enumerate
    have step : ∀ {A' : Around} {E : Value → Shared → Prop} {Q : Value → Shared → Prop}, Q (.ref hp.objs.size) ⟨hp.push o, gl, dd, tok, oo⟩ → wpAny (model prog w) A' (pyIter v) Q E ⟨hp, gl, dd, tok, oo⟩ := fun z => B.iter prog w _ _ ⟨hp, gl, dd, tok, oo⟩ _ g1 z
    wp_walk using step
    refine wpAny_stack_any fun _ => wpAny_pure ?_
    split
    · rename_i cc _ _ _ _ _
      cases (cc == Value.type "enumerate") <;>
        (wp_walk using step
         exact ⟨_, rfl, h⟩)
    · wp_walk using step
      exact ⟨_, rfl, h⟩
section
variable {prog : Program} {w : World} {A : Around} {E : Value → Shared → Prop} {s : Shared}
theorem enum_begins1 {v : Value} {o : Obj} {G : Heap → Prop} {Q : Value → Shared → Prop} (B : Begins v o G) (g : G s.heap)
    (h : ∀ h', IsEnum h' (s.heap.objs.size + 1) s.heap.objs.size 0 .none → h'.get? s.heap.objs.size = some o → (∀ b ob, s.heap.get? b = some ob → h'.get? b = some ob) → Q (.ref (s.heap.objs.size + 1)) { s with heap := h' }) :
    wpAny (model prog w) A (call (.type "enumerate") [v]) Q E s := by
  refine callType_new F.called_enumerate (by decide) (F.typeCall_enumerate_1 v) (F.newCall_enumerate_1 v) (fun ob => F.args_object_init_2 ob _) F.entry_enumerate_new (enum_new1 B) ⟨g, ?_⟩
  have sz : (s.heap.push o).objs.size = s.heap.objs.size + 1 := Heap.size_push ..
  show _ ∧ _
  rw [sz]
  have ie : IsEnum ((s.heap.push o).push { cls := .type "enumerate", data := .fields #[.none, .bool false, .ref s.heap.objs.size, rawInt 0, .none, .none] }) (s.heap.objs.size + 1) s.heap.objs.size 0 .none := by
    have z := Heap.get?_push_size (s.heap.push o) (o := { cls := .type "enumerate", data := .fields #[.none, .bool false, .ref s.heap.objs.size, rawInt 0, .none, .none] }) rfl
    rw [sz] at z
    exact z
  exact ⟨⟨_, ie, rfl⟩, h _ ie (Heap.get?_push_of_some _ (Heap.get?_push_size _ B.free)) fun b ob z => Heap.get?_push_of_some _ (Heap.get?_push_of_some _ z)⟩
end
/-- pairs of a turn's number and its item -/
def ItEM (p : Bool) (K : PySem.W.Frag) (a : Addr) : It :=
  ⟨fun i H => ∃ (xs : List V) (x : V), SqK p K H a xs ∧ xs[i]? = some x,
   fun i H v H' => ∃ T x, v = .ref T ∧ H T = none ∧ H' = upd H T (.tup [.int (i : Nat), x]) ∧ (∀ xs, SqK p K H a xs → xs[i]? = some x),
   fun i H => ∃ xs : List V, SqK p K H a xs ∧ xs.length = i⟩
def ItES (z : Str) : It :=
  ⟨fun i _ => i < z.cps.size,
   fun i H v H' => ∃ T c, v = .ref T ∧ H T = none ∧ H' = upd H T (.tup [.int (i : Nat), .str ⟨#[c]⟩]) ∧ z.cps[i]? = some c,
   fun i _ => z.cps.size = i⟩
theorem enum_item {X : Cx} {pins : List (Addr × Obj)} {σ : L2.St} {H : Hp} {s : Shared} {e it : Addr} {fp : List Addr} {n i : Nat} {Pi : Nat → Value → Prop} {Si : Nat → Heap → Prop} {old : Value} {elts : List Expr} {kk : Nat} {tpos : Pos} {E : Value → Shared → Prop}
    (I : Inv X pins σ H s) (hf : ∀ b ∈ [e, it], FpOk X pins H b) (D : Draws X.prog X.w X.A.in1 it fp n Pi Si) (he : IsEnum s.heap e it ((i : Nat) : Int) old) (st : Si i s.heap) (lt : i < n) (ne : e ≠ it) (ef : e ∉ fp)
    (x : V) (ru : ∀ v, Pi i v → L2.RelV x v) :
    wpAny (model X.prog X.w) X.A (pyNext (.ref e)) (fun r s1 => ∃ u, r = some u ∧ wpAny (model X.prog X.w) X.A (letOwnedTupleGo (.Tuple elts kk tpos) (.ref e) u) (fun _ s2 => ∃ T, u = .ref T ∧ H T = none ∧ Inv X pins σ (upd H T (.tup [.int (i : Nat), x])) s2 ∧ (∃ o, IsEnum s2.heap e it ((i + 1 : Nat) : Int) o) ∧ Si (i + 1) s2.heap ∧ ∀ b ∈ [e, it], upd H T (.tup [.int (i : Nat), x]) b = none) E s1) E s := by
  have el : e < s.heap.objs.size := Heap.lt_size he
  have il : it < s.heap.objs.size := by
    obtain ⟨_, z⟩ := D.live _ _ st
    exact Heap.lt_size z
  refine wpAny_pyNext_enum_itemC D he st lt ne ef fun v g tk pv go st' gT gs gk => ?_
  refine ⟨_, rfl, wpAny_letOwnedTupleGo_enum (s := { s with heap := g, toks := tk + 1 }) go fun g2 ge sb => ?_⟩
  have gT2 : g2.get? s.heap.objs.size = some { cls := .type "tuple", data := .seq #[.int i tk, v] } := (sb.2 _ (Nat.ne_of_gt el)).trans gT
  have nw : ObjOk X.prog X.w (upd H s.heap.objs.size (.tup [.int (i : Nat), x])) g2 s.heap.objs.size (.tup [.int (i : Nat), x]) := ⟨by show 2 ≤ sizeLine; decide, [.int i tk, v], .cons ⟨tk, rfl⟩ (.cons (ru v pv) .nil), ⟨_, gT2, rfl, _, rfl⟩⟩
  have I1 : Inv X pins σ (upd H s.heap.objs.size (.tup [.int (i : Nat), x])) { s with heap := g2, toks := tk + 1 } :=
    I.turnedNew (t' := tk + 1) (ch := [e, it]) (fun b ob nb z => (sb.2 b (fun w => nb (by simp [w]))).trans (gk b ob (fun w => nb (by simp [w])) (fun w => nb (by simp [w])) z)) hf (Nat.le_refl _) nw
  refine ⟨_, rfl, I.hok.fresh (Nat.le_refl _), I1, ⟨v, ?_⟩, D.frame _ _ _ st' fun b hb o z => (sb.2 b fun w => ef (w ▸ hb)).trans z, fun b hb => ?_⟩
  · rw [show ((i + 1 : Nat) : Int) = (i : Int) + 1 by omega]
    exact ge
  · have lb : b < s.heap.objs.size := by
      rcases (show b = e ∨ b = it by simpa using hb) with z | z
      · rw [z]
        exact el
      · rw [z]
        exact il
    rw [upd_ne (Nat.ne_of_lt lb)]
    exact (hf b hb).1
theorem enum_done {X : Cx} {pins : List (Addr × Obj)} {σ : L2.St} {H : Hp} {s : Shared} {e it : Addr} {fp : List Addr} {n : Nat} {Pi : Nat → Value → Prop} {Si : Nat → Heap → Prop} {old : Value} {c : Int} {E : Value → Shared → Prop}
    (I : Inv X pins σ H s) (hf : ∀ b ∈ [e, it], FpOk X pins H b) (D : Draws X.prog X.w X.A.in1 it fp n Pi Si) (he : IsEnum s.heap e it c old) (st : Si n s.heap) :
    wpAny (model X.prog X.w) X.A (pyNext (.ref e)) (fun r s1 => r = none ∧ Inv X pins σ H s1) E s := by
  obtain ⟨f0, f1, f2, f3, f4, f5⟩ := hf it (by simp)
  exact wpAny_pyNext_enum_endD D he st fun g gk => ⟨rfl, I.turned (t' := s.toks) (fun b o hb z => gk b o hb z) f0 f1 f3 f4 f5⟩
theorem turn_enumM {p : Bool} {P : Program} {w : World} {K : PySem.W.Frag} {elts : List Expr} {kk : Nat} {tpos : Pos} (a e it : Addr) (ea : e ≠ a) (ia : a ≠ it) :
    Turn P w K (.Tuple elts kk tpos) (ItEM p K a) [e, it] e (fun i h => (∃ old, IsEnum h e it ((i : Nat) : Int) old) ∧ ItK p h it a i ∧ e ≠ it) where
  mem := by simp
  obj := fun i h st b hb => by
    obtain ⟨⟨old, he⟩, hi, _⟩ := st
    rcases (show b = e ∨ b = it by simpa using hb) with z | z
    · rw [z]
      exact ⟨_, he, fun v q => nomatch q⟩
    · rw [z]
      exact hi.obj
  keep := fun i h h' st k => by
    obtain ⟨⟨old, he⟩, hi, ne⟩ := st
    exact ⟨⟨old, k e (by simp) _ he⟩, hi.at' (fun o z => k it (by simp) o z), ne⟩
  item := by
    intro X hP hw hK hc i pins s σ H E I hf st hg
    subst hP hw hK
    obtain ⟨⟨old, he⟩, hi, ne⟩ := st
    obtain ⟨xs, x, qx, ex⟩ := hg
    obtain ⟨us, rx, kx, _⟩ := sqk_is I qx
    obtain ⟨u, eu, ru⟩ := rx.get ex
    have lu : i < us.toArray.size := by simpa using (List.getElem?_eq_some_iff.mp eu).1
    have hh : X.A.in1.handled = none := I.ok.hd hc
    have key : ∀ v, us.toArray[i]? = some v → L2.RelV x v := fun v pv => by
      have t1 : us.toArray[i]? = some u := by simpa using eu
      have t2 : u = v := Option.some.inj (t1.symm.trans pv)
      exact t2 ▸ ru
    refine thn (enum_item (elts := elts) (kk := kk) (tpos := tpos) (E := E) I hf (drawsK p hh it a ia us.toArray) he ⟨hi, kx⟩ lu ne (by simp [ne, ea]) x key) fun r s1 hr => ?_
    obtain ⟨v, er, hv⟩ := hr
    refine ⟨v, er, thn hv fun _ s2 z => ?_⟩
    obtain ⟨T, eT, nT, I2, ie, si, fr⟩ := z
    subst eT
    exact ⟨.ref T, _, I2, rfl, ⟨T, x, rfl, nT, rfl, fun l hl => by rw [sqk_inj I hl qx]; exact ex⟩, ⟨ie, si.1, ne⟩, fr⟩
  done := by
    intro X hP hw hK hc i pins s σ H E I hf st hg
    subst hP hw hK
    obtain ⟨⟨old, he⟩, hi, ne⟩ := st
    obtain ⟨xs, qx, el⟩ := hg
    obtain ⟨us, rx, kx, _⟩ := sqk_is I qx
    have lx := rx.length
    have hh : X.A.in1.handled = none := I.ok.hd hc
    have hn : us.toArray.size = i := by
      rw [List.size_toArray]
      omega
    exact enum_done I hf (drawsK p hh it a ia us.toArray) he (by rw [hn]; exact ⟨hi, kx⟩)
  self := fun A i s Q E st h => by
    obtain ⟨⟨_, he⟩, _⟩ := st
    exact wpAny_pyIter_enum he h
def iEnumM (K : PySem.W.Frag) (ta : TA) : TI := fun σ H R => ta σ H fun vs H1 => ∃ p a xs, vs = [.ref a] ∧ SqK p K H1 a xs ∧ R (ItEM p K a) H1
theorem pi_enumM {X : Cx} {e : Expr} {ta : TA} {p pos tpos : Pos} {elts : List Expr} {kk : Nat} (hg : Gl X "enumerate") (hm : X.mg "enumerate" = none) (ha : PA X [e] ta) (hs : starEach [e] X.env = [(false, eval e X.env)] := by rfl) :
    PI X (.Tuple elts kk tpos) (.Call (.Name "enumerate" p) [e] [] pos) (iEnumM X.K ta) := by
  constructor
  intro pins s σ H R I h
  refine Call_ (ld_blt I hg hm PyProof.Rows.boot_enumerate (PyProof.Rows.callWith_type1 (thn (ha.run pos pins s σ H _ I h) fun us s1 ⟨vs, H1, I1, r1, q1⟩ => ?_) hs rfl))
  obtain ⟨k1, a, xs, ex, qx, q⟩ := q1
  subst ex
  cases r1 with
  | cons r rr =>
    cases rr
    cases r
    obtain ⟨i1, _, p1, lt1⟩ := sqk_is I1 qx
    obtain ⟨o1, G1, B1, g1, w1⟩ := begK p1
    refine enum_begins1 B1 g1 fun h' he e1 hk => wpAny_pyIter_enum he ?_
    have I2 : Inv X pins σ H1 { s1 with heap := h' } := I1.kept (t' := s1.toks) hk
    refine ⟨s1.heap.objs.size + 1, [s1.heap.objs.size + 1, s1.heap.objs.size], _, _, H1, rfl, I2, turn_enumM a (s1.heap.objs.size + 1) s1.heap.objs.size (Nat.ne_of_gt (Nat.lt_succ_of_lt lt1)) (Nat.ne_of_lt lt1), ⟨⟨.none, he⟩, w1 _ _ e1, Nat.succ_ne_self _⟩, fun b hb => ?_, q⟩
    have lb : s1.heap.objs.size ≤ b := by
      rcases (show b = s1.heap.objs.size + 1 ∨ b = s1.heap.objs.size by simpa using hb) with z | z
      · rw [z]
        exact Nat.le_add_right _ _
      · rw [z]
        exact Nat.le_refl _
    exact I1.fpOk lb (I1.hok.fresh lb)
/-! over a text -/
theorem drawsS {prog : Program} {w : World} {A : Around} (hh : A.handled = none) (it : Addr) (z : Str) (t : Tok) :
    Draws prog w A it [it] z.cps.size (fun i v => ∃ c u, z.cps[i]? = some c ∧ v = .str ⟨#[c]⟩ u) (fun i h => h.IsStrIter it (strIterType z) z t i) := by
  unfold strIterType
  cases z.cps.all (· < 128)
  · exact Draws.strWide hh it z t
  · exact Draws.strAscii hh it z t
theorem turn_enumS {P : Program} {w : World} {K : PySem.W.Frag} {elts : List Expr} {kk : Nat} {tpos : Pos} (z : Str) (t : Tok) (e it : Addr) :
    Turn P w K (.Tuple elts kk tpos) (ItES z) [e, it] e (fun i h => (∃ old, IsEnum h e it ((i : Nat) : Int) old) ∧ h.IsStrIter it (strIterType z) z t i ∧ e ≠ it) where
  mem := by simp
  obj := fun i h st b hb => by
    obtain ⟨⟨old, he⟩, ⟨o, eo, _, d⟩, _⟩ := st
    rcases (show b = e ∨ b = it by simpa using hb) with y | y
    · rw [y]
      exact ⟨_, he, fun v q => nomatch q⟩
    · rw [y]
      exact ⟨o, eo, fun v q => by rw [d] at q; cases q⟩
  keep := fun i h h' st k => by
    obtain ⟨⟨old, he⟩, ⟨o, eo, r⟩, ne⟩ := st
    exact ⟨⟨old, k e (by simp) _ he⟩, ⟨o, k it (by simp) o eo, r⟩, ne⟩
  item := by
    intro X hP hw hK hc i pins s σ H E I hf st hg
    subst hP hw hK
    obtain ⟨⟨old, he⟩, hi, ne⟩ := st
    have lt : i < z.cps.size := hg
    have hh : X.A.in1.handled = none := I.ok.hd hc
    have ec : z.cps[i]? = some z.cps[i] := Array.getElem?_eq_getElem lt
    refine thn (enum_item (elts := elts) (kk := kk) (tpos := tpos) (E := E) I hf (drawsS hh it z t) he hi lt ne (by simp [ne]) (.str ⟨#[z.cps[i]]⟩) (fun v pv => ?_)) fun r s1 hr => ?_
    · obtain ⟨c, u, e1, e2⟩ := pv
      rw [ec] at e1
      cases e1
      subst e2
      exact ⟨u, rfl⟩
    obtain ⟨v, er, hv⟩ := hr
    refine ⟨v, er, thn hv fun _ s2 y => ?_⟩
    obtain ⟨T, eT, nT, I2, ie, si, fr⟩ := y
    subst eT
    exact ⟨.ref T, _, I2, rfl, ⟨T, _, rfl, nT, rfl, ec⟩, ⟨ie, si, ne⟩, fr⟩
  done := by
    intro X hP hw hK hc i pins s σ H E I hf st hg
    subst hP hw hK
    obtain ⟨⟨old, he⟩, hi, ne⟩ := st
    have el : z.cps.size = i := hg
    have hh : X.A.in1.handled = none := I.ok.hd hc
    exact enum_done I hf (drawsS hh it z t) he (by rw [el]; exact hi)
  self := fun A i s Q E st h => by
    obtain ⟨⟨_, he⟩, _⟩ := st
    exact wpAny_pyIter_enum he h
def iEnumS (ta : TA) : TI := fun σ H R => ta σ H fun vs H1 => ∃ z, vs = [.str z] ∧ R (ItES z) H1
theorem pi_enumS {X : Cx} {e : Expr} {ta : TA} {p pos tpos : Pos} {elts : List Expr} {kk : Nat} (hg : Gl X "enumerate") (hm : X.mg "enumerate" = none) (ha : PA X [e] ta) (hs : starEach [e] X.env = [(false, eval e X.env)] := by rfl) :
    PI X (.Tuple elts kk tpos) (.Call (.Name "enumerate" p) [e] [] pos) (iEnumS ta) := by
  constructor
  intro pins s σ H R I h
  refine Call_ (ld_blt I hg hm PyProof.Rows.boot_enumerate (PyProof.Rows.callWith_type1 (thn (ha.run pos pins s σ H _ I h) fun us s1 ⟨vs, H1, I1, r1, q1⟩ => ?_) hs rfl))
  obtain ⟨z, ex, q⟩ := q1
  subst ex
  cases r1 with
  | cons r rr =>
    cases rr
    obtain ⟨t, rfl⟩ := r
    refine enum_begins1 (begins_text z t) trivial fun h' he e1 hk => wpAny_pyIter_enum he ?_
    have I2 : Inv X pins σ H1 { s1 with heap := h' } := I1.kept (t' := s1.toks) hk
    refine ⟨s1.heap.objs.size + 1, [s1.heap.objs.size + 1, s1.heap.objs.size], _, _, H1, rfl, I2, turn_enumS z t (s1.heap.objs.size + 1) s1.heap.objs.size, ⟨⟨.none, he⟩, ⟨_, e1, rfl, rfl⟩, Nat.succ_ne_self _⟩, fun b hb => ?_, q⟩
    have lb : s1.heap.objs.size ≤ b := by
      rcases (show b = s1.heap.objs.size + 1 ∨ b = s1.heap.objs.size by simpa using hb) with y | y
      · rw [y]
        exact Nat.le_add_right _ _
      · rw [y]
        exact Nat.le_refl _
    exact I1.fpOk lb (I1.hok.fresh lb)
end Z
set_option Elab.async false
set_option linter.all false
set_option maxRecDepth 100000
set_option maxHeartbeats 4000000
namespace Z
open PySem PySem.Spec PyProof.Rows L2
/-! ### walks over a list (true) or a tuple (false) -/
inductive SeqOr (A B : Prop) : Prop
  | l : A → SeqOr A B
  | r : B → SeqOr A B
def iSeq (K : PySem.W.Frag) (tl : TE) : TI := fun σ H R => SeqOr (iList K tl σ H R) (iTup K tl σ H R)
theorem pi_sq {X : Cx} {tg l : Expr} {tl : TE} (he : PE X l tl) : PI X tg l (iSeq X.K tl) := by
  constructor
  intro pins s σ H R I h
  rcases h with h | h
  · exact (pi_list he).run pins s σ H R I h
  · exact (pi_tup he).run pins s σ H R I h
theorem pi_sq_K {X : Cx} {K : PySem.W.Frag} {tg l : Expr} {tl : TE} (h : X.K = K) (he : PE X l tl) : PI X tg l (iSeq K tl) := by
  subst h
  exact pi_sq he
theorem pi_list_K {X : Cx} {K : PySem.W.Frag} {tg l : Expr} {tl : TE} (h : X.K = K) (he : PE X l tl) : PI X tg l (iList K tl) := by
  subst h
  exact pi_list he
theorem pi_tup_K {X : Cx} {K : PySem.W.Frag} {tg l : Expr} {tl : TE} (h : X.K = K) (he : PE X l tl) : PI X tg l (iTup K tl) := by
  subst h
  exact pi_tup he
def ItQ (b : Bool) (K : PySem.W.Frag) (a : Addr) : It := match b with
  | true => Itl K a
  | false => Itt K a
theorem itq_go {b : Bool} {K : PySem.W.Frag} {H : Hp} {a : Addr} {xs : List V} {i : Nat} {x : V} (h : SqK b K H a xs) (e : xs[i]? = some x) : (ItQ b K a).go i H := by
  cases b <;> exact ⟨_, _, h, e⟩
theorem itq_stop {b : Bool} {K : PySem.W.Frag} {H : Hp} {a : Addr} {xs : List V} {i : Nat} (h : SqK b K H a xs) (e : xs.length ≤ i) : (ItQ b K a).stop i H := by
  cases b <;> exact ⟨_, h, e⟩
theorem itq_yld {b : Bool} {K : PySem.W.Frag} {H H' : Hp} {a : Addr} {xs : List V} {i : Nat} {x : V} (h : SqK b K H a xs) (y : (ItQ b K a).yld i H x H') : H' = H ∧ xs[i]? = some x := by
  cases b <;> exact ⟨y.1, y.2 _ h⟩
theorem rd_sq {b : Bool} {K : PySem.W.Frag} {σ : L2.St} {H : Hp} {i : Nat} {a : Addr} {xs : List V} {R : It → Hp → Prop} (e : σ[i]? = some (some (.ref a))) (h : SqK b K H a xs) (r : R (ItQ b K a) H) : iSeq K (tVar i) σ H R := by
  cases b
  · exact .r ⟨_, e, a, rfl, ⟨xs, h⟩, r⟩
  · exact .l ⟨_, e, a, rfl, ⟨xs, h⟩, r⟩
theorem lc_sq {b : Bool} {K : PySem.W.Frag} {a D : Addr} {xs : List Int} {H0 : Hp} {i : Nat} {te : TE} {vs : List Nat} {σ : L2.St} {Qd : Hp → Prop} (hS : SqK b K H0 a (xs.map V.int)) (g : Int → Int) (hn : xs.length ≤ 1000000) (nD : H0 D = none) (hw : ∀ x : Int, wipe ((wipe σ vs).set i (some (.int x))) vs = wipe σ vs)
    (ht : ∀ x H1 (Q : VK), x ∈ xs → Same H0 H1 → (∀ H2, Same H1 H2 → Q (.int (g x)) H2) → te ((wipe σ vs).set i (some (.int x))) H1 Q)
    (hd : ∀ H1, Same H0 H1 → H1 D = some (.lst ((xs.map g).map V.int)) → Qd H1) : lcW (ItQ b K a) (gName i) tYes te vs σ D Qd H0 := by
  have ex : ∀ k, k < xs.length → (xs.map V.int)[k]? = some (.int (xs.getD k 0)) := fun k hk => by
    rw [List.getElem?_map, List.getD_eq_getElem?_getD, List.getElem?_eq_getElem hk]
    rfl
  refine lc_ofs (K := K) (n := xs.length) (fun k => g (xs.getD k 0)) (fun k => .int (xs.getD k 0)) hn nD (fun k H1 hk s => itq_go (Z.Same.sqK s hS) (ex k hk)) (fun H1 s => itq_stop (Z.Same.sqK s hS) (by rw [List.length_map]; exact Nat.le_refl _)) (fun k H1 x H2 hk s y => ?_) (fun k => hw _) (fun k H1 Q hk s q => ht _ H1 Q ?_ s q) (fun H1 s e => hd H1 s ?_)
  · obtain ⟨e1, e2⟩ := itq_yld (Z.Same.sqK s hS) y
    exact ⟨e1, Option.some.inj (e2.symm.trans (ex k hk))⟩
  · rw [List.getD_eq_getElem?_getD, List.getElem?_eq_getElem hk]
    exact List.getElem_mem hk
  · rw [e]
    congr 2
    congr 1
    apply List.ext_getElem
    · rw [List.length_map, List.length_map, List.length_range]
    · intro k h1 h2
      rw [List.length_map] at h2
      rw [List.getElem_map, List.getElem_map, List.getElem_range, List.getD_eq_getElem?_getD, List.getElem?_eq_getElem h2]
      rfl
/-- for x in xs, any values -/
theorem for_sq {b : Bool} {K : PySem.W.Frag} {a : Addr} {xs : List V} {H0 H : Hp} {i : Nat} {tb : TS} {D : Ends} {σ : L2.St} (hS : SqK b K H0 a xs) (Pv : Nat → L2.St → Hp → Prop) (h0 : Pv 0 σ H) (hq : ∀ k σ H1, Pv k σ H1 → Same H0 H1)
    (hs : ∀ (k : Nat) (x : V) (σ : L2.St) (H1 : Hp), xs[k]? = some x → Pv k σ H1 → tb { D with nx := Pv (k + 1), ct := Pv (k + 1), bk := D.nx } (σ.set i (some x)) H1)
    (hd : ∀ σ H1, Pv xs.length σ H1 → D.nx σ H1) : forW (ItQ b K a) (gName i) tb D σ H := by
  refine for_gen (n := xs.length) Pv h0 (fun k σ H1 hk p => itq_go (Z.Same.sqK (hq k σ H1 p) hS) (List.getElem?_eq_getElem hk)) (fun σ H1 p => itq_stop (Z.Same.sqK (hq _ σ H1 p) hS) (Nat.le_refl _)) ?_ hd
  intro k σ H1 x H2 hk p y
  obtain ⟨rfl, e⟩ := itq_yld (Z.Same.sqK (hq k σ H1 p) hS) y
  exact hs k x σ _ e p
/-- for i, x in enumerate(xs) -/
theorem for_enum {b : Bool} {K : PySem.W.Frag} {a : Addr} {xs : List V} {H0 H : Hp} {i j : Nat} {tb : TS} {D : Ends} {σ : L2.St} (hS : SqK b K H0 a xs) (Pv : Nat → L2.St → Hp → Prop) (h0 : Pv 0 σ H) (hq : ∀ k σ H1, Pv k σ H1 → Same H0 H1)
    (hs : ∀ (k : Nat) (x : V) (σ : L2.St) (H1 H2 : Hp), xs[k]? = some x → Pv k σ H1 → Same H1 H2 → tb { D with nx := Pv (k + 1), ct := Pv (k + 1), bk := D.nx } ((σ.set i (some (.int (k : Nat)))).set j (some x)) H2)
    (hd : ∀ σ H1, Pv xs.length σ H1 → D.nx σ H1) : forW (ItEM b K a) (gTup K 2 (gCons (gName i) (gCons (gName j) gNil))) tb D σ H := by
  refine for_gen (n := xs.length) Pv h0 (fun k σ H1 hk p => ⟨xs, _, Z.Same.sqK (hq k σ H1 p) hS, List.getElem?_eq_getElem hk⟩) (fun σ H1 p => ⟨xs, Z.Same.sqK (hq _ σ H1 p) hS, rfl⟩) ?_ hd
  intro k σ H1 x H2 hk p y
  obtain ⟨T, z, rfl, nT, rfl, e⟩ := y
  exact ⟨T, _, rfl, SqT.of upd_same, rfl, _, _, rfl, _, _, rfl, rfl, hs k z σ H1 _ (e _ (Z.Same.sqK (hq k σ H1 p) hS)) p (same_new nT)⟩
/-- for i, c in enumerate(text) -/
theorem for_enumS {K : PySem.W.Frag} {z : Str} {H : Hp} {i j : Nat} {tb : TS} {D : Ends} {σ : L2.St} (Pv : Nat → L2.St → Hp → Prop) (h0 : Pv 0 σ H)
    (hs : ∀ (k : Nat) (c : Nat) (σ : L2.St) (H1 H2 : Hp), z.cps[k]? = some c → Pv k σ H1 → Same H1 H2 → tb { D with nx := Pv (k + 1), ct := Pv (k + 1), bk := D.nx } ((σ.set i (some (.int (k : Nat)))).set j (some (.str ⟨#[c]⟩))) H2)
    (hd : ∀ σ H1, Pv z.cps.size σ H1 → D.nx σ H1) : forW (ItES z) (gTup K 2 (gCons (gName i) (gCons (gName j) gNil))) tb D σ H := by
  refine for_gen (n := z.cps.size) Pv h0 (fun k σ H1 hk p => hk) (fun σ H1 p => rfl) ?_ hd
  intro k σ H1 x H2 hk p y
  obtain ⟨T, c, rfl, nT, rfl, e⟩ := y
  exact ⟨T, _, rfl, SqT.of upd_same, rfl, _, _, rfl, _, _, rfl, rfl, hs k c σ H1 _ e p (same_new nT)⟩
/-! ### built-ins within a comprehension's block -/
theorem cr_min_K {X : Cx} {K : PySem.W.Frag} (h : X.K = K) (hc : X.calm = true) : CallR X (.builtin "min") (rMin K) := by
  subst h
  exact cr_min hc
theorem cr_max_K {X : Cx} {K : PySem.W.Frag} (h : X.K = K) (hc : X.calm = true) : CallR X (.builtin "max") (rMax K) := by
  subst h
  exact cr_max hc
theorem cr_sum_K {X : Cx} {K : PySem.W.Frag} (h : X.K = K) (hc : X.calm = true) : CallR X (.builtin "sum") (rSum K) := by
  subst h
  exact cr_sum hc
theorem cr_all_K {X : Cx} {K : PySem.W.Frag} (h : X.K = K) (hc : X.calm = true) : CallR X (.builtin "all") (rAll K) := by
  subst h
  exact cr_all hc
theorem cr_any_K {X : Cx} {K : PySem.W.Frag} (h : X.K = K) (hc : X.calm = true) : CallR X (.builtin "any") (rAny K) := by
  subst h
  exact cr_any hc
/-! ### comprehensions with a test, any values -/
def fltL (kb : Nat → Bool) (g : Nat → V) (n : Nat) : List V := ((List.range n).filter kb).map g
theorem flt_succ (kb : Nat → Bool) (g : Nat → V) (n : Nat) : fltL kb g (n + 1) = fltL kb g n ++ (if kb n then [g n] else []) := by
  unfold fltL
  rw [List.range_succ, List.filter_append, List.map_append]
  cases e : kb n <;> simp [e]
theorem flt_len (kb : Nat → Bool) (g : Nat → V) (n : Nat) : (fltL kb g n).length ≤ n := by
  unfold fltL
  rw [List.length_map]
  exact Nat.le_trans (List.length_filter_le ..) (by rw [List.length_range]; exact Nat.le_refl _)
theorem lc_flt {J : It} {D : Addr} {n : Nat} {H0 : Hp} {i : Nat} {tt : TT} {te : TE} {vs : List Nat} {σ : L2.St} {Qd : Hp → Prop} (xv : Nat → V) (kb : Nat → Bool) (g : Nat → V) (hn : n ≤ 1000000) (nD : H0 D = none)
    (hgo : ∀ k H1, k < n → Same H0 H1 → J.go k H1) (hst : ∀ H1, Same H0 H1 → J.stop n H1) (hy : ∀ k H1 x H2, k < n → Same H0 H1 → J.yld k H1 x H2 → Same H1 H2 ∧ x = xv k)
    (hw : ∀ k, wipe ((wipe σ vs).set i (some (xv k))) vs = wipe σ vs)
    (hb : ∀ k H1 (Q : Bool → Hp → Prop), k < n → Same H0 H1 → (∀ H2, Same H1 H2 → Q (kb k) H2) → tt ((wipe σ vs).set i (some (xv k))) H1 Q)
    (ht : ∀ k H1 (Q : VK), k < n → kb k = true → Same H0 H1 → (∀ H2, Same H1 H2 → Q (g k) H2) → te ((wipe σ vs).set i (some (xv k))) H1 Q)
    (hd : ∀ H1, Same H0 H1 → H1 D = some (.lst (fltL kb g n)) → Qd H1) : lcW J (gName i) tt te vs σ D Qd H0 := by
  refine lc_gen (n := n) (fun k H1 => Same H0 H1 ∧ H1 D = some (.lst (fltL kb g k))) ⟨same_new nD, upd_same⟩ (fun k H1 hk p => hgo k H1 hk p.1) (fun H1 p => hst H1 p.1) ?_ (fun H1 p => hd H1 p.1 p.2)
  rintro k H1 x H2 hk ⟨s, e⟩ y
  obtain ⟨s2, rfl⟩ := hy k H1 x H2 hk s y
  refine ⟨hw k, ?_⟩
  refine hb k _ _ hk (s.trans s2) (fun H3 s3 => ?_)
  cases eb : kb k
  · rw [if_neg (by decide)]
    refine ⟨s.trans (s2.trans s3), ?_⟩
    rw [flt_succ, eb]
    simpa using s3 _ _ (s2 _ _ e)
  · rw [if_pos rfl]
    refine ht k _ _ hk eb (s.trans (s2.trans s3)) (fun H4 s4 => ⟨_, s4 _ _ (s3 _ _ (s2 _ _ e)), ?_, Z.Same.mut (s.trans (s2.trans (s3.trans s4))) nD, ?_⟩)
    · exact Nat.lt_of_le_of_lt (flt_len kb g k) (Nat.lt_of_lt_of_le hk (Nat.le_trans hn (by decide)))
    · rw [upd_same, flt_succ, eb]
      rfl
end Z
set_option Elab.async false
set_option linter.all false
set_option maxRecDepth 100000
set_option maxHeartbeats 4000000
namespace Z
open PySem PySem.Spec PyProof.Rows L2
/-! ### o.f as one of several targets -/
theorem asg_attr {M : Model} {A : Around} {E : Value → Shared → Prop} {s : Shared} {o : Expr} {attr : Str} {pos : Pos} {env : Env} {v : Value} {Q : Unit → Shared → Prop}
    (h : wpAny M A (eval o env) (fun ov s2 => wpAny M A (setAttr ov attr v) (fun _ => Q ()) E s2) E s) : wpAny M A (assign (.Attribute o attr pos) env v) Q E s := fun Γ p hΓ => by
  simp only [assign_Attribute, Sem.wp_bind', Sem.wp_holding, Sem.wp_cmd_standAt, Sem.wp_release, Sem.wp_pure']
  exact Sem.wp_mono M Γ _ (fun ov _ s2 h2 => h2 Γ _ hΓ) (fun _ _ _ z => z) _ _ (h Γ _ hΓ)
def gFld (K : PySem.W.Frag) (ta : TE) (f : Str) : TG := fun v σ H Q => ta σ H fun x H1 => ∃ a C dx fs, x = .ref a ∧ H1 a = some (.ins C dx fs) ∧ Cls K C ∧ NoAttr K C f ∧ fs.length < 1000 ∧ Q σ (upd H1 a (.ins C dx (putF f v fs)))
theorem pg_fld {X : Cx} {o : Expr} {f : Str} {pos : Pos} {ta : TE} (ha : PE X o ta) : PG X (.Attribute o f pos) (gFld X.K ta f) := by
  constructor
  intro pins s σ H v u Q I r h
  refine asg_attr (thn (ha.run pins s σ H _ I h) fun ov s1 ⟨x, H1, I1, rx, a, C, dx, fs, ex, ea, c, n, l, q⟩ => ?_)
  subst ex
  obtain rfl : ov = Value.ref a := rx
  exact setattr_ok I1 ea c n l r fun s2 I2 => ⟨σ, _, I2, q⟩
/-! ### a if c else b as a test -/
def tIfT (tc ta tb : TT) : TT := fun σ H Q => tc σ H fun k H1 => if k = true then ta σ H1 Q else tb σ H1 Q
theorem pt_ifExp {X : Cx} {c a b : Expr} {pos : Pos} {tc ta tb : TT} (hc : PT X c tc) (ha : PT X a ta) (hb : PT X b tb) : PT X (.IfExp c a b pos) (tIfT tc ta tb) := by
  constructor
  intro pins s σ H Q I h
  refine PyProof.Rows.isTrue_IfExp (thn (hc.run pins s σ H _ I h) fun d s1 ⟨H1, I1, q1⟩ => ?_)
  cases d with
  | true => exact ha.run pins s1 σ H1 Q I1 q1
  | false => exact hb.run pins s1 σ H1 Q I1 q1
end Z
set_option Elab.async false
set_option linter.all false
set_option maxRecDepth 100000
set_option maxHeartbeats 4000000
namespace Z
open PySem PySem.Spec PyProof.Rows L2
/-! ### a op b by the class's own method, which may raise -/
structure Bin2X (P : Program) (w : World) (K : PySem.W.Frag) (mg : Str → Option Value) (base : Heap) (k : Nat) (C : Addr) (op : Operator) (sp : Sp) : Prop where
  ex : ∃ (f : Addr) (fd : FuncData) (ps : List Str), FnOk P w K mg base (L2N.CX P w) k f fd ps sp ∧ PySem.W.findIn K (.ref C) (PySem.dunder op.info.2) = some (some (.ref f)) ∧ PySem.W.isFn K (.ref f) = true ∧ Binds K fd ps [] ∧ PySem.W.selfFirst K C = true
def tOp2E (C : Addr) (sp : Sp) (E : L2.St → XK) (ta tb : TE) : TE := fun σ H Q => ta σ H fun x H1 => tb σ H1 fun y H2 => ∃ a b dx dy fs gs, x = .ref a ∧ y = .ref b ∧ H2 a = some (.ins C dx fs) ∧ H2 b = some (.ins C dy gs) ∧ sp [.ref a, .ref b] H2 (fun v H' => ∃ p, v = .ref p ∧ Q v H') (E σ)
theorem pe_op2E {X : Cx} {k j : Nat} {C : Addr} {sp : Sp} {op : Operator} {E : L2.St → XK} {a b : Expr} {ta tb : TE} {pos : Pos} (c : Bin2X X.prog X.w X.K X.mg X.base k C op sp) (hx : ∀ σ, PassesAt (L2N.CX X.prog X.w) X σ (E σ)) (hr : Room j X.A) (hk : k ≤ j) (ha : PE X a ta) (hb : PE X b tb) : PE X (.BinOp a op b pos) (tOp2E C sp E ta tb) := by
  obtain ⟨f, fd, ps, F, hs, hf, hbi, sf⟩ := c.ex
  refine ⟨fun pins s σ H Q I h => ?_⟩
  refine wpAny_BinOp (binT ha hb I h fun v u s2 x y H2 I2 rx ry q => ?_)
  obtain ⟨a, b, dx, dy, fs, gs, rfl, rfl, ea, eb, q⟩ := q
  cases rx
  cases ry
  obtain ⟨mA, J, _⟩ := ins_get I2.hok ea
  obtain ⟨mB, J', _⟩ := ins_get I2.hok eb
  obtain ⟨od, J, _⟩ := J.look
  obtain ⟨od', J', _⟩ := J'.look
  obtain ⟨m, hF⟩ := I2.fr
  refine PySem.W.binop_K hF I2.ok.mod.kin J J'.type sf hs hf ?_
  refine thn (wpAny_call (run_atE (vs := [.ref a, .ref b]) (us := [.ref a, .ref b]) F hbi (hx σ) (hr.mono hk) I2 (.cons rfl (.cons rfl .nil)) q)) fun r s' z => ?_
  obtain ⟨v, H', I', rv, p, rfl, q'⟩ := z
  cases rv
  exact ⟨.ref p, H', I', rfl, q'⟩
/-! ### ~a by the class's own method -/
structure Un1 (P : Program) (w : World) (K : PySem.W.Frag) (mg : Str → Option Value) (base : Heap) (k : Nat) (C : Addr) (sp : Sp) : Prop where
  ex : ∃ (f : Addr) (fd : FuncData) (ps : List Str), FnOk P w K mg base CX0 k f fd ps sp ∧ PySem.W.findIn K (.ref C) "__invert__" = some (some (.ref f)) ∧ PySem.W.isFn K (.ref f) = true ∧ Binds K fd ps []
def rUn1 (C : Addr) (sp : Sp) : V → Hp → VK → Prop := fun x H Q => ∃ a dx fs, x = .ref a ∧ H a = some (.ins C dx fs) ∧ sp [.ref a] H Q E0
theorem un_own {X : Cx} {k j : Nat} {C : Addr} {sp : Sp} (c : Un1 X.prog X.w X.K X.mg X.base k C sp) (hr : Room j X.A) (hk : k ≤ j) : UnR X (unaryOp .Invert) (rUn1 C sp) := by
  intro pins s σ H x v Q I rx hq
  obtain ⟨f, fd, ps, F, hs, hf, hb⟩ := c.ex
  obtain ⟨a, dx, fs, rfl, ha, q⟩ := hq
  cases rx
  obtain ⟨mA, J, _⟩ := ins_get I.hok ha
  obtain ⟨od, J, _⟩ := J.look
  obtain ⟨m, hF⟩ := I.fr
  refine PySem.W.ksp_inv hF I.ok.mod.kin J hs hf ?_
  have r2 : Vals [V.ref a] [Value.ref a] := .cons rfl .nil
  exact run_fn (dvs := []) F (hr.mono hk) hb .nil pass0 I r2 (by rw [List.append_nil]; exact q)
end Z
set_option Elab.async false
set_option linter.all false
set_option maxRecDepth 100000
set_option maxHeartbeats 4000000
namespace Z
open PySem PySem.Spec PyProof PyProof.Rows L2 F
/-! ### len(x), x an instance of a class with __len__ -/
structure LenO (P : Program) (w : World) (K : PySem.W.Frag) (mg : Str → Option Value) (base : Heap) (k : Nat) (C : Addr) (sp : Sp) : Prop where
  ex : ∃ (f : Addr) (fd : FuncData) (ps : List Str), FnOk P w K mg base CX0 k f fd ps sp ∧ PySem.W.findIn K (.ref C) "__len__" = some (some (.ref f)) ∧ PySem.W.isFn K (.ref f) = true ∧ Binds K fd ps []
def rLenO (C : Addr) (sp : Sp) : List V → Hp → VK → Prop := fun xs H Q => ∃ a dx fs, xs = [.ref a] ∧ H a = some (.ins C dx fs) ∧ sp [.ref a] H (fun v H' => ∃ n : Int, v = .int n ∧ 0 ≤ n ∧ n < 2 ^ 63 ∧ Q (.int n) H') E0
theorem call_lenO {X : Cx} {k j : Nat} {C : Addr} {sp : Sp} (c : LenO X.prog X.w X.K X.mg X.base k C sp) (hr : Room j X.A) (hk : k + 1 ≤ j) : CallR X (.builtin "len") (rLenO C sp) := by
  intro pins s σ H xs us Q I r h
  obtain ⟨f, fd, ps, F, hs, hf, hb⟩ := c.ex
  obtain ⟨a, dx, fs, rfl, ha, q⟩ := h
  obtain ⟨u, rfl, ru⟩ := vals1 r
  obtain rfl : u = Value.ref a := ru
  obtain ⟨mA, J, _⟩ := ins_get I.hok ha
  obtain ⟨od, J, _⟩ := J.look
  refine Calls.call_function_entry kind_len plain_len entry_len (args_len1 _) ?_
  unfold Builtin.«len»
  refine wpAny_bind (m := oneArg "len" _) (wpAny_pure ?_)
  have e0 : Env0 X.prog X.w X.K X.mg X.base X.A.in1 X.stack s H := by
    have e := I.env0
    exact ⟨e.frames, e.mod, e.bs, e.bsz, e.funs, e.frf, e.hok, e.bare⟩
  refine wpAny_bind (m := callSpecial? (.ref a) (PySem.Str.ofString "__len__")) (PySem.W.special_fn (name := "__len__") (args := []) I.kIn J hs (beq_iff_eq.mp hf) ?_)
  have hl := F.len _ _ _ _ q
  refine wpAny_call (codeAny_mono (F.run X.A.in1 X.stack s H ⟨[.ref a], []⟩ [.ref a] [.ref a] _ E0 (hr.mono hk).in1 e0 (by
    have := hb s [.ref a] I.kIn (by simpa using hl)
    simpa using this) (.cons rfl .nil) q) fun r s' hq => ?_)
  cases r with
  | error e => exact pass0 pins σ H s e s' I hq
  | ok fl =>
    cases fl with
    | next => exact False.elim hq
    | brk => exact False.elim hq
    | cont => exact False.elim hq
    | ret u =>
      obtain ⟨v, H1, I1, rv, n, rfl, h0, h1, q1⟩ := I.after hq
      obtain ⟨t, rfl⟩ := rv
      refine wpAny_bind (wpAny_holding (wpAny_pure ?_))
      refine wpAny_bind (wpAny_letGo ?_)
      show wpAny _ _ (if n < 0 then _ else _) _ _ _
      rw [if_neg (by omega)]
      show wpAny _ _ (if n ≥ 2 ^ 63 then _ else _) _ _ _
      rw [if_neg (by omega)]
      exact wpAny_bind (wpAny_mkInt (wpAny_pure ⟨_, rfl, .int n, H1, I1.tok _, ⟨_, rfl⟩, q1⟩))
end Z
set_option Elab.async false
set_option linter.all false
set_option maxRecDepth 100000
set_option maxHeartbeats 4000000
namespace L2N
open PySem PySem.Spec PyProof.Rows L2
/-! ### several clauses `except c as n` -/
/-- a clause: its class, the slot of its name, its suite's reading -/
abbrev Cl := Value × Nat × (Addr → Value → Option Addr → TS)
def wManyA (K : PySem.W.Frag) (Wout : WX) (D : Ends) : List Cl → WX
  | [] => Wout
  | h :: r => wAs K h.1 h.2.1 h.2.2 (wManyA K Wout D r) D
inductive HdsA (X : Cx) : List ExceptHandler → List Cl → Prop
  | nil : HdsA X [] []
  | cons {x n : Str} {c : Value} {i : Nat} {ts : Addr → Value → Option Addr → TS} {b₀ : Stmt} {suite : List Stmt} {np pos' : Pos} {hds : List ExceptHandler} {l : List Cl} (hi : X.N[i]? = some n) (hln : X.env.kindOf n = some .local) (hc : Names X x c)
      (hsu : ∀ (a : Addr) (oe : Obj) (cls : Value) (d : Option Addr) (pn : List (Addr × Obj)), Zn cls d oe → (∃ vs, oe.data = .fields vs) → PSs (X.suite a ((a, oe) :: pn)) (b₀ :: suite) (ts a cls d)) (r : HdsA X hds l) :
      HdsA X (.ExceptHandler (some (.Name x np)) (some n) (b₀ :: suite) pos' :: hds) ((c, i, ts) :: l)
section
variable {X : Cx} {body : List Stmt} {h₀ : ExceptHandler} {hds : List ExceptHandler} {l : List Cl} {pos : Pos} {tb : WX → TS} {Wout : WX}
theorem ps_try_manyA (hs : X.stack = X.env :: X.outer) (hf : X.env.frame = some X.env.locals) (hN : X.N.Nodup) (tk : Takes X Wout)
    (hb : ∀ (W : WX) (pn : List (Addr × Obj)) (xe : Value → Shared → Prop), Takes (X.tr pn xe) W → PassesOwn (model X.prog X.w) X.A X.env xe → PSs (X.tr pn xe) body (tb W))
    (hh : HdsA X (h₀ :: hds) l) : PS X (.Try body (h₀ :: hds) [] [] pos) (fun D σ H => tb (wManyA X.K Wout D l) D σ H) := by
  refine ⟨fun pins s σ H D I h => ?_⟩
  have ok := I.ok
  have hfr : X.A.frames = some (X.env :: X.outer) := by rw [ok.frames, hs]
  have calm : ∀ (f : Flow) (s1 : Shared) , SP (X.tr (X.pn ++ pins) (fun e s₁ => wpAny (model X.prog X.w) X.A (noteFrame e X.env) (fun _ s₂ => wpAny (model X.prog X.w) X.A (setFlight e none) (fun _ s₃ =>
      wpAny (model X.prog X.w) X.A (handleBy e X.env (h₀ :: hds)) (SP X pins D) X.xe s₃) X.xe s₂) X.xe s₁)) [] D f s1 → SP X pins D f s1 := fun f s1 hsp => by
    cases f with
    | next =>
      obtain ⟨σ', H', J', q⟩ := hsp
      exact ⟨σ', H', J'.ofTry ok, q⟩
    | brk =>
      obtain ⟨σ', H', J', q⟩ := hsp
      exact ⟨σ', H', J'.ofTry ok, q⟩
    | cont =>
      obtain ⟨σ', H', J', q⟩ := hsp
      exact ⟨σ', H', J'.ofTry ok, q⟩
    | ret u =>
      obtain ⟨v, σ', H', J', r, q⟩ := hsp
      exact ⟨v, σ', H', J'.ofTry ok, r, q⟩
  refine wpAny_Try_except ?_
  refine wpAny_mono ((hb (wManyA X.K Wout D l) (X.pn ++ pins) (fun e s₁ => wpAny (model X.prog X.w) X.A (noteFrame e X.env) (fun _ s₂ => wpAny (model X.prog X.w) X.A (setFlight e none) (fun _ s₃ =>
    wpAny (model X.prog X.w) X.A (handleBy e X.env (h₀ :: hds)) (SP X pins D) X.xe s₃) X.xe s₂) X.xe s₁) (fun u s' xx => ?_) PassesOwn.looking).run [] s σ H D (I.toTry _) h) (fun f s1 hsp => ?_) (fun e s1 he => he)
  · obtain ⟨a, B, sI, pins', σ', H', cls, d, rfl, J', nb, up, sky, na, os, ag, w⟩ := xx
    have J : Inv X pins σ' H' sI := J'.ofTry ok
    have sky' : Sky B (X.env :: X.outer) a (Zn cls d) X.env.locals s'.heap := by rw [← hs]; exact sky
    show wpAny (model X.prog X.w) X.A (noteFrame (.ref a) X.env) _ _ _
    refine Sky.land Zn.steady hfr hf sky' fun h3 fl3 up3 => ?_
    have J3 : Inv X pins σ' H' { s' with heap := h3 } := J.landed nb fl3.1 (up.trans up3) os ag
    obtain ⟨oe3, vs3, he3, hz3, hd3⟩ := fl3.there
    have nfr : a ∉ frs (X.env :: X.outer) := fun hm => by
      obtain ⟨_, o', e', hnf⟩ := fl3.2.2.1.mem hm
      rw [he3] at e'
      cases e'
      exact hnf _ hd3
    have nL : a ≠ X.env.locals := fun z => nfr (List.mem_filterMap.mpr ⟨X.env, List.mem_cons_self, by rw [hf, z]⟩)
    have nF : a ∉ X.fs := fun hm => by
      obtain ⟨e, he, q⟩ := List.mem_filterMap.mp hm
      exact nfr (List.mem_filterMap.mpr ⟨e, List.mem_cons_of_mem _ he, q⟩)
    have S3 := J3.suite he3 hd3 na nL nF
    have go : ∀ {hds' : List ExceptHandler} {l' : List Cl}, HdsA X hds' l' → wManyA X.K Wout D l' cls d σ' H' →
        wpAny (model X.prog X.w) X.A (handleBy (.ref a) X.env hds') (SP X pins D) X.xe { s' with heap := h3 } := by
      intro hds' l' hk
      induction hk with
      | nil =>
        intro w
        refine wpAny_handleBy_nil ?_
        obtain ⟨k1, k2, k3, oe, vs, T, oT, ts', he, hz, hd, h1, hr⟩ := id fl3
        unfold PySem.passOn
        refine wpAny_bind (wpAny_field he hd h1 ?_)
        rw [if_neg (show ¬ ((Value.ref T == Value.none) = true) from by simp)]
        have fin : wpAny (model X.prog X.w) X.A (setFlight (.ref a) X.env.frame) (fun _ s4 => wpAny (model X.prog X.w) X.A (throw (.ref a) : Sem Flow) (SP X pins D) X.xe s4) X.xe { s' with heap := h3 } := by
          rw [hf]
          refine HandSPX.setFlight_upZ fl3 fun h4 hh4 up4 => wpAny_throw (tk _ _ ?_)
          exact ⟨a, B, sI, pins, σ', H', cls, d, rfl, J, nb, (up.trans up3).trans up4, .inr (.inr (by rw [hs]; exact hh4)), na, os, ag, w⟩
        first
          | exact wpAny_bind (wpAny_pure (wpAny_bind fin))
          | exact wpAny_bind fin
      | @cons x n c i ts b₀ suite np pos' hds2 l2 hi hln hc hsu r ih =>
        intro w
        obtain ⟨b, hb1, hyes, hno⟩ := w
        have hloc : Loc X.env.scope n := .inl hln
        refine wpAny_handleBy_cons (codeAny_handlers_test ?_) (by intro q; cases q)
        have LT : PySem.W.Looks (model X.prog X.w) h3 (typeOf (.ref a)) cls := fun A Q E s k q => wpAny_typeOf_ref (k _ _ he3) (by rw [hz3.1]; exact q)
        have LM := PySem.W.exm_one (M := model X.prog X.w) (J3.kIn) LT hb1
        have test : ∀ {Q : Value → Shared → Prop} {E : Value → Shared → Prop}, Q c { s' with heap := h3 } → wpAny (model X.prog X.w) (X.A.mark (some (.ref a))) (eval (.Name x np) X.env) Q E { s' with heap := h3 } := fun {Q E} q => by
          obtain ⟨hg, hdbg, hm | ⟨hm, hv, hnn⟩⟩ := hc
          · exact ld_glob (X := X.suite a ((a, oe3) :: (X.pn ++ pins))) S3 hg hm q hdbg
          · exact ld_blt (X := X.suite a ((a, oe3) :: (X.pn ++ pins))) S3 hg hm hv q hnn hdbg
        refine test (LM.here ?_)
        cases b with
        | true =>
          refine codeAny_handlers_suite_as ?_
          refine HandSPX.lands_againZ fl3 fun h4 fl4 up4 => ?_
          have J4 : Inv X pins σ' H' { s' with heap := h4 } := J.landed nb fl4.1 ((up.trans up3).trans up4) os ag
          obtain ⟨oe4, vs4, he4, hz4, hd4⟩ := fl4.there
          have S4 := J4.suite he4 hd4 na nL nF
          refine store_ok (X := X.suite a ((a, oe4) :: (X.pn ++ pins))) (v := .ref a) S4 hN hi hloc rfl (fun s5 S5 => ?_) (.inr hln)
          refine wpAny_mono ((hsu a oe4 cls d (X.pn ++ pins) hz4 ⟨_, hd4⟩).run [] s5 _ H' _ S5 (hyes rfl a na)) (fun f s6 hsp => ?_) (fun _ _ z => False.elim z)
          have end_ : ∀ {σ6 : L2.St} {H6 : Hp} {Q : Shared → Prop}, Inv (X.suite a ((a, oe4) :: (X.pn ++ pins))) [] σ6 H6 s6 → (∀ s7, Inv X pins (σ6.set i none) H6 s7 → Q s7) →
              wpAny (model X.prog X.w) X.A (do bindName X.env n .none; unbindBehindTheSuite X.env n pos') (fun _ s7 => Q s7) X.xe s6 := fun {σ6 H6 Q} S6 hq => gone_ok (S6.unsuite ok) hN hi hln hq
          cases f with
          | next =>
            obtain ⟨σ6, H6, S6, q6⟩ := hsp
            exact end_ S6 fun s7 J7 => ⟨_, _, J7, q6⟩
          | brk =>
            obtain ⟨σ6, H6, S6, q6⟩ := hsp
            exact end_ S6 fun s7 J7 => ⟨_, _, J7, q6⟩
          | cont =>
            obtain ⟨σ6, H6, S6, q6⟩ := hsp
            exact end_ S6 fun s7 J7 => ⟨_, _, J7, q6⟩
          | ret u =>
            obtain ⟨v6, σ6, H6, S6, r6, q6⟩ := hsp
            exact end_ S6 fun s7 J7 => ⟨_, _, _, J7, r6, q6⟩
        | false =>
          show wpAny _ X.A (handleBy (.ref a) X.env hds2) _ _ _
          exact ih (hno rfl)
    exact go hh w
  · cases f with
    | next => exact wpAny_execs_nil (calm .next s1 hsp)
    | brk => exact calm .brk s1 hsp
    | cont => exact calm .cont s1 hsp
    | ret u => exact calm (.ret u) s1 hsp
end
end L2N
set_option Elab.async false
set_option linter.all false
set_option maxRecDepth 100000
set_option maxHeartbeats 4000000
namespace Z
open PySem PySem.Spec PyProof.Rows L2
/-! ### f(e, .., k = v), what is raised at the slots -/
structure CalKX (P : Program) (w : World) (K : PySem.W.Frag) (mg : Str → Option Value) (base : Heap) (k : Nat) (x : Str) (n : Nat) (ks : List Str) (gV : List V → List V → List V) (sp : Sp) : Prop where
  ex : ∃ (f : Addr) (fd : FuncData) (ps : List Str) (g : List Value → List Value → List Value), FnOk P w K mg base (L2N.CX P w) k f fd ps sp ∧ mg x = some (.ref f) ∧ PySem.W.keepIn K (.ref f) = true ∧ KBn K fd ps n ks g gV
def tClKW (n m : Nat) (sp : Sp) (gV : List V → List V → List V) (E : L2.St → XK) (t tk : TA) : TE := fun σ H Q => t σ H fun vs H1 => tk σ H1 fun zs H2 => vs.length = n ∧ zs.length = m ∧ sp (gV vs zs) H2 Q (E σ)
section
variable {X : Cx} {k j n : Nat} {x : Str} {sp : Sp} {ks : List Str} {gV : List V → List V → List V} {p pos : Pos} {e : Expr} {es : List Expr} {kws : List Keyword} {t tk : TA} {E : L2.St → XK}
theorem pe_clKE (c : CalKX X.prog X.w X.K X.mg X.base k x n ks gV sp) (hx : ∀ σ, PassesAt (L2N.CX X.prog X.w) X σ (E σ)) (hr : Room j X.A) (hk : k ≤ j) (hg : Gl X x) (ha : PA X (e :: es) t) (hkw : PK X kws tk)
    (hall : (backToKw pos (keywordEach kws X.env)).all (·.1.isSome) = true := by rfl) (hks : (backToKw pos (keywordEach kws X.env)).filterMap (·.1) = ks := by rfl) (hdb : (x == ("__debug__" : Str)) = false := by decide)
    (he : starEach (e :: es) X.env = (false, eval e X.env) :: starEach es X.env := by rfl) (hpl : ((backTo pos (starEach (e :: es) X.env)).any (·.1) || (backToKw pos (keywordEach kws X.env)).any (·.1.isNone)) = false := by rfl) :
    PE X (.Call (.Name x p) (e :: es) kws pos) (tClKW n ks.length sp gV E t tk) := by
  obtain ⟨f, fd, ps, g, F, hm, kp, hb⟩ := c.ex
  refine ⟨fun pins s σ H Q I h => ?_⟩
  refine wpAny_Call_Name_kw (ld_glob I hg hm ?_ hdb)
  refine PySem.W.callWith_KW (h₀ := X.base) I.ok.mod.kin kp hall (thn (ha.run pos pins s σ H _ I h) fun us s1 ⟨vs, H1, I1, r, q⟩ => ?_) hpl he
  refine thn (hkw.run pos pins s1 σ H1 _ I1 q) fun ws s2 ⟨zs, H2, I2, rz, l1, l2, q2⟩ => ⟨I2.kIn, ?_⟩
  rw [hks]
  have r2 := hb.rel r rz
  refine wpAny_call (codeAny_mono (F.run X.A X.stack s2 H2 ⟨us, ks.zip ws⟩ (g us ws) (gV vs zs) Q (E σ) (hr.mono hk) I2.env0 (hb.to s2 us ws I2.kIn (by rw [← r.length]; exact l1) (by rw [← rz.length]; exact l2)) r2 q2) fun r s' hq => ?_)
  exact back_at (hx σ) I2 r s' hq
end
end Z
set_option Elab.async false
set_option linter.all false
set_option maxRecDepth 100000
set_option maxHeartbeats 4000000
namespace Z
open PySem PySem.Spec PyProof.Rows L2
/-! ### raise X(), X an own class without own __init__ -/
structure Exn0 (K : PySem.W.Frag) (mg : Str → Option Value) (x : Str) (C : Addr) : Prop where
  ex : PySem.W.excIn K C He.veBase "ValueError.__new__" = true
  kp : PySem.W.keepIn K (.ref C) = true
  sub : PySem.W.subIn K (.ref C) (.type "BaseException") = some true
  ty : PySem.W.typeIn K (.ref C) = some (.type "type")
  gl : mg x = some (.ref C)
theorem pmk_ex0 {X : Cx} {x : Str} {C : Addr} {p pos : Pos} (c : Exn0 X.K X.mg x C) (hg : Gl X x) (hdb : (x == ("__debug__" : Str)) = false := by decide) :
    L2N.PMk X (.Call (.Name x p) [] [] pos) (fun _ H Q => Q (.ref C) none H) := by
  intro pins s σ H Q I h
  refine wpAny_Call_Name_kw (ld_glob I hg c.gl ?_ hdb)
  refine PySem.W.callWith_K0 I.kIn c.kp ?_
  obtain ⟨bm, N, nm, qn, bs, hdct, sn, sub, ab, col, dd, k0, k1, k2, k3, k5, mN, hC, hN, hni, T⟩ := exc_obj I.kIn c.ex
  refine wpAny_call_exc_subT PySem.F.excBase_ValueError T hC hN hni (fun h' e hm => ?_) (by decide)
  exact L2N.mk_of I hm (raises_own c.sub c.ty) h (I.hok.gone hm.new)
theorem ps_ex0 {X : Cx} {x : Str} {C : Addr} {p pos pos2 : Pos} {W : WX} (hc : X.calm = true) (tk : L2N.Takes X W) (c : Exn0 X.K X.mg x C) (hg : Gl X x) (hdb : (x == ("__debug__" : Str)) = false := by decide) :
    PS X (.Raise (some (.Call (.Name x p) [] [] pos)) none pos2) (fun _ σ H => W (.ref C) none σ H) := L2N.ps_raise hc tk (pmk_ex0 c hg hdb)
/-! ### isinstance(e, c), e a caught error without a dict -/
def rIs0 (K : PySem.W.Frag) (a : Addr) (cls : Value) (d : Option Addr) : List V → Hp → VK → Prop := fun xs H Q => ∃ (D : Addr) (c : V) (cv : Value) (b : Bool), cls = .ref D ∧ d = none ∧ ExcC K D ∧ xs = [.ref a, c] ∧ (∀ u, RelV c u → u = cv) ∧ PySem.W.kitOne K (.ref D) cv = some b ∧ Q (.bl b) H
theorem call_is0 {X : Cx} {a : Addr} {cls : Value} {d : Option Addr} {oe : Obj} {pn : List (Addr × Obj)} (hz : Zc cls d oe) (hf : ∃ vs, oe.data = .fields vs) : CallR (X.suite a ((a, oe) :: pn)) (.builtin "isinstance") (rIs0 X.K a cls d) := by
  intro pins s σ H xs us Q I r h
  obtain ⟨D, c, cv, b, rfl, rfl, C, rfl, hcv, e, q⟩ := h
  exact call_isE C hz hf pins s σ H _ us Q I r ⟨c, cv, b, rfl, hcv, e, q⟩
end Z
set_option Elab.async false
set_option linter.all false
set_option maxRecDepth 100000
set_option maxHeartbeats 4000000
namespace Z
open PySem PySem.Spec PyProof.Rows L2
open SX (S S_inj S_len S_cat)
/-! ### a text times an int -/
def rRepS : R2 := fun x y H Q => ∃ (l : List Nat) (k : Int), x = .str (S l) ∧ y = .int k ∧ -100000 ≤ k ∧ k ≤ 100000 ∧ l.length ≤ 10 ∧ Q (.str (S (List.replicate k.toNat l).flatten)) H
theorem op_repS {X : Cx} : OpR X (binaryOp .Mult) rRepS := by
  intro pins s σ H x y v u Q I rx ry h
  obtain ⟨l, k, rfl, rfl, h0, h1, hl, q⟩ := h
  obtain ⟨t, rfl⟩ := rx
  obtain ⟨t2, rfl⟩ := ry
  have el : (S l).length = l.length := S_len l
  have hm : l.length * k.toNat ≤ 10 * 100000 := Nat.mul_le_mul hl (by omega)
  refine PySem.P.mul_str ?_ ?_ ?_ ?_
  · rw [decide_eq_false (by omega), decide_eq_false (by omega)]
    rfl
  · intro h2 _ h3
    have : (k : Int) * ((2 ^ 63 - 1) / k) ≤ 2 ^ 63 - 1 := Int.mul_ediv_self_le (by omega)
    have h4 : (100000 : Int) ≤ (2 ^ 63 - 1) / k := by
      rw [Int.le_ediv_iff_mul_le (by omega)]
      omega
    rw [el] at h3
    omega
  · intro _ _
    rw [el]
    have hs : sizeLine = 16777216 := sizeLine_eq
    exact decide_eq_false (by omega)
  · have fr : ∀ (n : Nat) (acc : List Nat), List.foldl (fun x1 x2 => x1 ++ x2) acc.toArray (List.replicate n l.toArray) = (acc ++ (List.replicate n l).flatten).toArray := by
      intro n
      induction n with
      | zero => intro acc; simp
      | succ n ih =>
        intro acc
        have e : acc.toArray ++ l.toArray = (acc ++ l).toArray := by simp
        rw [List.replicate_succ, List.foldl_cons, e, ih, List.replicate_succ, List.flatten_cons, List.append_assoc]
    have fr0 := fr k.toNat []
    rw [List.nil_append] at fr0
    have e0 : (⟨List.foldl (fun x1 x2 => x1 ++ x2) #[] (List.replicate k.toNat (S l).cps)⟩ : Str) = S (List.replicate k.toNat l).flatten := congrArg Str.mk fr0
    have hz : (List.replicate k.toNat l).flatten.length ≤ 10 * 100000 := by
      rw [List.length_flatten, List.map_replicate, List.sum_replicate_nat]
      rw [Nat.mul_comm]
      exact hm
    by_cases c1 : k < 1
    · rw [if_pos c1]
      have : k.toNat = 0 := by omega
      rw [this] at q
      refine ⟨by decide, ?_⟩
      exact ⟨.str _, H, I.tok _, ⟨_, rfl⟩, q⟩
    · rw [if_neg c1]
      by_cases c2 : (k == 1 || (S l).length == 0) = true
      · rw [if_pos c2]
        have e2 : (List.replicate k.toNat l).flatten = l := by
          rw [Bool.or_eq_true, beq_iff_eq, beq_iff_eq, el] at c2
          rcases c2 with c2 | c2
          · rw [c2]
            simp
          · have : l = [] := List.length_eq_zero_iff.mp c2
            rw [this]
            simp
        rw [e2] at q
        exact ⟨.str _, H, I, ⟨_, rfl⟩, q⟩
      · rw [if_neg c2, e0]
        refine ⟨by rw [S_len]; exact Nat.le_trans hz (by decide), ?_⟩
        exact ⟨.str _, H, I.tok _, ⟨_, rfl⟩, q⟩
def rRepN : R2 := fun x y H Q => ∃ k : Int, x = .str "n" ∧ y = .int k ∧ -100000 ≤ k ∧ k ≤ 100000 ∧ Q (.str (S (List.replicate k.toNat 110))) H
theorem op_repN {X : Cx} : OpR X (binaryOp .Mult) rRepN := by
  intro pins s σ H x y v u Q I rx ry h
  obtain ⟨k, rfl, rfl, h0, h1, q⟩ := h
  have e : ∀ n : Nat, (List.replicate n [110]).flatten = List.replicate n 110 := by
    intro n
    induction n with
    | zero => rfl
    | succ n ih =>
      rw [List.replicate_succ, List.flatten_cons, ih, List.replicate_succ]
      rfl
  refine op_repS pins s σ H _ _ v u Q I rx ry ⟨[110], k, congrArg V.str (by decide +kernel), rfl, h0, h1, by decide, ?_⟩
  rw [e]
  exact q
end Z
set_option linter.all false
set_option maxRecDepth 100000
namespace Z
open PySem PySem.Spec PyProof.Rows L2
theorem none_of {H J : Hp} {p : Addr} (s : Same H J) (n : J p = none) : H p = none := by
  cases e : H p with
  | none => rfl
  | some o =>
    have := s p o e
    rw [n] at this
    cases this
theorem szC {n : Nat} (h : n ≤ 10000000) : n < sizeLine := Nat.lt_of_le_of_lt h (by decide)
theorem ixN_nat {n j : Nat} (h : j < n) : ixN n (j : Int) = some j := by
  unfold ixN
  rw [if_pos (by omega)]
  first
    | (rw [if_pos (by omega)]; congr 1)
    | simp [h]
theorem sqk_or {q : Bool} {K : PySem.W.Frag} {H : Hp} {a : Addr} {xs : List V} (h : SqK q K H a xs) : SqL K H a xs ∨ SqT K H a xs := by
  cases q
  · exact .inr h
  · exact .inl h
theorem nd_inj {l : List Nat} (nd : l.Nodup) {i j c : Nat} (hi : l[i]? = some c) (hj : l[j]? = some c) : i = j := by
  obtain ⟨h1, e1⟩ := List.getElem?_eq_some_iff.mp hi
  exact (List.getElem?_inj h1 nd).mp (hi.trans hj.symm)
theorem relv_ref {a : Addr} : L2.RelV (.ref a) (.ref a) := rfl
end Z
set_option Elab.async false
set_option linter.all false
set_option maxRecDepth 100000
set_option maxHeartbeats 4000000
namespace Z
open PySem PySem.Spec PyProof.Rows L2
open SX (S S_inj S_len S_cat)
theorem relv_str {x : Str} {t : Tok} : L2.RelV (.str x) (.str x t) := ⟨t, rfl⟩
theorem szl {n : Nat} (h : n ≤ 2000) : n ≤ sizeLine := Nat.le_trans h (by decide)
theorem szlt {n : Nat} (h : n ≤ 2000) : n < sizeLine := Nat.lt_of_le_of_lt h (by decide)
/-! ### draws and their place -/
structure Tk (K : PySem.W.Frag) (a p : Addr) (ds : List Int) (n : Nat) (H0 H1 : Hp) : Prop where
  hA : H1 a = some (.lst (ds.map V.int))
  hd : Dr n ds
  ne : a ≠ p
  sb : SB p H0 H1
  pl : ∃ m : Nat, H1 p = some (.lst [.int (m : Int)])
section
variable {K : PySem.W.Frag} {a p : Addr} {ds : List Int} {n m : Nat} {H0 H1 H2 : Hp}
theorem Tk.more (t : Tk K a p ds n H0 H1) (s : Same H1 H2) : Tk K a p ds n H0 H2 := by
  obtain ⟨m, e⟩ := t.pl
  exact ⟨s _ _ t.hA, t.hd, t.ne, t.sb.trans (Z.Same.sb s), m, s _ _ e⟩
theorem Tk.next (t : Tk K a p ds n H0 H1) (e : H1 p = some (.lst [.int (m : Int)])) : Tk K a p ds n H0 (upd H1 p (.lst [.int ((m + 1 : Nat) : Int)])) ∧ SB p H1 (upd H1 p (.lst [.int ((m + 1 : Nat) : Int)])) := by
  have sb : SB p H1 (upd H1 p (.lst [.int ((m + 1 : Nat) : Int)])) := SB.upd (Z.Same.sb (Same.refl H1))
  exact ⟨⟨sb _ _ t.ne t.hA, t.hd, t.ne, t.sb.trans sb, m + 1, upd_same⟩, sb⟩
theorem Tk.slf (t : Tk K a p ds n H0 H1) : Tk K a p ds n H1 H1 := ⟨t.hA, t.hd, t.ne, Z.Same.sb (Same.refl _), t.pl⟩
theorem Tk.tr (t : Tk K a p ds n H0 H1) (u : Tk K a p ds n H1 H2) : Tk K a p ds n H0 H2 := ⟨u.hA, u.hd, u.ne, t.sb.trans u.sb, u.pl⟩
theorem Tk.nn {q : Addr} (t : Tk K a p ds n H0 H1) (h : H1 q = none) : H0 q = none := by
  cases e : H0 q with
  | none => rfl
  | some o =>
    have pq : q ≠ p := fun z => by
      obtain ⟨m, em⟩ := t.pl
      rw [z, em] at h
      cases h
    rw [t.sb _ _ pq e] at h
    cases h
theorem Tk.at_ {q : Addr} {o : HO} (t : Tk K a p ds n H0 H1) (h : H0 q = none) (hp : p ≠ q) (ha : a ≠ q) : Tk K a p ds n H0 (upd H1 q o) := by
  obtain ⟨m, em⟩ := t.pl
  refine ⟨by rw [upd_ne ha]; exact t.hA, t.hd, t.ne, fun b u n1 n2 => ?_, m, by rw [upd_ne hp]; exact em⟩
  have bq : b ≠ q := fun z => by rw [z, h] at n2; cases n2
  rw [upd_ne bq]
  exact t.sb _ _ n1 n2
/-- an object other than the place lives on -/
theorem Tk.up (t : Tk K a p ds n H0 H1) {b : Addr} {o : HO} (e : H0 b = some o) (h : b ≠ p) : H1 b = some o := t.sb _ _ h e
end
theorem at_0 {α : Type} {x : α} {xs : List α} : atI (x :: xs) 0 = some x := show atI _ ((0 : Nat) : Int) = _ from atI_nat rfl
theorem at_1 {α : Type} {x y : α} {xs : List α} : atI (x :: y :: xs) 1 = some y := show atI _ ((1 : Nat) : Int) = _ from atI_nat rfl
theorem at_2 {α : Type} {x y z : α} {xs : List α} : atI (x :: y :: z :: xs) 2 = some z := show atI _ ((2 : Nat) : Int) = _ from atI_nat rfl
theorem at_3 {α : Type} {x y z u : α} {xs : List α} : atI (x :: y :: z :: u :: xs) 3 = some u := show atI _ ((3 : Nat) : Int) = _ from atI_nat rfl
theorem sum_one : ∀ l : List Nat, (l.map fun _ => 1).sum = l.length
  | [] => rfl
  | _ :: r => by
    rw [List.map_cons, List.sum_cons, sum_one r, List.length_cons]
    omega
theorem join_one : ∀ l : List Nat, TL.joinL [] (l.map fun c => [c]) = l
  | [] => rfl
  | [c] => rfl
  | c :: d :: r => by
    have ih := join_one (d :: r)
    show [c] ++ ([] ++ TL.joinL [] ((d :: r).map fun c => [c])) = _
    rw [ih]
    rfl
theorem ixv {b : Bool} {K : PySem.W.Frag} {H : Hp} {a : Addr} {xs : List V} {i : Int} {v : V} {Q : VK} (hS : SqK b K H a xs) (e : atI xs i = some v) (q : Q v H) : rIx K (.ref a) (.int i) H Q := by
  cases b
  · exact .inr (.inl ⟨a, _, _, _, rfl, rfl, hS, e, q⟩)
  · exact .inl ⟨a, _, _, _, rfl, rfl, hS, e, q⟩
theorem sgn_at (z : Str) (r : Int) (h : 0 < z.length) : ∃ c, atI z.cps.toList (r % (z.length : Int)) = some c := by
  have h1 := Int.emod_nonneg r (show (z.length : Int) ≠ 0 by omega)
  have h2 := Int.emod_lt_of_pos r (show 0 < (z.length : Int) by omega)
  obtain ⟨j, hj⟩ : ∃ j : Nat, r % (z.length : Int) = (j : Int) := ⟨(r % (z.length : Int)).toNat, by omega⟩
  rw [hj] at h2 ⊢
  have hl : j < z.cps.toList.length := by
    show j < z.cps.size
    have : z.length = z.cps.size := rfl
    omega
  exact ⟨z.cps.toList[j], atI_nat (List.getElem?_eq_getElem hl)⟩
theorem modN (r : Int) {n : Nat} (h : 0 < n) : ∃ c : Nat, r % (n : Int) = (c : Int) ∧ c < n := by
  have h1 := Int.emod_nonneg r (show (n : Int) ≠ 0 by omega)
  have h2 := Int.emod_lt_of_pos r (show 0 < (n : Int) by omega)
  exact ⟨(r % (n : Int)).toNat, by omega, by omega⟩
end Z
set_option Elab.async false
set_option linter.all false
set_option maxRecDepth 100000
set_option maxHeartbeats 4000000
namespace Z
open PySem PySem.Spec PyProof PyProof.Rows L2 F
/-! ### x in y, y an instance of a class with __contains__ -/
structure InO (P : Program) (w : World) (K : PySem.W.Frag) (mg : Str → Option Value) (base : Heap) (k : Nat) (C : Addr) (sp : Sp) : Prop where
  ex : ∃ (f : Addr) (fd : FuncData) (ps : List Str), FnOk P w K mg base CX0 k f fd ps sp ∧ PySem.W.findIn K (.ref C) "__contains__" = some (some (.ref f)) ∧ PySem.W.isFn K (.ref f) = true ∧ Binds K fd ps []
def rInO (C : Addr) (sp : Sp) : R2 := fun x y H Q => ∃ b dy gs, y = .ref b ∧ H b = some (.ins C dy gs) ∧ sp [.ref b, x] H (fun v H' => ∃ r, v = .bl r ∧ Q (.bl r) H') E0
theorem op_ownIn {X : Cx} {k j : Nat} {C : Addr} {sp : Sp} (c : InO X.prog X.w X.K X.mg X.base k C sp) (hr : Room j X.A) (hk : k ≤ j) : OpR X (compareOp .In) (rInO C sp) := by
  intro pins s σ H x y v u Q I rx ry hq
  obtain ⟨f, fd, ps, F, hs, hf, hb⟩ := c.ex
  obtain ⟨b, dy, gs, rfl, hb', q⟩ := hq
  cases ry
  obtain ⟨mB, J, _⟩ := ins_get I.hok hb'
  obtain ⟨od, J, _⟩ := J.look
  obtain ⟨m, hF⟩ := I.fr
  refine PySem.W.in_K hF I.ok.mod.kin J hs hf ?_
  have r2 : Vals [V.ref b, x] [Value.ref b, v] := .cons rfl (.cons rx .nil)
  refine thn (run_fn (dvs := []) F (hr.mono hk) hb .nil pass0 I r2 q) fun r s' z => ?_
  obtain ⟨v', H', I', rv, b', rfl, q'⟩ := z
  cases rv
  exact wpAny_truthy_bool ⟨.bl b', H', I', rfl, q'⟩
/-! ### making with defaults -/
structure MakD (P : Program) (w : World) (K : PySem.W.Frag) (mg : Str → Option Value) (base : Heap) (k : Nat) (x : Str) (dvs : List V) (sp : Sp) : Prop where
  ex : ∃ (C f : Addr) (fd : FuncData) (ps : List Str) (si : Sp) (ds : List Value), Mk K C f ∧ FnOk P w K mg base CX0 k f fd ps si ∧ mg x = some (.ref C) ∧ Vals dvs ds ∧ Binds K fd ps ds ∧
    ∀ vs H Q E, sp vs H Q E → ∀ n dx, H n = none → H dx = none → dx ≠ n → si (.ref n :: (vs ++ dvs)) (upd (upd H dx (.own n)) n (.ins C dx [])) (fun v H2 => v = .non ∧ Q (.ref n) H2) E
theorem pe_mkD {X : Cx} {k j : Nat} {x : Str} {sp : Sp} {dvs : List V} {p pos : Pos} {e : Expr} {es : List Expr} {t : TA} (c : MakD X.prog X.w X.K X.mg X.base k x dvs sp) (hr : Room j X.A) (hk : k + 1 ≤ j) (hg : Gl X x) (ha : PA X (e :: es) t)
    (hdb : (x == ("__debug__" : Str)) = false := by decide) (he : starEach (e :: es) X.env = (false, eval e X.env) :: starEach es X.env := by rfl) (hpl : (backTo pos (starEach es X.env)).any (·.1) = false := by rfl) : PE X (.Call (.Name x p) (e :: es) [] pos) (tCall sp [] E0 t) := by
  obtain ⟨C, f, fd, ps, si, ds, M, F, hm, rv, b, imp⟩ := c.ex
  constructor
  intro pins s σ H Q I h
  refine wpAny_Call_Name_kw (ld_glob I hg hm ?_ hdb)
  refine PySem.W.callWith_K (h₀ := X.base) I.ok.mod.kin M.kp (thn (ha.run pos pins s σ H _ I h) fun us s1 ⟨vs, H1, I1, r, q⟩ => ⟨I1.kIn, ?_⟩) he hpl
  have q2 : sp vs H1 Q E0 := by
    have z : sp (vs ++ []) H1 Q E0 := q
    rw [List.append_nil] at z
    exact z
  exact run_make (dvs := dvs) M F (hr.mono hk) b rv pass0 I1 r (fun n dx n1 n2 n3 => imp _ _ _ _ q2 n dx n1 n2 n3)
end Z
set_option linter.all false
set_option maxRecDepth 100000
namespace Mc
/-! ### tables and their runs -/
abbrev Tbl := List (List (Option Nat))
def nx (T : Tbl) (s k : Nat) : Option Nat := (T.getD s []).getD k none
def rn (T : Tbl) : Option Nat → List Nat → Option Nat
  | o, [] => o
  | none, _ :: _ => none
  | some s, k :: w => rn T (nx T s k) w
structure Wf (T : Tbl) (m : Nat) : Prop where
  row : ∀ r ∈ T, r.length = m
  ent : ∀ r ∈ T, ∀ e, some e ∈ r → e < T.length
def Acc (T : Tbl) (G : Nat → Prop) (s : Nat) (w : List Nat) : Prop := ∃ t, rn T (some s) w = some t ∧ G t
def Liv (T : Tbl) (G : Nat → Prop) (s : Nat) : Prop := ∃ w, Acc T G s w
def Leq (T : Tbl) (G : Nat → Prop) (s t : Nat) : Prop := ∀ w, Acc T G s w ↔ Acc T G t w
theorem rn_none (T : Tbl) : ∀ w, rn T none w = none
  | [] => rfl
  | _ :: _ => rfl
theorem rn_app (T : Tbl) : ∀ (u : List Nat) (o : Option Nat) (v : List Nat), rn T o (u ++ v) = rn T (rn T o u) v
  | [], _, _ => rfl
  | _ :: _, none, v => (rn_none T v).symm
  | k :: u, some s, v => rn_app T u (nx T s k) v
theorem nx_mem {T : Tbl} {s k e : Nat} (h : nx T s k = some e) : ∃ r, T[s]? = some r ∧ r[k]? = some (some e) := by
  unfold nx at h
  cases hT : T[s]? with
  | none =>
    rw [List.getD_eq_getElem?_getD, List.getD_eq_getElem?_getD, hT] at h
    simp at h
  | some r =>
    rw [List.getD_eq_getElem?_getD, List.getD_eq_getElem?_getD, hT] at h
    cases hr : r[k]? with
    | none =>
      simp [hr] at h
    | some o =>
      simp [hr] at h
      exact ⟨r, rfl, by rw [hr, h]⟩
theorem nx_at {T : Tbl} {s k : Nat} {r : List (Option Nat)} {o : Option Nat} (h : T[s]? = some r) (h2 : r[k]? = some o) : nx T s k = o := by
  unfold nx
  rw [List.getD_eq_getElem?_getD, List.getD_eq_getElem?_getD, h]
  show (r[k]?).getD none = o
  rw [h2]
  rfl
theorem nx_lt {T : Tbl} {m s k e : Nat} (wf : Wf T m) (h : nx T s k = some e) : e < T.length ∧ k < m ∧ s < T.length := by
  obtain ⟨r, h1, h2⟩ := nx_mem h
  have mr := List.mem_of_getElem? h1
  refine ⟨wf.ent r mr e (List.mem_of_getElem? h2), ?_, (List.getElem?_eq_some_iff.mp h1).1⟩
  rw [← wf.row r mr]
  exact (List.getElem?_eq_some_iff.mp h2).1
theorem acc_cons {T : Tbl} {G : Nat → Prop} {s k : Nat} {w : List Nat} : Acc T G s (k :: w) ↔ ∃ e, nx T s k = some e ∧ Acc T G e w := by
  constructor
  · rintro ⟨t, h, g⟩
    have h : rn T (nx T s k) w = some t := h
    cases e : nx T s k with
    | none => rw [e, rn_none] at h; cases h
    | some e' => exact ⟨e', rfl, t, by rw [e] at h; exact h, g⟩
  · rintro ⟨e, h, t, h2, g⟩
    exact ⟨t, by show rn T (nx T s k) w = some t; rw [h]; exact h2, g⟩
theorem acc_nil {T : Tbl} {G : Nat → Prop} {s : Nat} : Acc T G s [] ↔ G s := ⟨fun ⟨t, h, g⟩ => by cases h; exact g, fun g => ⟨s, rfl, g⟩⟩
theorem Leq.refl {T : Tbl} {G : Nat → Prop} (s : Nat) : Leq T G s s := fun _ => Iff.rfl
theorem Leq.symm {T : Tbl} {G : Nat → Prop} {s t : Nat} (h : Leq T G s t) : Leq T G t s := fun w => (h w).symm
theorem Leq.trans {T : Tbl} {G : Nat → Prop} {s t u : Nat} (h : Leq T G s t) (k : Leq T G t u) : Leq T G s u := fun w => (h w).trans (k w)
theorem Leq.good {T : Tbl} {G : Nat → Prop} {s t : Nat} (h : Leq T G s t) : G s ↔ G t := by
  have := h []
  rwa [acc_nil, acc_nil] at this
theorem Leq.liv {T : Tbl} {G : Nat → Prop} {s t : Nat} (h : Leq T G s t) (l : Liv T G s) : Liv T G t := let ⟨w, a⟩ := l; ⟨w, (h w).mp a⟩
theorem Leq.step {T : Tbl} {G : Nat → Prop} {s t k e : Nat} (h : Leq T G s t) (n : nx T s k = some e) (l : Liv T G e) : ∃ e', nx T t k = some e' ∧ Leq T G e e' := by
  obtain ⟨w, a⟩ := l
  obtain ⟨e', h1, _⟩ := acc_cons.mp ((h (k :: w)).mp (acc_cons.mpr ⟨e, n, a⟩))
  refine ⟨e', h1, fun v => ⟨fun b => ?_, fun b => ?_⟩⟩
  · obtain ⟨e2, h2, b2⟩ := acc_cons.mp ((h (k :: v)).mp (acc_cons.mpr ⟨e, n, b⟩))
    rw [h1] at h2
    cases h2
    exact b2
  · obtain ⟨e2, h2, b2⟩ := acc_cons.mp ((h (k :: v)).mpr (acc_cons.mpr ⟨e', h1, b⟩))
    rw [n] at h2
    cases h2
    exact b2
theorem liv_back {T : Tbl} {G : Nat → Prop} {s t : Nat} {w : List Nat} (h : rn T (some s) w = some t) (l : Liv T G t) : Liv T G s := by
  obtain ⟨v, u, a, g⟩ := l
  exact ⟨w ++ v, u, by rw [rn_app, h]; exact a, g⟩
theorem liv_good {T : Tbl} {G : Nat → Prop} {s : Nat} (h : G s) : Liv T G s := ⟨[], acc_nil.mpr h⟩
theorem liv_step {T : Tbl} {G : Nat → Prop} {s k e : Nat} (h : nx T s k = some e) (l : Liv T G e) : Liv T G s := let ⟨w, a⟩ := l; ⟨k :: w, acc_cons.mpr ⟨e, h, a⟩⟩
/-- closed flags that hold the good states hold the live ones -/
theorem liv_closed {T : Tbl} {G : Nat → Prop} {al : Nat → Prop} (g : ∀ s, G s → al s) (c : ∀ s k e, nx T s k = some e → al e → al s) {s : Nat} (l : Liv T G s) : al s := by
  obtain ⟨w, a⟩ := l
  induction w generalizing s with
  | nil => exact g s (acc_nil.mp a)
  | cons k w ih =>
    obtain ⟨e, h, b⟩ := acc_cons.mp a
    exact c s k e h (ih b)
/-! ### the normal form -/
structure NfOf (T : Tbl) (G : Nat → Prop) (m : Nat) (R : Tbl) (g : List Nat) (met : List Nat) : Prop where
  zero : met[0]? = some 0
  len : R.length = met.length
  row : ∀ r ∈ R, r.length = m
  live : ∀ s ∈ met, s < T.length ∧ Liv T G s
  ap : ∀ (i j s t : Nat), met[i]? = some s → met[j]? = some t → Leq T G s t → i = j
  no : ∀ (i s k : Nat), met[i]? = some s → nx R i k = none → ∀ e, nx T s k = some e → ¬ Liv T G e
  yes : ∀ (i s k j : Nat), met[i]? = some s → nx R i k = some j → ∃ e t, nx T s k = some e ∧ met[j]? = some t ∧ Leq T G e t
  good : ∀ i : Nat, i ∈ g ↔ ∃ s, met[i]? = some s ∧ G s
  asc : g.Pairwise (· < ·)
  ord : ∀ j : Nat, 0 < j → j < met.length → ∃ i k : Nat, i < j ∧ nx R i k = some j ∧ ∀ (i' k' j' : Nat), (i' < i ∨ i' = i ∧ k' < k) → nx R i' k' = some j' → j' < j
def Nf (T : Tbl) (G : Nat → Prop) (m : Nat) (R : Tbl) (g : List Nat) : Prop := (R = [] ∧ g = [] ∧ (T = [] ∨ ¬ Liv T G 0)) ∨ ∃ met, NfOf T G m R g met
theorem NfOf.sim {T : Tbl} {G : Nat → Prop} {m : Nat} {R : Tbl} {g met : List Nat} (h : NfOf T G m R g met) : ∀ (w : List Nat) (i s t0 : Nat), met[i]? = some t0 → Leq T G s t0 → (rn R (some i) w = none → ∀ t, rn T (some s) w = some t → ¬ Liv T G t) ∧ ∀ j, rn R (some i) w = some j → ∃ t t1, rn T (some s) w = some t ∧ met[j]? = some t1 ∧ Leq T G t t1 := by
  intro w
  induction w with
  | nil =>
    intro i s t0 hi l
    exact ⟨fun z => (by cases z), fun j z => by cases z; exact ⟨s, t0, rfl, hi, l⟩⟩
  | cons k w ih =>
    intro i s t0 hi l
    cases e : nx R i k with
    | none =>
      refine ⟨fun _ t ht lt => ?_, fun j z => ?_⟩
      · have ht : rn T (nx T s k) w = some t := ht
        cases e2 : nx T s k with
        | none => rw [e2, rn_none] at ht; cases ht
        | some e' =>
          rw [e2] at ht
          have le := liv_back ht lt
          obtain ⟨e3, h3, l3⟩ := l.step e2 le
          exact h.no i t0 k hi e e3 h3 (l3.liv le)
      · have z : rn R (nx R i k) w = some j := z
        rw [e, rn_none] at z
        cases z
    | some j =>
      obtain ⟨e1, t1, h1, h2, l1⟩ := h.yes i t0 k j hi e
      have lv1 : Liv T G e1 := l1.symm.liv (h.live t1 (List.mem_of_getElem? h2)).2
      obtain ⟨e2, h3, l3⟩ := l.symm.step h1 lv1
      obtain ⟨a, b⟩ := ih j e2 t1 h2 (l3.symm.trans l1)
      refine ⟨fun z t ht => a (by have z : rn R (nx R i k) w = none := z; rw [e] at z; exact z) t (by have ht : rn T (nx T s k) w = some t := ht; rw [h3] at ht; exact ht), fun j' z => ?_⟩
      obtain ⟨t, t2, c1, c2, c3⟩ := b j' (by have z : rn R (nx R i k) w = some j' := z; rw [e] at z; exact z)
      exact ⟨t, t2, by show rn T (nx T s k) w = some t; rw [h3]; exact c1, c2, c3⟩
def st (T : Tbl) : Option Nat := if T.length = 0 then none else some 0
theorem Nf.read {T : Tbl} {G : Nat → Prop} {m : Nat} {R : Tbl} {g : List Nat} (h : Nf T G m R g) (w : List Nat) : (rn R (st R) w = none → ∀ t, rn T (st T) w = some t → ¬ Liv T G t) ∧ ∀ j, rn R (st R) w = some j → ∃ t, rn T (st T) w = some t ∧ Liv T G t ∧ (j ∈ g ↔ G t) := by
  rcases h with ⟨rfl, rfl, h⟩ | ⟨met, h⟩
  · have e : rn [] (st []) w = none := rn_none [] w
    rw [e]
    refine ⟨fun _ t ht lt => ?_, fun j z => (by cases z)⟩
    rcases h with rfl | h
    · rw [e] at ht; cases ht
    · unfold st at ht
      split at ht
      · rw [rn_none] at ht; cases ht
      · exact h (liv_back ht lt)
  · have hm : 0 < met.length := (List.getElem?_eq_some_iff.mp h.zero).1
    have hT := (h.live 0 (List.mem_of_getElem? h.zero)).1
    have e1 : st R = some 0 := if_neg (by rw [h.len]; omega)
    have e2 : st T = some 0 := if_neg (by omega)
    rw [e1, e2]
    obtain ⟨a, b⟩ := h.sim w 0 0 0 h.zero (Leq.refl 0)
    refine ⟨a, fun j z => ?_⟩
    obtain ⟨t, t1, c1, c2, c3⟩ := b j z
    refine ⟨t, c1, c3.symm.liv (h.live t1 (List.mem_of_getElem? c2)).2, (h.good j).trans ⟨fun ⟨s, q1, q2⟩ => ?_, fun q => ⟨t1, c2, c3.good.mp q⟩⟩⟩
    rw [c2] at q1
    cases q1
    exact c3.good.mpr q2
/-! ### texts: some characters are no letters -/
def rs (T : Tbl) (ix : Nat → Option Nat) : Option Nat → List Nat → Option Nat
  | o, [] => o
  | none, _ :: _ => none
  | some s, c :: w => match ix c with
    | none => none
    | some k => rs T ix (nx T s k) w
theorem rs_none (T : Tbl) (ix : Nat → Option Nat) : ∀ w, rs T ix none w = none
  | [] => rfl
  | _ :: _ => rfl
theorem rs_known (ix : Nat → Option Nat) : ∀ (w : List Nat), (∃ ks : List Nat, (∀ T o, rs T ix o w = rn T o ks) ∧ ∀ c ∈ w, ix c ≠ none) ∨ ((∀ T o, rs T ix o w = none) ∧ ∃ c ∈ w, ix c = none)
  | [] => .inl ⟨[], fun T o => by cases o <;> rfl, fun c m => absurd m (by simp)⟩
  | c :: w => by
    cases e : ix c with
    | none =>
      refine .inr ⟨fun T o => ?_, c, List.mem_cons_self, e⟩
      cases o with
      | none => rfl
      | some s => show (match ix c with | none => none | some k => rs T ix (nx T s k) w) = none; rw [e]
    | some k =>
      have step : ∀ T s, rs T ix (some s) (c :: w) = rs T ix (nx T s k) w := fun T s => by
        show (match ix c with | none => none | some k => rs T ix (nx T s k) w) = _
        rw [e]
      rcases rs_known ix w with ⟨ks, h, h2⟩ | ⟨h, d, hd, h2⟩
      · refine .inl ⟨k :: ks, fun T o => ?_, fun d m => ?_⟩
        · cases o with
          | none => rfl
          | some s => rw [step, h]; rfl
        · rcases List.mem_cons.mp m with rfl | m
          · rw [e]; exact fun z => by cases z
          · exact h2 d m
      · refine .inr ⟨fun T o => ?_, d, List.mem_cons_of_mem _ hd, h2⟩
        cases o with
        | none => rfl
        | some s => rw [step, h]
theorem Nf.text {T : Tbl} {G : Nat → Prop} {m : Nat} {R : Tbl} {g : List Nat} (h : Nf T G m R g) (ix : Nat → Option Nat) (w : List Nat) : (rs R ix (st R) w = none → ∀ t, rs T ix (st T) w = some t → ¬ Liv T G t) ∧ ∀ j, rs R ix (st R) w = some j → ∃ t, rs T ix (st T) w = some t ∧ Liv T G t ∧ (j ∈ g ↔ G t) := by
  rcases rs_known ix w with ⟨ks, e, _⟩ | ⟨e, _⟩
  · rw [e, e]
    exact h.read ks
  · rw [e, e]
    exact ⟨fun _ t z => (by cases z), fun j z => (by cases z)⟩
/-! ### first occurrences -/
section
variable {α β : Type} [DecidableEq α] [DecidableEq β]
def isF (f : Nat → α) (s : Nat) : Bool := (List.range s).all fun t => decide (f t ≠ f s)
def cf (f : Nat → α) (n : Nat) : Nat := ((List.range n).filter (isF f)).length
theorem isF_iff {f : Nat → α} {s : Nat} : isF f s = true ↔ ∀ t, t < s → f t ≠ f s := by
  unfold isF
  rw [List.all_eq_true]
  exact ⟨fun h t ht => of_decide_eq_true (h t (List.mem_range.mpr ht)), fun h t ht => decide_eq_true (h t (List.mem_range.mp ht))⟩
theorem cf_succ (f : Nat → α) (n : Nat) : cf f (n + 1) = cf f n + if isF f n then 1 else 0 := by
  unfold cf
  rw [List.range_succ, List.filter_append, List.length_append]
  congr 1
  cases e : isF f n <;> simp [e]
theorem cf_le (f : Nat → α) (n : Nat) : cf f n ≤ n := by
  have := List.length_filter_le (isF f) (List.range n)
  rwa [List.length_range] at this
theorem cf_pos (f : Nat → α) {n : Nat} (h : 0 < n) : 0 < cf f n := by
  cases n with
  | zero => exact absurd h (Nat.lt_irrefl _)
  | succ n =>
    clear h
    induction n with
    | zero => rw [cf_succ, show isF f 0 = true from rfl]; exact Nat.succ_pos _
    | succ n ih => rw [cf_succ]; omega
theorem first_ex (f : Nat → α) : ∀ s, ∃ t, t ≤ s ∧ f t = f s ∧ isF f t = true := by
  intro s
  induction s using Nat.strongRecOn with
  | _ s ih =>
    cases e : isF f s with
    | true => exact ⟨s, Nat.le_refl _, rfl, e⟩
    | false =>
      have : ∃ t, t < s ∧ f t = f s := by
        refine Classical.byContradiction fun c => ?_
        have : isF f s = true := isF_iff.mpr fun t ht q => c ⟨t, ht, q⟩
        rw [e] at this
        cases this
      obtain ⟨t, ht, q⟩ := this
      obtain ⟨u, hu, q2, q3⟩ := ih t ht
      exact ⟨u, by omega, q2.trans q, q3⟩
/-- a finer map has at least as many values; as many only if it is not finer -/
theorem cf_mono {f : Nat → α} {g : Nat → β} {n : Nat} (h : ∀ s t, s < n → t < n → g s = g t → f s = f t) : cf f n ≤ cf g n := by
  induction n with
  | zero => exact Nat.le_refl _
  | succ n ih =>
    have h1 := ih fun s t hs ht => h s t (by omega) (by omega)
    rw [cf_succ, cf_succ]
    cases e : isF f n with
    | false => simp; omega
    | true =>
      have : isF g n = true := isF_iff.mpr fun t ht q => isF_iff.mp e t ht (h t n (by omega) (by omega) q)
      rw [this]
      omega
theorem cf_eq {f : Nat → α} {g : Nat → β} {n : Nat} (h : ∀ s t, s < n → t < n → g s = g t → f s = f t) (e : cf g n = cf f n) : ∀ s t, s < n → t < n → f s = f t → g s = g t := by
  have sub : ∀ s, s < n → isF f s = true → isF g s = true := fun s hs hf => isF_iff.mpr fun t ht q => isF_iff.mp hf t ht (h t s (by omega) hs q)
  have all : ∀ k, k ≤ n → (cf g k = cf f k → ∀ s, s < k → isF g s = true → isF f s = true) ∧ cf f k ≤ cf g k := by
    intro k
    induction k with
    | zero => exact fun _ => ⟨fun _ s hs => absurd hs (Nat.not_lt_zero _), Nat.le_refl _⟩
    | succ k ih =>
      intro hk
      obtain ⟨i1, i2⟩ := ih (by omega)
      have sk := sub k (by omega)
      rw [cf_succ, cf_succ]
      cases ef : isF f k with
      | true =>
        rw [sk ef]
        refine ⟨fun q s hs hg => ?_, by simp; omega⟩
        by_cases c : s = k
        · subst c; exact ef
        · exact i1 (by simp at q; omega) s (by omega) hg
      | false =>
        cases eg : isF g k with
        | true => exact ⟨fun q => by simp at q; omega, by simp; omega⟩
        | false =>
          refine ⟨fun q s hs hg => ?_, by simp; omega⟩
          by_cases c : s = k
          · subst c; rw [eg] at hg; cases hg
          · exact i1 (by simp at q; omega) s (by omega) hg
  have back := (all n (Nat.le_refl n)).1 e
  intro s t hs ht q
  obtain ⟨s1, a1, a2, a3⟩ := first_ex g s
  obtain ⟨t1, b1, b2, b3⟩ := first_ex g t
  have fs := back s1 (by omega) a3
  have ft := back t1 (by omega) b3
  have e1 : f s1 = f t1 := (h s1 s (by omega) hs a2).trans (q.trans (h t1 t (by omega) ht b2).symm)
  have : s1 = t1 := by
    rcases Nat.lt_trichotomy s1 t1 with c | c | c
    · exact absurd e1 (isF_iff.mp ft s1 c)
    · exact c
    · exact absurd e1.symm (isF_iff.mp fs t1 c)
  rw [← a2, this, b2]
end
/-! ### classes of states -/
/-- what a row tells about the classes -/
def mk (T : Tbl) (m : Nat) (cl : Nat → Nat) (s : Nat) : Nat × List (Option Nat) := (cl s, (List.range m).map fun k => (nx T s k).map cl)
theorem mk_fst {T : Tbl} {m : Nat} {cl : Nat → Nat} {s t : Nat} (h : mk T m cl s = mk T m cl t) : cl s = cl t := congrArg (·.1) h
theorem mk_snd {T : Tbl} {m : Nat} {cl : Nat → Nat} {s t k : Nat} (h : mk T m cl s = mk T m cl t) (hk : k < m) : (nx T s k).map cl = (nx T t k).map cl := by
  have e := congrArg (fun z : Nat × List (Option Nat) => z.2[k]?) h
  unfold mk at e
  dsimp only at e
  rw [List.getElem?_map, List.getElem?_map, List.getElem?_range hk] at e
  injection e
theorem mk_mk {T : Tbl} {m : Nat} {cl : Nat → Nat} {s t : Nat} (h : cl s = cl t) (h2 : ∀ k, k < m → (nx T s k).map cl = (nx T t k).map cl) : mk T m cl s = mk T m cl t := by
  unfold mk
  rw [h]
  congr 1
  exact List.map_congr_left fun k hk => h2 k (List.mem_range.mp hk)
/-- states with the same language have the same class -/
def Crs (T : Tbl) (G : Nat → Prop) (cl : Nat → Nat) : Prop := ∀ s t, s < T.length → t < T.length → Leq T G s t → cl s = cl t
theorem Crs.next {T : Tbl} {G : Nat → Prop} {m : Nat} {cl : Nat → Nat} (wf : Wf T m) (lv : ∀ s k e, nx T s k = some e → Liv T G e) (h : Crs T G cl) {s t : Nat} (hs : s < T.length) (ht : t < T.length) (l : Leq T G s t) : mk T m cl s = mk T m cl t := by
  refine mk_mk (h s t hs ht l) fun k hk => ?_
  cases e : nx T s k with
  | some a =>
    obtain ⟨b, e2, l2⟩ := l.step e (lv _ _ _ e)
    rw [e2]
    show some (cl a) = some (cl b)
    rw [h a b (nx_lt wf e).1 (nx_lt wf e2).1 l2]
  | none =>
    cases e2 : nx T t k with
    | none => rfl
    | some b =>
      obtain ⟨a, e3, _⟩ := l.symm.step e2 (lv _ _ _ e2)
      rw [e] at e3
      cases e3
/-- stable classes tell the languages apart -/
theorem stable_leq {T : Tbl} {G : Nat → Prop} {m : Nat} {cl : Nat → Nat} (wf : Wf T m) (g : ∀ s t, s < T.length → t < T.length → cl s = cl t → (G s ↔ G t)) (st : ∀ s t, s < T.length → t < T.length → cl s = cl t → mk T m cl s = mk T m cl t) : ∀ s t, s < T.length → t < T.length → cl s = cl t → Leq T G s t := by
  have key : ∀ w s t, s < T.length → t < T.length → cl s = cl t → Acc T G s w → Acc T G t w := by
    intro w
    induction w with
    | nil => exact fun s t hs ht e a => acc_nil.mpr ((g s t hs ht e).mp (acc_nil.mp a))
    | cons k w ih =>
      intro s t hs ht e a
      obtain ⟨x, h1, a⟩ := acc_cons.mp a
      obtain ⟨x1, x2, x3⟩ := nx_lt wf h1
      have q := mk_snd (st s t hs ht e) x2
      rw [h1] at q
      cases h2 : nx T t k with
      | none => rw [h2] at q; cases q
      | some y =>
        rw [h2] at q
        have q : some (cl x) = some (cl y) := q
        injection q with q
        exact acc_cons.mpr ⟨y, h2, ih x y x1 (nx_lt wf h2).1 q a⟩
  exact fun s t hs ht e w => ⟨key w s t hs ht e, key w t s ht hs e.symm⟩
/-! ### flags -/
def cnt (al : Nat → Bool) (n : Nat) : Nat := ((List.range n).filter al).length
theorem cnt_succ (al : Nat → Bool) (n : Nat) : cnt al (n + 1) = cnt al n + if al n then 1 else 0 := by
  unfold cnt
  rw [List.range_succ, List.filter_append, List.length_append]
  congr 1
  cases e : al n <;> simp [e]
theorem cnt_le (al : Nat → Bool) (n : Nat) : cnt al n ≤ n := by
  have := List.length_filter_le al (List.range n)
  rwa [List.length_range] at this
theorem cnt_mono {al bl : Nat → Bool} : ∀ {n : Nat}, (∀ s, s < n → al s = true → bl s = true) → cnt al n ≤ cnt bl n
  | 0, _ => Nat.le_refl _
  | n + 1, h => by
    have := cnt_mono (n := n) fun s hs => h s (by omega)
    rw [cnt_succ, cnt_succ]
    cases e : al n with
    | false => simp; omega
    | true => rw [h n (by omega) e]; simp; omega
theorem cnt_lt {al bl : Nat → Bool} : ∀ {n x : Nat}, (∀ s, s < n → al s = true → bl s = true) → x < n → al x = false → bl x = true → cnt al n < cnt bl n
  | 0, x, _, hx, _, _ => absurd hx (Nat.not_lt_zero _)
  | n + 1, x, h, hx, h1, h2 => by
    rw [cnt_succ, cnt_succ]
    by_cases c : x = n
    · subst c
      have := cnt_mono (n := x) fun s hs => h s (by omega)
      rw [h1, h2]
      simp
      omega
    · have := cnt_lt (n := n) (x := x) (fun s hs => h s (by omega)) (by omega) h1 h2
      cases e : al n with
      | false => simp; omega
      | true => rw [h n (by omega) e]; simp; omega
/-! ### the rows that are kept -/
structure Kpt (T : Tbl) (G : Nat → Prop) (m : Nat) (T' : Tbl) : Prop where
  len : T'.length = T.length
  wf : Wf T' m
  nx : ∀ s k e, nx T' s k = some e ↔ nx T s k = some e ∧ Liv T G e
theorem Kpt.acc {T T' : Tbl} {G : Nat → Prop} {m : Nat} (h : Kpt T G m T') : ∀ w s, Acc T' G s w ↔ Acc T G s w
  | [], s => by rw [acc_nil, acc_nil]
  | k :: w, s => by
    rw [acc_cons, acc_cons]
    constructor
    · rintro ⟨e, h1, a⟩
      exact ⟨e, ((h.nx s k e).mp h1).1, (h.acc w e).mp a⟩
    · rintro ⟨e, h1, a⟩
      exact ⟨e, (h.nx s k e).mpr ⟨h1, w, a⟩, (h.acc w e).mpr a⟩
theorem Kpt.liv {T T' : Tbl} {G : Nat → Prop} {m : Nat} (h : Kpt T G m T') (s : Nat) : Liv T' G s ↔ Liv T G s := ⟨fun ⟨w, a⟩ => ⟨w, (h.acc w s).mp a⟩, fun ⟨w, a⟩ => ⟨w, (h.acc w s).mpr a⟩⟩
theorem Kpt.leq {T T' : Tbl} {G : Nat → Prop} {m : Nat} (h : Kpt T G m T') (s t : Nat) : Leq T' G s t ↔ Leq T G s t := by
  constructor
  · intro l w
    rw [← h.acc, ← h.acc]
    exact l w
  · intro l w
    rw [h.acc, h.acc]
    exact l w
theorem Kpt.lv {T T' : Tbl} {G : Nat → Prop} {m : Nat} (h : Kpt T G m T') (s k e : Nat) (z : Mc.nx T' s k = some e) : Liv T' G e := (h.liv e).mpr ((h.nx s k e).mp z).2
theorem Kpt.nf {T T' : Tbl} {G : Nat → Prop} {m : Nat} {R : Tbl} {g met : List Nat} (h : Kpt T G m T') (n : NfOf T' G m R g met) : NfOf T G m R g met where
  zero := n.zero
  len := n.len
  row := n.row
  live := fun s hs => ⟨by rw [← h.len]; exact (n.live s hs).1, (h.liv s).mp (n.live s hs).2⟩
  ap := fun i j s t h1 h2 l => n.ap i j s t h1 h2 ((h.leq s t).mpr l)
  no := fun i s k h1 h2 e h3 h4 => n.no i s k h1 h2 e ((h.nx s k e).mpr ⟨h3, h4⟩) ((h.liv e).mpr h4)
  yes := fun i s k j h1 h2 => let ⟨e, t, h3, h4, h5⟩ := n.yes i s k j h1 h2; ⟨e, t, ((h.nx s k e).mp h3).1, h4, (h.leq e t).mp h5⟩
  good := n.good
  asc := n.asc
  ord := n.ord
def kp (al : Nat → Bool) : Option Nat → Option Nat
  | none => none
  | some e => if al e = true then some e else none
def kpT (al : Nat → Bool) (T : Tbl) : Tbl := T.map fun r => r.map (kp al)
theorem nx_kp (al : Nat → Bool) (T : Tbl) (s k : Nat) : nx (kpT al T) s k = kp al (nx T s k) := by
  unfold nx kpT
  rw [List.getD_eq_getElem?_getD, List.getD_eq_getElem?_getD, List.getD_eq_getElem?_getD, List.getD_eq_getElem?_getD, List.getElem?_map]
  cases T[s]? with
  | none => rfl
  | some r =>
    show ((r.map (kp al))[k]?).getD none = kp al ((r[k]?).getD none)
    rw [List.getElem?_map]
    cases r[k]? <;> rfl
theorem kp_some {al : Nat → Bool} {o : Option Nat} {e : Nat} : kp al o = some e ↔ o = some e ∧ al e = true := by
  cases o with
  | none => exact ⟨fun z => (by cases z), fun z => (by cases z.1)⟩
  | some x =>
    show (if al x = true then some x else none) = some e ↔ _
    constructor
    · intro z
      by_cases c : al x = true
      · rw [if_pos c] at z
        cases z
        exact ⟨rfl, c⟩
      · rw [if_neg c] at z
        cases z
    · rintro ⟨z, c⟩
      cases z
      rw [if_pos c]
theorem kpt_of {T : Tbl} {G : Nat → Prop} {m : Nat} {al : Nat → Bool} (wf : Wf T m) (h : ∀ s, s < T.length → (al s = true ↔ Liv T G s)) : Kpt T G m (kpT al T) where
  len := List.length_map ..
  wf := ⟨fun r hr => by
    obtain ⟨r0, h0, rfl⟩ := List.mem_map.mp hr
    rw [List.length_map]
    exact wf.row r0 h0, fun r hr e he => by
    obtain ⟨r0, h0, rfl⟩ := List.mem_map.mp hr
    obtain ⟨o, ho, h1⟩ := List.mem_map.mp he
    have := (kp_some.mp h1).1
    subst this
    unfold kpT
    rw [List.length_map]
    exact wf.ent r0 h0 e ho⟩
  nx := fun s k e => by
    rw [nx_kp, kp_some]
    constructor
    · rintro ⟨h1, h2⟩
      exact ⟨h1, (h e (nx_lt wf h1).1).mp h2⟩
    · rintro ⟨h1, h2⟩
      exact ⟨h1, (h e (nx_lt wf h1).1).mpr h2⟩
theorem nd_len : ∀ {n : Nat} {l : List Nat}, l.Nodup → (∀ x ∈ l, x < n) → l.length ≤ n := by
  intro n
  induction n with
  | zero =>
    intro l _ h
    cases l with
    | nil => exact Nat.le_refl _
    | cons x r => exact absurd (h x List.mem_cons_self) (Nat.not_lt_zero _)
  | succ n ih =>
    intro l nd h
    have z := ih (l := l.erase n) (nd.erase _) (fun x hx => by
      have h1 := h x (List.mem_of_mem_erase hx)
      have h2 : x ≠ n := fun e => nd.not_mem_erase (e ▸ hx)
      omega)
    by_cases c : n ∈ l
    · rw [List.length_erase_of_mem c] at z
      omega
    · rw [List.erase_of_not_mem c] at z
      omega
/-! ### the walk that numbers the states -/
theorem nx_grow {R : Tbl} {L : List (Option Nat)} {o : Option Nat} {i k : Nat} : nx (R ++ [L ++ [o]]) i k = if i = R.length ∧ k = L.length then o else nx (R ++ [L]) i k := by
  unfold nx
  simp only [List.getD_eq_getElem?_getD]
  by_cases c : i < R.length
  · rw [if_neg (by omega), List.getElem?_append_left c, List.getElem?_append_left c]
  · rw [List.getElem?_append_right (by omega), List.getElem?_append_right (by omega)]
    by_cases d : i = R.length
    · subst d
      rw [Nat.sub_self]
      show ((L ++ [o])[k]?).getD none = if R.length = R.length ∧ k = L.length then o else (L[k]?).getD none
      by_cases e : k < L.length
      · rw [if_neg (by omega), List.getElem?_append_left e]
      · rw [List.getElem?_append_right (by omega)]
        by_cases f : k = L.length
        · subst f
          rw [if_pos ⟨rfl, rfl⟩, Nat.sub_self]
          rfl
        · rw [if_neg (by omega), List.getElem?_eq_none (by simp; omega), List.getElem?_eq_none (by omega)]
    · rw [if_neg (by omega)]
      obtain ⟨x, hx⟩ : ∃ x, i - R.length = x + 1 := ⟨i - R.length - 1, by omega⟩
      rw [hx]
      rfl
theorem nx_close {A : Tbl} {i k : Nat} : nx (A ++ [[]]) i k = nx A i k := by
  unfold nx
  simp only [List.getD_eq_getElem?_getD]
  by_cases c : i < A.length
  · rw [List.getElem?_append_left c]
  · rw [List.getElem?_append_right (by omega), List.getElem?_eq_none (show A.length ≤ i by omega)]
    cases h : i - A.length with
    | zero => rfl
    | succ x => rfl
structure Bf (T : Tbl) (G : Nat → Prop) (m : Nat) (met : List Nat) (R : Tbl) (L : List (Option Nat)) : Prop where
  zero : met[0]? = some 0
  live : ∀ s ∈ met, s < T.length ∧ Liv T G s
  ap : ∀ (i j s t : Nat), met[i]? = some s → met[j]? = some t → Leq T G s t → i = j
  row : ∀ r ∈ R, r.length = m
  len : L.length ≤ m
  le : R.length ≤ met.length
  no : ∀ (i s k : Nat), (i < R.length ∧ k < m ∨ i = R.length ∧ k < L.length) → met[i]? = some s → nx (R ++ [L]) i k = none → nx T s k = none
  yes : ∀ (i s k j : Nat), met[i]? = some s → nx (R ++ [L]) i k = some j → ∃ e t, nx T s k = some e ∧ met[j]? = some t ∧ Leq T G e t
  bd : ∀ (i k j : Nat), nx (R ++ [L]) i k = some j → j < met.length
  ord : ∀ j : Nat, 0 < j → j < met.length → ∃ i k : Nat, i < j ∧ nx (R ++ [L]) i k = some j ∧ ∀ (i' k' j' : Nat), (i' < i ∨ i' = i ∧ k' < k) → nx (R ++ [L]) i' k' = some j' → j' < j
theorem nx_out {R : Tbl} {L : List (Option Nat)} {i k j : Nat} (h : nx (R ++ [L]) i k = some j) : i < R.length ∨ i = R.length ∧ k < L.length := by
  obtain ⟨r, h1, h2⟩ := nx_mem h
  have hi := (List.getElem?_eq_some_iff.mp h1).1
  rw [List.length_append] at hi
  have hi : i < R.length + 1 := hi
  by_cases c : i < R.length
  · exact .inl c
  · have e : i = R.length := by omega
    subst e
    rw [List.getElem?_append_right (Nat.le_refl _), Nat.sub_self] at h1
    cases h1
    exact .inr ⟨rfl, (List.getElem?_eq_some_iff.mp h2).1⟩
/-- one more entry: none, or an old number, or the next one -/
theorem Bf.put {T : Tbl} {G : Nat → Prop} {m : Nat} {met more : List Nat} {R : Tbl} {L : List (Option Nat)} {o : Option Nat} {s : Nat} (h : Bf T G m met R L) (hs : met[R.length]? = some s) (hL : L.length < m)
    (hm : more = [] ∨ ∃ e, more = [e] ∧ o = some met.length ∧ e < T.length ∧ Liv T G e ∧ ∀ t ∈ met, ¬ Leq T G e t)
    (ho : (o = none ∧ nx T s L.length = none) ∨ ∃ j e t, o = some j ∧ nx T s L.length = some e ∧ (met ++ more)[j]? = some t ∧ Leq T G e t) : Bf T G m (met ++ more) R (L ++ [o]) := by
  have ml : R.length < met.length := (List.getElem?_eq_some_iff.mp hs).1
  have up : ∀ {i t : Nat}, met[i]? = some t → (met ++ more)[i]? = some t := fun {i t} hi => by
    rw [List.getElem?_append_left (List.getElem?_eq_some_iff.mp hi).1]
    exact hi
  have dn : ∀ {i t : Nat}, (met ++ more)[i]? = some t → met[i]? = some t ∨ (i = met.length ∧ more = [t]) := fun {i t} hi => by
    by_cases c : i < met.length
    · rw [List.getElem?_append_left c] at hi
      exact .inl hi
    · rw [List.getElem?_append_right (by omega)] at hi
      rcases hm with rfl | ⟨e, rfl, _⟩
      · simp at hi
      · have c2 : i - met.length = 0 := by
          have := (List.getElem?_eq_some_iff.mp hi).1
          simp at this
          omega
        rw [c2] at hi
        cases hi
        exact .inr ⟨by omega, rfl⟩
  have low : ∀ {i t : Nat}, (met ++ more)[i]? = some t → i < met.length → met[i]? = some t := fun {i t} hi hl => by
    rw [List.getElem?_append_left hl] at hi
    exact hi
  refine ⟨up h.zero, fun t ht => ?_, fun i j a b ha hb l => ?_, h.row, by rw [List.length_append]; exact hL, Nat.le_trans h.le (by rw [List.length_append]; omega), fun i a k hc ha hn => ?_, fun i a k j ha hy => ?_, fun i k j hy => ?_, fun j j0 jl => ?_⟩
  · rcases List.mem_append.mp ht with ht | ht
    · exact h.live t ht
    · rcases hm with rfl | ⟨e, rfl, _, e1, e2, _⟩
      · exact absurd ht (by simp)
      · rw [List.mem_singleton.mp ht]
        exact ⟨e1, e2⟩
  · rcases dn ha with ha1 | ⟨rfl, ma⟩
    · rcases dn hb with hb1 | ⟨rfl, mb⟩
      · exact h.ap i j a b ha1 hb1 l
      · rcases hm with rfl | ⟨e, rfl, _, _, _, no⟩
        · cases mb
        · cases mb
          exact absurd l.symm (no a (List.mem_of_getElem? ha1))
    · rcases dn hb with hb1 | ⟨rfl, mb⟩
      · rcases hm with rfl | ⟨e, rfl, _, _, _, no⟩
        · cases ma
        · cases ma
          exact absurd l (no b (List.mem_of_getElem? hb1))
      · rfl
  · rw [nx_grow] at hn
    by_cases c : i = R.length ∧ k = L.length
    · rw [if_pos c] at hn
      rcases ho with ⟨_, h2⟩ | ⟨j, e, t, h1, _⟩
      · rw [c.1] at ha
        have := low ha ml
        rw [hs] at this
        cases this
        rw [c.2]
        exact h2
      · rw [h1] at hn; cases hn
    · rw [if_neg c] at hn
      rw [List.length_append] at hc
      have hc : i < R.length ∧ k < m ∨ i = R.length ∧ k < L.length + 1 := hc
      exact h.no i a k (by omega) (low ha (by omega)) hn
  · rw [nx_grow] at hy
    by_cases c : i = R.length ∧ k = L.length
    · rw [if_pos c] at hy
      rcases ho with ⟨h1, _⟩ | ⟨j', e, t, h1, h2, h3, h4⟩
      · rw [h1] at hy; cases hy
      · rw [h1] at hy
        cases hy
        rw [c.1] at ha
        have := low ha ml
        rw [hs] at this
        cases this
        rw [c.2]
        exact ⟨e, t, h2, h3, h4⟩
    · rw [if_neg c] at hy
      have hi := nx_out hy
      obtain ⟨e, t, h1, h2, h3⟩ := h.yes i a k j (low ha (by omega)) hy
      exact ⟨e, t, h1, up h2, h3⟩
  · rw [nx_grow] at hy
    rw [List.length_append]
    by_cases c : i = R.length ∧ k = L.length
    · rw [if_pos c] at hy
      rcases ho with ⟨h1, _⟩ | ⟨j', e, t, h1, h2, h3, h4⟩
      · rw [h1] at hy; cases hy
      · rw [h1] at hy
        cases hy
        have := (List.getElem?_eq_some_iff.mp h3).1
        rwa [List.length_append] at this
    · rw [if_neg c] at hy
      have := h.bd i k j hy
      omega
  · by_cases c : j < met.length
    · obtain ⟨i, k, h1, h2, h3⟩ := h.ord j j0 c
      have hi := nx_out h2
      refine ⟨i, k, h1, ?_, fun i' k' j' hb hy => ?_⟩
      · rw [nx_grow, if_neg (by omega)]
        exact h2
      · rw [nx_grow, if_neg (by omega)] at hy
        exact h3 i' k' j' hb hy
    · rcases hm with rfl | ⟨e, rfl, ho2, _⟩
      · rw [List.append_nil] at jl
        exact absurd jl c
      · have hj : j = met.length := by
          rw [List.length_append] at jl
          have jl : j < met.length + 1 := jl
          omega
        subst hj
        refine ⟨R.length, L.length, ml, by rw [nx_grow, if_pos ⟨rfl, rfl⟩]; exact ho2, fun i' k' j' hb hy => ?_⟩
        rw [nx_grow, if_neg (by omega)] at hy
        exact h.bd i' k' j' hy
theorem Bf.close {T : Tbl} {G : Nat → Prop} {m : Nat} {met : List Nat} {R : Tbl} {L : List (Option Nat)} (h : Bf T G m met R L) (hR : R.length < met.length) (hL : L.length = m) : Bf T G m met (R ++ [L]) [] := by
  refine ⟨h.zero, h.live, h.ap, fun r hr => ?_, Nat.zero_le _, by rw [List.length_append]; exact hR, fun i s k hc hs hn => ?_, fun i s k j hs hy => ?_, fun i k j hy => ?_, fun j j0 jl => ?_⟩
  · rcases List.mem_append.mp hr with hr | hr
    · exact h.row r hr
    · rw [List.mem_singleton.mp hr]
      exact hL
  · rw [nx_close] at hn
    rw [List.length_append] at hc
    have hc : i < R.length + 1 ∧ k < m ∨ i = R.length + 1 ∧ k < 0 := hc
    exact h.no i s k (by omega) hs hn
  · rw [nx_close] at hy
    exact h.yes i s k j hs hy
  · rw [nx_close] at hy
    exact h.bd i k j hy
  · obtain ⟨i, k, h1, h2, h3⟩ := h.ord j j0 jl
    exact ⟨i, k, h1, by rw [nx_close]; exact h2, fun i' k' j' hb hy => h3 i' k' j' hb (by rw [nx_close] at hy; exact hy)⟩
theorem Bf.start {T : Tbl} {G : Nat → Prop} {m : Nat} (h : 0 < T.length) (l : Liv T G 0) : Bf T G m [0] [] [] := by
  have e : ∀ i k, nx ([] ++ [[]]) i k = none := fun i k => by
    rw [nx_close]
    rfl
  refine ⟨rfl, fun s hs => by rw [List.mem_singleton.mp hs]; exact ⟨h, l⟩, fun i j s t hi hj _ => ?_, fun r hr => absurd hr (by simp), Nat.zero_le _, Nat.zero_le _, fun i s k hc _ _ => ?_, fun i s k j _ hy => ?_, fun i k j hy => ?_, fun j j0 jl => ?_⟩
  · have h1 := (List.getElem?_eq_some_iff.mp hi).1
    have h2 := (List.getElem?_eq_some_iff.mp hj).1
    have h1 : i < 1 := h1
    have h2 : j < 1 := h2
    omega
  · have hc : i < 0 ∧ k < m ∨ i = 0 ∧ k < 0 := hc
    omega
  · rw [e] at hy; cases hy
  · rw [e] at hy; cases hy
  · have jl : j < 1 := jl
    omega
theorem Bf.nodup {T : Tbl} {G : Nat → Prop} {m : Nat} {met : List Nat} {R : Tbl} {L : List (Option Nat)} (h : Bf T G m met R L) : met.length ≤ T.length := by
  have nd : met.Nodup := by
    rw [List.Nodup, List.pairwise_iff_getElem]
    intro i j hi hj hij e
    have h1 := List.getElem?_eq_getElem hi
    have h2 := List.getElem?_eq_getElem hj
    have := h.ap i j _ _ h1 h2 (by rw [e]; exact Leq.refl _)
    omega
  exact nd_len nd fun x hx => (h.live x hx).1
theorem Bf.nf {T : Tbl} {G : Nat → Prop} {m : Nat} {met : List Nat} {R : Tbl} {g : List Nat} (wf : Wf T m) (h : Bf T G m met R []) (hR : R.length = met.length) (hg : ∀ i : Nat, i ∈ g ↔ ∃ s, met[i]? = some s ∧ G s) (asc : g.Pairwise (· < ·)) : NfOf T G m R g met where
  zero := h.zero
  len := hR
  row := h.row
  live := h.live
  ap := h.ap
  no := fun i s k hs hn e he _ => by
    have hi := (List.getElem?_eq_some_iff.mp hs).1
    have := h.no i s k (.inl ⟨by omega, (nx_lt wf he).2.1⟩) hs (by rw [nx_close]; exact hn)
    rw [this] at he
    cases he
  yes := fun i s k j hs hy => h.yes i s k j hs (by rw [nx_close]; exact hy)
  good := hg
  asc := asc
  ord := fun j j0 jl => by
    obtain ⟨i, k, h1, h2, h3⟩ := h.ord j j0 jl
    rw [nx_close] at h2
    exact ⟨i, k, h1, h2, fun i' k' j' hb hy => h3 i' k' j' hb (by rw [nx_close]; exact hy)⟩
/-! ### letters -/
def ixOf : List Nat → Nat → Option Nat
  | [], _ => none
  | x :: l, c => if x = c then some 0 else (ixOf l c).map (· + 1)
theorem ixOf_some : ∀ {l : List Nat} {c i : Nat}, ixOf l c = some i → l[i]? = some c
  | [], _, _, h => by cases h
  | x :: l, c, i, h => by
    unfold ixOf at h
    by_cases e : x = c
    · rw [if_pos e] at h
      cases h
      rw [e]
      rfl
    · rw [if_neg e] at h
      obtain ⟨j, hj, rfl⟩ := Option.map_eq_some_iff.mp h
      show l[j]? = some c
      exact ixOf_some hj
theorem ixOf_none : ∀ {l : List Nat} {c : Nat}, ixOf l c = none ↔ c ∉ l
  | [], _ => ⟨fun _ h => (by cases h), fun _ => rfl⟩
  | x :: l, c => by
    unfold ixOf
    by_cases e : x = c
    · rw [if_pos e]
      exact ⟨fun h => (by cases h), fun h => absurd (by rw [e]; exact List.mem_cons_self) h⟩
    · rw [if_neg e, Option.map_eq_none_iff, ixOf_none]
      exact ⟨fun h m => (List.mem_cons.mp m).elim (fun z => e z.symm) h, fun h m => h (List.mem_cons_of_mem _ m)⟩
theorem rs_app (T : Tbl) (ix : Nat → Option Nat) : ∀ (u : List Nat) (o : Option Nat) (v : List Nat), rs T ix o (u ++ v) = rs T ix (rs T ix o u) v
  | [], _, _ => rfl
  | _ :: _, none, v => (rs_none T ix v).symm
  | c :: u, some s, v => by
    show (match ix c with | none => none | some k => rs T ix (nx T s k) (u ++ v)) = rs T ix (match ix c with | none => none | some k => rs T ix (nx T s k) u) v
    cases ix c with
    | none => exact (rs_none T ix v).symm
    | some k => exact rs_app T ix u (nx T s k) v
theorem rs_one {T : Tbl} {ix : Nat → Option Nat} {s c : Nat} : rs T ix (some s) [c] = match ix c with | none => none | some k => nx T s k := by
  show (match ix c with | none => none | some k => rs T ix (nx T s k) []) = _
  cases ix c with
  | none => rfl
  | some k =>
    show rs T ix (nx T s k) [] = nx T s k
    cases nx T s k <;> rfl
theorem Nf.wf {T : Tbl} {G : Nat → Prop} {m : Nat} {R : Tbl} {g : List Nat} (h : Nf T G m R g) : Wf R m ∧ ∀ j ∈ g, j < R.length := by
  rcases h with ⟨rfl, rfl, _⟩ | ⟨met, h⟩
  · exact ⟨⟨fun r m => absurd m (by simp), fun r m => absurd m (by simp)⟩, fun j m => absurd m (by simp)⟩
  · refine ⟨⟨h.row, fun r hr e he => ?_⟩, fun j hj => ?_⟩
    · obtain ⟨i, hi, rfl⟩ := List.getElem_of_mem hr
      obtain ⟨k, hk, ek⟩ := List.getElem_of_mem he
      have hm : i < met.length := by rw [← h.len]; exact hi
      obtain ⟨_, t, _, h2, _⟩ := h.yes i met[i] k e (List.getElem?_eq_getElem hm) (nx_at (List.getElem?_eq_getElem hi) (by rw [List.getElem?_eq_getElem hk, ek]))
      rw [h.len]
      exact (List.getElem?_eq_some_iff.mp h2).1
    · obtain ⟨s, hs, _⟩ := (h.good j).mp hj
      rw [h.len]
      exact (List.getElem?_eq_some_iff.mp hs).1
theorem cnt_all {al : Nat → Bool} : ∀ {n : Nat}, n ≤ cnt al n → ∀ s, s < n → al s = true
  | 0, _, s, hs => absurd hs (Nat.not_lt_zero _)
  | n + 1, h, s, hs => by
    rw [cnt_succ] at h
    have le := cnt_le al n
    cases e : al n with
    | false =>
      rw [e] at h
      simp at h
      omega
    | true =>
      by_cases c : s = n
      · rw [c]; exact e
      · rw [e] at h
        simp at h
        exact cnt_all (by omega) s (by omega)
/-- one round over all states -/
theorem round_end {T : Tbl} {m r : Nat} {a0 al : Nat → Bool} (wf : Wf T m) (h0 : r ≤ cnt a0 T.length ∨ ∀ s k e, nx T s k = some e → a0 e = true → a0 s = true) (mo : ∀ s, a0 s = true → al s = true) (cl : (∀ s k e, nx T s k = some e → a0 e = true → a0 s = true) → ∀ s, al s = a0 s)
    (st : ∀ s, s < T.length → ∀ k e, nx T s k = some e → a0 e = true → al s = true) : r + 1 ≤ cnt al T.length ∨ ∀ s k e, nx T s k = some e → al e = true → al s = true := by
  by_cases c : ∀ s k e, nx T s k = some e → a0 e = true → a0 s = true
  · right
    intro s k e h1 h2
    rw [cl c] at h2 ⊢
    exact c s k e h1 h2
  · have h1 := h0.resolve_right c
    by_cases d : ∃ x, x < T.length ∧ a0 x = false ∧ al x = true
    · obtain ⟨x, hx, e1, e2⟩ := d
      have := cnt_lt (n := T.length) (fun s _ => mo s) hx e1 e2
      left
      omega
    · refine absurd (fun s k e h2 h3 => ?_) c
      have hs := (nx_lt wf h2).2.2
      cases e4 : a0 s with
      | true => rfl
      | false => exact absurd ⟨s, hs, e4, st s hs k e h2 h3⟩ d
end Mc
set_option Elab.async false
set_option linter.all false
set_option maxRecDepth 100000
namespace Z
open PySem PySem.Spec PyProof.Rows L2 Mc
def eV : Option Nat → V
  | none => .non
  | some k => .int (k : Int)
/-- a table: a list (or tuple) of lists (or tuples) -/
structure Tb (q q2 : Bool) (K : PySem.W.Frag) (H : Hp) (a : Addr) (zs : List (Addr × List (Option Nat))) : Prop where
  sq : SqK q K H a (zs.map fun z => V.ref z.1)
  at_ : ∀ z ∈ zs, SqK q2 K H z.1 (z.2.map eV)
theorem Tb.mono {q q2 : Bool} {K : PySem.W.Frag} {H H' : Hp} {a : Addr} {zs : List (Addr × List (Option Nat))} (s : Same H H') (h : Tb q q2 K H a zs) : Tb q q2 K H' a zs := ⟨Z.Same.sqK s h.sq, fun z m => Z.Same.sqK s (h.at_ z m)⟩
def tb (zs : List (Addr × List (Option Nat))) : Tbl := zs.map (·.2)
def gsq (gs : List Nat) : List V := gs.map fun (g : Nat) => .int (g : Int)
/-! ### tables as data -/
def eD : Option Nat → PyData
  | none => .none
  | some k => .int (k : Int)
def rowD (b : Bool) (r : List (Option Nat)) : PyData := sqD b (r.map eD)
def tbD (b b2 : Bool) (T : Tbl) : PyData := sqD b (T.map (rowD b2))
theorem dpa_row {K : PySem.W.Frag} {H : Hp} : ∀ r : List (Option Nat), DpAll K H (r.map eV) (r.map eD)
  | [] => .nil
  | none :: r => .cons .non (dpa_row r)
  | some k :: r => .cons (.int _) (dpa_row r)
theorem dp_row {b : Bool} {K : PySem.W.Frag} {H : Hp} {a : Addr} {r : List (Option Nat)} (h : SqK b K H a (r.map eV)) : Dp K H (.ref a) (rowD b r) := dp_sq h (dpa_row r)
theorem dpa_tb {b : Bool} {K : PySem.W.Frag} {H : Hp} : ∀ {zs : List (Addr × List (Option Nat))}, (∀ z ∈ zs, SqK b K H z.1 (z.2.map eV)) → DpAll K H (zs.map fun z => V.ref z.1) ((tb zs).map (rowD b))
  | [], _ => .nil
  | z :: zs, h => .cons (dp_row (h z List.mem_cons_self)) (dpa_tb fun y m => h y (List.mem_cons_of_mem _ m))
theorem Tb.dp {q q2 : Bool} {K : PySem.W.Frag} {H : Hp} {a : Addr} {zs : List (Addr × List (Option Nat))} (h : Tb q q2 K H a zs) : Dp K H (.ref a) (tbD q q2 (tb zs)) := dp_sq h.sq (dpa_tb h.at_)
theorem lay_row : ∀ r : List (Option Nat), PyData.canLayAll0 (r.map eD) = true
  | [] => rfl
  | none :: r => by
    rw [List.map_cons, PyData.canLayAll0, lay_row r]
    rfl
  | some _ :: r => by
    rw [List.map_cons, PyData.canLayAll0, lay_row r]
    rfl
theorem dep_row : ∀ r : List (Option Nat), PyData.depthAll (r.map eD) = 0
  | [] => rfl
  | none :: r => by
    rw [List.map_cons, PyData.depthAll, dep_row r]
    rfl
  | some _ :: r => by
    rw [List.map_cons, PyData.depthAll, dep_row r]
    rfl
theorem shaped_row (b : Bool) (r : List (Option Nat)) : SeqAt.shaped (rowD b r) = true := by
  unfold SeqAt.shaped rowD
  cases b
  · show (PyData.canLayAll0 (r.map eD) && decide (PyData.depthAll (r.map eD) + 1 ≤ 64)) = true
    rw [lay_row, dep_row]
    rfl
  · show (PyData.canLayAll0 (r.map eD) && decide (PyData.depthAll (r.map eD) + 1 ≤ 64)) = true
    rw [lay_row, dep_row]
    rfl
theorem lay_tb (b : Bool) : ∀ T : Tbl, PyData.canLayAll0 (T.map (rowD b)) = true
  | [] => rfl
  | n :: r => by
    rw [List.map_cons, PyData.canLayAll0, lay_tb b r, SeqAt.canLay_of_shaped (shaped_row b n)]
    rfl
theorem dep_tb (b : Bool) : ∀ T : Tbl, PyData.depthAll (T.map (rowD b)) ≤ 1
  | [] => Nat.zero_le _
  | n :: r => by
    rw [List.map_cons, PyData.depthAll]
    have h := dep_tb b r
    have h2 : (rowD b n).depth = 1 := by
      cases b
      · show PyData.depthAll (n.map eD) + 1 = 1
        rw [dep_row]
      · show PyData.depthAll (n.map eD) + 1 = 1
        rw [dep_row]
    omega
theorem shaped_tb (b b2 : Bool) (T : Tbl) : SeqAt.shaped (tbD b b2 T) = true := by
  have h := dep_tb b2 T
  unfold SeqAt.shaped tbD
  cases b
  · show (PyData.canLayAll0 (T.map (rowD b2)) && decide (PyData.depthAll (T.map (rowD b2)) + 1 ≤ 64)) = true
    rw [lay_tb, decide_eq_true (by omega)]
    rfl
  · show (PyData.canLayAll0 (T.map (rowD b2)) && decide (PyData.depthAll (T.map (rowD b2)) + 1 ≤ 64)) = true
    rw [lay_tb, decide_eq_true (by omega)]
    rfl
theorem eqv_e (a b : Option Nat) : PyData.eqv (eD a) (eD b) = decide (a = b) := by
  cases a <;> cases b
  · rfl
  · rfl
  · rfl
  · rename_i x y
    show PyData.eqv (.int (x : Int)) (.int (y : Int)) = _
    rw [PyData.eqv]
    by_cases h : x = y
    · subst h
      simp
    · have h2 : ¬ (x : Int) = (y : Int) := by omega
      have h3 : ¬ (some x = some y) := fun z => h (by injection z)
      rw [decide_eq_false h3]
      simp [h2]
theorem eqvAll_row : ∀ r s : List (Option Nat), PyData.eqvAll (r.map eD) (s.map eD) = decide (r = s)
  | [], [] => rfl
  | [], _ :: _ => rfl
  | _ :: _, [] => rfl
  | a :: r, b :: s => by
    rw [List.map_cons, List.map_cons, PyData.eqvAll, eqv_e, eqvAll_row r s]
    by_cases h1 : a = b
    · by_cases h2 : r = s
      · simp [h1, h2]
      · simp [h1, h2]
    · simp [h1]
theorem eqv_row (b : Bool) (r s : List (Option Nat)) : PyData.eqv (rowD b r) (rowD b s) = decide (r = s) := by
  cases b
  · show PyData.eqv (.tuple _) (.tuple _) = _
    rw [PyData.eqv, eqvAll_row]
  · show PyData.eqv (.list _) (.list _) = _
    rw [PyData.eqv, eqvAll_row]
theorem eqvAll_tb (b : Bool) : ∀ T U : Tbl, PyData.eqvAll (T.map (rowD b)) (U.map (rowD b)) = decide (T = U)
  | [], [] => rfl
  | [], _ :: _ => rfl
  | _ :: _, [] => rfl
  | a :: r, c :: s => by
    rw [List.map_cons, List.map_cons, PyData.eqvAll, eqv_row, eqvAll_tb b r s]
    by_cases h1 : a = c
    · by_cases h2 : r = s
      · simp [h1, h2]
      · simp [h1, h2]
    · simp [h1]
theorem eqv_tb (b b2 : Bool) (T U : Tbl) : PyData.eqv (tbD b b2 T) (tbD b b2 U) = decide (T = U) := by
  cases b
  · show PyData.eqv (.tuple _) (.tuple _) = _
    rw [PyData.eqv, eqvAll_tb]
  · show PyData.eqv (.list _) (.list _) = _
    rw [PyData.eqv, eqvAll_tb]
/-! ### lists of numbers as data -/
def natD (b : Bool) (g : List Nat) : PyData := intsD b (g.map fun (x : Nat) => (x : Int))
theorem gsq_ints (g : List Nat) : gsq g = (g.map fun (x : Nat) => (x : Int)).map V.int := by
  unfold gsq
  rw [List.map_map]
  rfl
theorem dp_nat {b : Bool} {K : PySem.W.Frag} {H : Hp} {a : Addr} {g : List Nat} (h : SqK b K H a (gsq g)) : Dp K H (.ref a) (natD b g) := by
  rw [gsq_ints] at h
  exact dp_ints h
theorem shaped_nat (b : Bool) (g : List Nat) : SeqAt.shaped (natD b g) = true := shaped_ints _ _
theorem natI_inj : ∀ {g h : List Nat}, (g.map fun (x : Nat) => (x : Int)) = (h.map fun (x : Nat) => (x : Int)) → g = h
  | [], [], _ => rfl
  | [], _ :: _, e => by cases e
  | _ :: _, [], e => by cases e
  | a :: g, b :: h, e => by
    rw [List.map_cons, List.map_cons] at e
    injection e with e1 e2
    rw [show a = b by omega, natI_inj e2]
theorem eqv_nat (b : Bool) (g h : List Nat) : PyData.eqv (natD b g) (natD b h) = decide (g = h) := by
  have key : PyData.eqv (natD b g) (natD b h) = decide ((g.map fun (x : Nat) => (x : Int)) = (h.map fun (x : Nat) => (x : Int))) := by
    cases b
    · show PyData.eqv (.tuple _) (.tuple _) = _
      rw [PyData.eqv, PySem.W.ked_eqvAll]
    · show PyData.eqv (.list _) (.list _) = _
      rw [PyData.eqv, PySem.W.ked_eqvAll]
  rw [key]
  exact decide_eq_decide.mpr ⟨natI_inj, fun e => by rw [e]⟩
end Z
set_option pp.maxSteps 700
set_option Elab.async false
set_option linter.all false
set_option maxRecDepth 100000
set_option maxHeartbeats 4000000
open SX (S S_inj S_len S_cat)
namespace Z
open Mc
open PySem PySem.Spec PyProof.Rows L2
open C8 (pss_cut tCut)
local macro_rules | `(tactic| walk_at "num") => `(tactic| first | rfl | omega | decide | exact Nat.le_of_lt (small1000 (by simp)) | exact ⟨by omega, by omega⟩ | exact ⟨by omega, by omega, by omega⟩ | exact ⟨by decide, by decide, by decide⟩ | exact Or.inl ⟨by omega, by omega⟩ | exact Or.inr ⟨by omega, by omega⟩)
local macro_rules | `(tactic| walk_at "go") => `(tactic| repeat (first | refine ⟨_, rfl, ?_⟩ | refine ⟨_, _, rfl, rfl, ?_⟩ | refine ⟨_, _, rfl, ?_⟩ | (refine ⟨_, _, rfl, rfl, ?_, ?_⟩; focus walk_at "num") | refine Or.inl ⟨_, rfl, ?_⟩ | refine ⟨_, _, _, _, rfl, rfl, (by assumption), (by rfl), ?_⟩ | refine ⟨_, _, _, _, _, rfl, (by assumption), (by assumption), (by assumption), (by rfl), ?_⟩ | refine ⟨rfl, ?_⟩ | (refine And.intro ?_ ?_; focus walk_at "num")))
abbrev s_check_letters : Stmt := topS 21
abbrev N_check_letters : List Str := ["letters", "index", "letter"]
abbrev P_check_letters : List Str := ["letters"]
theorem sc_check_letters : FnScope N_check_letters P_check_letters (defScope s_check_letters) := ⟨rfl, rfl, rfl, by decide +kernel, rfl, by decide +kernel, by decide +kernel⟩
abbrev s_check_rows : Stmt := topS 22
abbrev N_check_rows : List Str := ["many", "rows", "state", "row", "entry"]
abbrev P_check_rows : List Str := ["many", "rows"]
theorem sc_check_rows : FnScope N_check_rows P_check_rows (defScope s_check_rows) := ⟨rfl, rfl, rfl, by decide +kernel, rfl, by decide +kernel, by decide +kernel⟩
abbrev s_flags_of : Stmt := topS 8
abbrev N_flags_of : List Str := ["many", "states", "state", "found"]
abbrev P_flags_of : List Str := ["many", "states"]
theorem sc_flags_of : FnScope N_flags_of P_flags_of (defScope s_flags_of) := ⟨rfl, rfl, rfl, by decide +kernel, rfl, by decide +kernel, by decide +kernel⟩
theorem set_flag {n g : Nat} {gs : List Nat} : ((List.range n).map fun i => V.bl (decide (i ∈ gs))).set g (V.bl true) = (List.range n).map fun i => V.bl (decide (i ∈ gs ++ [g])) := by
  apply List.ext_getElem
  · rw [List.length_set, List.length_map, List.length_map]
  · intro i h1 h2
    rw [List.length_map, List.length_range] at h2
    rw [List.getElem_set, List.getElem_map, List.getElem_map, List.getElem_range]
    by_cases c : g = i
    · rw [if_pos c, decide_eq_true (by rw [c]; exact List.mem_append_right _ List.mem_cons_self)]
    · rw [if_neg c]
      congr 1
      refine decide_eq_decide.mpr ⟨fun m => List.mem_append_left _ m, fun m => ?_⟩
      rcases List.mem_append.mp m with m | m
      · exact m
      · exact absurd (List.mem_singleton.mp m).symm c
section
variable {P : Program} {w : World} {K : PySem.W.Frag} {mg : Str → Option Value} {base : Heap} {f : Addr} {fd : FuncData}
def spCkL : Sp := fun vs H Q _ => ∃ l : List Nat, vs = [.str (S l)] ∧ l.Nodup ∧ l ≠ [] ∧ l.length ≤ 100000 ∧ ∀ H', Same H H' → Q .non H'
theorem ok_check_letters (F : FnP K "check_letters" s_check_letters f fd) (m_enumerate : mg "enumerate" = none) : FnOk P w K mg base CX0 1 f fd P_check_letters spCkL := by
  refine F.ok sc_check_letters (fun vs H Q E h => ?_) (fun cdv A outer s H vs Q E hr h => ?_)
  · obtain ⟨l, rfl, _⟩ := h
    rfl
  · obtain ⟨l, rfl, nd, ne, ll, q⟩ := h
    refine ⟨_, PSs.nox (pss_cons (ps_for PassesOwn.never rfl (pi_enumS (by rfl) m_enumerate (pa_cons (pv 0) pa_nil)) (pg_tup rfl (pgs_cons (pg_name (i := 1) sc_check_letters.nd rfl (by first | exact .inl rfl | exact .inr rfl)) (pgs_cons (pg_name (i := 2) sc_check_letters.nd rfl (by first | exact .inl rfl | exact .inr rfl)) pgs_nil)))
        (pss_one (ps_if (pt_cmpR op_in_sign (pv 2) (pe_slice C8.sl_txt (pv 0) po_none (po_some (pv 1))) (by rfl)) (pss_one ps_never) pss_nil)))
      (pss_one (ps_if (pt_cmpR op_eq (pv 0) pe_str (nomark _)) (pss_one ps_never) pss_nil))), ?_⟩
    walk_at "go"
    refine for_enumS (K := K) (fun k σ H1 => Same H H1 ∧ ∃ v1 v2 : Option V, σ = [some (.str (S l)), v1, v2]) ⟨Same.refl _, none, none, rfl⟩ ?_ ?_
    · rintro k c σ H1 H2 ec ⟨s1, v1, v2, rfl⟩ s2
      have ec : l[k]? = some c := by simpa using ec
      have hk := (List.getElem?_eq_some_iff.mp ec).1
      walk_at "go"
      refine ⟨by rw [S_len]; exact Nat.le_trans ll (by decide), ?_⟩
      rw [SX.slice_to (by omega), Int.toNat_natCast]
      walk_at "go"
      have no : c ∉ (S (l.take k)).cps.toList := by
        show c ∉ l.take k
        intro hm
        obtain ⟨j, hj, e⟩ := List.getElem_of_mem hm
        rw [List.length_take] at hj
        rw [List.getElem_take] at e
        have h2 := List.getElem?_eq_getElem (show j < l.length by omega)
        rw [e] at h2
        have := nd_inj nd h2 ec
        omega
      rw [decide_eq_false no]
      walk_at "go"
      exact ⟨s1.trans s2, _, _, rfl⟩
    · rintro σ H1 ⟨s1, v1, v2, rfl⟩
      walk_at "go"
      rw [decide_eq_false (show ¬ V.str (S l) = V.str (Str.ofString "") from fun z => by injection z with z; exact ne (S_inj (z.trans (show Str.ofString "" = S [] from rfl))))]
      exact q H1 s1
def spCkR (K : PySem.W.Frag) : Sp := fun vs H Q _ => ∃ (q q2 : Bool) (m : Nat) (a : Addr) (zs : List (Addr × List (Option Nat))), vs = [.int (m : Int), .ref a] ∧ Tb q q2 K H a zs ∧ Wf (tb zs) m ∧ ∀ H', Same H H' → Q .non H'
theorem ok_check_rows (F : FnP K "check_rows" s_check_rows f fd) (m_enumerate : mg "enumerate" = none) (m_len : mg "len" = none) : FnOk P w K mg base CX0 1 f fd P_check_rows (spCkR K) := by
  refine F.ok sc_check_rows (fun vs H Q E h => ?_) (fun cdv A outer s H vs Q E hr h => ?_)
  · obtain ⟨q, q2, m, a, zs, rfl, _⟩ := h
    rfl
  · obtain ⟨q, q2, m, a, zs, rfl, hT, wf, qq⟩ := h
    refine ⟨_, PSs.nox (pss_one (ps_for PassesOwn.never rfl (pi_enumM (by rfl) m_enumerate (pa_cons (pv 1) pa_nil)) (pg_tup rfl (pgs_cons (pg_name (i := 2) sc_check_rows.nd rfl (by first | exact .inl rfl | exact .inr rfl)) (pgs_cons (pg_name (i := 3) sc_check_rows.nd rfl (by first | exact .inl rfl | exact .inr rfl)) pgs_nil)))
        (pss_cons (ps_if (pt_cmpR op_ne (pe_callB call_len_seq (by rfl) m_len PySem.boot_len (pa_cons (pv 3) pa_nil)) (pv 0) (nomark _)) (pss_one ps_never) pss_nil)
      (pss_one (ps_for PassesOwn.never rfl (pi_sq (pv 3)) (pg_name (i := 4) sc_check_rows.nd rfl (by first | exact .inl rfl | exact .inr rfl))
        (pss_one (ps_if (PW.pt (pw_and (pt_cmpR op_notN (pv 4) pe_non (nomark _)) (pw_and1 (pt_not (pt_chain op_le op_lt pe_int (pv 4) (pe_callB call_len_seq (by rfl) m_len PySem.boot_len (pa_cons (pv 1) pa_nil))))))) (pss_one ps_never) pss_nil))))))), ?_⟩
    walk_at "go"
    refine ⟨q, _, _, rfl, hT.sq, ?_⟩
    refine for_enum hT.sq (fun k σ H1 => Same H H1 ∧ ∃ v2 v3 v4 : Option V, σ = [some (.int (m : Int)), some (.ref a), v2, v3, v4]) ⟨Same.refl _, none, none, none, rfl⟩ (fun k σ H1 p => p.1) ?_ ?_
    · rintro k x σ H1 H2 ex ⟨s1, v2, v3, v4, rfl⟩ s2
      rw [List.getElem?_map] at ex
      obtain ⟨z, ez, rfl⟩ := Option.map_eq_some_iff.mp ex
      have hT2 := hT.mono (s1.trans s2)
      have zm := List.mem_of_getElem? ez
      have hz := hT2.at_ z zm
      have mz : z.2 ∈ tb zs := List.mem_map.mpr ⟨z, zm, rfl⟩
      have lz := wf.row _ mz
      walk_at "go"
      refine ⟨z.1, _, rfl, sqk_or hz, ?_⟩
      rw [List.length_map, lz]
      walk_at "go"
      rw [decide_eq_true rfl]
      walk_at "go"
      refine rd_sq (b := q2) rfl hz ?_
      refine for_gen (n := m) (fun i σ J => Same H J ∧ ∃ v4 : Option V, σ = [some (.int (m : Int)), some (.ref a), some (.int (k : Int)), some (.ref z.1), v4]) ⟨s1.trans s2, v4, rfl⟩ ?_ ?_ ?_ ?_
      · rintro i σ J hi ⟨s3, _⟩
        exact itq_go (Z.Same.sqK s3 ((hT.at_ z zm))) (x := eV (z.2.getD i none)) (by rw [List.getElem?_map, List.getD_eq_getElem?_getD, List.getElem?_eq_getElem (by omega)]; rfl)
      · rintro σ J ⟨s3, _⟩
        exact itq_stop (Z.Same.sqK s3 ((hT.at_ z zm))) (by rw [List.length_map]; omega)
      · rintro i σ J x J' hi ⟨s3, v4, rfl⟩ y
        obtain ⟨rfl, ex⟩ := itq_yld (Z.Same.sqK s3 ((hT.at_ z zm))) y
        have hi2 : i < z.2.length := by omega
        rw [List.getElem?_map, List.getElem?_eq_getElem hi2] at ex
        cases ex
        have me : z.2[i] ∈ z.2 := List.getElem_mem hi2
        have ent := wf.ent _ mz
        generalize z.2[i] = e at me
        cases e with
        | none =>
          walk_at "go"
          exact ⟨_, rfl⟩
        | some e =>
          have lt : e < zs.length := by simpa [tb] using ent e me
          dsimp only [eV]
          walk_at "go"
          refine ⟨a, _, rfl, sqk_or (Z.Same.sqK s3 hT.sq), ?_⟩
          rw [List.length_map]
          walk_at "go"
          rw [decide_eq_true (show (e : Int) < (zs.length : Int) by omega)]
          walk_at "go"
          exact ⟨_, rfl⟩
      · rintro σ J ⟨s3, v4, rfl⟩
        exact ⟨s3, _, _, _, rfl⟩
    · rintro σ H1 ⟨s1, v2, v3, v4, rfl⟩
      exact qq H1 s1
def spFlags (K : PySem.W.Frag) : Sp := fun vs H Q _ => ∃ (q : Bool) (n : Nat) (a : Addr) (gs : List Nat), vs = [.int (n : Int), .ref a] ∧ SqK q K H a (gsq gs) ∧ (∀ g ∈ gs, g < n) ∧ n ≤ 1000000 ∧ ∀ (L : Addr) H', Same H H' → H L = none → H' L = some (.lst ((List.range n).map fun i => V.bl (decide (i ∈ gs)))) → Q (.ref L) H'
theorem ok_flags_of (F : FnP K "flags_of" s_flags_of f fd) (m_range : mg "range" = none) : FnOk P w K mg base CX0 1 f fd P_flags_of (spFlags K) := by
  refine F.ok sc_flags_of (fun vs H Q E h => ?_) (fun cdv A outer s H vs Q E hr h => ?_)
  · obtain ⟨q, n, a, gs, rfl, _⟩ := h
    rfl
  · obtain ⟨q, n, a, gs, rfl, hS, hg, hn, qq⟩ := h
    refine ⟨_, PSs.nox (pss_cons (ps_setLc (i := 3) (own := [("state", 2)]) (g := (gName 2)) (tt := tYes) (by rfl) sc_flags_of.nd rfl rfl (sw_true rfl rfl rfl (by decide +kernel)) (pi_range1 (by rfl) m_range (pa_cons (pv 0) pa_nil)) (blkOk_by (own := [("state", 2)]) (N := N_flags_of) (sc := defScope s_flags_of) (by decide +kernel)) (fun _ _ _ _ _ => (pg_name (i := 2) sc_flags_of.nd rfl (by first | exact .inl rfl | exact .inr rfl))) (fun _ _ _ _ _ => pts_nil) (fun _ _ _ _ _ => pe_bl))
      (pss_cons (ps_for PassesOwn.never rfl (pi_sq (pv 1)) (pg_name (i := 2) sc_flags_of.nd rfl (by first | exact .inl rfl | exact .inr rfl))
        (pss_one (ps_asg pe_bl (pg_sub (pv 3) (pv 2) set_list))))
      (pss_one (ps_ret (pv 3))))), ?_⟩
    walk_at "go"
    intro L nL
    refine lc_gen (n := n) (fun k J => Same H J ∧ J L = some (.lst ((List.range k).map fun _ => V.bl false))) ⟨same_new nL, upd_same⟩ ?_ ?_ ?_ ?_
    · intro k J hk _
      show k < ((n : Int)).toNat
      omega
    · intro J _
      show ((n : Int)).toNat ≤ n
      omega
    · rintro k J x J' hk ⟨s1, eL⟩ ⟨rfl, rfl⟩
      walk_at "go"
      refine ⟨_, eL, by rw [List.length_map, List.length_range]; exact szC (by omega), Z.Same.mut s1 nL, ?_⟩
      rw [upd_same, List.range_succ, List.map_append]
      rfl
    rintro J ⟨s1, eL⟩
    walk_at "go"
    have lg : (gsq gs).length = gs.length := List.length_map ..
    refine rd_sq (b := q) rfl (Z.Same.sqK s1 hS) ?_
    refine for_gen (n := gs.length) (fun k σ J => Same H J ∧ J L = some (.lst ((List.range n).map fun i => V.bl (decide (i ∈ gs.take k)))) ∧ ∃ v2 : Option V, σ = [some (.int (n : Int)), some (.ref a), v2, some (.ref L)]) ⟨s1, by rw [eL]; simp, none, rfl⟩ ?_ ?_ ?_ ?_
    · rintro k σ J hk ⟨s2, _⟩
      exact itq_go (Z.Same.sqK s2 hS) (x := .int ((gs[k] : Nat) : Int)) (by unfold gsq; rw [List.getElem?_map, List.getElem?_eq_getElem hk]; rfl)
    · rintro σ J ⟨s2, _⟩
      exact itq_stop (Z.Same.sqK s2 hS) (by omega)
    · rintro k σ J x J' hk ⟨s2, eL, v2, rfl⟩ y
      obtain ⟨rfl, ex⟩ := itq_yld (Z.Same.sqK s2 hS) y
      unfold gsq at ex
      rw [List.getElem?_map, List.getElem?_eq_getElem hk] at ex
      cases ex
      have hgk := hg _ (List.getElem_mem hk)
      have tk : gs.take (k + 1) = gs.take k ++ [gs[k]] := by
        rw [List.take_succ, List.getElem?_eq_getElem hk]
        rfl
      generalize gs[k] = g at hgk tk
      walk_at "go"
      refine ⟨L, _, _, g, rfl, rfl, eL, by rw [List.length_map, List.length_range]; exact ixN_nat hgk, ?_⟩
      refine ⟨Z.Same.mut s2 nL, ?_, _, rfl⟩
      rw [upd_same, tk, set_flag]
    · rintro σ J ⟨s2, eL, v2, rfl⟩
      rw [List.take_length] at eL
      walk_at "go"
      exact qq L J s2 nL eL
end
end Z
set_option pp.maxSteps 700
set_option Elab.async false
set_option linter.all false
set_option maxRecDepth 100000
set_option maxHeartbeats 4000000
open SX (S S_inj S_len S_cat)
namespace Z
open Mc
open PySem PySem.Spec PyProof.Rows L2
open C8 (pss_cut tCut)
local macro_rules | `(tactic| walk_at "num") => `(tactic| first | rfl | omega | decide | exact Nat.le_of_lt (small1000 (by simp)) | exact ⟨by omega, by omega⟩ | exact ⟨by omega, by omega, by omega⟩ | exact ⟨by decide, by decide, by decide⟩ | exact Or.inl ⟨by omega, by omega⟩ | exact Or.inr ⟨by omega, by omega⟩)
local macro_rules | `(tactic| walk_at "go") => `(tactic| repeat (first | refine ⟨_, rfl, ?_⟩ | refine ⟨_, _, rfl, rfl, ?_⟩ | refine ⟨_, _, rfl, ?_⟩ | (refine ⟨_, _, rfl, rfl, ?_, ?_⟩; focus walk_at "num") | refine Or.inl ⟨_, rfl, ?_⟩ | refine ⟨_, _, _, _, rfl, rfl, (by assumption), (by rfl), ?_⟩ | refine ⟨_, _, _, _, _, rfl, (by assumption), (by assumption), (by assumption), (by rfl), ?_⟩ | refine ⟨rfl, ?_⟩ | (refine And.intro ?_ ?_; focus walk_at "num")))
abbrev s_live_rows : Stmt := topS 9
abbrev N_live_rows : List Str := ["rows", "good", "flag", "alive", "changed", "state", "row", "entry", "kept"]
abbrev P_live_rows : List Str := ["rows", "good"]
theorem sc_live_rows : FnScope N_live_rows P_live_rows (defScope s_live_rows) := ⟨rfl, rfl, rfl, by decide +kernel, rfl, by decide +kernel, by decide +kernel⟩
def bls (n : Nat) (al : Nat → Bool) : List V := (List.range n).map fun i => V.bl (al i)
theorem row_at {r : List (Option Nat)} {i : Nat} (h : i < r.length) : (r.map eV)[i]? = some (eV (r.getD i none)) := by
  rw [List.getElem?_map, List.getD_eq_getElem?_getD, List.getElem?_eq_getElem h]
  rfl
theorem row_nx {zs : List (Addr × List (Option Nat))} {k i : Nat} {z : Addr × List (Option Nat)} (h : zs[k]? = some z) (hi : i < z.2.length) : z.2.getD i none = nx (tb zs) k i :=
  (nx_at (by unfold tb; rw [List.getElem?_map, h]; rfl) (by rw [List.getD_eq_getElem?_getD, List.getElem?_eq_getElem hi]; rfl)).symm
def elB (al : Nat → Bool) : Option Nat → Bool
  | none => false
  | some e => al e
theorem bls_at {n i : Nat} {al : Nat → Bool} (h : i < n) : atI (bls n al) (i : Int) = some (.bl (al i)) := atI_nat (by unfold bls; rw [List.getElem?_map, List.getElem?_range h]; rfl)
theorem bls_set {n i : Nat} {al : Nat → Bool} : (bls n al).set i (V.bl true) = bls n fun j => if j = i then true else al j := by
  unfold bls
  apply List.ext_getElem
  · rw [List.length_set, List.length_map, List.length_map]
  · intro j h1 h2
    rw [List.length_map, List.length_range] at h2
    rw [List.getElem_set, List.getElem_map, List.getElem_map, List.getElem_range]
    by_cases c : i = j
    · subst c
      simp
    · have c2 : ¬ j = i := fun z => c z.symm
      simp [c, c2]
theorem bls_len (n : Nat) (al : Nat → Bool) : (bls n al).length = n := by unfold bls; rw [List.length_map, List.length_range]
theorem fltL_all {n : Nat} {g : Nat → V} : fltL (fun _ => true) g n = (List.range n).map g := by
  unfold fltL
  rw [List.filter_eq_self.mpr fun _ _ => rfl]
theorem row_range {β : Type} {r : List (Option Nat)} {f : Option Nat → β} : ((List.range r.length).map fun i => f (r.getD i none)) = r.map f := by
  apply List.ext_getElem
  · rw [List.length_map, List.length_map, List.length_range]
  · intro i h1 h2
    rw [List.length_map] at h2
    rw [List.getElem_map, List.getElem_map, List.getElem_range, List.getD_eq_getElem?_getD, List.getElem?_eq_getElem h2]
    rfl
theorem ne_of_none' {H : Hp} {B L : Addr} {o : HO} (s4 : H L = some o) (n : H B = none) : B ≠ L := fun e => by
  rw [e, s4] at n
  cases n
section
variable {P : Program} {w : World} {K : PySem.W.Frag} {mg : Str → Option Value} {base : Heap} {f : Addr} {fd : FuncData}
def inG (gs : List Nat) : Nat → Prop := fun s => s ∈ gs
def spLive (K : PySem.W.Frag) : Sp := fun vs H Q _ => ∃ (q q2 q3 : Bool) (m : Nat) (a g : Addr) (zs : List (Addr × List (Option Nat))) (gs : List Nat), vs = [.ref a, .ref g] ∧ Tb q q2 K H a zs ∧ Wf (tb zs) m ∧ m ≤ 1000 ∧ zs.length ≤ 1000000 ∧ SqK q3 K H g (gsq gs) ∧ (∀ s ∈ gs, s < zs.length) ∧
  ∀ (L : Addr) (zk : List (Addr × List (Option Nat))) H', Same H H' → H L = none → Tb true true K H' L zk → ((zk = [] ∧ (zs = [] ∨ ¬ Liv (tb zs) (inG gs) 0)) ∨ (0 < zs.length ∧ Liv (tb zs) (inG gs) 0 ∧ Kpt (tb zs) (inG gs) m (tb zk))) → Q (.ref L) H'
theorem ok_live_rows (F : FnP K "live_rows" s_live_rows f fd) (m_len : mg "len" = none) (m_any : mg "any" = none) (m_enumerate : mg "enumerate" = none) (c_flags_of : Cal P w K mg base 1 "flags_of" (spFlags K)) : FnOk P w K mg base CX0 2 f fd P_live_rows (spLive K) := by
  refine F.ok sc_live_rows (fun vs H Q E h => ?_) (fun cdv A outer s H vs Q E hr h => ?_)
  · obtain ⟨q, q2, q3, m, a, g, zs, gs, rfl, _⟩ := h
    rfl
  · obtain ⟨q, q2, q3, m, a, g, zs, gs, rfl, hT, wf, hm, hn, hG, hgs, qq⟩ := h
    refine ⟨_, PSs.nox (pss_cons (ps_set (i := 3) sc_live_rows.nd rfl (by first | exact .inl rfl | exact .inr rfl) (pe_lc (own := [("flag", 2)]) (g := (gName 2)) (tt := tYes) (by rfl) sc_live_rows.nd (pi_list (pe_cl c_flags_of hr (by decide) (by rfl) (pa_cons (pe_callB call_len_seq (by rfl) m_len PySem.boot_len (pa_cons (pv 0) pa_nil)) (pa_cons (pv 1) pa_nil)))) (blkOk_by (own := [("flag", 2)]) (N := N_live_rows) (sc := defScope s_live_rows) (by decide +kernel)) (fun _ _ _ _ _ => (pg_name (i := 2) sc_live_rows.nd rfl (by first | exact .inl rfl | exact .inr rfl))) (fun _ _ _ _ _ => pts_nil) (fun _ _ _ _ _ => (pv 2))))
      (pss_cons (ps_set (i := 4) sc_live_rows.nd rfl (by first | exact .inl rfl | exact .inr rfl) pe_bl)
      (pss_cut (ps_while PassesOwn.never (pt_val (pv 4))
        (pss_cons (ps_set (i := 4) sc_live_rows.nd rfl (by first | exact .inl rfl | exact .inr rfl) pe_bl)
      (pss_one (ps_for PassesOwn.never rfl (pi_enumM (by rfl) m_enumerate (pa_cons (pv 0) pa_nil)) (pg_tup rfl (pgs_cons (pg_name (i := 5) sc_live_rows.nd rfl (by first | exact .inl rfl | exact .inr rfl)) (pgs_cons (pg_name (i := 6) sc_live_rows.nd rfl (by first | exact .inl rfl | exact .inr rfl)) pgs_nil)))
        (pss_one (ps_if (PW.pt (pw_and (pt_not (pt_val (pe_ix ix_list (pv 3) (pv 5) (fun _ _ => rfl)))) (pw_and1 (pt_val (pe_callB (cr_any rfl) (by rfl) m_any (by decide +kernel) (pa_cons (pe_lc (own := [("entry", 7)]) (g := (gName 7)) (tt := tYes) (by rfl) sc_live_rows.nd (pi_sq (pv 6)) (blkOk_by (own := [("entry", 7)]) (N := N_live_rows) (sc := defScope s_live_rows) (by decide +kernel)) (fun _ _ _ _ _ => (pg_name (i := 7) sc_live_rows.nd rfl (by first | exact .inl rfl | exact .inr rfl))) (fun _ _ _ _ _ => pts_nil) (fun _ _ _ _ _ => (pe_and (pe_cmpR op_notN (pv 7) pe_non (nomark _)) (pe_one (pe_ix (ix_list_K (K := K) rfl) (pv 3) (pv 7) (fun _ _ => rfl)))))) pa_nil)))))) (pss_cons (ps_asg pe_bl (pg_sub (pv 3) (pv 5) set_list))
      (pss_one (ps_set (i := 4) sc_live_rows.nd rfl (by first | exact .inl rfl | exact .inr rfl) pe_bl))) pss_nil))))))
      (pss_cons (ps_setLc (i := 8) (own := [("row", 6)]) (g := (gName 6)) (tt := tYes) (by rfl) sc_live_rows.nd rfl rfl (sw_true rfl rfl rfl (by decide +kernel)) (pi_sq (pv 0)) (blkOk_by (own := [("row", 6)]) (N := N_live_rows) (sc := defScope s_live_rows) (by decide +kernel)) (fun _ _ _ _ _ => (pg_name (i := 6) sc_live_rows.nd rfl (by first | exact .inl rfl | exact .inr rfl))) (fun _ _ _ _ _ => pts_nil) (fun _ _ _ _ _ => (pe_lc (own := [("entry", 7)]) (g := (gName 7)) (tt := tYes) (by rfl) sc_live_rows.nd (pi_sq_K (K := K) rfl (pv 6)) (blkOk_by (own := [("entry", 7)]) (N := N_live_rows) (sc := relS _ (defScope s_live_rows)) (by decide +kernel)) (fun _ _ _ _ _ => (pg_name (i := 7) sc_live_rows.nd rfl (by first | exact .inl rfl | exact .inr rfl))) (fun _ _ _ _ _ => pts_nil) (fun _ _ _ _ _ => (pe_ifExp (PW.pt (pw_and (pt_cmpR op_notN (pv 7) pe_non (nomark _)) (pw_and1 (pt_val (pe_ix (ix_list_K (K := K) rfl) (pv 3) (pv 7) (fun _ _ => rfl)))))) (pv 7) pe_non)))))
      (pss_one (ps_ret (pe_ifExp (PW.pt (pw_and (pt_cmpR op_gt (pe_callB call_len_seq (by rfl) m_len PySem.boot_len (pa_cons (pv 0) pa_nil)) pe_int (nomark _)) (pw_and1 (pt_val (pe_ix ix_list (pv 3) pe_int (fun _ _ => rfl)))))) (pv 8) (pe_lst pa_nil)))))))), ?_⟩
    walk_at "go"
    refine ⟨a, _, rfl, sqk_or hT.sq, ?_⟩
    rw [List.length_map]
    walk_at "go"
    refine ⟨q3, zs.length, g, gs, rfl, hG, hgs, by omega, fun L0 H1 s1 nL0 eL0 => ?_⟩
    walk_at "go"
    refine ⟨⟨_, SqL.of eL0⟩, fun A0 nA0 => ?_⟩
    refine lc_gen (n := zs.length) (fun k J => Same H1 J ∧ J A0 = some (.lst (bls k fun i => decide (i ∈ gs)))) ⟨same_new nA0, upd_same⟩ ?_ ?_ ?_ ?_
    · rintro k J hk ⟨s2, _⟩
      exact ⟨_, .bl (decide (k ∈ gs)), SqL.of (s2 _ _ eL0), by rw [List.getElem?_map, List.getElem?_range hk]; rfl⟩
    · rintro J ⟨s2, _⟩
      exact ⟨_, SqL.of (s2 _ _ eL0), by rw [List.length_map, List.length_range]; exact Nat.le_refl _⟩
    · rintro k J x J' hk ⟨s2, eA⟩ ⟨rfl, e⟩
      have hx := e _ (SqL.of (s2 _ _ eL0))
      rw [List.getElem?_map, List.getElem?_range hk] at hx
      cases hx
      walk_at "go"
      refine ⟨_, eA, by unfold bls; rw [List.length_map, List.length_range]; exact szC (by omega), Z.Same.mut s2 nA0, ?_⟩
      unfold bls
      rw [upd_same, List.range_succ, List.map_append]
      rfl
    rintro J ⟨s2, eA⟩
    have nA := none_of s1 nA0
    have sJ := s1.trans s2
    clear eL0 nA0 s1 s2
    walk_at "go"
    obtain ⟨n, hn'⟩ : ∃ n, n = zs.length := ⟨_, rfl⟩
    obtain ⟨T, hT'⟩ : ∃ T, T = tb zs := ⟨_, rfl⟩
    have lT : T.length = n := by rw [hT', hn']; exact List.length_map ..
    rw [← hT'] at wf qq
    rw [← hn'] at hn hgs qq eA
    refine ⟨fun σ' J => Same H J ∧ ∃ (al : Nat → Bool) (v5 v6 : Option V), J A0 = some (.lst (bls n al)) ∧ (∀ s, s < n → (al s = true ↔ Liv T (inG gs) s)) ∧ σ' = [some (.ref a), some (.ref g), none, some (.ref A0), some (.bl false), v5, v6, none, none], ?_, ?_⟩
    · refine ⟨fun μ σ J => Same H J ∧ ∃ (al : Nat → Bool) (ch : Bool) (v5 v6 : Option V), J A0 = some (.lst (bls n al)) ∧ (∀ s, s < n → al s = true → Liv T (inG gs) s) ∧ (∀ s, s ∈ gs → al s = true) ∧ (ch = false → ∀ s k e, nx T s k = some e → al e = true → al s = true) ∧ μ = (if ch = true then n - cnt al n + 1 else 0) ∧ σ = [some (.ref a), some (.ref g), none, some (.ref A0), some (.bl ch), v5, v6, none, none], ⟨_, sJ, fun i => decide (i ∈ gs), true, none, none, eA, fun s _ e => liv_good (show s ∈ gs from of_decide_eq_true e), fun s e => decide_eq_true e, fun z => (by cases z), rfl, rfl⟩, ?_⟩
      rintro μ σ J ⟨s3, al, ch, v5, v6, eA, snd, hgl, cl, rfl, rfl⟩
      walk_at "go"
      cases ch
      · rw [if_neg Bool.false_ne_true]
        refine ⟨s3, al, v5, v6, eA, fun s hs => ⟨snd s hs, fun l => ?_⟩, rfl⟩
        exact liv_closed (al := fun s => al s = true) hgl (cl rfl) l
      rw [if_pos rfl]
      refine ⟨fun σ' J' => Same H J' ∧ ∃ (al' : Nat → Bool) (ch' : Bool) (v5 v6 : Option V), J' A0 = some (.lst (bls n al')) ∧ (∀ s, s < n → al' s = true → Liv T (inG gs) s) ∧ (∀ s, s ∈ gs → al' s = true) ∧ (ch' = false → ∀ s k e, nx T s k = some e → al' e = true → al' s = true) ∧ (ch' = true → cnt al n < cnt al' n) ∧ σ' = [some (.ref a), some (.ref g), none, some (.ref A0), some (.bl ch'), v5, v6, none, none], ?_, ?_⟩
      · rintro σ' J' ⟨s4, al', ch', v5, v6, eA', snd', hgl', cl', up, rfl⟩
        refine ⟨_, ?_, s4, al', ch', v5, v6, eA', snd', hgl', cl', rfl, rfl⟩
        cases ch'
        · rw [if_neg Bool.false_ne_true, if_pos rfl]
          exact Nat.succ_pos _
        · rw [if_pos rfl, if_pos rfl]
          have := up rfl
          have := cnt_le al' n
          omega
      walk_at "go"
      refine ⟨q, _, _, rfl, Z.Same.sqK s3 hT.sq, ?_⟩
      refine for_enum hT.sq (fun k σ J => Same H J ∧ ∃ (al' : Nat → Bool) (ch' : Bool) (v5 v6 : Option V), J A0 = some (.lst (bls n al')) ∧ (∀ s, s < n → al' s = true → Liv T (inG gs) s) ∧ (∀ s, al s = true → al' s = true) ∧ (ch' = false → (∀ s, al' s = al s) ∧ ∀ s, s < k → ∀ k e, nx T s k = some e → al e = true → al s = true) ∧ (ch' = true → cnt al n < cnt al' n) ∧ σ = [some (.ref a), some (.ref g), none, some (.ref A0), some (.bl ch'), v5, v6, none, none]) ⟨s3, al, false, v5, v6, eA, snd, fun _ h => h, fun _ => ⟨fun _ => rfl, fun s hs => absurd hs (Nat.not_lt_zero _)⟩, fun z => (by cases z), rfl⟩ (fun k σ J p => p.1) ?_ ?_
      · rintro k x σ J J2 ex ⟨s4, al', ch', v5, v6, eA', snd', mo, un, up, rfl⟩ s5
        rw [List.getElem?_map] at ex
        obtain ⟨z, ez, rfl⟩ := Option.map_eq_some_iff.mp ex
        have hk : k < n := by rw [hn']; exact (List.getElem?_eq_some_iff.mp ez).1
        have hz := (hT.mono (s4.trans s5)).at_ z (List.mem_of_getElem? ez)
        have mz : z.2 ∈ T := by rw [hT']; exact List.mem_map.mpr ⟨z, List.mem_of_getElem? ez, rfl⟩
        have lz := wf.row _ mz
        have rx : ∀ i, i < m → z.2.getD i none = nx T k i := fun i hi => by rw [hT']; exact row_nx ez (by omega)
        have eA2 := s5 _ _ eA'
        walk_at "go"
        refine ⟨A0, _, _, _, rfl, rfl, SqL.of eA2, bls_at hk, ?_⟩
        cases e1 : al' k
        · walk_at "go"
          refine rd_sq (b := q2) rfl hz ?_
          intro B nB
          refine lc_flt (n := m) (fun i => eV (z.2.getD i none)) (fun _ => true) (fun i => .bl (elB al' (z.2.getD i none))) (by omega) nB (fun i J3 hi s6 => itq_go (Z.Same.sqK s6 hz) (row_at (by omega))) (fun J3 s6 => itq_stop (Z.Same.sqK s6 hz) (by rw [List.length_map]; omega)) (fun i J3 x J4 hi s6 y => ?_) (fun i => rfl) (fun i J3 Q1 hi s6 q1 => ?_) (fun i J3 Q1 hi _ s6 q1 => ?_) (fun J3 s6 eB => ?_)
          · obtain ⟨rfl, ex⟩ := itq_yld (Z.Same.sqK s6 hz) y
            rw [row_at (by omega)] at ex
            cases ex
            exact ⟨Same.refl _, rfl⟩
          · exact q1 _ (Same.refl _)
          · rw [rx i hi] at q1 ⊢
            cases e2 : nx T k i with
            | none =>
              rw [e2] at q1
              walk_at "go"
              exact q1 _ (Same.refl _)
            | some e =>
              rw [e2] at q1
              have he := (nx_lt wf e2).1
              rw [lT] at he
              dsimp only [eV]
              walk_at "go"
              exact ⟨A0, _, _, _, rfl, rfl, SqL.of (s6 _ _ eA2), bls_at he, q1 _ (Same.refl _)⟩
          rw [fltL_all] at eB
          walk_at "go"
          refine ⟨B, (List.range m).map fun i => elB al' (z.2.getD i none), rfl, SqL.of (by rw [eB, List.map_map]; rfl), ?_⟩
          have s7 := s4.trans (s5.trans s6)
          have eA3 := s6 _ _ eA2
          have hany : ∀ k1 e, nx T k k1 = some e → al' e = true → ((List.range m).map fun i => elB al' (z.2.getD i none)).any id = true := fun k1 e he hl => by
            have hk1 := (nx_lt wf he).2.1
            refine List.any_eq_true.mpr ⟨elB al' (z.2.getD k1 none), List.mem_map.mpr ⟨k1, List.mem_range.mpr hk1, rfl⟩, ?_⟩
            rw [rx k1 hk1, he]
            exact hl
          cases e3 : ((List.range m).map fun i => elB al' (z.2.getD i none)).any id
          · walk_at "go"
            refine ⟨al', ch', _, _, eA3, snd', mo, fun zz => ⟨(un zz).1, fun s hs k1 e he hl => ?_⟩, up, rfl⟩
            by_cases c : s = k
            · subst c
              rw [← (un zz).1 e] at hl
              rw [hany k1 e he hl] at e3
              cases e3
            · exact (un zz).2 s (by omega) k1 e he hl
          · walk_at "go"
            refine ⟨A0, _, _, k, rfl, rfl, eA3, by rw [bls_len]; exact ixN_nat hk, ?_⟩
            rw [bls_set]
            walk_at "go"
            have alk : al k = false := by
              cases e4 : al k with
              | false => rfl
              | true => rw [mo k e4] at e1; cases e1
            refine ⟨Z.Same.mut s7 nA, fun j => if j = k then true else al' j, true, _, _, upd_same, fun s hs h => ?_, fun s h => ?_, fun zz => (by cases zz), fun _ => cnt_lt (x := k) (fun s hs h => ?_) hk alk (by simp), rfl⟩
            · by_cases c : s = k
              · subst c
                obtain ⟨b, hb, hb2⟩ := List.any_eq_true.mp e3
                obtain ⟨i, hi, rfl⟩ := List.mem_map.mp hb
                rw [rx i (List.mem_range.mp hi)] at hb2
                cases e5 : nx T s i with
                | none => rw [e5] at hb2; cases hb2
                | some e =>
                  rw [e5] at hb2
                  exact liv_step e5 (snd' e (by rw [← lT]; exact (nx_lt wf e5).1) hb2)
              · simp only [c, if_false] at h
                exact snd' s hs h
            · by_cases c : s = k
              · simp [c]
              · simp only [c, if_false]
                exact mo s h
            · by_cases c : s = k
              · simp [c]
              · simp only [c, if_false]
                exact mo s h
        · walk_at "go"
          refine ite2 (fun e => absurd e (show ¬ ((!true) = true) from Bool.false_ne_true)) (fun _ => ?_)
          refine ite2 (fun e => absurd e Bool.false_ne_true) (fun _ => ?_)
          refine ⟨s4.trans s5, al', ch', _, _, eA2, snd', mo, fun zz => ⟨(un zz).1, fun s hs k1 e he hl => ?_⟩, up, rfl⟩
          by_cases c : s = k
          · subst c
            rw [← (un zz).1 s]
            exact e1
          · exact (un zz).2 s (by omega) k1 e he hl
      · rintro σ J ⟨s4, al', ch', v5, v6, eA', snd', mo, un, up, rfl⟩
        rw [List.length_map, ← hn'] at un
        refine ⟨s4, al', ch', v5, v6, eA', snd', fun s hs => mo s (hgl s hs), fun z s k e he hl => ?_, up, rfl⟩
        obtain ⟨u1, u2⟩ := un z
        rw [u1] at hl ⊢
        exact u2 s (by rw [← lT]; exact (nx_lt wf he).2.2) k e he hl
    rintro σ' J ⟨s3, al, v5, v6, eA, hal, rfl⟩
    walk_at "go"
    refine rd_sq (b := q) rfl (hT.mono s3).sq ?_
    intro L nL
    refine lc_gen (n := n) (fun k J' => Same J J' ∧ ∃ zk : List (Addr × List (Option Nat)), J' L = some (.lst (zk.map fun z => V.ref z.1)) ∧ (∀ z ∈ zk, J' z.1 = some (.lst (z.2.map eV)) ∧ z.1 ≠ L) ∧ tb zk = kpT al (T.take k)) ⟨same_new nL, [], upd_same, fun z hz => absurd hz (by simp), rfl⟩ ?_ ?_ ?_ ?_
    · rintro k J' hk ⟨s4, _⟩
      have hk2 : k < zs.length := by omega
      exact itq_go (Z.Same.sqK (s3.trans s4) hT.sq) (x := .ref zs[k].1) (by rw [List.getElem?_map, List.getElem?_eq_getElem hk2]; rfl)
    · rintro J' ⟨s4, _⟩
      exact itq_stop (Z.Same.sqK (s3.trans s4) hT.sq) (by rw [List.length_map]; omega)
    · rintro k J' x J2 hk ⟨s4, zk, eL, hz, ek⟩ y
      obtain ⟨rfl, ex⟩ := itq_yld (Z.Same.sqK (s3.trans s4) hT.sq) y
      have hk2 : k < zs.length := by omega
      rw [List.getElem?_map, List.getElem?_eq_getElem hk2] at ex
      cases ex
      have zk2 := (hT.mono (s3.trans s4)).at_ _ (List.getElem_mem hk2)
      have mz : zs[k].2 ∈ T := by rw [hT']; exact List.mem_map.mpr ⟨_, List.getElem_mem hk2, rfl⟩
      have tk : T.take (k + 1) = T.take k ++ [zs[k].2] := by
        rw [hT']
        unfold tb
        rw [List.take_succ, List.getElem?_map, List.getElem?_eq_getElem hk2]
        rfl
      have lz := wf.row _ mz
      have ent := wf.ent _ mz
      generalize zs[k] = z at zk2 mz tk lz ent
      have eA2 := s4 _ _ eA
      walk_at "go"
      refine rd_sq (b := q2) rfl zk2 ?_
      intro B nB
      refine lc_flt (n := m) (fun i => eV (z.2.getD i none)) (fun _ => true) (fun i => eV (kp al (z.2.getD i none))) (by omega) nB (fun i J3 hi s6 => itq_go (Z.Same.sqK s6 zk2) (row_at (by omega))) (fun J3 s6 => itq_stop (Z.Same.sqK s6 zk2) (by rw [List.length_map]; omega)) (fun i J3 x J4 hi s6 y => ?_) (fun i => rfl) (fun i J3 Q1 hi s6 q1 => ?_) (fun i J3 Q1 hi _ s6 q1 => ?_) (fun J3 s6 eB => ?_)
      · obtain ⟨rfl, ex⟩ := itq_yld (Z.Same.sqK s6 zk2) y
        rw [row_at (by omega)] at ex
        cases ex
        exact ⟨Same.refl _, rfl⟩
      · exact q1 _ (Same.refl _)
      · have me : z.2.getD i none ∈ z.2 := by
          rw [List.getD_eq_getElem?_getD, List.getElem?_eq_getElem (show i < z.2.length by omega)]
          exact List.getElem_mem _
        generalize z.2.getD i none = o at me q1
        cases o with
        | none =>
          walk_at "go"
          exact q1 _ (Same.refl _)
        | some e =>
          have he := ent e me
          rw [lT] at he
          dsimp only [eV]
          walk_at "go"
          refine ⟨A0, _, _, _, rfl, rfl, SqL.of (s6 _ _ eA2), bls_at he, ?_⟩
          have ee : kp al (some e) = if al e = true then some e else none := rfl
          rw [ee] at q1
          cases e1 : al e
          · rw [e1, if_neg Bool.false_ne_true] at q1
            walk_at "go"
            exact q1 _ (Same.refl _)
          · rw [e1, if_pos rfl] at q1
            walk_at "go"
            exact q1 _ (Same.refl _)
      have nBL : B ≠ L := ne_of_none' (s4 := eL) nB
      rw [fltL_all, ← lz, row_range (f := fun o => eV (kp al o))] at eB
      have ezk : zk.length ≤ 1000000 := by
        have := congrArg List.length ek
        unfold tb kpT at this
        rw [List.length_map, List.length_map, List.length_take] at this
        omega
      refine ⟨_, s6 _ _ eL, by rw [List.length_map]; exact szC (by omega), Z.Same.mut (s4.trans s6) nL, zk ++ [(B, z.2.map (kp al))], by rw [upd_same, List.map_append]; rfl, fun y hy => ?_, ?_⟩
      · rcases List.mem_append.mp hy with hy | hy
        · obtain ⟨h1, h2⟩ := hz y hy
          exact ⟨by rw [upd_ne h2]; exact s6 _ _ h1, h2⟩
        · rw [List.mem_singleton.mp hy]
          refine ⟨?_, nBL⟩
          rw [upd_ne nBL, eB, List.map_map]
          rfl
      · unfold tb at ek ⊢
        rw [List.map_append, ek, tk]
        unfold kpT
        rw [List.map_append]
        rfl
    rintro J' ⟨s4, zk, eL, hz, ek⟩
    rw [List.take_of_length_le (by omega)] at ek
    have hTk : Tb true true K J' L zk := ⟨SqL.of eL, fun z m => SqL.of (hz z m).1⟩
    have nLH := none_of s3 nL
    have s3' := s3.trans s4
    walk_at "go"
    refine ⟨a, _, rfl, sqk_or (Z.Same.sqK s3' hT.sq), ?_⟩
    rw [List.length_map, ← hn']
    walk_at "go"
    have nil : ∀ (zs0 : zs = [] ∨ ¬ Liv T (inG gs) 0) (B : Addr), J' B = none → Q (.ref B) (upd J' B (.lst [])) := fun zs0 B nB =>
      qq B [] _ (s3'.trans (same_new nB)) (none_of s3' nB) ⟨SqL.of upd_same, fun z m => absurd m (by simp)⟩ (.inl ⟨rfl, zs0⟩)
    by_cases n0 : n = 0
    · rw [decide_eq_false (show ¬ (0 : Int) < (n : Int) by omega)]
      walk_at "go"
      exact nil (.inl (List.length_eq_zero_iff.mp (by omega)))
    · have n1 : 0 < n := by omega
      rw [decide_eq_true (show (0 : Int) < (n : Int) by omega)]
      walk_at "go"
      refine ⟨A0, _, _, _, rfl, rfl, SqL.of (s4 _ _ eA), bls_at (i := 0) n1, ?_⟩
      cases e1 : al 0
      · walk_at "go"
        exact nil (.inr fun l => by rw [(hal 0 n1).mpr l] at e1; cases e1)
      · walk_at "go"
        refine qq L zk J' s3' nLH hTk (.inr ⟨n1, (hal 0 n1).mp e1, ?_⟩)
        rw [ek]
        exact kpt_of wf (by rw [lT]; exact hal)
end
end Z
set_option pp.maxSteps 700
set_option Elab.async false
set_option linter.all false
set_option maxRecDepth 100000
set_option maxHeartbeats 4000000
open SX (S S_inj S_len S_cat)
namespace Z
open Mc
open PySem PySem.Spec PyProof.Rows L2
open C8 (pss_cut tCut)
local macro_rules | `(tactic| walk_at "num") => `(tactic| first | rfl | omega | decide | exact Nat.le_of_lt (small1000 (by simp)) | exact ⟨by omega, by omega⟩ | exact ⟨by omega, by omega, by omega⟩ | exact ⟨by decide, by decide, by decide⟩ | exact Or.inl ⟨by omega, by omega⟩ | exact Or.inr ⟨by omega, by omega⟩)
local macro_rules | `(tactic| walk_at "go") => `(tactic| repeat (first | refine ⟨_, rfl, ?_⟩ | refine ⟨_, _, rfl, rfl, ?_⟩ | refine ⟨_, _, rfl, ?_⟩ | (refine ⟨_, _, rfl, rfl, ?_, ?_⟩; focus walk_at "num") | refine Or.inl ⟨_, rfl, ?_⟩ | refine ⟨_, _, _, _, rfl, rfl, (by assumption), (by rfl), ?_⟩ | refine ⟨_, _, _, _, _, rfl, (by assumption), (by assumption), (by assumption), (by rfl), ?_⟩ | refine ⟨rfl, ?_⟩ | (refine And.intro ?_ ?_; focus walk_at "num")))
abbrev s_state_classes : Stmt := topS 10
abbrev N_state_classes : List Str := ["rows", "good", "flag", "classes", "many", "numbers", "finer", "state", "row", "entry", "mark"]
abbrev P_state_classes : List Str := ["rows", "good"]
theorem sc_state_classes : FnScope N_state_classes P_state_classes (defScope s_state_classes) := ⟨rfl, rfl, rfl, by decide +kernel, rfl, by decide +kernel, by decide +kernel⟩
def nls (n : Nat) (f : Nat → Nat) : List V := (List.range n).map fun i => V.int ((f i : Nat) : Int)
def lk : Option Nat → NestedKey
  | none => .none
  | some c => .num (c : Int)
def nk (p : Nat × List (Option Nat)) : NestedKey := .tup (.num ((p.1 : Nat) : Int) :: p.2.map lk)
theorem lk_inj : ∀ {a b : Option Nat}, lk a = lk b → a = b
  | none, none, _ => rfl
  | some _, none, h => by cases h
  | none, some _, h => by cases h
  | some a, some b, h => by
    have h : NestedKey.num (a : Int) = NestedKey.num (b : Int) := h
    injection h with h
    rw [show a = b by omega]
theorem lks_inj : ∀ {a b : List (Option Nat)}, a.map lk = b.map lk → a = b
  | [], [], _ => rfl
  | [], _ :: _, h => by cases h
  | _ :: _, [], h => by cases h
  | x :: a, y :: b, h => by
    rw [List.map_cons, List.map_cons] at h
    injection h with h1 h2
    rw [lk_inj h1, lks_inj h2]
theorem nk_inj {p q : Nat × List (Option Nat)} (h : nk p = nk q) : p = q := by
  unfold nk at h
  injection h with h
  injection h with h1 h2
  injection h1 with h1
  exact Prod.ext (by omega) (lks_inj h2)
theorem lks_depth : ∀ l : List (Option Nat), NestedKey.depthAll (l.map lk) ≤ 1
  | [] => by decide
  | x :: l => by
    have := lks_depth l
    cases x <;> simp only [List.map_cons, NestedKey.depthAll, lk, NestedKey.depth] <;> omega
theorem nk_depth (p : Nat × List (Option Nat)) : (nk p).depth ≤ 8 := by
  have := lks_depth p.2
  unfold nk
  simp only [NestedKey.depth, NestedKey.depthAll]
  omega
theorem atN_some {kvs : List (NestedKey × Addr × Int)} {k : NestedKey} {v : Int} (h : atN kvs k = some v) : ∃ x ∈ kvs, x.1 = k ∧ x.2.2 = v := by
  unfold atN at h
  obtain ⟨x, hx, e⟩ := Option.map_eq_some_iff.mp h
  exact ⟨x, List.mem_of_find?_eq_some hx, of_decide_eq_true (List.find?_some (p := fun x : NestedKey × Addr × Int => decide (x.1 = k)) hx), e⟩
theorem atN_none {kvs : List (NestedKey × Addr × Int)} {k : NestedKey} (h : atN kvs k = none) : ∀ x ∈ kvs, x.1 ≠ k := fun x hx e => by
  unfold atN at h
  rw [Option.map_eq_none_iff] at h
  have := List.find?_eq_none.mp h x hx
  rw [decide_eq_true e] at this
  exact this rfl
/-- marks are numbered as they are met -/
structure Num (f : Nat → Nat × List (Option Nat)) (k : Nat) (kvs : List (NestedKey × Addr × Int)) (fn : Nat → Nat) : Prop where
  len : kvs.length = cf f k
  val : ∀ (i : Nat) x, kvs[i]? = some x → x.2.2 = (i : Int)
  at_ : ∀ s, s < k → ∃ x, kvs[fn s]? = some x ∧ x.1 = nk (f s)
  one : ∀ (i j : Nat) x y, kvs[i]? = some x → kvs[j]? = some y → x.1 = y.1 → i = j
  src : ∀ x ∈ kvs, ∃ s, s < k ∧ x.1 = nk (f s)
theorem Num.eq {f : Nat → Nat × List (Option Nat)} {k : Nat} {kvs : List (NestedKey × Addr × Int)} {fn : Nat → Nat} (h : Num f k kvs fn) {s t : Nat} (hs : s < k) (ht : t < k) : fn s = fn t ↔ f s = f t := by
  obtain ⟨x, hx, ex⟩ := h.at_ s hs
  obtain ⟨y, hy, ey⟩ := h.at_ t ht
  constructor
  · intro e
    rw [e, hy] at hx
    cases hx
    exact nk_inj (ex.symm.trans ey)
  · intro e
    exact h.one _ _ x y hx hy (by rw [ex, ey, e])
theorem Num.cf {f : Nat → Nat × List (Option Nat)} {k : Nat} {kvs : List (NestedKey × Addr × Int)} {fn : Nat → Nat} (h : Num f k kvs fn) : Mc.cf fn k = Mc.cf f k :=
  Nat.le_antisymm (cf_mono fun _ _ hs ht e => (h.eq hs ht).mpr e) (cf_mono fun _ _ hs ht e => (h.eq hs ht).mp e)
theorem Num.old {f : Nat → Nat × List (Option Nat)} {k : Nat} {kvs : List (NestedKey × Addr × Int)} {fn : Nat → Nat} (h : Num f k kvs fn) {v : Int} (e : atN kvs (nk (f k)) = some v) : ∃ i : Nat, v = (i : Int) ∧ Num f (k + 1) kvs fun s => if s = k then i else fn s := by
  obtain ⟨x, hx, e1, e2⟩ := atN_some e
  obtain ⟨i, hi, rfl⟩ := List.getElem_of_mem hx
  have gi := List.getElem?_eq_getElem hi
  have hv := h.val i _ gi
  refine ⟨i, by rw [← e2, hv], ?_, h.val, fun s hs => ?_, h.one, fun x hx => ?_⟩
  · obtain ⟨s, hs, es⟩ := h.src _ hx
    have nf : isF f k = false := by
      cases c : isF f k with
      | false => rfl
      | true => exact absurd (nk_inj (es.symm.trans e1)) (isF_iff.mp c s hs)
    rw [cf_succ, nf]
    exact h.len
  · by_cases c : s = k
    · subst c
      exact ⟨_, by rw [if_pos rfl]; exact gi, e1⟩
    · rw [if_neg c]
      exact h.at_ s (by omega)
  · obtain ⟨s, hs, es⟩ := h.src x hx
    exact ⟨s, by omega, es⟩
theorem Num.new {f : Nat → Nat × List (Option Nat)} {k : Nat} {kvs : List (NestedKey × Addr × Int)} {fn : Nat → Nat} (h : Num f k kvs fn) (e : atN kvs (nk (f k)) = none) (b : Addr) : Num f (k + 1) (kvs ++ [(nk (f k), b, (kvs.length : Int))]) fun s => if s = k then kvs.length else fn s := by
  have no := atN_none e
  have get : ∀ (i : Nat) x, (kvs ++ [(nk (f k), b, (kvs.length : Int))])[i]? = some x → kvs[i]? = some x ∨ i = kvs.length ∧ x = (nk (f k), b, (kvs.length : Int)) := fun i x hx => by
    by_cases c : i < kvs.length
    · rw [List.getElem?_append_left c] at hx
      exact .inl hx
    · rw [List.getElem?_append_right (by omega)] at hx
      have c2 : i - kvs.length = 0 := by
        have := (List.getElem?_eq_some_iff.mp hx).1
        simp at this
        omega
      rw [c2] at hx
      cases hx
      exact .inr ⟨by omega, rfl⟩
  refine ⟨?_, fun i x hx => ?_, fun s hs => ?_, fun i j x y hx hy exy => ?_, fun x hx => ?_⟩
  · have nf : isF f k = true := isF_iff.mpr fun t ht q => by
      obtain ⟨x, hx, ex⟩ := h.at_ t ht
      exact no x (List.mem_of_getElem? hx) (by rw [ex, q])
    rw [cf_succ, nf, List.length_append, h.len]
    rfl
  · rcases get i x hx with hx | ⟨rfl, rfl⟩
    · exact h.val i x hx
    · rfl
  · by_cases c : s = k
    · subst c
      exact ⟨_, by rw [if_pos rfl, List.getElem?_append_right (Nat.le_refl _), Nat.sub_self]; rfl, rfl⟩
    · rw [if_neg c]
      obtain ⟨x, hx, ex⟩ := h.at_ s (by omega)
      exact ⟨x, by rw [List.getElem?_append_left (List.getElem?_eq_some_iff.mp hx).1]; exact hx, ex⟩
  · rcases get i x hx with hx | ⟨rfl, rfl⟩
    · rcases get j y hy with hy | ⟨rfl, rfl⟩
      · exact h.one i j x y hx hy exy
      · exact absurd exy (no x (List.mem_of_getElem? hx))
    · rcases get j y hy with hy | ⟨rfl, rfl⟩
      · exact absurd exy.symm (no y (List.mem_of_getElem? hy))
      · rfl
  · rcases List.mem_append.mp hx with hx | hx
    · obtain ⟨s, hs, es⟩ := h.src x hx
      exact ⟨s, by omega, es⟩
    · rw [List.mem_singleton.mp hx]
      exact ⟨k, by omega, rfl⟩
theorem num_nil (f : Nat → Nat × List (Option Nat)) : Num f 0 [] fun _ => 0 := ⟨rfl, fun i x h => by simp at h, fun s hs => absurd hs (Nat.not_lt_zero _), fun i j x y h => by simp at h, fun x m => absurd m (by simp)⟩
theorem nls_len (n : Nat) (f : Nat → Nat) : (nls n f).length = n := by unfold nls; rw [List.length_map, List.length_range]
theorem nls_at {n i : Nat} {f : Nat → Nat} (h : i < n) : atI (nls n f) (i : Int) = some (.int ((f i : Nat) : Int)) := atI_nat (by unfold nls; rw [List.getElem?_map, List.getElem?_range h]; rfl)
theorem nls_snoc {k v : Nat} {f : Nat → Nat} : nls k f ++ [V.int (v : Int)] = nls (k + 1) fun s => if s = k then v else f s := by
  unfold nls
  rw [List.range_succ, List.map_append]
  congr 1
  · exact List.map_congr_left fun s hs => by simp [Nat.ne_of_lt (List.mem_range.mp hs)]
  · simp
theorem nka_lks {H : Hp} : ∀ {l : List (Option Nat)}, NkA H (l.map lk) (l.map eV)
  | [] => .nil
  | none :: l => .cons .none nka_lks
  | some c :: l => .cons (.int _) nka_lks
theorem DN.upd_lst {P : Program} {w : World} {H : Hp} {a b : Addr} {kvs : List (NestedKey × Addr × Int)} {xs ys : List V} (d : DN P w H a kvs) (e : H b = some (.lst xs)) : DN P w (upd H b (.lst ys)) a kvs := by
  have ht : ∀ c vs, H c = some (.tup vs) → (upd H b (.lst ys)) c = some (.tup vs) := fun c vs h => by
    rw [upd_ne (fun q => by rw [q, e] at h; cases h)]
    exact h
  refine ⟨?_, fun x m => ⟨NkV.keepT ht (d.ks x m).1, (d.ks x m).2⟩⟩
  rw [upd_ne (fun q => by have := d.at_; rw [q, e] at this; unfold DNo at this; cases this)]
  exact d.at_
section
variable {P : Program} {w : World} {K : PySem.W.Frag} {mg : Str → Option Value} {base : Heap} {f : Addr} {fd : FuncData}
def spClasses (K : PySem.W.Frag) : Sp := fun vs H Q _ => ∃ (q q2 q3 : Bool) (m : Nat) (a g : Addr) (zs : List (Addr × List (Option Nat))) (gs : List Nat), vs = [.ref a, .ref g] ∧ Tb q q2 K H a zs ∧ Wf (tb zs) m ∧ m ≤ 1000 ∧ 0 < zs.length ∧ zs.length ≤ 1000000 ∧ SqK q3 K H g (gsq gs) ∧ (∀ s ∈ gs, s < zs.length) ∧ (∀ s k e, nx (tb zs) s k = some e → Liv (tb zs) (inG gs) e) ∧
  ∀ (L : Addr) (fc : Nat → Nat) H', Same H H' → H L = none → H' L = some (.lst (nls zs.length fc)) → (∀ s t, s < zs.length → t < zs.length → (fc s = fc t ↔ Leq (tb zs) (inG gs) s t)) → Q (.ref L) H'
theorem ok_state_classes (F : FnP K "state_classes" s_state_classes f fd) (m_int : mg "int" = none) (m_tuple : mg "tuple" = none) (m_len : mg "len" = none) (m_enumerate : mg "enumerate" = none) (c_flags_of : Cal P w K mg base 1 "flags_of" (spFlags K)) : FnOk P w K mg base CX0 2 f fd P_state_classes (spClasses K) := by
  refine F.ok sc_state_classes (fun vs H Q E h => ?_) (fun cdv A outer s H vs Q E hr h => ?_)
  · obtain ⟨q, q2, q3, m, a, g, zs, gs, rfl, _⟩ := h
    rfl
  · obtain ⟨q, q2, q3, m, a, g, zs, gs, rfl, hT, wf, hm, hn0, hn, hG, hgs, lv, qq⟩ := h
    refine ⟨_, PSs.nox (pss_cons (ps_set (i := 3) sc_state_classes.nd rfl (by first | exact .inl rfl | exact .inr rfl) (pe_lc (own := [("flag", 2)]) (g := (gName 2)) (tt := tYes) (by rfl) sc_state_classes.nd (pi_list (pe_cl c_flags_of hr (by decide) (by rfl) (pa_cons (pe_callB call_len_seq (by rfl) m_len PySem.boot_len (pa_cons (pv 0) pa_nil)) (pa_cons (pv 1) pa_nil)))) (blkOk_by (own := [("flag", 2)]) (N := N_state_classes) (sc := defScope s_state_classes) (by decide +kernel)) (fun _ _ _ _ _ => (pg_name (i := 2) sc_state_classes.nd rfl (by first | exact .inl rfl | exact .inr rfl))) (fun _ _ _ _ _ => pts_nil) (fun _ _ _ _ _ => (pe_callTy call_int1 (by rfl) m_int (by decide +kernel) (pa_cons (pv 2) pa_nil)))))
      (pss_cons (ps_set (i := 4) sc_state_classes.nd rfl (by first | exact .inl rfl | exact .inr rfl) pe_int)
      (pss_one (ps_while PassesOwn.never (pt_val pe_bl)
        (pss_cons (ps_set (i := 5) sc_state_classes.nd rfl (by first | exact .inl rfl | exact .inr rfl) (pe_dnewN (P := P) (w := w) rfl rfl))
      (pss_cons (ps_set (i := 6) sc_state_classes.nd rfl (by first | exact .inl rfl | exact .inr rfl) (pe_lst pa_nil))
      (pss_cons (ps_for PassesOwn.never rfl (pi_enumM (by rfl) m_enumerate (pa_cons (pv 0) pa_nil)) (pg_tup rfl (pgs_cons (pg_name (i := 7) sc_state_classes.nd rfl (by first | exact .inl rfl | exact .inr rfl)) (pgs_cons (pg_name (i := 8) sc_state_classes.nd rfl (by first | exact .inl rfl | exact .inr rfl)) pgs_nil)))
        (pss_cons (ps_set (i := 10) sc_state_classes.nd rfl (by first | exact .inl rfl | exact .inr rfl) (pe_callTy call_tuple_of (by rfl) m_tuple (by decide +kernel) (pa_cons (pe_op op_cat (pe_lst (pa_cons (pe_ix ix_list (pv 3) (pv 7) (fun _ _ => rfl)) pa_nil)) (pe_lc (own := [("entry", 9)]) (g := (gName 9)) (tt := tYes) (by rfl) sc_state_classes.nd (pi_sq (pv 8)) (blkOk_by (own := [("entry", 9)]) (N := N_state_classes) (sc := defScope s_state_classes) (by decide +kernel)) (fun _ _ _ _ _ => (pg_name (i := 9) sc_state_classes.nd rfl (by first | exact .inl rfl | exact .inr rfl))) (fun _ _ _ _ _ => pts_nil) (fun _ _ _ _ _ => (pe_ifExp (pt_cmpR op_isN (pv 9) pe_non (nomark _)) pe_non (pe_ix (ix_list_K (K := K) rfl) (pv 3) (pv 9) (fun _ _ => rfl)))))) pa_nil)))
      (pss_one (ps_expr (pe_bm PySem.F.plainAttrs_list PySem.F.slot_list_append PySem.F.type_list_append mt_append (pv 6) (pa_cons (pe_dsetdN (P := P) (w := w) (Nat.lt_of_le_of_lt (Nat.add_le_add_left (by decide) _) hr.units) rfl rfl (pv 5) (pv 10) (pe_callB (call_lenN (P := P) (w := w) rfl rfl) (by rfl) m_len PySem.boot_len (pa_cons (pv 5) pa_nil)) ⟨rfl, rfl, rfl, rfl⟩) pa_nil))))))
      (pss_cons (ps_if (pt_cmpR op_eq (pe_callB (call_lenN (P := P) (w := w) rfl rfl) (by rfl) m_len PySem.boot_len (pa_cons (pv 5) pa_nil)) (pv 4) (nomark _)) (pss_one (ps_ret (pv 6))) pss_nil)
      (pss_cons (ps_set (i := 3) sc_state_classes.nd rfl (by first | exact .inl rfl | exact .inr rfl) (pv 6))
      (pss_one (ps_set (i := 4) sc_state_classes.nd rfl (by first | exact .inl rfl | exact .inr rfl) (pe_callB (call_lenN (P := P) (w := w) rfl rfl) (by rfl) m_len PySem.boot_len (pa_cons (pv 5) pa_nil))))))))))))), ?_⟩
    walk_at "go"
    refine ⟨a, _, rfl, sqk_or hT.sq, ?_⟩
    rw [List.length_map]
    walk_at "go"
    refine ⟨q3, zs.length, g, gs, rfl, hG, hgs, by omega, fun L0 H1 s1 nL0 eL0 => ?_⟩
    walk_at "go"
    refine ⟨⟨_, SqL.of eL0⟩, fun A0 nA0 => ?_⟩
    refine lc_gen (n := zs.length) (fun k J => Same H1 J ∧ J A0 = some (.lst (nls k fun i => if i ∈ gs then 1 else 0))) ⟨same_new nA0, upd_same⟩ ?_ ?_ ?_ ?_
    · rintro k J hk ⟨s2, _⟩
      exact ⟨_, .bl (decide (k ∈ gs)), SqL.of (s2 _ _ eL0), by rw [List.getElem?_map, List.getElem?_range hk]; rfl⟩
    · rintro J ⟨s2, _⟩
      exact ⟨_, SqL.of (s2 _ _ eL0), by rw [List.length_map, List.length_range]; exact Nat.le_refl _⟩
    · rintro k J x J' hk ⟨s2, eA⟩ ⟨rfl, e⟩
      have hx := e _ (SqL.of (s2 _ _ eL0))
      rw [List.getElem?_map, List.getElem?_range hk] at hx
      cases hx
      walk_at "go"
      have two : ∀ v : Nat, (if k ∈ gs then 1 else 0) = v → ∃ acc, J' A0 = some (.lst acc) ∧ acc.length < sizeLine ∧ Same H1 (upd J' A0 (.lst (acc ++ [V.int (v : Int)]))) ∧ (upd J' A0 (.lst (acc ++ [V.int (v : Int)]))) A0 = some (.lst (nls (k + 1) fun i => if i ∈ gs then 1 else 0)) := fun v hv => by
        refine ⟨_, eA, by rw [nls_len]; exact szC (by omega), Z.Same.mut s2 nA0, ?_⟩
        rw [upd_same, nls_snoc]
        congr 3
        funext i
        by_cases c : i = k
        · rw [if_pos c, c, hv]
        · rw [if_neg c]
      refine .inr ⟨_, rfl, ?_⟩
      by_cases c : k ∈ gs
      · rw [decide_eq_true c]
        exact two 1 (if_pos c)
      · rw [decide_eq_false c]
        exact two 0 (if_neg c)
    rintro J ⟨s2, eA⟩
    have nA := none_of s1 nA0
    have sJ := s1.trans s2
    clear eL0 nA0 s1 s2
    walk_at "go"
    obtain ⟨n, hn'⟩ : ∃ n, n = zs.length := ⟨_, rfl⟩
    obtain ⟨T, hT'⟩ : ∃ T, T = tb zs := ⟨_, rfl⟩
    have lT : T.length = n := by rw [hT', hn']; exact List.length_map ..
    rw [← hT'] at wf qq lv
    rw [← hn'] at hn hn0 hgs qq eA
    refine ⟨fun μ σ J => Same H J ∧ ∃ (Cl : Addr) (cl : Nat → Nat) (mn : Nat) (v5 v6 v7 v8 v10 : Option V), J Cl = some (.lst (nls n cl)) ∧ Crs T (inG gs) cl ∧ (∀ s t, s < n → t < n → cl s = cl t → (inG gs s ↔ inG gs t)) ∧ (mn = 0 ∨ mn = cf cl n) ∧ mn ≤ n ∧ μ = n - mn ∧ σ = [some (.ref a), some (.ref g), none, some (.ref Cl), some (.int (mn : Int)), v5, v6, v7, v8, none, v10], ⟨_, sJ, A0, _, 0, none, none, none, none, none, eA, fun s t hs ht l => ?_, fun s t hs ht e => ?_, .inl rfl, Nat.zero_le _, rfl, rfl⟩, ?_⟩
    · have := l.good
      unfold inG at this
      show (if s ∈ gs then (1 : Nat) else 0) = if t ∈ gs then 1 else 0
      by_cases c : s ∈ gs
      · rw [if_pos c, if_pos (this.mp c)]
      · rw [if_neg c, if_neg (fun z => c (this.mpr z))]
    · unfold inG
      have e : (if s ∈ gs then (1 : Nat) else 0) = if t ∈ gs then 1 else 0 := e
      by_cases c : s ∈ gs
      · by_cases d : t ∈ gs
        · exact ⟨fun _ => d, fun _ => c⟩
        · rw [if_pos c, if_neg d] at e; cases e
      · by_cases d : t ∈ gs
        · rw [if_neg c, if_pos d] at e; cases e
        · exact ⟨fun z => absurd z c, fun z => absurd z d⟩
    rintro μ σ J ⟨s3, Cl, cl, mn, v5, v6, v7, v8, v10, eC, crs, fl, hm0, mnn, rfl, rfl⟩
    walk_at "go"
    refine ite2 (fun _ => ?_) (fun e => absurd rfl e)
    refine ⟨fun σ' J' => Same H J' ∧ ∃ (Cl : Addr) (cl : Nat → Nat) (mn' : Nat) (v5 v6 v7 v8 v10 : Option V), J' Cl = some (.lst (nls n cl)) ∧ Crs T (inG gs) cl ∧ (∀ s t, s < n → t < n → cl s = cl t → (inG gs s ↔ inG gs t)) ∧ mn' = cf cl n ∧ mn' ≤ n ∧ mn < mn' ∧ σ' = [some (.ref a), some (.ref g), none, some (.ref Cl), some (.int (mn' : Int)), v5, v6, v7, v8, none, v10], ?_, ?_⟩
    · rintro σ' J' ⟨s4, Cl', cl', mn', v5, v6, v7, v8, v10, e1, e2, e3, e4, e5, e6, rfl⟩
      exact ⟨_, by omega, s4, Cl', cl', mn', v5, v6, v7, v8, v10, e1, e2, e3, .inr e4, e5, rfl, rfl⟩
    walk_at "go"
    intro D nD
    have sD := same_new (o := DNo P w D []) nD
    have hD : DN P w (upd J D (DNo P w D [])) D [] := dn_new
    generalize upd J D (DNo P w D []) = J1 at sD hD
    walk_at "go"
    intro Fn nFn
    have sF := same_new (o := .lst []) nFn
    have eF : (upd J1 Fn (.lst [])) Fn = some (.lst (nls 0 fun _ => 0)) := upd_same
    have hD1 := hD.mono sF
    generalize upd J1 Fn (.lst []) = J2 at sF eF hD1
    have nFnJ := none_of sD nFn
    have s32 := sD.trans sF
    walk_at "go"
    refine ⟨q, _, _, rfl, Z.Same.sqK (s3.trans s32) hT.sq, ?_⟩
    refine for_enum hT.sq (fun k σ J2 => Same H J2 ∧ Same J J2 ∧ (∃ kvs fn, DN P w J2 D kvs ∧ J2 Fn = some (.lst (nls k fn)) ∧ Num (mk T m cl) k kvs fn) ∧ ∃ v7 v8 v10 : Option V, σ = [some (.ref a), some (.ref g), none, some (.ref Cl), some (.int (mn : Int)), some (.ref D), some (.ref Fn), v7, v8, none, v10]) ⟨s3.trans s32, s32, ⟨_, _, hD1, eF, num_nil _⟩, _, _, _, rfl⟩ (fun k σ J p => p.1) ?_ ?_
    · rintro k x σ J3 J4 ex ⟨s4, sJ4, ⟨kvs, fn, hD, eF, num⟩, v7, v8, v10, rfl⟩ s5
      rw [List.getElem?_map] at ex
      obtain ⟨z, ez, rfl⟩ := Option.map_eq_some_iff.mp ex
      have hk : k < n := by rw [hn']; exact (List.getElem?_eq_some_iff.mp ez).1
      have hz := (hT.mono (s4.trans s5)).at_ z (List.mem_of_getElem? ez)
      have mz : z.2 ∈ T := by rw [hT']; exact List.mem_map.mpr ⟨z, List.mem_of_getElem? ez, rfl⟩
      have lz := wf.row _ mz
      have rx : ∀ i, i < m → z.2.getD i none = nx T k i := fun i hi => by rw [hT']; exact row_nx ez (by omega)
      have eC4 := (sJ4.trans s5) _ _ eC
      have hD4 := hD.mono s5
      have eF4 := s5 _ _ eF
      walk_at "go"
      refine ⟨Cl, _, _, _, rfl, rfl, SqL.of eC4, nls_at hk, ?_⟩
      walk_at "go"
      intro l1 nl1
      generalize eH_ : upd J4 l1 _ = J5
      have s6 : Same J4 J5 := by rw [← eH_]; exact same_new nl1
      have el1 : J5 l1 = some (.lst [.int ((cl k : Nat) : Int)]) := by rw [← eH_]; exact upd_same
      clear eH_
      walk_at "go"
      refine rd_sq (b := q2) rfl (Z.Same.sqK s6 hz) ?_
      intro B nB
      refine lc_flt (n := m) (fun i => eV (z.2.getD i none)) (fun _ => true) (fun i => eV ((z.2.getD i none).map cl)) (by omega) nB (fun i J6 hi s7 => itq_go (Z.Same.sqK (s6.trans s7) hz) (row_at (by omega))) (fun J6 s7 => itq_stop (Z.Same.sqK (s6.trans s7) hz) (by rw [List.length_map]; omega)) (fun i J6 x J7 hi s7 y => ?_) (fun i => rfl) (fun i J6 Q1 hi s7 q1 => ?_) (fun i J6 Q1 hi _ s7 q1 => ?_) (fun J6 s7 eB => ?_)
      · obtain ⟨rfl, ex⟩ := itq_yld (Z.Same.sqK (s6.trans s7) hz) y
        rw [row_at (by omega)] at ex
        cases ex
        exact ⟨Same.refl _, rfl⟩
      · exact q1 _ (Same.refl _)
      · rw [rx i hi] at q1 ⊢
        cases e2 : nx T k i with
        | none =>
          rw [e2] at q1
          walk_at "go"
          exact q1 _ (Same.refl _)
        | some e =>
          rw [e2] at q1
          have he := (nx_lt wf e2).1
          rw [lT] at he
          dsimp only [eV]
          walk_at "go"
          exact ⟨Cl, _, _, _, rfl, rfl, SqL.of ((s6.trans s7) _ _ eC4), nls_at he, q1 _ (Same.refl _)⟩
      have em : fltL (fun _ => true) (fun i => eV ((z.2.getD i none).map cl)) m = (mk T m cl k).2.map eV := by
        rw [fltL_all]
        unfold mk
        dsimp only
        rw [List.map_map]
        exact List.map_congr_left fun i hi => by rw [rx i (List.mem_range.mp hi)]; rfl
      rw [em] at eB
      have lmk : ((mk T m cl k).2.map eV).length = m := by unfold mk; simp
      walk_at "go"
      refine ⟨l1, B, _, _, rfl, rfl, s7 _ _ el1, eB, by rw [lmk]; exact Nat.le_trans (show 1 + m ≤ 2000 by omega) (by decide), fun l2 nl2 => ?_⟩
      have s8 := same_new (o := .lst ([.int ((cl k : Nat) : Int)] ++ (mk T m cl k).2.map eV)) nl2
      have el2 : (upd J6 l2 (.lst ([.int ((cl k : Nat) : Int)] ++ (mk T m cl k).2.map eV))) l2 = some (.lst ([.int ((cl k : Nat) : Int)] ++ (mk T m cl k).2.map eV)) := upd_same
      generalize upd J6 l2 (.lst ([.int ((cl k : Nat) : Int)] ++ (mk T m cl k).2.map eV)) = J7 at s8 el2
      walk_at "go"
      refine ⟨l2, _, rfl, .inl ⟨SqL.of el2, fun t nt => ?_⟩⟩
      have s9 := same_new (o := .tup ([.int ((cl k : Nat) : Int)] ++ (mk T m cl k).2.map eV)) nt
      have et : (upd J7 t (.tup ([.int ((cl k : Nat) : Int)] ++ (mk T m cl k).2.map eV))) t = some (.tup ([.int ((cl k : Nat) : Int)] ++ (mk T m cl k).2.map eV)) := upd_same
      generalize upd J7 t (.tup ([.int ((cl k : Nat) : Int)] ++ (mk T m cl k).2.map eV)) = J8 at s9 et
      have s48 := s6.trans (s7.trans (s8.trans s9))
      have hD8 := hD4.mono s48
      have eF8 := s48 _ _ eF4
      have hN : NkV J8 (nk (mk T m cl k)) (.ref t) := .tup et (.cons (.int _) nka_lks)
      clear s6 s7 s8 s9 el1 eB el2
      walk_at "go"
      refine ⟨.inl ⟨rfl, _, SqL.of eF8⟩, ?_⟩
      walk_at "go"
      refine ⟨D, kvs, rfl, hD8, ?_⟩
      have lkv : kvs.length ≤ 1000000 := by
        rw [num.len]
        exact Nat.le_trans (cf_le _ _) (by omega)
      have sJ8 := sJ4.trans (s5.trans s48)
      have sH8 := s4.trans (s5.trans s48)
      have nDH := none_of s3 nD
      have nFnH := none_of s3 nFnJ
      refine ⟨kvs, nk (mk T m cl k), t, _, hD8, rfl, rfl, hN, nk_depth _, Nat.lt_of_le_of_lt lkv (by decide), fun v hv => ?_, fun hv => ?_⟩
      · obtain ⟨i, rfl, num2⟩ := num.old hv
        walk_at "go"
        refine ⟨Fn, _, _, rfl, rfl, eF8, by rw [nls_len]; exact szC (by omega), ?_⟩
        rw [nls_snoc]
        exact ⟨Z.Same.mut sH8 nFnH, Z.Same.mut sJ8 nFnJ, ⟨kvs, _, hD8.upd_lst eF8, upd_same, num2⟩, _, _, _, rfl⟩
      · have num2 := num.new hv t
        have hD9 := hD8.put (i := (kvs.length : Int)) hN (nk_depth _)
        have eF9 : (upd J8 D (DNo P w D (kvs ++ [(nk (mk T m cl k), t, (kvs.length : Int))]))) Fn = some (.lst (nls k fn)) := by
          rw [upd_ne (fun e => by have := hD8.at_; rw [← e, eF8] at this; unfold DNo at this; cases this)]
          exact eF8
        have sJ9 : Same J (upd J8 D (DNo P w D (kvs ++ [(nk (mk T m cl k), t, (kvs.length : Int))]))) := Z.Same.mut sJ8 nD
        have sH9 : Same H (upd J8 D (DNo P w D (kvs ++ [(nk (mk T m cl k), t, (kvs.length : Int))]))) := Z.Same.mut sH8 nDH
        generalize upd J8 D (DNo P w D (kvs ++ [(nk (mk T m cl k), t, (kvs.length : Int))])) = J9 at hD9 eF9 sJ9 sH9
        walk_at "go"
        refine ⟨Fn, _, _, rfl, rfl, eF9, by rw [nls_len]; exact szC (by omega), ?_⟩
        rw [nls_snoc]
        exact ⟨Z.Same.mut sH9 nFnH, Z.Same.mut sJ9 nFnJ, ⟨_, _, hD9.upd_lst eF9, upd_same, num2⟩, _, _, _, rfl⟩
    · rintro σ J3 ⟨s4, sJ3, ⟨kvs, fn, hD, eF, num⟩, v7, v8, v10, rfl⟩
      rw [List.length_map, ← hn'] at eF num
      walk_at "go"
      refine ⟨D, kvs, rfl, hD, ?_⟩
      walk_at "go"
      have e1 := num.cf
      have e2 := num.len
      have np : 0 < kvs.length := by rw [e2]; exact cf_pos _ hn0
      have rfn : ∀ s t, s < n → t < n → fn s = fn t → cl s = cl t := fun s t hs ht e => mk_fst ((num.eq hs ht).mp e)
      by_cases c : kvs.length = mn
      · rw [decide_eq_true (show V.int (kvs.length : Int) = V.int (mn : Int) by rw [c])]
        walk_at "go"
        have em : mn = Mc.cf cl n := by
          rcases hm0 with z | z
          · omega
          · exact z
        have back := cf_eq (f := cl) (g := fn) rfn (by rw [e1, ← e2, c, em])
        have key : ∀ s t, s < n → t < n → (fn s = fn t ↔ Leq T (inG gs) s t) := fun s t hs ht => by
          constructor
          · intro e
            refine stable_leq (cl := cl) wf (by rw [lT]; exact fl) (by rw [lT]; exact fun s t hs ht e => (num.eq hs ht).mp (back s t hs ht e)) s t (by rw [lT]; exact hs) (by rw [lT]; exact ht) (rfn s t hs ht e)
          · intro l
            exact back s t hs ht (crs s t (by rw [lT]; exact hs) (by rw [lT]; exact ht) l)
        exact qq Fn fn J3 s4 (none_of s3 nFnJ) eF key
      · rw [decide_eq_false (show ¬ V.int (kvs.length : Int) = V.int (mn : Int) from fun z => by injection z with z; omega)]
        walk_at "go"
        refine ⟨D, kvs, rfl, hD, ?_⟩
        refine ⟨s4, Fn, fn, kvs.length, _, _, _, _, _, eF, fun s t hs ht l => ?_, fun s t hs ht e => fl s t hs ht (rfn s t hs ht e), by rw [e1, e2], by rw [e2]; exact cf_le _ _, ?_, rfl⟩
        · rw [lT] at hs ht
          exact (num.eq hs ht).mpr (crs.next wf lv (by rw [lT]; exact hs) (by rw [lT]; exact ht) l)
        · rcases hm0 with z | z
          · omega
          · have := cf_mono (f := cl) (g := fn) rfn
            rw [e1, ← e2, ← z] at this
            omega
end
end Z
set_option pp.maxSteps 700
set_option Elab.async false
set_option linter.all false
set_option maxRecDepth 100000
set_option maxHeartbeats 4000000
open SX (S S_inj S_len S_cat)
namespace Z
open Mc
open PySem PySem.Spec PyProof.Rows L2
open C8 (pss_cut tCut)
local macro_rules | `(tactic| walk_at "num") => `(tactic| first | rfl | omega | decide | exact Nat.le_of_lt (small1000 (by simp)) | exact ⟨by omega, by omega⟩ | exact ⟨by omega, by omega, by omega⟩ | exact ⟨by decide, by decide, by decide⟩ | exact Or.inl ⟨by omega, by omega⟩ | exact Or.inr ⟨by omega, by omega⟩)
local macro_rules | `(tactic| walk_at "go") => `(tactic| repeat (first | refine ⟨_, rfl, ?_⟩ | refine ⟨_, _, rfl, rfl, ?_⟩ | refine ⟨_, _, rfl, ?_⟩ | (refine ⟨_, _, rfl, rfl, ?_, ?_⟩; focus walk_at "num") | refine Or.inl ⟨_, rfl, ?_⟩ | refine ⟨_, _, _, _, rfl, rfl, (by assumption), (by rfl), ?_⟩ | refine ⟨_, _, _, _, _, rfl, (by assumption), (by assumption), (by assumption), (by rfl), ?_⟩ | refine ⟨rfl, ?_⟩ | (refine And.intro ?_ ?_; focus walk_at "num")))
abbrev s_normal_table : Stmt := topS 11
abbrev N_normal_table : List Str := ["rows", "good", "flags", "classes", "numbers", "met", "result", "line", "entry", "at", "state"]
abbrev P_normal_table : List Str := ["rows", "good"]
theorem sc_normal_table : FnScope N_normal_table P_normal_table (defScope s_normal_table) := ⟨rfl, rfl, rfl, by decide +kernel, rfl, by decide +kernel, by decide +kernel⟩
/-- the numbers of the classes met -/
structure Nmb (kvs : List (L2.Key × V)) (fc : Nat → Nat) (met : List Nat) : Prop where
  len : kvs.length ≤ met.length
  at_ : ∀ (j s : Nat), met[j]? = some s → valV kvs (.inl ((fc s : Nat) : Int)) = some (.int ((j : Nat) : Int))
  no : ∀ c : Nat, (∀ s ∈ met, fc s ≠ c) → valV kvs (.inl (c : Int)) = none
theorem Nmb.put {kvs : List (L2.Key × V)} {fc : Nat → Nat} {met : List Nat} (h : Nmb kvs fc met) {e : Nat} (he : ∀ s ∈ met, fc s ≠ fc e) : Nmb (putK kvs (.inl ((fc e : Nat) : Int)) (.int ((met.length : Nat) : Int))) fc (met ++ [e]) := by
  refine ⟨?_, fun j s hj => ?_, fun c hc => ?_⟩
  · have := length_putK kvs (.inl ((fc e : Nat) : Int)) (.int ((met.length : Nat) : Int))
    rw [List.length_append]
    have := h.len
    show _ ≤ met.length + 1
    omega
  · rw [valV_put]
    by_cases c : j < met.length
    · rw [List.getElem?_append_left c] at hj
      rw [if_neg (fun z => he s (List.mem_of_getElem? hj) (by injection z with z; omega))]
      exact h.at_ j s hj
    · rw [List.getElem?_append_right (by omega)] at hj
      have c2 : j - met.length = 0 := by
        have := (List.getElem?_eq_some_iff.mp hj).1
        simp at this
        omega
      rw [c2] at hj
      cases hj
      rw [if_pos rfl, show j = met.length by omega]
  · rw [valV_put, if_neg (fun z => hc e (List.mem_append_right _ List.mem_cons_self) (by injection z with z; omega))]
    exact h.no c fun s hs => hc s (List.mem_append_left _ hs)
section
variable {P : Program} {w : World} {K : PySem.W.Frag} {mg : Str → Option Value} {base : Heap} {f : Addr} {fd : FuncData}
def spNorm (K : PySem.W.Frag) : Sp := fun vs H Q _ => ∃ (q q2 q3 : Bool) (m : Nat) (a g : Addr) (zs : List (Addr × List (Option Nat))) (gs : List Nat), vs = [.ref a, .ref g] ∧ Tb q q2 K H a zs ∧ Wf (tb zs) m ∧ m ≤ 1000 ∧ zs.length ≤ 1000000 ∧ SqK q3 K H g (gsq gs) ∧ (∀ s ∈ gs, s < zs.length) ∧
  ∀ (t r u : Addr) (zr : List (Addr × List (Option Nat))) (g' : List Nat) H', Same H H' → H' t = some (.tup [.ref r, .ref u]) → Tb false false K H' r zr → H' u = some (.tup (gsq g')) → Nf (tb zs) (inG gs) m (tb zr) g' → Q (.ref t) H'
theorem ok_normal_table (F : FnP K "normal_table" s_normal_table f fd) (m_len : mg "len" = none) (m_tuple : mg "tuple" = none) (m_enumerate : mg "enumerate" = none) (c_flags_of : Cal P w K mg base 1 "flags_of" (spFlags K)) (c_live_rows : Cal P w K mg base 2 "live_rows" (spLive K)) (c_state_classes : Cal P w K mg base 2 "state_classes" (spClasses K)) : FnOk P w K mg base CX0 3 f fd P_normal_table (spNorm K) := by
  refine F.ok sc_normal_table (fun vs H Q E h => ?_) (fun cdv A outer s H vs Q E hr h => ?_)
  · obtain ⟨q, q2, q3, m, a, g, zs, gs, rfl, _⟩ := h
    rfl
  · obtain ⟨q, q2, q3, m, a, g, zs, gs, rfl, hT, wf, hm, hn, hG, hgs, qq⟩ := h
    refine ⟨_, PSs.nox (pss_cons (ps_set (i := 2) sc_normal_table.nd rfl (by first | exact .inl rfl | exact .inr rfl) (pe_cl c_flags_of hr (by decide) (by rfl) (pa_cons (pe_callB call_len_seq (by rfl) m_len PySem.boot_len (pa_cons (pv 0) pa_nil)) (pa_cons (pv 1) pa_nil))))
      (pss_cons (ps_set (i := 0) sc_normal_table.nd rfl (by first | exact .inl rfl | exact .inr rfl) (pe_cl c_live_rows hr (by decide) (by rfl) (pa_cons (pv 0) (pa_cons (pv 1) pa_nil))))
      (pss_cons (ps_if (pt_cmpR op_eq (pe_callB call_len_seq (by rfl) m_len PySem.boot_len (pa_cons (pv 0) pa_nil)) pe_int (nomark _)) (pss_one (ps_ret (pe_tup (pa_cons (pe_tup pa_nil) (pa_cons (pe_tup pa_nil) pa_nil))))) pss_nil)
      (pss_cons (ps_set (i := 3) sc_normal_table.nd rfl (by first | exact .inl rfl | exact .inr rfl) (pe_cl c_state_classes hr (by decide) (by rfl) (pa_cons (pv 0) (pa_cons (pv 1) pa_nil))))
      (pss_cons (ps_set (i := 4) sc_normal_table.nd rfl (by first | exact .inl rfl | exact .inr rfl) (pe_disp (pps_cons (pe_ix ix_list (pv 3) pe_int (fun _ _ => rfl)) pe_int pps_nil) rfl rfl (by simp) (by decide)))
      (pss_cons (ps_set (i := 5) sc_normal_table.nd rfl (by first | exact .inl rfl | exact .inr rfl) (pe_lst (pa_cons pe_int pa_nil)))
      (pss_cons (ps_set (i := 6) sc_normal_table.nd rfl (by first | exact .inl rfl | exact .inr rfl) (pe_lst pa_nil))
      (pss_cut (ps_while PassesOwn.never (pt_cmpR op_lt (pe_callB call_len_seq (by rfl) m_len PySem.boot_len (pa_cons (pv 6) pa_nil)) (pe_callB call_len_seq (by rfl) m_len PySem.boot_len (pa_cons (pv 5) pa_nil)) (nomark _))
        (pss_cons (ps_set (i := 7) sc_normal_table.nd rfl (by first | exact .inl rfl | exact .inr rfl) (pe_lst pa_nil))
      (pss_cut (ps_for PassesOwn.never rfl (pi_list (pe_ix ix_list (pv 0) (pe_ix ix_list (pv 5) (pe_callB call_len_seq (by rfl) m_len PySem.boot_len (pa_cons (pv 6) pa_nil)) (fun _ _ => rfl)) (fun _ _ => rfl))) (pg_name (i := 8) sc_normal_table.nd rfl (by first | exact .inl rfl | exact .inr rfl))
        (pss_cons (ps_if (pt_cmpR op_isN (pv 8) pe_non (nomark _)) (pss_cons (ps_expr (pe_bm PySem.F.plainAttrs_list PySem.F.slot_list_append PySem.F.type_list_append mt_append (pv 7) (pa_cons pe_non pa_nil)))
      (pss_one ps_continue)) pss_nil)
      (pss_cut (ps_if (pt_cmp (pc_dnotin (hu_of hr) (pe_ix ix_list (pv 3) (pv 8) (fun _ _ => rfl)) (pv 4)) (by rfl)) (pss_cons (ps_dput (hu_of hr) (pv 4) (pe_ix ix_list (pv 3) (pv 8) (fun _ _ => rfl)) (pe_callB call_len_seq (by rfl) m_len PySem.boot_len (pa_cons (pv 5) pa_nil)) rfl)
      (pss_one (ps_expr (pe_bm PySem.F.plainAttrs_list PySem.F.slot_list_append PySem.F.type_list_append mt_append (pv 5) (pa_cons (pv 8) pa_nil))))) pss_nil)
      (pss_one (ps_expr (pe_bm PySem.F.plainAttrs_list PySem.F.slot_list_append PySem.F.type_list_append mt_append (pv 7) (pa_cons (pe_dget (hu_of hr) (pv 4) (pe_ix ix_list (pv 3) (pv 8) (fun _ _ => rfl)) (fun _ _ => rfl)) pa_nil)))))))
      (pss_one (ps_expr (pe_bm PySem.F.plainAttrs_list PySem.F.slot_list_append PySem.F.type_list_append mt_append (pv 6) (pa_cons (pe_callTy call_tuple_of (by rfl) m_tuple (by decide +kernel) (pa_cons (pv 7) pa_nil)) pa_nil)))))))
      (pss_one (ps_ret (pe_tup (pa_cons (pe_callTy call_tuple_of (by rfl) m_tuple (by decide +kernel) (pa_cons (pv 6) pa_nil)) (pa_cons (pe_callTy call_tuple_of (by rfl) m_tuple (by decide +kernel) (pa_cons (pe_lc (own := [("at", 9), ("state", 10)]) (g := (gTup K 2 (gCons (gName 9) (gCons (gName 10) gNil)))) (by rfl) sc_normal_table.nd (pi_enumM (by rfl) m_enumerate (pa_cons (pv 5) pa_nil)) (blkOk_by (own := [("at", 9), ("state", 10)]) (N := N_normal_table) (sc := defScope s_normal_table) (by decide +kernel)) (fun _ _ _ _ _ => (pg_tup rfl (pgs_cons (pg_name (i := 9) sc_normal_table.nd rfl (by first | exact .inl rfl | exact .inr rfl)) (pgs_cons (pg_name (i := 10) sc_normal_table.nd rfl (by first | exact .inl rfl | exact .inr rfl)) pgs_nil)))) (fun _ _ _ _ _ => (pts_one (pt_val (pe_ix (ix_list_K (K := K) rfl) (pv 2) (pv 10) (fun _ _ => rfl))))) (fun _ _ _ _ _ => (pv 9))) pa_nil)) pa_nil))))))))))))), ?_⟩
    walk_at "go"
    refine ⟨a, _, rfl, sqk_or hT.sq, ?_⟩
    rw [List.length_map]
    walk_at "go"
    refine ⟨q3, zs.length, g, gs, rfl, hG, hgs, by omega, fun L0 H1 s1 nL0 eL0 => ?_⟩
    walk_at "go"
    refine ⟨q, q2, q3, m, a, g, zs, gs, rfl, hT.mono s1, wf, hm, hn, Z.Same.sqK s1 hG, hgs, fun L zk H2 s2 nL hK hk => ?_⟩
    walk_at "go"
    refine ⟨L, _, rfl, sqk_or hK.sq, ?_⟩
    rw [List.length_map]
    walk_at "go"
    have nLH := none_of s1 nL
    rcases hk with ⟨rfl, h0⟩ | ⟨n0, l0, kpt⟩
    · rw [decide_eq_true (show V.int (([] : List (Addr × List (Option Nat))).length : Int) = V.int 0 from rfl)]
      walk_at "go"
      intro r nr
      generalize eH_ : upd H2 r _ = H3
      have s3 : Same H2 H3 := by rw [← eH_]; exact same_new nr
      have er : H3 r = some (.tup []) := by rw [← eH_]; exact upd_same
      clear eH_
      walk_at "go"
      intro u nu
      generalize eH_ : upd H3 u _ = H4
      have s4 : Same H3 H4 := by rw [← eH_]; exact same_new nu
      have eu : H4 u = some (.tup []) := by rw [← eH_]; exact upd_same
      clear eH_
      walk_at "go"
      intro t nt
      generalize eH_ : upd H4 t _ = H5
      have s5 : Same H4 H5 := by rw [← eH_]; exact same_new nt
      have et : H5 t = some (.tup [.ref r, .ref u]) := by rw [← eH_]; exact upd_same
      clear eH_
      exact qq t r u [] [] H5 (s1.trans (s2.trans (s3.trans (s4.trans s5)))) et ⟨SqT.of ((s4.trans s5) _ _ er), fun z m => absurd m (by simp)⟩ (s5 _ _ eu) (.inl ⟨rfl, rfl, h0.imp (fun e => by rw [e]; rfl) id⟩)
    have lK : zk.length = zs.length := by
      have := kpt.len
      unfold tb at this
      rwa [List.length_map, List.length_map] at this
    rw [decide_eq_false (show ¬ V.int (zk.length : Int) = V.int 0 from fun z => by injection z with z; omega)]
    walk_at "go"
    have s12 := s1.trans s2
    have hG2 := Z.Same.sqK s12 hG
    refine ⟨true, true, q3, m, L, g, zk, gs, rfl, hK, kpt.wf, hm, by omega, by omega, hG2, by rw [lK]; exact hgs, ?_⟩
    obtain ⟨T, hT'⟩ : ∃ T, T = tb zk := ⟨_, rfl⟩
    have lT : T.length = zs.length := by rw [hT', kpt.len]; exact List.length_map ..
    rw [← hT'] at kpt ⊢
    refine ⟨kpt.lv, fun L3 fc H3 s3 nL3 eFc hfc => ?_⟩
    rw [lK] at hfc eFc
    obtain ⟨n, hn'⟩ : ∃ n, n = zs.length := ⟨_, rfl⟩
    rw [← hn'] at hfc eFc hn n0 lT lK hgs eL0
    have eL03 := (s2.trans s3) _ _ eL0
    have hK3 := hK.mono s3
    have sH3 := s12.trans s3
    have l0' := (kpt.liv 0).mpr l0
    intro Nu nNu
    have sN := same_new (o := .dK []) nNu
    walk_at "go"
    refine ⟨L3, _, _, _, rfl, rfl, SqL.of (sN _ _ eFc), nls_at (i := 0) n0, ?_⟩
    walk_at "go"
    refine ⟨upd_same, [(.inl ((fc 0 : Nat) : Int), .int 0)], rfl, (by show 1 ≤ 15; decide), ?_⟩
    have s35 : Same H3 (upd (upd H3 Nu (.dK [])) Nu (.dK (mergeK [] [(.inl ((fc 0 : Nat) : Int), .int 0)]))) := Z.Same.mut sN nNu
    have eNu : (upd (upd H3 Nu (.dK [])) Nu (.dK (mergeK [] [(.inl ((fc 0 : Nat) : Int), .int 0)]))) Nu = some (.dK [(.inl ((fc 0 : Nat) : Int), .int 0)]) := upd_same
    have nm0 : Nmb [(.inl ((fc 0 : Nat) : Int), .int 0)] fc [0] := by
      refine ⟨Nat.le_refl _, fun j s hj => ?_, fun c hc => ?_⟩
      · have h1 := (List.getElem?_eq_some_iff.mp hj).1
        have h1 : j < 1 := h1
        have : j = 0 := by omega
        subst this
        cases hj
        exact valV_pos rfl
      · rw [valV_neg (fun z => hc 0 List.mem_cons_self (by injection z with z; omega))]
        rfl
    generalize upd (upd H3 Nu (.dK [])) Nu (.dK (mergeK [] [(.inl ((fc 0 : Nat) : Int), .int 0)])) = H5 at s35 eNu
    clear sN
    walk_at "go"
    intro Me nMe
    have s6 := same_new (o := .lst [.int 0]) nMe
    have eMe : (upd H5 Me (.lst [.int 0])) Me = some (.lst (gsq [0])) := upd_same
    generalize upd H5 Me (.lst [.int 0]) = H6 at s6 eMe
    walk_at "go"
    intro Re nRe
    have s7 := same_new (o := .lst []) nRe
    have eRe : (upd H6 Re (.lst [])) Re = some (.lst (([] : List (Addr × List (Option Nat))).map fun z => V.ref z.1)) := upd_same
    have eNu7 := (s6.trans s7) _ _ eNu
    have eMe7 := s7 _ _ eMe
    generalize upd H6 Re (.lst []) = H7 at s7 eRe eNu7 eMe7
    have s37 := s35.trans (s6.trans s7)
    have nMe3 := none_of s35 nMe
    have nRe3 := none_of (s35.trans s6) nRe
    have MR : Me ≠ Re := fun e => by rw [e, nRe] at eMe; cases eMe
    clear s6 s7 eNu eMe s35 nMe nRe
    rw [show L2.start N_normal_table [V.ref a, V.ref g] = [some (.ref a), some (.ref g), none, none, none, none, none, none, none, none, none] from rfl]
    dsimp only [List.set]
    have bf0 : Bf T (inG gs) m [0] [] [] := Bf.start (by rw [lT]; exact n0) l0'
    refine ⟨fun σ' J => Same H3 J ∧ ∃ (met : List Nat) (zr : List (Addr × List (Option Nat))) (v7 v8 : Option V), J Me = some (.lst (gsq met)) ∧ J Re = some (.lst (zr.map fun z => V.ref z.1)) ∧ (∀ z ∈ zr, J z.1 = some (.tup (z.2.map eV))) ∧ Bf T (inG gs) m met (tb zr) [] ∧ zr.length = met.length ∧ σ' = [some (.ref L), some (.ref g), some (.ref L0), some (.ref L3), some (.ref Nu), some (.ref Me), some (.ref Re), v7, v8, none, none], ?_, ?_⟩
    · refine ⟨fun μ σ J => Same H3 J ∧ ∃ (met : List Nat) (zr : List (Addr × List (Option Nat))) (kvs : List (L2.Key × V)) (v7 v8 : Option V), J Me = some (.lst (gsq met)) ∧ J Re = some (.lst (zr.map fun z => V.ref z.1)) ∧ J Nu = some (.dK kvs) ∧ Nmb kvs fc met ∧ (∀ z ∈ zr, J z.1 = some (.tup (z.2.map eV))) ∧ Bf T (inG gs) m met (tb zr) [] ∧ μ = n - zr.length ∧ σ = [some (.ref L), some (.ref g), some (.ref L0), some (.ref L3), some (.ref Nu), some (.ref Me), some (.ref Re), v7, v8, none, none], ⟨_, s37, [0], [], _, none, none, eMe7, eRe, eNu7, nm0, fun z m => absurd m (by simp), bf0, rfl, rfl⟩, ?_⟩
      rintro μ σ J ⟨s4, met, zr, kvs, v7, v8, eM, eR, eN, nm, hz, bf, rfl, rfl⟩
      have lzr : (tb zr).length = zr.length := List.length_map ..
      have bfl := bf.le
      have bfn := bf.nodup
      rw [lzr] at bfl
      rw [lT] at bfn
      walk_at "go"
      refine ⟨Re, _, rfl, .inl (SqL.of eR), ?_⟩
      rw [List.length_map]
      walk_at "go"
      refine ⟨Me, _, rfl, .inl (SqL.of eM), ?_⟩
      rw [show (gsq met).length = met.length from List.length_map ..]
      walk_at "go"
      refine ite2 (fun e => ?_) (fun e => ?_)
      · have lt : zr.length < met.length := by have := of_decide_eq_true e; omega
        refine ⟨fun σ' J' => Same H3 J' ∧ ∃ (met : List Nat) (zr' : List (Addr × List (Option Nat))) (kvs : List (L2.Key × V)) (v7 v8 : Option V), J' Me = some (.lst (gsq met)) ∧ J' Re = some (.lst (zr'.map fun z => V.ref z.1)) ∧ J' Nu = some (.dK kvs) ∧ Nmb kvs fc met ∧ (∀ z ∈ zr', J' z.1 = some (.tup (z.2.map eV))) ∧ Bf T (inG gs) m met (tb zr') [] ∧ zr'.length = zr.length + 1 ∧ σ' = [some (.ref L), some (.ref g), some (.ref L0), some (.ref L3), some (.ref Nu), some (.ref Me), some (.ref Re), v7, v8, none, none], ?_, ?_⟩
        · rintro σ' J' ⟨s5, met', zr', kvs', v7, v8, e1, e2, e3, e4, e5, e6, e7, rfl⟩
          exact ⟨_, by omega, s5, met', zr', kvs', v7, v8, e1, e2, e3, e4, e5, e6, rfl, rfl⟩
        obtain ⟨s0, hs0⟩ : ∃ s0, met[zr.length]? = some s0 := ⟨_, List.getElem?_eq_getElem lt⟩
        have s0n := (bf.live s0 (List.mem_of_getElem? hs0)).1
        rw [lT] at s0n
        obtain ⟨z0, hz0⟩ : ∃ z0, zk[s0]? = some z0 := ⟨_, List.getElem?_eq_getElem (by omega)⟩
        have mz0 : z0.2 ∈ T := by rw [hT']; exact List.mem_map.mpr ⟨z0, List.mem_of_getElem? hz0, rfl⟩
        have lz0 := kpt.wf.row _ mz0
        have rx : ∀ i, i < m → z0.2.getD i none = nx T s0 i := fun i hi => by rw [hT']; exact row_nx hz0 (by omega)
        walk_at "go"
        intro Li nLi
        have s5 := same_new (o := .lst []) nLi
        have eLi : (upd J Li (.lst [])) Li = some (.lst (([] : List (Option Nat)).map eV)) := upd_same
        have LM : Li ≠ Me := ne_of_none' (s4 := eM) nLi
        have LR : Li ≠ Re := ne_of_none' (s4 := eR) nLi
        have LN : Li ≠ Nu := ne_of_none' (s4 := eN) nLi
        have MN : Me ≠ Nu := fun e => by rw [e, eN] at eM; cases eM
        have RN : Re ≠ Nu := fun e => by rw [e, eN] at eR; cases eR
        have nLi3 := none_of s4 nLi
        have hLz : ∀ z ∈ zr, z.1 ≠ Li := fun z hm e => by have := hz z hm; rw [e, nLi] at this; cases this
        have hMz : ∀ z ∈ zr, z.1 ≠ Me := fun z hm e => by have := hz z hm; rw [e, eM] at this; cases this
        have hRz : ∀ z ∈ zr, z.1 ≠ Re := fun z hm e => by have := hz z hm; rw [e, eR] at this; cases this
        have hNz : ∀ z ∈ zr, z.1 ≠ Nu := fun z hm e => by have := hz z hm; rw [e, eN] at this; cases this
        refine ⟨fun σ' J' => Same H3 J' ∧ ∃ (met : List Nat) (kvs : List (L2.Key × V)) (Ln : List (Option Nat)) (v8 : Option V), J' Me = some (.lst (gsq met)) ∧ J' Re = some (.lst (zr.map fun z => V.ref z.1)) ∧ J' Nu = some (.dK kvs) ∧ Nmb kvs fc met ∧ (∀ z ∈ zr, J' z.1 = some (.tup (z.2.map eV))) ∧ J' Li = some (.lst (Ln.map eV)) ∧ Ln.length = m ∧ Bf T (inG gs) m met (tb zr) Ln ∧ zr.length < met.length ∧ σ' = [some (.ref L), some (.ref g), some (.ref L0), some (.ref L3), some (.ref Nu), some (.ref Me), some (.ref Re), some (.ref Li), v8, none, none], ?_, ?_⟩
        · walk_at "go"
          refine ⟨Re, _, rfl, .inl (SqL.of (s5 _ _ eR)), ?_⟩
          rw [List.length_map]
          walk_at "go"
          refine ⟨Me, _, _, _, rfl, rfl, SqL.of (s5 _ _ eM), atI_nat (v := .int ((s0 : Nat) : Int)) (by unfold gsq; rw [List.getElem?_map, hs0]; rfl), ?_⟩
          walk_at "go"
          have hK5 := hK3.mono (s4.trans s5)
          refine ⟨L, _, _, _, rfl, rfl, hK5.sq, atI_nat (v := .ref z0.1) (by rw [List.getElem?_map, hz0]; rfl), ?_⟩
          walk_at "go"
          refine ⟨⟨_, hK5.at_ z0 (List.mem_of_getElem? hz0)⟩, ?_⟩
          refine for_gen (n := m) (fun k σ J => Same H3 J ∧ ∃ (met : List Nat) (kvs : List (L2.Key × V)) (Ln : List (Option Nat)) (v8 : Option V), J Me = some (.lst (gsq met)) ∧ J Re = some (.lst (zr.map fun z => V.ref z.1)) ∧ J Nu = some (.dK kvs) ∧ Nmb kvs fc met ∧ (∀ z ∈ zr, J z.1 = some (.tup (z.2.map eV))) ∧ J Li = some (.lst (Ln.map eV)) ∧ Ln.length = k ∧ Bf T (inG gs) m met (tb zr) Ln ∧ met[zr.length]? = some s0 ∧ σ = [some (.ref L), some (.ref g), some (.ref L0), some (.ref L3), some (.ref Nu), some (.ref Me), some (.ref Re), some (.ref Li), v8, none, none]) ⟨s4.trans s5, met, kvs, [], v8, s5 _ _ eM, s5 _ _ eR, s5 _ _ eN, nm, fun z hm => s5 _ _ (hz z hm), eLi, rfl, bf, hs0, rfl⟩ ?_ ?_ ?_ ?_
          · rintro k σ J hk ⟨s6, _⟩
            exact ⟨_, eV (z0.2.getD k none), (hK3.mono s6).at_ z0 (List.mem_of_getElem? hz0), row_at (by omega)⟩
          · rintro σ J ⟨s6, _⟩
            exact ⟨_, (hK3.mono s6).at_ z0 (List.mem_of_getElem? hz0), by rw [List.length_map]; omega⟩
          · rintro k σ J6 x J7 hk ⟨s6, met, kvs, Ln, v8, eM, eR, eN, nm, hz, eLi, lL, bf, hs0, rfl⟩ ⟨rfl, e⟩
            have hx := e _ ((hK3.mono s6).at_ z0 (List.mem_of_getElem? hz0))
            rw [row_at (by omega), rx k hk] at hx
            cases hx
            have hs0' : met[(tb zr).length]? = some s0 := by rw [show (tb zr).length = zr.length from List.length_map ..]; exact hs0
            have bfn := bf.nodup
            rw [lT] at bfn
            cases eo : nx T s0 k with
            | none =>
              walk_at "go"
              refine ⟨.inl ⟨rfl, _, SqL.of eLi⟩, ?_⟩
              walk_at "go"
              refine ⟨Li, _, _, rfl, rfl, eLi, by rw [List.length_map]; exact szC (by omega), ?_⟩
              have bf2 := bf.put (more := []) (o := none) hs0' (by omega) (.inl rfl) (.inl ⟨rfl, by rw [lL]; exact eo⟩)
              rw [List.append_nil] at bf2
              exact ⟨Z.Same.mut s6 nLi3, met, kvs, Ln ++ [none], _, by rw [upd_ne LM.symm]; exact eM, by rw [upd_ne LR.symm]; exact eR, by rw [upd_ne LN.symm]; exact eN, nm, fun z hm => by rw [upd_ne (hLz z hm)]; exact hz z hm, by rw [upd_same, List.map_append]; rfl, by rw [List.length_append, lL]; rfl, bf2, hs0, rfl⟩
            | some e =>
              dsimp only [eV]
              have he := (nx_lt kpt.wf eo).1
              rw [lT] at he
              have lvE := kpt.lv _ _ _ eo
              walk_at "go"
              refine ite2 (fun h => absurd (of_decide_eq_true h) (fun z => by cases z)) (fun _ => ?_)
              refine ⟨fun σ' J' => Same H3 J' ∧ ∃ (more : List Nat) (kvs2 : List (L2.Key × V)) (j t : Nat), J' Me = some (.lst (gsq (met ++ more))) ∧ J' Re = some (.lst (zr.map fun z => V.ref z.1)) ∧ J' Nu = some (.dK kvs2) ∧ Nmb kvs2 fc (met ++ more) ∧ (∀ z ∈ zr, J' z.1 = some (.tup (z.2.map eV))) ∧ J' Li = some (.lst (Ln.map eV)) ∧ (met ++ more)[j]? = some t ∧ t < n ∧ fc t = fc e ∧ (more = [] ∨ ∃ e', more = [e'] ∧ some j = some met.length ∧ e' < T.length ∧ Liv T (inG gs) e' ∧ ∀ t ∈ met, ¬ Leq T (inG gs) e' t) ∧ σ' = [some (.ref L), some (.ref g), some (.ref L0), some (.ref L3), some (.ref Nu), some (.ref Me), some (.ref Re), some (.ref Li), some (.int (e : Int)), none, none], ?_, ?_⟩
              · walk_at "go"
                refine ⟨L3, _, _, _, rfl, rfl, SqL.of (s6 _ _ eFc), nls_at he, ?_⟩
                walk_at "go"
                refine ⟨Nu, _, rfl, DGet.k (k := .inl ((fc e : Nat) : Int)) eN, ?_⟩
                by_cases hx : ∃ j t : Nat, met[j]? = some t ∧ fc t = fc e
                · obtain ⟨j, t, hj, ht⟩ := hx
                  have hv := nm.at_ j t hj
                  rw [ht] at hv
                  rw [hv]
                  walk_at "go"
                  have tn := (bf.live t (List.mem_of_getElem? hj)).1
                  rw [lT] at tn
                  exact ⟨[], kvs, j, t, by rw [List.append_nil]; exact eM, eR, eN, by rw [List.append_nil]; exact nm, hz, eLi, by rw [List.append_nil]; exact hj, tn, ht, .inl rfl, rfl⟩
                · have ne : ∀ t ∈ met, fc t ≠ fc e := fun t ht q => by
                    obtain ⟨j, hj, rfl⟩ := List.getElem_of_mem ht
                    exact hx ⟨j, _, List.getElem?_eq_getElem hj, q⟩
                  rw [nm.no (fc e) ne]
                  walk_at "go"
                  refine ⟨Me, _, rfl, .inl (SqL.of eM), ?_⟩
                  rw [show (gsq met).length = met.length from List.length_map ..]
                  walk_at "go"
                  refine ⟨L3, _, _, _, rfl, rfl, SqL.of (s6 _ _ eFc), nls_at he, ?_⟩
                  walk_at "go"
                  have nml := nm.len
                  refine ⟨Nu, _, rfl, DPut.k (k := .inl ((fc e : Nat) : Int)) eN (szC (by omega)), ?_⟩
                  have s7 : Same H3 (upd J7 Nu (.dK (putK kvs (.inl ((fc e : Nat) : Int)) (.int ((met.length : Nat) : Int))))) := Z.Same.mut s6 nNu
                  have eM7 : (upd J7 Nu (.dK (putK kvs (.inl ((fc e : Nat) : Int)) (.int ((met.length : Nat) : Int))))) Me = some (.lst (gsq met)) := by rw [upd_ne MN]; exact eM
                  have eR7 : (upd J7 Nu (.dK (putK kvs (.inl ((fc e : Nat) : Int)) (.int ((met.length : Nat) : Int))))) Re = some (.lst (zr.map fun z => V.ref z.1)) := by rw [upd_ne RN]; exact eR
                  have eN7 : (upd J7 Nu (.dK (putK kvs (.inl ((fc e : Nat) : Int)) (.int ((met.length : Nat) : Int))))) Nu = some (.dK (putK kvs (.inl ((fc e : Nat) : Int)) (.int ((met.length : Nat) : Int)))) := upd_same
                  have eL7 : (upd J7 Nu (.dK (putK kvs (.inl ((fc e : Nat) : Int)) (.int ((met.length : Nat) : Int))))) Li = some (.lst (Ln.map eV)) := by rw [upd_ne LN]; exact eLi
                  have hz7 : ∀ z ∈ zr, (upd J7 Nu (.dK (putK kvs (.inl ((fc e : Nat) : Int)) (.int ((met.length : Nat) : Int))))) z.1 = some (.tup (z.2.map eV)) := fun z hm => by rw [upd_ne (hNz z hm)]; exact hz z hm
                  generalize upd J7 Nu (.dK (putK kvs (.inl ((fc e : Nat) : Int)) (.int ((met.length : Nat) : Int)))) = J9 at s7 eM7 eR7 eN7 eL7 hz7
                  walk_at "go"
                  refine ⟨.inl ⟨rfl, _, SqL.of eM7⟩, ?_⟩
                  walk_at "go"
                  refine ⟨Me, _, _, rfl, rfl, eM7, by rw [show (gsq met).length = met.length from List.length_map ..]; exact szC (by omega), ?_⟩
                  refine ⟨Z.Same.mut s7 nMe3, [e], _, met.length, e, by rw [upd_same]; unfold gsq; rw [List.map_append]; rfl, by rw [upd_ne MR.symm]; exact eR7, by rw [upd_ne MN.symm]; exact eN7, nm.put ne, fun z hm => by rw [upd_ne (hMz z hm)]; exact hz7 z hm, by rw [upd_ne LM]; exact eL7, by rw [List.getElem?_append_right (Nat.le_refl _), Nat.sub_self]; rfl, he, rfl, .inr ⟨e, rfl, rfl, by rw [lT]; exact he, lvE, fun t ht l => ?_⟩, rfl⟩
                  have tn := (bf.live t ht).1
                  rw [lT] at tn
                  exact ne t ht ((hfc e t he tn).mpr l).symm
              rintro σ' J7 ⟨s7, more, kvs2, j, t, eM7, eR7, eN7, nm7, hz7, eL7, hj, tn, ht, hmo, rfl⟩
              walk_at "go"
              refine ⟨.inl ⟨rfl, _, SqL.of eL7⟩, ?_⟩
              walk_at "go"
              refine ⟨L3, _, _, _, rfl, rfl, SqL.of (s7 _ _ eFc), nls_at he, ?_⟩
              walk_at "go"
              have hv := nm7.at_ j t hj
              rw [ht] at hv
              refine ⟨Nu, _, rfl, (by have := DGet.k (k := .inl ((fc e : Nat) : Int)) eN7; rw [hv] at this; exact this), ?_⟩
              walk_at "go"
              refine ⟨Li, _, _, rfl, rfl, eL7, by rw [List.length_map]; exact szC (by omega), ?_⟩
              have bf2 := bf.put (more := more) (o := some j) hs0' (by omega) hmo (.inr ⟨j, e, t, rfl, by rw [lL]; exact eo, hj, (hfc e t he tn).mp ht.symm⟩)
              exact ⟨Z.Same.mut s7 nLi3, met ++ more, kvs2, Ln ++ [some j], _, by rw [upd_ne LM.symm]; exact eM7, by rw [upd_ne LR.symm]; exact eR7, by rw [upd_ne LN.symm]; exact eN7, nm7, fun z hm => by rw [upd_ne (hLz z hm)]; exact hz7 z hm, by rw [upd_same, List.map_append]; rfl, by rw [List.length_append, lL]; rfl, bf2, by rw [List.getElem?_append_left (List.getElem?_eq_some_iff.mp hs0).1]; exact hs0, rfl⟩
          · rintro σ J ⟨s6, met, kvs, Ln, v8, eM, eR, eN, nm, hz, eLi, lL, bf, hs0, rfl⟩
            exact ⟨s6, met, kvs, Ln, v8, eM, eR, eN, nm, hz, eLi, lL, bf, (List.getElem?_eq_some_iff.mp hs0).1, rfl⟩
        rintro σ' J6 ⟨s6, met, kvs, Ln, v8, eM, eR, eN, nm, hz, eLi, lL, bf, lt, rfl⟩
        walk_at "go"
        refine ⟨.inl ⟨rfl, _, SqL.of eR⟩, ?_⟩
        walk_at "go"
        refine ⟨Li, _, rfl, .inl ⟨SqL.of eLi, fun t nt => ?_⟩⟩
        have st_ := same_new (o := .tup (Ln.map eV)) nt
        have et : (upd J6 t (.tup (Ln.map eV))) t = some (.tup (Ln.map eV)) := upd_same
        have tR : t ≠ Re := ne_of_none' (s4 := eR) nt
        generalize upd J6 t (.tup (Ln.map eV)) = J7 at st_ et
        walk_at "go"
        refine ⟨Re, _, _, rfl, rfl, st_ _ _ eR, by rw [List.length_map]; exact szC (by omega), ?_⟩
        have bf2 := bf.close (by rw [show (tb zr).length = zr.length from List.length_map ..]; exact lt) lL
        refine ⟨Z.Same.mut (s6.trans st_) nRe3, met, zr ++ [(t, Ln)], kvs, _, _, by rw [upd_ne MR]; exact st_ _ _ eM, by rw [upd_same, List.map_append]; rfl, by rw [upd_ne RN.symm]; exact st_ _ _ eN, nm, fun z hm => ?_, by unfold tb at bf2 ⊢; rw [List.map_append]; exact bf2, by rw [List.length_append]; rfl, rfl⟩
        rcases List.mem_append.mp hm with hm | hm
        · rw [upd_ne (hRz z hm)]
          exact st_ _ _ (hz z hm)
        · rw [List.mem_singleton.mp hm, upd_ne tR]
          exact et
      · have lt : ¬ zr.length < met.length := fun z => e (decide_eq_true (by omega))
        exact ⟨s4, met, zr, _, _, eM, eR, hz, bf, by omega, rfl⟩
    rintro σ' J ⟨s4, met, zr, v7, v8, eM, eR, hz, bf, lz, rfl⟩
    have bfn := bf.nodup
    rw [lT] at bfn
    walk_at "go"
    refine ⟨Re, _, rfl, .inl ⟨SqL.of eR, fun r nr => ?_⟩⟩
    have sr := same_new (o := .tup (zr.map fun z => V.ref z.1)) nr
    have er : (upd J r (.tup (zr.map fun z => V.ref z.1))) r = some (.tup (zr.map fun z => V.ref z.1)) := upd_same
    generalize upd J r (.tup (zr.map fun z => V.ref z.1)) = J1 at sr er
    have eM1 := sr _ _ eM
    have eL01 := (s4.trans sr) _ _ eL03
    walk_at "go"
    refine ⟨true, _, _, rfl, SqL.of eM1, ?_⟩
    intro D nD
    refine lc_gen (n := met.length) (fun k J => Same J1 J ∧ J D = some (.lst (gsq ((List.range k).filter fun i => decide (met.getD i 0 ∈ gs))))) ⟨same_new nD, upd_same⟩ ?_ ?_ ?_ ?_
    · rintro k J hk ⟨s5, _⟩
      exact ⟨gsq met, .int ((met[k] : Nat) : Int), SqL.of (s5 _ _ eM1), by unfold gsq; rw [List.getElem?_map, List.getElem?_eq_getElem hk]; rfl⟩
    · rintro J ⟨s5, _⟩
      exact ⟨gsq met, SqL.of (s5 _ _ eM1), List.length_map ..⟩
    · rintro k J x J' hk ⟨s5, eD⟩ ⟨Tt, z, rfl, nT, rfl, e⟩
      have hx := e _ (SqL.of (s5 _ _ eM1))
      unfold gsq at hx
      rw [List.getElem?_map, List.getElem?_eq_getElem hk] at hx
      cases hx
      have ln : met[k] < n := by have := (bf.live _ (List.getElem_mem hk)).1; omega
      have sT := same_new (o := .tup [.int ((k : Nat) : Int), .int ((met[k] : Nat) : Int)]) nT
      have eg : met.getD k 0 = met[k] := by rw [List.getD_eq_getElem?_getD, List.getElem?_eq_getElem hk]; rfl
      refine ⟨Tt, _, rfl, SqT.of upd_same, rfl, _, _, rfl, _, _, rfl, rfl, ?_⟩
      walk_at "go"
      refine ⟨L0, _, _, _, rfl, rfl, SqL.of ((s5.trans sT) _ _ eL01), atI_nat (v := .bl (decide (met[k] ∈ gs))) (by rw [List.getElem?_map, List.getElem?_range ln]; rfl), ?_⟩
      have fs : (List.range (k + 1)).filter (fun i => decide (met.getD i 0 ∈ gs)) = (List.range k).filter (fun i => decide (met.getD i 0 ∈ gs)) ++ if met[k] ∈ gs then [k] else [] := by
        rw [List.range_succ, List.filter_append]
        congr 1
        by_cases c : met[k] ∈ gs
        · rw [if_pos c]
          simp only [List.filter_cons, List.filter_nil, eg, c, decide_true, if_true]
        · rw [if_neg c]
          simp only [List.filter_cons, List.filter_nil, eg, c, decide_false, if_false, Bool.false_eq_true]
      have lD : (gsq ((List.range k).filter fun i => decide (met.getD i 0 ∈ gs))).length ≤ 1000000 := by
        have h1 := List.length_filter_le (fun i => decide (met.getD i 0 ∈ gs)) (List.range k)
        rw [List.length_range] at h1
        rw [show (gsq ((List.range k).filter fun i => decide (met.getD i 0 ∈ gs))).length = _ from List.length_map ..]
        omega
      by_cases c : met[k] ∈ gs
      · rw [decide_eq_true c]
        walk_at "go"
        refine ⟨_, sT _ _ eD, szC (by omega), Z.Same.mut (s5.trans sT) nD, ?_⟩
        rw [upd_same, fs, if_pos c]
        unfold gsq
        rw [List.map_append]
        rfl
      · rw [decide_eq_false c]
        walk_at "go"
        refine ⟨s5.trans sT, ?_⟩
        rw [fs, if_neg c, List.append_nil]
        exact sT _ _ eD
    rintro J ⟨s5, eD⟩
    walk_at "go"
    refine ⟨D, _, rfl, .inl ⟨SqL.of eD, fun u nu => ?_⟩⟩
    have su := same_new (o := .tup (gsq ((List.range met.length).filter fun i => decide (met.getD i 0 ∈ gs)))) nu
    have eu : (upd J u (.tup (gsq ((List.range met.length).filter fun i => decide (met.getD i 0 ∈ gs))))) u = some (.tup (gsq ((List.range met.length).filter fun i => decide (met.getD i 0 ∈ gs)))) := upd_same
    generalize upd J u (.tup (gsq ((List.range met.length).filter fun i => decide (met.getD i 0 ∈ gs)))) = J8 at su eu
    walk_at "go"
    intro t nt
    have st_ := same_new (o := .tup [.ref r, .ref u]) nt
    have s18 := s5.trans (su.trans st_)
    have nf : NfOf T (inG gs) m (tb zr) ((List.range met.length).filter fun i => decide (met.getD i 0 ∈ gs)) met := bf.nf kpt.wf (by rw [show (tb zr).length = zr.length from List.length_map ..]; exact lz) (fun i => by
      rw [List.mem_filter, List.mem_range, decide_eq_true_iff]
      constructor
      · rintro ⟨hi, hg⟩
        refine ⟨met[i], List.getElem?_eq_getElem hi, ?_⟩
        rw [List.getD_eq_getElem?_getD, List.getElem?_eq_getElem hi] at hg
        exact hg
      · rintro ⟨s, hs, hg⟩
        refine ⟨(List.getElem?_eq_some_iff.mp hs).1, ?_⟩
        rw [List.getD_eq_getElem?_getD, hs]
        exact hg) (List.Pairwise.filter _ List.pairwise_lt_range)
    exact qq t r u zr _ _ (sH3.trans (s4.trans (sr.trans s18))) upd_same ⟨SqT.of (s18 _ _ er), fun z hm => SqT.of ((sr.trans s18) _ _ (hz z hm))⟩ (st_ _ _ eu) (.inr ⟨met, kpt.nf nf⟩)
end
end Z
set_option pp.maxSteps 700
set_option Elab.async false
set_option linter.all false
set_option maxRecDepth 100000
set_option maxHeartbeats 4000000
open SX (S S_inj S_len S_cat)
namespace Z
open Mc
open PySem PySem.Spec PyProof.Rows L2
open C8 (pss_cut tCut)
local macro_rules | `(tactic| walk_at "num") => `(tactic| first | rfl | omega | decide | exact Nat.le_of_lt (small1000 (by simp)) | exact ⟨by omega, by omega⟩ | exact ⟨by omega, by omega, by omega⟩ | exact ⟨by decide, by decide, by decide⟩ | exact Or.inl ⟨by omega, by omega⟩ | exact Or.inr ⟨by omega, by omega⟩)
local macro_rules | `(tactic| walk_at "go") => `(tactic| repeat (first | refine ⟨_, rfl, ?_⟩ | refine ⟨_, _, rfl, rfl, ?_⟩ | refine ⟨_, _, rfl, ?_⟩ | (refine ⟨_, _, rfl, rfl, ?_, ?_⟩; focus walk_at "num") | refine Or.inl ⟨_, rfl, ?_⟩ | refine ⟨_, _, _, _, rfl, rfl, (by assumption), (by rfl), ?_⟩ | refine ⟨_, _, _, _, _, rfl, (by assumption), (by assumption), (by assumption), (by rfl), ?_⟩ | refine ⟨rfl, ?_⟩ | (refine And.intro ?_ ?_; focus walk_at "num")))
abbrev s_Machine___init__ : Stmt := inClass (topS 23) 0
abbrev N_Machine___init__ : List Str := ["self", "letters", "rows", "good", "ends", "state"]
abbrev P_Machine___init__ : List Str := ["self", "letters", "rows", "good"]
theorem sc_Machine___init__ : FnScope N_Machine___init__ P_Machine___init__ (defScope s_Machine___init__) := ⟨rfl, rfl, rfl, by decide +kernel, rfl, by decide +kernel, by decide +kernel⟩
abbrev s_Machine_after : Stmt := inClass (topS 23) 9
abbrev N_Machine_after : List Str := ["self", "text", "state", "letter"]
abbrev P_Machine_after : List Str := ["self", "text"]
theorem sc_Machine_after : FnScope N_Machine_after P_Machine_after (defScope s_Machine_after) := ⟨rfl, rfl, rfl, by decide +kernel, rfl, by decide +kernel, by decide +kernel⟩
abbrev s_Machine___contains__ : Stmt := inClass (topS 23) 7
abbrev N_Machine___contains__ : List Str := ["self", "text", "state"]
abbrev P_Machine___contains__ : List Str := ["self", "text"]
theorem sc_Machine___contains__ : FnScope N_Machine___contains__ P_Machine___contains__ (defScope s_Machine___contains__) := ⟨rfl, rfl, rfl, by decide +kernel, rfl, by decide +kernel, by decide +kernel⟩
abbrev s_Machine___eq__ : Stmt := inClass (topS 23) 8
abbrev N_Machine___eq__ : List Str := ["self", "other"]
abbrev P_Machine___eq__ : List Str := ["self", "other"]
theorem sc_Machine___eq__ : FnScope N_Machine___eq__ P_Machine___eq__ (defScope s_Machine___eq__) := ⟨rfl, rfl, rfl, by decide +kernel, rfl, by decide +kernel, by decide +kernel⟩
abbrev FnM (K : PySem.W.Frag) (x q : Str) (st : Stmt) (f : Addr) (fd : FuncData) : Prop := FunD K x q (defArgs st) (defBody st) (defScope st) [] [] f fd
abbrev FnMq (K : PySem.W.Frag) (x q : Str) (st : Stmt) (dvs : List V) (f : Addr) (fd : FuncData) : Prop := FunD K x q (defArgs st) (defBody st) (defScope st) dvs [] f fd
def mF (l : List Nat) (r u : Addr) : List (Str × V) := [("letters", .str (S l)), ("rows", .ref r), ("good", .ref u)]
structure McAt (C : Addr) (K : PySem.W.Frag) (H : Hp) (n : Addr) (l : List Nat) (R : Tbl) (g : List Nat) : Prop where
  ex : ∃ (dx r u : Addr) (zr : List (Addr × List (Option Nat))), H n = some (.ins C dx (mF l r u)) ∧ Tb false false K H r zr ∧ H u = some (.tup (gsq g)) ∧ R = tb zr
theorem McAt.mono {C : Addr} {K : PySem.W.Frag} {H H' : Hp} {n : Addr} {l : List Nat} {R : Tbl} {g : List Nat} (s : Same H H') (h : McAt C K H n l R g) : McAt C K H' n l R g := by
  obtain ⟨dx, r, u, zr, h1, h2, h3, h4⟩ := h.ex
  exact ⟨dx, r, u, zr, s _ _ h1, h2.mono s, s _ _ h3, h4⟩
theorem rgV_nat (n : Nat) : rgV 0 (n : Int) = gsq (List.range n) := by
  unfold rgV gsq
  simp
theorem SB.sqK {q : Bool} {K : PySem.W.Frag} {p a C dx : Addr} {fs : List (Str × V)} {H H' : Hp} {xs : List V} (s : SB p H H') (hp : H p = some (.ins C dx fs)) (h : SqK q K H a xs) : SqK q K H' a xs := by
  cases q
  · rcases h with (h | ⟨o, h⟩) | h
    · exact .inl (.inl (s _ _ (fun e => by rw [e, hp] at h; cases h) h))
    · exact .inl (.inr ⟨o, s _ _ (fun e => by rw [e, hp] at h; cases h) h⟩)
    · exact .inr h
  · rcases h with (h | ⟨o, h⟩) | h
    · exact .inl (.inl (s _ _ (fun e => by rw [e, hp] at h; cases h) h))
    · exact .inl (.inr ⟨o, s _ _ (fun e => by rw [e, hp] at h; cases h) h⟩)
    · exact .inr h
theorem Tb.sb {q q2 : Bool} {K : PySem.W.Frag} {p C dx : Addr} {fs : List (Str × V)} {H H' : Hp} {a : Addr} {zs : List (Addr × List (Option Nat))} (s : SB p H H') (hp : H p = some (.ins C dx fs)) (h : Tb q q2 K H a zs) : Tb q q2 K H' a zs := ⟨SB.sqK s hp h.sq, fun z m => SB.sqK s hp (h.at_ z m)⟩
section
variable {P : Program} {w : World} {K : PySem.W.Frag} {mg : Str → Option Value} {base : Heap} {f C : Addr} {fd : FuncData}
def GoodV (K : PySem.W.Frag) (H : Hp) (n : Nat) (gv : V) (gs : List Nat) : Prop := ((gv = .non ∧ gs = List.range n) ∨ ∃ (q3 : Bool) (g : Addr), gv = .ref g ∧ SqK q3 K H g (gsq gs)) ∧ ∀ s ∈ gs, s < n
def spMIni (C : Addr) (K : PySem.W.Frag) : Sp := fun vs H Q _ => ∃ (q q2 : Bool) (n dx a : Addr) (l : List Nat) (gv : V) (zs : List (Addr × List (Option Nat))) (gs : List Nat), vs = [.ref n, .str (S l), .ref a, gv] ∧ H n = some (.ins C dx []) ∧ l.Nodup ∧ l ≠ [] ∧ l.length ≤ 1000 ∧ Tb q q2 K H a zs ∧ Wf (tb zs) l.length ∧ zs.length ≤ 1000000 ∧ GoodV K H zs.length gv gs ∧
  ∀ (r u : Addr) (zr : List (Addr × List (Option Nat))) (g' : List Nat) H', SB n H H' → H' n = some (.ins C dx (mF l r u)) → Tb false false K H' r zr → H' u = some (.tup (gsq g')) → Nf (tb zs) (inG gs) l.length (tb zr) g' → Q .non H'
theorem ok_minit (F : FnMq K "__init__" "Machine.__init__" s_Machine___init__ [.non] f fd) (m_len : mg "len" = none) (m_list : mg "list" = none) (m_range : mg "range" = none) (cls : Cls K C) (n_letters : NoAttr K C "letters") (n_rows : NoAttr K C "rows") (n_good : NoAttr K C "good") (c_check_letters : Cal P w K mg base 1 "check_letters" spCkL) (c_check_rows : Cal P w K mg base 1 "check_rows" (spCkR K)) (c_normal_table : Cal P w K mg base 3 "normal_table" (spNorm K)) : FnOk P w K mg base CX0 4 f fd P_Machine___init__ (spMIni C K) := by
  refine F.ok sc_Machine___init__ (fun vs H Q E h => ?_) (fun cdv A outer s H vs Q E hr h => ?_)
  · obtain ⟨q, q2, n, dx, a, l, gv, zs, gs, rfl, _⟩ := h
    rfl
  · obtain ⟨q, q2, n, dx, a, l, gv, zs, gs, rfl, hn, nd, ne, ll, hT, wf, lz, hg, qq⟩ := h
    refine ⟨_, PSs.nox (pss_cons (ps_expr (pe_cl c_check_letters hr (by decide) (by rfl) (pa_cons (pv 1) pa_nil)))
      (pss_cons (ps_expr (pe_cl c_check_rows hr (by decide) (by rfl) (pa_cons (pe_callB call_len_str (by rfl) m_len PySem.boot_len (pa_cons (pv 1) pa_nil)) (pa_cons (pv 2) pa_nil))))
      (pss_cut (ps_set (i := 4) sc_Machine___init__.nd rfl (by first | exact .inl rfl | exact .inr rfl) (pe_ifExp (pt_cmpR op_isN (pv 3) pe_non (nomark _)) (pe_listRg rfl (by rfl) m_list (prg_1 (by rfl) m_range (pe_callB call_len_seq (by rfl) m_len PySem.boot_len (pa_cons (pv 2) pa_nil)))) (pv 3)))
      (pss_cons (ps_for PassesOwn.never rfl (pi_sq (pv 4)) (pg_name (i := 5) sc_Machine___init__.nd rfl (by first | exact .inl rfl | exact .inr rfl))
        (pss_one (ps_if (pt_not (pt_chain op_le op_lt pe_int (pv 5) (pe_callB call_len_seq (by rfl) m_len PySem.boot_len (pa_cons (pv 2) pa_nil)))) (pss_one ps_never) pss_nil)))
      (pss_cons (ps_fld (pv 0) (pv 1) rfl)
      (pss_one (ps_asg (pe_cl c_normal_table hr (by decide) (by rfl) (pa_cons (pv 2) (pa_cons (pv 4) pa_nil))) (pg_tup rfl (pgs_cons (pg_fld (pv 0)) (pgs_cons (pg_fld (pv 0)) pgs_nil)))))))))), ?_⟩
    walk_at "go"
    intro H1 s1
    walk_at "go"
    refine ⟨by rw [S_len]; exact Nat.le_trans ll (by decide), ?_⟩
    rw [S_len]
    walk_at "go"
    refine ⟨q, q2, l.length, a, zs, rfl, hT.mono s1, wf, fun H2 s2 => ?_⟩
    have s12 := s1.trans s2
    walk_at "go"
    refine ⟨fun σ' J => Same H J ∧ ∃ (q3 : Bool) (e : Addr), SqK q3 K J e (gsq gs) ∧ σ' = [some (.ref n), some (.str (S l)), some (.ref a), some gv, some (.ref e), none], ?_, ?_⟩
    · obtain ⟨hg1, hg2⟩ := hg
      walk_at "go"
      rcases hg1 with ⟨rfl, rfl⟩ | ⟨q3, g, rfl, hG⟩
      · walk_at "go"
        refine ⟨a, _, rfl, sqk_or (Z.Same.sqK s12 hT.sq), ?_⟩
        rw [List.length_map]
        walk_at "go"
        intro e ne'
        rw [rgV_nat]
        exact ⟨s12.trans (same_new ne'), true, e, SqL.of upd_same, rfl⟩
      · walk_at "go"
        exact ⟨q3, g, Z.Same.sqK s12 hG, rfl⟩
    obtain ⟨hg1, hg2⟩ := hg
    clear hg1
    rintro σ' J ⟨s3, q3, e, hE, rfl⟩
    walk_at "go"
    refine rd_sq (b := q3) rfl hE ?_
    refine for_gen (n := gs.length) (fun k σ J' => J' = J ∧ ∃ v5 : Option V, σ = [some (.ref n), some (.str (S l)), some (.ref a), some gv, some (.ref e), v5]) ⟨rfl, none, rfl⟩ ?_ ?_ ?_ ?_
    · rintro k σ J' hk ⟨rfl, _⟩
      exact itq_go hE (x := .int ((gs[k] : Nat) : Int)) (by unfold gsq; rw [List.getElem?_map, List.getElem?_eq_getElem hk]; rfl)
    · rintro σ J' ⟨rfl, _⟩
      exact itq_stop hE (by rw [show (gsq gs).length = gs.length from List.length_map ..]; exact Nat.le_refl _)
    · rintro k σ J' x J2 hk ⟨rfl, v5, rfl⟩ y
      obtain ⟨rfl, ex⟩ := itq_yld hE y
      unfold gsq at ex
      rw [List.getElem?_map, List.getElem?_eq_getElem hk] at ex
      cases ex
      have hgk := hg2 _ (List.getElem_mem hk)
      walk_at "go"
      refine ⟨a, _, rfl, sqk_or (Z.Same.sqK s3 hT.sq), ?_⟩
      rw [List.length_map]
      walk_at "go"
      rw [decide_eq_true (show ((gs[k] : Nat) : Int) < (zs.length : Int) by omega)]
      walk_at "go"
      exact ⟨_, rfl⟩
    rintro σ J' ⟨rfl, v5, rfl⟩
    have hn3 := s3 _ _ hn
    walk_at "go"
    refine ⟨n, C, dx, _, rfl, hn3, cls, n_letters, by decide, ?_⟩
    have sb4 : SB n J' (upd J' n (.ins C dx (putF (Str.ofString "letters") (V.str (S l)) []))) := SB.upd (Z.Same.sb (Same.refl _))
    have hn4 : (upd J' n (.ins C dx (putF (Str.ofString "letters") (V.str (S l)) []))) n = some (.ins C dx [("letters", .str (S l))]) := upd_same
    have hT4 := (hT.mono s3).sb sb4 hn3
    have hE4 := SB.sqK sb4 hn3 hE
    generalize upd J' n (.ins C dx (putF (Str.ofString "letters") (V.str (S l)) [])) = H4 at sb4 hn4 hT4 hE4
    walk_at "go"
    refine ⟨q, q2, q3, l.length, a, e, zs, gs, rfl, hT4, wf, ll, lz, hE4, hg2, fun t r u zr g' H5 s5 et hR eu nf => ?_⟩
    have hn5 := s5 _ _ hn4
    refine ⟨t, _, rfl, SqT.of et, rfl, _, _, rfl, _, rfl, n, C, dx, _, rfl, hn5, cls, n_rows, (show (1 : Nat) < 1000 by decide), ?_⟩
    refine ⟨_, _, rfl, _, rfl, n, C, dx, _, rfl, upd_same, cls, n_good, (show (2 : Nat) < 1000 by decide), rfl, ?_⟩
    have sb6 : SB n H5 (upd (upd H5 n (.ins C dx (putF (Str.ofString "rows") (V.ref r) [("letters", .str (S l))]))) n (.ins C dx (putF (Str.ofString "good") (V.ref u) (putF (Str.ofString "rows") (V.ref r) [("letters", .str (S l))])))) := SB.upd (SB.upd (Z.Same.sb (Same.refl _)))
    refine qq r u zr g' _ ((Z.Same.sb s3).trans (sb4.trans ((Z.Same.sb s5).trans sb6))) upd_same (hR.sb sb6 hn5) (sb6 _ _ (fun e => by rw [e, hn5] at eu; cases eu) eu) nf
theorem occ_one {l : List Nat} {c i : Nat} (nd : l.Nodup) (h : l[i]? = some c) : ∃ rest, Builtin.Str.occurrences (S l) ⟨#[c]⟩ 0 (S l).length 1 = i :: rest := by
  have at_iff : ∀ j, PySem.StrLaws.At (S l) ⟨#[c]⟩ (S l).length j ↔ l[j]? = some c := fun j => by
    have e := PySem.StrLaws.subAt_eq (S l) ⟨#[c]⟩ j
    constructor
    · rintro ⟨_, h2⟩
      rw [e] at h2
      exact PySem.StrLaws.take1_drop.mp h2
    · intro h2
      refine ⟨?_, by rw [e]; exact PySem.StrLaws.take1_drop.mpr h2⟩
      rw [S_len]
      exact (List.getElem?_eq_some_iff.mp h2).1
  rcases PySem.StrLaws.occ_head (S l) ⟨#[c]⟩ 1 (Nat.le_refl _) with ⟨_, no⟩ | ⟨j, rest, e, hj, _⟩
  · exact absurd ((at_iff i).mpr h) (no i)
  · have := nd_inj nd ((at_iff j).mp hj) h
    subst this
    exact ⟨rest, e⟩
def spAfter (C : Addr) (K : PySem.W.Frag) : Sp := fun vs H Q _ => ∃ (n : Addr) (l t : List Nat) (R : Tbl) (g : List Nat), vs = [.ref n, .str (S t)] ∧ McAt C K H n l R g ∧ l.Nodup ∧ Wf R l.length ∧ Q (eV (rs R (ixOf l) (Mc.st R) t)) H
theorem ok_after (F : FnM K "after" "Machine.after" s_Machine_after f fd) (m_len : mg "len" = none) (cls : Cls K C) (n_letters : NoAttr K C "letters") (n_rows : NoAttr K C "rows") : FnOk P w K mg base CX0 1 f fd P_Machine_after (spAfter C K) := by
  refine F.ok sc_Machine_after (fun vs H Q E h => ?_) (fun cdv A outer s H vs Q E hr h => ?_)
  · obtain ⟨n, l, t, R, g, rfl, _⟩ := h
    rfl
  · obtain ⟨n, l, t, R, g, rfl, ⟨dx, r, u, zr, hn, hR, hu, rfl⟩, nd, wf, q⟩ := h
    refine ⟨_, PSs.nox (pss_cut (ps_set (i := 2) sc_Machine_after.nd rfl (by first | exact .inl rfl | exact .inr rfl) (pe_ifExp (pt_cmpR op_gt (pe_callB call_len_seq (by rfl) m_len PySem.boot_len (pa_cons (pe_fld (pv 0) rfl) pa_nil)) pe_int (nomark _)) pe_int pe_non))
      (pss_cons (ps_for PassesOwn.never rfl (pi_str (pv 1)) (pg_name (i := 3) sc_Machine_after.nd rfl (by first | exact .inl rfl | exact .inr rfl))
        (pss_cons (ps_if (PW.pt (pw_or (pt_cmpR op_isN (pv 2) pe_non (nomark _)) (pw_or1 (pt_cmpR op_notIn_sign (pv 3) (pe_fld (pv 0) rfl) (by rfl))))) (pss_one (ps_ret pe_non)) pss_nil)
      (pss_one (ps_set (i := 2) sc_Machine_after.nd rfl (by first | exact .inl rfl | exact .inr rfl) (pe_ix ix_tup (pe_ix ix_tup (pe_fld (pv 0) rfl) (pv 2) (fun _ _ => rfl)) (pe_bm PySem.F.plainAttrs_str PySem.F.slot_str_index PySem.F.type_str_index mt_sindex (pe_fld (pv 0) rfl) (pa_cons (pv 3) pa_nil)) (fun _ _ => rfl))))))
      (pss_one (ps_ret (pv 2))))), ?_⟩
    have lR : (tb zr).length = zr.length := List.length_map ..
    refine ⟨fun σ' J => J = H ∧ σ' = [some (.ref n), some (.str (S t)), some (eV (Mc.st (tb zr))), none], ?_, ?_⟩
    · walk_at "go"
      refine ⟨r, _, rfl, .inr hR.sq, ?_⟩
      rw [List.length_map]
      unfold Mc.st
      rw [lR]
      walk_at "go"
      by_cases c : zr.length = 0
      · rw [if_pos c, decide_eq_false (show ¬ (0 : Int) < (zr.length : Int) by omega)]
        walk_at "go"
        rfl
      · rw [if_neg c, decide_eq_true (show (0 : Int) < (zr.length : Int) by omega)]
        walk_at "go"
        rfl
    rintro σ' J ⟨rfl, rfl⟩
    walk_at "go"
    refine for_gen (n := t.length) (fun k σ J' => J' = J ∧ ∃ (o : Option Nat) (v3 : Option V), o = rs (tb zr) (ixOf l) (Mc.st (tb zr)) (t.take k) ∧ (∀ j, o = some j → j < zr.length) ∧ σ = [some (.ref n), some (.str (S t)), some (eV o), v3]) ⟨rfl, Mc.st (tb zr), none, by cases Mc.st (tb zr) <;> rfl, fun j hj => ?_, rfl⟩ ?_ ?_ ?_ ?_
    · unfold Mc.st at hj
      split at hj
      · cases hj
      · cases hj
        omega
    · rintro k σ J' hk ⟨rfl, _⟩
      show k < (S t).cps.size
      simpa using hk
    · rintro σ J' ⟨rfl, _⟩
      show (S t).cps.size ≤ t.length
      simp
    · rintro k σ J' x J2 hk ⟨rfl, o, v3, ho, hj, rfl⟩ ⟨rfl, c, ec, rfl⟩
      have ec : t[k]? = some c := by simpa using ec
      have tk : t.take (k + 1) = t.take k ++ [c] := by rw [List.take_succ, ec]; rfl
      have tt : t = t.take (k + 1) ++ t.drop (k + 1) := (List.take_append_drop _ _).symm
      walk_at "go"
      cases o with
      | none =>
        dsimp only [eV]
        walk_at "go"
        refine ite2 (fun _ => ?_) (fun e => absurd (decide_eq_true rfl) e)
        refine ite2 (fun _ => ?_) (fun e => absurd rfl e)
        have e1 : rs (tb zr) (ixOf l) (Mc.st (tb zr)) t = none := by
          conv => lhs; rw [← List.take_append_drop k t]
          rw [rs_app, ← ho, rs_none]
        rw [e1] at q
        exact q
      | some s0 =>
        have hs := hj s0 rfl
        dsimp only [eV]
        walk_at "go"
        refine ite2 (fun e => ?_) (fun e => ?_)
        · have nc : c ∉ l := by simpa using e
          have e1 : rs (tb zr) (ixOf l) (Mc.st (tb zr)) t = none := by
            conv => lhs; rw [tt]
            rw [rs_app, tk, rs_app, ← ho, rs_one, ixOf_none.mpr nc]
            exact rs_none _ _ _
          rw [e1] at q
          exact q
        · have hc : c ∈ l := by simpa using e
          obtain ⟨i, hi⟩ : ∃ i, ixOf l c = some i := by
            cases e1 : ixOf l c with
            | none => exact absurd hc (ixOf_none.mp e1)
            | some i => exact ⟨i, rfl⟩
          have li := ixOf_some hi
          have il := (List.getElem?_eq_some_iff.mp li).1
          obtain ⟨rest, ho2⟩ := occ_one nd li
          obtain ⟨z, hz⟩ : ∃ z, zr[s0]? = some z := ⟨_, List.getElem?_eq_getElem hs⟩
          have mz : z.2 ∈ tb zr := List.mem_map.mpr ⟨z, List.mem_of_getElem? hz, rfl⟩
          have lz := wf.row _ mz
          have rx := row_nx hz (i := i) (by omega)
          have hrow := hR.at_ z (List.mem_of_getElem? hz)
          walk_at "go"
          refine ⟨r, _, _, _, rfl, rfl, hR.sq, atI_nat (v := .ref z.1) (by rw [List.getElem?_map, hz]; rfl), ?_⟩
          walk_at "go"
          refine ⟨_, _, i, rest, rfl, rfl, ho2, ?_⟩
          refine ⟨z.1, _, _, _, rfl, rfl, hrow, atI_nat (row_at (by omega)), ?_⟩
          refine ⟨rfl, nx (tb zr) s0 i, _, ?_, fun j hj => ?_, by rw [rx]; rfl⟩
          · rw [tk, rs_app, ← ho, rs_one, hi]
          · rw [← lR]
            exact (nx_lt wf hj).1
    · rintro σ J' ⟨rfl, o, v3, ho, hj, rfl⟩
      rw [List.take_length] at ho
      walk_at "go"
      rw [ho]
      exact q
theorem gsq_flat : ∀ g : List Nat, (gsq g).all flatV = true
  | [] => rfl
  | _ :: g => gsq_flat g
theorem inV_gsq (j : Nat) : ∀ g : List Nat, inV (.int (j : Int)) (gsq g) = decide (j ∈ g)
  | [] => rfl
  | x :: g => by
    have e := inV_gsq j g
    show (((x : Int)) == (j : Int) || inV (.int (j : Int)) (gsq g)) = _
    rw [e]
    by_cases c : x = j
    · subst c
      simp
    · have c1 : ((x : Int) == (j : Int)) = false := beq_eq_false_iff_ne.mpr (by omega)
      rw [c1, Bool.false_or]
      refine decide_eq_decide.mpr ⟨fun h => List.mem_cons_of_mem _ h, fun h => ?_⟩
      rcases List.mem_cons.mp h with h | h
      · exact absurd h.symm c
      · exact h
def accB (g : List Nat) : Option Nat → Bool
  | none => false
  | some j => decide (j ∈ g)
def spIn (C : Addr) (K : PySem.W.Frag) : Sp := fun vs H Q _ => ∃ (n : Addr) (l t : List Nat) (R : Tbl) (g : List Nat), vs = [.ref n, .str (S t)] ∧ McAt C K H n l R g ∧ l.Nodup ∧ Wf R l.length ∧ Q (.bl (accB g (rs R (ixOf l) (Mc.st R) t))) H
theorem ok_contains (F : FnM K "__contains__" "Machine.__contains__" s_Machine___contains__ f fd) (cls : Cls K C) (n_good : NoAttr K C "good") (me_after : Met P w K mg base 1 C "after" (spAfter C K)) : FnOk P w K mg base CX0 2 f fd P_Machine___contains__ (spIn C K) := by
  refine F.ok sc_Machine___contains__ (fun vs H Q E h => ?_) (fun cdv A outer s H vs Q E hr h => ?_)
  · obtain ⟨n, l, t, R, g, rfl, _⟩ := h
    rfl
  · obtain ⟨n, l, t, R, g, rfl, hM, nd, wf, q⟩ := h
    obtain ⟨dx, r, u, zr, hn, hR, hu, hRe⟩ := id hM.ex
    refine ⟨_, PSs.nox (pss_cons (ps_set (i := 2) sc_Machine___contains__.nd rfl (by first | exact .inl rfl | exact .inr rfl) (pe_me me_after (pv 0) hr (by decide) (pa_cons (pv 1) pa_nil)))
      (pss_one (ps_ret (pe_and (pe_cmpR op_notN (pv 2) pe_non (nomark _)) (pe_one (pe_cmpR op_in_seq (pv 2) (pe_fld (pv 0) rfl) (by rfl))))))), ?_⟩
    walk_at "go"
    refine ⟨n, dx, _, rfl, hn, rfl, ?_⟩
    walk_at "go"
    refine ⟨n, l, t, R, g, rfl, hM, nd, wf, ?_⟩
    cases e : rs R (ixOf l) (Mc.st R) t with
    | none =>
      rw [e] at q
      walk_at "go"
      exact q
    | some j =>
      rw [e] at q
      dsimp only [eV]
      walk_at "go"
      refine ⟨u, _, rfl, .inr (SqT.of hu), rfl, gsq_flat g, ?_⟩
      rw [inV_gsq]
      exact q
def spEqM (C : Addr) (K : PySem.W.Frag) : Sp := fun vs H Q _ => ∃ (n m : Addr) (l l' : List Nat) (R R' : Tbl) (g g' : List Nat), vs = [.ref n, .ref m] ∧ McAt C K H n l R g ∧ McAt C K H m l' R' g' ∧ Q (.bl (decide (l = l' ∧ R = R' ∧ g = g'))) H
theorem ok_eq (F : FnM K "__eq__" "Machine.__eq__" s_Machine___eq__ f fd) (isC : C8.InsC K C) (m_isinstance : mg "isinstance" = none) (g_Machine : mg "Machine" = some (.ref C)) (cls : Cls K C) (n_letters : NoAttr K C "letters") (n_rows : NoAttr K C "rows") (n_good : NoAttr K C "good") : FnOk P w K mg base CX0 1 f fd P_Machine___eq__ (spEqM C K) := by
  refine F.ok sc_Machine___eq__ (fun vs H Q E h => ?_) (fun cdv A outer s H vs Q E hr h => ?_)
  · obtain ⟨n, m, l, l', R, R', g, g', rfl, _⟩ := h
    rfl
  · obtain ⟨n, m, l, l', R, R', g, g', rfl, ⟨dx, r, u, zr, hn, hR, hu, rfl⟩, ⟨dy, r', u', zr', hn', hR', hu', rfl⟩, q⟩ := h
    refine ⟨_, PSs.nox (pss_one (ps_ret (pe_and (pe_callB (C8.call_isC isC) (by rfl) m_isinstance (by decide +kernel) (pa_cons (pv 1) (pa_cons (pe_glob (by rfl) g_Machine relv_ref) pa_nil))) (pe_and (pe_cmpR op_eq (pe_fld (pv 0) rfl) (pe_fld (pv 1) rfl) (nomark _)) (pe_and (pe_cmpR (op_eqD hr.units) (pe_fld (pv 0) rfl) (pe_fld (pv 1) rfl) (nomark _)) (pe_one (pe_cmpR (op_eqD hr.units) (pe_fld (pv 0) rfl) (pe_fld (pv 1) rfl) (nomark _)))))))), ?_⟩
    walk_at "go"
    refine ⟨m, dy, _, rfl, hn', ?_⟩
    walk_at "go"
    by_cases h1 : l = l'
    · subst h1
      rw [decide_eq_true rfl, if_pos rfl]
      walk_at "go"
      refine ⟨_, _, hR.dp, hR'.dp, shaped_tb _ _ _, shaped_tb _ _ _, ?_⟩
      rw [eqv_tb]
      by_cases h2 : tb zr = tb zr'
      · rw [decide_eq_true h2]
        walk_at "go"
        refine ⟨_, _, dp_nat (b := false) (SqT.of hu), dp_nat (b := false) (SqT.of hu'), shaped_nat _ _, shaped_nat _ _, ?_⟩
        rw [eqv_nat]
        rw [show decide (l = l ∧ tb zr = tb zr' ∧ g = g') = decide (g = g') from decide_eq_decide.mpr ⟨fun h => h.2.2, fun h => ⟨rfl, h2, h⟩⟩] at q
        exact q
      · rw [decide_eq_false h2]
        walk_at "go"
        rw [decide_eq_false (fun z => h2 z.2.1)] at q
        exact q
    · rw [decide_eq_false (fun z => h1 (by injection z with z; exact S_inj z)), if_neg (by decide)]
      rw [decide_eq_false (fun z => h1 z.1)] at q
      exact q
end
end Z
set_option pp.maxSteps 700
set_option Elab.async false
set_option linter.all false
set_option maxRecDepth 100000
set_option maxHeartbeats 4000000
open SX (S S_inj S_len S_cat)
namespace Z
open Mc
open PySem PySem.Spec PyProof.Rows L2
open C8 (pss_cut tCut)
local macro_rules | `(tactic| walk_at "num") => `(tactic| first | rfl | omega | decide | exact Nat.le_of_lt (small1000 (by simp)) | exact ⟨by omega, by omega⟩ | exact ⟨by omega, by omega, by omega⟩ | exact ⟨by decide, by decide, by decide⟩ | exact Or.inl ⟨by omega, by omega⟩ | exact Or.inr ⟨by omega, by omega⟩)
local macro_rules | `(tactic| walk_at "go") => `(tactic| repeat (first | refine ⟨_, rfl, ?_⟩ | refine ⟨_, _, rfl, rfl, ?_⟩ | refine ⟨_, _, rfl, ?_⟩ | (refine ⟨_, _, rfl, rfl, ?_, ?_⟩; focus walk_at "num") | refine Or.inl ⟨_, rfl, ?_⟩ | refine ⟨_, _, _, _, rfl, rfl, (by assumption), (by rfl), ?_⟩ | refine ⟨_, _, _, _, _, rfl, (by assumption), (by assumption), (by assumption), (by rfl), ?_⟩ | refine ⟨rfl, ?_⟩ | (refine And.intro ?_ ?_; focus walk_at "num")))
abbrev s_letters : Stmt := topS 28
abbrev N_letters : List Str := ["_law_draws_here", "_law_place", "_law_signs", "_law_letters_here", "_law_k", "_law_sign"]
abbrev P_letters : List Str := ["_law_draws_here", "_law_place"]
theorem sc_letters : FnScope N_letters P_letters (defScope s_letters) := ⟨rfl, rfl, rfl, by decide +kernel, rfl, by decide +kernel, by decide +kernel⟩
abbrev s_entry : Stmt := topS 29
abbrev N_entry : List Str := ["_law_draw", "_law_size"]
abbrev P_entry : List Str := ["_law_draw", "_law_size"]
theorem sc_entry : FnScope N_entry P_entry (defScope s_entry) := ⟨rfl, rfl, rfl, by decide +kernel, rfl, by decide +kernel, by decide +kernel⟩
abbrev s_table : Stmt := topS 30
abbrev N_table : List Str := ["_law_draws_here", "_law_place", "_law_many", "_law_most", "_law_size", "_law_rows", "_law_good", "_law_state", "_law_k"]
abbrev P_table : List Str := ["_law_draws_here", "_law_place", "_law_many", "_law_most"]
theorem sc_table : FnScope N_table P_table (defScope s_table) := ⟨rfl, rfl, rfl, by decide +kernel, rfl, by decide +kernel, by decide +kernel⟩
theorem atI_in {α : Type} {l : List α} {i : Int} {c : α} (h : atI l i = some c) : c ∈ l := by
  obtain ⟨j, _, e, _⟩ := atI_get h
  exact List.mem_of_getElem? e
section
variable {P : Program} {w : World} {K : PySem.W.Frag} {mg : Str → Option Value} {base : Heap} {f : Addr} {fd : FuncData}
def spLet (K : PySem.W.Frag) : Sp := fun vs H Q _ => ∃ (a p : Addr) (n : Nat) (ds : List Int), vs = [.ref a, .ref p] ∧ Tk K a p ds n H H ∧ ∀ (l : List Nat) H', Tk K a p ds n H H' → l.Nodup → 0 < l.length → l.length ≤ 4 → 46 ∉ l → Q (.str (S l)) H'
theorem ok_letters (F : FnP K "_law_letters" s_letters f fd) (m_int : mg "int" = none) (m_len : mg "len" = none) (m_range : mg "range" = none) (c_take : Cal P w K mg base 1 "_law_take" (spTake K)) : FnOk P w K mg base CX0 2 f fd P_letters (spLet K) := by
  refine F.ok sc_letters (fun vs H Q E h => ?_) (fun cdv A outer s H vs Q E hr h => ?_)
  · obtain ⟨a, p, n, ds, rfl, _⟩ := h
    rfl
  · obtain ⟨a, p, n, ds, rfl, hT, q⟩ := h
    refine ⟨_, PSs.nox (pss_cons (ps_set (i := 2) sc_letters.nd rfl (by first | exact .inl rfl | exact .inr rfl) pe_str)
      (pss_cons (ps_set (i := 3) sc_letters.nd rfl (by first | exact .inl rfl | exact .inr rfl) pe_str)
      (pss_cons (ps_for PassesOwn.never rfl (pi_range1 (by rfl) m_range (pa_cons (pe_op op_add pe_int (pe_op op_mod (pe_callTy call_int1 (by rfl) m_int (by decide +kernel) (pa_cons (pe_cl c_take hr (by decide) (by rfl) (pa_cons (pv 0) (pa_cons (pv 1) pa_nil))) pa_nil)) pe_int)) pa_nil)) (pg_name (i := 4) sc_letters.nd rfl (by first | exact .inl rfl | exact .inr rfl))
        (pss_cons (ps_set (i := 5) sc_letters.nd rfl (by first | exact .inl rfl | exact .inr rfl) (pe_ix ix_str (pv 2) (pe_op op_mod (pe_callTy call_int1 (by rfl) m_int (by decide +kernel) (pa_cons (pe_cl c_take hr (by decide) (by rfl) (pa_cons (pv 0) (pa_cons (pv 1) pa_nil))) pa_nil)) (pe_callB call_len_str (by rfl) m_len PySem.boot_len (pa_cons (pv 2) pa_nil))) (fun _ _ => rfl)))
      (pss_one (ps_if (pt_cmpR op_notIn_sign (pv 5) (pv 3) (by rfl)) (pss_one (ps_set (i := 3) sc_letters.nd rfl (by first | exact .inl rfl | exact .inr rfl) (pe_op op_add_str (pv 3) (pv 5)))) pss_nil))))
      (pss_one (ps_ret (pv 3)))))), ?_⟩
    obtain ⟨mm, em⟩ := hT.pl
    walk_at "go"
    refine ⟨a, p, n, mm, ds, rfl, SqL.of hT.hA, hT.hd, em, hT.ne, fun r r0 r1 => ?_⟩
    obtain ⟨hT1, _⟩ := hT.next em
    generalize upd H p (.lst [.int ((mm + 1 : Nat) : Int)]) = H1 at hT1
    walk_at "go"
    have sg0 : 0 < (Str.ofString " !#$&'()*+,-/0123456789:;<=>?@ABCDEFGHIJKLMNOPQRSTUVWXYZ[]^_abcdefghijklmnopqrstuvwxyz{|}~").length := by decide +kernel
    have sg1 : (Str.ofString " !#$&'()*+,-/0123456789:;<=>?@ABCDEFGHIJKLMNOPQRSTUVWXYZ[]^_abcdefghijklmnopqrstuvwxyz{|}~").length ≤ sizeLine := by decide +kernel
    have sg2 : 46 ∉ (Str.ofString " !#$&'()*+,-/0123456789:;<=>?@ABCDEFGHIJKLMNOPQRSTUVWXYZ[]^_abcdefghijklmnopqrstuvwxyz{|}~").cps.toList := by decide +kernel
    generalize Str.ofString " !#$&'()*+,-/0123456789:;<=>?@ABCDEFGHIJKLMNOPQRSTUVWXYZ[]^_abcdefghijklmnopqrstuvwxyz{|}~" = sg at sg0 sg1 sg2
    obtain ⟨c, hc, c0, c4⟩ : ∃ c : Nat, 1 + r % 4 = (c : Int) ∧ 0 < c ∧ c ≤ 4 := ⟨(1 + r % 4).toNat, by omega, by omega, by omega⟩
    refine for_gen (n := c) (fun k σ J => Tk K a p ds n H J ∧ ∃ (l : List Nat) (v4 v5 : Option V), l.Nodup ∧ 46 ∉ l ∧ l.length ≤ k ∧ (0 < k → 0 < l.length) ∧ σ = [some (.ref a), some (.ref p), some (.str sg), some (.str (S l)), v4, v5]) ⟨hT1, [], none, none, List.nodup_nil, by simp, Nat.le_refl _, fun h => absurd h (Nat.lt_irrefl _), rfl⟩ ?_ ?_ ?_ ?_
    · intro k σ J hk _
      show k < (1 + r % 4).toNat
      omega
    · intro σ J _
      show (1 + r % 4).toNat ≤ c
      omega
    · rintro k σ J x J' hk ⟨hT2, l, v4, v5, nd, nt, ll, l0, rfl⟩ ⟨rfl, rfl⟩
      obtain ⟨m2, em2⟩ := hT2.pl
      walk_at "go"
      refine ⟨a, p, n, m2, ds, rfl, SqL.of hT2.hA, hT2.hd, em2, hT2.ne, fun r2 r20 r21 => ?_⟩
      obtain ⟨hT3, _⟩ := hT2.next em2
      generalize upd J' p (.lst [.int ((m2 + 1 : Nat) : Int)]) = J3 at hT3
      obtain ⟨cc, ea⟩ := sgn_at sg r2 sg0
      walk_at "go"
      refine ⟨sg, _, cc, rfl, rfl, sg1, ea, ?_⟩
      walk_at "go"
      refine ite2 (fun e => ?_) (fun e => ?_)
      · have nc : cc ∉ l := by simpa using e
        walk_at "go"
        refine ⟨by rw [S_len]; exact Nat.le_trans (show l.length + 1 ≤ 10 by omega) (by decide), ?_⟩
        exact ⟨hT3, l ++ [cc], _, _, by rw [List.nodup_append]; exact ⟨nd, by simp, fun x hx y hy => by rw [List.mem_singleton.mp hy]; exact fun z => nc (z ▸ hx)⟩, fun h => (List.mem_append.mp h).elim nt fun z => sg2 (by rw [List.mem_singleton.mp z]; exact atI_in ea), by rw [List.length_append]; show l.length + 1 ≤ k + 1; omega, fun _ => by rw [List.length_append]; exact Nat.succ_pos _, by rw [← S_cat]; rfl⟩
      · have hc2 : cc ∈ l := by simpa using e
        exact ⟨hT3, l, _, _, nd, nt, by omega, fun _ => List.length_pos_of_mem hc2, rfl⟩
    · rintro σ J ⟨hT2, l, v4, v5, nd, nt, ll, l0, rfl⟩
      walk_at "go"
      exact q l J hT2 nd (l0 c0) (by omega) nt
def spEnt : Sp := fun vs H Q _ => ∃ (r : Int) (n : Nat), vs = [.int r, .int (n : Int)] ∧ ∀ o : Option Nat, (∀ e, o = some e → e < n) → Q (eV o) H
theorem ok_entry (F : FnP K "_law_entry" s_entry f fd) (m_int : mg "int" = none) : FnOk P w K mg base CX0 1 f fd P_entry spEnt := by
  refine F.ok sc_entry (fun vs H Q E h => ?_) (fun cdv A outer s H vs Q E hr h => ?_)
  · obtain ⟨r, n, rfl, _⟩ := h
    rfl
  · obtain ⟨r, n, rfl, q⟩ := h
    refine ⟨_, PSs.nox (pss_cons (ps_if (pt_cmpR op_eq (pe_op op_mod (pe_callTy call_int1 (by rfl) m_int (by decide +kernel) (pa_cons (pv 0) pa_nil)) (pe_op op_add (pv 1) pe_int)) (pv 1) (nomark _)) (pss_one (ps_ret pe_non)) pss_nil)
      (pss_one (ps_ret (pe_op op_mod (pe_callTy call_int1 (by rfl) m_int (by decide +kernel) (pa_cons (pv 0) pa_nil)) (pe_op op_add (pv 1) pe_int))))), ?_⟩
    walk_at "go"
    refine ite2 (fun e => ?_) (fun e => ?_)
    · walk_at "go"
      exact q none fun e h => by cases h
    · walk_at "go"
      have h1 := Int.emod_nonneg r (show (n : Int) + 1 ≠ 0 by omega)
      have h2 := Int.emod_lt_of_pos r (show 0 < (n : Int) + 1 by omega)
      have ne : r % ((n : Int) + 1) ≠ (n : Int) := fun z => e (decide_eq_true (show V.int (r % ((n : Int) + 1)) = V.int (n : Int) from congrArg V.int z))
      have := q (some (r % ((n : Int) + 1)).toNat) (fun e h => by cases h; omega)
      dsimp only [eV] at this
      rw [Int.toNat_of_nonneg h1] at this
      exact this
structure TbR (H : Hp) (A : Addr) (zs : List (Addr × List (Option Nat))) : Prop where
  sq : H A = some (.lst (zs.map fun z => V.ref z.1))
  at_ : ∀ z ∈ zs, H z.1 = some (.lst (z.2.map eV))
theorem TbR.tb {K : PySem.W.Frag} {H : Hp} {A : Addr} {zs : List (Addr × List (Option Nat))} (h : TbR H A zs) : Tb true true K H A zs := ⟨SqL.of h.sq, fun z m => SqL.of (h.at_ z m)⟩
theorem TbR.mono {H H' : Hp} {A : Addr} {zs : List (Addr × List (Option Nat))} (s : Same H H') (h : TbR H A zs) : TbR H' A zs := ⟨s _ _ h.sq, fun z m => s _ _ (h.at_ z m)⟩
def spTab (K : PySem.W.Frag) : Sp := fun vs H Q _ => ∃ (a p : Addr) (n m mo : Nat) (ds : List Int), vs = [.ref a, .ref p, .int (m : Int), .int (mo : Int)] ∧ Tk K a p ds n H H ∧ 0 < mo ∧ mo ≤ 10 ∧ m ≤ 20 ∧ ∀ (t A g : Addr) (zs : List (Addr × List (Option Nat))) (gs : List Nat) H', Tk K a p ds n H H' → H' t = some (.lst [.ref A, .ref g]) → TbR H' A zs → H' g = some (.lst (gsq gs)) → Wf (Z.tb zs) m → 0 < zs.length → zs.length ≤ mo → (∀ s ∈ gs, s < zs.length) → gs.length ≤ mo → Q (.ref t) H'
theorem ok_table (F : FnP K "_law_table" s_table f fd) (m_int : mg "int" = none) (m_range : mg "range" = none) (c_take : Cal P w K mg base 1 "_law_take" (spTake K)) (c_entry : Cal P w K mg base 1 "_law_entry" spEnt) : FnOk P w K mg base CX0 2 f fd P_table (spTab K) := by
  refine F.ok sc_table (fun vs H Q E h => ?_) (fun cdv A outer s H vs Q E hr h => ?_)
  · obtain ⟨a, p, n, m, mo, ds, rfl, _⟩ := h
    rfl
  · obtain ⟨a, p, n, m, mo, ds, rfl, hT, mo0, mo1, m1, q⟩ := h
    refine ⟨_, PSs.nox (pss_cons (ps_set (i := 4) sc_table.nd rfl (by first | exact .inl rfl | exact .inr rfl) (pe_op op_add pe_int (pe_op op_mod (pe_callTy call_int1 (by rfl) m_int (by decide +kernel) (pa_cons (pe_cl c_take hr (by decide) (by rfl) (pa_cons (pv 0) (pa_cons (pv 1) pa_nil))) pa_nil)) (pv 3))))
      (pss_cons (ps_set (i := 5) sc_table.nd rfl (by first | exact .inl rfl | exact .inr rfl) (pe_lst pa_nil))
      (pss_cons (ps_set (i := 6) sc_table.nd rfl (by first | exact .inl rfl | exact .inr rfl) (pe_lst pa_nil))
      (pss_cons (ps_for PassesOwn.never rfl (pi_range1 (by rfl) m_range (pa_cons (pv 4) pa_nil)) (pg_name (i := 7) sc_table.nd rfl (by first | exact .inl rfl | exact .inr rfl))
        (pss_cons (ps_expr (pe_bm PySem.F.plainAttrs_list PySem.F.slot_list_append PySem.F.type_list_append mt_append (pv 5) (pa_cons (pe_lc (own := [("_law_k", 8)]) (g := (gName 8)) (tt := tYes) (by rfl) sc_table.nd (pi_range1 (by rfl) m_range (pa_cons (pv 2) pa_nil)) (blkOk_by (own := [("_law_k", 8)]) (N := N_table) (sc := defScope s_table) (by decide +kernel)) (fun _ _ _ _ _ => (pg_name (i := 8) sc_table.nd rfl (by first | exact .inl rfl | exact .inr rfl))) (fun _ _ _ _ _ => pts_nil) (fun _ _ _ _ _ => (pe_cl c_entry hr (by decide) (by rfl) (pa_cons (pe_cl c_take hr (by decide) (by rfl) (pa_cons (pv 0) (pa_cons (pv 1) pa_nil))) (pa_cons (pv 4) pa_nil))))) pa_nil)))
      (pss_one (ps_if (pt_cmpR op_lt (pe_op op_mod (pe_callTy call_int1 (by rfl) m_int (by decide +kernel) (pa_cons (pe_cl c_take hr (by decide) (by rfl) (pa_cons (pv 0) (pa_cons (pv 1) pa_nil))) pa_nil)) pe_int) pe_int (nomark _)) (pss_one (ps_expr (pe_bm PySem.F.plainAttrs_list PySem.F.slot_list_append PySem.F.type_list_append mt_append (pv 6) (pa_cons (pv 7) pa_nil)))) pss_nil))))
      (pss_one (ps_ret (pe_lst (pa_cons (pv 5) (pa_cons (pv 6) pa_nil))))))))), ?_⟩
    obtain ⟨mm, em⟩ := hT.pl
    walk_at "go"
    refine ⟨a, p, n, mm, ds, rfl, SqL.of hT.hA, hT.hd, em, hT.ne, fun r r0 r1 => ?_⟩
    obtain ⟨hT1, _⟩ := hT.next em
    generalize upd H p (.lst [.int ((mm + 1 : Nat) : Int)]) = H1 at hT1
    obtain ⟨c, ec, hc⟩ := modN r mo0
    walk_at "go"
    rw [ec]
    rw [show L2.start N_table [V.ref a, V.ref p, V.int (m : Int), V.int (mo : Int)] = [some (.ref a), some (.ref p), some (.int (m : Int)), some (.int (mo : Int)), none, none, none, none, none] from rfl]
    dsimp only [List.set]
    have e1 : (1 : Int) + (c : Int) = ((1 + c : Nat) : Int) := by omega
    rw [e1]
    obtain ⟨sz, hsz⟩ : ∃ sz, sz = 1 + c := ⟨_, rfl⟩
    rw [← hsz]
    intro Ar nAr
    have sA := same_new (o := .lst []) nAr
    have eA : (upd H1 Ar (.lst [])) Ar = some (.lst (([] : List (Addr × List (Option Nat))).map fun z => V.ref z.1)) := upd_same
    have hT2 := hT1.more sA
    have nAH := hT1.nn nAr
    generalize upd H1 Ar (.lst []) = H2 at sA eA hT2
    walk_at "go"
    intro g ng
    have sg := same_new (o := .lst []) ng
    have eg : (upd H2 g (.lst [])) g = some (.lst (gsq [])) := upd_same
    have hT3 := hT2.more sg
    have ngH := hT2.nn ng
    have eA3 := sg _ _ eA
    have Ag : Ar ≠ g := fun e => by rw [e, ng] at eA; cases eA
    generalize upd H2 g (.lst []) = H3 at sg eg hT3 eA3
    have Ap : Ar ≠ p := fun e => by obtain ⟨m, em⟩ := hT3.pl; rw [← e, eA3] at em; cases em; done
    have gp : g ≠ p := fun e => by obtain ⟨m, em⟩ := hT3.pl; rw [← e, eg] at em; cases em; done
    clear sA sg eA nAr ng hT2 hT1
    walk_at "go"
    refine for_gen (n := sz) (fun k σ J => Tk K a p ds n H J ∧ ∃ (zs : List (Addr × List (Option Nat))) (gs : List Nat) (v7 : Option V), TbR J Ar zs ∧ (∀ z ∈ zs, z.1 ≠ Ar ∧ z.1 ≠ g ∧ z.1 ≠ p) ∧ J g = some (.lst (gsq gs)) ∧ zs.length = k ∧ (∀ r ∈ Z.tb zs, r.length = m ∧ ∀ e, some e ∈ r → e < sz) ∧ (∀ s ∈ gs, s < k) ∧ gs.length ≤ k ∧ σ = [some (.ref a), some (.ref p), some (.int (m : Int)), some (.int (mo : Int)), some (.int (sz : Int)), some (.ref Ar), some (.ref g), v7, none]) ⟨hT3, [], [], none, ⟨eA3, fun z m => absurd m (by simp)⟩, fun z m => absurd m (by simp), eg, rfl, fun r m => absurd m (by simp [Z.tb]), fun s m => absurd m (by simp), Nat.le_refl _, rfl⟩ ?_ ?_ ?_ ?_
    · intro k σ J hk _
      show k < ((sz : Int)).toNat
      omega
    · intro σ J _
      show ((sz : Int)).toNat ≤ sz
      omega
    · rintro k σ J x J' hk ⟨hT4, zs, gs, v7, tr, nz, eg, lz, hrow, hgs, lg, rfl⟩ ⟨rfl, rfl⟩
      walk_at "go"
      refine ⟨.inl ⟨rfl, _, SqL.of tr.sq⟩, ?_⟩
      walk_at "go"
      intro D nD
      have Dp : p ≠ D := fun e => by obtain ⟨m, em⟩ := hT4.pl; rw [e, nD] at em; cases em
      have aD : a ≠ D := fun e => by have := hT4.hA; rw [e, nD] at this; cases this
      refine lc_gen (n := m) (fun i J2 => Tk K a p ds n J' J2 ∧ ∃ r : List (Option Nat), J2 D = some (.lst (r.map eV)) ∧ r.length = i ∧ ∀ e, some e ∈ r → e < sz) ⟨hT4.slf.more (same_new nD), [], upd_same, rfl, fun e m => absurd m (by simp)⟩ ?_ ?_ ?_ ?_
      · intro i J2 hi _
        show i < ((m : Int)).toNat
        omega
      · intro J2 _
        show ((m : Int)).toNat ≤ m
        omega
      · rintro i J2 x J3 hi ⟨hT5, r', eD, lr, hent⟩ ⟨rfl, rfl⟩
        obtain ⟨m5, em5⟩ := hT5.pl
        walk_at "go"
        refine ⟨a, p, n, m5, ds, rfl, SqL.of hT5.hA, hT5.hd, em5, hT5.ne, fun r2 r20 r21 => ?_⟩
        obtain ⟨hT6, sb6⟩ := hT5.next em5
        have eD6 := sb6 _ _ Dp.symm eD
        generalize upd J3 p (.lst [.int ((m5 + 1 : Nat) : Int)]) = J4 at hT6 eD6
        walk_at "go"
        intro o ho
        refine ⟨_, eD6, by rw [List.length_map]; exact szC (by omega), hT6.at_ nD Dp aD, r' ++ [o], by rw [upd_same, List.map_append]; rfl, by rw [List.length_append, lr]; rfl, fun e he => ?_⟩
        rcases List.mem_append.mp he with he | he
        · exact hent e he
        · exact ho e (List.mem_singleton.mp he).symm
      rintro J2 ⟨hT5, r', eD, lr, hent⟩
      have hT6 := hT4.tr hT5
      have tr6 : TbR J2 Ar zs := ⟨hT5.up tr.sq Ap, fun z hm => hT5.up (tr.at_ z hm) (nz z hm).2.2⟩
      have eg6 := hT5.up eg gp
      have DA : D ≠ Ar := fun e => by have := tr.sq; rw [← e, nD] at this; cases this
      have aA : a ≠ Ar := ne_of_none hT.hA nAH
      have ag : a ≠ g := ne_of_none hT.hA ngH
      have Dg : D ≠ g := fun e => by rw [← e, nD] at eg; cases eg
      have lzr : zs.length ≤ 100 := by omega
      walk_at "go"
      refine ⟨Ar, _, _, rfl, rfl, tr6.sq, by rw [List.length_map]; exact szC (by omega), ?_⟩
      have hT7 : Tk K a p ds n H (upd J2 Ar (.lst ((zs.map fun z => V.ref z.1) ++ [.ref D]))) := hT6.at_ nAH Ap.symm aA
      have tr7 : TbR (upd J2 Ar (.lst ((zs.map fun z => V.ref z.1) ++ [.ref D]))) Ar (zs ++ [(D, r')]) := ⟨by rw [upd_same, List.map_append]; rfl, fun z hm => by
        rcases List.mem_append.mp hm with hm | hm
        · rw [upd_ne (nz z hm).1]
          exact tr6.at_ z hm
        · rw [List.mem_singleton.mp hm, upd_ne DA]
          exact eD⟩
      have eg7 : (upd J2 Ar (.lst ((zs.map fun z => V.ref z.1) ++ [.ref D]))) g = some (.lst (gsq gs)) := by rw [upd_ne Ag.symm]; exact eg6
      generalize upd J2 Ar (.lst ((zs.map fun z => V.ref z.1) ++ [.ref D])) = J3 at hT7 tr7 eg7
      have nz7 : ∀ z ∈ zs ++ [(D, r')], z.1 ≠ Ar ∧ z.1 ≠ g ∧ z.1 ≠ p := fun z hm => by
        rcases List.mem_append.mp hm with hm | hm
        · exact nz z hm
        · rw [List.mem_singleton.mp hm]
          exact ⟨DA, Dg, Dp.symm⟩
      have hrow7 : ∀ r ∈ Z.tb (zs ++ [(D, r')]), r.length = m ∧ ∀ e, some e ∈ r → e < sz := fun r hr => by
        unfold Z.tb at hr
        rw [List.map_append] at hr
        rcases List.mem_append.mp hr with hr | hr
        · exact hrow r hr
        · rw [List.mem_singleton.mp hr]
          exact ⟨lr, hent⟩
      have lz7 : (zs ++ [(D, r')]).length = k + 1 := by rw [List.length_append, lz]; rfl
      obtain ⟨m7, em7⟩ := hT7.pl
      walk_at "go"
      refine ⟨a, p, n, m7, ds, rfl, SqL.of hT7.hA, hT7.hd, em7, hT7.ne, fun r5 r50 r51 => ?_⟩
      obtain ⟨hT8, _⟩ := hT7.next em7
      have tr8 : TbR (upd J3 p (.lst [.int ((m7 + 1 : Nat) : Int)])) Ar (zs ++ [(D, r')]) := ⟨by rw [upd_ne Ap]; exact tr7.sq, fun z hm => by rw [upd_ne (nz7 z hm).2.2]; exact tr7.at_ z hm⟩
      have eg8 : (upd J3 p (.lst [.int ((m7 + 1 : Nat) : Int)])) g = some (.lst (gsq gs)) := by rw [upd_ne gp]; exact eg7
      generalize upd J3 p (.lst [.int ((m7 + 1 : Nat) : Int)]) = J4 at hT8 tr8 eg8
      walk_at "go"
      refine ite2 (fun e => ?_) (fun e => ?_)
      · walk_at "go"
        refine ⟨.inl ⟨rfl, _, SqL.of eg8⟩, ?_⟩
        walk_at "go"
        refine ⟨g, _, _, rfl, rfl, eg8, by rw [show (gsq gs).length = gs.length from List.length_map ..]; exact szC (by omega), ?_⟩
        refine ⟨hT8.at_ ngH gp.symm ag, zs ++ [(D, r')], gs ++ [k], _, ⟨by rw [upd_ne Ag]; exact tr8.sq, fun z hm => by rw [upd_ne (nz7 z hm).2.1]; exact tr8.at_ z hm⟩, nz7, by rw [upd_same]; unfold gsq; rw [List.map_append]; simp, lz7, hrow7, fun s hs => ?_, by rw [List.length_append]; show gs.length + 1 ≤ k + 1; omega, rfl⟩
        rcases List.mem_append.mp hs with hs | hs
        · have := hgs s hs
          omega
        · rw [List.mem_singleton.mp hs]
          omega
      · exact ⟨hT8, zs ++ [(D, r')], gs, _, tr8, nz7, eg8, lz7, hrow7, fun s hs => by have := hgs s hs; omega, by omega, rfl⟩
    · rintro σ J ⟨hT4, zs, gs, v7, tr, nz, eg, lz, hrow, hgs, lg, rfl⟩
      walk_at "go"
      intro t nt
      have st_ := same_new (o := .lst [.ref Ar, .ref g]) nt
      refine q t Ar g zs gs _ (hT4.more st_) upd_same (tr.mono st_) (st_ _ _ eg) ⟨fun r m => (hrow r m).1, fun r m e he => ?_⟩ (by omega) (by omega) (by rw [lz]; exact hgs) (by omega)
      rw [show (Z.tb zs).length = zs.length from List.length_map .., lz]
      exact (hrow r m).2 e he
end
end Z
set_option pp.maxSteps 700
set_option Elab.async false
set_option linter.all false
set_option maxRecDepth 100000
set_option maxHeartbeats 4000000
open SX (S S_inj S_len S_cat)
namespace Z
open Mc
open PySem PySem.Spec PyProof.Rows L2
open C8 (pss_cut tCut)
local macro_rules | `(tactic| walk_at "num") => `(tactic| first | rfl | omega | decide | exact Nat.le_of_lt (small1000 (by simp)) | exact ⟨by omega, by omega⟩ | exact ⟨by omega, by omega, by omega⟩ | exact ⟨by decide, by decide, by decide⟩ | exact Or.inl ⟨by omega, by omega⟩ | exact Or.inr ⟨by omega, by omega⟩)
local macro_rules | `(tactic| walk_at "go") => `(tactic| repeat (first | refine ⟨_, rfl, ?_⟩ | refine ⟨_, _, rfl, rfl, ?_⟩ | refine ⟨_, _, rfl, ?_⟩ | (refine ⟨_, _, rfl, rfl, ?_, ?_⟩; focus walk_at "num") | refine Or.inl ⟨_, rfl, ?_⟩ | refine ⟨_, _, _, _, rfl, rfl, (by assumption), (by rfl), ?_⟩ | refine ⟨_, _, _, _, _, rfl, (by assumption), (by assumption), (by assumption), (by rfl), ?_⟩ | refine ⟨rfl, ?_⟩ | (refine And.intro ?_ ?_; focus walk_at "num")))
abbrev s_read : Stmt := topS 31
abbrev N_read : List Str := ["_law_rows", "_law_letters_here", "_law_text", "_law_state", "_law_sign"]
abbrev P_read : List Str := ["_law_rows", "_law_letters_here", "_law_text"]
theorem sc_read : FnScope N_read P_read (defScope s_read) := ⟨rfl, rfl, rfl, by decide +kernel, rfl, by decide +kernel, by decide +kernel⟩
abbrev s_word : Stmt := topS 33
abbrev N_word : List Str := ["_law_draws_here", "_law_place", "_law_letters_here", "_law_most", "_law_size", "_law_k"]
abbrev P_word : List Str := ["_law_draws_here", "_law_place", "_law_letters_here", "_law_most"]
theorem sc_word : FnScope N_word P_word (defScope s_word) := ⟨rfl, rfl, rfl, by decide +kernel, rfl, by decide +kernel, by decide +kernel⟩
section
variable {P : Program} {w : World} {K : PySem.W.Frag} {mg : Str → Option Value} {base : Heap} {f : Addr} {fd : FuncData}
theorem find_one {l : List Nat} {c i : Nat} (nd : l.Nodup) (h : l[i]? = some c) : Txt.find (S l) ⟨#[c]⟩ = (i : Int) := by
  obtain ⟨rest, e⟩ := occ_one nd h
  unfold Txt.find
  rw [e]
def spRead (K : PySem.W.Frag) : Sp := fun vs H Q _ => ∃ (q q2 : Bool) (a : Addr) (l t : List Nat) (zr : List (Addr × List (Option Nat))), vs = [.ref a, .str (S l), .str (S t)] ∧ Tb q q2 K H a zr ∧ l.Nodup ∧ Wf (tb zr) l.length ∧ Q (eV (rs (tb zr) (ixOf l) (Mc.st (tb zr)) t)) H
theorem ok_read (F : FnP K "_law_read" s_read f fd) (m_len : mg "len" = none) : FnOk P w K mg base CX0 1 f fd P_read (spRead K) := by
  refine F.ok sc_read (fun vs H Q E h => ?_) (fun cdv A outer s H vs Q E hr h => ?_)
  · obtain ⟨q, q2, a, l, t, zr, rfl, _⟩ := h
    rfl
  · obtain ⟨qb, q2, a, l, t, zr, rfl, hR, nd, wf, q⟩ := h
    refine ⟨_, PSs.nox (pss_cons (ps_set (i := 3) sc_read.nd rfl (by first | exact .inl rfl | exact .inr rfl) pe_int)
      (pss_cons (ps_if (pt_cmpR op_eq (pe_callB call_len_seq (by rfl) m_len PySem.boot_len (pa_cons (pv 0) pa_nil)) pe_int (nomark _)) (pss_one (ps_ret pe_non)) pss_nil)
      (pss_cons (ps_for PassesOwn.never rfl (pi_str (pv 2)) (pg_name (i := 4) sc_read.nd rfl (by first | exact .inl rfl | exact .inr rfl))
        (pss_cons (ps_if (PW.pt (pw_or (pt_cmpR op_isN (pv 3) pe_non (nomark _)) (pw_or1 (pt_cmpR op_notIn_sign (pv 4) (pv 1) (by rfl))))) (pss_one (ps_ret pe_non)) pss_nil)
      (pss_one (ps_set (i := 3) sc_read.nd rfl (by first | exact .inl rfl | exact .inr rfl) (pe_ix ix_seq (pe_ix ix_seq (pv 0) (pv 3) (fun _ _ => rfl)) (pe_bm PySem.F.plainAttrs_str PySem.F.slot_str_find PySem.F.type_str_find mt_find (pv 1) (pa_cons (pv 4) pa_nil)) (fun _ _ => rfl))))))
      (pss_one (ps_ret (pv 3)))))), ?_⟩
    have lR : (tb zr).length = zr.length := List.length_map ..
    walk_at "go"
    refine ⟨a, _, rfl, sqk_or hR.sq, ?_⟩
    rw [List.length_map]
    walk_at "go"
    refine ite2 (fun e => ?_) (fun e => ?_)
    · have z0 : zr.length = 0 := by have := of_decide_eq_true e; injection this with this; omega
      walk_at "go"
      rw [show Mc.st (tb zr) = none from if_pos (by rw [lR]; exact z0), rs_none] at q
      exact q
    have z0 : 0 < zr.length := Nat.pos_of_ne_zero fun z => e (decide_eq_true (by rw [z]; rfl))
    rw [show Mc.st (tb zr) = some 0 from if_neg (by rw [lR]; omega)] at q
    walk_at "go"
    refine for_gen (n := t.length) (fun k σ J' => J' = H ∧ ∃ (o : Option Nat) (v4 : Option V), o = rs (tb zr) (ixOf l) (some 0) (t.take k) ∧ (∀ j, o = some j → j < zr.length) ∧ σ = [some (.ref a), some (.str (S l)), some (.str (S t)), some (eV o), v4]) ⟨rfl, some 0, none, rfl, fun j hj => by cases hj; exact z0, rfl⟩ ?_ ?_ ?_ ?_
    · rintro k σ J' hk ⟨rfl, _⟩
      show k < (S t).cps.size
      simpa using hk
    · rintro σ J' ⟨rfl, _⟩
      show (S t).cps.size ≤ t.length
      simp
    · rintro k σ J' x J2 hk ⟨rfl, o, v3, ho, hj, rfl⟩ ⟨rfl, c, ec, rfl⟩
      have ec : t[k]? = some c := by simpa using ec
      have tk : t.take (k + 1) = t.take k ++ [c] := by rw [List.take_succ, ec]; rfl
      have tt : t = t.take (k + 1) ++ t.drop (k + 1) := (List.take_append_drop _ _).symm
      walk_at "go"
      cases o with
      | none =>
        dsimp only [eV]
        walk_at "go"
        refine ite2 (fun _ => ?_) (fun e => absurd (decide_eq_true rfl) e)
        refine ite2 (fun _ => ?_) (fun e => absurd rfl e)
        have e1 : rs (tb zr) (ixOf l) (some 0) t = none := by
          conv => lhs; rw [← List.take_append_drop k t]
          rw [rs_app, ← ho, rs_none]
        rw [e1] at q
        exact q
      | some s0 =>
        have hs := hj s0 rfl
        dsimp only [eV]
        walk_at "go"
        refine ite2 (fun e => ?_) (fun e => ?_)
        · have nc : c ∉ l := by simpa using e
          have e1 : rs (tb zr) (ixOf l) (some 0) t = none := by
            conv => lhs; rw [tt]
            rw [rs_app, tk, rs_app, ← ho, rs_one, ixOf_none.mpr nc]
            exact rs_none _ _ _
          rw [e1] at q
          exact q
        · have hc : c ∈ l := by simpa using e
          obtain ⟨i, hi⟩ : ∃ i, ixOf l c = some i := by
            cases e1 : ixOf l c with
            | none => exact absurd hc (ixOf_none.mp e1)
            | some i => exact ⟨i, rfl⟩
          have li := ixOf_some hi
          have il := (List.getElem?_eq_some_iff.mp li).1
          obtain ⟨z, hz⟩ : ∃ z, zr[s0]? = some z := ⟨_, List.getElem?_eq_getElem hs⟩
          have mz : z.2 ∈ tb zr := List.mem_map.mpr ⟨z, List.mem_of_getElem? hz, rfl⟩
          have lz := wf.row _ mz
          have rx := row_nx hz (i := i) (by omega)
          have hrow := hR.at_ z (List.mem_of_getElem? hz)
          walk_at "go"
          refine ixv hR.sq (atI_nat (v := .ref z.1) (by rw [List.getElem?_map, hz]; rfl)) ?_
          walk_at "go"
          rw [find_one nd li]
          refine ixv hrow (atI_nat (row_at (by omega))) ?_
          refine ⟨rfl, nx (tb zr) s0 i, _, ?_, fun j hj => ?_, by rw [rx]; rfl⟩
          · rw [tk, rs_app, ← ho, rs_one, hi]
          · rw [← lR]
            exact (nx_lt wf hj).1
    · rintro σ J' ⟨rfl, o, v3, ho, hj, rfl⟩
      rw [List.take_length] at ho
      walk_at "go"
      rw [ho]
      exact q
def spWord (K : PySem.W.Frag) : Sp := fun vs H Q _ => ∃ (a p : Addr) (n mo : Nat) (ds : List Int) (l : List Nat), vs = [.ref a, .ref p, .str (S l), .int (mo : Int)] ∧ Tk K a p ds n H H ∧ 0 < l.length ∧ l.length ≤ 100 ∧ mo ≤ 100 ∧ ∀ (t : List Nat) H', Tk K a p ds n H H' → t.length ≤ mo → (∀ c ∈ t, c ∈ l) → Q (.str (S t)) H'
theorem ok_word (F : FnP K "_law_word" s_word f fd) (m_int : mg "int" = none) (m_len : mg "len" = none) (m_range : mg "range" = none) (c_take : Cal P w K mg base 1 "_law_take" (spTake K)) : FnOk P w K mg base CX0 2 f fd P_word (spWord K) := by
  refine F.ok sc_word (fun vs H Q E h => ?_) (fun cdv A outer s H vs Q E hr h => ?_)
  · obtain ⟨a, p, n, mo, ds, l, rfl, _⟩ := h
    rfl
  · obtain ⟨a, p, n, mo, ds, l, rfl, hT, l0, l1, mo1, q⟩ := h
    refine ⟨_, PSs.nox (pss_cons (ps_set (i := 4) sc_word.nd rfl (by first | exact .inl rfl | exact .inr rfl) (pe_op op_mod (pe_callTy call_int1 (by rfl) m_int (by decide +kernel) (pa_cons (pe_cl c_take hr (by decide) (by rfl) (pa_cons (pv 0) (pa_cons (pv 1) pa_nil))) pa_nil)) (pe_op op_add (pv 3) pe_int)))
      (pss_one (ps_ret (pe_join pe_str (pe_lc (own := [("_law_k", 5)]) (g := (gName 5)) (tt := tYes) (by rfl) sc_word.nd (pi_range1 (by rfl) m_range (pa_cons (pv 4) pa_nil)) (blkOk_by (own := [("_law_k", 5)]) (N := N_word) (sc := defScope s_word) (by decide +kernel)) (fun _ _ _ _ _ => (pg_name (i := 5) sc_word.nd rfl (by first | exact .inl rfl | exact .inr rfl))) (fun _ _ _ _ _ => pts_nil) (fun _ _ _ _ _ => (pe_ix ix_str (pv 2) (pe_op op_mod (pe_callTy call_int1 (by rfl) m_int (by decide +kernel) (pa_cons (pe_cl c_take hr (by decide) (by rfl) (pa_cons (pv 0) (pa_cons (pv 1) pa_nil))) pa_nil)) (pe_callB call_len_str (by rfl) m_len PySem.boot_len (pa_cons (pv 2) pa_nil))) (fun _ _ => rfl)))))))), ?_⟩
    obtain ⟨mm, em⟩ := hT.pl
    walk_at "go"
    refine ⟨a, p, n, mm, ds, rfl, SqL.of hT.hA, hT.hd, em, hT.ne, fun r r0 r1 => ?_⟩
    obtain ⟨hT4, _⟩ := hT.next em
    generalize upd H p (.lst [.int ((mm + 1 : Nat) : Int)]) = H4 at hT4
    obtain ⟨sz, esz, hsz⟩ := modN r (Nat.succ_pos mo)
    have hlen : (S l).length ≤ sizeLine := by rw [S_len]; exact szl (by omega)
    walk_at "go"
    dsimp only
    rw [show r % ((mo : Int) + 1) = (sz : Int) from esz]
    walk_at "go"
    refine ⟨⟨_, rfl⟩, ?_⟩
    walk_at "go"
    intro D nD
    refine lc_gen (n := sz) (fun i J1 => Tk K a p ds n H J1 ∧ ∃ t : List Nat, J1 D = some (.lst (t.map fun c => V.str (S [c]))) ∧ t.length = i ∧ ∀ c ∈ t, c ∈ l) ⟨hT4.more (same_new nD), [], upd_same, rfl, fun c h => absurd h List.not_mem_nil⟩ ?_ ?_ ?_ ?_
    · intro i J1 hi _
      show i < (sz : Int).toNat
      omega
    · intro J1 _
      show (sz : Int).toNat ≤ sz
      omega
    · rintro i J1 x J2 hi ⟨hT5, t, eD, lt, tl⟩ ⟨rfl, rfl⟩
      obtain ⟨m5, em5⟩ := hT5.pl
      have pD : p ≠ D := fun z => by
        obtain ⟨m4, em4⟩ := hT4.pl
        rw [z, nD] at em4
        cases em4
      have aD : a ≠ D := fun z => by
        have := hT4.hA
        rw [z, nD] at this
        cases this
      walk_at "go"
      refine ⟨a, p, n, m5, ds, rfl, SqL.of hT5.hA, hT5.hd, em5, hT5.ne, fun r5 r50 r51 => ?_⟩
      obtain ⟨hT6, sb6⟩ := hT5.next em5
      have eD6 := sb6 _ _ pD.symm eD
      generalize upd J2 p (.lst [.int ((m5 + 1 : Nat) : Int)]) = J3 at hT6 eD6
      obtain ⟨c, ea⟩ := sgn_at (S l) r5 (by rw [S_len]; exact l0)
      have cl : c ∈ l := atI_in (l := l) (i := r5 % ((S l).length : Int)) ea
      walk_at "go"
      rw [S_len] at ea ⊢
      refine ⟨by show (0 : Int) < (l.length : Int); omega, ?_⟩
      refine ⟨S l, _, c, rfl, rfl, hlen, ea, ?_⟩
      exact ⟨_, eD6, by rw [List.length_map]; exact szlt (by omega), hT6.at_ (hT4.nn nD) pD aD, t ++ [c], by rw [upd_same, List.map_append]; rfl, by rw [List.length_append, lt]; rfl, fun x hx => (List.mem_append.mp hx).elim (tl x) fun z => by rw [List.mem_singleton.mp z]; exact cl⟩
    rintro J1 ⟨hT5, t, eD, lt, tl⟩
    walk_at "go"
    refine ⟨S [], D, t.map fun c => S [c], rfl, rfl, .inl (SqL.of (by rw [List.map_map]; exact eD)), ?_, ?_⟩
    · rw [List.map_map]
      have e : (t.map ((fun x : Str => x.length) ∘ fun c => S [c])) = t.map fun _ => 1 := List.map_congr_left fun c _ => S_len _
      rw [e, sum_one, List.length_map, S_len]
      simp
      omega
    rw [show (t.map fun c => S [c]) = (t.map fun c => [c]).map S by rw [List.map_map]; rfl, SX.join_S, join_one]
    exact q t J1 hT5 (by omega) tl
end
end Z
set_option linter.all false
set_option maxRecDepth 100000
namespace Mc
/-! ### the normal form is determined by the accepted texts -/
structure Ab (m : Nat) (R : Tbl) (X : Nat → List Nat → Prop) : Prop where
  zero : 0 < R.length
  row : ∀ r ∈ R, r.length = m
  inj : ∀ i j, i < R.length → j < R.length → (∀ w, X i w ↔ X j w) → i = j
  live : ∀ i, i < R.length → ∃ w, X i w
  no : ∀ i k, i < R.length → nx R i k = none → ∀ w, ¬ X i (k :: w)
  yes : ∀ i k j, nx R i k = some j → j < R.length ∧ ∀ w, X j w ↔ X i (k :: w)
  ord : ∀ j : Nat, 0 < j → j < R.length → ∃ i k : Nat, i < j ∧ nx R i k = some j ∧ ∀ (i' k' j' : Nat), (i' < i ∨ i' = i ∧ k' < k) → nx R i' k' = some j' → j' < j
theorem Ab.step {m : Nat} {R R' : Tbl} {X X' : Nat → List Nat → Prop} (h : Ab m R X) (h' : Ab m R' X') {i k j : Nat} (hi' : i < R'.length) (e : ∀ w, X i w ↔ X' i w) (hj : nx R i k = some j) : ∃ j', nx R' i k = some j' ∧ ∀ w, X j w ↔ X' j' w := by
  obtain ⟨lj, ej⟩ := h.yes i k j hj
  cases c : nx R' i k with
  | none =>
    obtain ⟨w, xw⟩ := h.live j lj
    exact absurd ((e _).mp ((ej w).mp xw)) (h'.no i k hi' c w)
  | some j' =>
    exact ⟨j', rfl, fun w => (ej w).trans ((e _).trans ((h'.yes i k j' c).2 w).symm)⟩
theorem Ab.grow {m : Nat} {R R' : Tbl} {X X' : Nat → List Nat → Prop} (h : Ab m R X) (h' : Ab m R' X') {n : Nat} (n0 : 0 < n) (ih : ∀ i, i < n → (i < R.length ↔ i < R'.length) ∧ (i < R.length → ∀ w, X i w ↔ X' i w)) (hn : n < R.length) : n < R'.length ∧ ∀ w, X n w ↔ X' n w := by
  obtain ⟨i, k, hi, e1, mi⟩ := h.ord n n0 hn
  have li : i < R.length := by omega
  have li' := (ih i hi).1.mp li
  obtain ⟨j', e2, q⟩ := h.step h' li' ((ih i hi).2 li) e1
  have lj' := (h'.yes i k j' e2).1
  have key : j' = n := by
    rcases Nat.lt_trichotomy j' n with c | c | c
    · have a := ih j' c
      have := h.inj j' n (a.1.mpr lj') hn fun w => ((a.2 (a.1.mpr lj')) w).trans (q w).symm
      omega
    · exact c
    · obtain ⟨i2, k2, hi2, e3, mi2⟩ := h'.ord n n0 (by omega)
      have nl : ¬ (i < i2 ∨ i = i2 ∧ k < k2) := fun z => by have := mi2 i k j' z e2; omega
      have ne : ¬ (i = i2 ∧ k = k2) := fun ⟨a, b⟩ => by subst a b; rw [e2] at e3; injection e3; omega
      have l2 : i2 < i ∨ i2 = i ∧ k2 < k := by omega
      have li2' : i2 < R'.length := by omega
      have li2 := (ih i2 hi2).1.mpr li2'
      obtain ⟨j3, e4, q4⟩ := h'.step h li2 (fun w => ((ih i2 hi2).2 li2 w).symm) e3
      have lt := mi i2 k2 j3 l2 e4
      have lj3 := (h.yes i2 k2 j3 e4).1
      have := h'.inj j3 n ((ih j3 lt).1.mp lj3) (by omega) fun w => ((ih j3 lt).2 lj3 w).symm.trans (q4 w).symm
      omega
  subst key
  exact ⟨lj', q⟩
theorem Ab.all {m : Nat} {R R' : Tbl} {X X' : Nat → List Nat → Prop} (h : Ab m R X) (h' : Ab m R' X') (e : ∀ w, X 0 w ↔ X' 0 w) : ∀ n i, i < n → (i < R.length ↔ i < R'.length) ∧ (i < R.length → ∀ w, X i w ↔ X' i w) := by
  intro n
  induction n with
  | zero => exact fun i hi => absurd hi (Nat.not_lt_zero _)
  | succ n ih =>
    intro i hi
    by_cases c : i < n
    · exact ih i c
    · have : i = n := by omega
      subst this
      by_cases c0 : i = 0
      · subst c0
        exact ⟨⟨fun _ => h'.zero, fun _ => h.zero⟩, fun _ => e⟩
      · have ih' : ∀ j, j < i → (j < R'.length ↔ j < R.length) ∧ (j < R'.length → ∀ w, X' j w ↔ X j w) := fun j hj => ⟨(ih j hj).1.symm, fun l w => ((ih j hj).2 ((ih j hj).1.mpr l) w).symm⟩
        exact ⟨⟨fun l => (h.grow h' (by omega) ih l).1, fun l => (h'.grow h (by omega) ih' l).1⟩, fun l => (h.grow h' (by omega) ih l).2⟩
theorem tbl_ext {m : Nat} {R R' : Tbl} (l : R.length = R'.length) (h : ∀ r ∈ R, r.length = m) (h' : ∀ r ∈ R', r.length = m) (e : ∀ i k, i < R.length → nx R i k = nx R' i k) : R = R' := by
  apply List.ext_getElem l
  intro i h1 h2
  have a := h _ (List.getElem_mem h1)
  have b := h' _ (List.getElem_mem h2)
  apply List.ext_getElem (a.trans b.symm)
  intro k k1 k2
  have := e i k h1
  rw [nx_at (List.getElem?_eq_getElem h1) (List.getElem?_eq_getElem k1), nx_at (List.getElem?_eq_getElem h2) (List.getElem?_eq_getElem k2)] at this
  exact this
theorem Ab.uniq {m : Nat} {R R' : Tbl} {X X' : Nat → List Nat → Prop} (h : Ab m R X) (h' : Ab m R' X') (e : ∀ w, X 0 w ↔ X' 0 w) : R = R' ∧ ∀ i, i < R.length → ∀ w, X i w ↔ X' i w := by
  have al := h.all h' e
  have l : R.length = R'.length := by
    rcases Nat.lt_trichotomy R.length R'.length with c | c | c
    · have := (al (R.length + 1) R.length (by omega)).1.mpr c
      omega
    · exact c
    · have := (al (R'.length + 1) R'.length (by omega)).1.mp c
      omega
  have x : ∀ i, i < R.length → ∀ w, X i w ↔ X' i w := fun i hi => (al (i + 1) i (by omega)).2 hi
  refine ⟨tbl_ext l h.row h'.row fun i k hi => ?_, x⟩
  have hi' : i < R'.length := by omega
  cases c : nx R i k with
  | none =>
    cases c' : nx R' i k with
    | none => rfl
    | some j =>
      obtain ⟨j', e2, _⟩ := h'.step h hi (fun w => (x i hi w).symm) c'
      rw [c] at e2
      cases e2
  | some j =>
    obtain ⟨j', e2, q⟩ := h.step h' hi' (x i hi) c
    have lj := (h.yes i k j c).1
    have lj' := (h'.yes i k j' e2).1
    rw [e2, h'.inj j j' (by omega) lj' fun w => (x j lj w).symm.trans (q w)]
theorem NfOf.ab {T : Tbl} {G : Nat → Prop} {m : Nat} {R : Tbl} {g met : List Nat} (h : NfOf T G m R g met) : Ab m R fun i w => ∃ s, met[i]? = some s ∧ Acc T G s w := by
  have ex : ∀ i, i < R.length → ∃ s, met[i]? = some s := fun i hi => ⟨_, List.getElem?_eq_getElem (by rw [← h.len]; exact hi)⟩
  refine ⟨by rw [h.len]; exact (List.getElem?_eq_some_iff.mp h.zero).1, h.row, fun i j hi hj e => ?_, fun i hi => ?_, fun i k hi n w => ?_, fun i k j hj => ?_, by rw [h.len]; exact h.ord⟩
  · obtain ⟨s, es⟩ := ex i hi
    obtain ⟨t, et⟩ := ex j hj
    refine h.ap i j s t es et fun w => ⟨fun a => ?_, fun a => ?_⟩
    · obtain ⟨t', e1, a'⟩ := (e w).mp ⟨s, es, a⟩
      rw [et] at e1
      cases e1
      exact a'
    · obtain ⟨t', e1, a'⟩ := (e w).mpr ⟨t, et, a⟩
      rw [es] at e1
      cases e1
      exact a'
  · obtain ⟨s, es⟩ := ex i hi
    obtain ⟨w, a⟩ := (h.live s (List.mem_of_getElem? es)).2
    exact ⟨w, s, es, a⟩
  · rintro ⟨s, es, a⟩
    obtain ⟨e, h1, b⟩ := acc_cons.mp a
    exact h.no i s k es n e h1 ⟨w, b⟩
  · obtain ⟨r, h1, h2⟩ := nx_mem hj
    obtain ⟨s, es⟩ := ex i (List.getElem?_eq_some_iff.mp h1).1
    obtain ⟨e, t, h3, h4, h5⟩ := h.yes i s k j es hj
    refine ⟨by rw [h.len]; exact (List.getElem?_eq_some_iff.mp h4).1, fun w => ⟨?_, ?_⟩⟩
    · rintro ⟨t', e1, a⟩
      rw [h4] at e1
      cases e1
      exact ⟨s, es, acc_cons.mpr ⟨e, h3, (h5 w).mpr a⟩⟩
    · rintro ⟨s', e1, a⟩
      rw [es] at e1
      cases e1
      obtain ⟨e', h6, b⟩ := acc_cons.mp a
      rw [h3] at h6
      cases h6
      exact ⟨t, h4, (h5 w).mp b⟩
theorem asc_ext : ∀ {l m : List Nat}, l.Pairwise (· < ·) → m.Pairwise (· < ·) → (∀ x, x ∈ l ↔ x ∈ m) → l = m
  | [], [], _, _, _ => rfl
  | [], y :: m, _, _, h => absurd ((h y).mpr List.mem_cons_self) (by simp)
  | x :: l, [], _, _, h => absurd ((h x).mp List.mem_cons_self) (by simp)
  | x :: l, y :: m, p, q, h => by
    obtain ⟨p1, p2⟩ := List.pairwise_cons.mp p
    obtain ⟨q1, q2⟩ := List.pairwise_cons.mp q
    have e : x = y := by
      rcases List.mem_cons.mp ((h x).mp List.mem_cons_self) with a | a
      · exact a
      · rcases List.mem_cons.mp ((h y).mpr List.mem_cons_self) with b | b
        · exact b.symm
        · have := q1 x a
          have := p1 y b
          omega
    subst e
    rw [asc_ext p2 q2 fun z => ⟨fun m1 => ?_, fun m1 => ?_⟩]
    · rcases List.mem_cons.mp ((h z).mp (List.mem_cons_of_mem _ m1)) with a | a
      · have := p1 z m1
        omega
      · exact a
    · rcases List.mem_cons.mp ((h z).mpr (List.mem_cons_of_mem _ m1)) with a | a
      · have := q1 z m1
        omega
      · exact a
def AccS (T : Tbl) (G : Nat → Prop) (w : List Nat) : Prop := ∃ t, rn T (st T) w = some t ∧ G t
theorem NfOf.pos {T : Tbl} {G : Nat → Prop} {m : Nat} {R : Tbl} {g met : List Nat} (h : NfOf T G m R g met) : st T = some 0 := if_neg (by have := (h.live 0 (List.mem_of_getElem? h.zero)).1; omega)
theorem NfOf.accS {T : Tbl} {G : Nat → Prop} {m : Nat} {R : Tbl} {g met : List Nat} (h : NfOf T G m R g met) (w : List Nat) : (∃ s, met[0]? = some s ∧ Acc T G s w) ↔ AccS T G w := by
  unfold AccS
  rw [h.pos]
  constructor
  · rintro ⟨s, e, a⟩
    rw [h.zero] at e
    cases e
    exact a
  · exact fun a => ⟨0, h.zero, a⟩
theorem Nf.uniq {T T' : Tbl} {G G' : Nat → Prop} {m : Nat} {R R' : Tbl} {g g' : List Nat} (h : Nf T G m R g) (h' : Nf T' G' m R' g') (e : ∀ w, AccS T G w ↔ AccS T' G' w) : R = R' ∧ g = g' := by
  have no : ∀ {T : Tbl} {G : Nat → Prop}, (T = [] ∨ ¬ Liv T G 0) → ∀ w, ¬ AccS T G w := by
    rintro T G h w ⟨t, h1, h2⟩
    rcases h with rfl | h
    · rw [show st [] = none from rfl, rn_none] at h1
      cases h1
    · unfold st at h1
      split at h1
      · rw [rn_none] at h1; cases h1
      · exact h ⟨w, t, h1, h2⟩
  have ex : ∀ {T : Tbl} {G : Nat → Prop} {R : Tbl} {g met : List Nat}, NfOf T G m R g met → ∃ w, AccS T G w := fun n => by
    obtain ⟨w, a⟩ := (n.live 0 (List.mem_of_getElem? n.zero)).2
    exact ⟨w, (n.accS w).mp ⟨0, n.zero, a⟩⟩
  rcases h with ⟨r1, r2, h⟩ | ⟨met, h⟩
  · rcases h' with ⟨r3, r4, h'⟩ | ⟨met', h'⟩
    · rw [r1, r2, r3, r4]
      exact ⟨rfl, rfl⟩
    · obtain ⟨w, a⟩ := ex h'
      exact absurd ((e w).mpr a) (no h w)
  · rcases h' with ⟨r3, r4, h'⟩ | ⟨met', h'⟩
    · obtain ⟨w, a⟩ := ex h
      exact absurd ((e w).mp a) (no h' w)
    · obtain ⟨eR, x⟩ := h.ab.uniq h'.ab fun w => (h.accS w).trans ((e w).trans (h'.accS w).symm)
      refine ⟨eR, asc_ext h.asc h'.asc fun i => (h.good i).trans (Iff.trans ?_ (h'.good i).symm)⟩
      have lm : met.length = met'.length := by rw [← h.len, ← h'.len, eR]
      by_cases c : i < R.length
      · have := x i c []
        simp only [acc_nil] at this
        exact this
      · constructor
        · rintro ⟨s, e1, _⟩
          have := (List.getElem?_eq_some_iff.mp e1).1
          rw [← h.len] at this
          exact absurd this c
        · rintro ⟨s, e1, _⟩
          have := (List.getElem?_eq_some_iff.mp e1).1
          rw [← h'.len, ← eR] at this
          exact absurd this c
end Mc
set_option linter.all false
set_option maxRecDepth 100000
namespace Mc
/-! ### languages: sets of texts, a text as its letters' numbers -/
abbrev Lg := List Nat → Prop
/-- the numbers of a text's letters, none if one is no letter -/
def idx (ix : Nat → Option Nat) : List Nat → Option (List Nat)
  | [] => some []
  | c :: w => match ix c, idx ix w with
    | some k, some v => some (k :: v)
    | _, _ => none
theorem rs_idx (T : Tbl) (ix : Nat → Option Nat) : ∀ (w : List Nat) (o : Option Nat), rs T ix o w = match idx ix w with | none => none | some v => rn T o v
  | [], o => by cases o <;> rfl
  | c :: w, none => by
    rw [rs_none]
    cases idx ix (c :: w) with
    | none => rfl
    | some v => exact (rn_none T v).symm
  | c :: w, some s => by
    show (match ix c with | none => none | some k => rs T ix (nx T s k) w) = _
    unfold idx
    cases h : ix c with
    | none => rfl
    | some k =>
      show rs T ix (nx T s k) w = _
      rw [rs_idx T ix w]
      cases idx ix w <;> rfl
theorem idx_app (ix : Nat → Option Nat) : ∀ (u v : List Nat), idx ix (u ++ v) = match idx ix u, idx ix v with | some a, some b => some (a ++ b) | _, _ => none
  | [], v => by
    show idx ix v = _
    cases idx ix v <;> rfl
  | c :: u, v => by
    show (match ix c, idx ix (u ++ v) with | some k, some v => some (k :: v) | _, _ => none) = match (match ix c, idx ix u with | some k, some v => some (k :: v) | _, _ => none), idx ix v with | some a, some b => some (a ++ b) | _, _ => none
    rw [idx_app ix u v]
    cases ix c <;> cases idx ix u <;> cases idx ix v <;> rfl
theorem idx_len {ix : Nat → Option Nat} : ∀ {u v : List Nat}, idx ix u = some v → v.length = u.length
  | [], v, h => by cases h; rfl
  | c :: u, v, h => by
    unfold idx at h
    cases h1 : ix c with
    | none => rw [h1] at h; cases h
    | some k =>
      cases h2 : idx ix u with
      | none => rw [h1, h2] at h; cases h
      | some v' =>
        rw [h1, h2] at h
        cases h
        rw [List.length_cons, List.length_cons, idx_len h2]
/-- the texts of a language -/
def Txl (ix : Nat → Option Nat) (L : Lg) (tx : List Nat) : Prop := ∃ v, idx ix tx = some v ∧ L v
theorem txl_rs {T : Tbl} {G : Nat → Prop} {ix : Nat → Option Nat} {tx : List Nat} : Txl ix (AccS T G) tx ↔ ∃ t, rs T ix (st T) tx = some t ∧ G t := by
  unfold Txl AccS
  rw [rs_idx]
  cases idx ix tx with
  | none => exact ⟨fun ⟨v, h, _⟩ => (by cases h), fun ⟨t, h, _⟩ => (by cases h)⟩
  | some v =>
    constructor
    · rintro ⟨v', h, h2⟩
      cases h
      exact h2
    · exact fun h => ⟨v, rfl, h⟩
theorem Txl.congr {ix : Nat → Option Nat} {L L' : Lg} {tx : List Nat} (h : ∀ w, L w ↔ L' w) : Txl ix L tx ↔ Txl ix L' tx := ⟨fun ⟨v, a, b⟩ => ⟨v, a, (h v).mp b⟩, fun ⟨v, a, b⟩ => ⟨v, a, (h v).mpr b⟩⟩
/-! ### the normal form and its language -/
theorem Nf.lang {T : Tbl} {G : Nat → Prop} {m : Nat} {R : Tbl} {g : List Nat} (h : Nf T G m R g) (w : List Nat) : AccS R (fun j => j ∈ g) w ↔ AccS T G w := by
  obtain ⟨h1, h2⟩ := h.read w
  constructor
  · rintro ⟨j, e, hj⟩
    obtain ⟨t, e2, _, h3⟩ := h2 j e
    exact ⟨t, e2, h3.mp hj⟩
  · rintro ⟨t, e, ht⟩
    cases e2 : rn R (st R) w with
    | none => exact absurd (liv_good ht) (h1 e2 t e)
    | some j =>
      obtain ⟨t', e3, _, h3⟩ := h2 j e2
      rw [e] at e3
      cases e3
      exact ⟨j, e2, h3.mpr ht⟩
/-- every state of the normal form can reach a good one -/
theorem Nf.live {T : Tbl} {G : Nat → Prop} {m : Nat} {R : Tbl} {g : List Nat} (h : Nf T G m R g) {j : Nat} (hj : j < R.length) : Liv R (fun j => j ∈ g) j := by
  rcases h with ⟨rfl, _, _⟩ | ⟨met, h⟩
  · exact absurd hj (Nat.not_lt_zero _)
  · obtain ⟨w, s, es, a⟩ := h.ab.live j hj
    obtain ⟨t, e1, e2⟩ := a
    obtain ⟨b1, b2⟩ := h.sim w j s s es (Leq.refl s)
    cases e : rn R (some j) w with
    | none => exact absurd (liv_good e2) (b1 e t e1)
    | some i =>
      obtain ⟨t', t1, e3, e4, e5⟩ := b2 i e
      rw [e1] at e3
      cases e3
      exact ⟨w, i, e, (h.good i).mpr ⟨t1, e4, e5.good.mp e2⟩⟩
/-! ### beginnings -/
def BeL (L : Lg) : Lg := fun w => ∃ v, L (w ++ v)
theorem rn_some {T : Tbl} {o : Option Nat} {u v : List Nat} {t : Nat} (h : rn T o (u ++ v) = some t) : ∃ s, rn T o u = some s ∧ rn T (some s) v = some t := by
  rw [rn_app] at h
  cases e : rn T o u with
  | none => rw [e, rn_none] at h; cases h
  | some s => exact ⟨s, rfl, by rw [e] at h; exact h⟩
theorem bel_iff {T : Tbl} {G : Nat → Prop} {w : List Nat} : BeL (AccS T G) w ↔ ∃ t, rn T (st T) w = some t ∧ Liv T G t := by
  constructor
  · rintro ⟨v, t, e, g⟩
    obtain ⟨s, e1, e2⟩ := rn_some e
    exact ⟨s, e1, v, t, e2, g⟩
  · rintro ⟨s, e1, v, t, e2, g⟩
    exact ⟨v, t, by rw [rn_app, e1]; exact e2, g⟩
theorem bel_bel {L : Lg} {w : List Nat} : BeL (BeL L) w ↔ BeL L w := by
  constructor
  · rintro ⟨v, u, h⟩
    exact ⟨v ++ u, by rw [← List.append_assoc]; exact h⟩
  · rintro ⟨v, h⟩
    exact ⟨v, [], by rw [List.append_nil]; exact h⟩
theorem BeL.congr {L L' : Lg} (h : ∀ w, L w ↔ L' w) (w : List Nat) : BeL L w ↔ BeL L' w := ⟨fun ⟨v, a⟩ => ⟨v, (h _).mp a⟩, fun ⟨v, a⟩ => ⟨v, (h _).mpr a⟩⟩
theorem rn_lt {T : Tbl} {m : Nat} (wf : Wf T m) : ∀ {w : List Nat} {o : Option Nat} {t : Nat}, (∀ j, o = some j → j < T.length) → rn T o w = some t → t < T.length
  | [], o, t, h, e => h t (by cases o <;> exact e)
  | k :: w, none, t, h, e => by cases e
  | k :: w, some s, t, h, e => rn_lt wf (fun j hj => (nx_lt wf hj).1) (show rn T (nx T s k) w = some t from e)
theorem st_lt' (T : Tbl) : ∀ j, st T = some j → j < T.length := fun j h => by
  unfold st at h
  split at h
  · cases h
  · cases h
    omega
/-! ### endless ways -/
def LaL (L : Lg) : Prop := ∃ B : List Nat → Prop, B [] ∧ ∀ u, B u → L u ∧ ∃ k, B (u ++ [k])
def UnL (L : Lg) : Lg := fun w => ∀ u, u <+: w → LaL fun v => L (u ++ v)
def La (T : Tbl) (G : Nat → Prop) (s : Nat) : Prop := ∃ A : Nat → Prop, A s ∧ ∀ x, A x → G x ∧ ∃ k e, nx T x k = some e ∧ A e
theorem La.out {T : Tbl} {G : Nat → Prop} {s : Nat} (h : La T G s) : G s ∧ ∃ k e, nx T s k = some e ∧ La T G e := by
  obtain ⟨A, a, h⟩ := h
  obtain ⟨g, k, e, n, b⟩ := h s a
  exact ⟨g, k, e, n, A, b, h⟩
theorem LaL.congr {L L' : Lg} (h : ∀ w, L w ↔ L' w) : LaL L ↔ LaL L' := ⟨fun ⟨B, a, b⟩ => ⟨B, a, fun u hu => ⟨(h u).mp (b u hu).1, (b u hu).2⟩⟩, fun ⟨B, a, b⟩ => ⟨B, a, fun u hu => ⟨(h u).mpr (b u hu).1, (b u hu).2⟩⟩⟩
theorem UnL.congr {L L' : Lg} (h : ∀ w, L w ↔ L' w) (w : List Nat) : UnL L w ↔ UnL L' w := ⟨fun a u hu => (LaL.congr fun v => h _).mp (a u hu), fun a u hu => (LaL.congr fun v => h _).mpr (a u hu)⟩
theorem rn_snoc {T : Tbl} {o : Option Nat} {u : List Nat} {k t : Nat} (h : rn T o u = some t) : rn T o (u ++ [k]) = nx T t k := by
  rw [rn_app, h]
  show rn T (nx T t k) [] = nx T t k
  cases nx T t k <;> rfl
theorem la_lal {T : Tbl} {G : Nat → Prop} {s : Nat} : La T G s ↔ LaL fun v => Acc T G s v := by
  constructor
  · intro h
    refine ⟨fun u => ∃ t, rn T (some s) u = some t ∧ La T G t, ⟨s, rfl, h⟩, ?_⟩
    rintro u ⟨t, e, l⟩
    obtain ⟨g, k, e', n, l'⟩ := l.out
    exact ⟨⟨t, e, g⟩, k, e', by rw [rn_snoc e]; exact n, l'⟩
  · rintro ⟨B, b0, h⟩
    refine ⟨fun t => ∃ u, B u ∧ rn T (some s) u = some t, ⟨[], b0, rfl⟩, ?_⟩
    rintro t ⟨u, bu, e⟩
    obtain ⟨⟨t', e', g⟩, k, bk⟩ := h u bu
    rw [e] at e'
    cases e'
    obtain ⟨⟨t2, e2, _⟩, _⟩ := h _ bk
    have e3 := e2
    rw [rn_snoc e] at e3
    exact ⟨g, k, t2, e3, _, bk, e2⟩
theorem lal_at {T : Tbl} {G : Nat → Prop} {u : List Nat} : (LaL fun v => AccS T G (u ++ v)) ↔ ∃ t, rn T (st T) u = some t ∧ La T G t := by
  cases e : rn T (st T) u with
  | none =>
    constructor
    · rintro ⟨B, b0, h⟩
      obtain ⟨⟨t, h1, _⟩, _⟩ := h [] b0
      rw [rn_app, e, rn_none] at h1
      cases h1
    · rintro ⟨t, h, _⟩
      cases h
  | some s =>
    have key : ∀ v, AccS T G (u ++ v) ↔ Acc T G s v := fun v => by
      unfold AccS Acc
      rw [rn_app, e]
    constructor
    · intro h
      exact ⟨s, rfl, la_lal.mpr ((LaL.congr key).mp h)⟩
    · rintro ⟨t, h, l⟩
      cases h
      exact (LaL.congr key).mpr (la_lal.mp l)
theorem unl_iff {T : Tbl} {G : Nat → Prop} {w : List Nat} : UnL (AccS T G) w ↔ ∀ u, u <+: w → ∃ t, rn T (st T) u = some t ∧ La T G t :=
  ⟨fun h u hu => lal_at.mp (h u hu), fun h u hu => lal_at.mpr (h u hu)⟩
theorem pre_cases {u v x : List Nat} (h : x <+: u ++ v) : x <+: u ∨ ∃ y, y <+: v ∧ x = u ++ y := by
  obtain ⟨z, e⟩ := h
  rcases List.append_eq_append_iff.mp e with ⟨a, e1, e2⟩ | ⟨a, e1, e2⟩
  · exact .inl ⟨a, e1.symm⟩
  · exact .inr ⟨a, ⟨z, e2.symm⟩, e1⟩
theorem unl_unl {L : Lg} {w : List Nat} : UnL (UnL L) w ↔ UnL L w := by
  constructor
  · intro h u hu
    obtain ⟨B, b0, hb⟩ := h u hu
    have := (hb [] b0).1 u (by rw [List.append_nil]; exact List.prefix_refl u)
    exact this
  · intro h u hu
    obtain ⟨B, b0, hb⟩ := h u hu
    refine ⟨fun v => ∀ y, y <+: v → B y, fun y hy => ?_, fun v hv => ⟨fun x hx => ?_, ?_⟩⟩
    · rw [List.prefix_nil.mp hy]
      exact b0
    · rcases pre_cases hx with hx | ⟨y, hy, rfl⟩
      · exact h x (hx.trans hu)
      · refine ⟨fun z => B (y ++ z), by show B (y ++ []); rw [List.append_nil]; exact hv y hy, fun z hz => ?_⟩
        obtain ⟨a, k, b⟩ := hb _ hz
        exact ⟨by show L (u ++ y ++ z); rw [List.append_assoc]; exact a, k, by show B (y ++ (z ++ [k])); rw [← List.append_assoc]; exact b⟩
    · obtain ⟨_, k, b⟩ := hb v (hv v (List.prefix_refl v))
      refine ⟨k, fun y hy => ?_⟩
      rcases pre_cases hy with hy | ⟨z, hz, rfl⟩
      · exact hv y hy
      · rcases List.prefix_cons_iff.mp hz with rfl | ⟨t, rfl, ht⟩
        · rw [List.append_nil]
          exact hv v (List.prefix_refl v)
        · rw [List.prefix_nil.mp ht]
          exact b
/-- the rows that lead to lasting states alone -/
theorem kept_acc {T T' : Tbl} {A : Nat → Prop} (h0 : 0 < T.length) (hl : T'.length = T.length) (a0 : A 0) (hn : ∀ s k e, nx T' s k = some e ↔ nx T s k = some e ∧ A e) (w : List Nat) : (∃ t, rn T' (st T') w = some t) ↔ ∀ u, u <+: w → ∃ t, rn T (st T) u = some t ∧ A t := by
  have e1 : st T = some 0 := if_neg (by omega)
  have e2 : st T' = some 0 := if_neg (by omega)
  rw [e1, e2]
  have key : ∀ (w : List Nat) (s : Nat), A s → ((∃ t, rn T' (some s) w = some t) ↔ ∀ u, u <+: w → ∃ t, rn T (some s) u = some t ∧ A t) := by
    intro w
    induction w with
    | nil =>
      intro s hs
      exact ⟨fun _ u hu => by rw [List.prefix_nil.mp hu]; exact ⟨s, rfl, hs⟩, fun _ => ⟨s, rfl⟩⟩
    | cons k w ih =>
      intro s hs
      constructor
      · rintro ⟨t, e⟩ u hu
        rcases List.prefix_cons_iff.mp hu with rfl | ⟨v, rfl, hv⟩
        · exact ⟨s, rfl, hs⟩
        · have e : rn T' (nx T' s k) w = some t := e
          cases c : nx T' s k with
          | none => rw [c, rn_none] at e; cases e
          | some e' =>
            obtain ⟨c1, c2⟩ := (hn s k e').mp c
            rw [c] at e
            obtain ⟨t', h1, h2⟩ := (ih e' c2).mp ⟨t, e⟩ v hv
            exact ⟨t', by show rn T (nx T s k) v = some t'; rw [c1]; exact h1, h2⟩
      · intro h
        obtain ⟨e', h1, h2⟩ := h [k] ⟨w, rfl⟩
        have h1 : rn T (nx T s k) [] = some e' := h1
        have c1 : nx T s k = some e' := by cases c : nx T s k <;> rw [c] at h1 <;> exact h1
        obtain ⟨t, e⟩ := (ih e' h2).mpr fun v hv => by
          obtain ⟨t, h3, h4⟩ := h (k :: v) (List.prefix_cons_iff.mpr (.inr ⟨v, rfl, hv⟩))
          exact ⟨t, by have h3 : rn T (nx T s k) v = some t := h3; rw [c1] at h3; exact h3, h4⟩
        exact ⟨t, by show rn T' (nx T' s k) w = some t; rw [(hn s k e').mpr ⟨c1, h2⟩]; exact e⟩
  exact key w 0 a0
end Mc
namespace Mc
structure Kpa (T : Tbl) (A : Nat → Prop) (m : Nat) (T' : Tbl) : Prop where
  len : T'.length = T.length
  wf : Wf T' m
  nx : ∀ s k e, nx T' s k = some e ↔ nx T s k = some e ∧ A e
theorem kpa_of {T : Tbl} {A : Nat → Prop} {m : Nat} {al : Nat → Bool} (wf : Wf T m) (h : ∀ s, s < T.length → (al s = true ↔ A s)) : Kpa T A m (kpT al T) where
  len := List.length_map ..
  wf := ⟨fun r hr => by
    obtain ⟨r0, h0, rfl⟩ := List.mem_map.mp hr
    rw [List.length_map]
    exact wf.row r0 h0, fun r hr e he => by
    obtain ⟨r0, h0, rfl⟩ := List.mem_map.mp hr
    obtain ⟨o, ho, h1⟩ := List.mem_map.mp he
    have := (kp_some.mp h1).1
    subst this
    unfold kpT
    rw [List.length_map]
    exact wf.ent r0 h0 e ho⟩
  nx := fun s k e => by
    rw [nx_kp, kp_some]
    constructor
    · rintro ⟨h1, h2⟩
      exact ⟨h1, (h e (nx_lt wf h1).1).mp h2⟩
    · rintro ⟨h1, h2⟩
      exact ⟨h1, (h e (nx_lt wf h1).1).mpr h2⟩
/-- the language of the kept rows, all states good -/
theorem Kpa.acc {T T' : Tbl} {A : Nat → Prop} {m : Nat} (h : Kpa T A m T') (h0 : 0 < T.length) (a0 : A 0) (w : List Nat) : AccS T' (fun j => j ∈ List.range T'.length) w ↔ ∀ u, u <+: w → ∃ t, rn T (st T) u = some t ∧ A t := by
  rw [← kept_acc h0 h.len a0 h.nx]
  constructor
  · rintro ⟨t, e, _⟩
    exact ⟨t, e⟩
  · rintro ⟨t, e⟩
    exact ⟨t, e, List.mem_range.mpr (rn_lt h.wf (st_lt' T') e)⟩
theorem unl_empty {T : Tbl} {G : Nat → Prop} (h : T = [] ∨ ¬ La T G 0) (w : List Nat) : ¬ UnL (AccS T G) w := by
  rw [unl_iff]
  intro z
  obtain ⟨t, e, l⟩ := z [] ⟨w, rfl⟩
  rcases h with rfl | h
  · cases e
  · unfold st at e
    split at e
    · cases e
    · cases e
      exact h l
end Mc
namespace Mc
theorem Nf.len {T : Tbl} {G : Nat → Prop} {m : Nat} {R : Tbl} {g : List Nat} (h : Nf T G m R g) : R.length ≤ T.length := by
  rcases h with ⟨rfl, _, _⟩ | ⟨met, h⟩
  · exact Nat.zero_le _
  · rw [h.len]
    have nd : met.Nodup := by
      rw [List.Nodup, List.pairwise_iff_getElem]
      intro i j hi hj hij e
      have h1 := List.getElem?_eq_getElem hi
      have h2 := List.getElem?_eq_getElem hj
      have := h.ap i j _ _ h1 h2 (by rw [e]; exact Leq.refl _)
      omega
    exact nd_len nd fun x hx => (h.live x hx).1
end Mc
namespace Mc
/-- one round over all states that takes out the ones that cannot go on -/
theorem round_out {T : Tbl} {m r : Nat} {a0 al : Nat → Bool} (wf : Wf T m) (h0 : r ≤ cnt (fun s => !a0 s) T.length ∨ ∀ s, s < T.length → a0 s = true → ∃ k e, nx T s k = some e ∧ a0 e = true) (mo : ∀ s, al s = true → a0 s = true) (cl : (∀ s, s < T.length → a0 s = true → ∃ k e, nx T s k = some e ∧ a0 e = true) → ∀ s, al s = a0 s)
    (st : ∀ s, s < T.length → al s = true → ∃ k e, nx T s k = some e ∧ a0 e = true) : r + 1 ≤ cnt (fun s => !al s) T.length ∨ ∀ s, s < T.length → al s = true → ∃ k e, nx T s k = some e ∧ al e = true := by
  by_cases c : ∀ s, s < T.length → a0 s = true → ∃ k e, nx T s k = some e ∧ a0 e = true
  · right
    intro s hs h2
    rw [cl c] at h2
    obtain ⟨k, e, h3, h4⟩ := c s hs h2
    exact ⟨k, e, h3, by rw [cl c]; exact h4⟩
  · have h1 := h0.resolve_right c
    by_cases d : ∃ x, x < T.length ∧ a0 x = true ∧ al x = false
    · obtain ⟨x, hx, e1, e2⟩ := d
      have := cnt_lt (al := fun s => !a0 s) (bl := fun s => !al s) (n := T.length) (fun s _ h => by
        cases e : al s with
        | false => rfl
        | true =>
          have h : (!a0 s) = true := h
          rw [mo s e] at h
          cases h) hx (show (!a0 x) = false by rw [e1]; rfl) (show (!al x) = true by rw [e2]; rfl)
      left
      omega
    · refine absurd (fun s hs h2 => ?_) c
      cases e4 : al s with
      | true => exact st s hs e4
      | false => exact absurd ⟨s, hs, h2, e4⟩ d
end Mc
namespace Mc
theorem kept_sub {T T' : Tbl} (h : ∀ s k e, nx T' s k = some e → nx T s k = some e) : ∀ (w : List Nat) (o : Option Nat) (t : Nat), rn T' o w = some t → rn T o w = some t
  | [], o, t, e => by cases o <;> exact e
  | k :: w, none, t, e => by cases e
  | k :: w, some s, t, e => by
    have e : rn T' (nx T' s k) w = some t := e
    show rn T (nx T s k) w = some t
    cases c : nx T' s k with
    | none => rw [c, rn_none] at e; cases e
    | some e' =>
      rw [c] at e
      rw [h s k e' c]
      exact kept_sub h w (some e') t e
/-- the same, the lasting states good -/
theorem Kpa.acc2 {T T' : Tbl} {A G' : Nat → Prop} {m : Nat} (h : Kpa T A m T') (h0 : 0 < T.length) (a0 : A 0) (hg : ∀ j, G' j ↔ j < T.length ∧ A j) (w : List Nat) : AccS T' G' w ↔ ∀ u, u <+: w → ∃ t, rn T (st T) u = some t ∧ A t := by
  have e0 : st T' = st T := by rw [show st T = some 0 from if_neg (by omega), show st T' = some 0 from if_neg (by have := h.len; omega)]
  rw [← h.acc h0 a0]
  constructor
  · rintro ⟨t, e, g⟩
    exact ⟨t, e, List.mem_range.mpr (rn_lt h.wf (st_lt' T') e)⟩
  · intro z
    obtain ⟨t, e, g⟩ := z
    have z2 := (h.acc h0 a0 w).mp ⟨t, e, g⟩ w (List.prefix_refl w)
    obtain ⟨t2, e2, a⟩ := z2
    have e3 := kept_sub (fun s k e h1 => ((h.nx s k e).mp h1).1) w _ _ e
    rw [e0, e2] at e3
    cases e3
    exact ⟨t, e, (hg t).mpr ⟨by have := rn_lt h.wf (st_lt' T') e; rw [h.len] at this; exact this, a⟩⟩
end Mc
set_option Elab.async false
set_option linter.all false
set_option maxRecDepth 100000
set_option maxHeartbeats 4000000
namespace Z
open Mc PySem PySem.Spec PyProof.Rows L2
/-- the rows of a table, each copied (c: into lists, else into tuples) -/
def rwO (c : Bool) (r : List (Option Nat)) : HO := if c then .lst (r.map eV) else .tup (r.map eV)
theorem lc_rows {K : PySem.W.Frag} {q c : Bool} {a D : Addr} {zs : List (Addr × List (Option Nat))} {H0 : Hp} {i : Nat} {te : TE} {vs : List Nat} {σ : L2.St} {Qd : Hp → Prop} (hT : Tb true q K H0 a zs) (hn : zs.length ≤ 1000000) (nD : H0 D = none) (hw : ∀ x : Addr, wipe ((wipe σ vs).set i (some (.ref x))) vs = wipe σ vs)
    (ht : ∀ (x : Addr) (r : List (Option Nat)) J (Q : VK), Same H0 J → r ∈ tb zs → SqK q K J x (r.map eV) → (∀ l, J l = none → Q (.ref l) (upd J l (rwO c r))) → te ((wipe σ vs).set i (some (.ref x))) J Q)
    (hd : ∀ J (hs : List (Addr × List (Option Nat))), Same H0 J → J D = some (.lst (hs.map fun z => V.ref z.1)) → tb hs = tb zs → (∀ z ∈ hs, J z.1 = some (rwO c z.2) ∧ H0 z.1 = none ∧ z.1 ≠ D) → Qd J) : lcW (Itl K a) (gName i) tYes te vs σ D Qd H0 := by
  have hS : SqL K H0 a (zs.map fun z => V.ref z.1) := hT.sq
  have ex : ∀ k (hk : k < zs.length), (zs.map fun z => V.ref z.1)[k]? = some (V.ref (zs[k]).1) := fun k hk => by
    rw [List.getElem?_map, List.getElem?_eq_getElem hk]
    rfl
  refine lc_gen (n := zs.length) (fun k J => Same H0 J ∧ ∃ hs : List (Addr × List (Option Nat)), J D = some (.lst (hs.map fun z => V.ref z.1)) ∧ hs.length = k ∧ tb hs = (tb zs).take k ∧ ∀ z ∈ hs, J z.1 = some (rwO c z.2) ∧ H0 z.1 = none ∧ z.1 ≠ D) ⟨same_new nD, [], upd_same, rfl, rfl, fun z h => absurd h (by simp)⟩ (fun k J hk p => ⟨_, _, p.1.seq hS, ex k hk⟩) (fun J p => ⟨_, p.1.seq hS, by rw [List.length_map]; exact Nat.le_refl _⟩) ?_ ?_
  · rintro k J x J' hk ⟨s1, hs, eD, ll, et, fr⟩ ⟨rfl, y⟩
    have y := y _ (s1.seq hS)
    rw [ex k hk] at y
    cases y
    refine ⟨hw _, ?_⟩
    dsimp only [tYes]
    rw [if_pos rfl]
    have mk : (zs[k]).2 ∈ tb zs := List.mem_map.mpr ⟨_, List.getElem_mem hk, rfl⟩
    refine ht _ (zs[k]).2 J' _ s1 mk (Z.Same.sqK s1 (hT.at_ _ (List.getElem_mem hk))) fun l nl => ?_
    have lD : D ≠ l := ne_of_none eD nl
    have nlH : H0 l = none := none_of s1 nl
    refine ⟨_, by rw [upd_ne lD]; exact eD, by rw [List.length_map, ll]; exact Nat.lt_of_lt_of_le (show k < 2000000 by omega) (by decide), Z.Same.mut (s1.trans (same_new nl)) nD, hs ++ [(l, (zs[k]).2)], by rw [upd_same, List.map_append]; rfl, by rw [List.length_append, ll]; rfl, ?_, fun z h => ?_⟩
    · unfold tb at et ⊢
      rw [List.map_append, et, List.take_succ, List.getElem?_map, List.getElem?_eq_getElem hk]
      rfl
    · rcases List.mem_append.mp h with h | h
      · obtain ⟨f1, f2, f3⟩ := fr z h
        exact ⟨by rw [upd_ne f3, upd_ne (ne_of_none f1 nl)]; exact f1, f2, f3⟩
      · rw [List.mem_singleton.mp h]
        exact ⟨by rw [upd_ne lD.symm, upd_same], nlH, lD.symm⟩
  · rintro J ⟨s1, hs, eD, ll, et, fr⟩
    refine hd J hs s1 eD ?_ fr
    rw [et, List.take_of_length_le (by unfold tb; rw [List.length_map]; exact Nat.le_refl _)]
/-- a store to a list leaves the machines as they are -/
theorem McAt.lst {C : Addr} {K : PySem.W.Frag} {H : Hp} {n p : Addr} {l : List Nat} {R : Tbl} {g : List Nat} {xs : List V} {o : HO} (hp : H p = some (.lst xs)) (h : McAt C K H n l R g) : McAt C K (upd H p o) n l R g := by
  have tk : ∀ {a : Addr} {ys : List V}, SqK false K H a ys → SqK false K (upd H p o) a ys := fun {a ys} h => by
    rcases h with (h | ⟨o', h⟩) | h
    · exact .inl (.inl (by rw [upd_ne (fun e => by rw [e, hp] at h; cases h)]; exact h))
    · exact .inl (.inr ⟨o', by rw [upd_ne (fun e => by rw [e, hp] at h; cases h)]; exact h⟩)
    · exact .inr h
  obtain ⟨dx, r, u, zr, h1, h2, h3, h4⟩ := h.ex
  refine ⟨dx, r, u, zr, ?_, ⟨tk h2.sq, fun z m => tk (h2.at_ z m)⟩, ?_, h4⟩
  · rw [upd_ne (fun e => by rw [e, hp] at h1; cases h1)]
    exact h1
  · rw [upd_ne (fun e => by rw [e, hp] at h3; cases h3)]
    exact h3
theorem cut_gsq (gs : List Nat) (lo hi : Option Int) : ∃ g2 : List Nat, cutV (gsq gs) lo hi = gsq g2 ∧ (∀ s ∈ g2, s ∈ gs) ∧ g2.length ≤ gs.length := by
  unfold cutV gsq
  rw [List.length_map, ← List.map_drop, ← List.map_take]
  exact ⟨_, rfl, fun s h => List.mem_of_mem_drop (List.mem_of_mem_take h), by rw [List.length_take, List.length_drop]; omega⟩
end Z
set_option pp.maxSteps 700
set_option Elab.async false
set_option linter.all false
set_option maxRecDepth 100000
set_option maxHeartbeats 4000000
open SX (S S_inj S_len S_cat)
namespace Z
open Mc
open PySem PySem.Spec PyProof.Rows L2
open C8 (pss_cut tCut)
local macro_rules | `(tactic| walk_at "num") => `(tactic| first | rfl | omega | decide | exact Nat.le_of_lt (small1000 (by simp)) | exact ⟨by omega, by omega⟩ | exact ⟨by omega, by omega, by omega⟩ | exact ⟨by decide, by decide, by decide⟩ | exact Or.inl ⟨by omega, by omega⟩ | exact Or.inr ⟨by omega, by omega⟩)
local macro_rules | `(tactic| walk_at "go") => `(tactic| repeat (first | refine ⟨_, rfl, ?_⟩ | refine ⟨_, _, rfl, rfl, ?_⟩ | refine ⟨_, _, rfl, ?_⟩ | (refine ⟨_, _, rfl, rfl, ?_, ?_⟩; focus walk_at "num") | refine Or.inl ⟨_, rfl, ?_⟩ | refine ⟨_, _, _, _, rfl, rfl, (by assumption), (by rfl), ?_⟩ | refine ⟨_, _, _, _, _, rfl, (by assumption), (by assumption), (by assumption), (by rfl), ?_⟩ | refine ⟨rfl, ?_⟩ | (refine And.intro ?_ ?_; focus walk_at "num")))
section
variable {P : Program} {w : World} {K : PySem.W.Frag} {mg : Str → Option Value} {base : Heap} {f C : Addr} {fd : FuncData}
def spM3 (C : Addr) (K : PySem.W.Frag) : Sp := fun vs H Q _ => ∃ (q q2 : Bool) (a : Addr) (l : List Nat) (gv : V) (zs : List (Addr × List (Option Nat))) (gs : List Nat), vs = [.str (S l), .ref a, gv] ∧ l.Nodup ∧ l ≠ [] ∧ l.length ≤ 1000 ∧ Tb q q2 K H a zs ∧ Wf (tb zs) l.length ∧ zs.length ≤ 1000000 ∧ GoodV K H zs.length gv gs ∧
  ∀ (n : Addr) (R : Tbl) (g' : List Nat) H', Same H H' → H n = none → McAt C K H' n l R g' → Nf (tb zs) (inG gs) l.length R g' → Q (.ref n) H'
def spM2 (C : Addr) (K : PySem.W.Frag) : Sp := fun vs H Q _ => ∃ (q q2 : Bool) (a : Addr) (l : List Nat) (zs : List (Addr × List (Option Nat))), vs = [.str (S l), .ref a] ∧ l.Nodup ∧ l ≠ [] ∧ l.length ≤ 1000 ∧ Tb q q2 K H a zs ∧ Wf (tb zs) l.length ∧ zs.length ≤ 1000000 ∧
  ∀ (n : Addr) (R : Tbl) (g' : List Nat) H', Same H H' → H n = none → McAt C K H' n l R g' → Nf (tb zs) (inG (List.range zs.length)) l.length R g' → Q (.ref n) H'
theorem GoodV.mono {H H' : Hp} {n : Nat} {gv : V} {gs : List Nat} (s : Same H H') (h : GoodV K H n gv gs) : GoodV K H' n gv gs := by
  obtain ⟨h1, h2⟩ := h
  refine ⟨?_, h2⟩
  rcases h1 with h1 | ⟨q3, g, e, hg⟩
  · exact .inl h1
  · exact .inr ⟨q3, g, e, Z.Same.sqK s hg⟩
theorem m3_imp : ∀ vs H Q E, spM3 C K vs H Q E → ∀ n dx, H n = none → H dx = none → dx ≠ n → spMIni C K (.ref n :: vs) (upd (upd H dx (.own n)) n (.ins C dx [])) (fun v H2 => v = .non ∧ Q (.ref n) H2) E := by
  rintro vs H Q E ⟨q, q2, a, l, gv, zs, gs, rfl, nd, ne, ll, hT, wf, lz, hg, qq⟩ n dx n1 n2 n3
  have sm : Same H (upd (upd H dx (.own n)) n (.ins C dx [])) := Z.Same.mut (same_new n2) n1
  refine ⟨q, q2, n, dx, a, l, gv, zs, gs, rfl, upd_same, nd, ne, ll, hT.mono sm, wf, lz, hg.mono sm, fun r u zr g' H' sb en hR eu nf => ⟨rfl, ?_⟩⟩
  exact qq n (tb zr) g' H' (fun c o e => sb c o (fun z => by rw [z, n1] at e; cases e) (sm c o e)) n1 ⟨dx, r, u, zr, en, hR, eu, rfl⟩ nf
theorem m2_imp : ∀ vs H Q E, spM2 C K vs H Q E → ∀ n dx, H n = none → H dx = none → dx ≠ n → spMIni C K (.ref n :: (vs ++ [.non])) (upd (upd H dx (.own n)) n (.ins C dx [])) (fun v H2 => v = .non ∧ Q (.ref n) H2) E := by
  rintro vs H Q E ⟨q, q2, a, l, zs, rfl, nd, ne, ll, hT, wf, lz, qq⟩ n dx n1 n2 n3
  exact m3_imp _ H Q E ⟨q, q2, a, l, .non, zs, List.range zs.length, rfl, nd, ne, ll, hT, wf, lz, ⟨.inl ⟨rfl, rfl⟩, fun s h => List.mem_range.mp h⟩, qq⟩ n dx n1 n2 n3
/-! ### machines by their languages -/
structure McL (C : Addr) (K : PySem.W.Frag) (H : Hp) (n : Addr) (l : List Nat) (sz : Nat) (L : Lg) : Prop where
  ex : ∃ (R : Tbl) (g : List Nat) (T : Tbl) (G : Nat → Prop), McAt C K H n l R g ∧ Nf T G l.length R g ∧ R.length ≤ sz ∧ ∀ w, AccS T G w ↔ L w
theorem McL.mono {H H' : Hp} {n : Addr} {l : List Nat} {sz : Nat} {L : Lg} (s : Same H H') (h : McL C K H n l sz L) : McL C K H' n l sz L := by
  obtain ⟨R, g, T, G, h1, h2, hz, h3⟩ := h.ex
  exact ⟨R, g, T, G, h1.mono s, h2, hz, h3⟩
theorem McL.congr {H : Hp} {n : Addr} {l : List Nat} {sz : Nat} {L L' : Lg} (e : ∀ w, L w ↔ L' w) (h : McL C K H n l sz L) : McL C K H n l sz L' := by
  obtain ⟨R, g, T, G, h1, h2, hz, h3⟩ := h.ex
  exact ⟨R, g, T, G, h1, h2, hz, fun w => (h3 w).trans (e w)⟩
theorem McL.at_ {H : Hp} {n : Addr} {l : List Nat} {sz : Nat} {L : Lg} (h : McL C K H n l sz L) : ∃ (R : Tbl) (g : List Nat), McAt C K H n l R g ∧ R.length ≤ sz ∧ Wf R l.length ∧ (∀ j ∈ g, j < R.length) ∧ (∀ j, j < R.length → Liv R (inG g) j) ∧ ∀ w, AccS R (inG g) w ↔ L w := by
  obtain ⟨R, g, T, G, h1, h2, hz, h3⟩ := h.ex
  exact ⟨R, g, h1, hz, h2.wf.1, h2.wf.2, fun j hj => h2.live hj, fun w => (h2.lang w).trans (h3 w)⟩
theorem McL.same {H : Hp} {n n' : Addr} {l : List Nat} {sz sz' : Nat} {L L' : Lg} (h : McL C K H n l sz L) (h' : McL C K H n' l sz' L') (e : ∀ w, L w ↔ L' w) : ∃ (R : Tbl) (g : List Nat), McAt C K H n l R g ∧ McAt C K H n' l R g := by
  obtain ⟨R, g, T, G, h1, h2, hz, h3⟩ := h.ex
  obtain ⟨R', g', T', G', h1', h2', hz', h3'⟩ := h'.ex
  obtain ⟨rfl, rfl⟩ := h2.uniq h2' fun w => (h3 w).trans ((e w).trans (h3' w).symm)
  exact ⟨R, g, h1, h1'⟩
theorem McL.ins {H : Hp} {n : Addr} {l : List Nat} {sz : Nat} {L : Lg} (h : McL C K H n l sz L) : ∃ dx r u, H n = some (.ins C dx (mF l r u)) := by
  obtain ⟨R, g, T, G, h1, h2, hz, h3⟩ := h.ex
  obtain ⟨dx, r, u, zr, e, _⟩ := h1.ex
  exact ⟨dx, r, u, e⟩
def spL3 (C : Addr) (K : PySem.W.Frag) : Sp := fun vs H Q _ => ∃ (q q2 : Bool) (a : Addr) (l : List Nat) (gv : V) (zs : List (Addr × List (Option Nat))) (gs : List Nat), vs = [.str (S l), .ref a, gv] ∧ l.Nodup ∧ l ≠ [] ∧ l.length ≤ 1000 ∧ Tb q q2 K H a zs ∧ Wf (tb zs) l.length ∧ zs.length ≤ 1000000 ∧ GoodV K H zs.length gv gs ∧
  ∀ (n : Addr) H', Same H H' → H n = none → McL C K H' n l zs.length (AccS (tb zs) (inG gs)) → Q (.ref n) H'
def spL2 (C : Addr) (K : PySem.W.Frag) : Sp := fun vs H Q _ => ∃ (q q2 : Bool) (a : Addr) (l : List Nat) (zs : List (Addr × List (Option Nat))), vs = [.str (S l), .ref a] ∧ l.Nodup ∧ l ≠ [] ∧ l.length ≤ 1000 ∧ Tb q q2 K H a zs ∧ Wf (tb zs) l.length ∧ zs.length ≤ 1000000 ∧
  ∀ (n : Addr) H', Same H H' → H n = none → McL C K H' n l zs.length (AccS (tb zs) (inG (List.range zs.length))) → Q (.ref n) H'
theorem l3_imp : ∀ vs H Q E, spL3 C K vs H Q E → ∀ n dx, H n = none → H dx = none → dx ≠ n → spMIni C K (.ref n :: vs) (upd (upd H dx (.own n)) n (.ins C dx [])) (fun v H2 => v = .non ∧ Q (.ref n) H2) E := by
  rintro vs H Q E ⟨q, q2, a, l, gv, zs, gs, e, nd, ne, ll, hT, wf, lz, hg, qq⟩
  exact m3_imp vs H Q E ⟨q, q2, a, l, gv, zs, gs, e, nd, ne, ll, hT, wf, lz, hg, fun n R g' H' s nn hM nf => qq n H' s nn ⟨R, g', _, _, hM, nf, by have := nf.len; unfold tb at this; rwa [List.length_map] at this, fun _ => Iff.rfl⟩⟩
theorem l2_imp : ∀ vs H Q E, spL2 C K vs H Q E → ∀ n dx, H n = none → H dx = none → dx ≠ n → spMIni C K (.ref n :: (vs ++ [.non])) (upd (upd H dx (.own n)) n (.ins C dx [])) (fun v H2 => v = .non ∧ Q (.ref n) H2) E := by
  rintro vs H Q E ⟨q, q2, a, l, zs, e, nd, ne, ll, hT, wf, lz, qq⟩
  exact m2_imp vs H Q E ⟨q, q2, a, l, zs, e, nd, ne, ll, hT, wf, lz, fun n R g' H' s nn hM nf => qq n H' s nn ⟨R, g', _, _, hM, nf, by have := nf.len; unfold tb at this; rwa [List.length_map] at this, fun _ => Iff.rfl⟩⟩
theorem accB_iff {g : List Nat} {o : Option Nat} : accB g o = true ↔ ∃ t, o = some t ∧ t ∈ g := by
  cases o with
  | none => exact ⟨fun h => (by cases h), fun ⟨t, h, _⟩ => (by cases h)⟩
  | some j => exact ⟨fun h => ⟨j, rfl, of_decide_eq_true h⟩, fun ⟨t, h, ht⟩ => by cases h; exact decide_eq_true ht⟩
def spInL (C : Addr) (K : PySem.W.Frag) : Sp := fun vs H Q _ => ∃ (n : Addr) (l t : List Nat) (sz : Nat) (L : Lg), vs = [.ref n, .str (S t)] ∧ McL C K H n l sz L ∧ l.Nodup ∧ ∀ b : Bool, (b = true ↔ Txl (ixOf l) L t) → Q (.bl b) H
theorem inL_imp : ∀ vs H Q E, spInL C K vs H Q E → spIn C K vs H Q E := by
  rintro vs H Q E ⟨n, l, t, sz, L, rfl, hM, nd, q⟩
  obtain ⟨R, g, h1, _, h2, h3, _, h4⟩ := hM.at_
  refine ⟨n, l, t, R, g, rfl, h1, nd, h2, q _ ?_⟩
  rw [accB_iff, ← Txl.congr h4, txl_rs]
  exact Iff.rfl
def spEqL (C : Addr) (K : PySem.W.Frag) : Sp := fun vs H Q _ => ∃ (n m : Addr) (l l' : List Nat) (sz sz' : Nat) (L L' : Lg), vs = [.ref n, .ref m] ∧ McL C K H n l sz L ∧ McL C K H m l' sz' L' ∧ ∀ b : Bool, (b = true ↔ (l = l' ∧ ∀ w, L w ↔ L' w)) → Q (.bl b) H
theorem eqL_imp : ∀ vs H Q E, spEqL C K vs H Q E → spEqM C K vs H Q E := by
  rintro vs H Q E ⟨n, m, l, l', sz, sz', L, L', rfl, hM, hN, q⟩
  obtain ⟨R, g, T, G, h1, h2, hz, h3⟩ := hM.ex
  obtain ⟨R', g', T', G', h1', h2', hz', h3'⟩ := hN.ex
  refine ⟨n, m, l, l', R, R', g, g', rfl, h1, h1', q _ ?_⟩
  rw [decide_eq_true_iff]
  constructor
  · rintro ⟨rfl, rfl, rfl⟩
    exact ⟨rfl, fun w => (h3 w).symm.trans ((h2.lang w).symm.trans ((h2'.lang w).trans (h3' w)))⟩
  · rintro ⟨rfl, e⟩
    exact ⟨rfl, h2.uniq h2' fun w => (h3 w).trans ((e w).trans (h3' w).symm)⟩
theorem beq_iff {a b : Bool} {p q : Prop} (ha : a = true ↔ p) (hb : b = true ↔ q) (h : p ↔ q) : a = b := by
  cases a <;> cases b
  · rfl
  · exact absurd (ha.mpr (h.mpr (hb.mp rfl))) Bool.false_ne_true
  · exact absurd (hb.mpr (h.mp (ha.mp rfl))) Bool.false_ne_true
  · rfl
end
end Z
set_option linter.all false
set_option maxRecDepth 100000
namespace Mc
/-! ### a work list: a table whose states are keys, in the order in which they are met -/
section
variable {κ : Type}
def kr (step : κ → Nat → Option κ) : Option κ → List Nat → Option κ
  | o, [] => o
  | none, _ :: _ => none
  | some q, k :: w => kr step (step q k) w
theorem kr_none (step : κ → Nat → Option κ) : ∀ w, kr step none w = none
  | [] => rfl
  | _ :: _ => rfl
theorem kr_app (step : κ → Nat → Option κ) : ∀ (u : List Nat) (o : Option κ) (v : List Nat), kr step o (u ++ v) = kr step (kr step o u) v
  | [], _, _ => rfl
  | _ :: _, none, v => (kr_none step v).symm
  | k :: u, some s, v => kr_app step u (step s k) v
def EntOk (step : κ → Nat → Option κ) (ks : List κ) (q : κ) (k : Nat) (o : Option Nat) : Prop := (step q k = none → o = none) ∧ ∀ q', step q k = some q' → ∃ j, o = some j ∧ ks[j]? = some q'
theorem EntOk.more {step : κ → Nat → Option κ} {ks more : List κ} {q : κ} {k : Nat} {o : Option Nat} (h : EntOk step ks q k o) : EntOk step (ks ++ more) q k o :=
  ⟨h.1, fun q' e => let ⟨j, e1, e2⟩ := h.2 q' e; ⟨j, e1, by rw [List.getElem?_append_left (List.getElem?_eq_some_iff.mp e2).1]; exact e2⟩⟩
structure Wl (step : κ → Nat → Option κ) (m : Nat) (start : κ) (ks : List κ) (rows : Tbl) (line : List (Option Nat)) : Prop where
  zero : ks[0]? = some start
  nd : ks.Nodup
  le : rows.length ≤ ks.length
  row : ∀ (i : Nat) (r : List (Option Nat)) (q : κ), rows[i]? = some r → ks[i]? = some q → r.length = m ∧ ∀ (k : Nat) (o : Option Nat), r[k]? = some o → EntOk step ks q k o
  lm : line.length ≤ m
  line : ∀ q : κ, ks[rows.length]? = some q → ∀ (k : Nat) (o : Option Nat), line[k]? = some o → EntOk step ks q k o
theorem Wl.start (step : κ → Nat → Option κ) (m : Nat) (q : κ) : Wl step m q [q] [] [] :=
  ⟨rfl, List.nodup_cons.mpr ⟨by simp, List.nodup_nil⟩, Nat.zero_le _, fun i r q e => by simp at e, Nat.zero_le _, fun q _ k o e => by simp at e⟩
theorem Wl.put {step : κ → Nat → Option κ} {m : Nat} {st q : κ} {ks more : List κ} {rows : Tbl} {line : List (Option Nat)} {o : Option Nat} (h : Wl step m st ks rows line) (hq : ks[rows.length]? = some q) (hl : line.length < m) (nd : (ks ++ more).Nodup) (e : EntOk step (ks ++ more) q line.length o) : Wl step m st (ks ++ more) rows (line ++ [o]) where
  zero := by rw [List.getElem?_append_left (List.getElem?_eq_some_iff.mp h.zero).1]; exact h.zero
  nd := nd
  le := by rw [List.length_append]; exact Nat.le_trans h.le (Nat.le_add_right ..)
  row := fun i r q' h1 h2 => by
    have hi := (List.getElem?_eq_some_iff.mp h1).1
    rw [List.getElem?_append_left (by have := h.le; omega)] at h2
    obtain ⟨a, b⟩ := h.row i r q' h1 h2
    exact ⟨a, fun k o hk => (b k o hk).more⟩
  lm := by rw [List.length_append]; exact hl
  line := fun q' h1 k o' hk => by
    have lt := (List.getElem?_eq_some_iff.mp hq).1
    rw [List.getElem?_append_left lt, hq] at h1
    cases h1
    by_cases c : k < line.length
    · rw [List.getElem?_append_left c] at hk
      exact (h.line q hq k o' hk).more
    · have hk2 := (List.getElem?_eq_some_iff.mp hk).1
      rw [List.length_append, List.length_singleton] at hk2
      have : k = line.length := by omega
      subst this
      rw [List.getElem?_append_right (Nat.le_refl _), Nat.sub_self] at hk
      cases hk
      exact e
theorem Wl.putNone {step : κ → Nat → Option κ} {m : Nat} {st q : κ} {ks : List κ} {rows : Tbl} {line : List (Option Nat)} (h : Wl step m st ks rows line) (hq : ks[rows.length]? = some q) (hl : line.length < m) (e : step q line.length = none) : Wl step m st ks rows (line ++ [none]) := by
  have := h.put (more := []) (o := none) hq hl (by rw [List.append_nil]; exact h.nd) ⟨fun _ => rfl, fun q' e' => by rw [e] at e'; cases e'⟩
  rwa [List.append_nil] at this
theorem Wl.putOld {step : κ → Nat → Option κ} {m : Nat} {st q q' : κ} {ks : List κ} {rows : Tbl} {line : List (Option Nat)} {j : Nat} (h : Wl step m st ks rows line) (hq : ks[rows.length]? = some q) (hl : line.length < m) (e : step q line.length = some q') (hj : ks[j]? = some q') : Wl step m st ks rows (line ++ [some j]) := by
  have := h.put (more := []) (o := some j) hq hl (by rw [List.append_nil]; exact h.nd) ⟨fun e' => (by rw [e] at e'; cases e'), fun q2 e' => by rw [e] at e'; cases e'; exact ⟨j, rfl, by rw [List.append_nil]; exact hj⟩⟩
  rwa [List.append_nil] at this
theorem Wl.putNew {step : κ → Nat → Option κ} {m : Nat} {st q q' : κ} {ks : List κ} {rows : Tbl} {line : List (Option Nat)} (h : Wl step m st ks rows line) (hq : ks[rows.length]? = some q) (hl : line.length < m) (e : step q line.length = some q') (hn : q' ∉ ks) : Wl step m st (ks ++ [q']) rows (line ++ [some ks.length]) := by
  refine h.put hq hl ?_ ⟨fun e' => (by rw [e] at e'; cases e'), fun q2 e' => by rw [e] at e'; cases e'; exact ⟨_, rfl, by rw [List.getElem?_append_right (Nat.le_refl _), Nat.sub_self]; rfl⟩⟩
  rw [List.nodup_append]
  exact ⟨h.nd, by simp, fun x hx y hy => by rw [List.mem_singleton.mp hy]; exact fun z => hn (z ▸ hx)⟩
theorem Wl.ext {step : κ → Nat → Option κ} {m : Nat} {st q' : κ} {ks : List κ} {rows : Tbl} {line : List (Option Nat)} (h : Wl step m st ks rows line) (hr : rows.length < ks.length) (hn : q' ∉ ks) : Wl step m st (ks ++ [q']) rows line where
  zero := by rw [List.getElem?_append_left (List.getElem?_eq_some_iff.mp h.zero).1]; exact h.zero
  nd := by
    rw [List.nodup_append]
    exact ⟨h.nd, by simp, fun x hx y hy => by rw [List.mem_singleton.mp hy]; exact fun z => hn (z ▸ hx)⟩
  le := by rw [List.length_append]; exact Nat.le_trans h.le (Nat.le_add_right ..)
  row := fun i r q h1 h2 => by
    have hi := (List.getElem?_eq_some_iff.mp h1).1
    rw [List.getElem?_append_left (by omega)] at h2
    obtain ⟨a, b⟩ := h.row i r q h1 h2
    exact ⟨a, fun k o hk => (b k o hk).more⟩
  lm := h.lm
  line := fun q h1 k o hk => by
    rw [List.getElem?_append_left hr] at h1
    exact (h.line q h1 k o hk).more
theorem Wl.close {step : κ → Nat → Option κ} {m : Nat} {st : κ} {ks : List κ} {rows : Tbl} {line : List (Option Nat)} (h : Wl step m st ks rows line) (hr : rows.length < ks.length) (hl : line.length = m) : Wl step m st ks (rows ++ [line]) [] where
  zero := h.zero
  nd := h.nd
  le := by rw [List.length_append]; exact hr
  row := fun i r q h1 h2 => by
    by_cases c : i < rows.length
    · rw [List.getElem?_append_left c] at h1
      exact h.row i r q h1 h2
    · have hi := (List.getElem?_eq_some_iff.mp h1).1
      rw [List.length_append, List.length_singleton] at hi
      have : i = rows.length := by omega
      subst this
      rw [List.getElem?_append_right (Nat.le_refl _), Nat.sub_self] at h1
      cases h1
      exact ⟨hl, h.line q h2⟩
  lm := Nat.zero_le _
  line := fun q _ k o e => by simp at e
theorem Wl.nx {step : κ → Nat → Option κ} {m : Nat} {st q : κ} {ks : List κ} {rows : Tbl} (h : Wl step m st ks rows []) (hr : rows.length = ks.length) {i k : Nat} (hq : ks[i]? = some q) (hk : k < m) : EntOk step ks q k (nx rows i k) := by
  have hi : i < rows.length := by rw [hr]; exact (List.getElem?_eq_some_iff.mp hq).1
  obtain ⟨a, b⟩ := h.row i rows[i] q (List.getElem?_eq_getElem hi) hq
  have hk2 : k < rows[i].length := by rw [a]; exact hk
  have := b k _ (List.getElem?_eq_getElem hk2)
  rwa [nx_at (List.getElem?_eq_getElem hi) (List.getElem?_eq_getElem hk2)]
theorem Wl.wf {step : κ → Nat → Option κ} {m : Nat} {st : κ} {ks : List κ} {rows : Tbl} (h : Wl step m st ks rows []) (hr : rows.length = ks.length) : Wf rows m := by
  refine ⟨fun r hr2 => ?_, fun r hr2 e he => ?_⟩
  · obtain ⟨i, hi, rfl⟩ := List.getElem_of_mem hr2
    exact (h.row i _ _ (List.getElem?_eq_getElem hi) (List.getElem?_eq_getElem (by omega))).1
  · obtain ⟨i, hi, rfl⟩ := List.getElem_of_mem hr2
    obtain ⟨k, hk, ek⟩ := List.getElem_of_mem he
    obtain ⟨_, b⟩ := h.row i _ _ (List.getElem?_eq_getElem hi) (List.getElem?_eq_getElem (show i < ks.length by omega))
    obtain ⟨b1, b2⟩ := b k _ (List.getElem?_eq_getElem hk)
    cases c : step (ks[i]'(by omega)) k with
    | none => rw [b1 c] at ek; cases ek
    | some q' =>
      obtain ⟨j, e1, e2⟩ := b2 q' c
      rw [ek] at e1
      cases e1
      rw [hr]
      exact (List.getElem?_eq_some_iff.mp e2).1
theorem Wl.run {step : κ → Nat → Option κ} {m : Nat} {st : κ} {ks : List κ} {rows : Tbl} (h : Wl step m st ks rows []) (hr : rows.length = ks.length) : ∀ (w : List Nat) (i : Nat) (q : κ), (∀ k ∈ w, k < m) → ks[i]? = some q → (kr step (some q) w = none → rn rows (some i) w = none) ∧ ∀ q', kr step (some q) w = some q' → ∃ j, rn rows (some i) w = some j ∧ ks[j]? = some q' := by
  intro w
  induction w with
  | nil => exact fun i q _ hq => ⟨fun e => (by cases e), fun q' e => by cases e; exact ⟨i, rfl, hq⟩⟩
  | cons k w ih =>
    intro i q hw hq
    obtain ⟨a, b⟩ := h.nx hr hq (hw k List.mem_cons_self)
    cases c : step q k with
    | none =>
      refine ⟨fun _ => ?_, fun q' e => ?_⟩
      · show rn rows (Mc.nx rows i k) w = none
        rw [a c, rn_none]
      · have e : kr step (step q k) w = some q' := e
        rw [c, kr_none] at e
        cases e
    | some q1 =>
      obtain ⟨j, e1, e2⟩ := b q1 c
      obtain ⟨i1, i2⟩ := ih j q1 (fun x hx => hw x (List.mem_cons_of_mem _ hx)) e2
      refine ⟨fun e => ?_, fun q' e => ?_⟩
      · show rn rows (Mc.nx rows i k) w = none
        rw [e1]
        exact i1 (by have e : kr step (step q k) w = none := e; rw [c] at e; exact e)
      · obtain ⟨j', e3, e4⟩ := i2 q' (by have e : kr step (step q k) w = some q' := e; rw [c] at e; exact e)
        exact ⟨j', by show rn rows (Mc.nx rows i k) w = some j'; rw [e1]; exact e3, e4⟩
theorem rn_letters {T : Tbl} {m : Nat} (wf : Wf T m) : ∀ {w : List Nat} {o : Option Nat} {t : Nat}, rn T o w = some t → ∀ k ∈ w, k < m
  | [], _, _, _, k, hk => absurd hk (by simp)
  | x :: w, none, t, e, k, hk => by cases e
  | x :: w, some s, t, e, k, hk => by
    have e : rn T (Mc.nx T s x) w = some t := e
    cases c : Mc.nx T s x with
    | none => rw [c, rn_none] at e; cases e
    | some s' =>
      rw [c] at e
      rcases List.mem_cons.mp hk with hk | hk
      · rw [hk]; exact (nx_lt wf c).2.1
      · exact rn_letters wf e k hk
theorem Wl.acc {step : κ → Nat → Option κ} {m : Nat} {st : κ} {ks : List κ} {rows : Tbl} (h : Wl step m st ks rows []) (hr : rows.length = ks.length) {G : Nat → Prop} {Gd : κ → Prop} (hg : ∀ j q, ks[j]? = some q → (G j ↔ Gd q)) (w : List Nat) : AccS rows G w ↔ (∀ k ∈ w, k < m) ∧ ∃ q, kr step (some st) w = some q ∧ Gd q := by
  have e0 : Mc.st rows = some 0 := if_neg (by rw [hr]; have := (List.getElem?_eq_some_iff.mp h.zero).1; omega)
  unfold AccS
  rw [e0]
  constructor
  · rintro ⟨t, e, g⟩
    have hw := rn_letters (h.wf hr) e
    obtain ⟨a, b⟩ := h.run hr w 0 st hw h.zero
    cases c : kr step (some st) w with
    | none => rw [a c] at e; cases e
    | some q =>
      obtain ⟨j, e1, e2⟩ := b q c
      rw [e] at e1
      cases e1
      exact ⟨hw, q, rfl, (hg t q e2).mp g⟩
  · rintro ⟨hw, q, e, g⟩
    obtain ⟨a, b⟩ := h.run hr w 0 st hw h.zero
    obtain ⟨j, e1, e2⟩ := b q e
    exact ⟨j, e1, (hg j q e2).mpr g⟩
/-- few keys, by a code for them -/
theorem Wl.few {step : κ → Nat → Option κ} {m N : Nat} {st : κ} {ks : List κ} {rows : Tbl} {line : List (Option Nat)} (h : Wl step m st ks rows line) (D : κ → Prop) (cd : κ → Nat) (hd : ∀ q ∈ ks, D q) (lt : ∀ q, D q → cd q < N) (inj : ∀ q q', D q → D q' → cd q = cd q' → q = q') : ks.length ≤ N := by
  have nd : (ks.map cd).Nodup := by
    rw [List.Nodup, List.pairwise_iff_getElem]
    intro i j hi hj hij e
    rw [List.length_map] at hi hj
    rw [List.getElem_map, List.getElem_map] at e
    have := inj _ _ (hd _ (List.getElem_mem hi)) (hd _ (List.getElem_mem hj)) e
    have h1 := List.getElem?_eq_getElem hi
    have h2 := List.getElem?_eq_getElem hj
    have := (List.getElem?_inj hi h.nd).mp (h1.trans (by rw [this]; exact h2.symm))
    omega
  have := nd_len nd fun x hx => by
    obtain ⟨q, hq, rfl⟩ := List.mem_map.mp hx
    exact lt q (hd q hq)
  rwa [List.length_map] at this
end
/-! ### the code of a set of numbers -/
def bcn (S : List Nat) : Nat → Nat
  | 0 => 0
  | n + 1 => bcn S n + if n ∈ S then 2 ^ n else 0
theorem bcn_lt (S : List Nat) : ∀ n, bcn S n < 2 ^ n
  | 0 => Nat.one_pos
  | n + 1 => by
    have := bcn_lt S n
    unfold bcn
    rw [Nat.pow_succ]
    split <;> omega
theorem bcn_inj {S U : List Nat} : ∀ n, bcn S n = bcn U n → ∀ i, i < n → (i ∈ S ↔ i ∈ U)
  | 0, _, i, hi => absurd hi (Nat.not_lt_zero _)
  | n + 1, e, i, hi => by
    have a := bcn_lt S n
    have b := bcn_lt U n
    unfold bcn at e
    have key : (n ∈ S ↔ n ∈ U) ∧ bcn S n = bcn U n := by
      by_cases c : n ∈ S
      · by_cases d : n ∈ U
        · rw [if_pos c, if_pos d] at e
          exact ⟨⟨fun _ => d, fun _ => c⟩, by omega⟩
        · rw [if_pos c, if_neg d] at e
          omega
      · by_cases d : n ∈ U
        · rw [if_neg c, if_pos d] at e
          omega
        · rw [if_neg c, if_neg d] at e
          exact ⟨⟨fun h => absurd h c, fun h => absurd h d⟩, by omega⟩
    by_cases h : i = n
    · rw [h]; exact key.1
    · exact bcn_inj n key.2 i (by omega)
theorem bcn_eq {S U : List Nat} {n : Nat} (p : S.Pairwise (· < ·)) (q : U.Pairwise (· < ·)) (hS : ∀ x ∈ S, x < n) (hU : ∀ x ∈ U, x < n) (e : bcn S n = bcn U n) : S = U :=
  asc_ext p q fun x => ⟨fun h => (bcn_inj n e x (hS x h)).mp h, fun h => (bcn_inj n e x (hU x h)).mpr h⟩
end Mc
set_option linter.all false
set_option maxRecDepth 100000
namespace Mc
def OG (G : Nat → Prop) (o : Option Nat) : Prop := ∃ s, o = some s ∧ G s
theorem rn_cons (T : Tbl) (o : Option Nat) (k : Nat) (w : List Nat) : rn T o (k :: w) = rn T (o.bind fun s => nx T s k) w := by
  cases o with
  | none => exact (rn_none T w).symm
  | some s => rfl
theorem accS_og {T : Tbl} {G : Nat → Prop} {w : List Nat} : AccS T G w ↔ OG G (rn T (st T) w) := ⟨fun ⟨t, a, b⟩ => ⟨t, a, b⟩, fun ⟨t, a, b⟩ => ⟨t, a, b⟩⟩
/-! ### pairs -/
inductive Md | both | one | either
def kpd : Md → Option Nat → Option Nat → Bool
  | .both, l, r => l.isSome && r.isSome
  | .one, l, _ => l.isSome
  | .either, l, r => l.isSome || r.isSome
def pst (T1 T2 : Tbl) (md : Md) (p : Option Nat × Option Nat) (k : Nat) : Option (Option Nat × Option Nat) :=
  if kpd md (p.1.bind fun s => nx T1 s k) (p.2.bind fun s => nx T2 s k) = true then some (p.1.bind fun s => nx T1 s k, p.2.bind fun s => nx T2 s k) else none
def pgd (G1 G2 : Nat → Prop) : Md → Option Nat → Option Nat → Prop
  | .both, l, r => OG G1 l ∧ OG G2 r
  | .one, l, r => OG G1 l ∧ ¬ OG G2 r
  | .either, l, r => OG G1 l ∨ OG G2 r
def pL (L1 L2 : Lg) : Md → Lg
  | .both => fun w => L1 w ∧ L2 w
  | .one => fun w => L1 w ∧ ¬ L2 w
  | .either => fun w => L1 w ∨ L2 w
theorem pgd_kpd {G1 G2 : Nat → Prop} {md : Md} {l r : Option Nat} (h : pgd G1 G2 md l r) : kpd md l r = true := by
  cases md
  · obtain ⟨⟨s, rfl, _⟩, ⟨t, rfl, _⟩⟩ := h
    rfl
  · obtain ⟨⟨s, rfl, _⟩, _⟩ := h
    rfl
  · rcases h with ⟨s, rfl, _⟩ | ⟨s, rfl, _⟩
    · rfl
    · cases l <;> rfl
theorem kpd_back {md : Md} {T1 T2 : Tbl} {l r : Option Nat} {w : List Nat} (h : kpd md (rn T1 l w) (rn T2 r w) = true) : kpd md l r = true := by
  cases l with
  | some l =>
    cases md
    · cases r with
      | some r => rfl
      | none => rw [rn_none] at h; cases e : rn T1 (some l) w <;> rw [e] at h <;> cases h
    · rfl
    · rfl
  | none =>
    rw [rn_none] at h
    cases md
    · cases h
    · cases h
    · cases r with
      | some r => rfl
      | none => rw [rn_none] at h; cases h
theorem pst_run (T1 T2 : Tbl) (md : Md) : ∀ (w : List Nat) (p : Option Nat × Option Nat), (∀ q, kr (pst T1 T2 md) (some p) w = some q → q = (rn T1 p.1 w, rn T2 p.2 w)) ∧ (kr (pst T1 T2 md) (some p) w = none → ¬ kpd md (rn T1 p.1 w) (rn T2 p.2 w) = true)
  | [], p => by
    refine ⟨fun q e => ?_, fun e => (by cases e)⟩
    cases e
    obtain ⟨l, r⟩ := p
    cases l <;> cases r <;> rfl
  | k :: w, p => by
    show (∀ q, kr (pst T1 T2 md) (pst T1 T2 md p k) w = some q → _) ∧ (kr (pst T1 T2 md) (pst T1 T2 md p k) w = none → _)
    rw [rn_cons, rn_cons]
    unfold pst
    by_cases c : kpd md (p.1.bind fun s => nx T1 s k) (p.2.bind fun s => nx T2 s k) = true
    · rw [if_pos c]
      exact pst_run T1 T2 md w _
    · rw [if_neg c]
      rw [kr_none]
      exact ⟨fun q e => (by cases e), fun _ h => c (kpd_back h)⟩
theorem pL_iff {T1 T2 : Tbl} {G1 G2 : Nat → Prop} {md : Md} {w : List Nat} : pL (AccS T1 G1) (AccS T2 G2) md w ↔ pgd G1 G2 md (rn T1 (st T1) w) (rn T2 (st T2) w) := by
  cases md <;> exact Iff.rfl
theorem pair_acc {T1 T2 : Tbl} {G1 G2 : Nat → Prop} {md : Md} {m : Nat} (w1 : Wf T1 m) (w2 : Wf T2 m) (w : List Nat) : ((∀ k ∈ w, k < m) ∧ ∃ q, kr (pst T1 T2 md) (some (st T1, st T2)) w = some q ∧ pgd G1 G2 md q.1 q.2) ↔ pL (AccS T1 G1) (AccS T2 G2) md w := by
  rw [pL_iff]
  obtain ⟨a, b⟩ := pst_run T1 T2 md w (st T1, st T2)
  constructor
  · rintro ⟨_, q, e, g⟩
    rw [a q e] at g
    exact g
  · intro g
    refine ⟨?_, ?_⟩
    · have := pgd_kpd g
      cases e1 : rn T1 (st T1) w with
      | some t => exact rn_letters w1 e1
      | none =>
        cases e2 : rn T2 (st T2) w with
        | some t => exact rn_letters w2 e2
        | none => rw [e1, e2] at this; cases md <;> cases this
    · cases e : kr (pst T1 T2 md) (some (st T1, st T2)) w with
      | none => exact absurd (pgd_kpd g) (b e)
      | some q => exact ⟨q, rfl, by rw [a q e]; exact g⟩
theorem pair_none {T1 T2 : Tbl} {G1 G2 : Nat → Prop} {md : Md} (h : ¬ kpd md (st T1) (st T2) = true) (w : List Nat) : ¬ pL (AccS T1 G1) (AccS T2 G2) md w := fun z => h (kpd_back (pgd_kpd (pL_iff.mp z)))
def oc : Option Nat → Nat
  | none => 0
  | some s => s + 1
theorem oc_inj {a b : Option Nat} (h : oc a = oc b) : a = b := by
  cases a with
  | none =>
    cases b with
    | none => rfl
    | some y => exact absurd (show 0 = y + 1 from h) (by omega)
  | some x =>
    cases b with
    | none => exact absurd (show x + 1 = 0 from h) (by omega)
    | some y => rw [show x = y by have h : x + 1 = y + 1 := h; omega]
def Lo (n : Nat) (o : Option Nat) : Prop := ∀ s, o = some s → s < n
theorem oc_lt {n : Nat} {o : Option Nat} (h : Lo n o) : oc o < n + 1 := by
  cases o with
  | none => exact Nat.succ_pos _
  | some s =>
    have := h s rfl
    show s + 1 < n + 1
    omega
theorem code2 {a b c d N : Nat} (hb : b < N) (hd : d < N) (e : a * N + b = c * N + d) : a = c ∧ b = d := by
  have h1 : (a * N + b) / N = a := by rw [Nat.mul_comm, Nat.mul_add_div (by omega), Nat.div_eq_of_lt hb, Nat.add_zero]
  have h2 : (c * N + d) / N = c := by rw [Nat.mul_comm, Nat.mul_add_div (by omega), Nat.div_eq_of_lt hd, Nat.add_zero]
  have h3 : a = c := by rw [← h1, ← h2, e]
  subst h3
  exact ⟨rfl, by omega⟩
theorem code2_lt {a b M N : Nat} (ha : a < M) (hb : b < N) : a * N + b < M * N := by
  have := Nat.mul_le_mul_right N (show a + 1 ≤ M from ha)
  rw [Nat.succ_mul] at this
  omega
/-! ### the opposite -/
def opT (T : Tbl) (m : Nat) : Tbl := (T.map fun r => r.map fun o => some (o.getD T.length)) ++ [List.replicate m (some T.length)]
def NotL (m : Nat) (L : Lg) : Lg := fun w => (∀ k ∈ w, k < m) ∧ ¬ L w
theorem opT_len (T : Tbl) (m : Nat) : (opT T m).length = T.length + 1 := by unfold opT; rw [List.length_append, List.length_map]; rfl
theorem opT_wf {T : Tbl} {m : Nat} (wf : Wf T m) : Wf (opT T m) m := by
  refine ⟨fun r hr => ?_, fun r hr e he => ?_⟩
  · rcases List.mem_append.mp hr with hr | hr
    · obtain ⟨r0, h0, rfl⟩ := List.mem_map.mp hr
      rw [List.length_map]
      exact wf.row r0 h0
    · rw [List.mem_singleton.mp hr, List.length_replicate]
  · rw [opT_len]
    rcases List.mem_append.mp hr with hr | hr
    · obtain ⟨r0, h0, rfl⟩ := List.mem_map.mp hr
      obtain ⟨o, ho, h1⟩ := List.mem_map.mp he
      injection h1 with h1
      rw [← h1]
      cases o with
      | none => exact Nat.lt_succ_self _
      | some x => exact Nat.lt_succ_of_lt (wf.ent r0 h0 x ho)
    · rw [List.mem_singleton.mp hr] at he
      have := (List.mem_replicate.mp he).2
      injection this with this
      rw [this]
      exact Nat.lt_succ_self _
theorem opT_nx {T : Tbl} {m : Nat} (wf : Wf T m) {o : Option Nat} {k : Nat} (hk : k < m) (ho : Lo T.length o) : nx (opT T m) (o.getD T.length) k = some ((o.bind fun s => nx T s k).getD T.length) := by
  cases o with
  | none =>
    show nx (opT T m) T.length k = some T.length
    refine nx_at (r := List.replicate m (some T.length)) ?_ (by rw [List.getElem?_replicate, if_pos hk])
    unfold opT
    rw [List.getElem?_append_right (by rw [List.length_map]; exact Nat.le_refl _), List.length_map, Nat.sub_self]
    rfl
  | some s =>
    have hs := ho s rfl
    show nx (opT T m) s k = some ((nx T s k).getD T.length)
    have hr := wf.row _ (List.getElem_mem hs)
    refine nx_at (r := (T[s]).map fun o => some (o.getD T.length)) ?_ ?_
    · unfold opT
      rw [List.getElem?_append_left (by rw [List.length_map]; exact hs), List.getElem?_map, List.getElem?_eq_getElem hs]
      rfl
    · rw [List.getElem?_map, List.getElem?_eq_getElem (by rw [hr]; exact hk), nx_at (List.getElem?_eq_getElem hs) (List.getElem?_eq_getElem (by rw [hr]; exact hk))]
      rfl
theorem opT_run {T : Tbl} {m : Nat} (wf : Wf T m) : ∀ (w : List Nat) (o : Option Nat), (∀ k ∈ w, k < m) → Lo T.length o → rn (opT T m) (some (o.getD T.length)) w = some ((rn T o w).getD T.length)
  | [], o, _, _ => by cases o <;> rfl
  | k :: w, o, hw, ho => by
    show rn (opT T m) (nx (opT T m) (o.getD T.length) k) w = _
    rw [opT_nx wf (hw k List.mem_cons_self) ho, rn_cons]
    refine opT_run wf w _ (fun x hx => hw x (List.mem_cons_of_mem _ hx)) fun s hs => ?_
    cases o with
    | none => cases hs
    | some x => exact (nx_lt wf hs).1
theorem opT_acc {T : Tbl} {m : Nat} {G : Nat → Prop} (wf : Wf T m) (hG : ∀ s, G s → s < T.length) (w : List Nat) : AccS (opT T m) (fun s => s < T.length + 1 ∧ ¬ G s) w ↔ NotL m (AccS T G) w := by
  have e0 : st (opT T m) = some ((st T).getD T.length) := by
    rw [show st (opT T m) = some 0 from if_neg (by rw [opT_len]; omega)]
    unfold st
    split
    · rename_i h
      rw [h]
      rfl
    · rfl
  have key : ∀ k : Unit, (∀ k ∈ w, k < m) → rn (opT T m) (st (opT T m)) w = some ((rn T (st T) w).getD T.length) := fun _ hw => by rw [e0]; exact opT_run wf w _ hw (st_lt' T)
  constructor
  · rintro ⟨t, e, ht, ng⟩
    have hw := rn_letters (opT_wf wf) e
    rw [key () hw] at e
    refine ⟨hw, fun ⟨t', e', g⟩ => ?_⟩
    rw [e'] at e
    injection e with e
    exact ng (e ▸ g)
  · rintro ⟨hw, n⟩
    refine ⟨_, key () hw, ?_, fun g => ?_⟩
    · cases e : rn T (st T) w with
      | none => exact Nat.lt_succ_self _
      | some t => exact Nat.lt_succ_of_lt (rn_lt wf (st_lt' T) e)
    · cases e : rn T (st T) w with
      | none =>
        rw [e] at g
        exact absurd (hG _ g) (Nat.lt_irrefl _)
      | some t =>
        rw [e] at g
        exact n ⟨t, e, g⟩
/-! ### ascending sets of states -/
def aft (T : Tbl) (S : List Nat) (k : Nat) : List Nat := (List.range T.length).filter fun e => S.any fun s => nx T s k == some e
theorem aft_mem {T : Tbl} {m : Nat} (wf : Wf T m) {S : List Nat} {k e : Nat} : e ∈ aft T S k ↔ ∃ s ∈ S, nx T s k = some e := by
  unfold aft
  rw [List.mem_filter, List.mem_range, List.any_eq_true]
  constructor
  · rintro ⟨_, s, hs, h⟩
    exact ⟨s, hs, eq_of_beq h⟩
  · rintro ⟨s, hs, h⟩
    exact ⟨(nx_lt wf h).1, s, hs, by rw [h]; exact beq_self_eq_true _⟩
theorem aft_asc (T : Tbl) (S : List Nat) (k : Nat) : (aft T S k).Pairwise (· < ·) := List.Pairwise.filter _ List.pairwise_lt_range
theorem aft_lt {T : Tbl} {S : List Nat} {k e : Nat} (h : e ∈ aft T S k) : e < T.length := List.mem_range.mp (List.mem_filter.mp h).1
def wst (S : List Nat) (b : Bool) : List Nat := if b = true ∧ 0 ∉ S then 0 :: S else S
theorem wst_mem {S : List Nat} {b : Bool} {s : Nat} : s ∈ wst S b ↔ s ∈ S ∨ (s = 0 ∧ b = true) := by
  unfold wst
  split
  · rename_i h
    rw [List.mem_cons]
    constructor
    · rintro (h1 | h1)
      · exact .inr ⟨h1, h.1⟩
      · exact .inl h1
    · rintro (h1 | h1)
      · exact .inr h1
      · exact .inl h1.1
  · rename_i h
    constructor
    · exact .inl
    · rintro (h1 | ⟨rfl, h1⟩)
      · exact h1
      · by_cases c : 0 ∈ S
        · exact c
        · exact absurd ⟨h1, c⟩ h
theorem wst_asc {S : List Nat} {b : Bool} (h : S.Pairwise (· < ·)) : (wst S b).Pairwise (· < ·) := by
  unfold wst
  split
  · rename_i c
    refine List.pairwise_cons.mpr ⟨fun x hx => Nat.pos_of_ne_zero fun e => c.2 (e ▸ hx), h⟩
  · exact h
/-! ### one text behind another -/
def CatL (L1 L2 : Lg) : Lg := fun w => ∃ u v, w = u ++ v ∧ L1 u ∧ L2 v
def gB (g : List Nat) : Option Nat → Bool
  | none => false
  | some j => decide (j ∈ g)
theorem gB_iff {g : List Nat} {o : Option Nat} : gB g o = true ↔ OG (fun s => s ∈ g) o := by
  cases o with
  | none => exact ⟨fun h => (by cases h), fun ⟨s, h, _⟩ => (by cases h)⟩
  | some j => exact ⟨fun h => ⟨j, rfl, of_decide_eq_true h⟩, fun ⟨s, h, hs⟩ => by cases h; exact decide_eq_true hs⟩
def cst (T1 : Tbl) (g1 : List Nat) (T2 : Tbl) (q : Option Nat × List Nat) (k : Nat) : Option (Option Nat × List Nat) :=
  if (q.1.bind fun s => nx T1 s k) = none ∧ wst (aft T2 q.2 k) (gB g1 (q.1.bind fun s => nx T1 s k)) = [] then none else some (q.1.bind fun s => nx T1 s k, wst (aft T2 q.2 k) (gB g1 (q.1.bind fun s => nx T1 s k)))
def SetC (T1 : Tbl) (g1 : List Nat) (T2 : Tbl) (w : List Nat) (s : Nat) : Prop := ∃ u v, w = u ++ v ∧ gB g1 (rn T1 (some 0) u) = true ∧ rn T2 (some 0) v = some s
structure CInv (T1 : Tbl) (g1 : List Nat) (T2 : Tbl) (w : List Nat) (q : Option Nat × List Nat) : Prop where
  t : q.1 = rn T1 (some 0) w
  asc : q.2.Pairwise (· < ·)
  mem : ∀ s, s ∈ q.2 ↔ SetC T1 g1 T2 w s
theorem snoc_split {w u v : List Nat} {k : Nat} (h : w ++ [k] = u ++ v) : (v = [] ∧ u = w ++ [k]) ∨ ∃ v', v = v' ++ [k] ∧ w = u ++ v' := by
  rcases List.eq_nil_or_concat v with rfl | ⟨v', x, hv⟩
  · left
    rw [List.append_nil] at h
    exact ⟨rfl, h.symm⟩
  · right
    rw [List.concat_eq_append] at hv
    subst hv
    rw [← List.append_assoc] at h
    obtain ⟨h1, h2⟩ := List.append_inj' h rfl
    injection h2 with h2
    subst h2
    exact ⟨v', rfl, h1⟩
theorem setC_snoc {T1 : Tbl} {g1 : List Nat} {T2 : Tbl} {w : List Nat} {k s : Nat} : SetC T1 g1 T2 (w ++ [k]) s ↔ (∃ s0, SetC T1 g1 T2 w s0 ∧ nx T2 s0 k = some s) ∨ (s = 0 ∧ gB g1 (rn T1 (some 0) (w ++ [k])) = true) := by
  constructor
  · rintro ⟨u, v, e, h1, h2⟩
    rcases snoc_split e with ⟨rfl, rfl⟩ | ⟨v', rfl, rfl⟩
    · cases h2
      exact .inr ⟨rfl, h1⟩
    · obtain ⟨s0, h3, h4⟩ := rn_some h2
      exact .inl ⟨s0, ⟨u, v', rfl, h1, h3⟩, by have h4 : rn T2 (nx T2 s0 k) [] = some s := h4; cases c : nx T2 s0 k <;> rw [c] at h4 <;> exact h4⟩
  · rintro (⟨s0, ⟨u, v, rfl, h1, h2⟩, h3⟩ | ⟨rfl, h1⟩)
    · exact ⟨u, v ++ [k], by rw [List.append_assoc], h1, by rw [rn_snoc h2]; exact h3⟩
    · exact ⟨w ++ [k], [], by rw [List.append_nil], h1, rfl⟩
theorem rn_snoc' (T : Tbl) (o : Option Nat) (u : List Nat) (k : Nat) : rn T o (u ++ [k]) = (rn T o u).bind fun s => nx T s k := by
  cases e : rn T o u with
  | none => rw [rn_app, e]; rfl
  | some t => exact rn_snoc e
theorem cst_step {T1 : Tbl} {g1 : List Nat} {T2 : Tbl} {m : Nat} (wf : Wf T2 m) {w : List Nat} {q : Option Nat × List Nat} {k : Nat} (h : CInv T1 g1 T2 w q) : (∀ q', cst T1 g1 T2 q k = some q' → CInv T1 g1 T2 (w ++ [k]) q') ∧ (cst T1 g1 T2 q k = none → rn T1 (some 0) (w ++ [k]) = none ∧ ∀ s, ¬ SetC T1 g1 T2 (w ++ [k]) s) := by
  have et : (q.1.bind fun s => nx T1 s k) = rn T1 (some 0) (w ++ [k]) := by rw [rn_snoc', h.t]
  have em : ∀ s, s ∈ wst (aft T2 q.2 k) (gB g1 (rn T1 (some 0) (w ++ [k]))) ↔ SetC T1 g1 T2 (w ++ [k]) s := fun s => by
    rw [wst_mem, aft_mem wf, setC_snoc]
    constructor
    · rintro (⟨s0, h1, h2⟩ | h1)
      · exact .inl ⟨s0, (h.mem s0).mp h1, h2⟩
      · exact .inr h1
    · rintro (⟨s0, h1, h2⟩ | h1)
      · exact .inl ⟨s0, (h.mem s0).mpr h1, h2⟩
      · exact .inr h1
  unfold cst
  rw [et]
  split
  · rename_i c
    refine ⟨fun q' e => (by cases e), fun _ => ⟨c.1, fun s hs => ?_⟩⟩
    have := (em s).mpr hs
    rw [c.2] at this
    cases this
  · refine ⟨fun q' e => ?_, fun e => (by cases e)⟩
    cases e
    exact ⟨rfl, wst_asc (aft_asc ..), em⟩
theorem cst_run {T1 : Tbl} {g1 : List Nat} {T2 : Tbl} {m : Nat} (wf : Wf T2 m) : ∀ (v w : List Nat) (q : Option Nat × List Nat), CInv T1 g1 T2 w q → (∀ q', kr (cst T1 g1 T2) (some q) v = some q' → CInv T1 g1 T2 (w ++ v) q') ∧ (kr (cst T1 g1 T2) (some q) v = none → ∀ s, ¬ SetC T1 g1 T2 (w ++ v) s)
  | [], w, q, h => by
    rw [List.append_nil]
    exact ⟨fun q' e => by cases e; exact h, fun e => (by cases e)⟩
  | k :: v, w, q, h => by
    obtain ⟨a, b⟩ := cst_step (k := k) wf h
    have ew : w ++ k :: v = w ++ [k] ++ v := by rw [List.append_assoc]; rfl
    rw [ew]
    show (∀ q', kr (cst T1 g1 T2) (cst T1 g1 T2 q k) v = some q' → _) ∧ (kr (cst T1 g1 T2) (cst T1 g1 T2 q k) v = none → _)
    cases c : cst T1 g1 T2 q k with
    | some q1 => exact cst_run wf v _ q1 (a q1 c)
    | none =>
      rw [kr_none]
      refine ⟨fun q' e => (by cases e), fun _ => ?_⟩
      obtain ⟨b1, b2⟩ := b c
      have dead : ∀ (v w : List Nat), rn T1 (some 0) w = none → (∀ s, ¬ SetC T1 g1 T2 w s) → ∀ s, ¬ SetC T1 g1 T2 (w ++ v) s := by
        intro v
        induction v with
        | nil => exact fun w _ h2 => by rw [List.append_nil]; exact h2
        | cons x v ih =>
          intro w h1 h2
          have h3 : rn T1 (some 0) (w ++ [x]) = none := by rw [rn_app, h1]; rfl
          rw [show w ++ x :: v = w ++ [x] ++ v by rw [List.append_assoc]; rfl]
          refine ih _ h3 fun s hs => ?_
          rcases setC_snoc.mp hs with ⟨s0, h4, _⟩ | ⟨_, h4⟩
          · exact h2 s0 h4
          · rw [h3] at h4
            cases h4
      exact dead v _ b1 b2
theorem CInv.start (T1 : Tbl) (g1 : List Nat) (T2 : Tbl) : CInv T1 g1 T2 [] (some 0, wst [] (gB g1 (some 0))) := by
  refine ⟨rfl, wst_asc .nil, fun s => ?_⟩
  rw [wst_mem]
  constructor
  · rintro (h | ⟨rfl, h⟩)
    · cases h
    · exact ⟨[], [], rfl, h, rfl⟩
  · rintro ⟨u, v, e, h1, h2⟩
    obtain ⟨rfl, rfl⟩ := List.append_eq_nil_iff.mp e.symm
    cases h2
    exact .inr ⟨rfl, h1⟩
theorem chain_acc {T1 T2 : Tbl} {g1 g2 : List Nat} {m : Nat} (w1 : Wf T1 m) (w2 : Wf T2 m) (h1 : 0 < T1.length) (h2 : 0 < T2.length) (w : List Nat) : ((∀ k ∈ w, k < m) ∧ ∃ q, kr (cst T1 g1 T2) (some (some 0, wst [] (gB g1 (some 0)))) w = some q ∧ ∃ s ∈ q.2, s ∈ g2) ↔ CatL (AccS T1 fun s => s ∈ g1) (AccS T2 fun s => s ∈ g2) w := by
  have e1 : st T1 = some 0 := if_neg (by omega)
  have e2 : st T2 = some 0 := if_neg (by omega)
  obtain ⟨a, b⟩ := cst_run w2 w [] _ (CInv.start T1 g1 T2)
  rw [List.nil_append] at a b
  constructor
  · rintro ⟨_, q, e, s, hs, hg⟩
    obtain ⟨u, v, ew, h3, h4⟩ := ((a q e).mem s).mp hs
    exact ⟨u, v, ew, accS_og.mpr (by rw [e1]; exact gB_iff.mp h3), s, by rw [e2]; exact h4, hg⟩
  · rintro ⟨u, v, rfl, ⟨t, h3, h3'⟩, s, h4, hg⟩
    refine ⟨fun k hk => ?_, ?_⟩
    · rcases List.mem_append.mp hk with hk | hk
      · exact rn_letters w1 h3 k hk
      · exact rn_letters w2 h4 k hk
    · have hs : SetC T1 g1 T2 (u ++ v) s := ⟨u, v, rfl, gB_iff.mpr ⟨t, by rw [← e1]; exact h3, h3'⟩, by rw [← e2]; exact h4⟩
      cases e : kr (cst T1 g1 T2) (some (some 0, wst [] (gB g1 (some 0)))) (u ++ v) with
      | none => exact absurd hs (b e s)
      | some q => exact ⟨q, rfl, s, ((a q e).mem s).mpr hs, hg⟩
theorem cat_none {T1 T2 : Tbl} {G1 G2 : Nat → Prop} (h : T1.length = 0 ∨ T2.length = 0) (w : List Nat) : ¬ CatL (AccS T1 G1) (AccS T2 G2) w := by
  have no : ∀ {T : Tbl} {G : Nat → Prop} {u : List Nat}, T.length = 0 → ¬ AccS T G u := fun h ⟨t, e, _⟩ => by
    rw [show st _ = none from if_pos h, rn_none] at e
    cases e
  rintro ⟨u, v, _, a, b⟩
  rcases h with h | h
  · exact no h a
  · exact no h b
/-! ### any number of texts -/
inductive StL (L : Lg) : List Nat → Prop
  | nil : StL L []
  | snoc {u v : List Nat} : StL L u → L v → StL L (u ++ v)
theorem StL.cases' {L : Lg} {w : List Nat} (h : StL L w) : w = [] ∨ ∃ u v, v ≠ [] ∧ w = u ++ v ∧ StL L u ∧ L v := by
  induction h with
  | nil => exact .inl rfl
  | @snoc u v hu hv ih =>
    by_cases c : v = []
    · rw [c, List.append_nil]
      exact ih
    · exact .inr ⟨u, v, c, rfl, hu, hv⟩
theorem StL.congr {L L' : Lg} (h : ∀ w, L w ↔ L' w) (w : List Nat) : StL L w ↔ StL L' w := by
  have key : ∀ {L L' : Lg}, (∀ w, L w ↔ L' w) → ∀ {w}, StL L w → StL L' w := fun h w s => by
    induction s with
    | nil => exact .nil
    | snoc _ hv ih => exact .snoc ih ((h _).mp hv)
  exact ⟨key h, key fun w => (h w).symm⟩
def rst (T : Tbl) (g : List Nat) (q : Bool × List Nat) (k : Nat) : Option (Bool × List Nat) :=
  if aft T q.2 k = [] then none else some ((aft T q.2 k).any fun s => decide (s ∈ g), wst (aft T q.2 k) ((aft T q.2 k).any fun s => decide (s ∈ g)))
def SetR (T : Tbl) (L : Lg) (w : List Nat) (s : Nat) : Prop := ∃ u v, w = u ++ v ∧ StL L u ∧ rn T (some 0) v = some s
structure RInv (T : Tbl) (L : Lg) (w : List Nat) (q : Bool × List Nat) : Prop where
  b : q.1 = true ↔ StL L w
  asc : q.2.Pairwise (· < ·)
  mem : ∀ s, s ∈ q.2 ↔ SetR T L w s
theorem stl_snoc {T : Tbl} {g : List Nat} {w : List Nat} {k : Nat} (h0 : 0 < T.length) : StL (AccS T fun s => s ∈ g) (w ++ [k]) ↔ ∃ s0 e, SetR T (AccS T fun s => s ∈ g) w s0 ∧ nx T s0 k = some e ∧ e ∈ g := by
  have e0 : st T = some 0 := if_neg (by omega)
  constructor
  · intro h
    rcases h.cases' with h | ⟨u, v, nv, e, hu, hv⟩
    · exact absurd h (by simp)
    · rcases snoc_split e with ⟨rfl, _⟩ | ⟨v', rfl, rfl⟩
      · exact absurd rfl nv
      · obtain ⟨t, h1, h2⟩ := hv
        rw [e0] at h1
        obtain ⟨s0, h3, h4⟩ := rn_some h1
        exact ⟨s0, t, ⟨u, v', rfl, hu, h3⟩, by have h4 : rn T (nx T s0 k) [] = some t := h4; cases c : nx T s0 k <;> rw [c] at h4 <;> exact h4, h2⟩
  · rintro ⟨s0, e, ⟨u, v, rfl, hu, h1⟩, h2, h3⟩
    rw [List.append_assoc]
    exact .snoc hu ⟨e, by rw [e0, rn_snoc h1]; exact h2, h3⟩
theorem setR_snoc {T : Tbl} {L : Lg} {w : List Nat} {k s : Nat} : SetR T L (w ++ [k]) s ↔ (∃ s0, SetR T L w s0 ∧ nx T s0 k = some s) ∨ (s = 0 ∧ StL L (w ++ [k])) := by
  constructor
  · rintro ⟨u, v, e, h1, h2⟩
    rcases snoc_split e with ⟨rfl, rfl⟩ | ⟨v', rfl, rfl⟩
    · cases h2
      exact .inr ⟨rfl, h1⟩
    · obtain ⟨s0, h3, h4⟩ := rn_some h2
      exact .inl ⟨s0, ⟨u, v', rfl, h1, h3⟩, by have h4 : rn T (nx T s0 k) [] = some s := h4; cases c : nx T s0 k <;> rw [c] at h4 <;> exact h4⟩
  · rintro (⟨s0, ⟨u, v, rfl, h1, h2⟩, h3⟩ | ⟨rfl, h1⟩)
    · exact ⟨u, v ++ [k], by rw [List.append_assoc], h1, by rw [rn_snoc h2]; exact h3⟩
    · exact ⟨w ++ [k], [], by rw [List.append_nil], h1, rfl⟩
theorem rst_step {T : Tbl} {g : List Nat} {m : Nat} (wf : Wf T m) (h0 : 0 < T.length) {w : List Nat} {q : Bool × List Nat} {k : Nat} (h : RInv T (AccS T fun s => s ∈ g) w q) : (∀ q', rst T g q k = some q' → RInv T (AccS T fun s => s ∈ g) (w ++ [k]) q') ∧ (rst T g q k = none → ¬ StL (AccS T fun s => s ∈ g) (w ++ [k]) ∧ ∀ s, ¬ SetR T (AccS T fun s => s ∈ g) (w ++ [k]) s) := by
  have eb : ((aft T q.2 k).any fun s => decide (s ∈ g)) = true ↔ StL (AccS T fun s => s ∈ g) (w ++ [k]) := by
    rw [List.any_eq_true, stl_snoc h0]
    constructor
    · rintro ⟨e, h1, h2⟩
      obtain ⟨s0, h3, h4⟩ := (aft_mem wf).mp h1
      exact ⟨s0, e, (h.mem s0).mp h3, h4, of_decide_eq_true h2⟩
    · rintro ⟨s0, e, h1, h2, h3⟩
      exact ⟨e, (aft_mem wf).mpr ⟨s0, (h.mem s0).mpr h1, h2⟩, decide_eq_true h3⟩
  have em : ∀ s, s ∈ wst (aft T q.2 k) ((aft T q.2 k).any fun s => decide (s ∈ g)) ↔ SetR T (AccS T fun s => s ∈ g) (w ++ [k]) s := fun s => by
    rw [wst_mem, aft_mem wf, setR_snoc, eb]
    constructor
    · rintro (⟨s0, h1, h2⟩ | h1)
      · exact .inl ⟨s0, (h.mem s0).mp h1, h2⟩
      · exact .inr h1
    · rintro (⟨s0, h1, h2⟩ | h1)
      · exact .inl ⟨s0, (h.mem s0).mpr h1, h2⟩
      · exact .inr h1
  unfold rst
  split
  · rename_i c
    have nb : ((aft T q.2 k).any fun s => decide (s ∈ g)) = false := by rw [c]; rfl
    refine ⟨fun q' e => (by cases e), fun _ => ⟨fun z => (by rw [eb.mpr z] at nb; cases nb), fun s hs => ?_⟩⟩
    have := (em s).mpr hs
    rw [c] at this
    rcases wst_mem.mp this with h1 | ⟨_, h1⟩
    · cases h1
    · cases h1
  · refine ⟨fun q' e => ?_, fun e => (by cases e)⟩
    cases e
    exact ⟨eb, wst_asc (aft_asc ..), em⟩
theorem rst_run {T : Tbl} {g : List Nat} {m : Nat} (wf : Wf T m) (h0 : 0 < T.length) : ∀ (v w : List Nat) (q : Bool × List Nat), RInv T (AccS T fun s => s ∈ g) w q → (∀ q', kr (rst T g) (some q) v = some q' → RInv T (AccS T fun s => s ∈ g) (w ++ v) q') ∧ (kr (rst T g) (some q) v = none → ¬ StL (AccS T fun s => s ∈ g) (w ++ v))
  | [], w, q, h => by
    rw [List.append_nil]
    exact ⟨fun q' e => by cases e; exact h, fun e => (by cases e)⟩
  | k :: v, w, q, h => by
    obtain ⟨a, b⟩ := rst_step (k := k) wf h0 h
    have ew : w ++ k :: v = w ++ [k] ++ v := by rw [List.append_assoc]; rfl
    rw [ew]
    show (∀ q', kr (rst T g) (rst T g q k) v = some q' → _) ∧ (kr (rst T g) (rst T g q k) v = none → _)
    cases c : rst T g q k with
    | some q1 => exact rst_run wf h0 v _ q1 (a q1 c)
    | none =>
      rw [kr_none]
      refine ⟨fun q' e => (by cases e), fun _ => ?_⟩
      obtain ⟨b1, b2⟩ := b c
      have dead : ∀ (v w : List Nat), ¬ StL (AccS T fun s => s ∈ g) w → (∀ s, ¬ SetR T (AccS T fun s => s ∈ g) w s) → ¬ StL (AccS T fun s => s ∈ g) (w ++ v) := by
        intro v
        induction v with
        | nil => exact fun w h1 _ => by rw [List.append_nil]; exact h1
        | cons x v ih =>
          intro w h1 h2
          have h3 : ¬ StL (AccS T fun s => s ∈ g) (w ++ [x]) := fun z => by
            obtain ⟨s0, e, h4, _⟩ := (stl_snoc h0).mp z
            exact h2 s0 h4
          rw [show w ++ x :: v = w ++ [x] ++ v by rw [List.append_assoc]; rfl]
          refine ih _ h3 fun s hs => ?_
          rcases setR_snoc.mp hs with ⟨s0, h4, _⟩ | ⟨_, h4⟩
          · exact h2 s0 h4
          · exact h3 h4
      exact dead v _ b1 b2
theorem RInv.start (T : Tbl) (L : Lg) : RInv T L [] (true, [0]) := by
  refine ⟨⟨fun _ => .nil, fun _ => rfl⟩, List.pairwise_singleton .., fun s => ?_⟩
  rw [List.mem_singleton]
  constructor
  · rintro rfl
    exact ⟨[], [], rfl, .nil, rfl⟩
  · rintro ⟨u, v, e, h1, h2⟩
    obtain ⟨rfl, rfl⟩ := List.append_eq_nil_iff.mp e.symm
    cases h2
    rfl
theorem rounds_acc {T : Tbl} {g : List Nat} {m : Nat} (wf : Wf T m) (h0 : 0 < T.length) (w : List Nat) : ((∀ k ∈ w, k < m) ∧ ∃ q, kr (rst T g) (some (true, [0])) w = some q ∧ q.1 = true) ↔ StL (AccS T fun s => s ∈ g) w := by
  obtain ⟨a, b⟩ := rst_run wf h0 w [] _ (RInv.start T (AccS T fun s => s ∈ g))
  rw [List.nil_append] at a b
  constructor
  · rintro ⟨_, q, e, h⟩
    exact (a q e).b.mp h
  · intro h
    refine ⟨?_, ?_⟩
    · clear a b
      induction h with
      | nil => exact fun k hk => absurd hk (by simp)
      | snoc hu hv ih =>
        intro k hk
        rcases List.mem_append.mp hk with hk | hk
        · exact ih k hk
        · obtain ⟨t, e, _⟩ := hv
          exact rn_letters wf e k hk
    · cases e : kr (rst T g) (some (true, [0])) w with
      | none => exact absurd h (b e)
      | some q => exact ⟨q, rfl, (a q e).b.mpr h⟩
theorem stl_none {L : Lg} (h : ∀ w, ¬ L w) (w : List Nat) : StL L w ↔ w = [] := by
  constructor
  · intro s
    rcases s.cases' with e | ⟨u, v, _, _, _, hv⟩
    · exact e
    · exact absurd hv (h v)
  · rintro rfl
    exact .nil
end Mc
set_option pp.maxSteps 700
set_option Elab.async false
set_option linter.all false
set_option maxRecDepth 100000
set_option maxHeartbeats 4000000
open SX (S S_inj S_len S_cat)
namespace Z
open Mc
open PySem PySem.Spec PyProof.Rows L2
open C8 (pss_cut tCut)
local macro_rules | `(tactic| walk_at "num") => `(tactic| first | rfl | omega | decide | exact Nat.le_of_lt (small1000 (by simp)) | exact ⟨by omega, by omega⟩ | exact ⟨by omega, by omega, by omega⟩ | exact ⟨by decide, by decide, by decide⟩ | exact Or.inl ⟨by omega, by omega⟩ | exact Or.inr ⟨by omega, by omega⟩)
local macro_rules | `(tactic| walk_at "go") => `(tactic| repeat (first | refine ⟨_, rfl, ?_⟩ | refine ⟨_, _, rfl, rfl, ?_⟩ | refine ⟨_, _, rfl, ?_⟩ | (refine ⟨_, _, rfl, rfl, ?_, ?_⟩; focus walk_at "num") | refine Or.inl ⟨_, rfl, ?_⟩ | refine ⟨_, _, _, _, rfl, rfl, (by assumption), (by rfl), ?_⟩ | refine ⟨_, _, _, _, _, rfl, (by assumption), (by assumption), (by assumption), (by rfl), ?_⟩ | refine ⟨rfl, ?_⟩ | (refine And.intro ?_ ?_; focus walk_at "num")))
abbrev s_is_kept : Stmt := topS 12
abbrev N_is_kept : List Str := ["mode", "left", "right"]
abbrev P_is_kept : List Str := ["mode", "left", "right"]
theorem sc_is_kept : FnScope N_is_kept P_is_kept (defScope s_is_kept) := ⟨rfl, rfl, rfl, by decide +kernel, rfl, by decide +kernel, by decide +kernel⟩
abbrev s_is_good : Stmt := topS 13
abbrev N_is_good : List Str := ["mode", "left", "right"]
abbrev P_is_good : List Str := ["mode", "left", "right"]
theorem sc_is_good : FnScope N_is_good P_is_good (defScope s_is_good) := ⟨rfl, rfl, rfl, by decide +kernel, rfl, by decide +kernel, by decide +kernel⟩
def ek : Option Nat → NestedKey
  | none => .none
  | some s => .num (s : Int)
theorem ek_inj {a b : Option Nat} (h : ek a = ek b) : a = b := by
  cases a <;> cases b
  · rfl
  · cases h
  · cases h
  · injection h with h
    congr 1
    omega
theorem nkv_e {H : Hp} : ∀ o : Option Nat, NkV H (ek o) (eV o)
  | none => .none
  | some s => .int _
theorem nka_nums {H : Hp} : ∀ g : List Nat, NkA H (g.map fun (s : Nat) => NestedKey.num (s : Int)) (gsq g)
  | [] => .nil
  | s :: g => .cons (.int _) (nka_nums g)
theorem nums_inj : ∀ {a b : List Nat}, (a.map fun (s : Nat) => NestedKey.num (s : Int)) = (b.map fun (s : Nat) => NestedKey.num (s : Int)) → a = b
  | [], [], _ => rfl
  | [], _ :: _, h => by cases h
  | _ :: _, [], h => by cases h
  | x :: a, y :: b, h => by
    rw [List.map_cons, List.map_cons] at h
    injection h with h1 h2
    injection h1 with h1
    rw [nums_inj h2, show x = y by omega]
/-! ### the dict of the keys' numbers -/
section
variable {κ : Type} {enc : κ → NestedKey}
def kvz (enc : κ → NestedKey) : Nat → List (κ × Addr) → List (NestedKey × Addr × Int)
  | _, [] => []
  | n, z :: zs => (enc z.1, z.2, (n : Int)) :: kvz enc (n + 1) zs
theorem kvz_len : ∀ (n : Nat) (zs : List (κ × Addr)), (kvz enc n zs).length = zs.length
  | _, [] => rfl
  | n, z :: zs => by show (kvz enc (n + 1) zs).length + 1 = _; rw [kvz_len (n + 1) zs]; rfl
theorem kvz_app (z : κ × Addr) : ∀ (n : Nat) (zs : List (κ × Addr)), kvz enc n (zs ++ [z]) = kvz enc n zs ++ [(enc z.1, z.2, ((n + zs.length : Nat) : Int))]
  | _, [] => rfl
  | n, y :: zs => by
    show (enc y.1, y.2, (n : Int)) :: kvz enc (n + 1) (zs ++ [z]) = _
    rw [kvz_app z (n + 1) zs, show n + 1 + zs.length = n + (y :: zs).length by rw [List.length_cons]; omega]
    rfl
theorem kvz_none (inj : ∀ a b, enc a = enc b → a = b) {q : κ} : ∀ (n : Nat) (zs : List (κ × Addr)), q ∉ zs.map (·.1) → atN (kvz enc n zs) (enc q) = none
  | _, [], _ => rfl
  | n, z :: zs, h => by
    have h1 : ¬ enc z.1 = enc q := fun e => h (by rw [← inj _ _ e]; exact List.mem_cons_self)
    have ih := kvz_none inj (n + 1) zs fun m => h (List.mem_cons_of_mem _ m)
    unfold atN at ih ⊢
    show Option.map _ (List.find? _ ((enc z.1, z.2, (n : Int)) :: kvz enc (n + 1) zs)) = none
    rw [List.find?_cons, decide_eq_false h1]
    exact ih
theorem kvz_at (inj : ∀ a b, enc a = enc b → a = b) : ∀ (n i : Nat) (zs : List (κ × Addr)) (z : κ × Addr), (zs.map (·.1)).Nodup → zs[i]? = some z → atN (kvz enc n zs) (enc z.1) = some ((n + i : Nat) : Int)
  | n, i, [], z, _, h => by simp at h
  | n, 0, y :: zs, z, nd, h => by
    cases h
    unfold atN
    show Option.map _ (List.find? _ ((enc y.1, y.2, (n : Int)) :: kvz enc (n + 1) zs)) = _
    rw [List.find?_cons, decide_eq_true rfl]
    rfl
  | n, i + 1, y :: zs, z, nd, h => by
    have h : zs[i]? = some z := h
    rw [List.map_cons, List.nodup_cons] at nd
    have ne : ¬ enc y.1 = enc z.1 := fun e => nd.1 (by rw [inj _ _ e]; exact List.mem_map.mpr ⟨z, List.mem_of_getElem? h, rfl⟩)
    have ih := kvz_at inj (n + 1) i zs z nd.2 h
    unfold atN at ih ⊢
    show Option.map _ (List.find? _ ((enc y.1, y.2, (n : Int)) :: kvz enc (n + 1) zs)) = _
    rw [List.find?_cons, decide_eq_false ne, show n + (i + 1) = n + 1 + i by omega]
    exact ih
theorem mem_ex {q : κ} {zs : List (κ × Addr)} (h : q ∈ zs.map (·.1)) : ∃ (i : Nat) (z : κ × Addr), zs[i]? = some z ∧ z.1 = q := by
  obtain ⟨z, hz, e⟩ := List.mem_map.mp h
  obtain ⟨i, hi, rfl⟩ := List.getElem_of_mem hz
  exact ⟨i, _, List.getElem?_eq_getElem hi, e⟩
end
/-! ### tuples live on when other objects change -/
def TupK (J J' : Hp) : Prop := ∀ c vs, J c = some (.tup vs) → J' c = some (.tup vs)
theorem TupK.same {J J' : Hp} (s : Same J J') : TupK J J' := fun c vs h => s _ _ h
theorem TupK.lst {J : Hp} {p : Addr} {xs : List V} {o : HO} (h : J p = some (.lst xs)) : TupK J (upd J p o) := fun c vs e => by rw [upd_ne (fun q => by rw [q, h] at e; cases e)]; exact e
theorem TupK.dno {P : Program} {w : World} {J : Hp} {p : Addr} {kvs : List (NestedKey × Addr × Int)} {o : HO} (h : J p = some (DNo P w p kvs)) : TupK J (upd J p o) := fun c vs e => by rw [upd_ne (fun q => by rw [q, h] at e; cases e)]; exact e
theorem TupK.trans {J J1 J2 : Hp} (a : TupK J J1) (b : TupK J1 J2) : TupK J J2 := fun c vs e => b c vs (a c vs e)
theorem DN.keep {P : Program} {w : World} {J J' : Hp} {p : Addr} {kvs : List (NestedKey × Addr × Int)} (d : DN P w J p kvs) (e : J' p = J p) (t : TupK J J') : DN P w J' p kvs := ⟨by rw [e]; exact d.at_, fun x m => ⟨NkV.keepT t (d.ks x m).1, (d.ks x m).2⟩⟩
section
variable {P : Program} {w : World} {K : PySem.W.Frag} {mg : Str → Option Value} {base : Heap} {f C : Addr} {fd : FuncData}
def mdS : Md → Str
  | .both => "both"
  | .one => "one"
  | .either => "either"
def spKep : Sp := fun vs H Q _ => ∃ (md : Md) (l r : Option Nat), vs = [.str (mdS md), eV l, eV r] ∧ Q (.bl (kpd md l r)) H
theorem ok_is_kept (F : FnP K "is_kept" s_is_kept f fd) : FnOk P w K mg base CX0 1 f fd P_is_kept spKep := by
  refine F.ok sc_is_kept (fun vs H Q E h => ?_) (fun cdv A outer s H vs Q E hr h => ?_)
  · obtain ⟨md, l, r, rfl, _⟩ := h
    rfl
  · obtain ⟨md, l, r, rfl, q⟩ := h
    refine ⟨_, PSs.nox (pss_cons (ps_if (pt_cmpR op_eq (pv 0) pe_str (nomark _)) (pss_one (ps_ret (pe_and (pe_cmpR op_notN (pv 1) pe_non (nomark _)) (pe_one (pe_cmpR op_notN (pv 2) pe_non (nomark _)))))) pss_nil)
      (pss_cons (ps_if (pt_cmpR op_eq (pv 0) pe_str (nomark _)) (pss_one (ps_ret (pe_cmpR op_notN (pv 1) pe_non (nomark _)))) pss_nil)
      (pss_one (ps_ret (pe_or (pe_cmpR op_notN (pv 1) pe_non (nomark _)) (pe_one (pe_cmpR op_notN (pv 2) pe_non (nomark _)))))))), ?_⟩
    cases md <;> cases l <;> cases r <;> (dsimp only [eV]; walk_at "go"; exact q)
def gdb : Md → Bool → Bool → Bool
  | .both, a, b => a && b
  | .one, a, b => a && !b
  | .either, a, b => a || b
def spIsG : Sp := fun vs H Q _ => ∃ (md : Md) (a b : Bool), vs = [.str (mdS md), .bl a, .bl b] ∧ Q (.bl (gdb md a b)) H
theorem ok_is_good (F : FnP K "is_good" s_is_good f fd) : FnOk P w K mg base CX0 1 f fd P_is_good spIsG := by
  refine F.ok sc_is_good (fun vs H Q E h => ?_) (fun cdv A outer s H vs Q E hr h => ?_)
  · obtain ⟨md, l, r, rfl, _⟩ := h
    rfl
  · obtain ⟨md, a, b, rfl, q⟩ := h
    refine ⟨_, PSs.nox (pss_cons (ps_if (pt_cmpR op_eq (pv 0) pe_str (nomark _)) (pss_one (ps_ret (pe_and (pv 1) (pe_one (pv 2))))) pss_nil)
      (pss_cons (ps_if (pt_cmpR op_eq (pv 0) pe_str (nomark _)) (pss_one (ps_ret (pe_and (pv 1) (pe_one (pe_not (pv 2)))))) pss_nil)
      (pss_one (ps_ret (pe_or (pv 1) (pe_one (pv 2))))))), ?_⟩
    cases md <;> cases a <;> cases b <;> (walk_at "go"; exact q)
theorem gdb_iff {md : Md} {g1 g2 : List Nat} {l r : Option Nat} : gdb md (gB g1 l) (gB g2 r) = true ↔ pgd (inG g1) (inG g2) md l r := by
  have a : gB g1 l = true ↔ OG (inG g1) l := gB_iff
  have b : gB g2 r = true ↔ OG (inG g2) r := gB_iff
  cases md
  · show (gB g1 l && gB g2 r) = true ↔ (OG (inG g1) l ∧ OG (inG g2) r)
    rw [Bool.and_eq_true, a, b]
  · show (gB g1 l && !gB g2 r) = true ↔ (OG (inG g1) l ∧ ¬ OG (inG g2) r)
    rw [Bool.and_eq_true, a, ← b]
    cases gB g2 r <;> simp
  · show (gB g1 l || gB g2 r) = true ↔ (OG (inG g1) l ∨ OG (inG g2) r)
    rw [Bool.or_eq_true, a, b]
/-- x in a tuple of numbers, x a number or None -/
theorem inV_opt (g : List Nat) (o : Option Nat) : inV (eV o) (gsq g) = gB g o := by
  cases o with
  | some j => exact inV_gsq j g
  | none =>
    induction g with
    | nil => rfl
    | cons x g ih => exact ih
end
end Z
set_option Elab.async false
set_option linter.all false
set_option maxRecDepth 100000
set_option maxHeartbeats 4000000
namespace Z
open Mc PySem PySem.Spec PyProof.Rows L2
/-- [at for at, x in enumerate(xs) if ..] -/
theorem lc_enumT {p : Bool} {K : PySem.W.Frag} {a D : Addr} {xs : List V} {H0 : Hp} {i j : Nat} {tt : TT} {te : TE} {vs : List Nat} {σ : L2.St} {Qd : Hp → Prop} (gb : Nat → Bool) (hS : SqK p K H0 a xs) (hn : xs.length ≤ 1000000) (nD : H0 D = none)
    (hw : ∀ (k : Nat) (x : V), wipe (((wipe σ vs).set i (some (.int (k : Int)))).set j (some x)) vs = wipe σ vs)
    (hb : ∀ (k : Nat) (x : V) J (Q : Bool → Hp → Prop), xs[k]? = some x → Same H0 J → (∀ J2, Same J J2 → Q (gb k) J2) → tt (((wipe σ vs).set i (some (.int (k : Int)))).set j (some x)) J Q)
    (ht : ∀ (k : Nat) (x : V) J (Q : VK), xs[k]? = some x → Same H0 J → Q (.int (k : Int)) J → te (((wipe σ vs).set i (some (.int (k : Int)))).set j (some x)) J Q)
    (hd : ∀ J, Same H0 J → J D = some (.lst (gsq ((List.range xs.length).filter gb))) → Qd J) : lcW (ItEM p K a) (gTup K 2 (gCons (gName i) (gCons (gName j) gNil))) tt te vs σ D Qd H0 := by
  refine lc_gen (n := xs.length) (fun k J => Same H0 J ∧ J D = some (.lst (gsq ((List.range k).filter gb)))) ⟨same_new nD, upd_same⟩ ?_ ?_ ?_ (fun J p => hd J p.1 p.2)
  · rintro k J hk ⟨s5, _⟩
    exact ⟨xs, xs[k], Z.Same.sqK s5 hS, List.getElem?_eq_getElem hk⟩
  · rintro J ⟨s5, _⟩
    exact ⟨xs, Z.Same.sqK s5 hS, rfl⟩
  · rintro k J x J' hk ⟨s5, eD⟩ ⟨Tt, z, rfl, nT, rfl, e⟩
    have hx := e _ (Z.Same.sqK s5 hS)
    have sT := same_new (o := .tup [.int ((k : Nat) : Int), z]) nT
    refine ⟨Tt, _, rfl, SqT.of upd_same, rfl, _, _, rfl, _, _, rfl, rfl, hw k z, ?_⟩
    refine hb k z _ _ hx (s5.trans sT) fun J2 s2 => ?_
    have fs : (List.range (k + 1)).filter gb = (List.range k).filter gb ++ if gb k = true then [k] else [] := by
      rw [List.range_succ, List.filter_append]
      congr 1
      cases c : gb k <;> simp [c]
    have lD : ((List.range k).filter gb).length ≤ 1000000 := by
      have h1 := List.length_filter_le gb (List.range k)
      rw [List.length_range] at h1
      omega
    cases c : gb k
    · rw [if_neg Bool.false_ne_true]
      refine ⟨s5.trans (sT.trans s2), ?_⟩
      rw [fs, c, if_neg Bool.false_ne_true, List.append_nil]
      exact s2 _ _ (sT _ _ eD)
    · rw [if_pos rfl]
      refine ht k z _ _ hx (s5.trans (sT.trans s2)) ⟨_, s2 _ _ (sT _ _ eD), by unfold gsq; rw [List.length_map]; exact szC (by omega), Z.Same.mut (s5.trans (sT.trans s2)) nD, ?_⟩
      rw [upd_same, fs, c, if_pos rfl]
      unfold gsq
      rw [List.map_append]
      rfl
/-! ### the work list in the heap -/
section
variable {P : Program} {w : World} {κ : Type}
structure PK (P : Program) (w : World) (step : κ → Nat → Option κ) (m : Nat) (start : κ) (D : κ → Prop) (tup : Hp → κ → Addr → Prop) (enc : κ → NestedKey) (J : Hp) (Nu Pa Re : Addr) (zs : List (κ × Addr)) (zr : List (Addr × List (Option Nat))) (line : List (Option Nat)) : Prop where
  dn : DN P w J Nu (kvz enc 0 zs)
  pa : J Pa = some (.lst (zs.map fun z => V.ref z.2))
  ka : ∀ z ∈ zs, tup J z.1 z.2
  tr : TbR J Re zr
  nz : ∀ z ∈ zr, z.1 ≠ Pa ∧ z.1 ≠ Re
  pr : Pa ≠ Re
  wl : Wl step m start (zs.map (·.1)) (tb zr) line
  dd : ∀ z ∈ zs, D z.1
variable {step : κ → Nat → Option κ} {m : Nat} {start : κ} {D : κ → Prop} {tup : Hp → κ → Addr → Prop} {enc : κ → NestedKey} {J J' : Hp} {Nu Pa Re : Addr} {zs : List (κ × Addr)} {zr : List (Addr × List (Option Nat))} {line : List (Option Nat)}
theorem PK.mono (kt : ∀ J J' q b, TupK J J' → tup J q b → tup J' q b) (h : PK P w step m start D tup enc J Nu Pa Re zs zr line) (s : Same J J') : PK P w step m start D tup enc J' Nu Pa Re zs zr line :=
  ⟨h.dn.mono s, s _ _ h.pa, fun z m => kt _ _ _ _ (.same s) (h.ka z m), h.tr.mono s, h.nz, h.pr, h.wl, h.dd⟩
theorem PK.wlc {line' : List (Option Nat)} (h : PK P w step m start D tup enc J Nu Pa Re zs zr line) (wl : Wl step m start (zs.map (·.1)) (tb zr) line') : PK P w step m start D tup enc J Nu Pa Re zs zr line' :=
  ⟨h.dn, h.pa, h.ka, h.tr, h.nz, h.pr, wl, h.dd⟩
theorem PK.nuP (h : PK P w step m start D tup enc J Nu Pa Re zs zr line) {p : Addr} {xs : List V} (e : J p = some (.lst xs)) : p ≠ Nu := fun q => by
  have := h.dn.at_
  rw [← q, e] at this
  cases this
/-- a store to another list -/
theorem PK.lst (kt : ∀ J J' q b, TupK J J' → tup J q b → tup J' q b) (h : PK P w step m start D tup enc J Nu Pa Re zs zr line) {p : Addr} {xs : List V} {o : HO} (e : J p = some (.lst xs)) (h1 : p ≠ Pa) (h2 : p ≠ Re) (h3 : ∀ z ∈ zr, z.1 ≠ p) : PK P w step m start D tup enc (upd J p o) Nu Pa Re zs zr line :=
  ⟨h.dn.keep (upd_ne (h.nuP e).symm) (.lst e), by rw [upd_ne h1.symm]; exact h.pa, fun z m => kt _ _ _ _ (.lst e) (h.ka z m), ⟨by rw [upd_ne h2.symm]; exact h.tr.sq, fun z m => by rw [upd_ne (h3 z m)]; exact h.tr.at_ z m⟩, h.nz, h.pr, h.wl, h.dd⟩
/-- a new key -/
theorem PK.key (kt : ∀ J J' q b, TupK J J' → tup J q b → tup J' q b) (h : PK P w step m start D tup enc J Nu Pa Re zs zr line) {q : κ} {b : Addr} {line' : List (Option Nat)} (hq : tup J q b) (hk : NkV J (enc q) (.ref b)) (h8 : (enc q).depth ≤ 8) (wl : Wl step m start (zs.map (·.1) ++ [q]) (tb zr) line') (dq : D q) :
    (upd J Nu (DNo P w Nu (kvz enc 0 zs ++ [(enc q, b, (zs.length : Int))]))) Pa = some (.lst (zs.map fun z => V.ref z.2)) ∧ PK P w step m start D tup enc (upd (upd J Nu (DNo P w Nu (kvz enc 0 zs ++ [(enc q, b, (zs.length : Int))]))) Pa (.lst ((zs.map fun z => V.ref z.2) ++ [.ref b]))) Nu Pa Re (zs ++ [(q, b)]) zr line' := by
  have e1 : (upd J Nu (DNo P w Nu (kvz enc 0 zs ++ [(enc q, b, (zs.length : Int))]))) Pa = some (.lst (zs.map fun z => V.ref z.2)) := by rw [upd_ne (h.nuP h.pa)]; exact h.pa
  have d1 := h.dn.put hk h8 (i := (zs.length : Int))
  have t1 : TupK J (upd J Nu (DNo P w Nu (kvz enc 0 zs ++ [(enc q, b, (zs.length : Int))]))) := .dno h.dn.at_
  have t2 : TupK (upd J Nu (DNo P w Nu (kvz enc 0 zs ++ [(enc q, b, (zs.length : Int))]))) (upd (upd J Nu (DNo P w Nu (kvz enc 0 zs ++ [(enc q, b, (zs.length : Int))]))) Pa (.lst ((zs.map fun z => V.ref z.2) ++ [.ref b]))) := .lst e1
  refine ⟨e1, ⟨?_, ?_, fun z m => ?_, ⟨?_, fun z m => ?_⟩, h.nz, h.pr, ?_, fun z m => ?_⟩⟩
  · rw [kvz_app, Nat.zero_add]
    exact d1.keep (upd_ne (h.nuP h.pa).symm) t2
  · rw [upd_same, List.map_append]
    rfl
  · rcases List.mem_append.mp m with m | m
    · exact kt _ _ _ _ (t1.trans t2) (h.ka z m)
    · rw [List.mem_singleton.mp m]
      exact kt _ _ _ _ (t1.trans t2) hq
  · rw [upd_ne h.pr.symm, upd_ne (h.nuP h.tr.sq)]
    exact h.tr.sq
  · rw [upd_ne (h.nz z m).1, upd_ne (h.nuP (h.tr.at_ z m))]
    exact h.tr.at_ z m
  · rw [List.map_append]
    exact wl
  · rcases List.mem_append.mp m with m | m
    · exact h.dd z m
    · rw [List.mem_singleton.mp m]
      exact dq
/-- the line is closed -/
theorem PK.close (kt : ∀ J J' q b, TupK J J' → tup J q b → tup J' q b) (h : PK P w step m start D tup enc J Nu Pa Re zs zr line) {Ln : Addr} (hl : line.length = m) (hr : zr.length < zs.length) (e : J Ln = some (.lst (line.map eV))) (n1 : Ln ≠ Pa) (n2 : Ln ≠ Re) : PK P w step m start D tup enc (upd J Re (.lst ((zr.map fun z => V.ref z.1) ++ [.ref Ln]))) Nu Pa Re zs (zr ++ [(Ln, line)]) [] := by
  have t1 : TupK J (upd J Re (.lst ((zr.map fun z => V.ref z.1) ++ [.ref Ln]))) := .lst h.tr.sq
  refine ⟨h.dn.keep (upd_ne (h.nuP h.tr.sq).symm) t1, by rw [upd_ne h.pr]; exact h.pa, fun z m => kt _ _ _ _ t1 (h.ka z m), ⟨by rw [upd_same, List.map_append]; rfl, fun z m => ?_⟩, fun z m => ?_, h.pr, ?_, h.dd⟩
  · rcases List.mem_append.mp m with m | m
    · rw [upd_ne (h.nz z m).2]
      exact h.tr.at_ z m
    · rw [List.mem_singleton.mp m, upd_ne n2]
      exact e
  · rcases List.mem_append.mp m with m | m
    · exact h.nz z m
    · rw [List.mem_singleton.mp m]
      exact ⟨n1, n2⟩
  · unfold tb
    rw [List.map_append]
    exact h.wl.close (by unfold tb; rw [List.length_map, List.length_map]; exact hr) hl
end
end Z
set_option pp.maxSteps 700
set_option Elab.async false
set_option linter.all false
set_option maxRecDepth 100000
set_option maxHeartbeats 4000000
open SX (S S_inj S_len S_cat)
namespace Z
open Mc
open PySem PySem.Spec PyProof.Rows L2
open C8 (pss_cut tCut)
local macro_rules | `(tactic| walk_at "num") => `(tactic| first | rfl | omega | decide | exact Nat.le_of_lt (small1000 (by simp)) | exact ⟨by omega, by omega⟩ | exact ⟨by omega, by omega, by omega⟩ | exact ⟨by decide, by decide, by decide⟩ | exact Or.inl ⟨by omega, by omega⟩ | exact Or.inr ⟨by omega, by omega⟩)
local macro_rules | `(tactic| walk_at "go") => `(tactic| repeat (first | refine ⟨_, rfl, ?_⟩ | refine ⟨_, _, rfl, rfl, ?_⟩ | refine ⟨_, _, rfl, ?_⟩ | (refine ⟨_, _, rfl, rfl, ?_, ?_⟩; focus walk_at "num") | refine Or.inl ⟨_, rfl, ?_⟩ | refine ⟨_, _, _, _, rfl, rfl, (by assumption), (by rfl), ?_⟩ | refine ⟨_, _, _, _, _, rfl, (by assumption), (by assumption), (by assumption), (by rfl), ?_⟩ | refine ⟨rfl, ?_⟩ | (refine And.intro ?_ ?_; focus walk_at "num")))
abbrev s_pair_table : Stmt := topS 14
abbrev N_pair_table : List Str := ["one", "other", "mode", "many", "start", "numbers", "pairs", "rows", "left", "right", "line", "at", "pair", "good"]
abbrev P_pair_table : List Str := ["one", "other", "mode", "many"]
theorem sc_pair_table : FnScope N_pair_table P_pair_table (defScope s_pair_table) := ⟨rfl, rfl, rfl, by decide +kernel, rfl, by decide +kernel, by decide +kernel⟩
def tupP : Hp → Option Nat × Option Nat → Addr → Prop := fun J q b => J b = some (.tup [eV q.1, eV q.2])
def encP (q : Option Nat × Option Nat) : NestedKey := .tup [ek q.1, ek q.2]
theorem encP_inj : ∀ a b, encP a = encP b → a = b := fun (a1, a2) (b1, b2) h => by
  injection h with h
  injection h with h1 h2
  injection h2 with h2
  rw [show a1 = b1 from ek_inj h1, show a2 = b2 from ek_inj h2]
theorem ek_depth (o : Option Nat) : (ek o).depth = 0 := by cases o <;> rfl
theorem encP_depth (q : Option Nat × Option Nat) : (encP q).depth ≤ 8 := by
  unfold encP
  rw [NestedKey.depth, NestedKey.depthAll, NestedKey.depthAll, NestedKey.depthAll, ek_depth, ek_depth]
  decide
theorem tupP_k : ∀ J J' q b, TupK J J' → tupP J q b → tupP J' q b := fun _ _ _ _ t h => t _ _ h
theorem tupP_n {J : Hp} {q : Option Nat × Option Nat} {b : Addr} (h : tupP J q b) : NkV J (encP q) (.ref b) := .tup h (.cons (nkv_e _) (.cons (nkv_e _) .nil))
section
variable {P : Program} {w : World} {K : PySem.W.Frag} {mg : Str → Option Value} {base : Heap} {f C : Addr} {fd : FuncData}
def DP (n1 n2 : Nat) (q : Option Nat × Option Nat) : Prop := Lo n1 q.1 ∧ Lo n2 q.2
theorem few_P {step : Option Nat × Option Nat → Nat → Option (Option Nat × Option Nat)} {m n1 n2 : Nat} {st : Option Nat × Option Nat} {ks : List (Option Nat × Option Nat)} {rows : Tbl} {line : List (Option Nat)} (h : Wl step m st ks rows line) (hd : ∀ q ∈ ks, DP n1 n2 q) : ks.length ≤ (n1 + 1) * (n2 + 1) :=
  h.few (DP n1 n2) (fun q => oc q.1 * (n2 + 1) + oc q.2) hd (fun q d => code2_lt (oc_lt d.1) (oc_lt d.2)) fun q q' d d' e => by
    obtain ⟨a, b⟩ := code2 (oc_lt d.2) (oc_lt d'.2) e
    obtain ⟨q1, q2⟩ := q
    obtain ⟨q1', q2'⟩ := q'
    rw [show q1 = q1' from oc_inj a, show q2 = q2' from oc_inj b]
theorem lo_bind {T : Tbl} {m : Nat} (wf : Wf T m) (o : Option Nat) (k : Nat) : Lo T.length (o.bind fun s => nx T s k) := fun s hs => by
  cases o with
  | none => cases hs
  | some x => exact (nx_lt wf hs).1
theorem cell_at {q : Bool} {K : PySem.W.Frag} {J : Hp} {r : Addr} {zr : List (Addr × List (Option Nat))} {m s k : Nat} (hT : Tb q q K J r zr) (wf : Wf (tb zr) m) (hs : s < zr.length) (hk : k < m) : ∃ z : Addr × List (Option Nat), atI (zr.map fun z => V.ref z.1) (s : Int) = some (.ref z.1) ∧ SqK q K J z.1 (z.2.map eV) ∧ atI (z.2.map eV) (k : Int) = some (eV (nx (tb zr) s k)) := by
  have ez := List.getElem?_eq_getElem hs
  have mz : (zr[s]).2 ∈ tb zr := List.mem_map.mpr ⟨_, List.getElem_mem hs, rfl⟩
  have lr := wf.row _ mz
  refine ⟨zr[s], atI_nat (by rw [List.getElem?_map, ez]; rfl), hT.at_ _ (List.getElem_mem hs), ?_⟩
  rw [← row_nx ez (i := k) (by omega)]
  exact atI_nat (row_at (by omega))
/-- what the makers of tables promise -/
def PTab (H : Hp) (m N : Nat) (L : Lg) (Q : VK) : Prop := ∀ (t A g : Addr) (zs : List (Addr × List (Option Nat))) (gs : List Nat) H', Same H H' → H' t = some (.tup [.ref A, .ref g]) → TbR H' A zs → H' g = some (.lst (gsq gs)) → Wf (tb zs) m → (∀ s ∈ gs, s < zs.length) → zs.length ≤ N → (∀ w, AccS (tb zs) (inG gs) w ↔ L w) → Q (.ref t) H'
def spPair (C : Addr) (K : PySem.W.Frag) : Sp := fun vs H Q _ => ∃ (n1 n2 : Addr) (l1 l2 : List Nat) (R1 R2 : Tbl) (g1 g2 : List Nat) (md : Md) (m : Nat), vs = [.ref n1, .ref n2, .str (mdS md), .int (m : Int)] ∧ McAt C K H n1 l1 R1 g1 ∧ McAt C K H n2 l2 R2 g2 ∧ Wf R1 m ∧ Wf R2 m ∧ m ≤ 1000 ∧ (R1.length + 1) * (R2.length + 1) ≤ 1000000 ∧ PTab H m ((R1.length + 1) * (R2.length + 1)) (pL (AccS R1 (inG g1)) (AccS R2 (inG g2)) md) Q
theorem ok_pair_table (F : FnP K "pair_table" s_pair_table f fd) (m_len : mg "len" = none) (m_range : mg "range" = none) (m_enumerate : mg "enumerate" = none) (cls : Cls K C) (n_rows : NoAttr K C "rows") (n_good : NoAttr K C "good") (c_is_kept : Cal P w K mg base 1 "is_kept" spKep) (c_is_good : Cal P w K mg base 1 "is_good" spIsG) : FnOk P w K mg base CX0 2 f fd P_pair_table (spPair C K) := by
  refine F.ok sc_pair_table (fun vs H Q E h => ?_) (fun cdv A outer s H vs Q E hr h => ?_)
  · obtain ⟨n1, n2, l1, l2, R1, R2, g1, g2, md, m, rfl, _⟩ := h
    rfl
  · obtain ⟨n1, n2, l1, l2, R1, R2, g1, g2, md, m, rfl, hM, hN, w1, w2, lm, big, q⟩ := h
    obtain ⟨dx1, r1, u1, z1, en1, hR1, hu1, rfl⟩ := hM.ex
    obtain ⟨dx2, r2, u2, z2, en2, hR2, hu2, rfl⟩ := hN.ex
    have lT1 : (tb z1).length = z1.length := List.length_map ..
    have lT2 : (tb z2).length = z2.length := List.length_map ..
    refine ⟨_, PSs.nox (pss_cut (ps_set (i := 4) sc_pair_table.nd rfl (by first | exact .inl rfl | exact .inr rfl) (pe_tup (pa_cons (pe_ifExp (pt_cmpR op_gt (pe_callB call_len_seq (by rfl) m_len PySem.boot_len (pa_cons (pe_fld (pv 0) rfl) pa_nil)) pe_int (nomark _)) pe_int pe_non) (pa_cons (pe_ifExp (pt_cmpR op_gt (pe_callB call_len_seq (by rfl) m_len PySem.boot_len (pa_cons (pe_fld (pv 1) rfl) pa_nil)) pe_int (nomark _)) pe_int pe_non) pa_nil))))
      (pss_cons (ps_if (pt_not (pt_val (pe_cl c_is_kept hr (by decide) (by rfl) (pa_cons (pv 2) (pa_cons (pe_ix ix_tup (pv 4) pe_int (fun _ _ => rfl)) (pa_cons (pe_ix ix_tup (pv 4) pe_int (fun _ _ => rfl)) pa_nil)))))) (pss_one (ps_ret (pe_tup (pa_cons (pe_lst pa_nil) (pa_cons (pe_lst pa_nil) pa_nil))))) pss_nil)
      (pss_cons (ps_set (i := 5) sc_pair_table.nd rfl (by first | exact .inl rfl | exact .inr rfl) ((pe_disp1N (P := P) (w := w) (Nat.lt_of_le_of_lt (Nat.add_le_add_left (by decide) _) hr.units) rfl rfl (pv 4) pe_int)))
      (pss_cons (ps_set (i := 6) sc_pair_table.nd rfl (by first | exact .inl rfl | exact .inr rfl) (pe_lst (pa_cons (pv 4) pa_nil)))
      (pss_cons (ps_set (i := 7) sc_pair_table.nd rfl (by first | exact .inl rfl | exact .inr rfl) (pe_lst pa_nil))
      (pss_cut (ps_while PassesOwn.never (pt_cmpR op_lt (pe_callB call_len_seq (by rfl) m_len PySem.boot_len (pa_cons (pv 7) pa_nil)) (pe_callB call_len_seq (by rfl) m_len PySem.boot_len (pa_cons (pv 6) pa_nil)) (nomark _))
        (pss_cons (ps_asg (pe_ix ix_list (pv 6) (pe_callB call_len_seq (by rfl) m_len PySem.boot_len (pa_cons (pv 7) pa_nil)) (fun _ _ => rfl)) (pg_tup rfl (pgs_cons (pg_name (i := 8) sc_pair_table.nd rfl (by first | exact .inl rfl | exact .inr rfl)) (pgs_cons (pg_name (i := 9) sc_pair_table.nd rfl (by first | exact .inl rfl | exact .inr rfl)) pgs_nil))))
      (pss_cons (ps_set (i := 10) sc_pair_table.nd rfl (by first | exact .inl rfl | exact .inr rfl) (pe_lst pa_nil))
      (pss_cut (ps_for PassesOwn.never rfl (pi_range1 (by rfl) m_range (pa_cons (pv 3) pa_nil)) (pg_name (i := 11) sc_pair_table.nd rfl (by first | exact .inl rfl | exact .inr rfl))
        (pss_cut (ps_set (i := 12) sc_pair_table.nd rfl (by first | exact .inl rfl | exact .inr rfl) (pe_tup (pa_cons (pe_ifExp (pt_cmpR op_isN (pv 8) pe_non (nomark _)) pe_non (pe_ix ix_tup (pe_ix ix_tup (pe_fld (pv 0) rfl) (pv 8) (fun _ _ => rfl)) (pv 11) (fun _ _ => rfl))) (pa_cons (pe_ifExp (pt_cmpR op_isN (pv 9) pe_non (nomark _)) pe_non (pe_ix ix_tup (pe_ix ix_tup (pe_fld (pv 1) rfl) (pv 9) (fun _ _ => rfl)) (pv 11) (fun _ _ => rfl))) pa_nil))))
      (pss_cons (ps_if (pt_not (pt_val (pe_cl c_is_kept hr (by decide) (by rfl) (pa_cons (pv 2) (pa_cons (pe_ix ix_tup (pv 12) pe_int (fun _ _ => rfl)) (pa_cons (pe_ix ix_tup (pv 12) pe_int (fun _ _ => rfl)) pa_nil)))))) (pss_cons (ps_expr (pe_bm PySem.F.plainAttrs_list PySem.F.slot_list_append PySem.F.type_list_append mt_append (pv 10) (pa_cons pe_non pa_nil)))
      (pss_one ps_continue)) pss_nil)
      (pss_cut (ps_if (pt_cmp (pc_dnotinN (P := P) (w := w) (Nat.lt_of_le_of_lt (Nat.add_le_add_left (by decide) _) hr.units) rfl rfl (pv 12) (pv 5)) (by rfl)) (pss_cons (ps_asg (pe_callB call_len_seq (by rfl) m_len PySem.boot_len (pa_cons (pv 6) pa_nil)) (pg_sub (pv 5) (pv 12) (set_dN (P := P) (w := w) (Nat.lt_of_le_of_lt (Nat.add_le_add_left (by decide) _) hr.units) rfl rfl)))
      (pss_one (ps_expr (pe_bm PySem.F.plainAttrs_list PySem.F.slot_list_append PySem.F.type_list_append mt_append (pv 6) (pa_cons (pv 12) pa_nil))))) pss_nil)
      (pss_one (ps_expr (pe_bm PySem.F.plainAttrs_list PySem.F.slot_list_append PySem.F.type_list_append mt_append (pv 10) (pa_cons (pe_dgetN (P := P) (w := w) (Nat.lt_of_le_of_lt (Nat.add_le_add_left (by decide) _) hr.units) rfl rfl (pv 5) (pv 12) (fun _ _ => rfl)) pa_nil))))))))
      (pss_one (ps_expr (pe_bm PySem.F.plainAttrs_list PySem.F.slot_list_append PySem.F.type_list_append mt_append (pv 7) (pa_cons (pv 10) pa_nil))))))))
      (pss_cons (ps_setLc (i := 13) (own := [("at", 11), ("pair", 12)]) (g := (gTup K 2 (gCons (gName 11) (gCons (gName 12) gNil)))) (by rfl) sc_pair_table.nd rfl rfl (sw_true rfl rfl rfl (by decide +kernel)) (pi_enumM (by rfl) m_enumerate (pa_cons (pv 6) pa_nil)) (blkOk_by (own := [("at", 11), ("pair", 12)]) (N := N_pair_table) (sc := defScope s_pair_table) (by decide +kernel)) (fun _ _ _ _ _ => (pg_tup rfl (pgs_cons (pg_name (i := 11) sc_pair_table.nd rfl (by first | exact .inl rfl | exact .inr rfl)) (pgs_cons (pg_name (i := 12) sc_pair_table.nd rfl (by first | exact .inl rfl | exact .inr rfl)) pgs_nil)))) (fun _ _ _ _ _ => (pts_one (pt_val (pe_cl c_is_good hr (by decide) (by rfl) (pa_cons (pv 2) (pa_cons (pe_cmpR (op_in_seq_K (K := K) rfl) (pe_ix (ix_tup_K (K := K) rfl) (pv 12) pe_int (fun _ _ => rfl)) (pe_fld_K (K := K) rfl (pv 0) rfl) (by rfl)) (pa_cons (pe_cmpR (op_in_seq_K (K := K) rfl) (pe_ix (ix_tup_K (K := K) rfl) (pv 12) pe_int (fun _ _ => rfl)) (pe_fld_K (K := K) rfl (pv 1) rfl) (by rfl)) pa_nil))))))) (fun _ _ _ _ _ => (pv 11)))
      (pss_one (ps_ret (pe_tup (pa_cons (pv 7) (pa_cons (pv 13) pa_nil)))))))))))), ?_⟩
    rw [show L2.start N_pair_table [V.ref n1, .ref n2, .str (mdS md), .int (m : Int)] = [some (.ref n1), some (.ref n2), some (.str (mdS md)), some (.int (m : Int)), none, none, none, none, none, none, none, none, none, none] from rfl]
    refine ⟨fun σ' J => Same H J ∧ ∃ b : Addr, J b = some (.tup [eV (Mc.st (tb z1)), eV (Mc.st (tb z2))]) ∧ σ' = [some (.ref n1), some (.ref n2), some (.str (mdS md)), some (.int (m : Int)), some (.ref b), none, none, none, none, none, none, none, none, none], ?_, ?_⟩
    · have fin : ∀ (b : Addr) (x y : V), x = eV (Mc.st (tb z1)) → y = eV (Mc.st (tb z2)) → H b = none → Same H (upd H b (.tup [x, y])) ∧ ∃ b' : Addr, (upd H b (.tup [x, y])) b' = some (.tup [eV (Mc.st (tb z1)), eV (Mc.st (tb z2))]) ∧ [some (.ref n1), some (.ref n2), some (.str (mdS md)), some (.int (m : Int)), some (.ref b), none, none, none, none, none, none, none, none, none] = [some (.ref n1), some (.ref n2), some (.str (mdS md)), some (.int (m : Int)), some (V.ref b'), none, none, none, none, none, none, none, none, none] := fun b x y e1 e2 nb => by
        subst e1 e2
        exact ⟨same_new nb, b, upd_same, rfl⟩
      walk_at "go"
      refine ⟨r1, _, rfl, .inr hR1.sq, ?_⟩
      rw [List.length_map]
      walk_at "go"
      by_cases c1 : 0 < z1.length
      · have e1 : Mc.st (tb z1) = some 0 := if_neg (by omega)
        rw [decide_eq_true (show (0 : Int) < (z1.length : Int) by omega)]
        walk_at "go"
        refine ⟨r2, _, rfl, .inr hR2.sq, ?_⟩
        rw [List.length_map]
        walk_at "go"
        by_cases c2 : 0 < z2.length
        · have e2 : Mc.st (tb z2) = some 0 := if_neg (by omega)
          rw [decide_eq_true (show (0 : Int) < (z2.length : Int) by omega)]
          walk_at "go"
          intro b nb
          exact fin b _ _ (by rw [e1]; rfl) (by rw [e2]; rfl) nb
        · have e2 : Mc.st (tb z2) = none := if_pos (by omega)
          rw [decide_eq_false (show ¬ (0 : Int) < (z2.length : Int) by omega)]
          walk_at "go"
          intro b nb
          exact fin b _ _ (by rw [e1]; rfl) (by rw [e2]; rfl) nb
      · have e1 : Mc.st (tb z1) = none := if_pos (by omega)
        rw [decide_eq_false (show ¬ (0 : Int) < (z1.length : Int) by omega)]
        walk_at "go"
        refine ⟨r2, _, rfl, .inr hR2.sq, ?_⟩
        rw [List.length_map]
        walk_at "go"
        by_cases c2 : 0 < z2.length
        · have e2 : Mc.st (tb z2) = some 0 := if_neg (by omega)
          rw [decide_eq_true (show (0 : Int) < (z2.length : Int) by omega)]
          walk_at "go"
          intro b nb
          exact fin b _ _ (by rw [e1]; rfl) (by rw [e2]; rfl) nb
        · have e2 : Mc.st (tb z2) = none := if_pos (by omega)
          rw [decide_eq_false (show ¬ (0 : Int) < (z2.length : Int) by omega)]
          walk_at "go"
          intro b nb
          exact fin b _ _ (by rw [e1]; rfl) (by rw [e2]; rfl) nb
    rintro σ' J ⟨s1, b0, eb0, rfl⟩
    walk_at "go"
    refine ⟨b0, _, _, _, rfl, rfl, SqT.of eb0, at_0, ?_⟩
    walk_at "go"
    refine ⟨b0, _, _, _, rfl, rfl, SqT.of eb0, at_1, ?_⟩
    walk_at "go"
    refine ⟨md, _, _, rfl, ?_⟩
    cases ck : kpd md (Mc.st (tb z1)) (Mc.st (tb z2)) with
    | false =>
      walk_at "go"
      intro A0 nA0
      generalize eH_ : upd J A0 _ = J1
      have s2 : Same J J1 := by rw [← eH_]; exact same_new nA0
      have eA0 : J1 A0 = some (.lst []) := by rw [← eH_]; exact upd_same
      clear eH_
      walk_at "go"
      intro G0 nG0
      generalize eH_ : upd J1 G0 _ = J2
      have s3 : Same J1 J2 := by rw [← eH_]; exact same_new nG0
      have eG0 : J2 G0 = some (.lst []) := by rw [← eH_]; exact upd_same
      clear eH_
      walk_at "go"
      intro T0 nT0
      generalize eH_ : upd J2 T0 _ = J3
      have s4 : Same J2 J3 := by rw [← eH_]; exact same_new nT0
      have eT0 : J3 T0 = some (.tup [.ref A0, .ref G0]) := by rw [← eH_]; exact upd_same
      clear eH_
      exact q T0 A0 G0 [] [] J3 (s1.trans (s2.trans (s3.trans s4))) eT0 ⟨(s3.trans s4) _ _ eA0, fun z m => absurd m (by simp)⟩ (s4 _ _ eG0) ⟨fun r m => absurd m (by simp [Z.tb]), fun r m => absurd m (by simp [Z.tb])⟩ (fun s m => absurd m (by simp)) (Nat.zero_le _) fun w => ⟨fun ⟨t, e, _⟩ => (by rw [show Mc.st (tb []) = none from rfl, rn_none] at e; cases e), fun z => absurd z (pair_none (by rw [ck]; exact Bool.false_ne_true) w)⟩
    | true =>
      walk_at "go"
      refine ite2 (fun e => absurd e Bool.false_ne_true) (fun _ => ?_)
      walk_at "go"
      intro Nu nNu
      have sN := same_new (o := DNo P w Nu []) nNu
      have eb1 := sN _ _ eb0
      walk_at "go"
      refine ⟨encP (Mc.st (tb z1), Mc.st (tb z2)), b0, 0, rfl, rfl, dn_new, tupP_n (q := (Mc.st (tb z1), Mc.st (tb z2))) eb1, encP_depth _, ?_⟩
      have d1 := dn_disp (i := 0) (dn_new (P := P) (w := w) (H := J) (p := Nu)) (tupP_n (q := (Mc.st (tb z1), Mc.st (tb z2))) eb1) (encP_depth _)
      have s2 : Same J (upd (upd J Nu (DNo P w Nu [])) Nu (DNo P w Nu [(encP (Mc.st (tb z1), Mc.st (tb z2)), b0, 0)])) := Z.Same.mut sN nNu
      generalize upd (upd J Nu (DNo P w Nu [])) Nu (DNo P w Nu [(encP (Mc.st (tb z1), Mc.st (tb z2)), b0, 0)]) = J1 at d1 s2
      walk_at "go"
      intro Pa nPa
      generalize eH_ : upd J1 Pa _ = J2
      have s3 : Same J1 J2 := by rw [← eH_]; exact same_new nPa
      have ePa : J2 Pa = some (.lst [.ref b0]) := by rw [← eH_]; exact upd_same
      clear eH_
      walk_at "go"
      intro Re nRe
      generalize eH_ : upd J2 Re _ = J3
      have s4 : Same J2 J3 := by rw [← eH_]; exact same_new nRe
      have eRe : J3 Re = some (.lst []) := by rw [← eH_]; exact upd_same
      clear eH_
      have PR : Pa ≠ Re := ne_of_none ePa nRe
      have s13 := s1.trans (s2.trans (s3.trans s4))
      have nNuH := none_of s1 nNu
      have nPaH := none_of (s1.trans s2) nPa
      have nReH := none_of (s1.trans (s2.trans s3)) nRe
      have pk0 : PK P w (pst (tb z1) (tb z2) md) m (Mc.st (tb z1), Mc.st (tb z2)) (DP z1.length z2.length) tupP encP J3 Nu Pa Re [((Mc.st (tb z1), Mc.st (tb z2)), b0)] [] [] := by
        refine ⟨d1.mono (s3.trans s4), s4 _ _ ePa, fun z hz => ?_, ⟨eRe, fun z m => absurd m (by simp)⟩, fun z m => absurd m (by simp), PR, Wl.start _ _ _, fun z hz => ?_⟩
        · rw [List.mem_singleton.mp hz]
          exact (s2.trans (s3.trans s4)) _ _ eb0
        · rw [List.mem_singleton.mp hz]
          exact ⟨fun s hs => by rw [← lT1]; exact st_lt' _ s hs, fun s hs => by rw [← lT2]; exact st_lt' _ s hs⟩
      clear d1 s2 s3 s4 ePa eRe sN eb1 nPa nRe nNu eb0 s1
      obtain ⟨NN, hNN⟩ : ∃ NN, NN = (z1.length + 1) * (z2.length + 1) := ⟨_, rfl⟩
      rw [lT1, lT2, ← hNN] at big q
      have few : ∀ {zs : List ((Option Nat × Option Nat) × Addr)} {rows : Tbl} {line : List (Option Nat)}, Wl (pst (tb z1) (tb z2) md) m (Mc.st (tb z1), Mc.st (tb z2)) (zs.map (·.1)) rows line → (∀ z ∈ zs, DP z1.length z2.length z.1) → zs.length ≤ NN := fun {zs rows line} wl hd => by
        have := few_P wl fun q hq => by
          obtain ⟨z, hz, rfl⟩ := List.mem_map.mp hq
          exact hd z hz
        rw [List.length_map, ← hNN] at this
        exact this
      dsimp only [List.set]
      refine ⟨fun σ' J => Same H J ∧ ∃ (zs : List ((Option Nat × Option Nat) × Addr)) (zr : List (Addr × List (Option Nat))) (v8 v9 v10 v11 v12 : Option V), PK P w (pst (tb z1) (tb z2) md) m (Mc.st (tb z1), Mc.st (tb z2)) (DP z1.length z2.length) tupP encP J Nu Pa Re zs zr [] ∧ zr.length = zs.length ∧ σ' = [some (.ref n1), some (.ref n2), some (.str (mdS md)), some (.int (m : Int)), some (.ref b0), some (.ref Nu), some (.ref Pa), some (.ref Re), v8, v9, v10, v11, v12, none], ?_, ?_⟩
      · refine ⟨fun μ σ J => Same H J ∧ ∃ (zs : List ((Option Nat × Option Nat) × Addr)) (zr : List (Addr × List (Option Nat))) (v8 v9 v10 v11 v12 : Option V), PK P w (pst (tb z1) (tb z2) md) m (Mc.st (tb z1), Mc.st (tb z2)) (DP z1.length z2.length) tupP encP J Nu Pa Re zs zr [] ∧ μ = NN - zr.length ∧ σ = [some (.ref n1), some (.ref n2), some (.str (mdS md)), some (.int (m : Int)), some (.ref b0), some (.ref Nu), some (.ref Pa), some (.ref Re), v8, v9, v10, v11, v12, none], ⟨_, s13, _, [], none, none, none, none, none, pk0, rfl, rfl⟩, ?_⟩
        rintro μ σ J ⟨s4, zs, zr, v8, v9, v10, v11, v12, pk, rfl, rfl⟩
        have lzr : (tb zr).length = zr.length := List.length_map ..
        have lez := pk.wl.le
        rw [lzr, List.length_map] at lez
        have lzN := few pk.wl pk.dd
        walk_at "go"
        refine ⟨Re, _, rfl, .inl (SqL.of pk.tr.sq), ?_⟩
        rw [List.length_map]
        walk_at "go"
        refine ⟨Pa, _, rfl, .inl (SqL.of pk.pa), ?_⟩
        rw [List.length_map]
        walk_at "go"
        refine ite2 (fun e => ?_) (fun e => ?_)
        · have lt : zr.length < zs.length := by have := of_decide_eq_true e; omega
          refine ⟨fun σ' J' => Same H J' ∧ ∃ (zs : List ((Option Nat × Option Nat) × Addr)) (zr' : List (Addr × List (Option Nat))) (v8 v9 v10 v11 v12 : Option V), PK P w (pst (tb z1) (tb z2) md) m (Mc.st (tb z1), Mc.st (tb z2)) (DP z1.length z2.length) tupP encP J' Nu Pa Re zs zr' [] ∧ zr'.length = zr.length + 1 ∧ σ' = [some (.ref n1), some (.ref n2), some (.str (mdS md)), some (.int (m : Int)), some (.ref b0), some (.ref Nu), some (.ref Pa), some (.ref Re), v8, v9, v10, v11, v12, none], ?_, ?_⟩
          · rintro σ' J' ⟨s5, zs', zr', v8, v9, v10, v11, v12, e1, e2, rfl⟩
            exact ⟨_, by omega, s5, zs', zr', v8, v9, v10, v11, v12, e1, rfl, rfl⟩
          obtain ⟨z0, hz0⟩ : ∃ z0, zs[zr.length]? = some z0 := ⟨_, List.getElem?_eq_getElem lt⟩
          have tz0 := pk.ka z0 (List.mem_of_getElem? hz0)
          have dz0 := pk.dd z0 (List.mem_of_getElem? hz0)
          walk_at "go"
          refine ⟨Re, _, rfl, .inl (SqL.of pk.tr.sq), ?_⟩
          rw [List.length_map]
          walk_at "go"
          refine ⟨Pa, _, _, _, rfl, rfl, SqL.of pk.pa, atI_nat (v := .ref z0.2) (by rw [List.getElem?_map, hz0]; rfl), ?_⟩
          walk_at "go"
          refine ⟨z0.2, _, rfl, SqT.of tz0, rfl, _, _, rfl, _, _, rfl, rfl, ?_⟩
          walk_at "go"
          intro Ln nLn
          generalize eH_ : upd J Ln _ = J1
          have s5 : Same J J1 := by rw [← eH_]; exact same_new nLn
          have eLn : J1 Ln = some (.lst (([] : List (Option Nat)).map eV)) := by rw [← eH_]; exact upd_same
          clear eH_
          have pk1 := pk.mono tupP_k s5
          have LP : Ln ≠ Pa := (ne_of_none pk.pa nLn).symm
          have LR : Ln ≠ Re := (ne_of_none pk.tr.sq nLn).symm
          have Lz : ∀ z ∈ zr, z.1 ≠ Ln := fun z hz => ne_of_none (pk.tr.at_ z hz) nLn
          have nLnH := none_of s4 nLn
          have s41 := s4.trans s5
          have ltN : zr.length < NN := by omega
          clear pk lzN e nLn s5 lez
          dsimp only [List.set]
          refine ⟨fun σ' J' => Same H J' ∧ ∃ (zs : List ((Option Nat × Option Nat) × Addr)) (line : List (Option Nat)) (v11 v12 : Option V), PK P w (pst (tb z1) (tb z2) md) m (Mc.st (tb z1), Mc.st (tb z2)) (DP z1.length z2.length) tupP encP J' Nu Pa Re zs zr line ∧ J' Ln = some (.lst (line.map eV)) ∧ line.length = m ∧ zr.length < zs.length ∧ σ' = [some (.ref n1), some (.ref n2), some (.str (mdS md)), some (.int (m : Int)), some (.ref b0), some (.ref Nu), some (.ref Pa), some (.ref Re), some (eV z0.1.1), some (eV z0.1.2), some (.ref Ln), v11, v12, none], ?_, ?_⟩
          · walk_at "go"
            refine for_gen (n := m) (fun k σ J' => Same H J' ∧ ∃ (zs : List ((Option Nat × Option Nat) × Addr)) (line : List (Option Nat)) (v11 v12 : Option V), PK P w (pst (tb z1) (tb z2) md) m (Mc.st (tb z1), Mc.st (tb z2)) (DP z1.length z2.length) tupP encP J' Nu Pa Re zs zr line ∧ J' Ln = some (.lst (line.map eV)) ∧ line.length = k ∧ zs[zr.length]? = some z0 ∧ σ = [some (.ref n1), some (.ref n2), some (.str (mdS md)), some (.int (m : Int)), some (.ref b0), some (.ref Nu), some (.ref Pa), some (.ref Re), some (eV z0.1.1), some (eV z0.1.2), some (.ref Ln), v11, v12, none]) ⟨s41, zs, [], v11, v12, pk1, eLn, rfl, hz0, rfl⟩ ?_ ?_ ?_ ?_
            · intro k σ J hk _
              show k < ((m : Int)).toNat
              omega
            · intro σ J _
              show ((m : Int)).toNat ≤ m
              omega
            · rintro k σ J x J' hk ⟨s6, zs, line, v11, v12, pk, eL, ll, hz0, rfl⟩ ⟨rfl, rfl⟩
              rw [show (0 : Int) + (k : Int) = (k : Int) by omega]
              have hR1' := hR1.mono s6
              have hR2' := hR2.mono s6
              have en1' := s6 _ _ en1
              have en2' := s6 _ _ en2
              obtain ⟨q', hq'⟩ : ∃ q' : Option Nat × Option Nat, q' = (z0.1.1.bind fun s => nx (tb z1) s k, z0.1.2.bind fun s => nx (tb z2) s k) := ⟨_, rfl⟩
              refine ⟨fun σ' J1 => Same J' J1 ∧ ∃ b : Addr, J' b = none ∧ J1 b = some (.tup [eV q'.1, eV q'.2]) ∧ σ' = [some (.ref n1), some (.ref n2), some (.str (mdS md)), some (.int (m : Int)), some (.ref b0), some (.ref Nu), some (.ref Pa), some (.ref Re), some (eV z0.1.1), some (eV z0.1.2), some (.ref Ln), some (.int (k : Int)), some (.ref b), none], ?_, ?_⟩
              · have d1 := dz0.1
                have d2 := dz0.2
                rw [hq']
                generalize z0.1.1 = lo at d1
                generalize z0.1.2 = ro at d2
                dsimp only [List.set]
                cases lo with
                | none =>
                  dsimp only [eV]
                  walk_at "go"
                  cases ro with
                  | none =>
                    dsimp only [eV]
                    walk_at "go"
                    intro b nb
                    exact ⟨same_new nb, b, nb, upd_same, rfl⟩
                  | some s =>
                    obtain ⟨zz, c1, c2, c3⟩ := cell_at hR2' w2 (d2 s rfl) hk
                    dsimp only [eV]
                    walk_at "go"
                    refine ⟨r2, _, _, _, rfl, rfl, hR2'.sq, c1, ?_⟩
                    walk_at "go"
                    refine ⟨zz.1, _, _, _, rfl, rfl, c2, c3, ?_⟩
                    walk_at "go"
                    intro b nb
                    exact ⟨same_new nb, b, nb, upd_same, rfl⟩
                | some s1 =>
                  obtain ⟨zz, c1, c2, c3⟩ := cell_at hR1' w1 (d1 s1 rfl) hk
                  dsimp only [eV]
                  walk_at "go"
                  refine ⟨r1, _, _, _, rfl, rfl, hR1'.sq, c1, ?_⟩
                  walk_at "go"
                  refine ⟨zz.1, _, _, _, rfl, rfl, c2, c3, ?_⟩
                  walk_at "go"
                  cases ro with
                  | none =>
                    dsimp only [eV]
                    walk_at "go"
                    intro b nb
                    exact ⟨same_new nb, b, nb, upd_same, rfl⟩
                  | some s =>
                    obtain ⟨zz2, c4, c5, c6⟩ := cell_at hR2' w2 (d2 s rfl) hk
                    dsimp only [eV]
                    walk_at "go"
                    refine ⟨r2, _, _, _, rfl, rfl, hR2'.sq, c4, ?_⟩
                    walk_at "go"
                    refine ⟨zz2.1, _, _, _, rfl, rfl, c5, c6, ?_⟩
                    walk_at "go"
                    intro b nb
                    exact ⟨same_new nb, b, nb, upd_same, rfl⟩
              rintro σ' J1 ⟨s7, b, nb, eb, rfl⟩
              have pk1 := pk.mono tupP_k s7
              have eL1 := s7 _ _ eL
              have s61 := s6.trans s7
              have hzk : (zs.map (·.1))[(tb zr).length]? = some z0.1 := by rw [lzr, List.getElem?_map, hz0]; rfl
              have lls : (line.map eV).length < sizeLine := by rw [List.length_map]; exact szC (by omega)
              clear pk eL s7 s6 hR1' hR2' en1' en2' pk0
              walk_at "go"
              refine ⟨b, _, _, _, rfl, rfl, SqT.of eb, at_0, ?_⟩
              walk_at "go"
              refine ⟨b, _, _, _, rfl, rfl, SqT.of eb, at_1, ?_⟩
              walk_at "go"
              refine ⟨md, q'.1, q'.2, rfl, ?_⟩
              have stp : pst (tb z1) (tb z2) md z0.1 line.length = if kpd md q'.1 q'.2 = true then some q' else none := by
                rw [hq', ll]
                rfl
              cases ck : kpd md q'.1 q'.2 with
              | false =>
                rw [ck, if_neg Bool.false_ne_true] at stp
                walk_at "go"
                refine ⟨.inl ⟨rfl, _, SqL.of eL1⟩, ?_⟩
                walk_at "go"
                refine ⟨Ln, _, _, rfl, rfl, eL1, lls, ?_⟩
                refine ⟨Z.Same.mut s61 nLnH, zs, line ++ [none], _, _, (pk1.lst tupP_k eL1 LP LR Lz).wlc (pk1.wl.putNone hzk (by omega) stp), by rw [upd_same, List.map_append]; rfl, by rw [List.length_append, ll]; rfl, hz0, rfl⟩
              | true =>
                rw [ck, if_pos rfl] at stp
                walk_at "go"
                refine ite2 (fun e => absurd e Bool.false_ne_true) (fun _ => ?_)
                walk_at "go"
                refine ⟨fun σ' J2 => Same H J2 ∧ ∃ (zs : List ((Option Nat × Option Nat) × Addr)) (j : Nat) (z' : (Option Nat × Option Nat) × Addr), PK P w (pst (tb z1) (tb z2) md) m (Mc.st (tb z1), Mc.st (tb z2)) (DP z1.length z2.length) tupP encP J2 Nu Pa Re zs zr line ∧ zs[j]? = some z' ∧ z'.1 = q' ∧ J2 Ln = some (.lst (line.map eV)) ∧ J2 b = some (.tup [eV q'.1, eV q'.2]) ∧ zs[zr.length]? = some z0 ∧ σ' = [some (.ref n1), some (.ref n2), some (.str (mdS md)), some (.int (m : Int)), some (.ref b0), some (.ref Nu), some (.ref Pa), some (.ref Re), some (eV z0.1.1), some (eV z0.1.2), some (.ref Ln), some (.int (k : Int)), some (.ref b), none], ?_, ?_⟩
                · walk_at "go"
                  refine ⟨Nu, _, encP q', b, rfl, rfl, pk1.dn, tupP_n eb, encP_depth _, ?_⟩
                  by_cases hm : q' ∈ zs.map (·.1)
                  · obtain ⟨j, z', hj, ez⟩ := mem_ex hm
                    have ea := kvz_at encP_inj 0 j zs z' pk1.wl.nd hj
                    rw [ez] at ea
                    rw [ea]
                    refine ⟨_, rfl, ite2 (fun e => absurd e Bool.false_ne_true) (fun _ => ?_)⟩
                    exact ⟨s61, zs, j, z', pk1, hj, ez, eL1, eb, hz0, rfl⟩
                  · have ea := kvz_none encP_inj 0 zs hm
                    have dq : DP z1.length z2.length q' := by
                      rw [hq']
                      exact ⟨fun s hs => by rw [← lT1]; exact lo_bind w1 _ _ s hs, fun s hs => by rw [← lT2]; exact lo_bind w2 _ _ s hs⟩
                    have few1 := few pk1.wl pk1.dd
                    obtain ⟨e1, pk2⟩ := pk1.key tupP_k (b := b) eb (tupP_n eb) (encP_depth _) (pk1.wl.ext (by rw [lzr, List.length_map]; exact (List.getElem?_eq_some_iff.mp hz0).1) hm) dq
                    rw [ea]
                    refine ⟨_, rfl, ite2 (fun _ => ?_) (fun e => absurd (show (!(none : Option Int).isSome) = true from rfl) e)⟩
                    walk_at "go"
                    refine ⟨Pa, _, rfl, .inl (SqL.of pk1.pa), ?_⟩
                    rw [List.length_map]
                    walk_at "go"
                    refine ⟨Nu, _, encP q', b, _, rfl, rfl, rfl, pk1.dn, tupP_n eb, encP_depth _, ea, by rw [kvz_len]; exact szC (by omega), ?_⟩
                    walk_at "go"
                    refine ⟨.inl ⟨rfl, _, SqL.of e1⟩, ?_⟩
                    walk_at "go"
                    refine ⟨Pa, _, _, rfl, rfl, e1, by rw [List.length_map]; exact szC (by omega), ?_⟩
                    have eL2 : (upd (upd J1 Nu (DNo P w Nu (kvz encP 0 zs ++ [(encP q', b, (zs.length : Int))]))) Pa (.lst ((zs.map fun z => V.ref z.2) ++ [.ref b]))) Ln = some (.lst (line.map eV)) := by rw [upd_ne LP, upd_ne (pk1.nuP eL1)]; exact eL1
                    refine ⟨Z.Same.mut (Z.Same.mut s61 nNuH) nPaH, zs ++ [(q', b)], zs.length, (q', b), pk2, by rw [List.getElem?_append_right (Nat.le_refl _), Nat.sub_self]; rfl, rfl, eL2, ?_, by rw [List.getElem?_append_left (List.getElem?_eq_some_iff.mp hz0).1]; exact hz0, rfl⟩
                    exact (TupK.lst e1) _ _ ((TupK.dno pk1.dn.at_) _ _ eb)
                rintro σ' J2 ⟨s8, zs2, j, z', pk2, hj, ez, eL2, eb2, hz2, rfl⟩
                walk_at "go"
                refine ⟨.inl ⟨rfl, _, SqL.of eL2⟩, ?_⟩
                have ea := kvz_at encP_inj 0 j zs2 z' pk2.wl.nd hj
                rw [ez, Nat.zero_add] at ea
                walk_at "go"
                refine ⟨Nu, _, encP q', b, _, rfl, rfl, pk2.dn, tupP_n eb2, encP_depth _, ea, ?_⟩
                walk_at "go"
                refine ⟨Ln, _, _, rfl, rfl, eL2, lls, ?_⟩
                refine ⟨Z.Same.mut s8 nLnH, zs2, line ++ [some j], _, _, (pk2.lst tupP_k eL2 LP LR Lz).wlc (pk2.wl.putOld (q := z0.1) (q' := q') (by rw [lzr, List.getElem?_map, hz2]; rfl) (by omega) stp (by rw [List.getElem?_map, hj, ← ez]; rfl)), by rw [upd_same, List.map_append]; rfl, by rw [List.length_append, ll]; rfl, hz2, rfl⟩
            · rintro σ J ⟨s6, zs, line, v11, v12, pk, eL, ll, hz0, rfl⟩
              exact ⟨s6, zs, line, v11, v12, pk, eL, ll, (List.getElem?_eq_some_iff.mp hz0).1, rfl⟩
          rintro σ' J' ⟨s6, zs', line, v11, v12, pk, eL, ll, lt', rfl⟩
          walk_at "go"
          refine ⟨.inl ⟨rfl, _, SqL.of pk.tr.sq⟩, ?_⟩
          walk_at "go"
          refine ⟨Re, _, _, rfl, rfl, pk.tr.sq, by rw [List.length_map]; exact szC (by omega), ?_⟩
          exact ⟨Z.Same.mut s6 nReH, zs', zr ++ [(Ln, line)], _, _, _, _, _, pk.close tupP_k ll lt' eL LP LR, by rw [List.length_append]; rfl, rfl⟩
        · have le : zr.length = zs.length := by
            have : ¬ (zr.length : Int) < (zs.length : Int) := fun z => e (decide_eq_true z)
            omega
          exact ⟨s4, zs, zr, _, _, _, _, _, pk, le, rfl⟩
      rintro σ' J ⟨s4, zs, zr, v8, v9, v10, v11, v12, pk, le, rfl⟩
      have lzN := few pk.wl pk.dd
      have lzr : (tb zr).length = zr.length := List.length_map ..
      have en1' := s4 _ _ en1
      have en2' := s4 _ _ en2
      have hu1' := s4 _ _ hu1
      have hu2' := s4 _ _ hu2
      clear pk0 hM hN few
      walk_at "go"
      refine ⟨true, _, _, rfl, SqL.of pk.pa, ?_⟩
      intro D nD
      refine lc_enumT (fun k => match (zs.map (·.1))[k]? with | some q => gdb md (gB g1 q.1) (gB g2 q.2) | none => false) (SqL.of pk.pa) (by rw [List.length_map]; omega) nD (fun k x => rfl) (fun k x J1 Q1 ex s5 q1 => ?_) (fun k x J1 Q1 ex s5 q1 => ?_) (fun J1 s5 eD => ?_)
      · rw [List.getElem?_map] at ex
        obtain ⟨z, ez, rfl⟩ := Option.map_eq_some_iff.mp ex
        have tz := tupP_k _ _ _ _ (.same s5) (pk.ka z (List.mem_of_getElem? ez))
        have eb : (match (zs.map (·.1))[k]? with | some q => gdb md (gB g1 q.1) (gB g2 q.2) | none => false) = gdb md (gB g1 z.1.1) (gB g2 z.1.2) := by rw [List.getElem?_map, ez]; rfl
        rw [eb] at q1
        have en1' := s5 _ _ en1'
        have en2' := s5 _ _ en2'
        walk_at "go"
        refine ⟨z.2, _, _, _, rfl, rfl, SqT.of tz, at_0, ?_⟩
        walk_at "go"
        refine ⟨u1, _, rfl, .inr (SqT.of (s5 _ _ hu1')), by cases z.1.1 <;> rfl, gsq_flat g1, ?_⟩
        rw [inV_opt]
        walk_at "go"
        refine ⟨z.2, _, _, _, rfl, rfl, SqT.of tz, at_1, ?_⟩
        walk_at "go"
        refine ⟨u2, _, rfl, .inr (SqT.of (s5 _ _ hu2')), by cases z.1.2 <;> rfl, gsq_flat g2, ?_⟩
        rw [inV_opt]
        walk_at "go"
        refine ⟨md, _, _, rfl, ?_⟩
        exact ⟨_, rfl, q1 _ (Same.refl _)⟩
      · walk_at "go"
        exact q1
      have pk5 := pk.mono tupP_k s5
      rw [List.length_map] at eD
      walk_at "go"
      intro T0 nT0
      generalize eH_ : upd J1 T0 _ = J2
      have s6 : Same J1 J2 := by rw [← eH_]; exact same_new nT0
      have eT0 : J2 T0 = some (.tup [.ref Re, .ref D]) := by rw [← eH_]; exact upd_same
      clear eH_
      have hz : (tb zr).length = (zs.map (·.1)).length := by rw [lzr, le, List.length_map]
      refine q T0 Re D zr _ J2 (s4.trans (s5.trans s6)) eT0 (pk5.tr.mono s6) (s6 _ _ eD) (pk.wl.wf hz) (fun s hs => by rw [le]; exact List.mem_range.mp (List.mem_filter.mp hs).1) (by omega) fun w => ?_
      rw [← pair_acc w1 w2]
      refine pk.wl.acc hz (fun j q hj => ?_) w
      unfold inG
      rw [List.mem_filter, List.mem_range, hj]
      constructor
      · rintro ⟨_, hg⟩
        exact gdb_iff.mp hg
      · intro hg
        have := (List.getElem?_eq_some_iff.mp hj).1
        rw [List.length_map] at this
        exact ⟨this, gdb_iff.mpr hg⟩
end
end Z
set_option pp.maxSteps 700
set_option Elab.async false
set_option linter.all false
set_option maxRecDepth 100000
set_option maxHeartbeats 4000000
open SX (S S_inj S_len S_cat)
namespace Z
open Mc
open PySem PySem.Spec PyProof.Rows L2
open C8 (pss_cut tCut)
local macro_rules | `(tactic| walk_at "num") => `(tactic| first | rfl | omega | decide | exact Nat.le_of_lt (small1000 (by simp)) | exact ⟨by omega, by omega⟩ | exact ⟨by omega, by omega, by omega⟩ | exact ⟨by decide, by decide, by decide⟩ | exact Or.inl ⟨by omega, by omega⟩ | exact Or.inr ⟨by omega, by omega⟩)
local macro_rules | `(tactic| walk_at "go") => `(tactic| repeat (first | refine ⟨_, rfl, ?_⟩ | refine ⟨_, _, rfl, rfl, ?_⟩ | refine ⟨_, _, rfl, ?_⟩ | (refine ⟨_, _, rfl, rfl, ?_, ?_⟩; focus walk_at "num") | refine Or.inl ⟨_, rfl, ?_⟩ | refine ⟨_, _, _, _, rfl, rfl, (by assumption), (by rfl), ?_⟩ | refine ⟨_, _, _, _, _, rfl, (by assumption), (by assumption), (by assumption), (by rfl), ?_⟩ | refine ⟨rfl, ?_⟩ | (refine And.intro ?_ ?_; focus walk_at "num")))
abbrev s_opposite_table : Stmt := topS 15
abbrev N_opposite_table : List Str := ["machine", "many", "dead", "entry", "row", "rows", "state"]
abbrev P_opposite_table : List Str := ["machine", "many"]
theorem sc_opposite_table : FnScope N_opposite_table P_opposite_table (defScope s_opposite_table) := ⟨rfl, rfl, rfl, by decide +kernel, rfl, by decide +kernel, by decide +kernel⟩
abbrev s_after_step : Stmt := topS 16
abbrev N_after_step : List Str := ["rows", "states", "at", "found", "state"]
abbrev P_after_step : List Str := ["rows", "states", "at"]
theorem sc_after_step : FnScope N_after_step P_after_step (defScope s_after_step) := ⟨rfl, rfl, rfl, by decide +kernel, rfl, by decide +kernel, by decide +kernel⟩
abbrev s_with_start : Stmt := topS 17
abbrev N_with_start : List Str := ["states", "wanted"]
abbrev P_with_start : List Str := ["states", "wanted"]
theorem sc_with_start : FnScope N_with_start P_with_start (defScope s_with_start) := ⟨rfl, rfl, rfl, by decide +kernel, rfl, by decide +kernel, by decide +kernel⟩
section
variable {P : Program} {w : World} {K : PySem.W.Frag} {mg : Str → Option Value} {base : Heap} {f C : Addr} {fd : FuncData}
def spOpp (C : Addr) (K : PySem.W.Frag) : Sp := fun vs H Q _ => ∃ (n : Addr) (l : List Nat) (R : Tbl) (g : List Nat) (m : Nat), vs = [.ref n, .int (m : Int)] ∧ McAt C K H n l R g ∧ Wf R m ∧ (∀ s ∈ g, s < R.length) ∧ m ≤ 1000 ∧ R.length + 1 ≤ 1000000 ∧ PTab H m (R.length + 1) (NotL m (AccS R (inG g))) Q
theorem ok_opposite_table (F : FnP K "opposite_table" s_opposite_table f fd) (m_len : mg "len" = none) (m_range : mg "range" = none) (cls : Cls K C) (n_rows : NoAttr K C "rows") (n_good : NoAttr K C "good") : FnOk P w K mg base CX0 1 f fd P_opposite_table (spOpp C K) := by
  refine F.ok sc_opposite_table (fun vs H Q E h => ?_) (fun cdv A outer s H vs Q E hr h => ?_)
  · obtain ⟨n, l, R, g, m, rfl, _⟩ := h
    rfl
  · obtain ⟨n, l, R, g, m, rfl, hM, wf, gR, lm, big, q⟩ := h
    obtain ⟨dx, r, u, zr, en, hR, hu, rfl⟩ := hM.ex
    have lT : (tb zr).length = zr.length := List.length_map ..
    refine ⟨_, PSs.nox (pss_cons (ps_set (i := 2) sc_opposite_table.nd rfl (by first | exact .inl rfl | exact .inr rfl) (pe_callB call_len_seq (by rfl) m_len PySem.boot_len (pa_cons (pe_fld (pv 0) rfl) pa_nil)))
      (pss_cons (ps_setLc (i := 5) (own := [("row", 4)]) (g := (gName 4)) (tt := tYes) (by rfl) sc_opposite_table.nd rfl rfl (sw_true rfl rfl rfl (by decide +kernel)) (pi_tup (pe_fld (pv 0) rfl)) (blkOk_by (own := [("row", 4)]) (N := N_opposite_table) (sc := defScope s_opposite_table) (by decide +kernel)) (fun _ _ _ _ _ => (pg_name (i := 4) sc_opposite_table.nd rfl (by first | exact .inl rfl | exact .inr rfl))) (fun _ _ _ _ _ => pts_nil) (fun _ _ _ _ _ => (pe_lc (own := [("entry", 3)]) (g := (gName 3)) (tt := tYes) (by rfl) sc_opposite_table.nd (pi_sq_K (K := K) rfl (pv 4)) (blkOk_by (own := [("entry", 3)]) (N := N_opposite_table) (sc := relS _ (defScope s_opposite_table)) (by decide +kernel)) (fun _ _ _ _ _ => (pg_name (i := 3) sc_opposite_table.nd rfl (by first | exact .inl rfl | exact .inr rfl))) (fun _ _ _ _ _ => pts_nil) (fun _ _ _ _ _ => (pe_ifExp (pt_cmpR op_isN (pv 3) pe_non (nomark _)) (pv 2) (pv 3))))))
      (pss_cons (ps_expr (pe_bm PySem.F.plainAttrs_list PySem.F.slot_list_append PySem.F.type_list_append mt_append (pv 5) (pa_cons (pe_op op_rep (pe_lst (pa_cons (pv 2) pa_nil)) (pv 1)) pa_nil)))
      (pss_one (ps_ret (pe_tup (pa_cons (pv 5) (pa_cons (pe_lc (own := [("state", 6)]) (g := (gName 6)) (by rfl) sc_opposite_table.nd (pi_range1 (by rfl) m_range (pa_cons (pe_op op_add (pv 2) pe_int) pa_nil)) (blkOk_by (own := [("state", 6)]) (N := N_opposite_table) (sc := defScope s_opposite_table) (by decide +kernel)) (fun _ _ _ _ _ => (pg_name (i := 6) sc_opposite_table.nd rfl (by first | exact .inl rfl | exact .inr rfl))) (fun _ _ _ _ _ => (pts_one (pt_cmpR (op_notIn_seq_K (K := K) rfl) (pv 6) (pe_fld_K (K := K) rfl (pv 0) rfl) (by rfl)))) (fun _ _ _ _ _ => (pv 6))) pa_nil)))))))), ?_⟩
    walk_at "go"
    refine ⟨r, _, rfl, .inr hR.sq, ?_⟩
    rw [List.length_map]
    walk_at "go"
    refine ⟨⟨_, hR.sq⟩, ?_⟩
    intro L nL
    refine lc_gen (n := zr.length) (fun k J => Same H J ∧ ∃ zk : List (Addr × List (Option Nat)), J L = some (.lst (zk.map fun z => V.ref z.1)) ∧ (∀ z ∈ zk, J z.1 = some (.lst (z.2.map eV)) ∧ z.1 ≠ L) ∧ tb zk = ((tb zr).take k).map fun r => r.map fun o => some (o.getD (tb zr).length)) ⟨same_new nL, [], upd_same, fun z hz => absurd hz (by simp), rfl⟩ ?_ ?_ ?_ ?_
    · rintro k J hk ⟨s1, _⟩
      exact itq_go (b := false) (hR.mono s1).sq (x := .ref zr[k].1) (by rw [List.getElem?_map, List.getElem?_eq_getElem hk]; rfl)
    · rintro J ⟨s1, _⟩
      exact itq_stop (b := false) (hR.mono s1).sq (by rw [List.length_map]; exact Nat.le_refl _)
    · rintro k J x J2 hk ⟨s4, zk, eL, hz, ek⟩ y
      obtain ⟨rfl, ex⟩ := itq_yld (b := false) (hR.mono s4).sq y
      rw [List.getElem?_map, List.getElem?_eq_getElem hk] at ex
      cases ex
      have zk2 := (hR.mono s4).at_ _ (List.getElem_mem hk)
      have mz : zr[k].2 ∈ tb zr := List.mem_map.mpr ⟨_, List.getElem_mem hk, rfl⟩
      have tk : (tb zr).take (k + 1) = (tb zr).take k ++ [zr[k].2] := by
        unfold tb
        rw [List.take_succ, List.getElem?_map, List.getElem?_eq_getElem hk]
        rfl
      have lz := wf.row _ mz
      generalize zr[k] = z at zk2 mz tk lz
      walk_at "go"
      refine rd_sq (b := false) rfl zk2 ?_
      intro B nB
      refine lc_flt (n := m) (fun i => eV (z.2.getD i none)) (fun _ => true) (fun i => eV (some ((z.2.getD i none).getD zr.length))) (by omega) nB (fun i J3 hi s6 => itq_go (Z.Same.sqK s6 zk2) (row_at (by omega))) (fun J3 s6 => itq_stop (Z.Same.sqK s6 zk2) (by rw [List.length_map]; omega)) (fun i J3 x J4 hi s6 y => ?_) (fun i => rfl) (fun i J3 Q1 hi s6 q1 => ?_) (fun i J3 Q1 hi _ s6 q1 => ?_) (fun J3 s6 eB => ?_)
      · obtain ⟨rfl, ex⟩ := itq_yld (Z.Same.sqK s6 zk2) y
        rw [row_at (by omega)] at ex
        cases ex
        exact ⟨Same.refl _, rfl⟩
      · exact q1 _ (Same.refl _)
      · generalize z.2.getD i none = o at q1
        cases o with
        | none =>
          walk_at "go"
          exact q1 _ (Same.refl _)
        | some e =>
          dsimp only [eV]
          walk_at "go"
          exact q1 _ (Same.refl _)
      have nBL : B ≠ L := ne_of_none' (s4 := eL) nB
      rw [fltL_all, ← lz, row_range (f := fun o => eV (some (o.getD zr.length)))] at eB
      have ezk : zk.length ≤ 1000000 := by
        have := congrArg List.length ek
        unfold tb at this
        rw [List.length_map, List.length_map, List.length_take] at this
        rw [List.length_map] at this
        omega
      refine ⟨_, s6 _ _ eL, by rw [List.length_map]; exact szC (by omega), Z.Same.mut (s4.trans s6) nL, zk ++ [(B, z.2.map fun o => some (o.getD zr.length))], by rw [upd_same, List.map_append]; rfl, fun y hy => ?_, ?_⟩
      · rcases List.mem_append.mp hy with hy | hy
        · obtain ⟨h1, h2⟩ := hz y hy
          exact ⟨by rw [upd_ne h2]; exact s6 _ _ h1, h2⟩
        · rw [List.mem_singleton.mp hy]
          refine ⟨?_, nBL⟩
          rw [upd_ne nBL, eB, List.map_map]
          rfl
      · rw [tk, List.map_append, ← ek, lT]
        unfold tb
        rw [List.map_append]
        rfl
    rintro J ⟨s4, zk, eL, hz, ek⟩
    rw [List.take_of_length_le (by rw [lT]; exact Nat.le_refl _)] at ek
    walk_at "go"
    refine ⟨.inl ⟨rfl, _, SqL.of eL⟩, ?_⟩
    walk_at "go"
    intro D0 nD0
    have s5 := same_new (o := .lst [.int (zr.length : Int)]) nD0
    have eD0 : (upd J D0 (.lst [.int (zr.length : Int)])) D0 = some (.lst [.int (zr.length : Int)]) := upd_same
    generalize upd J D0 (.lst [.int (zr.length : Int)]) = J1 at s5 eD0
    walk_at "go"
    refine ⟨D0, _, _, rfl, rfl, eD0, by omega, by omega, ?_, ?_⟩
    · rw [Int.toNat_natCast, List.length_singleton, Nat.one_mul]
      exact szl (by omega)
    have fl : (List.replicate ((m : Int)).toNat [V.int (zr.length : Int)]).flatten = (List.replicate m (some zr.length)).map eV := by
      rw [Int.toNat_natCast]
      clear eD0 lm wf ek q hR
      induction m with
      | zero => rfl
      | succ m ih =>
        rw [List.replicate_succ, List.flatten_cons, ih, List.replicate_succ, List.map_cons]
        rfl
    rw [fl]
    intro B nB
    generalize eH_ : upd J1 B _ = J2
    have s6 : Same J1 J2 := by rw [← eH_]; exact same_new nB
    have eB : J2 B = some (.lst ((List.replicate m (some zr.length)).map eV)) := by rw [← eH_]; exact upd_same
    clear eH_
    have eL2 := (s5.trans s6) _ _ eL
    have s42 := s4.trans (s5.trans s6)
    have hz2 : ∀ z ∈ zk, J2 z.1 = some (.lst (z.2.map eV)) ∧ z.1 ≠ L := fun z m => ⟨(s5.trans s6) _ _ (hz z m).1, (hz z m).2⟩
    have BL : B ≠ L := by
      intro e
      rw [e, s5 _ _ eL] at nB
      cases nB
    have lzk : zk.length = zr.length := by
      have := congrArg List.length ek
      unfold tb at this
      rwa [List.length_map, List.length_map, List.length_map] at this
    refine ⟨L, _, _, rfl, rfl, eL2, by rw [List.length_map]; exact szC (by omega), ?_⟩
    have tr : TbR (upd J2 L (.lst ((zk.map fun z => V.ref z.1) ++ [.ref B]))) L (zk ++ [(B, List.replicate m (some zr.length))]) := ⟨by rw [upd_same, List.map_append]; rfl, fun z hm => by
      rcases List.mem_append.mp hm with hm | hm
      · rw [upd_ne (hz2 z hm).2]
        exact (hz2 z hm).1
      · rw [List.mem_singleton.mp hm, upd_ne BL]
        exact eB⟩
    have s43 : Same H (upd J2 L (.lst ((zk.map fun z => V.ref z.1) ++ [.ref B]))) := Z.Same.mut s42 nL
    have et : tb (zk ++ [(B, List.replicate m (some zr.length))]) = opT (tb zr) m := by
      unfold opT
      rw [← ek, lT]
      unfold tb
      rw [List.map_append]
      rfl
    generalize upd J2 L (.lst ((zk.map fun z => V.ref z.1) ++ [.ref B])) = J3 at tr s43
    have lz3 : (zk ++ [(B, List.replicate m (some zr.length))]).length = zr.length + 1 := by rw [List.length_append, lzk]; rfl
    generalize zk ++ [(B, List.replicate m (some zr.length))] = zs at tr et lz3
    have hu3 := s43 _ _ hu
    have en3 := s43 _ _ en
    clear eL eL2 hz hz2 eB eD0 s4 s5 s6 s42 nB nD0
    walk_at "go"
    intro G nG
    refine lc_flt (n := zr.length + 1) (fun i => .int ((i : Nat) : Int)) (fun i => decide (i ∉ g)) (fun i => .int ((i : Nat) : Int)) (by omega) nG (fun i J3 hi s6 => ?_) (fun J3 s6 => ?_) (fun i J3 x J4 hi s6 y => ?_) (fun i => rfl) (fun i J3 Q1 hi s6 q1 => ?_) (fun i J3 Q1 hi _ s6 q1 => ?_) (fun J4 s6 eG => ?_)
    · show i < ((zr.length : Int) + 1).toNat
      omega
    · show ((zr.length : Int) + 1).toNat ≤ zr.length + 1
      omega
    · obtain ⟨rfl, rfl⟩ := y
      exact ⟨Same.refl _, by rw [show (0 : Int) + (i : Int) = (i : Int) by omega]⟩
    · have en4 := s6 _ _ en3
      walk_at "go"
      refine ⟨u, _, rfl, .inr (SqT.of (s6 _ _ hu3)), rfl, gsq_flat g, ?_⟩
      rw [if_pos rfl, inV_gsq]
      have e : (!decide (i ∈ g)) = decide (i ∉ g) := by
        by_cases c : i ∈ g
        · rw [decide_eq_true c, decide_eq_false (fun h => h c)]; rfl
        · rw [decide_eq_false c, decide_eq_true c]; rfl
      rw [e]
      exact ⟨_, rfl, q1 _ (Same.refl _)⟩
    · walk_at "go"
      exact q1 _ (Same.refl _)
    walk_at "go"
    intro T0 nT0
    generalize eH_ : upd J4 T0 _ = J5
    have s7 : Same J4 J5 := by rw [← eH_]; exact same_new nT0
    have eT0 : J5 T0 = some (.tup [.ref L, .ref G]) := by rw [← eH_]; exact upd_same
    clear eH_
    refine q T0 L G zs ((List.range (zr.length + 1)).filter fun i => decide (i ∉ g)) J5 (s43.trans (s6.trans s7)) eT0 (tr.mono (s6.trans s7)) (s7 _ _ eG) (by rw [et]; exact opT_wf wf) (fun s hs => by rw [lz3]; exact List.mem_range.mp (List.mem_filter.mp hs).1) (by omega) fun w => ?_
    rw [et]
    have ee : inG ((List.range (zr.length + 1)).filter fun i => decide (i ∉ g)) = fun s => s < (tb zr).length + 1 ∧ ¬ inG g s := funext fun s => propext (by
      unfold inG
      rw [List.mem_filter, List.mem_range, decide_eq_true_iff, lT])
    rw [ee]
    exact opT_acc wf (G := inG g) gR w
def tru (ks : List Nat) : List (L2.Key × V) := ks.map fun (e : Nat) => (Sum.inl (e : Int), V.bl true)
theorem tru_put {ks : List Nat} (e : Nat) : ∃ ks', putK (tru ks) (Sum.inl (e : Int)) (V.bl true) = tru ks' ∧ (ks.Nodup → ks'.Nodup) ∧ (∀ x, x ∈ ks' ↔ x ∈ ks ∨ x = e) ∧ ks'.length ≤ ks.length + 1 := by
  by_cases h : e ∈ ks
  · refine ⟨ks, ?_, id, fun x => ⟨.inl, fun z => z.elim id fun z => z ▸ h⟩, Nat.le_succ _⟩
    unfold putK tru
    rw [if_pos]
    · rw [List.map_map]
      refine List.map_congr_left fun x _ => ?_
      show (if (Sum.inl (x : Int) : L2.Key) = Sum.inl (e : Int) then (Sum.inl (x : Int), V.bl true) else (Sum.inl (x : Int), V.bl true)) = _
      split <;> rfl
    · exact List.any_eq_true.mpr ⟨_, List.mem_map.mpr ⟨e, h, rfl⟩, decide_eq_true rfl⟩
  · refine ⟨ks ++ [e], ?_, fun nd => ?_, fun x => by rw [List.mem_append, List.mem_singleton], by rw [List.length_append]; exact Nat.le_refl _⟩
    · unfold putK tru
      rw [if_neg, List.map_append]
      · rfl
      · intro z
        obtain ⟨y, hy, ey⟩ := List.any_eq_true.mp z
        obtain ⟨x, hx, rfl⟩ := List.mem_map.mp hy
        have ey := of_decide_eq_true ey
        injection ey with ey
        exact h ((show x = e by omega) ▸ hx)
    · rw [List.nodup_append]
      exact ⟨nd, by simp, fun x hx y hy => by rw [List.mem_singleton.mp hy]; exact fun z => h (z ▸ hx)⟩
theorem sort_nats {ks U : List Nat} {ns : List Int} (nd : ks.Nodup) (hU : U.Pairwise (· < ·)) (mem : ∀ x, x ∈ ks ↔ x ∈ U) (pm : ns.Perm (ks.map fun (x : Nat) => (x : Int))) (so : ns.Pairwise (· ≤ ·)) : ns.map V.int = gsq U := by
  have inj : ∀ {l : List Nat}, l.Nodup → (l.map fun (x : Nat) => (x : Int)).Nodup := fun {l} h => by
    rw [List.Nodup, List.pairwise_map]
    exact h.imp fun a b => a (by omega)
  have ndn : ns.Nodup := pm.nodup_iff.mpr (inj nd)
  have st : ns.Pairwise (· < ·) := by
    have := so.and ndn
    exact this.imp fun ⟨a, b⟩ => by omega
  have eU : (U.map fun (x : Nat) => (x : Int)).Pairwise (· < ·) := by
    rw [List.pairwise_map]
    exact hU.imp fun a => by omega
  have key : ∀ {l m : List Int}, l.Pairwise (· < ·) → m.Pairwise (· < ·) → (∀ x, x ∈ l ↔ x ∈ m) → l = m := by
    intro l
    induction l with
    | nil =>
      intro m _ _ h
      cases m with
      | nil => rfl
      | cons y m => exact absurd ((h y).mpr List.mem_cons_self) (by simp)
    | cons x l ih =>
      intro m p q h
      cases m with
      | nil => exact absurd ((h x).mp List.mem_cons_self) (by simp)
      | cons y m =>
        obtain ⟨p1, p2⟩ := List.pairwise_cons.mp p
        obtain ⟨q1, q2⟩ := List.pairwise_cons.mp q
        have e : x = y := by
          rcases List.mem_cons.mp ((h x).mp List.mem_cons_self) with a | a
          · exact a
          · rcases List.mem_cons.mp ((h y).mpr List.mem_cons_self) with b | b
            · exact b.symm
            · have := q1 x a
              have := p1 y b
              omega
        subst e
        rw [ih p2 q2 fun z => ⟨fun m1 => ?_, fun m1 => ?_⟩]
        · rcases List.mem_cons.mp ((h z).mp (List.mem_cons_of_mem _ m1)) with a | a
          · have := p1 z m1
            omega
          · exact a
        · rcases List.mem_cons.mp ((h z).mpr (List.mem_cons_of_mem _ m1)) with a | a
          · have := q1 z m1
            omega
          · exact a
  rw [gsq_ints, key st eU fun x => ?_]
  rw [pm.mem_iff, List.mem_map, List.mem_map]
  exact ⟨fun ⟨a, b, c⟩ => ⟨a, (mem a).mp b, c⟩, fun ⟨a, b, c⟩ => ⟨a, (mem a).mpr b, c⟩⟩
def spAft (K : PySem.W.Frag) : Sp := fun vs H Q _ => ∃ (q : Bool) (r S : Addr) (zr : List (Addr × List (Option Nat))) (U : List Nat) (m k : Nat), vs = [.ref r, .ref S, .int (k : Int)] ∧ Tb false false K H r zr ∧ Wf (tb zr) m ∧ k < m ∧ SqK q K H S (gsq U) ∧ (∀ s ∈ U, s < zr.length) ∧ U.length ≤ 1000000 ∧ ∀ (L : Addr) H', Same H H' → H L = none → H' L = some (.lst (gsq (aft (tb zr) U k))) → Q (.ref L) H'
theorem ok_after_step (F : FnP K "after_step" s_after_step f fd) (m_sorted : mg "sorted" = none) (m_list : mg "list" = none) : FnOk P w K mg base CX0 1 f fd P_after_step (spAft K) := by
  refine F.ok sc_after_step (fun vs H Q E h => ?_) (fun cdv A outer s H vs Q E hr h => ?_)
  · obtain ⟨q, r, S, zr, U, m, k, rfl, _⟩ := h
    rfl
  · obtain ⟨qb, r, Sa, zr, U, m, k, rfl, hR, wf, hk, hS, hU, lU, q⟩ := h
    have lT : (tb zr).length = zr.length := List.length_map ..
    refine ⟨_, PSs.nox (pss_cons (ps_set (i := 3) sc_after_step.nd rfl (by first | exact .inl rfl | exact .inr rfl) pe_dnewK)
      (pss_cons (ps_for PassesOwn.never rfl (pi_sq (pv 1)) (pg_name (i := 4) sc_after_step.nd rfl (by first | exact .inl rfl | exact .inr rfl))
        (pss_one (ps_if (pt_cmpR op_notN (pe_ix ix_tup (pe_ix ix_tup (pv 0) (pv 4) (fun _ _ => rfl)) (pv 2) (fun _ _ => rfl)) pe_non (nomark _)) (pss_one (ps_dput (hu_of hr) (pv 3) (pe_ix ix_tup (pe_ix ix_tup (pv 0) (pv 4) (fun _ _ => rfl)) (pv 2) (fun _ _ => rfl)) pe_bl rfl)) pss_nil)))
      (pss_one (ps_ret (pe_callB cr_sortedI (by rfl) m_sorted (by decide +kernel) (pa_cons (pe_callTy (call_list_dK rfl) (by rfl) m_list (by decide +kernel) (pa_cons (pv 3) pa_nil)) pa_nil)))))), ?_⟩
    walk_at "go"
    intro Fo nFo
    generalize eH_ : upd H Fo _ = H1
    have s1 : Same H H1 := by rw [← eH_]; exact same_new nFo
    have eFo : H1 Fo = some (.dK (tru [])) := by rw [← eH_]; exact upd_same
    clear eH_
    have nFH := nFo
    walk_at "go"
    refine rd_sq (b := qb) rfl (Z.Same.sqK s1 hS) ?_
    refine for_gen (n := U.length) (fun i σ J => Same H J ∧ ∃ (ks : List Nat) (v4 : Option V), J Fo = some (.dK (tru ks)) ∧ ks.Nodup ∧ ks.length ≤ i ∧ (∀ x, x ∈ ks ↔ ∃ s ∈ U.take i, nx (tb zr) s k = some x) ∧ σ = [some (.ref r), some (.ref Sa), some (.int (k : Int)), some (.ref Fo), v4]) ⟨s1, [], none, eFo, List.nodup_nil, Nat.le_refl _, fun x => ⟨fun h => absurd h (by simp), fun ⟨s, h, _⟩ => absurd h (by simp)⟩, rfl⟩ ?_ ?_ ?_ ?_
    · rintro i σ J hi ⟨s2, _⟩
      exact itq_go (Z.Same.sqK s2 hS) (x := .int ((U[i] : Nat) : Int)) (by unfold gsq; rw [List.getElem?_map, List.getElem?_eq_getElem hi]; rfl)
    · rintro σ J ⟨s2, _⟩
      exact itq_stop (Z.Same.sqK s2 hS) (by rw [show (gsq U).length = U.length from List.length_map ..]; exact Nat.le_refl _)
    · rintro i σ J x J2 hi ⟨s2, ks, v4, eF, nd, lk, mem, rfl⟩ y
      obtain ⟨rfl, ex⟩ := itq_yld (Z.Same.sqK s2 hS) y
      unfold gsq at ex
      rw [List.getElem?_map, List.getElem?_eq_getElem hi] at ex
      cases ex
      have hs := hU _ (List.getElem_mem hi)
      have tk : U.take (i + 1) = U.take i ++ [U[i]] := by rw [List.take_succ, List.getElem?_eq_getElem hi]; rfl
      generalize U[i] = s0 at hs tk
      obtain ⟨zz, c1, c2, c3⟩ := cell_at (hR.mono s2) wf hs hk
      have memS : ∀ x, (∃ s ∈ U.take (i + 1), nx (tb zr) s k = some x) ↔ (∃ s ∈ U.take i, nx (tb zr) s k = some x) ∨ nx (tb zr) s0 k = some x := fun x => by
        rw [tk]
        constructor
        · rintro ⟨s, hm, e⟩
          rcases List.mem_append.mp hm with hm | hm
          · exact .inl ⟨s, hm, e⟩
          · rw [List.mem_singleton.mp hm] at e
            exact .inr e
        · rintro (⟨s, hm, e⟩ | e)
          · exact ⟨s, List.mem_append_left _ hm, e⟩
          · exact ⟨s0, List.mem_append_right _ List.mem_cons_self, e⟩
      walk_at "go"
      refine ⟨r, _, _, _, rfl, rfl, (hR.mono s2).sq, c1, ?_⟩
      walk_at "go"
      refine ⟨zz.1, _, _, _, rfl, rfl, c2, c3, ?_⟩
      cases eo : nx (tb zr) s0 k with
      | none =>
        dsimp only [eV]
        walk_at "go"
        refine ⟨ks, _, eF, nd, by omega, fun x => ?_, rfl⟩
        rw [memS, mem, eo]
        exact ⟨.inl, fun z => z.elim id fun z => (by cases z)⟩
      | some e =>
        rw [eo] at c3
        dsimp only [eV]
        walk_at "go"
        refine ⟨r, _, _, _, rfl, rfl, (hR.mono s2).sq, c1, ?_⟩
        walk_at "go"
        refine ⟨zz.1, _, _, _, rfl, rfl, c2, c3, ?_⟩
        obtain ⟨ks', e1, e2, e3, e4⟩ := tru_put (ks := ks) e
        refine ⟨Fo, _, rfl, .inl ⟨_, .inl (e : Int), eF, rfl, by unfold tru; rw [List.length_map]; exact szC (by omega), rfl⟩, ?_⟩
        rw [e1]
        refine ⟨Z.Same.mut s2 nFH, ks', _, upd_same, e2 nd, by omega, fun x => ?_, rfl⟩
        rw [e3, mem, memS, eo]
        exact ⟨fun z => z.imp id fun z => by rw [z], fun z => z.imp id fun z => by injection z with z; exact z.symm⟩
    · rintro σ J ⟨s2, ks, v4, eF, nd, lk, mem, rfl⟩
      rw [List.take_length] at mem
      walk_at "go"
      refine ⟨Fo, _, rfl, eF, ?_⟩
      have ek : ((tru ks).map fun kv => kV kv.1) = (ks.map fun (x : Nat) => (x : Int)).map V.int := by
        unfold tru
        rw [List.map_map, List.map_map]
        rfl
      rw [ek]
      intro L1 nL1
      generalize eH_ : upd J L1 _ = J2
      have s3 : Same J J2 := by rw [← eH_]; exact same_new nL1
      have eL1 : J2 L1 = some (.lst ((ks.map fun (x : Nat) => (x : Int)).map V.int)) := by rw [← eH_]; exact upd_same
      clear eH_
      walk_at "go"
      refine ⟨L1, _, rfl, SqL.of eL1, ?_⟩
      intro ns p pm so np
      have e9 := sort_nats nd (aft_asc (tb zr) U k) (fun x => by rw [mem, aft_mem wf]) pm so
      rw [e9]
      exact q p _ ((s2.trans s3).trans (same_new np)) (none_of (s2.trans s3) np) upd_same
def spWst (K : PySem.W.Frag) : Sp := fun vs H Q _ => ∃ (S : Addr) (U : List Nat) (b : Bool), vs = [.ref S, .bl b] ∧ SqL K H S (gsq U) ∧ U.length ≤ 1000000 ∧ ∀ (t : Addr) H', Same H H' → H t = none → H' t = some (.tup (gsq (wst U b))) → Q (.ref t) H'
theorem ok_with_start (F : FnP K "with_start" s_with_start f fd) (m_tuple : mg "tuple" = none) : FnOk P w K mg base CX0 1 f fd P_with_start (spWst K) := by
  refine F.ok sc_with_start (fun vs H Q E h => ?_) (fun cdv A outer s H vs Q E hr h => ?_)
  · obtain ⟨S, U, b, rfl, _⟩ := h
    rfl
  · obtain ⟨Sa, U, b, rfl, hS, lU, q⟩ := h
    refine ⟨_, PSs.nox (pss_cons (ps_if (PW.pt (pw_and (pt_val (pv 1)) (pw_and1 (pt_cmpR op_notIn_seq pe_int (pv 0) (by rfl))))) (pss_one (ps_ret (pe_op op_catT (pe_tup (pa_cons pe_int pa_nil)) (pe_callTy call_tuple_of (by rfl) m_tuple (by decide +kernel) (pa_cons (pv 0) pa_nil))))) pss_nil)
      (pss_one (ps_ret (pe_callTy call_tuple_of (by rfl) m_tuple (by decide +kernel) (pa_cons (pv 0) pa_nil))))), ?_⟩
    have plain : wst U b = U → ∀ p, H p = none → Q (.ref p) (upd H p (.tup (gsq U))) := fun e p np => by
      have := q p _ (same_new np) np upd_same
      rw [e] at this
      exact this
    cases b with
    | false =>
      walk_at "go"
      exact ⟨Sa, _, rfl, .inl ⟨hS, plain (by unfold wst; rw [if_neg (fun h => Bool.false_ne_true h.1)])⟩⟩
    | true =>
      walk_at "go"
      refine ⟨Sa, _, rfl, .inl hS, rfl, gsq_flat U, ?_⟩
      rw [if_pos rfl, show (V.int 0) = V.int ((0 : Nat) : Int) from rfl, inV_gsq]
      by_cases c : 0 ∈ U
      · rw [decide_eq_true c]
        walk_at "go"
        exact ⟨Sa, _, rfl, .inl ⟨hS, plain (by unfold wst; rw [if_neg (fun h => h.2 c)])⟩⟩
      · rw [decide_eq_false c]
        walk_at "go"
        have ew : wst U true = 0 :: U := by unfold wst; rw [if_pos ⟨rfl, c⟩]
        rw [ew] at q
        intro Z1 nZ1
        generalize eH_ : upd H Z1 _ = H1
        have s1 : Same H H1 := by rw [← eH_]; exact same_new nZ1
        have eZ1 : H1 Z1 = some (.tup [.int 0]) := by rw [← eH_]; exact upd_same
        clear eH_
        walk_at "go"
        refine ⟨Sa, _, rfl, .inl ⟨s1.seq hS, ?_⟩⟩
        intro Z2 nZ2
        generalize eH_ : upd H1 Z2 _ = H2
        have s2 : Same H1 H2 := by rw [← eH_]; exact same_new nZ2
        have eZ2 : H2 Z2 = some (.tup (gsq U)) := by rw [← eH_]; exact upd_same
        clear eH_
        refine ⟨Z1, Z2, _, _, rfl, rfl, SqT.of (s2 _ _ eZ1), SqT.of eZ2, by simp, ?_, ?_, ?_⟩
        · unfold gsq
          rw [List.length_map]
          exact Nat.le_of_lt (szC (show 1 + U.length ≤ 10000000 by omega))
        · intro e
          have : U = [] := List.map_eq_nil_iff.mp e
          subst this
          exact q Z1 H2 (s1.trans s2) nZ1 (s2 _ _ eZ1)
        · intro _ p np
          exact q p _ ((s1.trans s2).trans (same_new np)) (none_of (s1.trans s2) np) upd_same
end
end Z
set_option pp.maxSteps 700
set_option Elab.async false
set_option linter.all false
set_option maxRecDepth 100000
set_option maxHeartbeats 4000000
open SX (S S_inj S_len S_cat)
namespace Z
open Mc
open PySem PySem.Spec PyProof.Rows L2
open C8 (pss_cut tCut)
local macro_rules | `(tactic| walk_at "num") => `(tactic| first | rfl | omega | decide | exact Nat.le_of_lt (small1000 (by simp)) | exact ⟨by omega, by omega⟩ | exact ⟨by omega, by omega, by omega⟩ | exact ⟨by decide, by decide, by decide⟩ | exact Or.inl ⟨by omega, by omega⟩ | exact Or.inr ⟨by omega, by omega⟩)
local macro_rules | `(tactic| walk_at "go") => `(tactic| repeat (first | refine ⟨_, rfl, ?_⟩ | refine ⟨_, _, rfl, rfl, ?_⟩ | refine ⟨_, _, rfl, ?_⟩ | (refine ⟨_, _, rfl, rfl, ?_, ?_⟩; focus walk_at "num") | refine Or.inl ⟨_, rfl, ?_⟩ | refine ⟨_, _, _, _, rfl, rfl, (by assumption), (by rfl), ?_⟩ | refine ⟨_, _, _, _, _, rfl, (by assumption), (by assumption), (by assumption), (by rfl), ?_⟩ | refine ⟨rfl, ?_⟩ | (refine And.intro ?_ ?_; focus walk_at "num")))
abbrev s_chain_table : Stmt := topS 18
abbrev N_chain_table : List Str := ["one", "other", "many", "start", "numbers", "keys", "rows", "left", "rights", "line", "at", "target", "key", "state", "good"]
abbrev P_chain_table : List Str := ["one", "other", "many"]
theorem sc_chain_table : FnScope N_chain_table P_chain_table (defScope s_chain_table) := ⟨rfl, rfl, rfl, by decide +kernel, rfl, by decide +kernel, by decide +kernel⟩
def tupC : Hp → Option Nat × List Nat → Addr → Prop := fun J q b => ∃ Sa, J b = some (.tup [eV q.1, .ref Sa]) ∧ J Sa = some (.tup (gsq q.2))
def encC (q : Option Nat × List Nat) : NestedKey := .tup [ek q.1, .tup (q.2.map fun (s : Nat) => NestedKey.num (s : Int))]
theorem encC_inj : ∀ a b, encC a = encC b → a = b := fun (a1, a2) (b1, b2) h => by
  injection h with h
  injection h with h1 h2
  injection h2 with h2
  injection h2 with h2
  rw [show a1 = b1 from ek_inj h1, show a2 = b2 from nums_inj h2]
theorem nums_depth : ∀ g : List Nat, NestedKey.depthAll (g.map fun (s : Nat) => NestedKey.num (s : Int)) = 0
  | [] => rfl
  | s :: g => by
    rw [List.map_cons, NestedKey.depthAll, nums_depth g]
    rfl
theorem encC_depth (q : Option Nat × List Nat) : (encC q).depth ≤ 8 := by
  unfold encC
  rw [NestedKey.depth, NestedKey.depthAll, NestedKey.depthAll, NestedKey.depthAll, ek_depth, NestedKey.depth, nums_depth]
  decide
theorem tupC_k : ∀ J J' q b, TupK J J' → tupC J q b → tupC J' q b := fun _ _ _ _ t ⟨Sa, h1, h2⟩ => ⟨Sa, t _ _ h1, t _ _ h2⟩
theorem tupC_n {J : Hp} {q : Option Nat × List Nat} {b : Addr} (h : tupC J q b) : NkV J (encC q) (.ref b) := by
  obtain ⟨Sa, h1, h2⟩ := h
  exact .tup h1 (.cons (nkv_e _) (.cons (.tup h2 (nka_nums _)) .nil))
/-! ### a pair of a number and a tuple as data -/
theorem dp_e {K : PySem.W.Frag} {H : Hp} (o : Option Nat) : Dp K H (eV o) (eD o) := by
  cases o
  · exact .non
  · exact .int _
def kyD (o : Option Nat) (S : List Nat) : PyData := sqD false [eD o, natD false S]
theorem dp_ky {K : PySem.W.Frag} {H : Hp} {b Sa : Addr} {o : Option Nat} {S : List Nat} (h1 : SqT K H b [eV o, .ref Sa]) (h2 : SqT K H Sa (gsq S)) : Dp K H (.ref b) (kyD o S) := dp_sq (b := false) h1 (.cons (dp_e o) (.cons (dp_nat (b := false) h2) .nil))
theorem dep_nat (S : List Nat) : (natD false S).depth = 1 := by
  show PyData.depthAll _ + 1 = 1
  rw [dep_ints]
theorem shaped_ky (o : Option Nat) (S : List Nat) : SeqAt.shaped (kyD o S) = true := by
  have e : PyData.depth (eD o) = 0 := by cases o <;> rfl
  have l : PyData.canLay0 (eD o) = true := by cases o <;> rfl
  have d : PyData.depthAll [eD o, natD false S] = 1 := by
    rw [PyData.depthAll, PyData.depthAll, PyData.depthAll, e, dep_nat]
    rfl
  unfold SeqAt.shaped kyD
  show (PyData.canLayAll0 [eD o, natD false S] && decide (PyData.depthAll [eD o, natD false S] + 1 ≤ 64)) = true
  rw [d, PyData.canLayAll0, PyData.canLayAll0, PyData.canLayAll0, l, SeqAt.canLay_of_shaped (shaped_nat false S)]
  rfl
theorem eqv_ky (o p : Option Nat) (S U : List Nat) : PyData.eqv (kyD o S) (kyD p U) = decide (o = p ∧ S = U) := by
  show PyData.eqv (.tuple _) (.tuple _) = _
  rw [PyData.eqv, PyData.eqvAll, PyData.eqvAll, PyData.eqvAll, eqv_e, eqv_nat]
  by_cases h1 : o = p
  · by_cases h2 : S = U
    · simp [h1, h2]
    · simp [h1, h2]
  · simp [h1]
section
variable {P : Program} {w : World} {K : PySem.W.Frag} {mg : Str → Option Value} {base : Heap} {f C : Addr} {fd : FuncData}
theorem bl_map (g : List Nat) (l : List Nat) : ((List.range l.length).map fun i => V.bl (decide (l.getD i 0 ∈ g))) = (l.map fun s => decide (s ∈ g)).map V.bl := by
  apply List.ext_getElem
  · rw [List.length_map, List.length_range, List.length_map, List.length_map]
  · intro i h1 h2
    rw [List.length_map, List.length_map] at h2
    rw [List.getElem_map, List.getElem_range, List.getElem_map, List.getElem_map, List.getD_eq_getElem?_getD, List.getElem?_eq_getElem h2]
    rfl
def DC (n1 n2 : Nat) (q : Option Nat × List Nat) : Prop := Lo n1 q.1 ∧ q.2.Pairwise (· < ·) ∧ ∀ s ∈ q.2, s < n2
theorem few_C {step : Option Nat × List Nat → Nat → Option (Option Nat × List Nat)} {m n1 n2 : Nat} {st : Option Nat × List Nat} {ks : List (Option Nat × List Nat)} {rows : Tbl} {line : List (Option Nat)} (h : Wl step m st ks rows line) (hd : ∀ q ∈ ks, DC n1 n2 q) : ks.length ≤ (n1 + 1) * 2 ^ n2 :=
  h.few (DC n1 n2) (fun q => oc q.1 * 2 ^ n2 + bcn q.2 n2) hd (fun q d => code2_lt (oc_lt d.1) (bcn_lt _ _)) fun q q' d d' e => by
    obtain ⟨a, b⟩ := code2 (bcn_lt _ _) (bcn_lt _ _) e
    obtain ⟨q1, q2⟩ := q
    obtain ⟨q1', q2'⟩ := q'
    rw [show q1 = q1' from oc_inj a, show q2 = q2' from bcn_eq d.2.1 d'.2.1 d.2.2 d'.2.2 b]
theorem wst_lt {T : Tbl} {S : List Nat} {b : Bool} (h0 : 0 < T.length) (h : ∀ s ∈ S, s < T.length) : ∀ s ∈ wst S b, s < T.length := fun s hs => by
  rcases wst_mem.mp hs with hs | ⟨rfl, _⟩
  · exact h s hs
  · exact h0
theorem asc_len {n : Nat} {S : List Nat} (p : S.Pairwise (· < ·)) (h : ∀ s ∈ S, s < n) : S.length ≤ n := nd_len (p.imp fun a => by omega) h
def spChain (C : Addr) (K : PySem.W.Frag) : Sp := fun vs H Q _ => ∃ (n1 n2 : Addr) (l1 l2 : List Nat) (R1 R2 : Tbl) (g1 g2 : List Nat) (m : Nat), vs = [.ref n1, .ref n2, .int (m : Int)] ∧ McAt C K H n1 l1 R1 g1 ∧ McAt C K H n2 l2 R2 g2 ∧ Wf R1 m ∧ Wf R2 m ∧ m ≤ 1000 ∧ (R1.length + 1) * 2 ^ R2.length ≤ 1000000 ∧ R2.length ≤ 1000000 ∧ PTab H m ((R1.length + 1) * 2 ^ R2.length) (CatL (AccS R1 (inG g1)) (AccS R2 (inG g2))) Q
theorem ok_chain_table (F : FnP K "chain_table" s_chain_table f fd) (m_len : mg "len" = none) (m_range : mg "range" = none) (m_any : mg "any" = none) (m_enumerate : mg "enumerate" = none) (cls : Cls K C) (n_rows : NoAttr K C "rows") (n_good : NoAttr K C "good") (c_after_step : Cal P w K mg base 1 "after_step" (spAft K)) (c_with_start : Cal P w K mg base 1 "with_start" (spWst K)) : FnOk P w K mg base CX0 2 f fd P_chain_table (spChain C K) := by
  refine F.ok sc_chain_table (fun vs H Q E h => ?_) (fun cdv A outer s H vs Q E hr h => ?_)
  · obtain ⟨n1, n2, l1, l2, R1, R2, g1, g2, m, rfl, _⟩ := h
    rfl
  · obtain ⟨n1, n2, l1, l2, R1, R2, g1, g2, m, rfl, hM, hN, w1, w2, lm, big, big2, q⟩ := h
    obtain ⟨dx1, r1, u1, z1, en1, hR1, hu1, rfl⟩ := hM.ex
    obtain ⟨dx2, r2, u2, z2, en2, hR2, hu2, rfl⟩ := hN.ex
    have lT1 : (tb z1).length = z1.length := List.length_map ..
    have lT2 : (tb z2).length = z2.length := List.length_map ..
    refine ⟨_, PSs.nox (pss_cons (ps_if (PW.pt (pw_or (pt_cmpR op_eq (pe_callB call_len_seq (by rfl) m_len PySem.boot_len (pa_cons (pe_fld (pv 0) rfl) pa_nil)) pe_int (nomark _)) (pw_or1 (pt_cmpR op_eq (pe_callB call_len_seq (by rfl) m_len PySem.boot_len (pa_cons (pe_fld (pv 1) rfl) pa_nil)) pe_int (nomark _))))) (pss_one (ps_ret (pe_tup (pa_cons (pe_lst pa_nil) (pa_cons (pe_lst pa_nil) pa_nil))))) pss_nil)
      (pss_cons (ps_set (i := 3) sc_chain_table.nd rfl (by first | exact .inl rfl | exact .inr rfl) (pe_tup (pa_cons pe_int (pa_cons (pe_cl c_with_start hr (by decide) (by rfl) (pa_cons (pe_lst pa_nil) (pa_cons (pe_cmpR op_in_seq pe_int (pe_fld (pv 0) rfl) (by rfl)) pa_nil))) pa_nil))))
      (pss_cons (ps_set (i := 4) sc_chain_table.nd rfl (by first | exact .inl rfl | exact .inr rfl) ((pe_disp1N (P := P) (w := w) (Nat.lt_of_le_of_lt (Nat.add_le_add_left (by decide) _) hr.units) rfl rfl (pv 3) pe_int)))
      (pss_cons (ps_set (i := 5) sc_chain_table.nd rfl (by first | exact .inl rfl | exact .inr rfl) (pe_lst (pa_cons (pv 3) pa_nil)))
      (pss_cons (ps_set (i := 6) sc_chain_table.nd rfl (by first | exact .inl rfl | exact .inr rfl) (pe_lst pa_nil))
      (pss_cut (ps_while PassesOwn.never (pt_cmpR op_lt (pe_callB call_len_seq (by rfl) m_len PySem.boot_len (pa_cons (pv 6) pa_nil)) (pe_callB call_len_seq (by rfl) m_len PySem.boot_len (pa_cons (pv 5) pa_nil)) (nomark _))
        (pss_cons (ps_asg (pe_ix ix_list (pv 5) (pe_callB call_len_seq (by rfl) m_len PySem.boot_len (pa_cons (pv 6) pa_nil)) (fun _ _ => rfl)) (pg_tup rfl (pgs_cons (pg_name (i := 7) sc_chain_table.nd rfl (by first | exact .inl rfl | exact .inr rfl)) (pgs_cons (pg_name (i := 8) sc_chain_table.nd rfl (by first | exact .inl rfl | exact .inr rfl)) pgs_nil))))
      (pss_cons (ps_set (i := 9) sc_chain_table.nd rfl (by first | exact .inl rfl | exact .inr rfl) (pe_lst pa_nil))
      (pss_cut (ps_for PassesOwn.never rfl (pi_range1 (by rfl) m_range (pa_cons (pv 2) pa_nil)) (pg_name (i := 10) sc_chain_table.nd rfl (by first | exact .inl rfl | exact .inr rfl))
        (pss_cut (ps_set (i := 11) sc_chain_table.nd rfl (by first | exact .inl rfl | exact .inr rfl) (pe_ifExp (pt_cmpR op_isN (pv 7) pe_non (nomark _)) pe_non (pe_ix ix_tup (pe_ix ix_tup (pe_fld (pv 0) rfl) (pv 7) (fun _ _ => rfl)) (pv 10) (fun _ _ => rfl))))
      (pss_cons (ps_set (i := 12) sc_chain_table.nd rfl (by first | exact .inl rfl | exact .inr rfl) (pe_tup (pa_cons (pv 11) (pa_cons (pe_cl c_with_start hr (by decide) (by rfl) (pa_cons (pe_cl c_after_step hr (by decide) (by rfl) (pa_cons (pe_fld (pv 1) rfl) (pa_cons (pv 8) (pa_cons (pv 10) pa_nil)))) (pa_cons (pe_cmpR op_in_seq (pv 11) (pe_fld (pv 0) rfl) (by rfl)) pa_nil))) pa_nil))))
      (pss_cons (ps_if (pt_cmpR (op_eqD hr.units) (pv 12) (pe_tup (pa_cons pe_non (pa_cons (pe_tup pa_nil) pa_nil))) (nomark _)) (pss_cons (ps_expr (pe_bm PySem.F.plainAttrs_list PySem.F.slot_list_append PySem.F.type_list_append mt_append (pv 9) (pa_cons pe_non pa_nil)))
      (pss_one ps_continue)) pss_nil)
      (pss_cut (ps_if (pt_cmp (pc_dnotinN (P := P) (w := w) (Nat.lt_of_le_of_lt (Nat.add_le_add_left (by decide) _) hr.units) rfl rfl (pv 12) (pv 4)) (by rfl)) (pss_cons (ps_asg (pe_callB call_len_seq (by rfl) m_len PySem.boot_len (pa_cons (pv 5) pa_nil)) (pg_sub (pv 4) (pv 12) (set_dN (P := P) (w := w) (Nat.lt_of_le_of_lt (Nat.add_le_add_left (by decide) _) hr.units) rfl rfl)))
      (pss_one (ps_expr (pe_bm PySem.F.plainAttrs_list PySem.F.slot_list_append PySem.F.type_list_append mt_append (pv 5) (pa_cons (pv 12) pa_nil))))) pss_nil)
      (pss_one (ps_expr (pe_bm PySem.F.plainAttrs_list PySem.F.slot_list_append PySem.F.type_list_append mt_append (pv 9) (pa_cons (pe_dgetN (P := P) (w := w) (Nat.lt_of_le_of_lt (Nat.add_le_add_left (by decide) _) hr.units) rfl rfl (pv 4) (pv 12) (fun _ _ => rfl)) pa_nil)))))))))
      (pss_one (ps_expr (pe_bm PySem.F.plainAttrs_list PySem.F.slot_list_append PySem.F.type_list_append mt_append (pv 6) (pa_cons (pv 9) pa_nil))))))))
      (pss_cons (ps_setLc (i := 14) (own := [("at", 10), ("key", 12)]) (g := (gTup K 2 (gCons (gName 10) (gCons (gName 12) gNil)))) (by rfl) sc_chain_table.nd rfl rfl (sw_true rfl rfl rfl (by decide +kernel)) (pi_enumM (by rfl) m_enumerate (pa_cons (pv 5) pa_nil)) (blkOk_by (own := [("at", 10), ("key", 12)]) (N := N_chain_table) (sc := defScope s_chain_table) (by decide +kernel)) (fun _ _ _ _ _ => (pg_tup rfl (pgs_cons (pg_name (i := 10) sc_chain_table.nd rfl (by first | exact .inl rfl | exact .inr rfl)) (pgs_cons (pg_name (i := 12) sc_chain_table.nd rfl (by first | exact .inl rfl | exact .inr rfl)) pgs_nil)))) (fun _ _ _ _ _ => (pts_one (pt_val (pe_callB (cr_any_K (K := K) rfl rfl) (by rfl) m_any (by decide +kernel) (pa_cons (pe_lc (own := [("state", 13)]) (g := (gName 13)) (tt := tYes) (by rfl) sc_chain_table.nd (pi_tup_K (K := K) rfl (pe_ix (ix_tup_K (K := K) rfl) (pv 12) pe_int (fun _ _ => rfl))) (blkOk_by (own := [("state", 13)]) (N := N_chain_table) (sc := relS _ (defScope s_chain_table)) (by decide +kernel)) (fun _ _ _ _ _ => (pg_name (i := 13) sc_chain_table.nd rfl (by first | exact .inl rfl | exact .inr rfl))) (fun _ _ _ _ _ => pts_nil) (fun _ _ _ _ _ => (pe_cmpR (op_in_seq_K (K := K) rfl) (pv 13) (pe_fld_K (K := K) rfl (pv 1) rfl) (by rfl)))) pa_nil))))) (fun _ _ _ _ _ => (pv 10)))
      (pss_one (ps_ret (pe_tup (pa_cons (pv 6) (pa_cons (pv 14) pa_nil)))))))))))), ?_⟩
    rw [show L2.start N_chain_table [V.ref n1, .ref n2, .int (m : Int)] = [some (.ref n1), some (.ref n2), some (.int (m : Int)), none, none, none, none, none, none, none, none, none, none, none, none] from rfl]
    have no : (tb z1).length = 0 ∨ (tb z2).length = 0 → ∀ (T0 A0 G0 : Addr) J, Same H J → J T0 = some (.tup [.ref A0, .ref G0]) → J A0 = some (.lst []) → J G0 = some (.lst []) → Q (.ref T0) J := fun h0 T0 A0 G0 J s e1 e2 e3 =>
      q T0 A0 G0 [] [] J s e1 ⟨e2, fun z m => absurd m (by simp)⟩ e3 ⟨fun r m => absurd m (by simp [Z.tb]), fun r m => absurd m (by simp [Z.tb])⟩ (fun s m => absurd m (by simp)) (Nat.zero_le _) fun w => ⟨fun ⟨t, e, _⟩ => (by rw [show Mc.st (tb []) = none from rfl, rn_none] at e; cases e), fun z => absurd z (cat_none h0 w)⟩
    walk_at "go"
    refine ⟨r1, _, rfl, .inr hR1.sq, ?_⟩
    rw [List.length_map]
    walk_at "go"
    by_cases c1 : z1.length = 0
    · rw [show decide (V.int (z1.length : Int) = V.int 0) = true from decide_eq_true (by rw [c1]; rfl)]
      walk_at "go"
      intro A0 nA0
      generalize eH_ : upd H A0 _ = J1
      have s2 : Same H J1 := by rw [← eH_]; exact same_new nA0
      have eA0 : J1 A0 = some (.lst []) := by rw [← eH_]; exact upd_same
      clear eH_
      walk_at "go"
      intro G0 nG0
      generalize eH_ : upd J1 G0 _ = J2
      have s3 : Same J1 J2 := by rw [← eH_]; exact same_new nG0
      have eG0 : J2 G0 = some (.lst []) := by rw [← eH_]; exact upd_same
      clear eH_
      walk_at "go"
      intro T0 nT0
      generalize eH_ : upd J2 T0 _ = J3
      have s4 : Same J2 J3 := by rw [← eH_]; exact same_new nT0
      have eT0 : J3 T0 = some (.tup [.ref A0, .ref G0]) := by rw [← eH_]; exact upd_same
      clear eH_
      exact no (.inl (by omega)) T0 A0 G0 J3 (s2.trans (s3.trans s4)) eT0 ((s3.trans s4) _ _ eA0) (s4 _ _ eG0)
    rw [show decide (V.int (z1.length : Int) = V.int 0) = false from decide_eq_false (fun z => c1 (by injection z with z; omega))]
    walk_at "go"
    refine ⟨r2, _, rfl, .inr hR2.sq, ?_⟩
    rw [List.length_map]
    walk_at "go"
    by_cases c2 : z2.length = 0
    · rw [show decide (V.int (z2.length : Int) = V.int 0) = true from decide_eq_true (by rw [c2]; rfl)]
      walk_at "go"
      intro A0 nA0
      generalize eH_ : upd H A0 _ = J1
      have s2 : Same H J1 := by rw [← eH_]; exact same_new nA0
      have eA0 : J1 A0 = some (.lst []) := by rw [← eH_]; exact upd_same
      clear eH_
      walk_at "go"
      intro G0 nG0
      generalize eH_ : upd J1 G0 _ = J2
      have s3 : Same J1 J2 := by rw [← eH_]; exact same_new nG0
      have eG0 : J2 G0 = some (.lst []) := by rw [← eH_]; exact upd_same
      clear eH_
      walk_at "go"
      intro T0 nT0
      generalize eH_ : upd J2 T0 _ = J3
      have s4 : Same J2 J3 := by rw [← eH_]; exact same_new nT0
      have eT0 : J3 T0 = some (.tup [.ref A0, .ref G0]) := by rw [← eH_]; exact upd_same
      clear eH_
      exact no (.inr (by omega)) T0 A0 G0 J3 (s2.trans (s3.trans s4)) eT0 ((s3.trans s4) _ _ eA0) (s4 _ _ eG0)
    rw [show decide (V.int (z2.length : Int) = V.int 0) = false from decide_eq_false (fun z => c2 (by injection z with z; omega))]
    walk_at "go"
    clear no
    intro Y0 nY0
    generalize eH_ : upd H Y0 _ = J0
    have s0 : Same H J0 := by rw [← eH_]; exact same_new nY0
    have eY0 : J0 Y0 = some (.lst []) := by rw [← eH_]; exact upd_same
    clear eH_
    have en10 := s0 _ _ en1
    walk_at "go"
    refine ⟨u1, _, rfl, .inr (SqT.of (s0 _ _ hu1)), rfl, gsq_flat g1, ?_⟩
    rw [if_neg Bool.false_ne_true, show inV (.int 0) (gsq g1) = gB g1 (some 0) from inV_opt g1 (some 0)]
    walk_at "go"
    refine ⟨Y0, [], gB g1 (some 0), rfl, SqL.of eY0, Nat.zero_le _, fun St J s1' nSt eSt => ?_⟩
    have s1 := s0.trans s1'
    obtain ⟨sq0, hsq0⟩ : ∃ sq0 : Option Nat × List Nat, sq0 = (some 0, wst [] (gB g1 (some 0))) := ⟨_, rfl⟩
    walk_at "go"
    intro b0 nb0
    generalize eH_ : upd J b0 _ = J0b
    have s1b : Same J J0b := by rw [← eH_]; exact same_new nb0
    have eb0 : J0b b0 = some (.tup [.int 0, .ref St]) := by rw [← eH_]; exact upd_same
    clear eH_
    have tb0 : tupC J0b sq0 b0 := ⟨St, by rw [hsq0]; exact eb0, by rw [hsq0]; exact s1b _ _ eSt⟩
    have s1 := s1.trans s1b
    clear eb0 eSt eY0 nb0 nSt nY0 s0 s1' s1b
    walk_at "go"
    intro Nu nNu
    have sN := same_new (o := DNo P w Nu []) nNu
    have tb1 := tupC_k _ _ _ _ (.same sN) tb0
    walk_at "go"
    refine ⟨encC sq0, b0, 0, rfl, rfl, dn_new, tupC_n tb1, encC_depth _, ?_⟩
    have d1 := dn_disp (i := 0) (dn_new (P := P) (w := w) (H := J0b) (p := Nu)) (tupC_n tb1) (encC_depth _)
    have s2 : Same J0b (upd (upd J0b Nu (DNo P w Nu [])) Nu (DNo P w Nu [(encC sq0, b0, 0)])) := Z.Same.mut sN nNu
    generalize upd (upd J0b Nu (DNo P w Nu [])) Nu (DNo P w Nu [(encC sq0, b0, 0)]) = J1 at d1 s2
    walk_at "go"
    intro Pa nPa
    generalize eH_ : upd J1 Pa _ = J2
    have s3 : Same J1 J2 := by rw [← eH_]; exact same_new nPa
    have ePa : J2 Pa = some (.lst [.ref b0]) := by rw [← eH_]; exact upd_same
    clear eH_
    walk_at "go"
    intro Re nRe
    generalize eH_ : upd J2 Re _ = J3
    have s4 : Same J2 J3 := by rw [← eH_]; exact same_new nRe
    have eRe : J3 Re = some (.lst []) := by rw [← eH_]; exact upd_same
    clear eH_
    have PR : Pa ≠ Re := ne_of_none ePa nRe
    have s13 := s1.trans (s2.trans (s3.trans s4))
    have nNuH := none_of s1 nNu
    have nPaH := none_of (s1.trans s2) nPa
    have nReH := none_of (s1.trans (s2.trans s3)) nRe
    have pk0 : PK P w (cst (tb z1) g1 (tb z2)) m sq0 (DC z1.length z2.length) tupC encC J3 Nu Pa Re [(sq0, b0)] [] [] := by
      refine ⟨d1.mono (s3.trans s4), s4 _ _ ePa, fun z hz => ?_, ⟨eRe, fun z m => absurd m (by simp)⟩, fun z m => absurd m (by simp), PR, Wl.start _ _ _, fun z hz => ?_⟩
      · rw [List.mem_singleton.mp hz]
        exact tupC_k _ _ _ _ (.same (s2.trans (s3.trans s4))) tb0
      · rw [List.mem_singleton.mp hz, hsq0]
        exact ⟨fun s hs => by cases hs; omega, wst_asc .nil, by rw [← lT2]; exact wst_lt (by omega) fun s m => absurd m (by simp)⟩
    clear d1 s2 s3 s4 ePa eRe sN tb1 nPa nRe nNu tb0 s1
    obtain ⟨NN, hNN⟩ : ∃ NN, NN = (z1.length + 1) * 2 ^ z2.length := ⟨_, rfl⟩
    rw [lT1, lT2, ← hNN] at big q
    rw [lT2] at big2
    have few : ∀ {zs : List ((Option Nat × List Nat) × Addr)} {rows : Tbl} {line : List (Option Nat)}, Wl (cst (tb z1) g1 (tb z2)) m sq0 (zs.map (·.1)) rows line → (∀ z ∈ zs, DC z1.length z2.length z.1) → zs.length ≤ NN := fun {zs rows line} wl hd => by
      have := few_C wl fun q hq => by
        obtain ⟨z, hz, rfl⟩ := List.mem_map.mp hq
        exact hd z hz
      rw [List.length_map, ← hNN] at this
      exact this
    dsimp only [List.set]
    refine ⟨fun σ' J => Same H J ∧ ∃ (zs : List ((Option Nat × List Nat) × Addr)) (zr : List (Addr × List (Option Nat))) (v7 v8 v9 v10 v11 v12 : Option V), PK P w (cst (tb z1) g1 (tb z2)) m sq0 (DC z1.length z2.length) tupC encC J Nu Pa Re zs zr [] ∧ zr.length = zs.length ∧ σ' = [some (.ref n1), some (.ref n2), some (.int (m : Int)), some (.ref b0), some (.ref Nu), some (.ref Pa), some (.ref Re), v7, v8, v9, v10, v11, v12, none, none], ?_, ?_⟩
    · refine ⟨fun μ σ J => Same H J ∧ ∃ (zs : List ((Option Nat × List Nat) × Addr)) (zr : List (Addr × List (Option Nat))) (v7 v8 v9 v10 v11 v12 : Option V), PK P w (cst (tb z1) g1 (tb z2)) m sq0 (DC z1.length z2.length) tupC encC J Nu Pa Re zs zr [] ∧ μ = NN - zr.length ∧ σ = [some (.ref n1), some (.ref n2), some (.int (m : Int)), some (.ref b0), some (.ref Nu), some (.ref Pa), some (.ref Re), v7, v8, v9, v10, v11, v12, none, none], ⟨_, s13, _, [], none, none, none, none, none, none, pk0, rfl, rfl⟩, ?_⟩
      rintro μ σ J ⟨s4, zs, zr, v7, v8, v9, v10, v11, v12, pk, rfl, rfl⟩
      have lzr : (tb zr).length = zr.length := List.length_map ..
      have lez := pk.wl.le
      rw [lzr, List.length_map] at lez
      have lzN := few pk.wl pk.dd
      walk_at "go"
      refine ⟨Re, _, rfl, .inl (SqL.of pk.tr.sq), ?_⟩
      rw [List.length_map]
      walk_at "go"
      refine ⟨Pa, _, rfl, .inl (SqL.of pk.pa), ?_⟩
      rw [List.length_map]
      walk_at "go"
      refine ite2 (fun e => ?_) (fun e => ?_)
      · have lt : zr.length < zs.length := by have := of_decide_eq_true e; omega
        refine ⟨fun σ' J' => Same H J' ∧ ∃ (zs : List ((Option Nat × List Nat) × Addr)) (zr' : List (Addr × List (Option Nat))) (v7 v8 v9 v10 v11 v12 : Option V), PK P w (cst (tb z1) g1 (tb z2)) m sq0 (DC z1.length z2.length) tupC encC J' Nu Pa Re zs zr' [] ∧ zr'.length = zr.length + 1 ∧ σ' = [some (.ref n1), some (.ref n2), some (.int (m : Int)), some (.ref b0), some (.ref Nu), some (.ref Pa), some (.ref Re), v7, v8, v9, v10, v11, v12, none, none], ?_, ?_⟩
        · rintro σ' J' ⟨s5, zs', zr', v7, v8, v9, v10, v11, v12, e1, e2, rfl⟩
          exact ⟨_, by omega, s5, zs', zr', v7, v8, v9, v10, v11, v12, e1, rfl, rfl⟩
        obtain ⟨z0, hz0⟩ : ∃ z0, zs[zr.length]? = some z0 := ⟨_, List.getElem?_eq_getElem lt⟩
        obtain ⟨S0, tz0, tS0⟩ := pk.ka z0 (List.mem_of_getElem? hz0)
        have dz0 := pk.dd z0 (List.mem_of_getElem? hz0)
        walk_at "go"
        refine ⟨Re, _, rfl, .inl (SqL.of pk.tr.sq), ?_⟩
        rw [List.length_map]
        walk_at "go"
        refine ⟨Pa, _, _, _, rfl, rfl, SqL.of pk.pa, atI_nat (v := .ref z0.2) (by rw [List.getElem?_map, hz0]; rfl), ?_⟩
        walk_at "go"
        refine ⟨z0.2, _, rfl, SqT.of tz0, rfl, _, _, rfl, _, _, rfl, rfl, ?_⟩
        walk_at "go"
        intro Ln nLn
        generalize eH_ : upd J Ln _ = J1
        have s5 : Same J J1 := by rw [← eH_]; exact same_new nLn
        have eLn : J1 Ln = some (.lst (([] : List (Option Nat)).map eV)) := by rw [← eH_]; exact upd_same
        clear eH_
        have pk1 := pk.mono tupC_k s5
        have LP : Ln ≠ Pa := (ne_of_none pk.pa nLn).symm
        have LR : Ln ≠ Re := (ne_of_none pk.tr.sq nLn).symm
        have Lz : ∀ z ∈ zr, z.1 ≠ Ln := fun z hz => ne_of_none (pk.tr.at_ z hz) nLn
        have nLnH := none_of s4 nLn
        have s41 := s4.trans s5
        have tS1 := s5 _ _ tS0
        have ltN : zr.length < NN := by omega
        clear pk lzN e nLn s5 lez tz0 tS0
        dsimp only [List.set]
        refine ⟨fun σ' J' => Same H J' ∧ ∃ (zs : List ((Option Nat × List Nat) × Addr)) (line : List (Option Nat)) (v10 v11 v12 : Option V), PK P w (cst (tb z1) g1 (tb z2)) m sq0 (DC z1.length z2.length) tupC encC J' Nu Pa Re zs zr line ∧ J' Ln = some (.lst (line.map eV)) ∧ line.length = m ∧ zr.length < zs.length ∧ σ' = [some (.ref n1), some (.ref n2), some (.int (m : Int)), some (.ref b0), some (.ref Nu), some (.ref Pa), some (.ref Re), some (eV z0.1.1), some (.ref S0), some (.ref Ln), v10, v11, v12, none, none], ?_, ?_⟩
        · walk_at "go"
          refine for_gen (n := m) (fun k σ J' => Same H J' ∧ J' S0 = some (.tup (gsq z0.1.2)) ∧ ∃ (zs : List ((Option Nat × List Nat) × Addr)) (line : List (Option Nat)) (v10 v11 v12 : Option V), PK P w (cst (tb z1) g1 (tb z2)) m sq0 (DC z1.length z2.length) tupC encC J' Nu Pa Re zs zr line ∧ J' Ln = some (.lst (line.map eV)) ∧ line.length = k ∧ zs[zr.length]? = some z0 ∧ σ = [some (.ref n1), some (.ref n2), some (.int (m : Int)), some (.ref b0), some (.ref Nu), some (.ref Pa), some (.ref Re), some (eV z0.1.1), some (.ref S0), some (.ref Ln), v10, v11, v12, none, none]) ⟨s41, tS1, zs, [], v10, v11, v12, pk1, eLn, rfl, hz0, rfl⟩ ?_ ?_ ?_ ?_
          · intro k σ J hk _
            show k < ((m : Int)).toNat
            omega
          · intro σ J _
            show ((m : Int)).toNat ≤ m
            omega
          · rintro k σ J x J' hk ⟨s6, tS, zs, line, v10, v11, v12, pk, eL, ll, hz0, rfl⟩ ⟨rfl, rfl⟩
            rw [show (0 : Int) + (k : Int) = (k : Int) by omega]
            have hR1' := hR1.mono s6
            have hR2' := hR2.mono s6
            have en1' := s6 _ _ en1
            have en2' := s6 _ _ en2
            have hu1' := s6 _ _ hu1
            obtain ⟨t', ht'⟩ : ∃ t' : Option Nat, t' = z0.1.1.bind fun s => nx (tb z1) s k := ⟨_, rfl⟩
            refine ⟨fun σ' J1 => J1 = J' ∧ σ' = [some (.ref n1), some (.ref n2), some (.int (m : Int)), some (.ref b0), some (.ref Nu), some (.ref Pa), some (.ref Re), some (eV z0.1.1), some (.ref S0), some (.ref Ln), some (.int (k : Int)), some (eV t'), v12, none, none], ?_, ?_⟩
            · have d1 := dz0.1
              rw [ht']
              generalize z0.1.1 = lo at d1
              dsimp only [List.set]
              cases lo with
              | none =>
                dsimp only [eV]
                walk_at "go"
                first | exact ⟨rfl, rfl⟩ | exact rfl
              | some s1 =>
                obtain ⟨zz, c1, c2, c3⟩ := cell_at hR1' w1 (d1 s1 rfl) hk
                dsimp only [eV]
                walk_at "go"
                refine ⟨r1, _, _, _, rfl, rfl, hR1'.sq, c1, ?_⟩
                walk_at "go"
                refine ⟨zz.1, _, _, _, rfl, rfl, c2, c3, ?_⟩
                first | exact ⟨rfl, rfl⟩ | exact rfl
            rintro σ' J1 ⟨rfl, rfl⟩
            walk_at "go"
            refine ⟨false, r2, S0, z2, z0.1.2, m, k, rfl, hR2', w2, hk, SqT.of tS, dz0.2.2, Nat.le_trans (asc_len dz0.2.1 dz0.2.2) big2, fun L1 K1 sa nL1 eL1 => ?_⟩
            have en1k := sa _ _ en1'
            walk_at "go"
            refine ⟨u1, _, rfl, .inr (SqT.of (sa _ _ hu1')), by cases t' <;> rfl, gsq_flat g1, ?_⟩
            rw [if_neg Bool.false_ne_true, inV_opt]
            walk_at "go"
            refine ⟨L1, _, gB g1 t', rfl, SqL.of eL1, Nat.le_trans (asc_len (aft_asc ..) fun s hs => aft_lt hs) (by rw [lT2]; exact big2), fun St K2 sb nSt eSt => ?_⟩
            walk_at "go"
            intro b nb
            generalize eH_ : upd K2 b _ = K3
            have sc : Same K2 K3 := by rw [← eH_]; exact same_new nb
            have eb : K3 b = some (.tup [eV t', .ref St]) := by rw [← eH_]; exact upd_same
            clear eH_
            have s7 := sa.trans (sb.trans sc)
            have eSt3 := sc _ _ eSt
            obtain ⟨q', hq'⟩ : ∃ q' : Option Nat × List Nat, q' = (t', wst (aft (tb z2) z0.1.2 k) (gB g1 t')) := ⟨_, rfl⟩
            have teb : tupC K3 q' b := ⟨St, by rw [hq']; exact eb, by rw [hq']; exact eSt3⟩
            have pk1 := pk.mono tupC_k s7
            have eL1' := s7 _ _ eL
            have tS' := s7 _ _ tS
            have s61 := s6.trans s7
            have hzk : (zs.map (·.1))[(tb zr).length]? = some z0.1 := by rw [lzr, List.getElem?_map, hz0]; rfl
            have lls : (line.map eV).length < sizeLine := by rw [List.length_map]; exact szC (by omega)
            clear pk eL s7 s6 hR1' hR2' en1' en2' pk0 sa sb sc nb nSt nL1 eL1 eSt hu1' en1k tS
            dsimp only [List.set]
            walk_at "go"
            intro e0 ne0
            generalize eH_ : upd K3 e0 _ = K4
            have sd : Same K3 K4 := by rw [← eH_]; exact same_new ne0
            have ee0 : K4 e0 = some (.tup []) := by rw [← eH_]; exact upd_same
            clear eH_
            walk_at "go"
            intro e1 ne1
            generalize eH_ : upd K4 e1 _ = K5
            have se : Same K4 K5 := by rw [← eH_]; exact same_new ne1
            have ee1 : K5 e1 = some (.tup [.non, .ref e0]) := by rw [← eH_]; exact upd_same
            clear eH_
            have sde := sd.trans se
            refine ⟨_, _, dp_ky (o := t') (S := wst (aft (tb z2) z0.1.2 k) (gB g1 t')) (SqT.of (sde _ _ eb)) (SqT.of (sde _ _ eSt3)), dp_ky (o := none) (S := []) (SqT.of ee1) (SqT.of (se _ _ ee0)), shaped_ky _ _, shaped_ky _ _, ?_⟩
            rw [eqv_ky]
            have pk2 := pk1.mono tupC_k sde
            have eL2 := sde _ _ eL1'
            have tS2 := sde _ _ tS'
            have s62 := s61.trans sde
            have teb2 := tupC_k _ _ _ _ (.same sde) teb
            clear pk1 eL1' tS' s61 teb sde sd se eb eSt3 ee0 ee1 ne0 ne1
            have stp : cst (tb z1) g1 (tb z2) z0.1 line.length = if t' = none ∧ wst (aft (tb z2) z0.1.2 k) (gB g1 t') = [] then none else some q' := by
              rw [hq', ll]
              unfold cst
              rw [← ht']
            walk_at "go"
            by_cases ck : t' = none ∧ wst (aft (tb z2) z0.1.2 k) (gB g1 t') = []
            · rw [if_pos ck] at stp
              rw [decide_eq_true ck]
              walk_at "go"
              refine ⟨.inl ⟨rfl, _, SqL.of eL2⟩, ?_⟩
              walk_at "go"
              refine ⟨Ln, _, _, rfl, rfl, eL2, lls, ?_⟩
              refine ⟨Z.Same.mut s62 nLnH, (TupK.lst eL2) _ _ tS2, zs, line ++ [none], _, _, _, (pk2.lst tupC_k eL2 LP LR Lz).wlc (pk2.wl.putNone hzk (by omega) stp), by rw [upd_same, List.map_append]; rfl, by rw [List.length_append, ll]; rfl, hz0, rfl⟩
            · rw [if_neg ck] at stp
              rw [decide_eq_false ck]
              walk_at "go"
              refine ⟨fun σ' J2 => Same H J2 ∧ J2 S0 = some (.tup (gsq z0.1.2)) ∧ ∃ (zs : List ((Option Nat × List Nat) × Addr)) (j : Nat) (z' : (Option Nat × List Nat) × Addr), PK P w (cst (tb z1) g1 (tb z2)) m sq0 (DC z1.length z2.length) tupC encC J2 Nu Pa Re zs zr line ∧ zs[j]? = some z' ∧ z'.1 = q' ∧ J2 Ln = some (.lst (line.map eV)) ∧ tupC J2 q' b ∧ zs[zr.length]? = some z0 ∧ σ' = [some (.ref n1), some (.ref n2), some (.int (m : Int)), some (.ref b0), some (.ref Nu), some (.ref Pa), some (.ref Re), some (eV z0.1.1), some (.ref S0), some (.ref Ln), some (.int (k : Int)), some (eV t'), some (.ref b), none, none], ?_, ?_⟩
              · walk_at "go"
                refine ⟨Nu, _, encC q', b, rfl, rfl, pk2.dn, tupC_n teb2, encC_depth _, ?_⟩
                by_cases hm : q' ∈ zs.map (·.1)
                · obtain ⟨j, z', hj, ez⟩ := mem_ex hm
                  have ea := kvz_at encC_inj 0 j zs z' pk2.wl.nd hj
                  rw [ez] at ea
                  rw [ea]
                  refine ⟨_, rfl, ite2 (fun e => absurd e Bool.false_ne_true) (fun _ => ?_)⟩
                  exact ⟨s62, tS2, zs, j, z', pk2, hj, ez, eL2, teb2, hz0, rfl⟩
                · have ea := kvz_none encC_inj 0 zs hm
                  have dq : DC z1.length z2.length q' := by
                    rw [hq', ht']
                    exact ⟨fun s hs => by rw [← lT1]; exact lo_bind w1 _ _ s hs, wst_asc (aft_asc ..), by rw [← lT2]; exact wst_lt (by omega) fun s hs => aft_lt hs⟩
                  have few1 := few pk2.wl pk2.dd
                  obtain ⟨e1, pk3⟩ := pk2.key tupC_k (b := b) teb2 (tupC_n teb2) (encC_depth _) (pk2.wl.ext (by rw [lzr, List.length_map]; exact (List.getElem?_eq_some_iff.mp hz0).1) hm) dq
                  rw [ea]
                  refine ⟨_, rfl, ite2 (fun _ => ?_) (fun e => absurd (show (!(none : Option Int).isSome) = true from rfl) e)⟩
                  walk_at "go"
                  refine ⟨Pa, _, rfl, .inl (SqL.of pk2.pa), ?_⟩
                  rw [List.length_map]
                  walk_at "go"
                  refine ⟨Nu, _, encC q', b, _, rfl, rfl, rfl, pk2.dn, tupC_n teb2, encC_depth _, ea, by rw [kvz_len]; exact szC (by omega), ?_⟩
                  walk_at "go"
                  refine ⟨.inl ⟨rfl, _, SqL.of e1⟩, ?_⟩
                  walk_at "go"
                  refine ⟨Pa, _, _, rfl, rfl, e1, by rw [List.length_map]; exact szC (by omega), ?_⟩
                  have eL3 : (upd (upd K5 Nu (DNo P w Nu (kvz encC 0 zs ++ [(encC q', b, (zs.length : Int))]))) Pa (.lst ((zs.map fun z => V.ref z.2) ++ [.ref b]))) Ln = some (.lst (line.map eV)) := by rw [upd_ne LP, upd_ne (pk2.nuP eL2)]; exact eL2
                  have tk3 := (TupK.dno (o := DNo P w Nu (kvz encC 0 zs ++ [(encC q', b, (zs.length : Int))])) pk2.dn.at_).trans (TupK.lst (o := .lst ((zs.map fun z => V.ref z.2) ++ [.ref b])) e1)
                  exact ⟨Z.Same.mut (Z.Same.mut s62 nNuH) nPaH, tk3 _ _ tS2, zs ++ [(q', b)], zs.length, (q', b), pk3, by rw [List.getElem?_append_right (Nat.le_refl _), Nat.sub_self]; rfl, rfl, eL3, tupC_k _ _ _ _ tk3 teb2, by rw [List.getElem?_append_left (List.getElem?_eq_some_iff.mp hz0).1]; exact hz0, rfl⟩
              rintro σ' J2 ⟨s8, tS3, zs2, j, z', pk3, hj, ez, eL3, teb3, hz2, rfl⟩
              walk_at "go"
              refine ⟨.inl ⟨rfl, _, SqL.of eL3⟩, ?_⟩
              have ea := kvz_at encC_inj 0 j zs2 z' pk3.wl.nd hj
              rw [ez, Nat.zero_add] at ea
              walk_at "go"
              refine ⟨Nu, _, encC q', b, _, rfl, rfl, pk3.dn, tupC_n teb3, encC_depth _, ea, ?_⟩
              walk_at "go"
              refine ⟨Ln, _, _, rfl, rfl, eL3, lls, ?_⟩
              refine ⟨Z.Same.mut s8 nLnH, (TupK.lst eL3) _ _ tS3, zs2, line ++ [some j], _, _, _, (pk3.lst tupC_k eL3 LP LR Lz).wlc (pk3.wl.putOld (q := z0.1) (q' := q') (by rw [lzr, List.getElem?_map, hz2]; rfl) (by omega) stp (by rw [List.getElem?_map, hj, ← ez]; rfl)), by rw [upd_same, List.map_append]; rfl, by rw [List.length_append, ll]; rfl, hz2, rfl⟩
          · rintro σ J ⟨s6, _, zs, line, v10, v11, v12, pk, eL, ll, hz0, rfl⟩
            exact ⟨s6, zs, line, v10, v11, v12, pk, eL, ll, (List.getElem?_eq_some_iff.mp hz0).1, rfl⟩
        rintro σ' J' ⟨s6, zs', line, v10, v11, v12, pk, eL, ll, lt', rfl⟩
        walk_at "go"
        refine ⟨.inl ⟨rfl, _, SqL.of pk.tr.sq⟩, ?_⟩
        walk_at "go"
        refine ⟨Re, _, _, rfl, rfl, pk.tr.sq, by rw [List.length_map]; exact szC (by omega), ?_⟩
        exact ⟨Z.Same.mut s6 nReH, zs', zr ++ [(Ln, line)], _, _, _, _, _, _, pk.close tupC_k ll lt' eL LP LR, by rw [List.length_append]; rfl, rfl⟩
      · have le : zr.length = zs.length := by
          have : ¬ (zr.length : Int) < (zs.length : Int) := fun z => e (decide_eq_true z)
          omega
        exact ⟨s4, zs, zr, _, _, _, _, _, _, pk, le, rfl⟩
    rintro σ' J ⟨s4, zs, zr, v7, v8, v9, v10, v11, v12, pk, le, rfl⟩
    have lzN := few pk.wl pk.dd
    have lzr : (tb zr).length = zr.length := List.length_map ..
    have en2' := s4 _ _ en2
    have hu2' := s4 _ _ hu2
    clear pk0 hM hN few
    walk_at "go"
    refine ⟨true, _, _, rfl, SqL.of pk.pa, ?_⟩
    intro D nD
    refine lc_enumT (fun k => match (zs.map (·.1))[k]? with | some q => (q.2.map fun s => decide (s ∈ g2)).any id | none => false) (SqL.of pk.pa) (by rw [List.length_map]; omega) nD (fun k x => rfl) (fun k x J1 Q1 ex s5 q1 => ?_) (fun k x J1 Q1 ex s5 q1 => ?_) (fun J1 s5 eD => ?_)
    · rw [List.getElem?_map] at ex
      obtain ⟨z, ez, rfl⟩ := Option.map_eq_some_iff.mp ex
      obtain ⟨Sz, tz, tSz⟩ := tupC_k _ _ _ _ (.same s5) (pk.ka z (List.mem_of_getElem? ez))
      have dz := pk.dd z (List.mem_of_getElem? ez)
      have eb : (match (zs.map (·.1))[k]? with | some q => (q.2.map fun s => decide (s ∈ g2)).any id | none => false) = (z.1.2.map fun s => decide (s ∈ g2)).any id := by rw [List.getElem?_map, ez]; rfl
      rw [eb] at q1
      have en2' := s5 _ _ en2'
      have hu2' := s5 _ _ hu2'
      have lU := Nat.le_trans (asc_len dz.2.1 dz.2.2) big2
      walk_at "go"
      refine ⟨z.2, _, _, _, rfl, rfl, SqT.of tz, at_1, ?_⟩
      refine ⟨Sz, rfl, ⟨_, SqT.of tSz⟩, ?_⟩
      intro B nB
      refine lc_flt (n := z.1.2.length) (fun i => .int ((z.1.2.getD i 0 : Nat) : Int)) (fun _ => true) (fun i => .bl (decide (z.1.2.getD i 0 ∈ g2))) lU nB (fun i J3 hi s6 => ?_) (fun J3 s6 => ?_) (fun i J3 x J4 hi s6 y => ?_) (fun i => rfl) (fun i J3 Q2 hi s6 q2 => ?_) (fun i J3 Q2 hi _ s6 q2 => ?_) (fun J3 s6 eB => ?_)
      · exact itq_go (b := false) (SqT.of (s6 _ _ tSz)) (x := .int ((z.1.2[i] : Nat) : Int)) (by unfold gsq; rw [List.getElem?_map, List.getElem?_eq_getElem hi]; rfl)
      · exact itq_stop (b := false) (SqT.of (s6 _ _ tSz)) (by unfold gsq; rw [List.length_map]; exact Nat.le_refl _)
      · obtain ⟨rfl, ex⟩ := itq_yld (b := false) (SqT.of (s6 _ _ tSz)) y
        unfold gsq at ex
        rw [List.getElem?_map, List.getElem?_eq_getElem hi] at ex
        cases ex
        exact ⟨Same.refl _, by rw [List.getD_eq_getElem?_getD, List.getElem?_eq_getElem hi]; rfl⟩
      · exact q2 _ (Same.refl _)
      · have en2k := s6 _ _ en2'
        walk_at "go"
        refine ⟨u2, _, rfl, .inr (SqT.of (s6 _ _ hu2')), rfl, gsq_flat g2, ?_⟩
        rw [if_neg Bool.false_ne_true, inV_gsq]
        exact q2 _ (Same.refl _)
      rw [fltL_all] at eB
      walk_at "go"
      rw [bl_map] at eB
      refine ⟨B, z.1.2.map fun s => decide (s ∈ g2), rfl, SqL.of eB, ?_⟩
      exact ⟨_, rfl, q1 _ s6⟩
    · walk_at "go"
      exact q1
    have pk5 := pk.mono tupC_k s5
    rw [List.length_map] at eD
    walk_at "go"
    intro T0 nT0
    generalize eH_ : upd J1 T0 _ = J2
    have s6 : Same J1 J2 := by rw [← eH_]; exact same_new nT0
    have eT0 : J2 T0 = some (.tup [.ref Re, .ref D]) := by rw [← eH_]; exact upd_same
    clear eH_
    have hz : (tb zr).length = (zs.map (·.1)).length := by rw [lzr, le, List.length_map]
    refine q T0 Re D zr _ J2 (s4.trans (s5.trans s6)) eT0 (pk5.tr.mono s6) (s6 _ _ eD) (pk.wl.wf hz) (fun s hs => by rw [le]; exact List.mem_range.mp (List.mem_filter.mp hs).1) (by omega) fun w => ?_
    have ca := chain_acc (g1 := g1) (g2 := g2) w1 w2 (by omega) (by omega) w
    rw [← hsq0] at ca
    refine Iff.trans ?_ ca
    refine pk.wl.acc hz (Gd := fun q => ∃ s ∈ q.2, s ∈ g2) (fun j q hj => ?_) w
    unfold inG
    rw [List.mem_filter, List.mem_range, hj]
    have ea : (q.2.map fun s => decide (s ∈ g2)).any id = true ↔ ∃ s ∈ q.2, s ∈ g2 := by
      rw [List.any_eq_true]
      constructor
      · rintro ⟨x, hx, hx2⟩
        obtain ⟨s, hs, rfl⟩ := List.mem_map.mp hx
        exact ⟨s, hs, of_decide_eq_true hx2⟩
      · rintro ⟨s, hs, hg⟩
        exact ⟨_, List.mem_map.mpr ⟨s, hs, rfl⟩, decide_eq_true hg⟩
    constructor
    · rintro ⟨_, hg⟩
      exact ea.mp hg
    · intro hg
      have := (List.getElem?_eq_some_iff.mp hj).1
      rw [List.length_map] at this
      exact ⟨this, ea.mpr hg⟩
end
end Z
set_option pp.maxSteps 700
set_option Elab.async false
set_option linter.all false
set_option maxRecDepth 100000
set_option maxHeartbeats 4000000
open SX (S S_inj S_len S_cat)
namespace Z
open Mc
open PySem PySem.Spec PyProof.Rows L2
open C8 (pss_cut tCut)
local macro_rules | `(tactic| walk_at "num") => `(tactic| first | rfl | omega | decide | exact Nat.le_of_lt (small1000 (by simp)) | exact ⟨by omega, by omega⟩ | exact ⟨by omega, by omega, by omega⟩ | exact ⟨by decide, by decide, by decide⟩ | exact Or.inl ⟨by omega, by omega⟩ | exact Or.inr ⟨by omega, by omega⟩)
local macro_rules | `(tactic| walk_at "go") => `(tactic| repeat (first | refine ⟨_, rfl, ?_⟩ | refine ⟨_, _, rfl, rfl, ?_⟩ | refine ⟨_, _, rfl, ?_⟩ | (refine ⟨_, _, rfl, rfl, ?_, ?_⟩; focus walk_at "num") | refine Or.inl ⟨_, rfl, ?_⟩ | refine ⟨_, _, _, _, rfl, rfl, (by assumption), (by rfl), ?_⟩ | refine ⟨_, _, _, _, _, rfl, (by assumption), (by assumption), (by assumption), (by rfl), ?_⟩ | refine ⟨rfl, ?_⟩ | (refine And.intro ?_ ?_; focus walk_at "num")))
abbrev s_rounds_table : Stmt := topS 19
abbrev N_rounds_table : List Str := ["machine", "many", "start", "numbers", "keys", "rows", "states", "line", "at", "found", "state", "ends", "key"]
abbrev P_rounds_table : List Str := ["machine", "many"]
theorem sc_rounds_table : FnScope N_rounds_table P_rounds_table (defScope s_rounds_table) := ⟨rfl, rfl, rfl, by decide +kernel, rfl, by decide +kernel, by decide +kernel⟩
def tupR : Hp → Bool × List Nat → Addr → Prop := fun J q b => ∃ Sa, J b = some (.tup [.bl q.1, .ref Sa]) ∧ J Sa = some (.tup (gsq q.2))
def encR (q : Bool × List Nat) : NestedKey := .tup [.num (if q.1 = true then 1 else 0), .tup (q.2.map fun (s : Nat) => NestedKey.num (s : Int))]
theorem encR_inj : ∀ a b, encR a = encR b → a = b := fun (a1, a2) (b1, b2) h => by
  injection h with h
  injection h with h1 h2
  injection h2 with h2
  injection h2 with h2
  injection h1 with h1
  have e2 : a2 = b2 := nums_inj h2
  rw [e2]
  cases a1 <;> cases b1
  · rfl
  · cases h1
  · cases h1
  · rfl
theorem encR_depth (q : Bool × List Nat) : (encR q).depth ≤ 8 := by
  unfold encR
  rw [NestedKey.depth, NestedKey.depthAll, NestedKey.depthAll, NestedKey.depthAll, NestedKey.depth, NestedKey.depth, nums_depth]
  decide
theorem tupR_k : ∀ J J' q b, TupK J J' → tupR J q b → tupR J' q b := fun _ _ _ _ t ⟨Sa, h1, h2⟩ => ⟨Sa, t _ _ h1, t _ _ h2⟩
theorem tupR_n {J : Hp} {q : Bool × List Nat} {b : Addr} (h : tupR J q b) : NkV J (encR q) (.ref b) := by
  obtain ⟨Sa, h1, h2⟩ := h
  exact .tup h1 (.cons (.bl _) (.cons (.tup h2 (nka_nums _)) .nil))
section
variable {P : Program} {w : World} {K : PySem.W.Frag} {mg : Str → Option Value} {base : Heap} {f C : Addr} {fd : FuncData}
def DR (n : Nat) (q : Bool × List Nat) : Prop := q.2.Pairwise (· < ·) ∧ ∀ s ∈ q.2, s < n
theorem few_R {step : Bool × List Nat → Nat → Option (Bool × List Nat)} {m n : Nat} {st : Bool × List Nat} {ks : List (Bool × List Nat)} {rows : Tbl} {line : List (Option Nat)} (h : Wl step m st ks rows line) (hd : ∀ q ∈ ks, DR n q) : ks.length ≤ 2 * 2 ^ n :=
  h.few (DR n) (fun q => (if q.1 = true then 1 else 0) * 2 ^ n + bcn q.2 n) hd (fun q d => code2_lt (by split <;> omega) (bcn_lt _ _)) fun q q' d d' e => by
    obtain ⟨a, b⟩ := code2 (bcn_lt _ _) (bcn_lt _ _) e
    obtain ⟨q1, q2⟩ := q
    obtain ⟨q1', q2'⟩ := q'
    have e2 : q2 = q2' := bcn_eq d.1 d'.1 d.2 d'.2 b
    rw [e2]
    cases q1 <;> cases q1'
    · rfl
    · exact absurd (show (0 : Nat) = 1 from a) (by decide)
    · exact absurd (show (1 : Nat) = 0 from a) (by decide)
    · rfl
theorem flat_none (m : Nat) (v : V) : (List.replicate ((m : Int)).toNat [v]).flatten = List.replicate m v := by
  rw [Int.toNat_natCast]
  induction m with
  | zero => rfl
  | succ m ih =>
    rw [List.replicate_succ, List.flatten_cons, ih, List.replicate_succ]
    rfl
theorem one_acc {m : Nat} {z : Addr} (w : List Nat) : AccS (tb [(z, List.replicate m none)]) (inG [0]) w ↔ w = [] := by
  have e0 : Mc.st (tb [(z, List.replicate m none)]) = some 0 := rfl
  have n0 : ∀ k, nx (tb [(z, List.replicate m none)]) 0 k = none := fun k => by
    cases e : nx (tb [(z, List.replicate m none)]) 0 k with
    | none => rfl
    | some x =>
      obtain ⟨r, h1, h2⟩ := nx_mem e
      cases h1
      have := (List.mem_replicate.mp (List.mem_of_getElem? h2)).2
      cases this
  constructor
  · rintro ⟨t, e, _⟩
    rw [e0] at e
    cases w with
    | nil => rfl
    | cons k w =>
      have e : rn _ (nx (tb [(z, List.replicate m none)]) 0 k) w = some t := e
      rw [n0, rn_none] at e
      cases e
  · rintro rfl
    exact ⟨0, rfl, List.mem_cons_self⟩
def spRnd (C : Addr) (K : PySem.W.Frag) : Sp := fun vs H Q _ => ∃ (n1 : Addr) (l1 : List Nat) (R1 : Tbl) (g1 : List Nat) (m : Nat), vs = [.ref n1, .int (m : Int)] ∧ McAt C K H n1 l1 R1 g1 ∧ Wf R1 m ∧ m ≤ 1000 ∧ 2 * 2 ^ R1.length ≤ 1000000 ∧ R1.length ≤ 1000000 ∧ PTab H m (2 * 2 ^ R1.length) (StL (AccS R1 (inG g1))) Q
theorem ok_rounds_table (F : FnP K "rounds_table" s_rounds_table f fd) (m_len : mg "len" = none) (m_range : mg "range" = none) (m_any : mg "any" = none) (m_enumerate : mg "enumerate" = none) (cls : Cls K C) (n_rows : NoAttr K C "rows") (n_good : NoAttr K C "good") (c_after_step : Cal P w K mg base 1 "after_step" (spAft K)) (c_with_start : Cal P w K mg base 1 "with_start" (spWst K)) : FnOk P w K mg base CX0 2 f fd P_rounds_table (spRnd C K) := by
  refine F.ok sc_rounds_table (fun vs H Q E h => ?_) (fun cdv A outer s H vs Q E hr h => ?_)
  · obtain ⟨n1, l1, R1, g1, m, rfl, _⟩ := h
    rfl
  · obtain ⟨n1, l1, R1, g1, m, rfl, hM, w1, lm, big, big2, q⟩ := h
    obtain ⟨dx1, r1, u1, z1, en1, hR1, hu1, rfl⟩ := hM.ex
    have lT1 : (tb z1).length = z1.length := List.length_map ..
    refine ⟨_, PSs.nox (pss_cons (ps_if (pt_cmpR op_eq (pe_callB call_len_seq (by rfl) m_len PySem.boot_len (pa_cons (pe_fld (pv 0) rfl) pa_nil)) pe_int (nomark _)) (pss_one (ps_ret (pe_tup (pa_cons (pe_lst (pa_cons (pe_op op_rep (pe_lst (pa_cons pe_non pa_nil)) (pv 1)) pa_nil)) (pa_cons (pe_lst (pa_cons pe_int pa_nil)) pa_nil))))) pss_nil)
      (pss_cons (ps_set (i := 2) sc_rounds_table.nd rfl (by first | exact .inl rfl | exact .inr rfl) (pe_tup (pa_cons pe_bl (pa_cons (pe_tup (pa_cons pe_int pa_nil)) pa_nil))))
      (pss_cons (ps_set (i := 3) sc_rounds_table.nd rfl (by first | exact .inl rfl | exact .inr rfl) ((pe_disp1N (P := P) (w := w) (Nat.lt_of_le_of_lt (Nat.add_le_add_left (by decide) _) hr.units) rfl rfl (pv 2) pe_int)))
      (pss_cons (ps_set (i := 4) sc_rounds_table.nd rfl (by first | exact .inl rfl | exact .inr rfl) (pe_lst (pa_cons (pv 2) pa_nil)))
      (pss_cons (ps_set (i := 5) sc_rounds_table.nd rfl (by first | exact .inl rfl | exact .inr rfl) (pe_lst pa_nil))
      (pss_cut (ps_while PassesOwn.never (pt_cmpR op_lt (pe_callB call_len_seq (by rfl) m_len PySem.boot_len (pa_cons (pv 5) pa_nil)) (pe_callB call_len_seq (by rfl) m_len PySem.boot_len (pa_cons (pv 4) pa_nil)) (nomark _))
        (pss_cons (ps_set (i := 6) sc_rounds_table.nd rfl (by first | exact .inl rfl | exact .inr rfl) (pe_ix ix_tup (pe_ix ix_list (pv 4) (pe_callB call_len_seq (by rfl) m_len PySem.boot_len (pa_cons (pv 5) pa_nil)) (fun _ _ => rfl)) pe_int (fun _ _ => rfl)))
      (pss_cons (ps_set (i := 7) sc_rounds_table.nd rfl (by first | exact .inl rfl | exact .inr rfl) (pe_lst pa_nil))
      (pss_cut (ps_for PassesOwn.never rfl (pi_range1 (by rfl) m_range (pa_cons (pv 1) pa_nil)) (pg_name (i := 8) sc_rounds_table.nd rfl (by first | exact .inl rfl | exact .inr rfl))
        (pss_cons (ps_set (i := 9) sc_rounds_table.nd rfl (by first | exact .inl rfl | exact .inr rfl) (pe_cl c_after_step hr (by decide) (by rfl) (pa_cons (pe_fld (pv 0) rfl) (pa_cons (pv 6) (pa_cons (pv 8) pa_nil)))))
      (pss_cons (ps_set (i := 11) sc_rounds_table.nd rfl (by first | exact .inl rfl | exact .inr rfl) (pe_callB (cr_any rfl) (by rfl) m_any (by decide +kernel) (pa_cons (pe_lc (own := [("state", 10)]) (g := (gName 10)) (tt := tYes) (by rfl) sc_rounds_table.nd (pi_list (pv 9)) (blkOk_by (own := [("state", 10)]) (N := N_rounds_table) (sc := defScope s_rounds_table) (by decide +kernel)) (fun _ _ _ _ _ => (pg_name (i := 10) sc_rounds_table.nd rfl (by first | exact .inl rfl | exact .inr rfl))) (fun _ _ _ _ _ => pts_nil) (fun _ _ _ _ _ => (pe_cmpR (op_in_seq_K (K := K) rfl) (pv 10) (pe_fld_K (K := K) rfl (pv 0) rfl) (by rfl)))) pa_nil)))
      (pss_cons (ps_set (i := 12) sc_rounds_table.nd rfl (by first | exact .inl rfl | exact .inr rfl) (pe_tup (pa_cons (pv 11) (pa_cons (pe_cl c_with_start hr (by decide) (by rfl) (pa_cons (pv 9) (pa_cons (pv 11) pa_nil))) pa_nil))))
      (pss_cons (ps_if (pt_cmpR op_eq (pe_callB call_len_seq (by rfl) m_len PySem.boot_len (pa_cons (pv 9) pa_nil)) pe_int (nomark _)) (pss_cons (ps_expr (pe_bm PySem.F.plainAttrs_list PySem.F.slot_list_append PySem.F.type_list_append mt_append (pv 7) (pa_cons pe_non pa_nil)))
      (pss_one ps_continue)) pss_nil)
      (pss_cut (ps_if (pt_cmp (pc_dnotinN (P := P) (w := w) (Nat.lt_of_le_of_lt (Nat.add_le_add_left (by decide) _) hr.units) rfl rfl (pv 12) (pv 3)) (by rfl)) (pss_cons (ps_asg (pe_callB call_len_seq (by rfl) m_len PySem.boot_len (pa_cons (pv 4) pa_nil)) (pg_sub (pv 3) (pv 12) (set_dN (P := P) (w := w) (Nat.lt_of_le_of_lt (Nat.add_le_add_left (by decide) _) hr.units) rfl rfl)))
      (pss_one (ps_expr (pe_bm PySem.F.plainAttrs_list PySem.F.slot_list_append PySem.F.type_list_append mt_append (pv 4) (pa_cons (pv 12) pa_nil))))) pss_nil)
      (pss_one (ps_expr (pe_bm PySem.F.plainAttrs_list PySem.F.slot_list_append PySem.F.type_list_append mt_append (pv 7) (pa_cons (pe_dgetN (P := P) (w := w) (Nat.lt_of_le_of_lt (Nat.add_le_add_left (by decide) _) hr.units) rfl rfl (pv 3) (pv 12) (fun _ _ => rfl)) pa_nil))))))))))
      (pss_one (ps_expr (pe_bm PySem.F.plainAttrs_list PySem.F.slot_list_append PySem.F.type_list_append mt_append (pv 5) (pa_cons (pv 7) pa_nil))))))))
      (pss_one (ps_ret (pe_tup (pa_cons (pv 5) (pa_cons (pe_lc (own := [("at", 8), ("key", 12)]) (g := (gTup K 2 (gCons (gName 8) (gCons (gName 12) gNil)))) (by rfl) sc_rounds_table.nd (pi_enumM (by rfl) m_enumerate (pa_cons (pv 4) pa_nil)) (blkOk_by (own := [("at", 8), ("key", 12)]) (N := N_rounds_table) (sc := defScope s_rounds_table) (by decide +kernel)) (fun _ _ _ _ _ => (pg_tup rfl (pgs_cons (pg_name (i := 8) sc_rounds_table.nd rfl (by first | exact .inl rfl | exact .inr rfl)) (pgs_cons (pg_name (i := 12) sc_rounds_table.nd rfl (by first | exact .inl rfl | exact .inr rfl)) pgs_nil)))) (fun _ _ _ _ _ => (pts_one (pt_val (pe_ix (ix_tup_K (K := K) rfl) (pv 12) pe_int (fun _ _ => rfl))))) (fun _ _ _ _ _ => (pv 8))) pa_nil))))))))))), ?_⟩
    rw [show L2.start N_rounds_table [V.ref n1, .int (m : Int)] = [some (.ref n1), some (.int (m : Int)), none, none, none, none, none, none, none, none, none, none, none] from rfl]
    walk_at "go"
    refine ⟨r1, _, rfl, .inr hR1.sq, ?_⟩
    rw [List.length_map]
    walk_at "go"
    by_cases c1 : z1.length = 0
    · rw [show decide (V.int (z1.length : Int) = V.int 0) = true from decide_eq_true (by rw [c1]; rfl)]
      walk_at "go"
      intro N0 nN0
      generalize eH_ : upd H N0 _ = J0
      have s1 : Same H J0 := by rw [← eH_]; exact same_new nN0
      have eN0 : J0 N0 = some (.lst [.non]) := by rw [← eH_]; exact upd_same
      clear eH_
      walk_at "go"
      refine ⟨N0, _, _, rfl, rfl, eN0, by omega, by omega, ?_, ?_⟩
      · rw [Int.toNat_natCast, List.length_singleton, Nat.one_mul]
        exact szl (by omega)
      rw [flat_none]
      intro A0 nA0
      generalize eH_ : upd J0 A0 _ = J1
      have s2 : Same J0 J1 := by rw [← eH_]; exact same_new nA0
      have eA0 : J1 A0 = some (.lst (List.replicate m V.non)) := by rw [← eH_]; exact upd_same
      clear eH_
      walk_at "go"
      intro A1 nA1
      generalize eH_ : upd J1 A1 _ = J2
      have s3 : Same J1 J2 := by rw [← eH_]; exact same_new nA1
      have eA1 : J2 A1 = some (.lst [.ref A0]) := by rw [← eH_]; exact upd_same
      clear eH_
      walk_at "go"
      intro G0 nG0
      generalize eH_ : upd J2 G0 _ = J3
      have s4 : Same J2 J3 := by rw [← eH_]; exact same_new nG0
      have eG0 : J3 G0 = some (.lst [.int 0]) := by rw [← eH_]; exact upd_same
      clear eH_
      walk_at "go"
      intro T0 nT0
      generalize eH_ : upd J3 T0 _ = J4
      have s5 : Same J3 J4 := by rw [← eH_]; exact same_new nT0
      have eT0 : J4 T0 = some (.tup [.ref A1, .ref G0]) := by rw [← eH_]; exact upd_same
      clear eH_
      have z0 : tb z1 = [] := List.length_eq_zero_iff.mp (by omega)
      refine q T0 A1 G0 [(A0, List.replicate m none)] [0] J4 (s1.trans (s2.trans (s3.trans (s4.trans s5)))) eT0 ⟨(s4.trans s5) _ _ eA1, fun z m' => ?_⟩ (s5 _ _ eG0) ⟨fun r hr => ?_, fun r hr e he => ?_⟩ (fun s hs => ?_) ?_ fun w => ?_
      · rw [List.mem_singleton.mp m', List.map_replicate]
        exact (s3.trans (s4.trans s5)) _ _ eA0
      · rw [List.mem_singleton.mp hr, List.length_replicate]
      · rw [List.mem_singleton.mp hr] at he
        have := (List.mem_replicate.mp he).2
        cases this
      · rw [List.mem_singleton.mp hs]
        exact Nat.succ_pos 0
      · show 1 ≤ _
        have := Nat.pow_pos (n := (tb z1).length) (show 0 < 2 by decide)
        omega
      · rw [one_acc, stl_none]
        rintro w ⟨t, e, _⟩
        rw [z0, show Mc.st [] = none from rfl, rn_none] at e
        cases e
    rw [show decide (V.int (z1.length : Int) = V.int 0) = false from decide_eq_false (fun z => c1 (by injection z with z; omega))]
    walk_at "go"
    obtain ⟨sq0, hsq0⟩ : ∃ sq0 : Bool × List Nat, sq0 = (true, [0]) := ⟨_, rfl⟩
    intro St nSt
    generalize eH_ : upd H St _ = J
    have s1' : Same H J := by rw [← eH_]; exact same_new nSt
    have eSt : J St = some (.tup [.int 0]) := by rw [← eH_]; exact upd_same
    clear eH_
    walk_at "go"
    intro b0 nb0
    generalize eH_ : upd J b0 _ = J0b
    have s1b : Same J J0b := by rw [← eH_]; exact same_new nb0
    have eb0 : J0b b0 = some (.tup [.bl true, .ref St]) := by rw [← eH_]; exact upd_same
    clear eH_
    have tb0 : tupR J0b sq0 b0 := ⟨St, by rw [hsq0]; exact eb0, by rw [hsq0]; exact s1b _ _ eSt⟩
    have s1 := s1'.trans s1b
    clear eb0 eSt nb0 nSt s1' s1b
    walk_at "go"
    intro Nu nNu
    have sN := same_new (o := DNo P w Nu []) nNu
    have tb1 := tupR_k _ _ _ _ (.same sN) tb0
    walk_at "go"
    refine ⟨encR sq0, b0, 0, rfl, rfl, dn_new, tupR_n tb1, encR_depth _, ?_⟩
    have d1 := dn_disp (i := 0) (dn_new (P := P) (w := w) (H := J0b) (p := Nu)) (tupR_n tb1) (encR_depth _)
    have s2 : Same J0b (upd (upd J0b Nu (DNo P w Nu [])) Nu (DNo P w Nu [(encR sq0, b0, 0)])) := Z.Same.mut sN nNu
    generalize upd (upd J0b Nu (DNo P w Nu [])) Nu (DNo P w Nu [(encR sq0, b0, 0)]) = J1 at d1 s2
    walk_at "go"
    intro Pa nPa
    generalize eH_ : upd J1 Pa _ = J2
    have s3 : Same J1 J2 := by rw [← eH_]; exact same_new nPa
    have ePa : J2 Pa = some (.lst [.ref b0]) := by rw [← eH_]; exact upd_same
    clear eH_
    walk_at "go"
    intro Re nRe
    generalize eH_ : upd J2 Re _ = J3
    have s4 : Same J2 J3 := by rw [← eH_]; exact same_new nRe
    have eRe : J3 Re = some (.lst []) := by rw [← eH_]; exact upd_same
    clear eH_
    have PR : Pa ≠ Re := ne_of_none ePa nRe
    have s13 := s1.trans (s2.trans (s3.trans s4))
    have nNuH := none_of s1 nNu
    have nPaH := none_of (s1.trans s2) nPa
    have nReH := none_of (s1.trans (s2.trans s3)) nRe
    have pk0 : PK P w (rst (tb z1) g1) m sq0 (DR z1.length) tupR encR J3 Nu Pa Re [(sq0, b0)] [] [] := by
      refine ⟨d1.mono (s3.trans s4), s4 _ _ ePa, fun z hz => ?_, ⟨eRe, fun z m => absurd m (by simp)⟩, fun z m => absurd m (by simp), PR, Wl.start _ _ _, fun z hz => ?_⟩
      · rw [List.mem_singleton.mp hz]
        exact tupR_k _ _ _ _ (.same (s2.trans (s3.trans s4))) tb0
      · rw [List.mem_singleton.mp hz, hsq0]
        exact ⟨List.pairwise_singleton .., fun s hs => by rw [List.mem_singleton.mp hs]; omega⟩
    clear d1 s2 s3 s4 ePa eRe sN tb1 nPa nRe nNu tb0 s1
    obtain ⟨NN, hNN⟩ : ∃ NN, NN = 2 * 2 ^ z1.length := ⟨_, rfl⟩
    rw [lT1, ← hNN] at big q
    rw [lT1] at big2
    have few : ∀ {zs : List ((Bool × List Nat) × Addr)} {rows : Tbl} {line : List (Option Nat)}, Wl (rst (tb z1) g1) m sq0 (zs.map (·.1)) rows line → (∀ z ∈ zs, DR z1.length z.1) → zs.length ≤ NN := fun {zs rows line} wl hd => by
      have := few_R wl fun q hq => by
        obtain ⟨z, hz, rfl⟩ := List.mem_map.mp hq
        exact hd z hz
      rw [List.length_map, ← hNN] at this
      exact this
    dsimp only [List.set]
    refine ⟨fun σ' J => Same H J ∧ ∃ (zs : List ((Bool × List Nat) × Addr)) (zr : List (Addr × List (Option Nat))) (v6 v7 v8 v9 v11 v12 : Option V), PK P w (rst (tb z1) g1) m sq0 (DR z1.length) tupR encR J Nu Pa Re zs zr [] ∧ zr.length = zs.length ∧ σ' = [some (.ref n1), some (.int (m : Int)), some (.ref b0), some (.ref Nu), some (.ref Pa), some (.ref Re), v6, v7, v8, v9, none, v11, v12], ?_, ?_⟩
    · refine ⟨fun μ σ J => Same H J ∧ ∃ (zs : List ((Bool × List Nat) × Addr)) (zr : List (Addr × List (Option Nat))) (v6 v7 v8 v9 v11 v12 : Option V), PK P w (rst (tb z1) g1) m sq0 (DR z1.length) tupR encR J Nu Pa Re zs zr [] ∧ μ = NN - zr.length ∧ σ = [some (.ref n1), some (.int (m : Int)), some (.ref b0), some (.ref Nu), some (.ref Pa), some (.ref Re), v6, v7, v8, v9, none, v11, v12], ⟨_, s13, _, [], none, none, none, none, none, none, pk0, rfl, rfl⟩, ?_⟩
      rintro μ σ J ⟨s4, zs, zr, v6, v7, v8, v9, v11, v12, pk, rfl, rfl⟩
      have lzr : (tb zr).length = zr.length := List.length_map ..
      have lez := pk.wl.le
      rw [lzr, List.length_map] at lez
      have lzN := few pk.wl pk.dd
      walk_at "go"
      refine ⟨Re, _, rfl, .inl (SqL.of pk.tr.sq), ?_⟩
      rw [List.length_map]
      walk_at "go"
      refine ⟨Pa, _, rfl, .inl (SqL.of pk.pa), ?_⟩
      rw [List.length_map]
      walk_at "go"
      refine ite2 (fun e => ?_) (fun e => ?_)
      · have lt : zr.length < zs.length := by have := of_decide_eq_true e; omega
        refine ⟨fun σ' J' => Same H J' ∧ ∃ (zs : List ((Bool × List Nat) × Addr)) (zr' : List (Addr × List (Option Nat))) (v6 v7 v8 v9 v11 v12 : Option V), PK P w (rst (tb z1) g1) m sq0 (DR z1.length) tupR encR J' Nu Pa Re zs zr' [] ∧ zr'.length = zr.length + 1 ∧ σ' = [some (.ref n1), some (.int (m : Int)), some (.ref b0), some (.ref Nu), some (.ref Pa), some (.ref Re), v6, v7, v8, v9, none, v11, v12], ?_, ?_⟩
        · rintro σ' J' ⟨s5, zs', zr', v6, v7, v8, v9, v11, v12, e1, e2, rfl⟩
          exact ⟨_, by omega, s5, zs', zr', v6, v7, v8, v9, v11, v12, e1, rfl, rfl⟩
        obtain ⟨z0, hz0⟩ : ∃ z0, zs[zr.length]? = some z0 := ⟨_, List.getElem?_eq_getElem lt⟩
        obtain ⟨S0, tz0, tS0⟩ := pk.ka z0 (List.mem_of_getElem? hz0)
        have dz0 := pk.dd z0 (List.mem_of_getElem? hz0)
        walk_at "go"
        refine ⟨Re, _, rfl, .inl (SqL.of pk.tr.sq), ?_⟩
        rw [List.length_map]
        walk_at "go"
        refine ⟨Pa, _, _, _, rfl, rfl, SqL.of pk.pa, atI_nat (v := .ref z0.2) (by rw [List.getElem?_map, hz0]; rfl), ?_⟩
        walk_at "go"
        refine ⟨z0.2, _, _, _, rfl, rfl, SqT.of tz0, at_1, ?_⟩
        walk_at "go"
        intro Ln nLn
        generalize eH_ : upd J Ln _ = J1
        have s5 : Same J J1 := by rw [← eH_]; exact same_new nLn
        have eLn : J1 Ln = some (.lst (([] : List (Option Nat)).map eV)) := by rw [← eH_]; exact upd_same
        clear eH_
        have pk1 := pk.mono tupR_k s5
        have LP : Ln ≠ Pa := (ne_of_none pk.pa nLn).symm
        have LR : Ln ≠ Re := (ne_of_none pk.tr.sq nLn).symm
        have Lz : ∀ z ∈ zr, z.1 ≠ Ln := fun z hz => ne_of_none (pk.tr.at_ z hz) nLn
        have nLnH := none_of s4 nLn
        have s41 := s4.trans s5
        have tS1 := s5 _ _ tS0
        have ltN : zr.length < NN := by omega
        clear pk lzN e nLn s5 lez tz0 tS0
        dsimp only [List.set]
        refine ⟨fun σ' J' => Same H J' ∧ ∃ (zs : List ((Bool × List Nat) × Addr)) (line : List (Option Nat)) (v8 v9 v11 v12 : Option V), PK P w (rst (tb z1) g1) m sq0 (DR z1.length) tupR encR J' Nu Pa Re zs zr line ∧ J' Ln = some (.lst (line.map eV)) ∧ line.length = m ∧ zr.length < zs.length ∧ σ' = [some (.ref n1), some (.int (m : Int)), some (.ref b0), some (.ref Nu), some (.ref Pa), some (.ref Re), some (.ref S0), some (.ref Ln), v8, v9, none, v11, v12], ?_, ?_⟩
        · walk_at "go"
          refine for_gen (n := m) (fun k σ J' => Same H J' ∧ J' S0 = some (.tup (gsq z0.1.2)) ∧ ∃ (zs : List ((Bool × List Nat) × Addr)) (line : List (Option Nat)) (v8 v9 v11 v12 : Option V), PK P w (rst (tb z1) g1) m sq0 (DR z1.length) tupR encR J' Nu Pa Re zs zr line ∧ J' Ln = some (.lst (line.map eV)) ∧ line.length = k ∧ zs[zr.length]? = some z0 ∧ σ = [some (.ref n1), some (.int (m : Int)), some (.ref b0), some (.ref Nu), some (.ref Pa), some (.ref Re), some (.ref S0), some (.ref Ln), v8, v9, none, v11, v12]) ⟨s41, tS1, zs, [], v8, v9, v11, v12, pk1, eLn, rfl, hz0, rfl⟩ ?_ ?_ ?_ ?_
          · intro k σ J hk _
            show k < ((m : Int)).toNat
            omega
          · intro σ J _
            show ((m : Int)).toNat ≤ m
            omega
          · rintro k σ J x J' hk ⟨s6, tS, zs, line, v8, v9, v11, v12, pk, eL, ll, hz0, rfl⟩ ⟨rfl, rfl⟩
            rw [show (0 : Int) + (k : Int) = (k : Int) by omega]
            have hR1' := hR1.mono s6
            have en1' := s6 _ _ en1
            have hu1' := s6 _ _ hu1
            walk_at "go"
            refine ⟨false, r1, S0, z1, z0.1.2, m, k, rfl, hR1', w1, hk, SqT.of tS, dz0.2, Nat.le_trans (asc_len dz0.1 dz0.2) big2, fun L1 K1 sa nL1 eL1 => ?_⟩
            have en1k := sa _ _ en1'
            have hu1k := sa _ _ hu1'
            obtain ⟨U, hU⟩ : ∃ U, U = aft (tb z1) z0.1.2 k := ⟨_, rfl⟩
            have lU : U.length ≤ 1000000 := by rw [hU]; exact Nat.le_trans (asc_len (aft_asc ..) fun s hs => aft_lt hs) (by rw [lT1]; exact big2)
            rw [← hU] at eL1
            walk_at "go"
            refine ⟨⟨_, SqL.of eL1⟩, ?_⟩
            intro B nB
            refine lc_flt (n := U.length) (fun i => .int ((U.getD i 0 : Nat) : Int)) (fun _ => true) (fun i => .bl (decide (U.getD i 0 ∈ g1))) lU nB (fun i J3 hi s6 => ?_) (fun J3 s6 => ?_) (fun i J3 x J4 hi s6 y => ?_) (fun i => rfl) (fun i J3 Q2 hi s6 q2 => ?_) (fun i J3 Q2 hi _ s6 q2 => ?_) (fun K2 sB eB => ?_)
            · exact itq_go (b := true) (SqL.of (s6 _ _ eL1)) (x := .int ((U[i] : Nat) : Int)) (by unfold gsq; rw [List.getElem?_map, List.getElem?_eq_getElem hi]; rfl)
            · exact itq_stop (b := true) (SqL.of (s6 _ _ eL1)) (by unfold gsq; rw [List.length_map]; exact Nat.le_refl _)
            · obtain ⟨rfl, ex⟩ := itq_yld (b := true) (SqL.of (s6 _ _ eL1)) y
              unfold gsq at ex
              rw [List.getElem?_map, List.getElem?_eq_getElem hi] at ex
              cases ex
              exact ⟨Same.refl _, by rw [List.getD_eq_getElem?_getD, List.getElem?_eq_getElem hi]; rfl⟩
            · exact q2 _ (Same.refl _)
            · have en2k := s6 _ _ en1k
              walk_at "go"
              refine ⟨u1, _, rfl, .inr (SqT.of (s6 _ _ hu1k)), rfl, gsq_flat g1, ?_⟩
              rw [if_neg Bool.false_ne_true, inV_gsq]
              exact q2 _ (Same.refl _)
            rw [fltL_all, bl_map] at eB
            have eL12 := sB _ _ eL1
            walk_at "go"
            refine ⟨B, U.map fun s => decide (s ∈ g1), rfl, SqL.of eB, ?_⟩
            rw [show ((U.map fun s => decide (s ∈ g1)).any id) = U.any fun s => decide (s ∈ g1) by rw [List.any_map]; rfl]
            obtain ⟨bb, hbb⟩ : ∃ bb, bb = U.any fun s => decide (s ∈ g1) := ⟨_, rfl⟩
            rw [← hbb]
            walk_at "go"
            refine ⟨L1, U, bb, rfl, SqL.of eL12, lU, fun St K3 sb nSt eSt => ?_⟩
            walk_at "go"
            intro b nb
            generalize eH_ : upd K3 b _ = K4
            have sc : Same K3 K4 := by rw [← eH_]; exact same_new nb
            have eb : K4 b = some (.tup [.bl bb, .ref St]) := by rw [← eH_]; exact upd_same
            clear eH_
            have s7 := sa.trans (sB.trans (sb.trans sc))
            have eSt3 := sc _ _ eSt
            have eLf := (sb.trans sc) _ _ eL12
            obtain ⟨q', hq'⟩ : ∃ q' : Bool × List Nat, q' = (bb, wst U bb) := ⟨_, rfl⟩
            have teb2 : tupR K4 q' b := ⟨St, by rw [hq']; exact eb, by rw [hq']; exact eSt3⟩
            have pk2 := pk.mono tupR_k s7
            have eL2 := s7 _ _ eL
            have tS2 := s7 _ _ tS
            have s62 := s6.trans s7
            have hzk : (zs.map (·.1))[(tb zr).length]? = some z0.1 := by rw [lzr, List.getElem?_map, hz0]; rfl
            have lls : (line.map eV).length < sizeLine := by rw [List.length_map]; exact szC (by omega)
            clear pk eL s7 s6 hR1' en1' pk0 sa sb sc nb nSt nL1 eL1 eSt hu1' en1k tS hu1k sB eB nB eL12 eb eSt3
            have stp : rst (tb z1) g1 z0.1 line.length = if U = [] then none else some q' := by
              rw [hq', ll, hbb, hU]
              rfl
            dsimp only [List.set]
            walk_at "go"
            refine ⟨L1, _, rfl, .inl (SqL.of eLf), ?_⟩
            rw [show (gsq U).length = U.length from List.length_map ..]
            walk_at "go"
            by_cases ck : U = []
            · rw [if_pos ck] at stp
              rw [show decide (V.int (U.length : Int) = V.int 0) = true from decide_eq_true (by rw [ck]; rfl)]
              walk_at "go"
              refine ⟨.inl ⟨rfl, _, SqL.of eL2⟩, ?_⟩
              walk_at "go"
              refine ⟨Ln, _, _, rfl, rfl, eL2, lls, ?_⟩
              refine ⟨Z.Same.mut s62 nLnH, (TupK.lst eL2) _ _ tS2, zs, line ++ [none], _, _, _, _, (pk2.lst tupR_k eL2 LP LR Lz).wlc (pk2.wl.putNone hzk (by omega) stp), by rw [upd_same, List.map_append]; rfl, by rw [List.length_append, ll]; rfl, hz0, rfl⟩
            · rw [if_neg ck] at stp
              rw [show decide (V.int (U.length : Int) = V.int 0) = false from decide_eq_false (fun z => ck (List.length_eq_zero_iff.mp (by injection z with z; omega)))]
              walk_at "go"
              refine ⟨fun σ' J2 => Same H J2 ∧ J2 S0 = some (.tup (gsq z0.1.2)) ∧ ∃ (zs : List ((Bool × List Nat) × Addr)) (j : Nat) (z' : (Bool × List Nat) × Addr), PK P w (rst (tb z1) g1) m sq0 (DR z1.length) tupR encR J2 Nu Pa Re zs zr line ∧ zs[j]? = some z' ∧ z'.1 = q' ∧ J2 Ln = some (.lst (line.map eV)) ∧ tupR J2 q' b ∧ zs[zr.length]? = some z0 ∧ σ' = [some (.ref n1), some (.int (m : Int)), some (.ref b0), some (.ref Nu), some (.ref Pa), some (.ref Re), some (.ref S0), some (.ref Ln), some (.int (k : Int)), some (.ref L1), none, some (.bl bb), some (.ref b)], ?_, ?_⟩
              · walk_at "go"
                refine ⟨Nu, _, encR q', b, rfl, rfl, pk2.dn, tupR_n teb2, encR_depth _, ?_⟩
                by_cases hm : q' ∈ zs.map (·.1)
                · obtain ⟨j, z', hj, ez⟩ := mem_ex hm
                  have ea := kvz_at encR_inj 0 j zs z' pk2.wl.nd hj
                  rw [ez] at ea
                  rw [ea]
                  refine ⟨_, rfl, ite2 (fun e => absurd e Bool.false_ne_true) (fun _ => ?_)⟩
                  exact ⟨s62, tS2, zs, j, z', pk2, hj, ez, eL2, teb2, hz0, rfl⟩
                · have ea := kvz_none encR_inj 0 zs hm
                  have dq : DR z1.length q' := by
                    rw [hq', hU]
                    exact ⟨wst_asc (aft_asc ..), by rw [← lT1]; exact wst_lt (by omega) fun s hs => aft_lt hs⟩
                  have few1 := few pk2.wl pk2.dd
                  obtain ⟨e1, pk3⟩ := pk2.key tupR_k (b := b) teb2 (tupR_n teb2) (encR_depth _) (pk2.wl.ext (by rw [lzr, List.length_map]; exact (List.getElem?_eq_some_iff.mp hz0).1) hm) dq
                  rw [ea]
                  refine ⟨_, rfl, ite2 (fun _ => ?_) (fun e => absurd (show (!(none : Option Int).isSome) = true from rfl) e)⟩
                  walk_at "go"
                  refine ⟨Pa, _, rfl, .inl (SqL.of pk2.pa), ?_⟩
                  rw [List.length_map]
                  walk_at "go"
                  refine ⟨Nu, _, encR q', b, _, rfl, rfl, rfl, pk2.dn, tupR_n teb2, encR_depth _, ea, by rw [kvz_len]; exact szC (by omega), ?_⟩
                  walk_at "go"
                  refine ⟨.inl ⟨rfl, _, SqL.of e1⟩, ?_⟩
                  walk_at "go"
                  refine ⟨Pa, _, _, rfl, rfl, e1, by rw [List.length_map]; exact szC (by omega), ?_⟩
                  have eL3 : (upd (upd K4 Nu (DNo P w Nu (kvz encR 0 zs ++ [(encR q', b, (zs.length : Int))]))) Pa (.lst ((zs.map fun z => V.ref z.2) ++ [.ref b]))) Ln = some (.lst (line.map eV)) := by rw [upd_ne LP, upd_ne (pk2.nuP eL2)]; exact eL2
                  have tk3 := (TupK.dno (o := DNo P w Nu (kvz encR 0 zs ++ [(encR q', b, (zs.length : Int))])) pk2.dn.at_).trans (TupK.lst (o := .lst ((zs.map fun z => V.ref z.2) ++ [.ref b])) e1)
                  exact ⟨Z.Same.mut (Z.Same.mut s62 nNuH) nPaH, tk3 _ _ tS2, zs ++ [(q', b)], zs.length, (q', b), pk3, by rw [List.getElem?_append_right (Nat.le_refl _), Nat.sub_self]; rfl, rfl, eL3, tupR_k _ _ _ _ tk3 teb2, by rw [List.getElem?_append_left (List.getElem?_eq_some_iff.mp hz0).1]; exact hz0, rfl⟩
              rintro σ' J2 ⟨s8, tS3, zs2, j, z', pk3, hj, ez, eL3, teb3, hz2, rfl⟩
              walk_at "go"
              refine ⟨.inl ⟨rfl, _, SqL.of eL3⟩, ?_⟩
              have ea := kvz_at encR_inj 0 j zs2 z' pk3.wl.nd hj
              rw [ez, Nat.zero_add] at ea
              walk_at "go"
              refine ⟨Nu, _, encR q', b, _, rfl, rfl, pk3.dn, tupR_n teb3, encR_depth _, ea, ?_⟩
              walk_at "go"
              refine ⟨Ln, _, _, rfl, rfl, eL3, lls, ?_⟩
              refine ⟨Z.Same.mut s8 nLnH, (TupK.lst eL3) _ _ tS3, zs2, line ++ [some j], _, _, _, _, (pk3.lst tupR_k eL3 LP LR Lz).wlc (pk3.wl.putOld (q := z0.1) (q' := q') (by rw [lzr, List.getElem?_map, hz2]; rfl) (by omega) stp (by rw [List.getElem?_map, hj, ← ez]; rfl)), by rw [upd_same, List.map_append]; rfl, by rw [List.length_append, ll]; rfl, hz2, rfl⟩
          · rintro σ J ⟨s6, _, zs, line, v8, v9, v11, v12, pk, eL, ll, hz0, rfl⟩
            exact ⟨s6, zs, line, v8, v9, v11, v12, pk, eL, ll, (List.getElem?_eq_some_iff.mp hz0).1, rfl⟩
        rintro σ' J' ⟨s6, zs', line, v8, v9, v11, v12, pk, eL, ll, lt', rfl⟩
        walk_at "go"
        refine ⟨.inl ⟨rfl, _, SqL.of pk.tr.sq⟩, ?_⟩
        walk_at "go"
        refine ⟨Re, _, _, rfl, rfl, pk.tr.sq, by rw [List.length_map]; exact szC (by omega), ?_⟩
        exact ⟨Z.Same.mut s6 nReH, zs', zr ++ [(Ln, line)], _, _, _, _, _, _, pk.close tupR_k ll lt' eL LP LR, by rw [List.length_append]; rfl, rfl⟩
      · have le : zr.length = zs.length := by
          have : ¬ (zr.length : Int) < (zs.length : Int) := fun z => e (decide_eq_true z)
          omega
        exact ⟨s4, zs, zr, _, _, _, _, _, _, pk, le, rfl⟩
    rintro σ' J ⟨s4, zs, zr, v6, v7, v8, v9, v11, v12, pk, le, rfl⟩
    have lzN := few pk.wl pk.dd
    have lzr : (tb zr).length = zr.length := List.length_map ..
    clear pk0 hM few
    walk_at "go"
    refine ⟨true, _, _, rfl, SqL.of pk.pa, ?_⟩
    intro D nD
    refine lc_enumT (fun k => match (zs.map (·.1))[k]? with | some q => q.1 | none => false) (SqL.of pk.pa) (by rw [List.length_map]; omega) nD (fun k x => rfl) (fun k x J1 Q1 ex s5 q1 => ?_) (fun k x J1 Q1 ex s5 q1 => ?_) (fun J1 s5 eD => ?_)
    · rw [List.getElem?_map] at ex
      obtain ⟨z, ez, rfl⟩ := Option.map_eq_some_iff.mp ex
      obtain ⟨Sz, tz, tSz⟩ := tupR_k _ _ _ _ (.same s5) (pk.ka z (List.mem_of_getElem? ez))
      have eb : (match (zs.map (·.1))[k]? with | some q => q.1 | none => false) = z.1.1 := by rw [List.getElem?_map, ez]; rfl
      rw [eb] at q1
      walk_at "go"
      refine ⟨z.2, _, _, _, rfl, rfl, SqT.of tz, at_0, ?_⟩
      exact ⟨_, rfl, q1 _ (Same.refl _)⟩
    · walk_at "go"
      exact q1
    have pk5 := pk.mono tupR_k s5
    rw [List.length_map] at eD
    walk_at "go"
    intro T0 nT0
    generalize eH_ : upd J1 T0 _ = J2
    have s6 : Same J1 J2 := by rw [← eH_]; exact same_new nT0
    have eT0 : J2 T0 = some (.tup [.ref Re, .ref D]) := by rw [← eH_]; exact upd_same
    clear eH_
    have hz : (tb zr).length = (zs.map (·.1)).length := by rw [lzr, le, List.length_map]
    refine q T0 Re D zr _ J2 (s4.trans (s5.trans s6)) eT0 (pk5.tr.mono s6) (s6 _ _ eD) (pk.wl.wf hz) (fun s hs => by rw [le]; exact List.mem_range.mp (List.mem_filter.mp hs).1) (by omega) fun w => ?_
    have ca := rounds_acc (g := g1) w1 (by omega) w
    rw [← hsq0] at ca
    refine Iff.trans ?_ ca
    refine pk.wl.acc hz (Gd := fun q => q.1 = true) (fun j q hj => ?_) w
    unfold inG
    rw [List.mem_filter, List.mem_range, hj]
    constructor
    · rintro ⟨_, hg⟩
      exact hg
    · intro hg
      have := (List.getElem?_eq_some_iff.mp hj).1
      rw [List.length_map] at this
      exact ⟨this, hg⟩
end
end Z
set_option pp.maxSteps 700
set_option Elab.async false
set_option linter.all false
set_option maxRecDepth 100000
set_option maxHeartbeats 4000000
open SX (S S_inj S_len S_cat)
namespace Z
open Mc
open PySem PySem.Spec PyProof.Rows L2
open C8 (pss_cut tCut)
local macro_rules | `(tactic| walk_at "num") => `(tactic| first | rfl | omega | decide | exact Nat.le_of_lt (small1000 (by simp)) | exact ⟨by omega, by omega⟩ | exact ⟨by omega, by omega, by omega⟩ | exact ⟨by decide, by decide, by decide⟩ | exact Or.inl ⟨by omega, by omega⟩ | exact Or.inr ⟨by omega, by omega⟩)
local macro_rules | `(tactic| walk_at "go") => `(tactic| repeat (first | refine ⟨_, rfl, ?_⟩ | refine ⟨_, _, rfl, rfl, ?_⟩ | refine ⟨_, _, rfl, ?_⟩ | (refine ⟨_, _, rfl, rfl, ?_, ?_⟩; focus walk_at "num") | refine Or.inl ⟨_, rfl, ?_⟩ | refine ⟨_, _, _, _, rfl, rfl, (by assumption), (by rfl), ?_⟩ | refine ⟨_, _, _, _, _, rfl, (by assumption), (by assumption), (by assumption), (by rfl), ?_⟩ | refine ⟨rfl, ?_⟩ | (refine And.intro ?_ ?_; focus walk_at "num")))
abbrev s_Machine_check_alike : Stmt := inClass (topS 23) 1
abbrev N_Machine_check_alike : List Str := ["self", "other"]
abbrev P_Machine_check_alike : List Str := ["self", "other"]
theorem sc_Machine_check_alike : FnScope N_Machine_check_alike P_Machine_check_alike (defScope s_Machine_check_alike) := ⟨rfl, rfl, rfl, by decide +kernel, rfl, by decide +kernel, by decide +kernel⟩
abbrev s_Machine___and__ : Stmt := inClass (topS 23) 2
abbrev N_Machine___and__ : List Str := ["self", "other", "rows", "good"]
abbrev P_Machine___and__ : List Str := ["self", "other"]
theorem sc_Machine___and__ : FnScope N_Machine___and__ P_Machine___and__ (defScope s_Machine___and__) := ⟨rfl, rfl, rfl, by decide +kernel, rfl, by decide +kernel, by decide +kernel⟩
abbrev s_Machine___or__ : Stmt := inClass (topS 23) 3
abbrev N_Machine___or__ : List Str := ["self", "other", "rows", "good"]
abbrev P_Machine___or__ : List Str := ["self", "other"]
theorem sc_Machine___or__ : FnScope N_Machine___or__ P_Machine___or__ (defScope s_Machine___or__) := ⟨rfl, rfl, rfl, by decide +kernel, rfl, by decide +kernel, by decide +kernel⟩
abbrev s_Machine___sub__ : Stmt := inClass (topS 23) 4
abbrev N_Machine___sub__ : List Str := ["self", "other", "rows", "good"]
abbrev P_Machine___sub__ : List Str := ["self", "other"]
theorem sc_Machine___sub__ : FnScope N_Machine___sub__ P_Machine___sub__ (defScope s_Machine___sub__) := ⟨rfl, rfl, rfl, by decide +kernel, rfl, by decide +kernel, by decide +kernel⟩
abbrev s_Machine___invert__ : Stmt := inClass (topS 23) 5
abbrev N_Machine___invert__ : List Str := ["self", "rows", "good"]
abbrev P_Machine___invert__ : List Str := ["self"]
theorem sc_Machine___invert__ : FnScope N_Machine___invert__ P_Machine___invert__ (defScope s_Machine___invert__) := ⟨rfl, rfl, rfl, by decide +kernel, rfl, by decide +kernel, by decide +kernel⟩
abbrev s_Machine___rshift__ : Stmt := inClass (topS 23) 6
abbrev N_Machine___rshift__ : List Str := ["self", "other", "rows", "good"]
abbrev P_Machine___rshift__ : List Str := ["self", "other"]
theorem sc_Machine___rshift__ : FnScope N_Machine___rshift__ P_Machine___rshift__ (defScope s_Machine___rshift__) := ⟨rfl, rfl, rfl, by decide +kernel, rfl, by decide +kernel, by decide +kernel⟩
abbrev s_Machine_rounds : Stmt := inClass (topS 23) 14
abbrev N_Machine_rounds : List Str := ["self", "rows", "good"]
abbrev P_Machine_rounds : List Str := ["self"]
theorem sc_Machine_rounds : FnScope N_Machine_rounds P_Machine_rounds (defScope s_Machine_rounds) := ⟨rfl, rfl, rfl, by decide +kernel, rfl, by decide +kernel, by decide +kernel⟩
theorem pL_congr {L1 L2 M1 M2 : Lg} (h1 : ∀ w, L1 w ↔ M1 w) (h2 : ∀ w, L2 w ↔ M2 w) (md : Md) (w : List Nat) : pL L1 L2 md w ↔ pL M1 M2 md w := by
  cases md
  · exact and_congr (h1 w) (h2 w)
  · exact and_congr (h1 w) (not_congr (h2 w))
  · exact or_congr (h1 w) (h2 w)
theorem cat_congr {L1 L2 M1 M2 : Lg} (h1 : ∀ w, L1 w ↔ M1 w) (h2 : ∀ w, L2 w ↔ M2 w) (w : List Nat) : CatL L1 L2 w ↔ CatL M1 M2 w :=
  ⟨fun ⟨u, v, e, a, b⟩ => ⟨u, v, e, (h1 u).mp a, (h2 v).mp b⟩, fun ⟨u, v, e, a, b⟩ => ⟨u, v, e, (h1 u).mpr a, (h2 v).mpr b⟩⟩
theorem not_cong {m : Nat} {L M : Lg} (h : ∀ w, L w ↔ M w) (w : List Nat) : NotL m L w ↔ NotL m M w := and_congr Iff.rfl (not_congr (h w))
section
variable {P : Program} {w : World} {K : PySem.W.Frag} {mg : Str → Option Value} {base : Heap} {f C CL : Addr} {fd : FuncData}
theorem McL.le {H : Hp} {n : Addr} {l : List Nat} {sz sz' : Nat} {L : Lg} (e : sz ≤ sz') (h : McL C K H n l sz L) : McL C K H n l sz' L := by
  obtain ⟨R, g, T, G, h1, h2, hz, h3⟩ := h.ex
  exact ⟨R, g, T, G, h1, h2, Nat.le_trans hz e, h3⟩
def spAlike (C CL : Addr) (K : PySem.W.Frag) : Sp := fun vs H Q E => ∃ (n m : Addr) (l l' : List Nat) (dx dy r u r' u' : Addr), vs = [.ref n, .ref m] ∧ H n = some (.ins C dx (mF l r u)) ∧ H m = some (.ins C dy (mF l' r' u')) ∧ (l = l' → Q .non H) ∧ (l ≠ l' → ∀ H', Same H H' → E (.ref CL) none H')
theorem ok_alike (F : FnM K "check_alike" "Machine.check_alike" s_Machine_check_alike f fd) (cls : Cls K C) (n_letters : NoAttr K C "letters") (x0_LettersDiffer : Exn0 K mg "LettersDiffer" CL) : FnOk P w K mg base (L2N.CX P w) 1 f fd P_Machine_check_alike (spAlike C CL K) := by
  refine F.ok sc_Machine_check_alike (fun vs H Q E h => ?_) (fun cdv A outer s H vs Q E hr h => ?_)
  · obtain ⟨n, m, l, l', dx, dy, r, u, r', u', rfl, _⟩ := h
    rfl
  · obtain ⟨n, m, l, l', dx, dy, r, u, r', u', rfl, en, em, q1, q2⟩ := h
    have tk := takes_fn (P := P) (w := w) (K := K) (mg := mg) (base := base) (N := N_Machine_check_alike) (qual := "Machine.check_alike") (scope := defScope s_Machine_check_alike) (f := f) (cd := cdv) (A := A) (outer := outer) (s := s) (H := H) (E := E)
    refine ⟨_, (pss_one (ps_if (pt_cmpR op_ne (pe_fld (pv 0) rfl) (pe_fld (pv 1) rfl) (nomark _)) (pss_one (ps_ex0 rfl tk x0_LettersDiffer (by rfl))) pss_nil)), ?_⟩
    walk_at "go"
    by_cases c : l = l'
    · subst c
      rw [decide_eq_true (p := V.str (S l) = V.str (S l)) rfl]
      walk_at "go"
      exact q1 rfl
    · rw [decide_eq_false (fun z : V.str (S l) = V.str (S l') => c (S_inj (by injection z)))]
      walk_at "go"
      exact q2 c H (Same.refl _)
def spOp2 (sz : Nat → Nat → Nat) (op : Lg → Lg → Lg) (C CL : Addr) (K : PySem.W.Frag) : Sp := fun vs H Q E => ∃ (n m : Addr) (l l' : List Nat) (s1 s2 : Nat) (L1 L2 : Lg), vs = [.ref n, .ref m] ∧ McL C K H n l s1 L1 ∧ McL C K H m l' s2 L2 ∧ l.Nodup ∧ l ≠ [] ∧ l.length ≤ 1000 ∧ sz s1 s2 ≤ 1000000 ∧ s2 ≤ 1000000 ∧
  (l = l' → ∀ (n' : Addr) H', Same H H' → H n' = none → McL C K H' n' l (sz s1 s2) (op L1 L2) → Q (.ref n') H') ∧ (l ≠ l' → ∀ H', Same H H' → E (.ref CL) none H')
def szP (a b : Nat) : Nat := (a + 1) * (b + 1)
def szC2 (a b : Nat) : Nat := (a + 1) * 2 ^ b
theorem szP_mono {a b c d : Nat} (h1 : a ≤ c) (h2 : b ≤ d) : szP a b ≤ szP c d := Nat.mul_le_mul (Nat.succ_le_succ h1) (Nat.succ_le_succ h2)
theorem szC2_mono {a b c d : Nat} (h1 : a ≤ c) (h2 : b ≤ d) : szC2 a b ≤ szC2 c d := Nat.mul_le_mul (Nat.succ_le_succ h1) (Nat.pow_le_pow_right (by decide) h2)
theorem ok_and (F : FnM K "__and__" "Machine.__and__" s_Machine___and__ f fd) (m_len : mg "len" = none) (cls : Cls K C) (n_letters : NoAttr K C "letters") (me_check_alike : MetX P w K mg base 1 C "check_alike" (spAlike C CL K)) (c_pair_table : Cal P w K mg base 2 "pair_table" (spPair C K)) (k_Machine : Mak P w K mg base 4 "Machine" (spL3 C K)) : FnOk P w K mg base (L2N.CX P w) 6 f fd P_Machine___and__ (spOp2 szP (fun L1 L2 => pL L1 L2 .both) C CL K) := by
  refine F.ok sc_Machine___and__ (fun vs H Q E h => ?_) (fun cdv A outer s H vs Q E hr h => ?_)
  · obtain ⟨n, m, l, l', s1, s2, L1, L2, rfl, _⟩ := h
    rfl
  · obtain ⟨n, m, l, l', s1, s2, L1, L2, rfl, hM, hN, nd, ne, ll, big, _, q1, q2⟩ := h
    have tk := takes_fn (P := P) (w := w) (K := K) (mg := mg) (base := base) (N := N_Machine___and__) (qual := "Machine.__and__") (scope := defScope s_Machine___and__) (f := f) (cd := cdv) (A := A) (outer := outer) (s := s) (H := H) (E := E)
    obtain ⟨R1, g1, hA, z1, w1, gR1, _, e1⟩ := hM.at_
    obtain ⟨R2, g2, hB, z2, w2, gR2, _, e2⟩ := hN.at_
    obtain ⟨dx, r, u, en⟩ := hM.ins
    obtain ⟨dy, r', u', em⟩ := hN.ins
    refine ⟨_, (pss_cons (ps_expr (pe_meE me_check_alike (pv 0) (fun σ => L2N.passAt tk σ) hr (by decide) (pa_cons (pv 1) pa_nil)))
      (pss_cons (ps_asg (pe_cl c_pair_table hr (by decide) (by rfl) (pa_cons (pv 0) (pa_cons (pv 1) (pa_cons pe_str (pa_cons (pe_callB call_len_str (by rfl) m_len PySem.boot_len (pa_cons (pe_fld (pv 0) rfl) pa_nil)) pa_nil))))) (pg_tup rfl (pgs_cons (pg_name (i := 2) sc_Machine___and__.nd rfl (by first | exact .inl rfl | exact .inr rfl)) (pgs_cons (pg_name (i := 3) sc_Machine___and__.nd rfl (by first | exact .inl rfl | exact .inr rfl)) pgs_nil))))
      (pss_one (ps_ret (pe_mk k_Machine hr (by decide) (by rfl) (pa_cons (pe_fld (pv 0) rfl) (pa_cons (pv 2) (pa_cons (pv 3) pa_nil)))))))), ?_⟩
    walk_at "go"
    refine ⟨n, dx, _, rfl, en, rfl, ?_⟩
    walk_at "go"
    refine ⟨n, m, l, l', dx, dy, r, u, r', u', rfl, en, em, fun e => ?_, fun c H' s => q2 c H' s⟩
    subst e
    walk_at "go"
    refine ⟨by rw [S_len]; exact szl (by omega), ?_⟩
    rw [S_len]
    have szz : szP R1.length R2.length ≤ szP s1 s2 := szP_mono z1 z2
    walk_at "go"
    refine ⟨n, m, l, l, R1, R2, g1, g2, .both, l.length, rfl, hA, hB, w1, w2, ll, Nat.le_trans szz big, fun t A0 G0 zs gs H1 sa et tr eg wf gz lz ac => ?_⟩
    have en1 := sa _ _ en
    walk_at "go"
    refine ⟨t, _, rfl, SqT.of et, rfl, _, _, rfl, _, _, rfl, rfl, ?_⟩
    walk_at "go"
    refine ⟨true, true, A0, l, .ref G0, zs, gs, rfl, nd, ne, ll, tr.tb, wf, Nat.le_trans lz (Nat.le_trans szz big), ⟨.inr ⟨true, G0, rfl, SqL.of eg⟩, gz⟩, fun n' H2 sb nn hR => ?_⟩
    exact q1 rfl n' H2 (sa.trans sb) (none_of sa nn) ((hR.le (Nat.le_trans lz szz)).congr fun w => (ac w).trans (pL_congr e1 e2 _ w))
theorem ok_or (F : FnM K "__or__" "Machine.__or__" s_Machine___or__ f fd) (m_len : mg "len" = none) (cls : Cls K C) (n_letters : NoAttr K C "letters") (me_check_alike : MetX P w K mg base 1 C "check_alike" (spAlike C CL K)) (c_pair_table : Cal P w K mg base 2 "pair_table" (spPair C K)) (k_Machine : Mak P w K mg base 4 "Machine" (spL3 C K)) : FnOk P w K mg base (L2N.CX P w) 6 f fd P_Machine___or__ (spOp2 szP (fun L1 L2 => pL L1 L2 .either) C CL K) := by
  refine F.ok sc_Machine___or__ (fun vs H Q E h => ?_) (fun cdv A outer s H vs Q E hr h => ?_)
  · obtain ⟨n, m, l, l', s1, s2, L1, L2, rfl, _⟩ := h
    rfl
  · obtain ⟨n, m, l, l', s1, s2, L1, L2, rfl, hM, hN, nd, ne, ll, big, _, q1, q2⟩ := h
    have tk := takes_fn (P := P) (w := w) (K := K) (mg := mg) (base := base) (N := N_Machine___or__) (qual := "Machine.__or__") (scope := defScope s_Machine___or__) (f := f) (cd := cdv) (A := A) (outer := outer) (s := s) (H := H) (E := E)
    obtain ⟨R1, g1, hA, z1, w1, gR1, _, e1⟩ := hM.at_
    obtain ⟨R2, g2, hB, z2, w2, gR2, _, e2⟩ := hN.at_
    obtain ⟨dx, r, u, en⟩ := hM.ins
    obtain ⟨dy, r', u', em⟩ := hN.ins
    refine ⟨_, (pss_cons (ps_expr (pe_meE me_check_alike (pv 0) (fun σ => L2N.passAt tk σ) hr (by decide) (pa_cons (pv 1) pa_nil)))
      (pss_cons (ps_asg (pe_cl c_pair_table hr (by decide) (by rfl) (pa_cons (pv 0) (pa_cons (pv 1) (pa_cons pe_str (pa_cons (pe_callB call_len_str (by rfl) m_len PySem.boot_len (pa_cons (pe_fld (pv 0) rfl) pa_nil)) pa_nil))))) (pg_tup rfl (pgs_cons (pg_name (i := 2) sc_Machine___or__.nd rfl (by first | exact .inl rfl | exact .inr rfl)) (pgs_cons (pg_name (i := 3) sc_Machine___or__.nd rfl (by first | exact .inl rfl | exact .inr rfl)) pgs_nil))))
      (pss_one (ps_ret (pe_mk k_Machine hr (by decide) (by rfl) (pa_cons (pe_fld (pv 0) rfl) (pa_cons (pv 2) (pa_cons (pv 3) pa_nil)))))))), ?_⟩
    walk_at "go"
    refine ⟨n, dx, _, rfl, en, rfl, ?_⟩
    walk_at "go"
    refine ⟨n, m, l, l', dx, dy, r, u, r', u', rfl, en, em, fun e => ?_, fun c H' s => q2 c H' s⟩
    subst e
    walk_at "go"
    refine ⟨by rw [S_len]; exact szl (by omega), ?_⟩
    rw [S_len]
    have szz : szP R1.length R2.length ≤ szP s1 s2 := szP_mono z1 z2
    walk_at "go"
    refine ⟨n, m, l, l, R1, R2, g1, g2, .either, l.length, rfl, hA, hB, w1, w2, ll, Nat.le_trans szz big, fun t A0 G0 zs gs H1 sa et tr eg wf gz lz ac => ?_⟩
    have en1 := sa _ _ en
    walk_at "go"
    refine ⟨t, _, rfl, SqT.of et, rfl, _, _, rfl, _, _, rfl, rfl, ?_⟩
    walk_at "go"
    refine ⟨true, true, A0, l, .ref G0, zs, gs, rfl, nd, ne, ll, tr.tb, wf, Nat.le_trans lz (Nat.le_trans szz big), ⟨.inr ⟨true, G0, rfl, SqL.of eg⟩, gz⟩, fun n' H2 sb nn hR => ?_⟩
    exact q1 rfl n' H2 (sa.trans sb) (none_of sa nn) ((hR.le (Nat.le_trans lz szz)).congr fun w => (ac w).trans (pL_congr e1 e2 _ w))
theorem ok_sub (F : FnM K "__sub__" "Machine.__sub__" s_Machine___sub__ f fd) (m_len : mg "len" = none) (cls : Cls K C) (n_letters : NoAttr K C "letters") (me_check_alike : MetX P w K mg base 1 C "check_alike" (spAlike C CL K)) (c_pair_table : Cal P w K mg base 2 "pair_table" (spPair C K)) (k_Machine : Mak P w K mg base 4 "Machine" (spL3 C K)) : FnOk P w K mg base (L2N.CX P w) 6 f fd P_Machine___sub__ (spOp2 szP (fun L1 L2 => pL L1 L2 .one) C CL K) := by
  refine F.ok sc_Machine___sub__ (fun vs H Q E h => ?_) (fun cdv A outer s H vs Q E hr h => ?_)
  · obtain ⟨n, m, l, l', s1, s2, L1, L2, rfl, _⟩ := h
    rfl
  · obtain ⟨n, m, l, l', s1, s2, L1, L2, rfl, hM, hN, nd, ne, ll, big, _, q1, q2⟩ := h
    have tk := takes_fn (P := P) (w := w) (K := K) (mg := mg) (base := base) (N := N_Machine___sub__) (qual := "Machine.__sub__") (scope := defScope s_Machine___sub__) (f := f) (cd := cdv) (A := A) (outer := outer) (s := s) (H := H) (E := E)
    obtain ⟨R1, g1, hA, z1, w1, gR1, _, e1⟩ := hM.at_
    obtain ⟨R2, g2, hB, z2, w2, gR2, _, e2⟩ := hN.at_
    obtain ⟨dx, r, u, en⟩ := hM.ins
    obtain ⟨dy, r', u', em⟩ := hN.ins
    refine ⟨_, (pss_cons (ps_expr (pe_meE me_check_alike (pv 0) (fun σ => L2N.passAt tk σ) hr (by decide) (pa_cons (pv 1) pa_nil)))
      (pss_cons (ps_asg (pe_cl c_pair_table hr (by decide) (by rfl) (pa_cons (pv 0) (pa_cons (pv 1) (pa_cons pe_str (pa_cons (pe_callB call_len_str (by rfl) m_len PySem.boot_len (pa_cons (pe_fld (pv 0) rfl) pa_nil)) pa_nil))))) (pg_tup rfl (pgs_cons (pg_name (i := 2) sc_Machine___sub__.nd rfl (by first | exact .inl rfl | exact .inr rfl)) (pgs_cons (pg_name (i := 3) sc_Machine___sub__.nd rfl (by first | exact .inl rfl | exact .inr rfl)) pgs_nil))))
      (pss_one (ps_ret (pe_mk k_Machine hr (by decide) (by rfl) (pa_cons (pe_fld (pv 0) rfl) (pa_cons (pv 2) (pa_cons (pv 3) pa_nil)))))))), ?_⟩
    walk_at "go"
    refine ⟨n, dx, _, rfl, en, rfl, ?_⟩
    walk_at "go"
    refine ⟨n, m, l, l', dx, dy, r, u, r', u', rfl, en, em, fun e => ?_, fun c H' s => q2 c H' s⟩
    subst e
    walk_at "go"
    refine ⟨by rw [S_len]; exact szl (by omega), ?_⟩
    rw [S_len]
    have szz : szP R1.length R2.length ≤ szP s1 s2 := szP_mono z1 z2
    walk_at "go"
    refine ⟨n, m, l, l, R1, R2, g1, g2, .one, l.length, rfl, hA, hB, w1, w2, ll, Nat.le_trans szz big, fun t A0 G0 zs gs H1 sa et tr eg wf gz lz ac => ?_⟩
    have en1 := sa _ _ en
    walk_at "go"
    refine ⟨t, _, rfl, SqT.of et, rfl, _, _, rfl, _, _, rfl, rfl, ?_⟩
    walk_at "go"
    refine ⟨true, true, A0, l, .ref G0, zs, gs, rfl, nd, ne, ll, tr.tb, wf, Nat.le_trans lz (Nat.le_trans szz big), ⟨.inr ⟨true, G0, rfl, SqL.of eg⟩, gz⟩, fun n' H2 sb nn hR => ?_⟩
    exact q1 rfl n' H2 (sa.trans sb) (none_of sa nn) ((hR.le (Nat.le_trans lz szz)).congr fun w => (ac w).trans (pL_congr e1 e2 _ w))
theorem ok_rshift (F : FnM K "__rshift__" "Machine.__rshift__" s_Machine___rshift__ f fd) (m_len : mg "len" = none) (cls : Cls K C) (n_letters : NoAttr K C "letters") (me_check_alike : MetX P w K mg base 1 C "check_alike" (spAlike C CL K)) (c_chain_table : Cal P w K mg base 2 "chain_table" (spChain C K)) (k_Machine : Mak P w K mg base 4 "Machine" (spL3 C K)) : FnOk P w K mg base (L2N.CX P w) 6 f fd P_Machine___rshift__ (spOp2 szC2 CatL C CL K) := by
  refine F.ok sc_Machine___rshift__ (fun vs H Q E h => ?_) (fun cdv A outer s H vs Q E hr h => ?_)
  · obtain ⟨n, m, l, l', s1, s2, L1, L2, rfl, _⟩ := h
    rfl
  · obtain ⟨n, m, l, l', s1, s2, L1, L2, rfl, hM, hN, nd, ne, ll, big, big2, q1, q2⟩ := h
    have tk := takes_fn (P := P) (w := w) (K := K) (mg := mg) (base := base) (N := N_Machine___rshift__) (qual := "Machine.__rshift__") (scope := defScope s_Machine___rshift__) (f := f) (cd := cdv) (A := A) (outer := outer) (s := s) (H := H) (E := E)
    obtain ⟨R1, g1, hA, z1, w1, gR1, _, e1⟩ := hM.at_
    obtain ⟨R2, g2, hB, z2, w2, gR2, _, e2⟩ := hN.at_
    obtain ⟨dx, r, u, en⟩ := hM.ins
    obtain ⟨dy, r', u', em⟩ := hN.ins
    refine ⟨_, (pss_cons (ps_expr (pe_meE me_check_alike (pv 0) (fun σ => L2N.passAt tk σ) hr (by decide) (pa_cons (pv 1) pa_nil)))
      (pss_cons (ps_asg (pe_cl c_chain_table hr (by decide) (by rfl) (pa_cons (pv 0) (pa_cons (pv 1) (pa_cons (pe_callB call_len_str (by rfl) m_len PySem.boot_len (pa_cons (pe_fld (pv 0) rfl) pa_nil)) pa_nil)))) (pg_tup rfl (pgs_cons (pg_name (i := 2) sc_Machine___rshift__.nd rfl (by first | exact .inl rfl | exact .inr rfl)) (pgs_cons (pg_name (i := 3) sc_Machine___rshift__.nd rfl (by first | exact .inl rfl | exact .inr rfl)) pgs_nil))))
      (pss_one (ps_ret (pe_mk k_Machine hr (by decide) (by rfl) (pa_cons (pe_fld (pv 0) rfl) (pa_cons (pv 2) (pa_cons (pv 3) pa_nil)))))))), ?_⟩
    walk_at "go"
    refine ⟨n, dx, _, rfl, en, rfl, ?_⟩
    walk_at "go"
    refine ⟨n, m, l, l', dx, dy, r, u, r', u', rfl, en, em, fun e => ?_, fun c H' s => q2 c H' s⟩
    subst e
    walk_at "go"
    refine ⟨by rw [S_len]; exact szl (by omega), ?_⟩
    rw [S_len]
    have szz : szC2 R1.length R2.length ≤ szC2 s1 s2 := szC2_mono z1 z2
    walk_at "go"
    refine ⟨n, m, l, l, R1, R2, g1, g2, l.length, rfl, hA, hB, w1, w2, ll, Nat.le_trans szz big, Nat.le_trans z2 big2, fun t A0 G0 zs gs H1 sa et tr eg wf gz lz ac => ?_⟩
    have en1 := sa _ _ en
    walk_at "go"
    refine ⟨t, _, rfl, SqT.of et, rfl, _, _, rfl, _, _, rfl, rfl, ?_⟩
    walk_at "go"
    refine ⟨true, true, A0, l, .ref G0, zs, gs, rfl, nd, ne, ll, tr.tb, wf, Nat.le_trans lz (Nat.le_trans szz big), ⟨.inr ⟨true, G0, rfl, SqL.of eg⟩, gz⟩, fun n' H2 sb nn hR => ?_⟩
    exact q1 rfl n' H2 (sa.trans sb) (none_of sa nn) ((hR.le (Nat.le_trans lz szz)).congr fun w => (ac w).trans (cat_congr e1 e2 w))
def spOp1 (sz : Nat → Nat) (op : Nat → Lg → Lg) (C : Addr) (K : PySem.W.Frag) : Sp := fun vs H Q _ => ∃ (n : Addr) (l : List Nat) (s1 : Nat) (L1 : Lg), vs = [.ref n] ∧ McL C K H n l s1 L1 ∧ l.Nodup ∧ l ≠ [] ∧ l.length ≤ 1000 ∧ sz s1 ≤ 1000000 ∧ s1 ≤ 1000000 ∧
  ∀ (n' : Addr) H', Same H H' → H n' = none → McL C K H' n' l (sz s1) (op l.length L1) → Q (.ref n') H'
theorem ok_invert (F : FnM K "__invert__" "Machine.__invert__" s_Machine___invert__ f fd) (m_len : mg "len" = none) (cls : Cls K C) (n_letters : NoAttr K C "letters") (c_opposite_table : Cal P w K mg base 1 "opposite_table" (spOpp C K)) (k_Machine : Mak P w K mg base 4 "Machine" (spL3 C K)) : FnOk P w K mg base CX0 6 f fd P_Machine___invert__ (spOp1 (fun s => s + 1) NotL C K) := by
  refine F.ok sc_Machine___invert__ (fun vs H Q E h => ?_) (fun cdv A outer s H vs Q E hr h => ?_)
  · obtain ⟨n, l, s1, L1, rfl, _⟩ := h
    rfl
  · obtain ⟨n, l, s1, L1, rfl, hM, nd, ne, ll, big, _, q1⟩ := h
    obtain ⟨R1, g1, hA, z1, w1, gR1, _, e1⟩ := hM.at_
    obtain ⟨dx, r, u, en⟩ := hM.ins
    refine ⟨_, PSs.nox (pss_cons (ps_asg (pe_cl c_opposite_table hr (by decide) (by rfl) (pa_cons (pv 0) (pa_cons (pe_callB call_len_str (by rfl) m_len PySem.boot_len (pa_cons (pe_fld (pv 0) rfl) pa_nil)) pa_nil))) (pg_tup rfl (pgs_cons (pg_name (i := 1) sc_Machine___invert__.nd rfl (by first | exact .inl rfl | exact .inr rfl)) (pgs_cons (pg_name (i := 2) sc_Machine___invert__.nd rfl (by first | exact .inl rfl | exact .inr rfl)) pgs_nil))))
      (pss_one (ps_ret (pe_mk k_Machine hr (by decide) (by rfl) (pa_cons (pe_fld (pv 0) rfl) (pa_cons (pv 1) (pa_cons (pv 2) pa_nil))))))), ?_⟩
    walk_at "go"
    refine ⟨by rw [S_len]; exact szl (by omega), ?_⟩
    rw [S_len]
    have szz : R1.length + 1 ≤ s1 + 1 := Nat.succ_le_succ z1
    walk_at "go"
    refine ⟨n, l, R1, g1, l.length, rfl, hA, w1, gR1, ll, Nat.le_trans szz big, fun t A0 G0 zs gs H1 sa et tr eg wf gz lz ac => ?_⟩
    have en1 := sa _ _ en
    walk_at "go"
    refine ⟨t, _, rfl, SqT.of et, rfl, _, _, rfl, _, _, rfl, rfl, ?_⟩
    walk_at "go"
    refine ⟨true, true, A0, l, .ref G0, zs, gs, rfl, nd, ne, ll, tr.tb, wf, Nat.le_trans lz (Nat.le_trans szz big), ⟨.inr ⟨true, G0, rfl, SqL.of eg⟩, gz⟩, fun n' H2 sb nn hR => ?_⟩
    exact q1 n' H2 (sa.trans sb) (none_of sa nn) ((hR.le (Nat.le_trans lz szz)).congr fun w => (ac w).trans (not_cong e1 w))
theorem ok_rounds (F : FnM K "rounds" "Machine.rounds" s_Machine_rounds f fd) (m_len : mg "len" = none) (cls : Cls K C) (n_letters : NoAttr K C "letters") (c_rounds_table : Cal P w K mg base 2 "rounds_table" (spRnd C K)) (k_Machine : Mak P w K mg base 4 "Machine" (spL3 C K)) : FnOk P w K mg base CX0 6 f fd P_Machine_rounds (spOp1 (fun s => 2 * 2 ^ s) (fun _ => StL) C K) := by
  refine F.ok sc_Machine_rounds (fun vs H Q E h => ?_) (fun cdv A outer s H vs Q E hr h => ?_)
  · obtain ⟨n, l, s1, L1, rfl, _⟩ := h
    rfl
  · obtain ⟨n, l, s1, L1, rfl, hM, nd, ne, ll, big, big2, q1⟩ := h
    obtain ⟨R1, g1, hA, z1, w1, gR1, _, e1⟩ := hM.at_
    obtain ⟨dx, r, u, en⟩ := hM.ins
    refine ⟨_, PSs.nox (pss_cons (ps_asg (pe_cl c_rounds_table hr (by decide) (by rfl) (pa_cons (pv 0) (pa_cons (pe_callB call_len_str (by rfl) m_len PySem.boot_len (pa_cons (pe_fld (pv 0) rfl) pa_nil)) pa_nil))) (pg_tup rfl (pgs_cons (pg_name (i := 1) sc_Machine_rounds.nd rfl (by first | exact .inl rfl | exact .inr rfl)) (pgs_cons (pg_name (i := 2) sc_Machine_rounds.nd rfl (by first | exact .inl rfl | exact .inr rfl)) pgs_nil))))
      (pss_one (ps_ret (pe_mk k_Machine hr (by decide) (by rfl) (pa_cons (pe_fld (pv 0) rfl) (pa_cons (pv 1) (pa_cons (pv 2) pa_nil))))))), ?_⟩
    walk_at "go"
    refine ⟨by rw [S_len]; exact szl (by omega), ?_⟩
    rw [S_len]
    have szz : 2 * 2 ^ R1.length ≤ 2 * 2 ^ s1 := Nat.mul_le_mul_left _ (Nat.pow_le_pow_right (by decide) z1)
    walk_at "go"
    refine ⟨n, l, R1, g1, l.length, rfl, hA, w1, ll, Nat.le_trans szz big, Nat.le_trans z1 big2, fun t A0 G0 zs gs H1 sa et tr eg wf gz lz ac => ?_⟩
    have en1 := sa _ _ en
    walk_at "go"
    refine ⟨t, _, rfl, SqT.of et, rfl, _, _, rfl, _, _, rfl, rfl, ?_⟩
    walk_at "go"
    refine ⟨true, true, A0, l, .ref G0, zs, gs, rfl, nd, ne, ll, tr.tb, wf, Nat.le_trans lz (Nat.le_trans szz big), ⟨.inr ⟨true, G0, rfl, SqL.of eg⟩, gz⟩, fun n' H2 sb nn hR => ?_⟩
    exact q1 n' H2 (sa.trans sb) (none_of sa nn) ((hR.le (Nat.le_trans lz szz)).congr fun w => (ac w).trans (StL.congr e1 w))
end
end Z
set_option pp.maxSteps 700
set_option Elab.async false
set_option linter.all false
set_option maxRecDepth 100000
set_option maxHeartbeats 4000000
open SX (S S_inj S_len S_cat)
namespace Z
open Mc
open PySem PySem.Spec PyProof.Rows L2
open C8 (pss_cut tCut)
local macro_rules | `(tactic| walk_at "num") => `(tactic| first | rfl | omega | decide | exact Nat.le_of_lt (small1000 (by simp)) | exact ⟨by omega, by omega⟩ | exact ⟨by omega, by omega, by omega⟩ | exact ⟨by decide, by decide, by decide⟩ | exact Or.inl ⟨by omega, by omega⟩ | exact Or.inr ⟨by omega, by omega⟩)
local macro_rules | `(tactic| walk_at "go") => `(tactic| repeat (first | refine ⟨_, rfl, ?_⟩ | refine ⟨_, _, rfl, rfl, ?_⟩ | refine ⟨_, _, rfl, ?_⟩ | (refine ⟨_, _, rfl, rfl, ?_, ?_⟩; focus walk_at "num") | refine Or.inl ⟨_, rfl, ?_⟩ | refine ⟨_, _, _, _, rfl, rfl, (by assumption), (by rfl), ?_⟩ | refine ⟨_, _, _, _, _, rfl, (by assumption), (by assumption), (by assumption), (by rfl), ?_⟩ | refine ⟨rfl, ?_⟩ | (refine And.intro ?_ ?_; focus walk_at "num")))
abbrev s_accepts : Stmt := topS 32
abbrev N_accepts : List Str := ["_law_table_here", "_law_letters_here", "_law_text", "_law_state"]
abbrev P_accepts : List Str := ["_law_table_here", "_law_letters_here", "_law_text"]
theorem sc_accepts : FnScope N_accepts P_accepts (defScope s_accepts) := ⟨rfl, rfl, rfl, by decide +kernel, rfl, by decide +kernel, by decide +kernel⟩
abbrev s_longer : Stmt := topS 34
abbrev N_longer : List Str := ["_law_words", "_law_letters_here", "_law_longer_here", "_law_word_here", "_law_letter"]
abbrev P_longer : List Str := ["_law_words", "_law_letters_here"]
theorem sc_longer : FnScope N_longer P_longer (defScope s_longer) := ⟨rfl, rfl, rfl, by decide +kernel, rfl, by decide +kernel, by decide +kernel⟩
abbrev s_short : Stmt := topS 35
abbrev N_short : List Str := ["_law_letters_here", "_law_most", "_law_found", "_law_last", "_law_k"]
abbrev P_short : List Str := ["_law_letters_here", "_law_most"]
theorem sc_short : FnScope N_short P_short (defScope s_short) := ⟨rfl, rfl, rfl, by decide +kernel, rfl, by decide +kernel, by decide +kernel⟩
/-! ### the texts over some letters, by their length -/
def lng (ts : List (List Nat)) (l : List Nat) : List (List Nat) := ts.flatMap fun t => l.map fun c => t ++ [c]
def lnk (l : List Nat) : Nat → List (List Nat)
  | 0 => [[]]
  | k + 1 => lng (lnk l k) l
def sht (l : List Nat) : Nat → List (List Nat)
  | 0 => [[]]
  | k + 1 => sht l k ++ lnk l (k + 1)
theorem lng_len (l : List Nat) : ∀ ts : List (List Nat), (lng ts l).length = ts.length * l.length
  | [] => by rw [show lng [] l = [] from rfl]; simp
  | t :: ts => by
    have e : lng (t :: ts) l = (l.map fun c => t ++ [c]) ++ lng ts l := rfl
    rw [e, List.length_append, List.length_map, lng_len l ts, List.length_cons, Nat.succ_mul]
    omega
theorem lng_app (l : List Nat) (a b : List (List Nat)) : lng (a ++ b) l = lng a l ++ lng b l := List.flatMap_append ..
theorem lng_mem {l : List Nat} {ts : List (List Nat)} {c : Nat} (h : ∀ t ∈ ts, t.length = c) : ∀ t ∈ lng ts l, t.length = c + 1 := fun t ht => by
  obtain ⟨u, hu, ht⟩ := List.mem_flatMap.mp ht
  obtain ⟨x, _, rfl⟩ := List.mem_map.mp ht
  rw [List.length_append, h u hu]
  rfl
theorem lnk_len (l : List Nat) : ∀ k, (lnk l k).length = l.length ^ k
  | 0 => rfl
  | k + 1 => by
    show (lng (lnk l k) l).length = _
    rw [lng_len, lnk_len l k, Nat.pow_succ]
theorem lnk_mem (l : List Nat) : ∀ k, ∀ t ∈ lnk l k, t.length = k
  | 0, t, h => by rw [List.mem_singleton.mp h]; rfl
  | k + 1, t, h => lng_mem (lnk_mem l k) t h
theorem sht_mem (l : List Nat) : ∀ k, ∀ t ∈ sht l k, t.length ≤ k
  | 0, t, h => by rw [List.mem_singleton.mp h]; exact Nat.le_refl _
  | k + 1, t, h => by
    rcases List.mem_append.mp h with h | h
    · exact Nat.le_succ_of_le (sht_mem l k t h)
    · exact Nat.le_of_eq (lnk_mem l (k + 1) t h)
theorem sht_len {l : List Nat} (h : 0 < l.length) : ∀ k, (sht l k).length ≤ (k + 1) * l.length ^ k
  | 0 => by simp [sht]
  | k + 1 => by
    show (sht l k ++ lnk l (k + 1)).length ≤ _
    have := sht_len h k
    rw [List.length_append, lnk_len, Nat.succ_mul (k + 1)]
    have e : l.length ^ k ≤ l.length ^ (k + 1) := by rw [Nat.pow_succ]; exact Nat.le_mul_of_pos_right _ h
    have := Nat.mul_le_mul_left (k + 1) e
    omega
def txs (ts : List (List Nat)) : List V := ts.map fun t => .str (S t)
section
variable {P : Program} {w : World} {K : PySem.W.Frag} {mg : Str → Option Value} {base : Heap} {f : Addr} {fd : FuncData}
theorem idx_take {ix : Nat → Option Nat} {tx v : List Nat} (h : idx ix tx = some v) (j : Nat) : idx ix (tx.take j) = some (v.take j) := by
  have e := idx_app ix (tx.take j) (tx.drop j)
  rw [List.take_append_drop, h] at e
  cases h1 : idx ix (tx.take j) with
  | none => rw [h1] at e; cases e
  | some a =>
    cases h2 : idx ix (tx.drop j) with
    | none => rw [h1, h2] at e; cases e
    | some b =>
      rw [h1, h2] at e
      have e : some v = some (a ++ b) := e
      injection e with e
      have la := idx_len h1
      have lv := idx_len h
      rw [List.length_take] at la
      rw [e]
      congr 1
      by_cases c : j ≤ tx.length
      · rw [List.take_left' (by omega)]
      · have lb := idx_len h2
        rw [List.length_drop] at lb
        have : b = [] := List.length_eq_zero_iff.mp (by omega)
        rw [this, List.append_nil, List.take_of_length_le (by omega)]
def spAcc (K : PySem.W.Frag) : Sp := fun vs H Q _ => ∃ (t A g : Addr) (l tx : List Nat) (zs : List (Addr × List (Option Nat))) (gs : List Nat), vs = [.ref t, .str (S l), .str (S tx)] ∧ H t = some (.lst [.ref A, .ref g]) ∧ Tb true true K H A zs ∧ H g = some (.lst (gsq gs)) ∧ l.Nodup ∧ Wf (tb zs) l.length ∧ ∀ b : Bool, (b = true ↔ Txl (ixOf l) (AccS (tb zs) (inG gs)) tx) → Q (.bl b) H
theorem ok_accepts (F : FnP K "_law_accepts" s_accepts f fd) (c_read : Cal P w K mg base 1 "_law_read" (spRead K)) : FnOk P w K mg base CX0 2 f fd P_accepts (spAcc K) := by
  refine F.ok sc_accepts (fun vs H Q E h => ?_) (fun cdv A outer s H vs Q E hr h => ?_)
  · obtain ⟨t, A, g, l, tx, zs, gs, rfl, _⟩ := h
    rfl
  · obtain ⟨t, Ar, g, l, tx, zs, gs, rfl, et, hT, eg, nd, wf, q⟩ := h
    refine ⟨_, PSs.nox (pss_cons (ps_set (i := 3) sc_accepts.nd rfl (by first | exact .inl rfl | exact .inr rfl) (pe_cl c_read hr (by decide) (by rfl) (pa_cons (pe_ix ix_list (pv 0) pe_int (fun _ _ => rfl)) (pa_cons (pv 1) (pa_cons (pv 2) pa_nil)))))
      (pss_one (ps_ret (pe_and (pe_cmpR op_notN (pv 3) pe_non (nomark _)) (pe_one (pe_cmpR op_in_seq (pv 3) (pe_ix ix_list (pv 0) pe_int (fun _ _ => rfl)) (by rfl))))))), ?_⟩
    walk_at "go"
    refine ⟨t, _, _, _, rfl, rfl, SqL.of et, at_0, ?_⟩
    walk_at "go"
    refine ⟨true, true, Ar, l, tx, zs, rfl, hT, nd, wf, ?_⟩
    have key : ∀ b : Bool, (b = true ↔ ∃ j, rs (tb zs) (ixOf l) (Mc.st (tb zs)) tx = some j ∧ j ∈ gs) → Q (.bl b) H := fun b h => q b (h.trans txl_rs.symm)
    clear q
    cases e : rs (tb zs) (ixOf l) (Mc.st (tb zs)) tx with
    | none =>
      rw [e] at key
      walk_at "go"
      exact key false ⟨fun z => (by cases z), fun ⟨j, z, _⟩ => (by cases z)⟩
    | some j =>
      rw [e] at key
      dsimp only [eV]
      walk_at "go"
      refine ⟨t, _, _, _, rfl, rfl, SqL.of et, at_1, ?_⟩
      refine ⟨g, _, rfl, .inl (SqL.of eg), rfl, gsq_flat gs, ?_⟩
      rw [inV_gsq]
      exact key _ ⟨fun z => ⟨j, rfl, of_decide_eq_true z⟩, fun ⟨j', z, h⟩ => by cases z; exact decide_eq_true h⟩
def spLong (K : PySem.W.Frag) : Sp := fun vs H Q _ => ∃ (a : Addr) (c : Nat) (l : List Nat) (ts : List (List Nat)), vs = [.ref a, .str (S l)] ∧ SqL K H a (txs ts) ∧ (∀ t ∈ ts, t.length ≤ c) ∧ c ≤ 1000 ∧ ts.length * l.length ≤ 200000 ∧ ∀ (L : Addr) H', Same H H' → H L = none → H' L = some (.lst (txs (lng ts l))) → Q (.ref L) H'
theorem ok_longer (F : FnP K "_law_longer" s_longer f fd) : FnOk P w K mg base CX0 1 f fd P_longer (spLong K) := by
  refine F.ok sc_longer (fun vs H Q E h => ?_) (fun cdv A outer s H vs Q E hr h => ?_)
  · obtain ⟨a, c, l, ts, rfl, _⟩ := h
    rfl
  · obtain ⟨a, c, l, ts, rfl, hS, lt, c1, lm, q⟩ := h
    refine ⟨_, PSs.nox (pss_cons (ps_set (i := 2) sc_longer.nd rfl (by first | exact .inl rfl | exact .inr rfl) (pe_lst pa_nil))
      (pss_cons (ps_for PassesOwn.never rfl (pi_list (pv 0)) (pg_name (i := 3) sc_longer.nd rfl (by first | exact .inl rfl | exact .inr rfl))
        (pss_one (ps_for PassesOwn.never rfl (pi_str (pv 1)) (pg_name (i := 4) sc_longer.nd rfl (by first | exact .inl rfl | exact .inr rfl))
        (pss_one (ps_expr (pe_bm PySem.F.plainAttrs_list PySem.F.slot_list_append PySem.F.type_list_append mt_append (pv 2) (pa_cons (pe_op op_add_str (pv 3) (pv 4)) pa_nil)))))))
      (pss_one (ps_ret (pv 2))))), ?_⟩
    walk_at "go"
    intro L nL
    generalize eH_ : upd H L _ = H1
    have s1 : Same H H1 := by rw [← eH_]; exact same_new nL
    have eL : H1 L = some (.lst []) := by rw [← eH_]; exact upd_same
    clear eH_
    have nLH := nL
    walk_at "go"
    refine ⟨⟨_, s1.seq hS⟩, ?_⟩
    refine for_gen (n := ts.length) (fun k σ J => Same H J ∧ J L = some (.lst (txs (lng (ts.take k) l))) ∧ ∃ (v3 v4 : Option V), σ = [some (.ref a), some (.str (S l)), some (.ref L), v3, v4]) ⟨s1, eL, none, none, rfl⟩ ?_ ?_ ?_ ?_
    · rintro k σ J hk ⟨s2, _⟩
      exact ⟨_, _, s2.seq hS, by unfold txs; rw [List.getElem?_map, List.getElem?_eq_getElem hk]; rfl⟩
    · rintro σ J ⟨s2, _⟩
      exact ⟨_, s2.seq hS, by unfold txs; rw [List.length_map]; exact Nat.le_refl _⟩
    · rintro k σ J x J' hk ⟨s2, eL, v3, v4, rfl⟩ ⟨rfl, y⟩
      have y := y _ (s2.seq hS)
      unfold txs at y
      rw [List.getElem?_map, List.getElem?_eq_getElem hk] at y
      cases y
      have ltk := lt _ (List.getElem_mem hk)
      have tk : lng (ts.take (k + 1)) l = lng (ts.take k) l ++ l.map fun c => ts[k] ++ [c] := by
        rw [List.take_succ, List.getElem?_eq_getElem hk, lng_app]
        congr 1
        show (l.map fun c => ts[k] ++ [c]) ++ [] = _
        rw [List.append_nil]
      have lk : (lng (ts.take k) l).length = k * l.length := by rw [lng_len, List.length_take, Nat.min_eq_left (by omega)]
      have lk2 : (k + 1) * l.length ≤ 200000 := Nat.le_trans (Nat.mul_le_mul_right _ hk) lm
      rw [Nat.succ_mul] at lk2
      generalize ts[k] = t at ltk tk
      walk_at "go"
      refine for_gen (n := l.length) (fun j σ J => Same H J ∧ J L = some (.lst (txs (lng (ts.take k) l ++ (l.take j).map fun c => t ++ [c]))) ∧ ∃ v4 : Option V, σ = [some (.ref a), some (.str (S l)), some (.ref L), some (.str (S t)), v4]) ⟨s2, by simpa using eL, v4, rfl⟩ ?_ ?_ ?_ ?_
      · rintro j σ J hj _
        show j < (S l).cps.size
        simpa using hj
      · rintro σ J _
        show (S l).cps.size ≤ l.length
        simp
      · rintro j σ J x J2 hj ⟨s3, eL3, v4, rfl⟩ ⟨rfl, d, ed, rfl⟩
        have ed : l[j]? = some d := by simpa using ed
        walk_at "go"
        refine ⟨.inl ⟨rfl, _, SqL.of eL3⟩, ?_⟩
        walk_at "go"
        refine ⟨by rw [S_len]; exact szl (show t.length + 1 ≤ 2000 by omega), ?_⟩
        rw [show (⟨#[d]⟩ : Str) = S [d] from rfl, S_cat]
        refine ⟨L, _, _, rfl, rfl, eL3, ?_, ?_⟩
        · unfold txs
          rw [List.length_map, List.length_append, lk, List.length_map, List.length_take]
          exact szC (by omega)
        · refine ⟨Z.Same.mut s3 nLH, ?_, _, rfl⟩
          rw [upd_same, List.take_succ, ed]
          unfold txs
          simp
      · rintro σ J ⟨s3, eL3, v4, rfl⟩
        rw [List.take_length] at eL3
        exact ⟨s3, by rw [tk]; exact eL3, _, _, rfl⟩
    · rintro σ J ⟨s2, eL2, v3, v4, rfl⟩
      rw [List.take_length] at eL2
      walk_at "go"
      exact q L J s2 nLH eL2
def spShort (K : PySem.W.Frag) : Sp := fun vs H Q _ => ∃ (l : List Nat) (mo : Nat), vs = [.str (S l), .int (mo : Int)] ∧ 0 < l.length ∧ mo ≤ 1000 ∧ (mo + 1) * l.length ^ mo ≤ 200000 ∧ ∀ (L : Addr) H', Same H H' → H L = none → H' L = some (.lst (txs (sht l mo))) → Q (.ref L) H'
theorem ok_short (F : FnP K "_law_short" s_short f fd) (m_range : mg "range" = none) (c_longer : Cal P w K mg base 1 "_law_longer" (spLong K)) : FnOk P w K mg base CX0 2 f fd P_short (spShort K) := by
  refine F.ok sc_short (fun vs H Q E h => ?_) (fun cdv A outer s H vs Q E hr h => ?_)
  · obtain ⟨l, mo, rfl, _⟩ := h
    rfl
  · obtain ⟨l, mo, rfl, l0, mo1, lm, q⟩ := h
    refine ⟨_, PSs.nox (pss_cons (ps_set (i := 2) sc_short.nd rfl (by first | exact .inl rfl | exact .inr rfl) (pe_lst (pa_cons pe_str pa_nil)))
      (pss_cons (ps_set (i := 3) sc_short.nd rfl (by first | exact .inl rfl | exact .inr rfl) (pe_lst (pa_cons pe_str pa_nil)))
      (pss_cons (ps_for PassesOwn.never rfl (pi_range1 (by rfl) m_range (pa_cons (pv 1) pa_nil)) (pg_name (i := 4) sc_short.nd rfl (by first | exact .inl rfl | exact .inr rfl))
        (pss_cons (ps_set (i := 3) sc_short.nd rfl (by first | exact .inl rfl | exact .inr rfl) (pe_cl c_longer hr (by decide) (by rfl) (pa_cons (pv 3) (pa_cons (pv 0) pa_nil))))
      (pss_one (ps_set (i := 2) sc_short.nd rfl (by first | exact .inl rfl | exact .inr rfl) (pe_op op_cat (pv 2) (pv 3))))))
      (pss_one (ps_ret (pv 2)))))), ?_⟩
    walk_at "go"
    intro L1 nL1
    generalize eH_ : upd H L1 _ = H1
    have s1 : Same H H1 := by rw [← eH_]; exact same_new nL1
    have eL1 : H1 L1 = some (.lst (txs [[]])) := by rw [← eH_]; exact upd_same
    clear eH_
    walk_at "go"
    intro L2 nL2
    generalize eH_ : upd H1 L2 _ = H2
    have s2 : Same H1 H2 := by rw [← eH_]; exact same_new nL2
    have eL2 : H2 L2 = some (.lst (txs [[]])) := by rw [← eH_]; exact upd_same
    clear eH_
    have nL2 := none_of s1 nL2
    walk_at "go"
    refine for_gen (n := mo) (fun k σ J => Same H J ∧ ∃ (F B : Addr) (v4 : Option V), H F = none ∧ J F = some (.lst (txs (sht l k))) ∧ J B = some (.lst (txs (lnk l k))) ∧ σ = [some (.str (S l)), some (.int (mo : Int)), some (.ref F), some (.ref B), v4]) ⟨s1.trans s2, L1, L2, none, nL1, s2 _ _ eL1, eL2, rfl⟩ ?_ ?_ ?_ ?_
    · intro k σ J hk _
      show k < ((mo : Int)).toNat
      omega
    · intro σ J _
      show ((mo : Int)).toNat ≤ mo
      omega
    · rintro k σ J x J' hk ⟨s3, F, B, v4, nF, eF, eB, rfl⟩ ⟨rfl, rfl⟩
      have pw : (k + 1 + 1) * l.length ^ (k + 1) ≤ 200000 := by
        have e1 : l.length ^ (k + 1) ≤ l.length ^ mo := Nat.pow_le_pow_right l0 hk
        have := Nat.mul_le_mul (show k + 1 + 1 ≤ mo + 1 by omega) e1
        omega
      have p0 : 0 < l.length ^ (k + 1) := Nat.pow_pos l0
      have pk : l.length ^ k * l.length = l.length ^ (k + 1) := (Nat.pow_succ ..).symm
      have p1 : l.length ^ (k + 1) ≤ (k + 1 + 1) * l.length ^ (k + 1) := Nat.le_mul_of_pos_left _ (by omega)
      walk_at "go"
      refine ⟨B, k, l, lnk l k, rfl, SqL.of eB, fun t ht => Nat.le_of_eq (lnk_mem l k t ht), by omega, by rw [lnk_len, pk]; omega, fun L J2 s4 nL eL => ?_⟩
      have eF2 := s4 _ _ eF
      have ls := sht_len l0 k
      have lt := lnk_len l (k + 1)
      have ls2 : (sht l k).length + (lnk l (k + 1)).length ≤ 200000 := by
        have := sht_len l0 (k + 1)
        have e : (sht l (k + 1)).length = (sht l k).length + (lnk l (k + 1)).length := List.length_append
        omega
      walk_at "go"
      refine ⟨F, L, _, _, rfl, rfl, eF2, eL, by unfold txs; rw [List.length_map, List.length_map]; exact Nat.le_of_lt (szC (Nat.le_trans ls2 (by decide))), ?_⟩
      intro N nN
      have sN := same_new (o := .lst (txs (sht l k) ++ txs (lng (lnk l k) l))) nN
      exact ⟨s3.trans (s4.trans sN), N, L, _, none_of (s3.trans s4) nN, by rw [upd_same]; unfold txs; rw [← List.map_append]; rfl, sN _ _ eL, rfl⟩
    · rintro σ J ⟨s3, F, B, v4, nF, eF, eB, rfl⟩
      walk_at "go"
      exact q F J s3 nF eF
end
end Z
set_option pp.maxSteps 700
set_option Elab.async false
set_option linter.all false
set_option maxRecDepth 100000
set_option maxHeartbeats 4000000
open SX (S S_inj S_len S_cat)
namespace Z
open Mc
open PySem PySem.Spec PyProof.Rows L2
open C8 (pss_cut tCut)
local macro_rules | `(tactic| walk_at "num") => `(tactic| first | rfl | omega | decide | exact Nat.le_of_lt (small1000 (by simp)) | exact ⟨by omega, by omega⟩ | exact ⟨by omega, by omega, by omega⟩ | exact ⟨by decide, by decide, by decide⟩ | exact Or.inl ⟨by omega, by omega⟩ | exact Or.inr ⟨by omega, by omega⟩)
local macro_rules | `(tactic| walk_at "go") => `(tactic| repeat (first | refine ⟨_, rfl, ?_⟩ | refine ⟨_, _, rfl, rfl, ?_⟩ | refine ⟨_, _, rfl, ?_⟩ | (refine ⟨_, _, rfl, rfl, ?_, ?_⟩; focus walk_at "num") | refine Or.inl ⟨_, rfl, ?_⟩ | refine ⟨_, _, _, _, rfl, rfl, (by assumption), (by rfl), ?_⟩ | refine ⟨_, _, _, _, _, rfl, (by assumption), (by assumption), (by assumption), (by rfl), ?_⟩ | refine ⟨rfl, ?_⟩ | (refine And.intro ?_ ?_; focus walk_at "num")))
abbrev s_chained : Stmt := topS 37
abbrev N_chained : List Str := ["_law_one_here", "_law_other", "_law_letters_here", "_law_text", "_law_at"]
abbrev P_chained : List Str := ["_law_one_here", "_law_other", "_law_letters_here", "_law_text"]
theorem sc_chained : FnScope N_chained P_chained (defScope s_chained) := ⟨rfl, rfl, rfl, by decide +kernel, rfl, by decide +kernel, by decide +kernel⟩
abbrev s_in_pieces : Stmt := topS 38
abbrev N_in_pieces : List Str := ["_law_table_here", "_law_letters_here", "_law_text", "_law_reached", "_law_end", "_law_found", "_law_at"]
abbrev P_in_pieces : List Str := ["_law_table_here", "_law_letters_here", "_law_text"]
theorem sc_in_pieces : FnScope N_in_pieces P_in_pieces (defScope s_in_pieces) := ⟨rfl, rfl, rfl, by decide +kernel, rfl, by decide +kernel, by decide +kernel⟩
theorem slice_mid {a : List Nat} {i j : Nat} (h1 : i ≤ j) (h2 : j ≤ a.length) : Txt.slice (S a) (some (i : Int)) (some (j : Int)) = S ((a.drop i).take (j - i)) := by
  have hl : ((S a).length : Int) = (a.length : Int) := by rw [S_len]
  have e := beq_iff_eq.mp (PyProof.Rows.slice_closesL (x := S a) (i := (i : Int)) (j := (j : Int)) (by omega) (by omega) (by omega))
  refine e.trans (TL.ext_tl ?_)
  show (a.drop (i : Int).toNat).take ((j : Int) - (i : Int)).toNat = (a.drop i).take (j - i)
  rw [Int.toNat_natCast, show ((j : Int) - (i : Int)).toNat = j - i by omega]
theorem idx_drop {ix : Nat → Option Nat} {tx v : List Nat} (h : idx ix tx = some v) (j : Nat) : idx ix (tx.drop j) = some (v.drop j) := by
  have e := idx_app ix (tx.take j) (tx.drop j)
  rw [List.take_append_drop, h, idx_take h j] at e
  cases h2 : idx ix (tx.drop j) with
  | none => rw [h2] at e; cases e
  | some b =>
    rw [h2] at e
    have e : some v = some (v.take j ++ b) := e
    injection e with e
    have e2 : v.take j ++ v.drop j = v.take j ++ b := by rw [List.take_append_drop]; exact e
    rw [List.append_cancel_left e2]
theorem cat_text {ix : Nat → Option Nat} {L1 L2 : Lg} {tx : List Nat} : Txl ix (CatL L1 L2) tx ↔ ∃ k, k ≤ tx.length ∧ Txl ix L1 (tx.take k) ∧ Txl ix L2 (tx.drop k) := by
  constructor
  · rintro ⟨v, hv, u, v', rfl, h1, h2⟩
    have l := idx_len hv
    rw [List.length_append] at l
    refine ⟨u.length, by omega, ⟨u, ?_, h1⟩, ⟨v', ?_, h2⟩⟩
    · rw [idx_take hv, List.take_left]
    · rw [idx_drop hv, List.drop_left]
  · rintro ⟨k, _, ⟨u, e1, h1⟩, ⟨v, e2, h2⟩⟩
    refine ⟨u ++ v, ?_, u, v, rfl, h1, h2⟩
    rw [← List.take_append_drop k tx, idx_app, e1, e2]
theorem stl_text {ix : Nat → Option Nat} {L : Lg} {tx : List Nat} {e : Nat} (h0 : 0 < e) (he : e ≤ tx.length) : Txl ix (StL L) (tx.take e) ↔ ∃ k, k < e ∧ Txl ix (StL L) (tx.take k) ∧ Txl ix L ((tx.drop k).take (e - k)) := by
  constructor
  · rintro ⟨v, hv, s⟩
    have l := idx_len hv
    rw [List.length_take] at l
    rcases s.cases' with rfl | ⟨u, v', nv, rfl, h1, h2⟩
    · simp at l
      omega
    · rw [List.length_append] at l
      have lv : 0 < v'.length := List.length_pos_iff.mpr nv
      refine ⟨u.length, by omega, ⟨u, ?_, h1⟩, ⟨v', ?_, h2⟩⟩
      · have := idx_take hv u.length
        rwa [List.take_left, List.take_take, Nat.min_eq_left (by omega)] at this
      · have := idx_drop hv u.length
        rwa [List.drop_left, List.drop_take] at this
  · rintro ⟨k, hk, ⟨u, e1, h1⟩, ⟨v, e2, h2⟩⟩
    refine ⟨u ++ v, ?_, .snoc h1 h2⟩
    have e3 : tx.take e = tx.take k ++ (tx.drop k).take (e - k) := by
      rw [← List.take_append_drop k (tx.take e), List.take_take, Nat.min_eq_left (by omega), List.drop_take]
    rw [e3, idx_app, e1, e2]
theorem bls_app {n : Nat} {al : Nat → Bool} {b : Bool} : bls n al ++ [V.bl b] = bls (n + 1) fun i => if i = n then b else al i := by
  unfold bls
  rw [List.range_succ, List.map_append]
  congr 1
  · refine List.map_congr_left fun i hi => ?_
    have := List.mem_range.mp hi
    show V.bl (al i) = V.bl (if i = n then b else al i)
    rw [if_neg (by omega)]
  · simp
section
variable {P : Program} {w : World} {K : PySem.W.Frag} {mg : Str → Option Value} {base : Heap} {f : Addr} {fd : FuncData}
def spChd (K : PySem.W.Frag) : Sp := fun vs H Q _ => ∃ (t1 t2 A1 A2 g1 g2 : Addr) (l tx : List Nat) (z1 z2 : List (Addr × List (Option Nat))) (s1 s2 : List Nat), vs = [.ref t1, .ref t2, .str (S l), .str (S tx)] ∧ H t1 = some (.lst [.ref A1, .ref g1]) ∧ Tb true true K H A1 z1 ∧ H g1 = some (.lst (gsq s1)) ∧ H t2 = some (.lst [.ref A2, .ref g2]) ∧ Tb true true K H A2 z2 ∧ H g2 = some (.lst (gsq s2)) ∧ l.Nodup ∧ Wf (tb z1) l.length ∧ Wf (tb z2) l.length ∧ tx.length ≤ 1000 ∧ ∀ b : Bool, (b = true ↔ Txl (ixOf l) (CatL (AccS (tb z1) (inG s1)) (AccS (tb z2) (inG s2))) tx) → Q (.bl b) H
theorem ok_chained (F : FnP K "_law_chained" s_chained f fd) (m_len : mg "len" = none) (m_range : mg "range" = none) (c_accepts : Cal P w K mg base 2 "_law_accepts" (spAcc K)) : FnOk P w K mg base CX0 3 f fd P_chained (spChd K) := by
  refine F.ok sc_chained (fun vs H Q E h => ?_) (fun cdv A outer s H vs Q E hr h => ?_)
  · obtain ⟨t1, t2, A1, A2, g1, g2, l, tx, z1, z2, s1, s2, rfl, _⟩ := h
    rfl
  · obtain ⟨t1, t2, A1, A2, g1, g2, l, tx, z1, z2, s1, s2, rfl, et1, hT1, eg1, et2, hT2, eg2, nd, w1, w2, lx, q⟩ := h
    have key : ∀ b : Bool, (b = true ↔ ∃ k, k ≤ tx.length ∧ Txl (ixOf l) (AccS (tb z1) (inG s1)) (tx.take k) ∧ Txl (ixOf l) (AccS (tb z2) (inG s2)) (tx.drop k)) → Q (.bl b) H := fun b h => q b (h.trans cat_text.symm)
    clear q
    refine ⟨_, PSs.nox (pss_cons (ps_for PassesOwn.never rfl (pi_range1 (by rfl) m_range (pa_cons (pe_op op_add (pe_callB call_len_str (by rfl) m_len PySem.boot_len (pa_cons (pv 3) pa_nil)) pe_int) pa_nil)) (pg_name (i := 4) sc_chained.nd rfl (by first | exact .inl rfl | exact .inr rfl))
        (pss_one (ps_if (PW.pt (pw_and (pt_val (pe_cl c_accepts hr (by decide) (by rfl) (pa_cons (pv 0) (pa_cons (pv 2) (pa_cons (pe_slice C8.sl_txt (pv 3) po_none (po_some (pv 4))) pa_nil))))) (pw_and1 (pt_val (pe_cl c_accepts hr (by decide) (by rfl) (pa_cons (pv 1) (pa_cons (pv 2) (pa_cons (pe_slice C8.sl_txt (pv 3) (po_some (pv 4)) po_none) pa_nil)))))))) (pss_one (ps_ret pe_bl)) pss_nil)))
      (pss_one (ps_ret pe_bl))), ?_⟩
    have hlen : (S tx).length ≤ sizeLine := by rw [S_len]; exact szl (by omega)
    walk_at "go"
    rw [S_len]
    walk_at "go"
    refine for_gen (n := tx.length + 1) (fun k σ J => J = H ∧ (∀ i, i < k → ¬ (Txl (ixOf l) (AccS (tb z1) (inG s1)) (tx.take i) ∧ Txl (ixOf l) (AccS (tb z2) (inG s2)) (tx.drop i))) ∧ ∃ v4 : Option V, σ = [some (.ref t1), some (.ref t2), some (.str (S l)), some (.str (S tx)), v4]) ⟨rfl, fun i hi => absurd hi (Nat.not_lt_zero _), none, rfl⟩ ?_ ?_ ?_ ?_
    · intro k σ J hk _
      show k < ((tx.length : Int) + 1).toNat
      omega
    · intro σ J _
      show ((tx.length : Int) + 1).toNat ≤ tx.length + 1
      omega
    · rintro k σ J x J' hk ⟨rfl, ih, v4, rfl⟩ ⟨rfl, rfl⟩
      rw [show (0 : Int) + (k : Int) = (k : Int) by omega]
      walk_at "go"
      rw [SX.slice_to (by omega), Int.toNat_natCast]
      walk_at "go"
      refine ⟨t1, A1, g1, l, tx.take k, z1, s1, rfl, et1, hT1, eg1, nd, w1, fun b1 hb1 => ?_⟩
      cases b1 with
      | false =>
        walk_at "go"
        refine ⟨fun i hi => ?_, _, rfl⟩
        by_cases c : i = k
        · subst c
          exact fun z => Bool.false_ne_true (hb1.mpr z.1)
        · exact ih i (by omega)
      | true =>
        walk_at "go"
        rw [SX.slice_from (by omega), Int.toNat_natCast]
        walk_at "go"
        refine ⟨t2, A2, g2, l, tx.drop k, z2, s2, rfl, et2, hT2, eg2, nd, w2, fun b2 hb2 => ?_⟩
        cases b2 with
        | false =>
          walk_at "go"
          refine ⟨fun i hi => ?_, _, rfl⟩
          by_cases c : i = k
          · subst c
            exact fun z => Bool.false_ne_true (hb2.mpr z.2)
          · exact ih i (by omega)
        | true =>
          walk_at "go"
          exact key true ⟨fun _ => ⟨k, by omega, hb1.mp rfl, hb2.mp rfl⟩, fun _ => rfl⟩
    · rintro σ J ⟨rfl, ih, v4, rfl⟩
      walk_at "go"
      exact key false ⟨fun z => (by cases z), fun ⟨k, hk, z⟩ => absurd z (ih k (by omega))⟩
def spPcs (K : PySem.W.Frag) : Sp := fun vs H Q _ => ∃ (t1 A1 g1 : Addr) (l tx : List Nat) (z1 : List (Addr × List (Option Nat))) (s1 : List Nat), vs = [.ref t1, .str (S l), .str (S tx)] ∧ H t1 = some (.lst [.ref A1, .ref g1]) ∧ Tb true true K H A1 z1 ∧ H g1 = some (.lst (gsq s1)) ∧ l.Nodup ∧ Wf (tb z1) l.length ∧ tx.length ≤ 1000 ∧ ∀ (b : Bool) H', Same H H' → (b = true ↔ Txl (ixOf l) (StL (AccS (tb z1) (inG s1))) tx) → Q (.bl b) H'
theorem ok_in_pieces (F : FnP K "_law_in_pieces" s_in_pieces f fd) (m_len : mg "len" = none) (m_range : mg "range" = none) (c_accepts : Cal P w K mg base 2 "_law_accepts" (spAcc K)) : FnOk P w K mg base CX0 3 f fd P_in_pieces (spPcs K) := by
  refine F.ok sc_in_pieces (fun vs H Q E h => ?_) (fun cdv A outer s H vs Q E hr h => ?_)
  · obtain ⟨t1, A1, g1, l, tx, z1, s1, rfl, _⟩ := h
    rfl
  · obtain ⟨t1, A1, g1, l, tx, z1, s1, rfl, et1, hT1, eg1, nd, w1, lx, q⟩ := h
    refine ⟨_, PSs.nox (pss_cons (ps_set (i := 3) sc_in_pieces.nd rfl (by first | exact .inl rfl | exact .inr rfl) (pe_lst (pa_cons pe_bl pa_nil)))
      (pss_cons (ps_for PassesOwn.never rfl (pi_range2 (by rfl) m_range (pa_cons pe_int (pa_cons (pe_op op_add (pe_callB call_len_str (by rfl) m_len PySem.boot_len (pa_cons (pv 2) pa_nil)) pe_int) pa_nil))) (pg_name (i := 4) sc_in_pieces.nd rfl (by first | exact .inl rfl | exact .inr rfl))
        (pss_cons (ps_set (i := 5) sc_in_pieces.nd rfl (by first | exact .inl rfl | exact .inr rfl) pe_bl)
      (pss_cons (ps_for PassesOwn.never rfl (pi_range1 (by rfl) m_range (pa_cons (pv 4) pa_nil)) (pg_name (i := 6) sc_in_pieces.nd rfl (by first | exact .inl rfl | exact .inr rfl))
        (pss_one (ps_if (PW.pt (pw_and (pt_val (pe_ix ix_list (pv 3) (pv 6) (fun _ _ => rfl))) (pw_and1 (pt_val (pe_cl c_accepts hr (by decide) (by rfl) (pa_cons (pv 0) (pa_cons (pv 1) (pa_cons (pe_slice C8.sl_txt (pv 2) (po_some (pv 6)) (po_some (pv 4))) pa_nil)))))))) (pss_one (ps_set (i := 5) sc_in_pieces.nd rfl (by first | exact .inl rfl | exact .inr rfl) pe_bl)) pss_nil)))
      (pss_one (ps_expr (pe_bm PySem.F.plainAttrs_list PySem.F.slot_list_append PySem.F.type_list_append mt_append (pv 3) (pa_cons (pv 5) pa_nil)))))))
      (pss_one (ps_ret (pe_ix ix_list (pv 3) (pe_callB call_len_str (by rfl) m_len PySem.boot_len (pa_cons (pv 2) pa_nil)) (fun _ _ => rfl)))))), ?_⟩
    have hlen : (S tx).length ≤ sizeLine := by rw [S_len]; exact szl (by omega)
    obtain ⟨Re, hRe⟩ : ∃ Re : Nat → Prop, Re = fun e => Txl (ixOf l) (StL (AccS (tb z1) (inG s1))) (tx.take e) := ⟨_, rfl⟩
    have re0 : Re 0 := by rw [hRe]; exact ⟨[], rfl, .nil⟩
    have reS : ∀ e, 0 < e → e ≤ tx.length → (Re e ↔ ∃ k, k < e ∧ Re k ∧ Txl (ixOf l) (AccS (tb z1) (inG s1)) ((tx.drop k).take (e - k))) := fun e h0 he => by rw [hRe]; exact stl_text h0 he
    have reL : Re tx.length ↔ Txl (ixOf l) (StL (AccS (tb z1) (inG s1))) tx := by rw [hRe]; show Txl _ _ (tx.take tx.length) ↔ _; rw [List.take_length]
    clear hRe
    walk_at "go"
    intro Rr nRr
    generalize eH_ : upd H Rr _ = H1
    have s1' : Same H H1 := by rw [← eH_]; exact same_new nRr
    have eRr : H1 Rr = some (.lst [.bl true]) := by rw [← eH_]; exact upd_same
    clear eH_
    have nRH := nRr
    walk_at "go"
    rw [S_len]
    walk_at "go"
    refine for_gen (n := tx.length) (fun k σ J => Same H J ∧ ∃ (re : Nat → Bool) (v4 v5 v6 : Option V), (∀ i, i ≤ k → (re i = true ↔ Re i)) ∧ J Rr = some (.lst (bls (k + 1) re)) ∧ σ = [some (.ref t1), some (.str (S l)), some (.str (S tx)), some (.ref Rr), v4, v5, v6]) ⟨s1', fun _ => true, none, none, none, fun i hi => by rw [show i = 0 by omega]; exact ⟨fun _ => re0, fun _ => rfl⟩, eRr, rfl⟩ ?_ ?_ ?_ ?_
    · intro k σ J hk _
      show k < (((tx.length : Int) + 1) - 1).toNat
      omega
    · intro σ J _
      show (((tx.length : Int) + 1) - 1).toNat ≤ tx.length
      omega
    · rintro k σ J x J' hk ⟨s2, re, v4, v5, v6, hre, eR, rfl⟩ ⟨rfl, rfl⟩
      rw [show (1 : Int) + (k : Int) = ((k + 1 : Nat) : Int) by omega]
      walk_at "go"
      have nRJ := nRH
      refine for_gen (n := k + 1) (fun j σ J => J = J' ∧ ∃ (fo : Bool) (v6 : Option V), (fo = true ↔ ∃ i, i < j ∧ Re i ∧ Txl (ixOf l) (AccS (tb z1) (inG s1)) ((tx.drop i).take (k + 1 - i))) ∧ σ = [some (.ref t1), some (.str (S l)), some (.str (S tx)), some (.ref Rr), some (.int ((k + 1 : Nat) : Int)), some (.bl fo), v6]) ⟨rfl, false, v6, ⟨fun z => (by cases z), fun ⟨i, hi, _⟩ => absurd hi (Nat.not_lt_zero _)⟩, rfl⟩ ?_ ?_ ?_ ?_
      · intro j σ J hj _
        show j < (((k + 1 : Nat) : Int)).toNat
        omega
      · intro σ J _
        show (((k + 1 : Nat) : Int)).toNat ≤ k + 1
        omega
      · rintro j σ J x J2 hj ⟨rfl, fo, v6, hfo, rfl⟩ ⟨rfl, rfl⟩
        rw [show (0 : Int) + (j : Int) = (j : Int) by omega]
        have rj := hre j (by omega)
        walk_at "go"
        refine ⟨Rr, _, _, _, rfl, rfl, SqL.of eR, bls_at hj, ?_⟩
        have keep : ¬ (Re j ∧ Txl (ixOf l) (AccS (tb z1) (inG s1)) ((tx.drop j).take (k + 1 - j))) → (fo = true ↔ ∃ i, i < j + 1 ∧ Re i ∧ Txl (ixOf l) (AccS (tb z1) (inG s1)) ((tx.drop i).take (k + 1 - i))) := fun no => hfo.trans ⟨fun ⟨i, a, b⟩ => ⟨i, by omega, b⟩, fun ⟨i, a, b⟩ => by
          by_cases c : i = j
          · subst c
            exact absurd b no
          · exact ⟨i, by omega, b⟩⟩
        cases er : re j with
        | false =>
          walk_at "go"
          exact ⟨fo, _, keep fun z => (by rw [rj.mpr z.1] at er; cases er), rfl⟩
        | true =>
          walk_at "go"
          rw [slice_mid (by omega) (by omega)]
          walk_at "go"
          refine ⟨t1, A1, g1, l, (tx.drop j).take (k + 1 - j), z1, s1, rfl, s2 _ _ et1, hT1.mono s2, s2 _ _ eg1, nd, w1, fun b1 hb1 => ?_⟩
          cases b1 with
          | false =>
            walk_at "go"
            exact ⟨fo, _, keep fun z => Bool.false_ne_true (hb1.mpr z.2), rfl⟩
          | true =>
            walk_at "go"
            exact ⟨true, _, ⟨fun _ => ⟨j, Nat.lt_succ_self _, rj.mp er, hb1.mp rfl⟩, fun _ => rfl⟩, rfl⟩
      · rintro σ J ⟨rfl, fo, v6, hfo, rfl⟩
        walk_at "go"
        refine ⟨.inl ⟨rfl, _, SqL.of eR⟩, ?_⟩
        walk_at "go"
        refine ⟨Rr, _, _, rfl, rfl, eR, by rw [bls_len]; exact szC (by omega), ?_⟩
        refine ⟨Z.Same.mut s2 nRH, fun i => if i = k + 1 then fo else re i, _, _, _, fun i hi => ?_, by rw [upd_same, bls_app], rfl⟩
        by_cases c : i = k + 1
        · subst c
          simp only [if_true]
          exact hfo.trans (reS (k + 1) (by omega) (by omega)).symm
        · simp only [c, if_false]
          exact hre i (by omega)
    · rintro σ J ⟨s2, re, v4, v5, v6, hre, eR, rfl⟩
      walk_at "go"
      rw [S_len]
      refine ⟨Rr, _, _, _, rfl, rfl, SqL.of eR, bls_at (Nat.lt_succ_self _), ?_⟩
      exact q _ J s2 ((hre tx.length (Nat.le_refl _)).trans reL)
end
end Z
set_option pp.maxSteps 700
set_option Elab.async false
set_option linter.all false
set_option maxRecDepth 100000
set_option maxHeartbeats 4000000
open SX (S S_inj S_len S_cat)
namespace Z
open Mc
open PySem PySem.Spec PyProof.Rows L2
open C8 (pss_cut tCut)
local macro_rules | `(tactic| walk_at "num") => `(tactic| first | rfl | omega | decide | exact Nat.le_of_lt (small1000 (by simp)) | exact ⟨by omega, by omega⟩ | exact ⟨by omega, by omega, by omega⟩ | exact ⟨by decide, by decide, by decide⟩ | exact Or.inl ⟨by omega, by omega⟩ | exact Or.inr ⟨by omega, by omega⟩)
local macro_rules | `(tactic| walk_at "go") => `(tactic| repeat (first | refine ⟨_, rfl, ?_⟩ | refine ⟨_, _, rfl, rfl, ?_⟩ | refine ⟨_, _, rfl, ?_⟩ | (refine ⟨_, _, rfl, rfl, ?_, ?_⟩; focus walk_at "num") | refine Or.inl ⟨_, rfl, ?_⟩ | refine ⟨_, _, _, _, rfl, rfl, (by assumption), (by rfl), ?_⟩ | refine ⟨_, _, _, _, _, rfl, (by assumption), (by assumption), (by assumption), (by rfl), ?_⟩ | refine ⟨rfl, ?_⟩ | (refine And.intro ?_ ?_; focus walk_at "num")))
abbrev s_refused : Stmt := topS 36
abbrev N_refused : List Str := ["_law_a", "_law_c", "_law_sign", "_law_found", "e"]
abbrev P_refused : List Str := ["_law_a", "_law_c", "_law_sign"]
theorem sc_refused : FnScope N_refused P_refused (defScope s_refused) := ⟨rfl, rfl, rfl, by decide +kernel, rfl, by decide +kernel, by decide +kernel⟩
section
variable {P : Program} {w : World} {K : PySem.W.Frag} {mg : Str → Option Value} {base : Heap} {f C CL CH : Addr} {fd : FuncData}
def spRefd (C : Addr) (K : PySem.W.Frag) : Sp := fun vs H Q _ => ∃ (n m : Addr) (l l' : List Nat) (s1 s2 i : Nat) (L1 L2 : Lg), vs = [.ref n, .ref m, .int (i : Int)] ∧ McL C K H n l s1 L1 ∧ McL C K H m l' s2 L2 ∧ l ≠ l' ∧ l.Nodup ∧ l ≠ [] ∧ l.length ≤ 1000 ∧ s1 ≤ 10 ∧ s2 ≤ 10 ∧ ∀ H', Same H H' → Q (.bl true) H'
theorem ok_refused (F : FnP K "_law_refused" s_refused f fd) (m_isinstance : mg "isinstance" = none) (g_LettersDiffer : mg "LettersDiffer" = some (.ref CL)) (g_HouseError : mg "HouseError" = some (.ref CH)) (o_and : Bin2X P w K mg base 6 C .BitAnd (spOp2 szP (fun L1 L2 => pL L1 L2 .both) C CL K)) (o_or : Bin2X P w K mg base 6 C .BitOr (spOp2 szP (fun L1 L2 => pL L1 L2 .either) C CL K)) (o_sub : Bin2X P w K mg base 6 C .Sub (spOp2 szP (fun L1 L2 => pL L1 L2 .one) C CL K)) (o_rshift : Bin2X P w K mg base 6 C .RShift (spOp2 szC2 CatL C CL K)) (ecL : ExcC K CL) (teLL : PySem.W.exmOne K (.ref CL) (.ref CL) = some true) (kLH : PySem.W.kitOne K (.ref CL) (.ref CH) = some true) : FnOk P w K mg base CX0 7 f fd P_refused (spRefd C K) := by
  refine F.ok sc_refused (fun vs H Q E h => ?_) (fun cdv A outer s H vs Q E hr h => ?_)
  · obtain ⟨n, m, l, l', s1, s2, i, L1, L2, rfl, _⟩ := h
    rfl
  · obtain ⟨n, m, l, l', s1, s2, i, L1, L2, rfl, hM, hN, ne, nd, l0, ll, b1, b2, q⟩ := h
    refine ⟨_, PSs.nox (pss_cons (ps_set (i := 3) sc_refused.nd rfl (by first | exact .inl rfl | exact .inr rfl) pe_non)
      (pss_cons (L2N.ps_try_as (i := 4) rfl rfl sc_refused.nd rfl rfl ⟨rfl, rfl, .inl g_LettersDiffer⟩ takes0N (fun W pn xe tk po => (pss_one (ps_if (pt_cmpR op_eq (pv 2) pe_int (nomark _)) (pss_one (ps_set (i := 3) sc_refused.nd rfl (by first | exact .inl rfl | exact .inr rfl) (pe_op2E o_and (fun σ => L2N.passAt tk σ) hr (by decide) (pv 0) (pv 1)))) (pss_one (ps_if (pt_cmpR op_eq (pv 2) pe_int (nomark _)) (pss_one (ps_set (i := 3) sc_refused.nd rfl (by first | exact .inl rfl | exact .inr rfl) (pe_op2E o_or (fun σ => L2N.passAt tk σ) hr (by decide) (pv 0) (pv 1)))) (pss_one (ps_if (pt_cmpR op_eq (pv 2) pe_int (nomark _)) (pss_one (ps_set (i := 3) sc_refused.nd rfl (by first | exact .inl rfl | exact .inr rfl) (pe_op2E o_sub (fun σ => L2N.passAt tk σ) hr (by decide) (pv 0) (pv 1)))) (pss_one (ps_set (i := 3) sc_refused.nd rfl (by first | exact .inl rfl | exact .inr rfl) (pe_op2E o_rshift (fun σ => L2N.passAt tk σ) hr (by decide) (pv 0) (pv 1)))))))))))
      (fun ex oe cls d pn hzn hf => (pss_one (ps_ret (pe_and (pe_cmpR op_isN (pv 3) pe_non (nomark _)) (pe_one (pe_callB (call_is0 hzn.zc hf) (by rfl) m_isinstance (by decide +kernel) (pa_cons (pv 4) (pa_cons (pe_glob (by rfl) g_HouseError relv_ref) pa_nil)))))))))
      (pss_one (ps_ret pe_bl)))), ?_⟩
    obtain ⟨dx, r, u, en⟩ := hM.ins
    obtain ⟨dy, r', u', em⟩ := hN.ins
    have sz1 : szP s1 s2 ≤ 1000000 := Nat.le_trans (szP_mono b1 b2) (by decide)
    have sz2 : szC2 s1 s2 ≤ 1000000 := Nat.le_trans (szC2_mono b1 b2) (by decide)
    walk_at "go"
    by_cases c0 : i = 0
    · rw [show decide (V.int (i : Int) = V.int 0) = true from decide_eq_true (by rw [c0]; rfl)]
      walk_at "go"
      refine ⟨n, m, dx, dy, _, _, rfl, rfl, en, em, n, m, l, l', s1, s2, L1, L2, rfl, hM, hN, nd, l0, ll, sz1, by omega, fun e => absurd e ne, fun _ H1 sa => ?_⟩
      refine ⟨true, teLL, fun _ a' na => ?_, (fun z => by cases z)⟩
      walk_at "go"
      refine ⟨CL, .ref CH, .ref CH, true, rfl, rfl, ecL, rfl, (fun u z => by cases z; rfl), kLH, ?_⟩
      exact q _ sa
    rw [show decide (V.int (i : Int) = V.int 0) = false from decide_eq_false (fun z => c0 (by injection z with z; omega))]
    walk_at "go"
    by_cases c1 : i = 1
    · rw [show decide (V.int (i : Int) = V.int 1) = true from decide_eq_true (by rw [c1]; rfl)]
      walk_at "go"
      refine ⟨n, m, dx, dy, _, _, rfl, rfl, en, em, n, m, l, l', s1, s2, L1, L2, rfl, hM, hN, nd, l0, ll, sz1, by omega, fun e => absurd e ne, fun _ H1 sa => ?_⟩
      refine ⟨true, teLL, fun _ a' na => ?_, (fun z => by cases z)⟩
      walk_at "go"
      refine ⟨CL, .ref CH, .ref CH, true, rfl, rfl, ecL, rfl, (fun u z => by cases z; rfl), kLH, ?_⟩
      exact q _ sa
    rw [show decide (V.int (i : Int) = V.int 1) = false from decide_eq_false (fun z => c1 (by injection z with z; omega))]
    walk_at "go"
    by_cases c2 : i = 2
    · rw [show decide (V.int (i : Int) = V.int 2) = true from decide_eq_true (by rw [c2]; rfl)]
      walk_at "go"
      refine ⟨n, m, dx, dy, _, _, rfl, rfl, en, em, n, m, l, l', s1, s2, L1, L2, rfl, hM, hN, nd, l0, ll, sz1, by omega, fun e => absurd e ne, fun _ H1 sa => ?_⟩
      refine ⟨true, teLL, fun _ a' na => ?_, (fun z => by cases z)⟩
      walk_at "go"
      refine ⟨CL, .ref CH, .ref CH, true, rfl, rfl, ecL, rfl, (fun u z => by cases z; rfl), kLH, ?_⟩
      exact q _ sa
    rw [show decide (V.int (i : Int) = V.int 2) = false from decide_eq_false (fun z => c2 (by injection z with z; omega))]
    walk_at "go"
    refine ⟨n, m, dx, dy, _, _, rfl, rfl, en, em, n, m, l, l', s1, s2, L1, L2, rfl, hM, hN, nd, l0, ll, sz2, by omega, fun e => absurd e ne, fun _ H1 sa => ?_⟩
    refine ⟨true, teLL, fun _ a' na => ?_, (fun z => by cases z)⟩
    walk_at "go"
    refine ⟨CL, .ref CH, .ref CH, true, rfl, rfl, ecL, rfl, (fun u z => by cases z; rfl), kLH, ?_⟩
    exact q _ sa
end
end Z
set_option linter.all false
set_option maxRecDepth 100000
namespace Mc
/-! ### rings -/
def rgT (n m : Nat) : Tbl := (List.range n).map fun i => (List.range m).map fun j => some ((i + 1 + j) % n)
def tot (w : List Nat) : Nat := (w.map fun k => k + 1).sum
theorem rgT_len (n m : Nat) : (rgT n m).length = n := by unfold rgT; rw [List.length_map, List.length_range]
theorem rgT_nx {n m i j : Nat} (hi : i < n) (hj : j < m) : nx (rgT n m) i j = some ((i + 1 + j) % n) :=
  nx_at (r := (List.range m).map fun j => some ((i + 1 + j) % n)) (by unfold rgT; rw [List.getElem?_map, List.getElem?_range hi]; rfl) (by rw [List.getElem?_map, List.getElem?_range hj]; rfl)
theorem rgT_wf {n : Nat} (h : 0 < n) (m : Nat) : Wf (rgT n m) m := by
  refine ⟨fun r hr => ?_, fun r hr e he => ?_⟩
  · obtain ⟨i, _, rfl⟩ := List.mem_map.mp hr
    rw [List.length_map, List.length_range]
  · obtain ⟨i, _, rfl⟩ := List.mem_map.mp hr
    obtain ⟨j, _, h1⟩ := List.mem_map.mp he
    injection h1 with h1
    rw [rgT_len, ← h1]
    exact Nat.mod_lt _ h
theorem rgT_run {n m : Nat} (h : 0 < n) : ∀ (w : List Nat) (s : Nat), s < n → (∀ k ∈ w, k < m) → rn (rgT n m) (some s) w = some ((s + tot w) % n)
  | [], s, hs, _ => by
    show some s = some ((s + 0) % n)
    rw [Nat.add_zero, Nat.mod_eq_of_lt hs]
  | k :: w, s, hs, hw => by
    show rn (rgT n m) (nx (rgT n m) s k) w = _
    rw [rgT_nx hs (hw k List.mem_cons_self), rgT_run h w _ (Nat.mod_lt _ h) fun x hx => hw x (List.mem_cons_of_mem _ hx)]
    congr 1
    show ((s + 1 + k) % n + tot w) % n = (s + (k + 1 + tot w)) % n
    rw [Nat.mod_add_mod]
    congr 1
    omega
theorem rgT_acc {n m : Nat} {G : Nat → Prop} (h : 0 < n) (w : List Nat) : AccS (rgT n m) G w ↔ (∀ k ∈ w, k < m) ∧ G (tot w % n) := by
  have e0 : st (rgT n m) = some 0 := if_neg (by rw [rgT_len]; omega)
  constructor
  · rintro ⟨t, e, g⟩
    have hw := rn_letters (rgT_wf h m) e
    rw [e0, rgT_run h w 0 h hw, Nat.zero_add] at e
    injection e with e
    exact ⟨hw, e ▸ g⟩
  · rintro ⟨hw, g⟩
    exact ⟨_, by rw [e0, rgT_run h w 0 h hw, Nat.zero_add], g⟩
theorem tot_app (u v : List Nat) : tot (u ++ v) = tot u + tot v := by unfold tot; rw [List.map_append, List.sum_append]
theorem tot_zero : ∀ {w : List Nat}, (∀ k ∈ w, k < 1) → tot w = w.length
  | [], _ => rfl
  | k :: w, h => by
    have h1 := h k List.mem_cons_self
    have := tot_zero fun x hx => h x (List.mem_cons_of_mem _ hx)
    show k + 1 + tot w = w.length + 1
    omega
theorem zeros : ∀ {w : List Nat}, (∀ k ∈ w, k < 1) → w = List.replicate w.length 0
  | [], _ => rfl
  | k :: w, h => by
    have h1 := h k List.mem_cons_self
    rw [List.length_cons, List.replicate_succ, ← zeros fun x hx => h x (List.mem_cons_of_mem _ hx), show k = 0 by omega]
theorem rep_lt (n : Nat) : ∀ k ∈ List.replicate n 0, k < 1 := fun k hk => by rw [(List.mem_replicate.mp hk).2]; decide
/-- one letter: the chain -/
theorem ring_chain {n1 n2 n : Nat} {G1 G2 : Nat → Prop} (h1 : 0 < n1) (h2 : 0 < n2) : CatL (AccS (rgT n1 1) G1) (AccS (rgT n2 1) G2) (List.replicate n 0) ↔ ∃ k, k ≤ n ∧ G1 (k % n1) ∧ G2 ((n - k) % n2) := by
  constructor
  · rintro ⟨u, v, e, a, b⟩
    obtain ⟨a1, a2⟩ := (rgT_acc h1 u).mp a
    obtain ⟨b1, b2⟩ := (rgT_acc h2 v).mp b
    have l := congrArg List.length e
    rw [List.length_replicate, List.length_append] at l
    rw [tot_zero a1] at a2
    rw [tot_zero b1] at b2
    exact ⟨u.length, by omega, a2, by rw [show n - u.length = v.length by omega]; exact b2⟩
  · rintro ⟨k, hk, a, b⟩
    refine ⟨List.replicate k 0, List.replicate (n - k) 0, ?_, (rgT_acc h1 _).mpr ⟨rep_lt k, ?_⟩, (rgT_acc h2 _).mpr ⟨rep_lt _, ?_⟩⟩
    · rw [List.replicate_append_replicate]
      congr 1
      omega
    · rw [tot_zero (rep_lt k), List.length_replicate]
      exact a
    · rw [tot_zero (rep_lt _), List.length_replicate]
      exact b
/-- one letter: the rounds -/
theorem ring_rounds {n2 n la : Nat} (h2 : 0 < n2) (hl : la < n2) : StL (AccS (rgT n2 1) fun s => s = la) (List.replicate n 0) ↔ n = 0 ∨ ∃ k, 1 ≤ k ∧ k < n + 2 ∧ k * la ≤ n ∧ (n - k * la) % n2 = 0 := by
  have acc : ∀ v : List Nat, AccS (rgT n2 1) (fun s => s = la) v ↔ (∀ k ∈ v, k < 1) ∧ v.length % n2 = la := fun v => by
    rw [rgT_acc h2]
    exact ⟨fun ⟨a, b⟩ => ⟨a, by rw [← tot_zero a]; exact b⟩, fun ⟨a, b⟩ => ⟨a, by rw [tot_zero a]; exact b⟩⟩
  constructor
  · intro s
    have key : ∀ {w : List Nat}, StL (AccS (rgT n2 1) fun s => s = la) w → ∃ k j, w.length = k * la + n2 * j ∧ (k = 0 → w.length = 0) := by
      intro w s
      induction s with
      | nil => exact ⟨0, 0, by simp, fun _ => rfl⟩
      | @snoc u v hu hv ih =>
        obtain ⟨k, j, e, _⟩ := ih
        obtain ⟨_, b⟩ := (acc v).mp hv
        refine ⟨k + 1, j + v.length / n2, ?_, fun z => (by omega)⟩
        have d := Nat.div_add_mod v.length n2
        rw [b] at d
        rw [List.length_append, e, Nat.succ_mul, Nat.mul_add]
        omega
    obtain ⟨k, j, e, k0⟩ := key s
    rw [List.length_replicate] at e k0
    by_cases c : n = 0
    · exact .inl c
    · right
      by_cases cl : la = 0
      · subst cl
        refine ⟨1, Nat.le_refl _, by omega, by omega, ?_⟩
        rw [e]
        simp
      · have k1 : 1 ≤ k := Nat.pos_of_ne_zero fun z => c (k0 z)
        have le : k ≤ k * la := Nat.le_mul_of_pos_right _ (by omega)
        refine ⟨k, k1, by omega, by omega, ?_⟩
        rw [e, Nat.add_sub_cancel_left, Nat.mul_mod_right]
  · rintro (rfl | ⟨k, k1, _, h3, h4⟩)
    · exact .nil
    · obtain ⟨j, hj⟩ : ∃ j, n - k * la = n2 * j := ⟨(n - k * la) / n2, by have := Nat.div_add_mod (n - k * la) n2; omega⟩
      have key : ∀ k : Nat, StL (AccS (rgT n2 1) fun s => s = la) (List.replicate (n2 * j + la + k * la) 0) := by
        intro k
        induction k with
        | zero =>
          rw [Nat.zero_mul, Nat.add_zero]
          have := StL.snoc (L := AccS (rgT n2 1) fun s => s = la) (u := []) (v := List.replicate (n2 * j + la) 0) .nil ((acc _).mpr ⟨rep_lt _, by rw [List.length_replicate, Nat.mul_add_mod, Nat.mod_eq_of_lt hl]⟩)
          rwa [List.nil_append] at this
        | succ k ih =>
          have := StL.snoc (v := List.replicate la 0) ih ((acc _).mpr ⟨rep_lt _, by rw [List.length_replicate, Nat.mod_eq_of_lt hl]⟩)
          rw [List.replicate_append_replicate] at this
          rw [Nat.succ_mul, ← Nat.add_assoc]
          exact this
      obtain ⟨k', rfl⟩ : ∃ k', k = k' + 1 := ⟨k - 1, by omega⟩
      have := key k'
      rw [Nat.succ_mul] at h3 hj
      rwa [show n2 * j + la + k' * la = n by omega] at this
end Mc
set_option pp.maxSteps 700
set_option Elab.async false
set_option linter.all false
set_option maxRecDepth 100000
set_option maxHeartbeats 4000000
open SX (S S_inj S_len S_cat)
namespace Z
open Mc
open PySem PySem.Spec PyProof.Rows L2
open C8 (pss_cut tCut)
local macro_rules | `(tactic| walk_at "num") => `(tactic| first | rfl | omega | decide | exact Nat.le_of_lt (small1000 (by simp)) | exact ⟨by omega, by omega⟩ | exact ⟨by omega, by omega, by omega⟩ | exact ⟨by decide, by decide, by decide⟩ | exact Or.inl ⟨by omega, by omega⟩ | exact Or.inr ⟨by omega, by omega⟩)
local macro_rules | `(tactic| walk_at "go") => `(tactic| repeat (first | refine ⟨_, rfl, ?_⟩ | refine ⟨_, _, rfl, rfl, ?_⟩ | refine ⟨_, _, rfl, ?_⟩ | (refine ⟨_, _, rfl, rfl, ?_, ?_⟩; focus walk_at "num") | refine Or.inl ⟨_, rfl, ?_⟩ | refine ⟨_, _, _, _, rfl, rfl, (by assumption), (by rfl), ?_⟩ | refine ⟨_, _, _, _, _, rfl, (by assumption), (by assumption), (by assumption), (by rfl), ?_⟩ | refine ⟨rfl, ?_⟩ | (refine And.intro ?_ ?_; focus walk_at "num")))
abbrev s_rings_right : Stmt := topS 39
abbrev N_rings_right : List Str := ["_law_draws_here", "_law_one_here", "_law_other", "_law_good", "_law_last", "_law_state", "_law_a", "_law_b", "_law_found", "_law_total", "_law_text", "_law_k", "_law_first", "_law_second", "_law_machine", "_law_step", "_law_c", "_law_d", "_law_chain", "_law_rounds", "_law_n", "_law_cuts", "_law_pieces"]
abbrev P_rings_right : List Str := ["_law_draws_here"]
theorem sc_rings_right : FnScope N_rings_right P_rings_right (defScope s_rings_right) := ⟨rfl, rfl, rfl, by decide +kernel, rfl, by decide +kernel, by decide +kernel⟩
def rRepX : R2 := fun x y H Q => ∃ k : Nat, x = .str "x" ∧ y = .int (k : Int) ∧ k ≤ 100000 ∧ Q (.str (S (List.replicate k 120))) H
theorem op_repX {X : Cx} : OpR X (binaryOp .Mult) rRepX := by
  intro pins s σ H x y v u Q I rx ry h
  obtain ⟨k, rfl, rfl, h1, q⟩ := h
  have e : ∀ n : Nat, (List.replicate n [120]).flatten = List.replicate n 120 := by
    intro n
    induction n with
    | zero => rfl
    | succ n ih =>
      rw [List.replicate_succ, List.flatten_cons, ih, List.replicate_succ]
      rfl
  refine op_repS pins s σ H _ _ v u Q I rx ry ⟨[120], (k : Int), congrArg V.str (by decide +kernel), rfl, by omega, by omega, by decide, ?_⟩
  rw [Int.toNat_natCast, e]
  exact q
/-- rows made over a range -/
theorem lc_rowsR {n : Nat} (f : Nat → List (Option Nat)) {D : Addr} {H0 : Hp} {i : Nat} {te : TE} {vs : List Nat} {σ : L2.St} {Qd : Hp → Prop} (hn : n ≤ 1000000) (nD : H0 D = none) (hw : ∀ k : Nat, wipe ((wipe σ vs).set i (some (.int ((k : Nat) : Int)))) vs = wipe σ vs)
    (ht : ∀ (k : Nat) J (Q : VK), k < n → Same H0 J → (∀ l, J l = none → Q (.ref l) (upd J l (.lst ((f k).map eV)))) → te ((wipe σ vs).set i (some (.int ((k : Nat) : Int)))) J Q)
    (hd : ∀ J (zs : List (Addr × List (Option Nat))), Same H0 J → TbR J D zs → tb zs = (List.range n).map f → Qd J) : lcW (Itr 0 ((n : Int)).toNat) (gName i) tYes te vs σ D Qd H0 := by
  refine lc_gen (n := n) (fun k J => Same H0 J ∧ ∃ zs : List (Addr × List (Option Nat)), TbR J D zs ∧ (∀ z ∈ zs, z.1 ≠ D) ∧ tb zs = (List.range k).map f) ⟨same_new nD, [], ⟨upd_same, fun z m => absurd m (by simp)⟩, fun z m => absurd m (by simp), rfl⟩ ?_ ?_ ?_ ?_
  · intro k J hk _
    show k < ((n : Int)).toNat
    omega
  · intro J _
    show ((n : Int)).toNat ≤ n
    omega
  · rintro k J x J' hk ⟨s1, zs, tr, nz, et⟩ ⟨rfl, rfl⟩
    rw [show (0 : Int) + (k : Int) = (k : Int) by omega]
    refine ⟨hw k, ?_⟩
    dsimp only [tYes]
    rw [if_pos rfl]
    refine ht k J' _ hk s1 fun l nl => ?_
    have lD : D ≠ l := ne_of_none tr.sq nl
    have lz : zs.length = k := by
      have := congrArg List.length et
      unfold tb at this
      rwa [List.length_map, List.length_map, List.length_range] at this
    refine ⟨_, by rw [upd_ne lD]; exact tr.sq, by rw [List.length_map, lz]; exact szC (by omega), Z.Same.mut (s1.trans (same_new nl)) nD, zs ++ [(l, f k)], ⟨by rw [upd_same, List.map_append]; rfl, fun z h => ?_⟩, fun z h => ?_, ?_⟩
    · rcases List.mem_append.mp h with h | h
      · rw [upd_ne (nz z h), upd_ne (ne_of_none (tr.at_ z h) nl)]
        exact tr.at_ z h
      · rw [List.mem_singleton.mp h, upd_ne lD.symm, upd_same]
    · rcases List.mem_append.mp h with h | h
      · exact nz z h
      · rw [List.mem_singleton.mp h]
        exact lD.symm
    · unfold tb at et ⊢
      rw [List.map_append, et, List.range_succ, List.map_append]
      rfl
  · rintro J ⟨s1, zs, tr, nz, et⟩
    exact hd J zs s1 tr et
theorem flt_pos {kb : Nat → Bool} {g : Nat → V} {n : Nat} : 0 < (fltL kb g n).length ↔ ∃ k, k < n ∧ kb k = true := by
  unfold fltL
  rw [List.length_map]
  constructor
  · intro h
    obtain ⟨k, hk⟩ := List.exists_mem_of_length_pos h
    obtain ⟨a, b⟩ := List.mem_filter.mp hk
    exact ⟨k, List.mem_range.mp a, b⟩
  · rintro ⟨k, a, b⟩
    exact List.length_pos_of_mem (List.mem_filter.mpr ⟨List.mem_range.mpr a, b⟩)
theorem idx_x : ∀ n : Nat, idx (ixOf [120]) (List.replicate n 120) = some (List.replicate n 0)
  | 0 => rfl
  | n + 1 => by
    rw [List.replicate_succ]
    unfold idx
    rw [idx_x n]
    rfl
theorem modc (i j n : Nat) : ((i : Int) + (j : Int)) % (n : Int) = (((i + j) % n : Nat) : Int) := by
  rw [show (i : Int) + (j : Int) = ((i + j : Nat) : Int) by omega, ← Int.natCast_emod]
theorem idx_lt {l : List Nat} : ∀ {tx v : List Nat}, idx (ixOf l) tx = some v → ∀ k ∈ v, k < l.length
  | [], v, h => by
    cases h
    exact fun k hk => absurd hk List.not_mem_nil
  | c :: tx, v, h => by
    unfold idx at h
    split at h
    · next k v' h1 h2 =>
      injection h with h
      subst h
      intro x hx
      rcases List.mem_cons.mp hx with rfl | hx
      · exact (List.getElem?_eq_some_iff.mp (ixOf_some h1)).1
      · exact idx_lt h2 x hx
    · cases h
theorem txl_v {ix : Nat → Option Nat} {L : Lg} {tx v : List Nat} (h : idx ix tx = some v) : Txl ix L tx ↔ L v := ⟨fun ⟨u, e, a⟩ => (by rw [h] at e; injection e with e; rwa [e]), fun a => ⟨v, h, a⟩⟩
section
variable {P : Program} {w : World} {K : PySem.W.Frag} {mg : Str → Option Value} {base : Heap} {f C CL : Addr} {fd : FuncData}
theorem pick3 (r : Int) (a b c : Nat) : ∃ n : Nat, atI [V.int (a : Int), .int (b : Int), .int (c : Int)] (r % 3) = some (.int (n : Int)) ∧ (n = a ∨ n = b ∨ n = c) := by
  have h1 := Int.emod_nonneg r (show (3 : Int) ≠ 0 by decide)
  have h2 := Int.emod_lt_of_pos r (show (0 : Int) < 3 by decide)
  have : r % 3 = 0 ∨ r % 3 = 1 ∨ r % 3 = 2 := by omega
  rcases this with e | e | e <;> rw [e]
  · exact ⟨a, at_0, .inl rfl⟩
  · exact ⟨b, at_1, .inr (.inl rfl)⟩
  · exact ⟨c, at_2, .inr (.inr rfl)⟩
theorem dr_at {n : Nat} {ds : List Int} (h : Dr n ds) {i : Nat} (hi : i < n) : ∃ j, atI (ds.map V.int) (i : Int) = some (.int j) := by
  refine ⟨ds[i]'(by rw [h.1]; exact hi), atI_nat ?_⟩
  rw [List.getElem?_map, List.getElem?_eq_getElem (by rw [h.1]; exact hi)]
  rfl
def spRings (K : PySem.W.Frag) : Sp := fun vs H Q _ => ∃ (d : Addr) (ds : List Int), vs = [.ref d] ∧ SqL K H d (ds.map V.int) ∧ Dr 40 ds ∧ ∀ H', Same H H' → Q (.bl true) H'
theorem ok_rings_right (F : FnP K "_law_rings_right" s_rings_right f fd) (m_int : mg "int" = none) (m_len : mg "len" = none) (m_range : mg "range" = none) (in_Machine : InO P w K mg base 2 C (spInL C K)) (k_Machine : Mak P w K mg base 4 "Machine" (spL3 C K)) (o_and : Bin2X P w K mg base 6 C .BitAnd (spOp2 szP (fun L1 L2 => pL L1 L2 .both) C CL K)) (o_or : Bin2X P w K mg base 6 C .BitOr (spOp2 szP (fun L1 L2 => pL L1 L2 .either) C CL K)) (o_sub : Bin2X P w K mg base 6 C .Sub (spOp2 szP (fun L1 L2 => pL L1 L2 .one) C CL K)) (o_rshift : Bin2X P w K mg base 6 C .RShift (spOp2 szC2 CatL C CL K)) (o_invert : Un1 P w K mg base 6 C (spOp1 (fun s => s + 1) NotL C K)) (me_rounds : Met P w K mg base 6 C "rounds" (spOp1 (fun s => 2 * 2 ^ s) (fun _ => StL) C K)) : FnOk P w K mg base CX0 7 f fd P_rings_right (spRings K) := by
  refine F.ok sc_rings_right (fun vs H Q E h => ?_) (fun cdv A outer s H vs Q E hr h => ?_)
  · obtain ⟨d, ds, rfl, _⟩ := h
    rfl
  · obtain ⟨d, ds, rfl, hS, dr, q⟩ := h
    refine ⟨_, PSs.nox (pss_cons (ps_set (i := 1) sc_rings_right.nd rfl (by first | exact .inl rfl | exact .inr rfl) (pe_ix ix_list (pe_lst (pa_cons pe_int (pa_cons pe_int (pa_cons pe_int pa_nil)))) (pe_op op_mod (pe_callTy call_int1 (by rfl) m_int (by decide +kernel) (pa_cons (pe_ix ix_list (pv 0) pe_int (fun _ _ => rfl)) pa_nil)) pe_int) (fun _ _ => rfl)))
      (pss_cons (ps_set (i := 2) sc_rings_right.nd rfl (by first | exact .inl rfl | exact .inr rfl) (pe_ix ix_list (pe_lst (pa_cons pe_int (pa_cons pe_int (pa_cons pe_int pa_nil)))) (pe_op op_mod (pe_callTy call_int1 (by rfl) m_int (by decide +kernel) (pa_cons (pe_ix ix_list (pv 0) pe_int (fun _ _ => rfl)) pa_nil)) pe_int) (fun _ _ => rfl)))
      (pss_cons (ps_set (i := 3) sc_rings_right.nd rfl (by first | exact .inl rfl | exact .inr rfl) (pe_lst (pa_cons (pe_op op_mod (pe_callTy call_int1 (by rfl) m_int (by decide +kernel) (pa_cons (pe_ix ix_list (pv 0) pe_int (fun _ _ => rfl)) pa_nil)) (pv 1)) (pa_cons (pe_op op_mod (pe_callTy call_int1 (by rfl) m_int (by decide +kernel) (pa_cons (pe_ix ix_list (pv 0) pe_int (fun _ _ => rfl)) pa_nil)) (pv 1)) pa_nil))))
      (pss_cons (ps_set (i := 4) sc_rings_right.nd rfl (by first | exact .inl rfl | exact .inr rfl) (pe_op op_mod (pe_callTy call_int1 (by rfl) m_int (by decide +kernel) (pa_cons (pe_ix ix_list (pv 0) pe_int (fun _ _ => rfl)) pa_nil)) (pv 2)))
      (pss_cons (ps_set (i := 6) sc_rings_right.nd rfl (by first | exact .inl rfl | exact .inr rfl) (pe_mk k_Machine hr (by decide) (by rfl) (pa_cons pe_str (pa_cons (pe_lc (own := [("_law_state", 5)]) (g := (gName 5)) (tt := tYes) (by rfl) sc_rings_right.nd (pi_range1 (by rfl) m_range (pa_cons (pv 1) pa_nil)) (blkOk_by (own := [("_law_state", 5)]) (N := N_rings_right) (sc := defScope s_rings_right) (by decide +kernel)) (fun _ _ _ _ _ => (pg_name (i := 5) sc_rings_right.nd rfl (by first | exact .inl rfl | exact .inr rfl))) (fun _ _ _ _ _ => pts_nil) (fun _ _ _ _ _ => (pe_lst (pa_cons (pe_op op_mod (pe_callTy call_int1 (by rfl) m_int (by decide +kernel) (pa_cons (pe_op op_add (pv 5) pe_int) pa_nil)) (pv 1)) (pa_cons (pe_op op_mod (pe_callTy call_int1 (by rfl) m_int (by decide +kernel) (pa_cons (pe_op op_add (pv 5) pe_int) pa_nil)) (pv 1)) pa_nil))))) (pa_cons (pv 3) pa_nil)))))
      (pss_cons (ps_set (i := 7) sc_rings_right.nd rfl (by first | exact .inl rfl | exact .inr rfl) (pe_mk k_Machine hr (by decide) (by rfl) (pa_cons pe_str (pa_cons (pe_lc (own := [("_law_state", 5)]) (g := (gName 5)) (tt := tYes) (by rfl) sc_rings_right.nd (pi_range1 (by rfl) m_range (pa_cons (pv 2) pa_nil)) (blkOk_by (own := [("_law_state", 5)]) (N := N_rings_right) (sc := defScope s_rings_right) (by decide +kernel)) (fun _ _ _ _ _ => (pg_name (i := 5) sc_rings_right.nd rfl (by first | exact .inl rfl | exact .inr rfl))) (fun _ _ _ _ _ => pts_nil) (fun _ _ _ _ _ => (pe_lst (pa_cons (pe_op op_mod (pe_callTy call_int1 (by rfl) m_int (by decide +kernel) (pa_cons (pe_op op_add (pv 5) pe_int) pa_nil)) (pv 2)) (pa_cons (pe_op op_mod (pe_callTy call_int1 (by rfl) m_int (by decide +kernel) (pa_cons (pe_op op_add (pv 5) pe_int) pa_nil)) (pv 2)) pa_nil))))) (pa_cons (pe_lst (pa_cons (pv 4) pa_nil)) pa_nil)))))
      (pss_cons (ps_set (i := 8) sc_rings_right.nd rfl (by first | exact .inl rfl | exact .inr rfl) (pe_lst (pa_cons (pe_op2E o_and (fun _ => passS0) hr (by decide) (pv 6) (pv 7)) (pa_cons (pe_op2E o_or (fun _ => passS0) hr (by decide) (pv 6) (pv 7)) (pa_cons (pe_op2E o_sub (fun _ => passS0) hr (by decide) (pv 6) (pv 7)) (pa_cons (pe_un (un_own o_invert hr (by decide)) (pv 6)) pa_nil))))))
      (pss_cons (ps_set (i := 9) sc_rings_right.nd rfl (by first | exact .inl rfl | exact .inr rfl) pe_int)
      (pss_cons (ps_set (i := 10) sc_rings_right.nd rfl (by first | exact .inl rfl | exact .inr rfl) pe_str)
      (pss_cons (ps_for PassesOwn.never rfl (pi_range1 (by rfl) m_range (pa_cons pe_int pa_nil)) (pg_name (i := 11) sc_rings_right.nd rfl (by first | exact .inl rfl | exact .inr rfl))
        (pss_cons (ps_set (i := 12) sc_rings_right.nd rfl (by first | exact .inl rfl | exact .inr rfl) (pe_cmpR op_in_seq (pe_op op_mod (pe_callTy call_int1 (by rfl) m_int (by decide +kernel) (pa_cons (pv 9) pa_nil)) (pv 1)) (pv 3) (by rfl)))
      (pss_cons (ps_set (i := 13) sc_rings_right.nd rfl (by first | exact .inl rfl | exact .inr rfl) (pe_cmpR op_eq (pe_op op_mod (pe_callTy call_int1 (by rfl) m_int (by decide +kernel) (pa_cons (pv 9) pa_nil)) (pv 2)) (pv 4) (nomark _)))
      (pss_cons (ps_if (pt_cmpR (op_neD hr.units) (pe_lc (own := [("_law_machine", 14)]) (g := (gName 14)) (tt := tYes) (by rfl) sc_rings_right.nd (pi_list (pv 8)) (blkOk_by (own := [("_law_machine", 14)]) (N := N_rings_right) (sc := defScope s_rings_right) (by decide +kernel)) (fun _ _ _ _ _ => (pg_name (i := 14) sc_rings_right.nd rfl (by first | exact .inl rfl | exact .inr rfl))) (fun _ _ _ _ _ => pts_nil) (fun _ _ _ _ _ => (pe_cmpR (op_ownIn in_Machine hr (by decide)) (pv 10) (pv 14) (by rfl)))) (pe_lst (pa_cons (pe_and (pv 12) (pe_one (pv 13))) (pa_cons (pe_or (pv 12) (pe_one (pv 13))) (pa_cons (pe_and (pv 12) (pe_one (pe_not (pv 13)))) (pa_cons (pe_not (pv 12)) pa_nil))))) (nomark _)) (pss_one (ps_ret pe_bl)) pss_nil)
      (pss_cons (ps_set (i := 15) sc_rings_right.nd rfl (by first | exact .inl rfl | exact .inr rfl) (pe_op op_mod (pe_callTy call_int1 (by rfl) m_int (by decide +kernel) (pa_cons (pe_op op_add (pe_ix ix_list (pv 0) (pe_op op_add pe_int (pe_op op_mod (pv 11) pe_int)) (fun _ _ => rfl)) (pv 11)) pa_nil)) pe_int))
      (pss_cons (ps_set (i := 10) sc_rings_right.nd rfl (by first | exact .inl rfl | exact .inr rfl) (pe_op op_add_str (pv 10) (pe_ix ix_str pe_str (pv 15) (fun _ _ => rfl))))
      (pss_one (ps_set (i := 9) sc_rings_right.nd rfl (by first | exact .inl rfl | exact .inr rfl) (pe_op op_add (pe_op op_add (pv 9) pe_int) (pv 15))))))))))
      (pss_cons (ps_set (i := 16) sc_rings_right.nd rfl (by first | exact .inl rfl | exact .inr rfl) (pe_mk k_Machine hr (by decide) (by rfl) (pa_cons pe_str (pa_cons (pe_lc (own := [("_law_state", 5)]) (g := (gName 5)) (tt := tYes) (by rfl) sc_rings_right.nd (pi_range1 (by rfl) m_range (pa_cons (pv 1) pa_nil)) (blkOk_by (own := [("_law_state", 5)]) (N := N_rings_right) (sc := defScope s_rings_right) (by decide +kernel)) (fun _ _ _ _ _ => (pg_name (i := 5) sc_rings_right.nd rfl (by first | exact .inl rfl | exact .inr rfl))) (fun _ _ _ _ _ => pts_nil) (fun _ _ _ _ _ => (pe_lst (pa_cons (pe_op op_mod (pe_callTy call_int1 (by rfl) m_int (by decide +kernel) (pa_cons (pe_op op_add (pv 5) pe_int) pa_nil)) (pv 1)) pa_nil)))) (pa_cons (pv 3) pa_nil)))))
      (pss_cons (ps_set (i := 17) sc_rings_right.nd rfl (by first | exact .inl rfl | exact .inr rfl) (pe_mk k_Machine hr (by decide) (by rfl) (pa_cons pe_str (pa_cons (pe_lc (own := [("_law_state", 5)]) (g := (gName 5)) (tt := tYes) (by rfl) sc_rings_right.nd (pi_range1 (by rfl) m_range (pa_cons (pv 2) pa_nil)) (blkOk_by (own := [("_law_state", 5)]) (N := N_rings_right) (sc := defScope s_rings_right) (by decide +kernel)) (fun _ _ _ _ _ => (pg_name (i := 5) sc_rings_right.nd rfl (by first | exact .inl rfl | exact .inr rfl))) (fun _ _ _ _ _ => pts_nil) (fun _ _ _ _ _ => (pe_lst (pa_cons (pe_op op_mod (pe_callTy call_int1 (by rfl) m_int (by decide +kernel) (pa_cons (pe_op op_add (pv 5) pe_int) pa_nil)) (pv 2)) pa_nil)))) (pa_cons (pe_lst (pa_cons (pv 4) pa_nil)) pa_nil)))))
      (pss_cons (ps_set (i := 18) sc_rings_right.nd rfl (by first | exact .inl rfl | exact .inr rfl) (pe_op2E o_rshift (fun _ => passS0) hr (by decide) (pv 16) (pv 17)))
      (pss_cons (ps_set (i := 19) sc_rings_right.nd rfl (by first | exact .inl rfl | exact .inr rfl) (pe_me0 me_rounds (pv 17) hr (by decide)))
      (pss_cons (ps_for PassesOwn.never rfl (pi_range1 (by rfl) m_range (pa_cons pe_int pa_nil)) (pg_name (i := 20) sc_rings_right.nd rfl (by first | exact .inl rfl | exact .inr rfl))
        (pss_cons (ps_setLc (i := 21) (own := [("_law_k", 11)]) (g := (gName 11)) (by rfl) sc_rings_right.nd rfl rfl (sw_true rfl rfl rfl (by decide +kernel)) (pi_range1 (by rfl) m_range (pa_cons (pe_op op_add (pv 20) pe_int) pa_nil)) (blkOk_by (own := [("_law_k", 11)]) (N := N_rings_right) (sc := defScope s_rings_right) (by decide +kernel)) (fun _ _ _ _ _ => (pg_name (i := 11) sc_rings_right.nd rfl (by first | exact .inl rfl | exact .inr rfl))) (fun _ _ _ _ _ => (pts_one (PW.pt (pw_and (pt_cmpR (op_in_seq_K (K := K) rfl) (pe_op op_mod (pe_callTy call_int1 (by rfl) m_int (by decide +kernel) (pa_cons (pv 11) pa_nil)) (pv 1)) (pv 3) (by rfl)) (pw_and1 (pt_cmpR op_eq (pe_op op_mod (pe_callTy call_int1 (by rfl) m_int (by decide +kernel) (pa_cons (pe_op op_sub (pv 20) (pv 11)) pa_nil)) (pv 2)) (pv 4) (nomark _))))))) (fun _ _ _ _ _ => (pv 11)))
      (pss_cons (ps_setLc (i := 22) (own := [("_law_k", 11)]) (g := (gName 11)) (by rfl) sc_rings_right.nd rfl rfl (sw_true rfl rfl rfl (by decide +kernel)) (pi_range2 (by rfl) m_range (pa_cons pe_int (pa_cons (pe_op op_add (pv 20) pe_int) pa_nil))) (blkOk_by (own := [("_law_k", 11)]) (N := N_rings_right) (sc := defScope s_rings_right) (by decide +kernel)) (fun _ _ _ _ _ => (pg_name (i := 11) sc_rings_right.nd rfl (by first | exact .inl rfl | exact .inr rfl))) (fun _ _ _ _ _ => (pts_one (PW.pt (pw_and (pt_cmpR op_ge (pv 20) (pe_op op_mul (pv 11) (pv 4)) (nomark _)) (pw_and1 (pt_cmpR op_eq (pe_op op_mod (pe_callTy call_int1 (by rfl) m_int (by decide +kernel) (pa_cons (pe_op op_sub (pv 20) (pe_op op_mul (pv 11) (pv 4))) pa_nil)) (pv 2)) pe_int (nomark _))))))) (fun _ _ _ _ _ => (pv 11)))
      (pss_one (ps_if (PW.pt (pw_or (pt_cmpR op_ne (pe_cmpR (op_ownIn in_Machine hr (by decide)) (pe_op op_repX pe_str (pv 20)) (pv 18) (by rfl)) (pe_cmpR op_gt (pe_callB call_len_seq (by rfl) m_len PySem.boot_len (pa_cons (pv 21) pa_nil)) pe_int (nomark _)) (nomark _)) (pw_or1 (pt_cmpR op_ne (pe_cmpR (op_ownIn in_Machine hr (by decide)) (pe_op op_repX pe_str (pv 20)) (pv 19) (by rfl)) (pe_or (pe_cmpR op_eq (pv 20) pe_int (nomark _)) (pe_one (pe_cmpR op_gt (pe_callB call_len_seq (by rfl) m_len PySem.boot_len (pa_cons (pv 22) pa_nil)) pe_int (nomark _)))) (nomark _))))) (pss_one (ps_ret pe_bl)) pss_nil)))))
      (pss_one (ps_ret pe_bl))))))))))))))))), ?_⟩
    obtain ⟨j0, a0⟩ := dr_at dr (show 0 < 40 by decide)
    obtain ⟨j1, a1⟩ := dr_at dr (show 1 < 40 by decide)
    obtain ⟨j2, a2⟩ := dr_at dr (show 2 < 40 by decide)
    obtain ⟨j3, a3⟩ := dr_at dr (show 3 < 40 by decide)
    obtain ⟨j4, a4⟩ := dr_at dr (show 4 < 40 by decide)
    obtain ⟨n1, p1, c1⟩ := pick3 j0 7 11 13
    obtain ⟨n2, p2, c2⟩ := pick3 j1 5 8 12
    have n10 : 0 < n1 := by omega
    have n20 : 0 < n2 := by omega
    obtain ⟨x2, e2, l2⟩ := modN j2 n10
    obtain ⟨x3, e3, l3⟩ := modN j3 n10
    obtain ⟨la, e4, l4⟩ := modN j4 n20
    walk_at "go"
    intro A1 nA1
    generalize eH_ : upd H A1 _ = H1
    have s1 : Same H H1 := by rw [← eH_]; exact same_new nA1
    have eA1 : H1 A1 = some (.lst [.int 7, .int 11, .int 13]) := by rw [← eH_]; exact upd_same
    clear eH_
    walk_at "go"
    refine ⟨d, _, _, _, rfl, rfl, s1.seq hS, a0, ?_⟩
    walk_at "go"
    refine ⟨A1, _, _, _, rfl, rfl, SqL.of eA1, p1, ?_⟩
    walk_at "go"
    intro A2 nA2
    generalize eH_ : upd H1 A2 _ = H2
    have s2 : Same H1 H2 := by rw [← eH_]; exact same_new nA2
    have eA2 : H2 A2 = some (.lst [.int 5, .int 8, .int 12]) := by rw [← eH_]; exact upd_same
    clear eH_
    have s12 := s1.trans s2
    walk_at "go"
    refine ⟨d, _, _, _, rfl, rfl, s12.seq hS, a1, ?_⟩
    walk_at "go"
    refine ⟨A2, _, _, _, rfl, rfl, SqL.of eA2, p2, ?_⟩
    walk_at "go"
    refine ⟨d, _, _, _, rfl, rfl, s12.seq hS, a2, ?_⟩
    walk_at "go"
    refine ⟨d, _, _, _, rfl, rfl, s12.seq hS, a3, ?_⟩
    walk_at "go"
    dsimp only
    rw [e2, e3]
    intro G0 nG0
    generalize eH_ : upd H2 G0 _ = H3
    have s3 : Same H2 H3 := by rw [← eH_]; exact same_new nG0
    have eG0 : H3 G0 = some (.lst (gsq [x2, x3])) := by rw [← eH_]; exact upd_same
    clear eH_
    have s13 := s12.trans s3
    walk_at "go"
    refine ⟨d, _, _, _, rfl, rfl, s13.seq hS, a4, ?_⟩
    walk_at "go"
    dsimp only
    rw [e4]
    have s13d := s13.seq hS
    obtain ⟨gs, hgs⟩ : ∃ gs, gs = [x2, x3] := ⟨_, rfl⟩
    have gsl : ∀ s ∈ gs, s < n1 := fun s hs => by
      rw [hgs] at hs
      rcases List.mem_cons.mp hs with hs | hs
      · omega
      · rw [List.mem_singleton.mp hs]
        exact l3
    rw [← hgs] at eG0
    have xy : Str.ofString "xy" = S [120, 121] := by decide +kernel
    have nd2 : [120, 121].Nodup := by decide
    clear s1 s2 s3 s12 eA1 eA2 nA1 nA2 nG0
    walk_at "go"
    intro D nD
    refine lc_rowsR (n := n1) (fun i => (List.range 2).map fun j => some ((i + 1 + j) % n1)) (by omega) nD (fun k => rfl) (fun k J Q2 hk s4 q2 => ?_) (fun J za s4 tra eta => ?_)
    · walk_at "go"
      intro l nl
      have := q2 l nl
      rw [show (((List.range 2).map fun j => some ((k + 1 + j) % n1)).map eV) = [.int (((k + 1) % n1 : Nat) : Int), .int (((k + 2) % n1 : Nat) : Int)] from rfl, ← modc, ← modc] at this
      exact this
    have eta : tb za = rgT n1 2 := eta
    have lza : za.length = n1 := by
      have := congrArg List.length eta
      rw [rgT_len] at this
      unfold tb at this
      rwa [List.length_map] at this
    walk_at "go"
    refine ⟨true, true, D, [120, 121], .ref G0, za, gs, by rw [xy]; rfl, nd2, by simp, by decide, tra.tb, by rw [eta]; exact rgT_wf n10 2, by omega, ⟨.inr ⟨true, G0, rfl, SqL.of (s4 _ _ eG0)⟩, by rw [lza]; exact gsl⟩, fun na H4 s5 _ hA => ?_⟩
    rw [eta, lza] at hA
    have s45 := s4.trans s5
    have eG4 := s45 _ _ eG0
    have s14 := s13.trans s45
    clear s4 s5 s45 tra nD eG0 s13 s13d
    walk_at "go"
    intro D nD
    refine lc_rowsR (n := n2) (fun i => (List.range 2).map fun j => some ((i + 1 + j) % n2)) (by omega) nD (fun k => rfl) (fun k J Q2 hk s4 q2 => ?_) (fun J zb s4 trb etb => ?_)
    · walk_at "go"
      intro l nl
      have := q2 l nl
      rw [show (((List.range 2).map fun j => some ((k + 1 + j) % n2)).map eV) = [.int (((k + 1) % n2 : Nat) : Int), .int (((k + 2) % n2 : Nat) : Int)] from rfl, ← modc, ← modc] at this
      exact this
    have etb : tb zb = rgT n2 2 := etb
    have lzb : zb.length = n2 := by
      have := congrArg List.length etb
      rw [rgT_len] at this
      unfold tb at this
      rwa [List.length_map] at this
    walk_at "go"
    intro G1 nG1
    generalize eH_ : upd J G1 _ = J2
    have s6 : Same J J2 := by rw [← eH_]; exact same_new nG1
    have eG1 : J2 G1 = some (.lst (gsq [la])) := by rw [← eH_]; exact upd_same
    clear eH_
    refine ⟨true, true, D, [120, 121], .ref G1, zb, [la], by rw [xy]; rfl, nd2, by simp, by decide, (trb.mono s6).tb, by rw [etb]; exact rgT_wf n20 2, by omega, ⟨.inr ⟨true, G1, rfl, SqL.of eG1⟩, fun s hs => by rw [List.mem_singleton.mp hs, lzb]; exact l4⟩, fun nb H5 s7 _ hB => ?_⟩
    rw [etb, lzb] at hB
    have s47 := s4.trans (s6.trans s7)
    have hA5 := hA.mono s47
    have eG5 := s47 _ _ eG4
    have s15 := s14.trans s47
    clear s4 s6 s7 s47 trb nD eG4 s14 hA eG1 nG1
    obtain ⟨LA, hLA⟩ : ∃ LA, LA = AccS (rgT n1 2) (inG gs) := ⟨_, rfl⟩
    obtain ⟨LB, hLB⟩ : ∃ LB, LB = AccS (rgT n2 2) (inG [la]) := ⟨_, rfl⟩
    rw [← hLA] at hA5
    rw [← hLB] at hB
    obtain ⟨dxa, ra, ua, ena⟩ := hA5.ins
    obtain ⟨dxb, rb, ub, enb⟩ := hB.ins
    have szp : szP n1 n2 ≤ 1000000 := Nat.le_trans (szP_mono (show n1 ≤ 13 by omega) (show n2 ≤ 12 by omega)) (by decide)
    walk_at "go"
    refine ⟨na, nb, dxa, dxb, _, _, rfl, rfl, ena, enb, na, nb, _, _, n1, n2, LA, LB, rfl, hA5, hB, nd2, by simp, by decide, szp, by omega, fun _ m1 H6 s6 _ h1 => ⟨m1, rfl, ?_⟩, fun e => absurd rfl e⟩
    walk_at "go"
    refine ⟨na, nb, dxa, dxb, _, _, rfl, rfl, s6 _ _ ena, s6 _ _ enb, na, nb, _, _, n1, n2, LA, LB, rfl, hA5.mono s6, hB.mono s6, nd2, by simp, by decide, szp, by omega, fun _ m2 H7 s7 _ h2 => ⟨m2, rfl, ?_⟩, fun e => absurd rfl e⟩
    have s57 := s6.trans s7
    walk_at "go"
    refine ⟨na, nb, dxa, dxb, _, _, rfl, rfl, s57 _ _ ena, s57 _ _ enb, na, nb, _, _, n1, n2, LA, LB, rfl, hA5.mono s57, hB.mono s57, nd2, by simp, by decide, szp, by omega, fun _ m3 H8 s8 _ h3 => ⟨m3, rfl, ?_⟩, fun e => absurd rfl e⟩
    have s58 := s57.trans s8
    walk_at "go"
    refine ⟨na, dxa, _, rfl, s58 _ _ ena, ?_⟩
    refine ⟨na, _, n1, LA, rfl, hA5.mono s58, nd2, by simp, by decide, (show n1 + 1 ≤ 1000000 by omega), by omega, fun m4 H9 s9 _ h4 => ?_⟩
    have h19 := h1.mono (s7.trans (s8.trans s9))
    have h29 := h2.mono (s8.trans s9)
    have h39 := h3.mono s9
    walk_at "go"
    intro Fd nFd
    generalize eH_ : upd H9 Fd _ = H10
    have s10 : Same H9 H10 := by rw [← eH_]; exact same_new nFd
    have eFd : H10 Fd = some (.lst [.ref m1, .ref m2, .ref m3, .ref m4]) := by rw [← eH_]; exact upd_same
    clear eH_
    have s5x := s58.trans (s9.trans s10)
    have s1x := s15.trans s5x
    have eGx := s5x _ _ eG5
    have h1x := h19.mono s10
    have h2x := h29.mono s10
    have h3x := h39.mono s10
    have h4x := h4.mono s10
    clear s6 s7 s57 s8 s58 s9 h1 h2 h3 h4 h19 h29 h39 hA5 hB ena enb eG5 s10 s5x s15 nFd
    dsimp only [List.set]
    walk_at "go"
    refine for_gen (n := 30) (fun k σ J => Same H10 J ∧ ∃ (tx v : List Nat) (v5 v11 v12 v13 v14 v15 : Option V), idx (ixOf [120, 121]) tx = some v ∧ tx.length ≤ k ∧ σ = [some (.ref d), some (.int (n1 : Int)), some (.int (n2 : Int)), some (.ref G0), some (.int (la : Int)), v5, some (.ref na), some (.ref nb), some (.ref Fd), some (.int (tot v : Int)), some (.str (S tx)), v11, v12, v13, v14, v15, none, none, none, none, none, none, none]) ⟨Same.refl _, [], [], _, _, _, _, _, _, rfl, Nat.le_refl _, rfl⟩ ?_ ?_ ?_ ?_
    · intro k σ J hk _
      show k < 30
      exact hk
    · intro σ J _
      show 30 ≤ 30
      exact Nat.le_refl _
    · rintro k σ J x J' hk ⟨sj, tx, v, v5, v11, v12, v13, v14, v15, hv, ltx, rfl⟩ ⟨rfl, rfl⟩
      rw [show (0 : Int) + (k : Int) = (k : Int) by omega]
      have eGj := sj _ _ eGx
      have eFj := sj _ _ eFd
      have em1 : ((tot v : Nat) : Int) % (n1 : Int) = ((tot v % n1 : Nat) : Int) := (Int.natCast_emod _ _).symm
      have em2 : ((tot v : Nat) : Int) % (n2 : Int) = ((tot v % n2 : Nat) : Int) := (Int.natCast_emod _ _).symm
      have v2 : ∀ k ∈ v, k < 2 := idx_lt hv
      obtain ⟨F1, hF1⟩ : ∃ F1, F1 = decide (tot v % n1 ∈ gs) := ⟨_, rfl⟩
      obtain ⟨F2, hF2⟩ : ∃ F2, F2 = decide (tot v % n2 = la) := ⟨_, rfl⟩
      have q1 : LA v ↔ F1 = true := by
        rw [hLA, rgT_acc n10, hF1]
        exact ⟨fun h => decide_eq_true (p := tot v % n1 ∈ gs) h.2, fun h => ⟨v2, of_decide_eq_true (p := tot v % n1 ∈ gs) h⟩⟩
      have q2 : LB v ↔ F2 = true := by
        rw [hLB, rgT_acc n20, hF2]
        exact ⟨fun h => decide_eq_true (List.mem_singleton.mp h.2), fun h => ⟨v2, List.mem_singleton.mpr (of_decide_eq_true h)⟩⟩
      walk_at "go"
      dsimp only
      rw [em1]
      refine ⟨G0, _, rfl, .inl (SqL.of eGj), rfl, gsq_flat gs, ?_⟩
      rw [if_neg Bool.false_ne_true, inV_gsq, ← hF1]
      walk_at "go"
      rw [show decide (V.int ((fun i j => i % j) ((tot v : Nat) : Int) (n2 : Int)) = V.int (la : Int)) = F2 from ?eF2]
      case eF2 =>
        rw [hF2]
        refine decide_eq_decide.mpr ⟨fun h => ?_, fun h => ?_⟩
        · dsimp only at h
          rw [em2] at h
          injection h with h
          omega
        · dsimp only
          rw [em2, h]
      have i1 : LA v ∧ LB v ↔ (F1 && F2) = true := by rw [q1, q2]; cases F1 <;> cases F2 <;> decide
      have i2 : LA v ∨ LB v ↔ (F1 || F2) = true := by rw [q1, q2]; cases F1 <;> cases F2 <;> decide
      have i3 : LA v ∧ ¬ LB v ↔ (F1 && !F2) = true := by rw [q1, q2]; cases F1 <;> cases F2 <;> decide
      have i4 : (∀ k ∈ v, k < 2) ∧ ¬ LA v ↔ (!F1) = true := by
        rw [q1]
        cases F1
        · exact ⟨fun _ => rfl, fun _ => ⟨v2, Bool.false_ne_true⟩⟩
        · exact ⟨fun h => absurd rfl h.2, fun h => (by cases h)⟩
      have sqF : SqL K J' Fd [.ref m1, .ref m2, .ref m3, .ref m4] := SqL.of eFj
      have hx1 := h1x.mono sj
      have hx2 := h2x.mono sj
      have hx3 := h3x.mono sj
      have hx4 := h4x.mono sj
      walk_at "go"
      refine ⟨⟨_, sqF⟩, ?_⟩
      intro Dc nDc
      refine lc_flt (n := 4) (fun k => [V.ref m1, .ref m2, .ref m3, .ref m4].getD k .non) (fun _ => true) (fun k => [V.bl (F1 && F2), .bl (F1 || F2), .bl (F1 && !F2), .bl (!F1)].getD k .non) (by omega) nDc (fun k J hk s => itq_go (b := true) (s.seq sqF) (x := [V.ref m1, .ref m2, .ref m3, .ref m4].getD k .non) ?_) (fun J s => ⟨_, s.seq sqF, Nat.le_refl _⟩) (fun k J x J2 hk s y => ⟨by rw [y.1]; exact Same.refl _, ?_⟩) (fun k => rfl) (fun k J Q hk s q => q _ (Same.refl _)) (fun k J Q2 hk _ s q3 => ?_) (fun J s eD => ?_)
      · obtain rfl | rfl | rfl | rfl : k = 0 ∨ k = 1 ∨ k = 2 ∨ k = 3 := by omega
        all_goals rfl
      · have := y.2 _ (s.seq sqF)
        obtain rfl | rfl | rfl | rfl : k = 0 ∨ k = 1 ∨ k = 2 ∨ k = 3 := by omega
        all_goals exact (Option.some.inj this).symm
      · have q4 := q3 _ (Same.refl _)
        clear q3
        have goal : ∀ (mm : Addr) (sz : Nat) (L : Lg) (b : Bool), McL C K J mm [120, 121] sz L → (L v ↔ b = true) → Q2 (.bl b) J → (rInO C (spInL C K)) (.str (S tx)) (.ref mm) J Q2 := by
          intro mm sz L b hm hL qq
          obtain ⟨dx, r, u, en⟩ := hm.ins
          refine ⟨mm, dx, _, rfl, en, mm, [120, 121], tx, sz, L, rfl, hm, nd2, fun b2 hb2 => ⟨b2, rfl, ?_⟩⟩
          have : b2 = b := beq_iff hb2 Iff.rfl ((txl_v hv).trans hL)
          rw [this]
          exact qq
        obtain rfl | rfl | rfl | rfl : k = 0 ∨ k = 1 ∨ k = 2 ∨ k = 3 := by omega
        · walk_at "go"
          exact goal m1 _ _ _ (hx1.mono s) i1 q4
        · walk_at "go"
          exact goal m2 _ _ _ (hx2.mono s) i2 q4
        · walk_at "go"
          exact goal m3 _ _ _ (hx3.mono s) i3 q4
        · walk_at "go"
          exact goal m4 _ _ _ (hx4.mono s) i4 q4
      have eD : J Dc = some (.lst [.bl (F1 && F2), .bl (F1 || F2), .bl (F1 && !F2), .bl (!F1)]) := eD
      have sjJ := sj.trans s
      have s1J := s1x.trans sjJ
      obtain ⟨j5, a5⟩ := dr_at dr (show 5 + k % 20 < 40 by omega)
      obtain ⟨x5, e5, l5⟩ := modN (j5 + (k : Int)) (show 0 < 2 by decide)
      have e5 : (j5 + (k : Int)) % 2 = (x5 : Int) := e5
      have i5 : idx (ixOf [120, 121]) (tx ++ [120 + x5]) = some (v ++ [x5]) := by
        have o5 : idx (ixOf [120, 121]) [120 + x5] = some [x5] := by
          obtain rfl | rfl : x5 = 0 ∨ x5 = 1 := by omega
          all_goals decide
        rw [idx_app, hv, o5]
      have et : ((tot v : Nat) : Int) + 1 + (x5 : Int) = ((tot (v ++ [x5]) : Nat) : Int) := by
        rw [tot_app]
        show _ = ((tot v + (x5 + 1 + 0) : Nat) : Int)
        omega
      have a5 : atI (ds.map V.int) ((5 : Int) + (k : Int) % 20) = some (.int j5) := by rw [show (5 : Int) + (k : Int) % 20 = ((5 + k % 20 : Nat) : Int) by omega]; exact a5
      have hSJ := s1J.seq hS
      have fin : ∀ (J5 : Hp), Same J J5 → True := fun _ _ => trivial
      clear hF1 hF2 q1 q2 i1 i2 i3 i4 hx1 hx2 hx3 hx4 sqF em1 em2 eGj eFj nDc fin s
      cases F1 <;> cases F2
      all_goals (
        walk_at "go"
        intro Lc nLc
        have neD : Dc ≠ Lc := fun e => by rw [e, nLc] at eD; cases eD
        walk_at "go"
        refine ⟨_, _, .lst (SqL.of (by rw [upd_ne neD]; exact eD)) (.cons (.bl _) (.cons (.bl _) (.cons (.bl _) (.cons (.bl _) .nil)))), .lst (SqL.of upd_same) (.cons (.bl _) (.cons (.bl _) (.cons (.bl _) (.cons (.bl _) .nil)))), rfl, rfl, ?_⟩
        refine ⟨false, rfl, ?_⟩
        have sL := same_new (o := .lst (bls 4 fun _ => true)) nLc
        walk_at "go"
        refine ⟨d, _, _, _, rfl, rfl, (same_new nLc).seq hSJ, a5, ?_⟩
        walk_at "go"
        dsimp only
        rw [e5]
        walk_at "go"
        refine ⟨_, _, 120 + x5, rfl, rfl, by rw [xy, S_len]; exact szl (by simp), ?_, ?_⟩
        · rw [xy]
          obtain rfl | rfl : x5 = 0 ∨ x5 = 1 := by omega
          all_goals rfl
        walk_at "go"
        refine ⟨by rw [S_len]; exact szl (by show tx.length + 1 ≤ 2000; omega), ?_⟩
        walk_at "go"
        dsimp only
        rw [et, show S tx ++ ({ cps := #[120 + x5] } : Str) = S (tx ++ [120 + x5]) from S_cat _ _]
        exact ⟨sjJ.trans (same_new nLc), tx ++ [120 + x5], v ++ [x5], _, _, _, _, _, _, i5, by rw [List.length_append]; exact Nat.succ_le_succ ltx, rfl⟩)
    · rintro σ J ⟨sj, tx, v, v5, v11, v12, v13, v14, v15, _, _, rfl⟩
      have eGj := sj _ _ eGx
      have sJ := s1x.trans sj
      have xx : Str.ofString "x" = S [120] := by decide +kernel
      have nd1 : [120].Nodup := by decide
      clear sj eGx eFd h1x h2x h3x h4x s1x hLA hLB LA LB a0 a1 a2 a3 a4
      walk_at "go"
      intro D nD
      refine lc_rowsR (n := n1) (fun i => (List.range 1).map fun j => some ((i + 1 + j) % n1)) (by omega) nD (fun k => rfl) (fun k J Q2 hk s4 q2 => ?_) (fun J za s4 tra eta => ?_)
      · walk_at "go"
        intro l nl
        have := q2 l nl
        rw [show (((List.range 1).map fun j => some ((k + 1 + j) % n1)).map eV) = [.int (((k + 1) % n1 : Nat) : Int)] from rfl, ← modc] at this
        exact this
      have eta : tb za = rgT n1 1 := eta
      have lza : za.length = n1 := by
        have := congrArg List.length eta
        rw [rgT_len] at this
        unfold tb at this
        rwa [List.length_map] at this
      walk_at "go"
      refine ⟨true, true, D, [120], .ref G0, za, gs, by rw [xx]; rfl, nd1, by simp, by decide, tra.tb, by rw [eta]; exact rgT_wf n10 1, by omega, ⟨.inr ⟨true, G0, rfl, SqL.of (s4 _ _ eGj)⟩, by rw [lza]; exact gsl⟩, fun nc H4 s5 _ hC => ?_⟩
      rw [eta, lza] at hC
      have s45 := s4.trans s5
      have eG4 := s45 _ _ eGj
      have s14 := sJ.trans s45
      clear s4 s5 s45 tra nD eGj
      walk_at "go"
      intro D nD
      refine lc_rowsR (n := n2) (fun i => (List.range 1).map fun j => some ((i + 1 + j) % n2)) (by omega) nD (fun k => rfl) (fun k J Q2 hk s4 q2 => ?_) (fun J zb s4 trb etb => ?_)
      · walk_at "go"
        intro l nl
        have := q2 l nl
        rw [show (((List.range 1).map fun j => some ((k + 1 + j) % n2)).map eV) = [.int (((k + 1) % n2 : Nat) : Int)] from rfl, ← modc] at this
        exact this
      have etb : tb zb = rgT n2 1 := etb
      have lzb : zb.length = n2 := by
        have := congrArg List.length etb
        rw [rgT_len] at this
        unfold tb at this
        rwa [List.length_map] at this
      walk_at "go"
      intro G1 nG1
      generalize eH_ : upd J G1 _ = J2
      have s6 : Same J J2 := by rw [← eH_]; exact same_new nG1
      have eG1 : J2 G1 = some (.lst (gsq [la])) := by rw [← eH_]; exact upd_same
      clear eH_
      refine ⟨true, true, D, [120], .ref G1, zb, [la], by rw [xx]; rfl, nd1, by simp, by decide, (trb.mono s6).tb, by rw [etb]; exact rgT_wf n20 1, by omega, ⟨.inr ⟨true, G1, rfl, SqL.of eG1⟩, fun s hs => by rw [List.mem_singleton.mp hs, lzb]; exact l4⟩, fun nd H5 s7 _ hD => ?_⟩
      rw [etb, lzb] at hD
      have s47 := s4.trans (s6.trans s7)
      have hC5 := hC.mono s47
      have eG5 := s47 _ _ eG4
      have s15 := s14.trans s47
      clear s4 s6 s7 s47 trb nD eG4 s14 hC eG1 nG1
      obtain ⟨LC, hLC⟩ : ∃ LC, LC = AccS (rgT n1 1) (inG gs) := ⟨_, rfl⟩
      obtain ⟨LD, hLD⟩ : ∃ LD, LD = AccS (rgT n2 1) (inG [la]) := ⟨_, rfl⟩
      rw [← hLC] at hC5
      rw [← hLD] at hD
      obtain ⟨dxc, rc, uc, enc⟩ := hC5.ins
      obtain ⟨dxd, rd, ud, end_⟩ := hD.ins
      have szc : szC2 n1 n2 ≤ 1000000 := Nat.le_trans (szC2_mono (show n1 ≤ 13 by omega) (show n2 ≤ 12 by omega)) (by decide)
      have szr : 2 * 2 ^ n2 ≤ 1000000 := Nat.le_trans (Nat.mul_le_mul_left 2 (Nat.pow_le_pow_right (by decide) (show n2 ≤ 12 by omega))) (by decide)
      walk_at "go"
      refine ⟨nc, nd, dxc, dxd, _, _, rfl, rfl, enc, end_, nc, nd, _, _, n1, n2, LC, LD, rfl, hC5, hD, nd1, by simp, by decide, szc, by omega, fun _ mh H6 s6 _ h1 => ⟨mh, rfl, ?_⟩, fun e => absurd rfl e⟩
      walk_at "go"
      refine ⟨nd, dxd, _, rfl, s6 _ _ end_, by rfl, ?_⟩
      refine ⟨nd, _, n2, LD, rfl, hD.mono s6, nd1, by simp, by decide, szr, by omega, fun mr H7 s7 _ h2 => ?_⟩
      have h17 := h1.mono s7
      have sx := s6.trans s7
      have s17 := s15.trans sx
      have eG7 := sx _ _ eG5
      have ch : ∀ n : Nat, CatL LC LD (List.replicate n 0) ↔ ∃ k, k ≤ n ∧ k % n1 ∈ gs ∧ (n - k) % n2 = la := fun n => by
        rw [hLC, hLD, ring_chain n10 n20]
        exact ⟨fun ⟨k, a, b, c⟩ => ⟨k, a, b, List.mem_singleton.mp c⟩, fun ⟨k, a, b, c⟩ => ⟨k, a, b, List.mem_singleton.mpr c⟩⟩
      have rd : ∀ n : Nat, StL LD (List.replicate n 0) ↔ n = 0 ∨ ∃ k, 1 ≤ k ∧ k < n + 2 ∧ k * la ≤ n ∧ (n - k * la) % n2 = 0 := fun n => by
        rw [hLD, show inG [la] = fun s => s = la from funext fun s => propext List.mem_singleton]
        exact ring_rounds n20 l4
      clear hLC hLD s6 s7 h1 s15 sx eG5 hC5 hD enc end_ gsl
      dsimp only [List.set]
      walk_at "go"
      refine for_gen (n := 45) (fun k σ J => Same H7 J ∧ ∃ (v20 v21 v22 : Option V), σ = [some (.ref d), some (.int (n1 : Int)), some (.int (n2 : Int)), some (.ref G0), some (.int (la : Int)), v5, some (.ref na), some (.ref nb), some (.ref Fd), some (.int (tot v : Int)), some (.str (S tx)), v11, v12, v13, v14, v15, some (.ref nc), some (.ref nd), some (.ref mh), some (.ref mr), v20, v21, v22]) ⟨Same.refl _, _, _, _, rfl⟩ ?_ ?_ ?_ ?_
      · intro k σ J hk _
        show k < 45
        exact hk
      · intro σ J _
        show 45 ≤ 45
        exact Nat.le_refl _
      · rintro n σ J x J' hn ⟨sj, v20, v21, v22, rfl⟩ ⟨rfl, rfl⟩
        rw [show (0 : Int) + (n : Int) = (n : Int) by omega]
        have eGj := sj _ _ eG7
        have hm1 := h17.mono sj
        have hm2 := h2.mono sj
        have rdn := rd n
        have chn := ch n
        clear rd ch h17 h2 eG7
        walk_at "go"
        intro Dc nDc
        refine lc_flt (n := n + 1) (fun k => .int ((k : Nat) : Int)) (fun k => decide (k % n1 ∈ gs) && decide ((n - k) % n2 = la)) (fun k => .int ((k : Nat) : Int)) (by omega) nDc (fun k J hk s => ?_) (fun J s => ?_) (fun k J x J2 hk s y => ?_) (fun k => rfl) (fun k J Q1 hk s q1 => ?_) (fun k J Q1 hk _ s q1 => ?_) (fun J1 s1 eD => ?_)
        · show k < ((n : Int) + 1).toNat
          omega
        · show ((n : Int) + 1).toNat ≤ n + 1
          omega
        · obtain ⟨rfl, rfl⟩ := y
          exact ⟨Same.refl _, by rw [show (0 : Int) + (k : Int) = (k : Int) by omega]⟩
        · have q1 := q1 _ (Same.refl _)
          have eK : decide (V.int ((fun i j => i % j) ((n : Int) - (k : Int)) (n2 : Int)) = V.int (la : Int)) = decide ((n - k) % n2 = la) := by
            have e : ((n : Int) - (k : Int)) % (n2 : Int) = (((n - k) % n2 : Nat) : Int) := by
              rw [show (n : Int) - (k : Int) = ((n - k : Nat) : Int) by omega, ← Int.natCast_emod]
            refine decide_eq_decide.mpr ⟨fun h => ?_, fun h => ?_⟩
            · dsimp only at h
              rw [e] at h
              injection h with h
              omega
            · dsimp only
              rw [e, h]
          walk_at "go"
          dsimp only
          rw [show ((k : Nat) : Int) % (n1 : Int) = ((k % n1 : Nat) : Int) from (Int.natCast_emod _ _).symm]
          refine ⟨G0, _, rfl, .inl (SqL.of (s _ _ eGj)), rfl, gsq_flat gs, ?_⟩
          rw [if_neg Bool.false_ne_true, inV_gsq]
          refine ⟨_, rfl, ?_⟩
          generalize decide (k % n1 ∈ gs) = b at q1 ⊢
          cases b with
          | false => exact q1
          | true =>
            rw [Bool.true_and] at q1
            rw [if_pos rfl]
            walk_at "go"
            exact (congrArg (fun b => Q1 b J) eK).mpr q1
        · have q1 := q1 _ (Same.refl _)
          walk_at "go"
          exact q1
        walk_at "go"
        intro Dp nDp
        refine lc_flt (n := n + 1) (fun k => .int ((k + 1 : Nat) : Int)) (fun k => decide ((k + 1) * la ≤ n) && decide ((n - (k + 1) * la) % n2 = 0)) (fun k => .int ((k + 1 : Nat) : Int)) (by omega) nDp (fun k J hk s => ?_) (fun J s => ?_) (fun k J x J2 hk s y => ?_) (fun k => rfl) (fun k J Q1 hk s q1 => ?_) (fun k J Q1 hk _ s q1 => ?_) (fun J2 s2 eP => ?_)
        · show k < (((n : Int) + 2) - 1).toNat
          omega
        · show (((n : Int) + 2) - 1).toNat ≤ n + 1
          omega
        · obtain ⟨rfl, rfl⟩ := y
          exact ⟨Same.refl _, by rw [show (1 : Int) + (k : Int) = ((k + 1 : Nat) : Int) by omega]⟩
        · have q1 := q1 _ (Same.refl _)
          obtain ⟨p, hp⟩ : ∃ p, p = (k + 1) * la := ⟨_, rfl⟩
          have ep : ((k + 1 : Nat) : Int) * (la : Int) = (p : Int) := by rw [hp, Int.natCast_mul]
          rw [← hp] at q1
          walk_at "go"
          rw [ep]
          by_cases c : p ≤ n
          · rw [decide_eq_true c, Bool.true_and] at q1
            rw [decide_eq_true (show (p : Int) ≤ (n : Int) by omega)]
            rw [if_pos rfl]
            have eK : decide ((fun i j => V.int (i % j)) ((n : Int) - ((k + 1 : Nat) : Int) * (la : Int)) (n2 : Int) = V.int 0) = decide ((n - p) % n2 = 0) := by
              rw [ep]
              have e : ((n : Int) - (p : Int)) % (n2 : Int) = (((n - p) % n2 : Nat) : Int) := by
                rw [show (n : Int) - (p : Int) = ((n - p : Nat) : Int) by omega, ← Int.natCast_emod]
              refine decide_eq_decide.mpr ⟨fun h => ?_, fun h => ?_⟩
              · dsimp only at h
                rw [e] at h
                injection h with h
                omega
              · dsimp only
                rw [e, h]
                rfl
            walk_at "go"
            exact (congrArg (fun b => Q1 b J) eK).mpr q1
          · rw [decide_eq_false c, Bool.false_and] at q1
            rw [decide_eq_false (show ¬ (p : Int) ≤ (n : Int) by omega)]
            exact q1
        · have q1 := q1 _ (Same.refl _)
          walk_at "go"
          exact q1
        have eD2 := s2 _ _ eD
        have p1 := flt_pos (kb := fun k => decide (k % n1 ∈ gs) && decide ((n - k) % n2 = la)) (g := fun k => V.int ((k : Nat) : Int)) (n := n + 1)
        have p2 := flt_pos (kb := fun k => decide ((k + 1) * la ≤ n) && decide ((n - (k + 1) * la) % n2 = 0)) (g := fun k => V.int ((k + 1 : Nat) : Int)) (n := n + 1)
        generalize fltL _ _ _ = c1 at eD2 p1
        generalize fltL _ _ _ = c2 at eP p2
        have s12 := s1.trans s2
        obtain ⟨dx1, r1, u1, en1⟩ := (hm1.mono s12).ins
        obtain ⟨dx2, r2, u2, en2⟩ := (hm2.mono s12).ins
        clear eD s1 s2 nDc nDp
        walk_at "go"
        refine ⟨n, rfl, rfl, by omega, ?_⟩
        walk_at "go"
        refine ⟨mh, dx1, _, rfl, en1, mh, [120], _, _, _, rfl, hm1.mono s12, nd1, fun b1 hb1 => ⟨b1, rfl, ?_⟩⟩
        rw [txl_v (idx_x n), chn] at hb1
        walk_at "go"
        refine ⟨Dc, _, rfl, .inl (SqL.of eD2), ?_⟩
        have B1 : b1 = decide ((0 : Int) < ((c1.length : Nat) : Int)) := by
          refine beq_iff hb1 decide_eq_true_iff ⟨fun ⟨k, a, b, c⟩ => ?_, fun h => ?_⟩
          · exact Int.natCast_pos.mpr (p1.mpr ⟨k, by omega, by rw [decide_eq_true b, decide_eq_true c]; rfl⟩)
          · obtain ⟨k, a, b⟩ := p1.mp (Int.natCast_pos.mp h)
            have b := Bool.and_eq_true_iff.mp b
            exact ⟨k, by omega, of_decide_eq_true b.1, of_decide_eq_true b.2⟩
        rw [B1]
        have same : ∀ b : Bool, ¬ (!decide (V.bl b = V.bl b)) = true := fun b => by simp
        walk_at "go"
        refine ite2 (fun e => absurd e (same _)) fun _ => ?_
        walk_at "go"
        refine ⟨n, rfl, rfl, by omega, ?_⟩
        walk_at "go"
        refine ⟨mr, dx2, _, rfl, en2, mr, [120], _, _, _, rfl, hm2.mono s12, nd1, fun b2 hb2 => ⟨b2, rfl, ?_⟩⟩
        have hb2 := hb2.trans ((txl_v (idx_x n)).trans rdn)
        obtain ⟨z, hz⟩ : ∃ z, z = decide (V.int ((n : Nat) : Int) = V.int 0) := ⟨_, rfl⟩
        have hz0 : z = true ↔ n = 0 := by
          rw [hz, decide_eq_true_iff]
          exact ⟨fun h => by injection h with h; omega, fun h => by rw [h]; rfl⟩
        walk_at "go"
        rw [← hz]
        cases z with
        | true =>
          have : b2 = true := hb2.mpr (.inl (hz0.mp rfl))
          rw [this]
          walk_at "go"
          refine ite2 (fun e => absurd e (same true)) fun _ => ?_
          walk_at "go"
          exact ⟨sj.trans s12, _, _, _, rfl⟩
        | false =>
          have n0 : n ≠ 0 := fun h => Bool.false_ne_true (hz0.mpr h)
          have B2 : b2 = decide ((0 : Int) < ((c2.length : Nat) : Int)) := by
            refine beq_iff hb2 decide_eq_true_iff ⟨fun h => ?_, fun h => ?_⟩
            · obtain ⟨k, a, b, c, e⟩ := h.resolve_left n0
              obtain ⟨k', rfl⟩ : ∃ k', k = k' + 1 := ⟨k - 1, by omega⟩
              exact Int.natCast_pos.mpr (p2.mpr ⟨k', by omega, by rw [decide_eq_true c, decide_eq_true e]; rfl⟩)
            · obtain ⟨k, a, b⟩ := p2.mp (Int.natCast_pos.mp h)
              have b := Bool.and_eq_true_iff.mp b
              exact .inr ⟨k + 1, by omega, by omega, of_decide_eq_true b.1, of_decide_eq_true b.2⟩
          rw [B2]
          walk_at "go"
          refine ⟨Dp, _, rfl, .inl (SqL.of eP), ?_⟩
          walk_at "go"
          refine ite2 (fun e => absurd e (same _)) fun _ => ?_
          walk_at "go"
          exact ⟨sj.trans s12, _, _, _, rfl⟩
      · rintro σ J ⟨sj, v20, v21, v22, rfl⟩
        walk_at "go"
        exact q _ (s17.trans sj)
end
end Z
set_option Elab.async false
set_option linter.all false
set_option maxRecDepth 100000
set_option maxHeartbeats 4000000
namespace Z
open PySem PySem.Spec PyProof.Rows L2 PySem.Builtin.Str
/-! ### x[::-1], x a text -/
def tRevS (te : TE) : TE := fun σ H Q => te σ H fun x H1 => ∃ z, x = .str z ∧ z.length ≤ sizeLine ∧ Q (.str ⟨z.cps.toList.reverse.toArray⟩) H1
theorem rev_picked (z : Str) : (strSliceIndices none none (-1) z.length) = (List.range z.length).map fun k => z.length - 1 - k := by
  show sliceRange ((z.length : Int) - 1) (-1) (-1) = _
  exact PySem.W.krv_sliceRange z.length
theorem fm_map {α β : Type} {f : α → Option β} {g : α → β} : ∀ {l : List α}, (∀ x ∈ l, f x = some (g x)) → l.filterMap f = l.map g
  | [], _ => rfl
  | x :: l, h => by
    rw [List.filterMap_cons, h x List.mem_cons_self, fm_map fun y hy => h y (List.mem_cons_of_mem _ hy)]
    rfl
theorem rev_codes (z : Str) : ((strSliceIndices none none (-1) z.length).filterMap (z.cps[·]?)) = z.cps.toList.reverse := by
  rw [rev_picked]
  have hl : z.length = z.cps.toList.length := by
    show z.cps.size = _
    rw [Array.length_toList]
  rw [hl]
  generalize hz : z.cps.toList = l
  have e : ∀ i : Nat, z.cps[i]? = l[i]? := fun i => by rw [← hz, Array.getElem?_toList]
  rw [show (fun i : Nat => z.cps[i]?) = fun i : Nat => l[i]? from funext e]
  clear e hl hz
  rw [List.filterMap_map]
  apply List.ext_getElem?
  intro i
  rw [show (List.range l.length).filterMap ((fun i : Nat => l[i]?) ∘ fun k => l.length - 1 - k) = (List.range l.length).map (fun k => l.getD (l.length - 1 - k) 0) from ?_]
  · rw [List.getElem?_map]
    by_cases h : i < l.length
    · rw [List.getElem?_range h, List.getElem?_reverse h, List.getElem?_eq_getElem (by omega)]
      show some (l.getD _ 0) = _
      rw [List.getD_eq_getElem?_getD, List.getElem?_eq_getElem (by omega)]
      rfl
    · rw [List.getElem?_eq_none (by rw [List.length_range]; omega), List.getElem?_eq_none (by rw [List.length_reverse]; omega)]
      rfl
  · refine fm_map fun k hk => ?_
    have := List.mem_range.mp hk
    show l[l.length - 1 - k]? = some (l.getD _ 0)
    rw [List.getD_eq_getElem?_getD, List.getElem?_eq_getElem (by omega)]
    rfl
theorem pe_revS {X : Cx} {e : Expr} {te : TE} {k : Nat} {p1 p2 p3 pos : Pos} (he : PE X e te) : PE X (.Subscript e (.Slice none none (some (.UnaryOp .USub (.Constant (.int 1) k p1) p2)) p3) pos) (tRevS te) := by
  refine ⟨fun pins s σ H Q I h => ?_⟩
  refine Subscript_ (thn (he.run pins s σ H _ I h) fun v s1 ⟨x, H1, I1, r1, q1⟩ => ?_)
  obtain ⟨z, ex, hz, q⟩ := q1
  subst ex
  obtain ⟨t, rfl⟩ := r1
  have hst : PO X (some (.UnaryOp .USub (.Constant (.int 1) k p1) p2)) (tPart (tUn (rU fun i => .int (-i)) (tC (.int 1)))) := po_some (pe_un un_neg pe_int)
  refine wpAny_Slice (thn (po_none.run pins s1 σ H1 (fun o H2 => o = none ∧ H2 = H1) I1 ⟨rfl, rfl⟩) fun vl s2 ⟨l, H2, I2, pl, el, e2⟩ => ?_)
  subst el e2
  refine thn (po_none.run pins s2 σ H2 (fun o H3 => o = none ∧ H3 = H2) I2 ⟨rfl, rfl⟩) fun vu s3 ⟨u, H3, I3, pu, eu, e3⟩ => ?_
  subst eu e3
  refine thn (hst.run pins s3 σ H3 (fun o H4 => o = some (-1) ∧ H4 = H3) I3 ⟨1, rfl, -1, rfl, rfl, rfl⟩) fun vs s4 ⟨o, H4, I4, ps, eo, e4⟩ => ?_
  subst eo e4
  obtain ⟨l, ev, el⟩ := IsPart.raw pl
  obtain ⟨u, eu', eu⟩ := IsPart.raw pu
  obtain ⟨st, es', es⟩ := IsPart.raw ps
  subst ev eu' es'
  have I5 : Inv X pins σ H4 { s4 with heap := s4.heap.push { cls := .type "slice", data := .fields #[partValue l, partValue u, partValue st] } } := I4.kept (t' := s4.toks) fun b ob q => Heap.get?_push_of_some _ q
  show wpAny (model X.prog X.w) X.A (subscriptTail e (.Slice none none (some (.UnaryOp .USub (.Constant (.int 1) k p1) p2)) p3) (.str z t) (.ref s4.heap.objs.size)) (EP X pins σ Q) X.xe _
  cases l with
  | some x => cases el
  | none =>
  cases u with
  | some x => cases eu
  | none =>
  cases st with
  | none => cases es
  | some x =>
  obtain ⟨x, ux⟩ := x
  have es : x = (-1 : Int) := by injection es
  subst es
  refine tail_of_ItemOn ⟨"str", _, F.slot_str_getitem.lookup, typeIs_str _ _ _, wpAny_getItem_str_slice (l := none) (u := none) (st := some (-1, ux)) ⟨_, Heap.get?_push_size _ rfl, rfl, rfl⟩ rfl ?_⟩ (by with_unfolding_all rfl) (by intro r; cases e <;> rfl)
  show Made.post (if ((-1 : Int) == 1 && (strSliceIndices none none (-1) z.length).length == z.length) = true then Made.val (.str z t) else Made.str ⟨((strSliceIndices none none (-1) z.length).filterMap (z.cps[·]?)).toArray⟩) (EP X pins σ Q) _
  rw [if_neg (by simp), rev_codes]
  refine ⟨?_, .str _, H4, I5.tok _, ⟨_, rfl⟩, q⟩
  show (z.cps.toList.reverse.toArray).size ≤ _
  rw [List.size_toArray, List.length_reverse, Array.length_toList]
  exact hz
/-! ### a == "text" by the class's own __eq__ -/
def rOwnS (C : Addr) (sp : Sp) : R2 := fun x y H Q => ∃ a z dx fs, x = .ref a ∧ y = .str z ∧ H a = some (.ins C dx fs) ∧ sp [.ref a, .str z] H (fun v H' => ∃ r, v = .bl r ∧ Q v H') E0
theorem op_ownS {X : Cx} {k j : Nat} {C : Addr} {sp : Sp} (c : Eqo X.prog X.w X.K X.mg X.base k C sp) (nf : PySem.W.notFirst X.K C (.type "str") = true) (hr : Room j X.A) (hk : k ≤ j) : OpR X (compareOp .Eq) (rOwnS C sp) := by
  intro pins s σ H x y v u Q I rx ry hq
  obtain ⟨f, fd, ps, F, hs, hf, hb⟩ := c.ex
  obtain ⟨a, z, dx, fs, rfl, rfl, ha, q⟩ := hq
  cases rx
  obtain ⟨t, rfl⟩ := ry
  obtain ⟨mA, J, _⟩ := ins_get I.hok ha
  obtain ⟨od, J, _⟩ := J.look
  obtain ⟨m, hF⟩ := I.fr
  have lk : PySem.W.Looks (model X.prog X.w) s.heap (typeOf (.str z t)) (.type "str") := fun A Q E s' k' q' => wpAny_pure q'
  show wpAny (model X.prog X.w) X.A (richCompare .Eq (Value.ref a) (Value.str z t)) (EP X pins σ Q) X.xe s
  refine PySem.W.cmp_K (op := .Eq) (tb := .type "str") (hr.mono hk).units0 hF I.ok.mod.kin J lk nf hs hf ?_
  have r2 : Vals [V.ref a, V.str z] [Value.ref a, Value.str z t] := .cons rfl (.cons ⟨_, rfl⟩ .nil)
  refine thn (run_fn (dvs := []) F (hr.mono hk) hb .nil pass0 I r2 q) fun r s' z => ?_
  obtain ⟨v, H', I', rv, b', rfl, q'⟩ := z
  cases rv
  exact ⟨.bl b', H', I', rfl, q'⟩
end Z
set_option pp.maxSteps 700
set_option Elab.async false
set_option linter.all false
set_option maxRecDepth 100000
set_option maxHeartbeats 4000000
open SX (S S_inj S_len S_cat)
namespace Z
open Mc
open PySem PySem.Spec PyProof.Rows L2
open C8 (pss_cut tCut)
local macro_rules | `(tactic| walk_at "num") => `(tactic| first | rfl | omega | decide | exact Nat.le_of_lt (small1000 (by simp)) | exact ⟨by omega, by omega⟩ | exact ⟨by omega, by omega, by omega⟩ | exact ⟨by decide, by decide, by decide⟩ | exact Or.inl ⟨by omega, by omega⟩ | exact Or.inr ⟨by omega, by omega⟩)
local macro_rules | `(tactic| walk_at "go") => `(tactic| repeat (first | refine ⟨_, rfl, ?_⟩ | refine ⟨_, _, rfl, rfl, ?_⟩ | refine ⟨_, _, rfl, ?_⟩ | (refine ⟨_, _, rfl, rfl, ?_, ?_⟩; focus walk_at "num") | refine Or.inl ⟨_, rfl, ?_⟩ | refine ⟨_, _, _, _, rfl, rfl, (by assumption), (by rfl), ?_⟩ | refine ⟨_, _, _, _, _, rfl, (by assumption), (by assumption), (by assumption), (by rfl), ?_⟩ | refine ⟨rfl, ?_⟩ | (refine And.intro ?_ ?_; focus walk_at "num")))
section
variable {P : Program} {w : World} {K : PySem.W.Frag} {mg : Str → Option Value} {base : Heap} {f C : Addr} {fd : FuncData}
/-- a machine and a text -/
def spEqT (C : Addr) (K : PySem.W.Frag) : Sp := fun vs H Q _ => ∃ (n : Addr) (z : Str) (l : List Nat) (sz : Nat) (L : Lg), vs = [.ref n, .str z] ∧ McL C K H n l sz L ∧ Q (.bl false) H
theorem ok_eqT (F : FnM K "__eq__" "Machine.__eq__" s_Machine___eq__ f fd) (nk : PySem.W.kitOne K (.type "str") (.ref C) = some false) (m_isinstance : mg "isinstance" = none) (g_Machine : mg "Machine" = some (.ref C)) (cls : Cls K C) (n_letters : NoAttr K C "letters") (n_rows : NoAttr K C "rows") (n_good : NoAttr K C "good") : FnOk P w K mg base CX0 1 f fd P_Machine___eq__ (spEqT C K) := by
  refine F.ok sc_Machine___eq__ (fun vs H Q E h => ?_) (fun cdv A outer s H vs Q E hr h => ?_)
  · obtain ⟨n, z, l, sz, L, rfl, _⟩ := h
    rfl
  · obtain ⟨n, z, l, sz, L, rfl, hM, q⟩ := h
    refine ⟨_, PSs.nox (pss_one (ps_ret (pe_and (pe_callB call_isi (by rfl) m_isinstance (by decide +kernel) (pa_cons (pv 1) (pa_cons (pe_glob (by rfl) g_Machine relv_ref) pa_nil))) (pe_and (pe_cmpR op_eq (pe_fld (pv 0) rfl) (pe_fld (pv 1) rfl) (nomark _)) (pe_and (pe_cmpR (op_eqD hr.units) (pe_fld (pv 0) rfl) (pe_fld (pv 1) rfl) (nomark _)) (pe_one (pe_cmpR (op_eqD hr.units) (pe_fld (pv 0) rfl) (pe_fld (pv 1) rfl) (nomark _)))))))), ?_⟩
    walk_at "go"
    refine ⟨.str z, .ref C, .type "str", .ref C, false, rfl, .own C, .base (.str z), nk, ?_⟩
    walk_at "go"
    exact q
end
end Z
set_option pp.maxSteps 700
set_option Elab.async false
set_option linter.all false
set_option maxRecDepth 100000
set_option maxHeartbeats 4000000
open SX (S S_inj S_len S_cat)
namespace Z
open Mc
open PySem PySem.Spec PyProof.Rows L2
open C8 (pss_cut tCut)
local macro_rules | `(tactic| walk_at "num") => `(tactic| first | rfl | omega | decide | exact Nat.le_of_lt (small1000 (by simp)) | exact ⟨by omega, by omega⟩ | exact ⟨by omega, by omega, by omega⟩ | exact ⟨by decide, by decide, by decide⟩ | exact Or.inl ⟨by omega, by omega⟩ | exact Or.inr ⟨by omega, by omega⟩)
local macro_rules | `(tactic| walk_at "go") => `(tactic| repeat (first | refine ⟨_, rfl, ?_⟩ | refine ⟨_, _, rfl, rfl, ?_⟩ | refine ⟨_, _, rfl, ?_⟩ | (refine ⟨_, _, rfl, rfl, ?_, ?_⟩; focus walk_at "num") | refine Or.inl ⟨_, rfl, ?_⟩ | refine ⟨_, _, _, _, rfl, rfl, (by assumption), (by rfl), ?_⟩ | refine ⟨_, _, _, _, _, rfl, (by assumption), (by assumption), (by assumption), (by rfl), ?_⟩ | refine ⟨rfl, ?_⟩ | (refine And.intro ?_ ?_; focus walk_at "num")))
abbrev s_one : Stmt := topS 40
abbrev N_one : List Str := ["_law_script", "_law_draws_here", "_law_place", "_law_letters_here", "_law_many", "_law_one_here", "_law_more", "_law_other", "_law_a", "_law_b", "_law_found", "_law_machine", "_law_texts", "_law_k", "_law_text", "_law_first", "_law_second", "_law_due", "_law_longer_here", "_law_letter", "_law_c", "_law_turned", "_law_d", "_law_at", "_law_dotted", "_law_p", "_law_everything", "_law_sign"]
abbrev P_one : List Str := ["_law_script"]
theorem sc_one : FnScope N_one P_one (defScope s_one) := ⟨rfl, rfl, rfl, by decide +kernel, rfl, by decide +kernel, by decide +kernel⟩
theorem lnk_in (l : List Nat) : ∀ k, ∀ t ∈ lnk l k, ∀ c ∈ t, c ∈ l
  | 0, t, h, c, hc => by rw [List.mem_singleton.mp h] at hc; exact absurd hc List.not_mem_nil
  | k + 1, t, h, c, hc => by
    obtain ⟨u, hu, h⟩ := List.mem_flatMap.mp h
    obtain ⟨d, hd, rfl⟩ := List.mem_map.mp h
    rcases List.mem_append.mp hc with hc | hc
    · exact lnk_in l k u hu c hc
    · rw [List.mem_singleton.mp hc]
      exact hd
theorem sht_in (l : List Nat) : ∀ k, ∀ t ∈ sht l k, ∀ c ∈ t, c ∈ l
  | 0, t, h, c, hc => by rw [List.mem_singleton.mp h] at hc; exact absurd hc List.not_mem_nil
  | k + 1, t, h, c, hc => by
    rcases List.mem_append.mp h with h | h
    · exact sht_in l k t h c hc
    · exact lnk_in l (k + 1) t h c hc
theorem idx_ok {l : List Nat} : ∀ {t : List Nat}, (∀ c ∈ t, c ∈ l) → ∃ v, idx (ixOf l) t = some v
  | [], _ => ⟨[], rfl⟩
  | c :: t, h => by
    obtain ⟨v, hv⟩ := idx_ok fun x hx => h x (List.mem_cons_of_mem _ hx)
    cases e : ixOf l c with
    | none => exact absurd (h c List.mem_cons_self) (ixOf_none.mp e)
    | some k =>
      refine ⟨k :: v, ?_⟩
      unfold idx
      rw [e, hv]
section
variable {P : Program} {w : World} {K : PySem.W.Frag} {mg : Str → Option Value} {base : Heap} {f C CL CH : Addr} {fd : FuncData}
theorem lc_zeros {l : List Nat} {D : Addr} {H0 : Hp} {i : Nat} {vs : List Nat} {σ : _root_.L2.St} {Qd : Hp → Prop} (hl : l.length ≤ 1000000) (nD : H0 D = none) (hw : ∀ x : Str, wipe ((wipe σ vs).set i (some (.str x))) vs = wipe σ vs)
    (hd : ∀ J, Same H0 J → J D = some (.lst ((List.replicate l.length (some 0)).map eV)) → Qd J) : lcW (Its (S l)) (gName i) tYes (tC (.int 0)) vs σ D Qd H0 := by
  refine lc_flt (n := l.length) (fun k => .str ⟨#[l.getD k 0]⟩) (fun _ => true) (fun _ => .int 0) hl nD (fun k J hk _ => ?_) (fun J _ => ?_) (fun k J x J2 hk _ y => ?_) (fun k => hw _) (fun k J Q _ _ q => q _ (Same.refl _)) (fun k J Q _ _ _ q => q _ (Same.refl _)) (fun J s eD => hd J s ?_)
  · show k < (S l).cps.size
    simpa using hk
  · show (S l).cps.size ≤ l.length
    simp
  · obtain ⟨rfl, d, ed, rfl⟩ := y
    have ed : l[k]? = some d := by simpa using ed
    refine ⟨Same.refl _, ?_⟩
    rw [List.getD_eq_getElem?_getD, ed]
    rfl
  · rw [eD, fltL_all]
    congr 2
    rw [List.map_replicate, show eV (some 0) = V.int 0 from rfl, List.map_const', List.length_range]
theorem rev_ne {l : List Nat} (nd : l.Nodup) (h : 1 < l.length) : l.reverse ≠ l := by
  intro e
  cases l with
  | nil => exact absurd h (by decide)
  | cons x t =>
    rw [List.reverse_cons] at e
    have nx := (List.nodup_cons.mp nd).1
    cases hr : t.reverse with
    | nil =>
      rw [List.reverse_eq_nil_iff.mp hr] at h
      exact absurd h (Nat.lt_irrefl 1)
    | cons y u =>
      rw [hr] at e
      injection e with e1 _
      subst e1
      exact nx (List.mem_reverse.mp (hr ▸ List.mem_cons_self))
theorem tb_zero (r : Addr) (n : Nat) : tb [(r, List.replicate n (some 0))] = [List.replicate n (some 0)] := rfl
theorem wf_zero (r : Addr) (n : Nat) : Wf (tb [(r, List.replicate n (some 0))]) n := by
  rw [tb_zero]
  refine ⟨fun x hx => ?_, fun x hx e he => ?_⟩
  · rw [List.mem_singleton.mp hx, List.length_replicate]
  · rw [List.mem_singleton.mp hx] at he
    have := (List.mem_replicate.mp he).2
    injection this with this
    rw [this]
    exact Nat.one_pos
def spLawP (K : PySem.W.Frag) : Sp := fun vs H Q _ => ∃ (s : Addr) (ns : List Int), vs = [.ref s] ∧ SqL K H s (ns.map V.int) ∧ ns.length ≤ 63 ∧ ∀ H', Same H H' → Q (.bl true) H'
theorem ok_one (F : FnP K "_law_one" s_one f fd) (isC : C8.InsC K C) (m_isinstance : mg "isinstance" = none) (g_Machine : mg "Machine" = some (.ref C)) (nf : PySem.W.notFirst K C (.type "str") = true) (m_int : mg "int" = none) (m_len : mg "len" = none) (m_range : mg "range" = none) (m_min : mg "min" = none) (m_max : mg "max" = none) (cls : Cls K C) (n_letters : NoAttr K C "letters") (c_cell : Cal P w K mg base 1 "_law_cell" (spCell K)) (c_draws : Cal P w K mg base 1 "_law_draws" spDraws) (c_letters : Cal P w K mg base 2 "_law_letters" (spLet K)) (c_table : Cal P w K mg base 2 "_law_table" (spTab K)) (c_word : Cal P w K mg base 2 "_law_word" (spWord K)) (c_short : Cal P w K mg base 2 "_law_short" (spShort K)) (c_accepts : Cal P w K mg base 2 "_law_accepts" (spAcc K)) (c_refused : Cal P w K mg base 7 "_law_refused" (spRefd C K)) (c_rings_right : Cal P w K mg base 7 "_law_rings_right" (spRings K)) (k_Machine : Mak P w K mg base 4 "Machine" (spL3 C K)) (kd_Machine : MakD P w K mg base 4 "Machine" [.non] (spL2 C K)) (in_Machine : InO P w K mg base 2 C (spInL C K)) (e_Machine : Eqo P w K mg base 1 C (spEqL C K)) (eT_Machine : Eqo P w K mg base 1 C (spEqT C K)) (o_and : Bin2X P w K mg base 6 C .BitAnd (spOp2 szP (fun L1 L2 => pL L1 L2 .both) C CL K)) (o_or : Bin2X P w K mg base 6 C .BitOr (spOp2 szP (fun L1 L2 => pL L1 L2 .either) C CL K)) (o_sub : Bin2X P w K mg base 6 C .Sub (spOp2 szP (fun L1 L2 => pL L1 L2 .one) C CL K)) (o_invert : Un1 P w K mg base 6 C (spOp1 (fun s => s + 1) NotL C K)) : FnOk P w K mg base CX0 8 f fd P_one (spLawP K) := by
  refine F.ok sc_one (fun vs H Q E h => ?_) (fun cdv A outer s H vs Q E hr h => ?_)
  · obtain ⟨s, ns, rfl, _⟩ := h
    rfl
  · obtain ⟨s, ns, rfl, hS, ls, q⟩ := h
    refine ⟨_, PSs.nox (pss_cons (ps_set (i := 1) sc_one.nd rfl (by first | exact .inl rfl | exact .inr rfl) (pe_cl c_draws hr (by decide) (by rfl) (pa_cons (pe_cl c_cell hr (by decide) (by rfl) (pa_cons (pv 0) (pa_cons pe_int pa_nil))) (pa_cons pe_int pa_nil))))
      (pss_cons (ps_set (i := 2) sc_one.nd rfl (by first | exact .inl rfl | exact .inr rfl) (pe_lst (pa_cons pe_int pa_nil)))
      (pss_cons (ps_set (i := 3) sc_one.nd rfl (by first | exact .inl rfl | exact .inr rfl) (pe_cl c_letters hr (by decide) (by rfl) (pa_cons (pv 1) (pa_cons (pv 2) pa_nil))))
      (pss_cons (ps_set (i := 4) sc_one.nd rfl (by first | exact .inl rfl | exact .inr rfl) (pe_callB call_len_str (by rfl) m_len PySem.boot_len (pa_cons (pv 3) pa_nil)))
      (pss_cons (ps_set (i := 5) sc_one.nd rfl (by first | exact .inl rfl | exact .inr rfl) (pe_cl c_table hr (by decide) (by rfl) (pa_cons (pv 1) (pa_cons (pv 2) (pa_cons (pv 4) (pa_cons pe_int pa_nil))))))
      (pss_cons (ps_set (i := 6) sc_one.nd rfl (by first | exact .inl rfl | exact .inr rfl) (pe_cl c_draws hr (by decide) (by rfl) (pa_cons (pe_op op_add (pe_cl c_cell hr (by decide) (by rfl) (pa_cons (pv 0) (pa_cons pe_int pa_nil))) (pe_ix ix_list (pv 1) pe_int (fun _ _ => rfl))) (pa_cons pe_int pa_nil))))
      (pss_cons (ps_set (i := 7) sc_one.nd rfl (by first | exact .inl rfl | exact .inr rfl) (pe_cl c_table hr (by decide) (by rfl) (pa_cons (pv 6) (pa_cons (pe_lst (pa_cons pe_int pa_nil)) (pa_cons (pv 4) (pa_cons pe_int pa_nil))))))
      (pss_cons (ps_set (i := 8) sc_one.nd rfl (by first | exact .inl rfl | exact .inr rfl) (pe_mk k_Machine hr (by decide) (by rfl) (pa_cons (pv 3) (pa_cons (pe_ix ix_list (pv 5) pe_int (fun _ _ => rfl)) (pa_cons (pe_ix ix_list (pv 5) pe_int (fun _ _ => rfl)) pa_nil)))))
      (pss_cons (ps_set (i := 9) sc_one.nd rfl (by first | exact .inl rfl | exact .inr rfl) (pe_mk k_Machine hr (by decide) (by rfl) (pa_cons (pv 3) (pa_cons (pe_ix ix_list (pv 7) pe_int (fun _ _ => rfl)) (pa_cons (pe_ix ix_list (pv 7) pe_int (fun _ _ => rfl)) pa_nil)))))
      (pss_cons (ps_set (i := 10) sc_one.nd rfl (by first | exact .inl rfl | exact .inr rfl) (pe_lst (pa_cons (pe_op2E o_and (fun _ => passS0) hr (by decide) (pv 8) (pv 9)) (pa_cons (pe_op2E o_or (fun _ => passS0) hr (by decide) (pv 8) (pv 9)) (pa_cons (pe_op2E o_sub (fun _ => passS0) hr (by decide) (pv 8) (pv 9)) (pa_cons (pe_un (un_own o_invert hr (by decide)) (pv 8)) pa_nil))))))
      (pss_cons (ps_if (pt_cmpR op_gt (pe_callB call_len_seq (by rfl) m_len PySem.boot_len (pa_cons (pe_lc (own := [("_law_machine", 11)]) (g := (gName 11)) (by rfl) sc_one.nd (pi_list (pv 10)) (blkOk_by (own := [("_law_machine", 11)]) (N := N_one) (sc := defScope s_one) (by decide +kernel)) (fun _ _ _ _ _ => (pg_name (i := 11) sc_one.nd rfl (by first | exact .inl rfl | exact .inr rfl))) (fun _ _ _ _ _ => (pts_one (PW.pt (pw_or (pt_not (pt_val (pe_callB (C8.call_isC isC) (by rfl) m_isinstance (by decide +kernel) (pa_cons (pv 11) (pa_cons (pe_glob (by rfl) g_Machine relv_ref) pa_nil))))) (pw_or1 (pt_cmpR op_ne (pe_fld_K (K := K) rfl (pv 11) rfl) (pv 3) (nomark _))))))) (fun _ _ _ _ _ => (pv 11))) pa_nil)) pe_int (nomark _)) (pss_one (ps_ret pe_bl)) pss_nil)
      (pss_cons (ps_set (i := 12) sc_one.nd rfl (by first | exact .inl rfl | exact .inr rfl) (pe_cl c_short hr (by decide) (by rfl) (pa_cons (pv 3) (pa_cons pe_int pa_nil))))
      (pss_cons (ps_for PassesOwn.never rfl (pi_range1 (by rfl) m_range (pa_cons (pe_callB (call_min2 rfl) (by rfl) m_min (by decide +kernel) (pa_cons pe_int (pa_cons (pe_callB (call_max2 rfl) (by rfl) m_max (by decide +kernel) (pa_cons pe_int (pa_cons (pe_op op_sub (pe_callB call_len_seq (by rfl) m_len PySem.boot_len (pa_cons (pv 0) pa_nil)) pe_int) pa_nil))) pa_nil))) pa_nil)) (pg_name (i := 13) sc_one.nd rfl (by first | exact .inl rfl | exact .inr rfl))
        (pss_one (ps_expr (pe_bm PySem.F.plainAttrs_list PySem.F.slot_list_append PySem.F.type_list_append mt_append (pv 12) (pa_cons (pe_cl c_word hr (by decide) (by rfl) (pa_cons (pe_cl c_draws hr (by decide) (by rfl) (pa_cons (pe_op op_add (pe_op op_add (pe_cl c_cell hr (by decide) (by rfl) (pa_cons (pv 0) (pa_cons (pe_op op_add pe_int (pv 13)) pa_nil))) (pe_op op_mul pe_int (pv 13))) (pe_ix ix_list (pv 1) pe_int (fun _ _ => rfl))) (pa_cons pe_int pa_nil))) (pa_cons (pe_lst (pa_cons pe_int pa_nil)) (pa_cons (pv 3) (pa_cons pe_int pa_nil))))) pa_nil)))))
      (pss_cons (ps_for PassesOwn.never rfl (pi_list (pv 12)) (pg_name (i := 14) sc_one.nd rfl (by first | exact .inl rfl | exact .inr rfl))
        (pss_cons (ps_set (i := 15) sc_one.nd rfl (by first | exact .inl rfl | exact .inr rfl) (pe_cl c_accepts hr (by decide) (by rfl) (pa_cons (pv 5) (pa_cons (pv 3) (pa_cons (pv 14) pa_nil)))))
      (pss_cons (ps_set (i := 16) sc_one.nd rfl (by first | exact .inl rfl | exact .inr rfl) (pe_cl c_accepts hr (by decide) (by rfl) (pa_cons (pv 7) (pa_cons (pv 3) (pa_cons (pv 14) pa_nil)))))
      (pss_cut (ps_set (i := 17) sc_one.nd rfl (by first | exact .inl rfl | exact .inr rfl) (pe_lst (pa_cons (pe_and (pv 15) (pe_one (pv 16))) (pa_cons (pe_or (pv 15) (pe_one (pv 16))) (pa_cons (pe_and (pv 15) (pe_one (pe_not (pv 16)))) (pa_cons (pe_not (pv 15)) pa_nil))))))
      (pss_one (ps_if (PW.pt (pw_or (pt_cmpR (op_neD hr.units) (pe_lc (own := [("_law_machine", 11)]) (g := (gName 11)) (tt := tYes) (by rfl) sc_one.nd (pi_list (pv 10)) (blkOk_by (own := [("_law_machine", 11)]) (N := N_one) (sc := defScope s_one) (by decide +kernel)) (fun _ _ _ _ _ => (pg_name (i := 11) sc_one.nd rfl (by first | exact .inl rfl | exact .inr rfl))) (fun _ _ _ _ _ => pts_nil) (fun _ _ _ _ _ => (pe_cmpR (op_ownIn in_Machine hr (by decide)) (pv 14) (pv 11) (by rfl)))) (pv 17) (nomark _)) (pw_or (pt_cmpR op_ne (pe_cmpR (op_ownIn in_Machine hr (by decide)) (pv 14) (pv 8) (by rfl)) (pv 15) (nomark _)) (pw_or1 (pt_cmpR op_ne (pe_cmpR (op_ownIn in_Machine hr (by decide)) (pv 14) (pv 9) (by rfl)) (pv 16) (nomark _)))))) (pss_one (ps_ret pe_bl)) pss_nil))))))
      (pss_cons (ps_set (i := 18) sc_one.nd rfl (by first | exact .inl rfl | exact .inr rfl) (pe_op op_add_str (pv 3) pe_str))
      (pss_cons (ps_set (i := 20) sc_one.nd rfl (by first | exact .inl rfl | exact .inr rfl) (pe_mkD kd_Machine hr (by decide) (by rfl) (pa_cons (pv 18) (pa_cons (pe_lst (pa_cons (pe_lc (own := [("_law_letter", 19)]) (g := (gName 19)) (tt := tYes) (by rfl) sc_one.nd (pi_str (pv 18)) (blkOk_by (own := [("_law_letter", 19)]) (N := N_one) (sc := defScope s_one) (by decide +kernel)) (fun _ _ _ _ _ => (pg_name (i := 19) sc_one.nd rfl (by first | exact .inl rfl | exact .inr rfl))) (fun _ _ _ _ _ => pts_nil) (fun _ _ _ _ _ => pe_int)) pa_nil)) pa_nil))))
      (pss_cons (ps_set (i := 21) sc_one.nd rfl (by first | exact .inl rfl | exact .inr rfl) (pe_revS (pv 3)))
      (pss_cons (ps_set (i := 22) sc_one.nd rfl (by first | exact .inl rfl | exact .inr rfl) (pe_mkD kd_Machine hr (by decide) (by rfl) (pa_cons (pv 21) (pa_cons (pe_lst (pa_cons (pe_lc (own := [("_law_letter", 19)]) (g := (gName 19)) (tt := tYes) (by rfl) sc_one.nd (pi_str (pv 21)) (blkOk_by (own := [("_law_letter", 19)]) (N := N_one) (sc := defScope s_one) (by decide +kernel)) (fun _ _ _ _ _ => (pg_name (i := 19) sc_one.nd rfl (by first | exact .inl rfl | exact .inr rfl))) (fun _ _ _ _ _ => pts_nil) (fun _ _ _ _ _ => pe_int)) pa_nil)) pa_nil))))
      (pss_cons (ps_set (i := 23) sc_one.nd rfl (by first | exact .inl rfl | exact .inr rfl) (pe_op op_mod (pe_callTy call_int1 (by rfl) m_int (by decide +kernel) (pa_cons (pe_ix ix_list (pv 1) pe_int (fun _ _ => rfl)) pa_nil)) (pv 4)))
      (pss_cons (ps_set (i := 24) sc_one.nd rfl (by first | exact .inl rfl | exact .inr rfl) (pe_op op_add_str (pe_op op_add_str (pe_slice C8.sl_txt (pv 3) po_none (po_some (pv 23))) pe_str) (pe_slice C8.sl_txt (pv 3) (po_some (pe_op op_add (pv 23) pe_int)) po_none)))
      (pss_cons (ps_set (i := 25) sc_one.nd rfl (by first | exact .inl rfl | exact .inr rfl) (pe_mkD kd_Machine hr (by decide) (by rfl) (pa_cons (pv 24) (pa_cons (pe_lst (pa_cons (pe_lc (own := [("_law_letter", 19)]) (g := (gName 19)) (tt := tYes) (by rfl) sc_one.nd (pi_str (pv 24)) (blkOk_by (own := [("_law_letter", 19)]) (N := N_one) (sc := defScope s_one) (by decide +kernel)) (fun _ _ _ _ _ => (pg_name (i := 19) sc_one.nd rfl (by first | exact .inl rfl | exact .inr rfl))) (fun _ _ _ _ _ => pts_nil) (fun _ _ _ _ _ => pe_int)) pa_nil)) pa_nil))))
      (pss_cons (ps_set (i := 26) sc_one.nd rfl (by first | exact .inl rfl | exact .inr rfl) (pe_mkD kd_Machine hr (by decide) (by rfl) (pa_cons (pv 3) (pa_cons (pe_lst (pa_cons (pe_lc (own := [("_law_letter", 19)]) (g := (gName 19)) (tt := tYes) (by rfl) sc_one.nd (pi_str (pv 3)) (blkOk_by (own := [("_law_letter", 19)]) (N := N_one) (sc := defScope s_one) (by decide +kernel)) (fun _ _ _ _ _ => (pg_name (i := 19) sc_one.nd rfl (by first | exact .inl rfl | exact .inr rfl))) (fun _ _ _ _ _ => pts_nil) (fun _ _ _ _ _ => pe_int)) pa_nil)) pa_nil))))
      (pss_cons (ps_for PassesOwn.never rfl (pi_range1 (by rfl) m_range (pa_cons pe_int pa_nil)) (pg_name (i := 27) sc_one.nd rfl (by first | exact .inl rfl | exact .inr rfl))
        (pss_cons (ps_if (PW.pt (pw_or (pt_not (pt_val (pe_cl c_refused hr (by decide) (by rfl) (pa_cons (pv 8) (pa_cons (pv 20) (pa_cons (pv 27) pa_nil)))))) (pw_or (pt_not (pt_val (pe_cl c_refused hr (by decide) (by rfl) (pa_cons (pv 20) (pa_cons (pv 8) (pa_cons (pv 27) pa_nil)))))) (pw_or1 (pt_not (pt_val (pe_cl c_refused hr (by decide) (by rfl) (pa_cons (pv 8) (pa_cons (pv 25) (pa_cons (pv 27) pa_nil)))))))))) (pss_one (ps_ret pe_bl)) pss_nil)
      (pss_one (ps_if (PW.pt (pw_and (pt_cmpR op_gt (pv 4) pe_int (nomark _)) (pw_and1 (pt_not (pt_val (pe_cl c_refused hr (by decide) (by rfl) (pa_cons (pv 22) (pa_cons (pv 8) (pa_cons (pv 27) pa_nil))))))))) (pss_one (ps_ret pe_bl)) pss_nil))))
      (pss_cut (ps_if (PW.pt (pw_and (pt_cmpR op_eq (pe_op op_mod (pe_callTy call_int1 (by rfl) m_int (by decide +kernel) (pa_cons (pe_ix ix_list (pv 1) pe_int (fun _ _ => rfl)) pa_nil)) pe_int) pe_int (nomark _)) (pw_and1 (pt_not (pt_val (pe_cl c_rings_right hr (by decide) (by rfl) (pa_cons (pv 6) pa_nil))))))) (pss_one (ps_ret pe_bl)) pss_nil)
      (pss_cut (ps_if (PW.pt (pw_or (pt_cmpR (op_own e_Machine hr (by decide)) (pv 25) (pv 26) (nomark _)) (pw_or (pt_cmpR (op_own e_Machine hr (by decide)) (pv 26) (pv 25) (nomark _)) (pw_or1 (PW.pt (pw_and (pt_cmpR op_gt (pv 4) pe_int (nomark _)) (pw_and1 (pt_cmpR (op_own e_Machine hr (by decide)) (pv 26) (pv 22) (nomark _))))))))) (pss_one (ps_ret pe_bl)) pss_nil)
      (pss_one (ps_ret (pe_and (pe_not (pe_cmpR (op_ownS eT_Machine nf hr (by decide)) (pv 26) (pv 3) (nomark _))) (pe_one (pe_cmpR (op_own e_Machine hr (by decide)) (pv 26) (pe_mkD kd_Machine hr (by decide) (by rfl) (pa_cons (pv 3) (pa_cons (pe_lst (pa_cons (pe_lc (own := [("_law_letter", 19)]) (g := (gName 19)) (tt := tYes) (by rfl) sc_one.nd (pi_str (pv 3)) (blkOk_by (own := [("_law_letter", 19)]) (N := N_one) (sc := defScope s_one) (by decide +kernel)) (fun _ _ _ _ _ => (pg_name (i := 19) sc_one.nd rfl (by first | exact .inl rfl | exact .inr rfl))) (fun _ _ _ _ _ => pts_nil) (fun _ _ _ _ _ => pe_int)) pa_nil)) pa_nil))) (nomark _))))))))))))))))))))))))))))))), ?_⟩
    walk_at "go"
    refine ⟨s, ns, 0, rfl, hS, ?_⟩
    walk_at "go"
    intro d0 ds0 nd0 dr0
    have sd0 := same_new (o := .lst (ds0.map V.int)) nd0
    have ed0 : (upd H d0 (.lst (ds0.map V.int))) d0 = some (.lst (ds0.map V.int)) := upd_same
    generalize upd H d0 (.lst (ds0.map V.int)) = H1 at sd0 ed0
    obtain ⟨j00, a00⟩ := dr_at dr0 (show 0 < 60 by decide)
    obtain ⟨j01, a01⟩ := dr_at dr0 (show 1 < 60 by decide)
    walk_at "go"
    intro p0 np0
    generalize eH_ : upd H1 p0 _ = H2
    have s2 : Same H1 H2 := by rw [← eH_]; exact same_new np0
    have ep0 : H2 p0 = some (.lst [.int 2]) := by rw [← eH_]; exact upd_same
    clear eH_
    have hT0 : Tk K d0 p0 ds0 60 H2 H2 := ⟨s2 _ _ ed0, dr0, ne_of_none ed0 np0, Z.Same.sb (Same.refl _), 2, ep0⟩
    have np0H := none_of sd0 np0
    have s02 := sd0.trans s2
    walk_at "go"
    refine ⟨d0, p0, 60, ds0, rfl, hT0, fun l H3 hT1 nd l0 l4 ndot => ?_⟩
    walk_at "go"
    refine ⟨by rw [S_len]; exact szl (by omega), ?_⟩
    rw [S_len]
    walk_at "go"
    refine ⟨d0, p0, 60, l.length, 6, ds0, rfl, hT1.slf, by decide, by decide, by omega, fun t1 A1 g1 z1 s1 H4 hT2 et1 tr1 eg1 wf1 z10 lz1 gz1 lg1 => ?_⟩
    have hT3 := hT1.tr hT2
    have s04 : Same H H4 := fun c u e => hT3.sb c u (fun z => by rw [z, np0H] at e; cases e) (s02 c u e)
    have ed4 := hT3.hA
    clear hT0 hT1 hT2 hT3 s2 sd0 ep0 ed0 s02 np0 np0H
    dsimp only [List.set]
    walk_at "go"
    refine ⟨s, ns, 1, rfl, s04.seq hS, ?_⟩
    walk_at "go"
    refine ⟨d0, _, _, _, rfl, rfl, SqL.of ed4, a00, ?_⟩
    walk_at "go"
    intro dm dsm ndm drm
    have sdm := same_new (o := .lst (dsm.map V.int)) ndm
    have edm : (upd H4 dm (.lst (dsm.map V.int))) dm = some (.lst (dsm.map V.int)) := upd_same
    generalize upd H4 dm (.lst (dsm.map V.int)) = H5 at sdm edm
    walk_at "go"
    intro p1 np1
    generalize eH_ : upd H5 p1 _ = H6
    have s6 : Same H5 H6 := by rw [← eH_]; exact same_new np1
    have ep1 : H6 p1 = some (.lst [.int 0]) := by rw [← eH_]; exact upd_same
    clear eH_
    have hU0 : Tk K dm p1 dsm 40 H6 H6 := ⟨s6 _ _ edm, drm, ne_of_none edm np1, Z.Same.sb (Same.refl _), 0, ep1⟩
    have np1H := none_of sdm np1
    have s46 := sdm.trans s6
    walk_at "go"
    refine ⟨dm, p1, 40, l.length, 6, dsm, rfl, hU0, by decide, by decide, by omega, fun t2 A2 g2 z2 s2 H7 hU1 et2 tr2 eg2 wf2 z20 lz2 gz2 lg2 => ?_⟩
    have s47 : Same H4 H7 := fun c u e => hU1.sb c u (fun z => by rw [z, np1H] at e; cases e) (s46 c u e)
    have ed7 := s47 _ _ ed4
    have edm7 := hU1.hA
    have et17 := s47 _ _ et1
    have tr17 := tr1.mono s47
    have eg17 := s47 _ _ eg1
    have s07 := s04.trans s47
    have l00 : l ≠ [] := fun e => by rw [e] at l0; exact Nat.lt_irrefl _ l0
    clear hU0 hU1 sdm edm s6 np1 ep1 np1H s46 s47 s04 ed4 et1 tr1 eg1 ndm nd0
    dsimp only [List.set]
    walk_at "go"
    refine ⟨t1, _, _, _, rfl, rfl, SqL.of et17, at_0, ?_⟩
    walk_at "go"
    refine ⟨t1, _, _, _, rfl, rfl, SqL.of et17, at_1, ?_⟩
    walk_at "go"
    refine ⟨true, true, A1, l, .ref g1, z1, s1, rfl, nd, l00, by omega, tr17.tb, wf1, by omega, ⟨.inr ⟨true, g1, rfl, SqL.of eg17⟩, gz1⟩, fun na H8 s8 _ hA => ?_⟩
    obtain ⟨L1, hL1⟩ : ∃ L1, L1 = AccS (tb z1) (inG s1) := ⟨_, rfl⟩
    rw [← hL1] at hA
    walk_at "go"
    refine ⟨t2, _, _, _, rfl, rfl, SqL.of (s8 _ _ et2), at_0, ?_⟩
    walk_at "go"
    refine ⟨t2, _, _, _, rfl, rfl, SqL.of (s8 _ _ et2), at_1, ?_⟩
    walk_at "go"
    refine ⟨true, true, A2, l, .ref g2, z2, s2, rfl, nd, l00, by omega, (tr2.mono s8).tb, wf2, by omega, ⟨.inr ⟨true, g2, rfl, SqL.of (s8 _ _ eg2)⟩, gz2⟩, fun nb H9 s9 _ hB => ?_⟩
    obtain ⟨L2, hL2⟩ : ∃ L2, L2 = AccS (tb z2) (inG s2) := ⟨_, rfl⟩
    rw [← hL2] at hB
    have hA9 := hA.mono s9
    obtain ⟨dxa, ra, ua, ena⟩ := hA9.ins
    obtain ⟨dxb, rb, ub, enb⟩ := hB.ins
    have szp : szP z1.length z2.length ≤ 1000000 := Nat.le_trans (szP_mono lz1 lz2) (by decide)
    walk_at "go"
    refine ⟨na, nb, dxa, dxb, _, _, rfl, rfl, ena, enb, na, nb, l, l, z1.length, z2.length, L1, L2, rfl, hA9, hB, nd, l00, by omega, szp, by omega, fun _ m1 H10 s10 _ h1 => ⟨m1, rfl, ?_⟩, fun e => absurd rfl e⟩
    walk_at "go"
    refine ⟨na, nb, dxa, dxb, _, _, rfl, rfl, s10 _ _ ena, s10 _ _ enb, na, nb, l, l, z1.length, z2.length, L1, L2, rfl, hA9.mono s10, hB.mono s10, nd, l00, by omega, szp, by omega, fun _ m2 H11 s11 _ h2 => ⟨m2, rfl, ?_⟩, fun e => absurd rfl e⟩
    have s57 := s10.trans s11
    walk_at "go"
    refine ⟨na, nb, dxa, dxb, _, _, rfl, rfl, s57 _ _ ena, s57 _ _ enb, na, nb, l, l, z1.length, z2.length, L1, L2, rfl, hA9.mono s57, hB.mono s57, nd, l00, by omega, szp, by omega, fun _ m3 H12 s12 _ h3 => ⟨m3, rfl, ?_⟩, fun e => absurd rfl e⟩
    have s58 := s57.trans s12
    walk_at "go"
    refine ⟨na, dxa, _, rfl, s58 _ _ ena, ?_⟩
    refine ⟨na, l, z1.length, L1, rfl, hA9.mono s58, nd, l00, by omega, (show z1.length + 1 ≤ 1000000 by omega), by omega, fun m4 H13 s13 _ h4 => ?_⟩
    have h19 := h1.mono (s11.trans (s12.trans s13))
    have h29 := h2.mono (s12.trans s13)
    have h39 := h3.mono s13
    walk_at "go"
    intro Fd nFd
    generalize eH_ : upd H13 Fd _ = H14
    have s14 : Same H13 H14 := by rw [← eH_]; exact same_new nFd
    have eFd : H14 Fd = some (.lst [.ref m1, .ref m2, .ref m3, .ref m4]) := by rw [← eH_]; exact upd_same
    clear eH_
    have s9x := s58.trans (s13.trans s14)
    have s7x := s8.trans (s9.trans s9x)
    have s0x := s07.trans s7x
    have h1x := h19.mono s14
    have h2x := h29.mono s14
    have h3x := h39.mono s14
    have h4x := h4.mono s14
    have hAx := hA9.mono s9x
    have hBx := hB.mono s9x
    have et1x := s7x _ _ et17
    have tr1x := tr17.mono s7x
    have eg1x := s7x _ _ eg17
    have et2x := s7x _ _ et2
    have tr2x := tr2.mono s7x
    have eg2x := s7x _ _ eg2
    have edx := s7x _ _ ed7
    have edmx := s7x _ _ edm7
    clear s8 s9 s10 s11 s57 s12 s58 s13 s14 h1 h2 h3 h4 h19 h29 h39 hA hA9 hB ena enb s9x s7x s07 et17 tr17 eg17 et2 tr2 eg2 ed7 edm7 nFd
    dsimp only [List.set]
    have sqF : SqL K H14 Fd [.ref m1, .ref m2, .ref m3, .ref m4] := SqL.of eFd
    walk_at "go"
    refine ⟨⟨_, sqF⟩, ?_⟩
    intro Dc nDc
    refine lc_flt (n := 4) (fun k => [V.ref m1, .ref m2, .ref m3, .ref m4].getD k .non) (fun _ => false) (fun _ => .non) (by omega) nDc (fun k J hk s3 => itq_go (b := true) (s3.seq sqF) (x := [V.ref m1, .ref m2, .ref m3, .ref m4].getD k .non) ?_) (fun J s3 => ⟨_, s3.seq sqF, Nat.le_refl _⟩) (fun k J x J2 hk s3 y => ⟨by rw [y.1]; exact Same.refl _, ?_⟩) (fun k => rfl) (fun k J Q1 hk s3 q1 => ?_) (fun k J Q2 hk e s3 q3 => by cases e) (fun J s3 eD => ?_)
    · obtain rfl | rfl | rfl | rfl : k = 0 ∨ k = 1 ∨ k = 2 ∨ k = 3 := by omega
      all_goals rfl
    · have := y.2 _ (s3.seq sqF)
      obtain rfl | rfl | rfl | rfl : k = 0 ∨ k = 1 ∨ k = 2 ∨ k = 3 := by omega
      all_goals exact (Option.some.inj this).symm
    · have q1 := q1 _ (Same.refl _)
      obtain rfl | rfl | rfl | rfl : k = 0 ∨ k = 1 ∨ k = 2 ∨ k = 3 := by omega
      · obtain ⟨dx, r, u, en⟩ := (h1x.mono s3).ins
        walk_at "go"
        refine ⟨m1, dx, _, rfl, en, ?_⟩
        walk_at "go"
        rw [decide_eq_true rfl]
        exact q1
      · obtain ⟨dx, r, u, en⟩ := (h2x.mono s3).ins
        walk_at "go"
        refine ⟨m2, dx, _, rfl, en, ?_⟩
        walk_at "go"
        rw [decide_eq_true rfl]
        exact q1
      · obtain ⟨dx, r, u, en⟩ := (h3x.mono s3).ins
        walk_at "go"
        refine ⟨m3, dx, _, rfl, en, ?_⟩
        walk_at "go"
        rw [decide_eq_true rfl]
        exact q1
      · obtain ⟨dx, r, u, en⟩ := (h4x.mono s3).ins
        walk_at "go"
        refine ⟨m4, dx, _, rfl, en, ?_⟩
        walk_at "go"
        rw [decide_eq_true rfl]
        exact q1
    have eD : J Dc = some (.lst []) := eD
    have s0J := s0x.trans s3
    walk_at "go"
    refine ⟨Dc, _, rfl, .inl (SqL.of eD), ?_⟩
    have pb : (2 + 1) * l.length ^ 2 ≤ 200000 := by
      have : l.length ^ 2 ≤ 4 ^ 2 := Nat.pow_le_pow_left l4 2
      omega
    walk_at "go"
    intro X H15 sX nX eX
    have s3X := s3.trans sX
    have eFx := s3 _ _ eFd
    have h1J := h1x.mono s3
    have h2J := h2x.mono s3
    have h3J := h3x.mono s3
    have h4J := h4x.mono s3
    have hAJ := hAx.mono s3
    have hBJ := hBx.mono s3
    have et1J := s3 _ _ et1x
    have tr1J := tr1x.mono s3
    have eg1J := s3 _ _ eg1x
    have et2J := s3 _ _ et2x
    have tr2J := tr2x.mono s3
    have eg2J := s3 _ _ eg2x
    have edJ := s3 _ _ edx
    have edmJ := s3 _ _ edmx
    clear sqF nDc eD s3 s3X h1x h2x h3x h4x hAx hBx et1x tr1x eg1x et2x tr2x eg2x edx edmx s0x eFd
    obtain ⟨ts0, hts0⟩ : ∃ ts, ts = sht l 2 := ⟨_, rfl⟩
    have lt0 : ∀ t ∈ ts0, t.length ≤ 9 ∧ ∀ c ∈ t, c ∈ l := fun t ht => by
      rw [hts0] at ht
      have := sht_mem l 2 t ht
      exact ⟨by omega, sht_in l 2 t ht⟩
    have ln1 : ts0.length ≤ 48 := by rw [hts0]; have := sht_len l0 2; have : l.length ^ 2 ≤ 4 ^ 2 := Nat.pow_le_pow_left l4 2; omega
    rw [← hts0] at eX
    clear hts0 pb
    dsimp only [List.set]
    walk_at "go"
    refine ⟨s, _, rfl, .inl ((s0J.trans sX).seq hS), ?_⟩
    rw [List.length_map]
    walk_at "go"
    obtain ⟨nn, enn, hnn⟩ : ∃ nn : Nat, nn = (if (if (ns.length : Int) - 2 > 3 then (ns.length : Int) - 2 else 3) < 16 then (if (ns.length : Int) - 2 > 3 then (ns.length : Int) - 2 else 3) else 16).toNat ∧ nn ≤ 16 := ⟨_, rfl, by split <;> split <;> omega⟩
    refine for_gen (n := nn) (fun k σ J2 => Same J J2 ∧ ∃ (ts : List (List Nat)) (v13 : Option V), J2 X = some (.lst (txs ts)) ∧ (∀ t ∈ ts, t.length ≤ 9 ∧ ∀ c ∈ t, c ∈ l) ∧ ts.length ≤ 48 + k ∧ σ = [some (.ref s), some (.ref d0), some (.ref p0), some (.str (S l)), some (.int (l.length : Int)), some (.ref t1), some (.ref dm), some (.ref t2), some (.ref na), some (.ref nb), some (.ref Fd), none, some (.ref X), v13, none, none, none, none, none, none, none, none, none, none, none, none, none, none]) ⟨sX, ts0, none, eX, lt0, ln1, rfl⟩ ?_ ?_ ?_ ?_
    · intro k σ J _hk _
      show k < Int.toNat _
      rw [enn] at _hk
      exact _hk
    · intro σ J _
      show Int.toNat _ ≤ nn
      rw [enn]
      exact Nat.le_refl _
    · rintro k σ J2 x J' hk ⟨s5, ts, v13, eX, lt, ln, rfl⟩ ⟨rfl, rfl⟩
      rw [show (0 : Int) + (k : Int) = (k : Int) by omega]
      walk_at "go"
      refine ⟨.inl ⟨rfl, _, SqL.of eX⟩, ?_⟩
      walk_at "go"
      refine ⟨s, ns, 2 + k, by rw [show ((2 + k : Nat) : Int) = 2 + (k : Int) by omega]; rfl, (s0J.trans s5).seq hS, ?_⟩
      walk_at "go"
      refine ⟨d0, _, _, _, rfl, rfl, SqL.of (s5 _ _ edJ), a01, ?_⟩
      walk_at "go"
      intro d1 ds1 nd1 dr1
      have sd1 := same_new (o := .lst (ds1.map V.int)) nd1
      have ed1 : (upd J' d1 (.lst (ds1.map V.int))) d1 = some (.lst (ds1.map V.int)) := upd_same
      generalize upd J' d1 (.lst (ds1.map V.int)) = J5 at sd1 ed1
      walk_at "go"
      intro pp npp
      generalize eH_ : upd J5 pp _ = J6
      have s6 : Same J5 J6 := by rw [← eH_]; exact same_new npp
      have epp : J6 pp = some (.lst [.int 0]) := by rw [← eH_]; exact upd_same
      clear eH_
      have hT0 : Tk K d1 pp ds1 12 J6 J6 := ⟨s6 _ _ ed1, dr1, ne_of_none ed1 npp, Z.Same.sb (Same.refl _), 0, epp⟩
      have nppJ := none_of sd1 npp
      have s56 := sd1.trans s6
      walk_at "go"
      refine ⟨d1, pp, 12, 9, ds1, l, rfl, hT0, l0, by omega, by decide, fun tx J7 hT2 ltx lin => ?_⟩
      have s57 : Same J' J7 := fun c u e => hT2.sb c u (fun z => by rw [z, nppJ] at e; cases e) (s56 c u e)
      have eX7 := s57 _ _ eX
      walk_at "go"
      refine ⟨X, _, _, rfl, rfl, eX7, by unfold txs; rw [List.length_map]; exact szC (by omega), ?_⟩
      refine ⟨Z.Same.mut (s5.trans s57) nX, ts ++ [tx], _, by rw [upd_same]; unfold txs; rw [List.map_append]; rfl, fun t ht => ?_, by rw [List.length_append]; show ts.length + 1 ≤ _; omega, rfl⟩
      rcases List.mem_append.mp ht with ht | ht
      · exact lt t ht
      · rw [List.mem_singleton.mp ht]
        exact ⟨ltx, lin⟩
    rintro σ J2 ⟨s5, ts, v13, eX, lt, ln, rfl⟩
    have h1 := h1J.mono s5
    have h2 := h2J.mono s5
    have h3 := h3J.mono s5
    have h4 := h4J.mono s5
    have hA := hAJ.mono s5
    have hB := hBJ.mono s5
    have et1 := s5 _ _ et1J
    have tr1 := tr1J.mono s5
    have eg1 := s5 _ _ eg1J
    have et2 := s5 _ _ et2J
    have tr2 := tr2J.mono s5
    have eg2 := s5 _ _ eg2J
    have ed := s5 _ _ edJ
    have edm := s5 _ _ edmJ
    have eF := s5 _ _ eFx
    have s0 := s0J.trans s5
    clear s5 h1J h2J h3J h4J hAJ hBJ et1J tr1J eg1J et2J tr2J eg2J edJ edmJ eFx s0J sX nX lt0 ln1 enn hnn
    walk_at "go"
    refine ⟨⟨_, SqL.of eX⟩, ?_⟩
    refine for_gen (n := ts.length) (fun k σ J => Same J2 J ∧ ∃ (v14 v15 v16 v17 : Option V), σ = [some (.ref s), some (.ref d0), some (.ref p0), some (.str (S l)), some (.int (l.length : Int)), some (.ref t1), some (.ref dm), some (.ref t2), some (.ref na), some (.ref nb), some (.ref Fd), none, some (.ref X), v13, v14, v15, v16, v17, none, none, none, none, none, none, none, none, none, none]) ⟨Same.refl _, none, none, none, none, rfl⟩ ?_ ?_ ?_ ?_
    · rintro k σ J3 hk ⟨s3, _⟩
      exact ⟨_, _, SqL.of (s3 _ _ eX), by unfold txs; rw [List.getElem?_map, List.getElem?_eq_getElem hk]; rfl⟩
    · rintro σ J3 ⟨s3, _⟩
      exact ⟨_, SqL.of (s3 _ _ eX), by unfold txs; rw [List.length_map]; exact Nat.le_refl _⟩
    · rintro k σ J3 x J4 hk ⟨s3, v14, v15, v16, v17, rfl⟩ ⟨rfl, y⟩
      have y := y _ (SqL.of (s3 _ _ eX))
      unfold txs at y
      rw [List.getElem?_map, List.getElem?_eq_getElem hk] at y
      cases y
      have ltk := lt _ (List.getElem_mem hk)
      generalize ts[k] = tx at ltk
      obtain ⟨v, hv⟩ := idx_ok ltk.2
      have vk : ∀ j ∈ v, j < l.length := idx_lt hv
      have same : ∀ b : Bool, ¬ (!decide (V.bl b = V.bl b)) = true := fun b => by simp
      have h1 := h1.mono s3
      have h2 := h2.mono s3
      have h3 := h3.mono s3
      have h4 := h4.mono s3
      have hA := hA.mono s3
      have hB := hB.mono s3
      have et1 := s3 _ _ et1
      have tr1 := tr1.mono s3
      have eg1 := s3 _ _ eg1
      have et2 := s3 _ _ et2
      have tr2 := tr2.mono s3
      have eg2 := s3 _ _ eg2
      have eF := s3 _ _ eF
      walk_at "go"
      refine ⟨t1, A1, g1, l, tx, z1, s1, rfl, et1, tr1.tb, eg1, nd, wf1, fun b1 hb1 => ?_⟩
      rw [← hL1] at hb1
      walk_at "go"
      refine ⟨t2, A2, g2, l, tx, z2, s2, rfl, et2, tr2.tb, eg2, nd, wf2, fun b2 hb2 => ?_⟩
      rw [← hL2] at hb2
      have q1 : L1 v ↔ b1 = true := (txl_v hv).symm.trans hb1.symm
      have q2 : L2 v ↔ b2 = true := (txl_v hv).symm.trans hb2.symm
      have i1 : L1 v ∧ L2 v ↔ (b1 && b2) = true := by rw [q1, q2]; cases b1 <;> cases b2 <;> decide
      have i2 : L1 v ∨ L2 v ↔ (b1 || b2) = true := by rw [q1, q2]; cases b1 <;> cases b2 <;> decide
      have i3 : L1 v ∧ ¬ L2 v ↔ (b1 && !b2) = true := by rw [q1, q2]; cases b1 <;> cases b2 <;> decide
      have i4 : (∀ j ∈ v, j < l.length) ∧ ¬ L1 v ↔ (!b1) = true := by
        rw [q1]
        cases b1
        · exact ⟨fun _ => rfl, fun _ => ⟨vk, Bool.false_ne_true⟩⟩
        · exact ⟨fun h => absurd rfl h.2, fun h => (by cases h)⟩
      dsimp only [List.set]
      refine ⟨fun σ' J => Same J4 J ∧ ∃ Du : Addr, J Du = some (.lst [.bl (b1 && b2), .bl (b1 || b2), .bl (b1 && !b2), .bl (!b1)]) ∧ σ' = [some (.ref s), some (.ref d0), some (.ref p0), some (.str (S l)), some (.int (l.length : Int)), some (.ref t1), some (.ref dm), some (.ref t2), some (.ref na), some (.ref nb), some (.ref Fd), none, some (.ref X), v13, some (.str (S tx)), some (.bl b1), some (.bl b2), some (.ref Du), none, none, none, none, none, none, none, none, none, none], ?_, ?_⟩
      · clear i1 i2 i3 i4 hb1 hb2 q1 q2
        cases b1 <;> cases b2
        all_goals (
          walk_at "go"
          intro Du nDu
          exact ⟨same_new nDu, Du, upd_same, rfl⟩)
      rintro σ' J5 ⟨s45, Du, eDu, rfl⟩
      have sqF : SqL K J5 Fd [.ref m1, .ref m2, .ref m3, .ref m4] := SqL.of (s45 _ _ eF)
      have h1 := h1.mono s45
      have h2 := h2.mono s45
      have h3 := h3.mono s45
      have h4 := h4.mono s45
      walk_at "go"
      refine ⟨⟨_, sqF⟩, ?_⟩
      intro Dc nDc
      refine lc_flt (n := 4) (fun k => [V.ref m1, .ref m2, .ref m3, .ref m4].getD k .non) (fun _ => true) (fun k => [V.bl (b1 && b2), .bl (b1 || b2), .bl (b1 && !b2), .bl (!b1)].getD k .non) (by omega) nDc (fun k J hk s => itq_go (b := true) (s.seq sqF) (x := [V.ref m1, .ref m2, .ref m3, .ref m4].getD k .non) ?_) (fun J s => ⟨_, s.seq sqF, Nat.le_refl _⟩) (fun k J x J2 hk s y => ⟨by rw [y.1]; exact Same.refl _, ?_⟩) (fun k => rfl) (fun k J Q hk s q => q _ (Same.refl _)) (fun k J Q2 hk _ s q3 => ?_) (fun J6 s6 eD => ?_)
      · obtain rfl | rfl | rfl | rfl : k = 0 ∨ k = 1 ∨ k = 2 ∨ k = 3 := by omega
        all_goals rfl
      · have := y.2 _ (s.seq sqF)
        obtain rfl | rfl | rfl | rfl : k = 0 ∨ k = 1 ∨ k = 2 ∨ k = 3 := by omega
        all_goals exact (Option.some.inj this).symm
      · have q4 := q3 _ (Same.refl _)
        clear q3
        have goal : ∀ (mm : Addr) (sz : Nat) (L : Lg) (b : Bool), McL C K J mm l sz L → (L v ↔ b = true) → Q2 (.bl b) J → (rInO C (spInL C K)) (.str (S tx)) (.ref mm) J Q2 := by
          intro mm sz L b hm hL qq
          obtain ⟨dx, r, u, en⟩ := hm.ins
          refine ⟨mm, dx, _, rfl, en, mm, l, tx, sz, L, rfl, hm, nd, fun b2 hb2 => ⟨b2, rfl, ?_⟩⟩
          have : b2 = b := beq_iff hb2 Iff.rfl ((txl_v hv).trans hL)
          rw [this]
          exact qq
        obtain rfl | rfl | rfl | rfl : k = 0 ∨ k = 1 ∨ k = 2 ∨ k = 3 := by omega
        · walk_at "go"
          exact goal m1 _ _ _ (h1.mono s) i1 q4
        · walk_at "go"
          exact goal m2 _ _ _ (h2.mono s) i2 q4
        · walk_at "go"
          exact goal m3 _ _ _ (h3.mono s) i3 q4
        · walk_at "go"
          exact goal m4 _ _ _ (h4.mono s) i4 q4
      have eD : J6 Dc = some (.lst [.bl (b1 && b2), .bl (b1 || b2), .bl (b1 && !b2), .bl (!b1)]) := eD
      have s46 := s45.trans s6
      have hA6 := hA.mono s46
      have hB6 := hB.mono s46
      obtain ⟨dxa, ra, ua, ena⟩ := hA6.ins
      obtain ⟨dxb, rb, ub, enb⟩ := hB6.ins
      have ee : PyData.eqv (.list [.bool (b1 && b2), .bool (b1 || b2), .bool (b1 && !b2), .bool (!b1)]) (.list [.bool (b1 && b2), .bool (b1 || b2), .bool (b1 && !b2), .bool (!b1)]) = true := by cases b1 <;> cases b2 <;> rfl
      clear i1 i2 i3 i4 q1 q2
      walk_at "go"
      refine ⟨_, _, .lst (SqL.of eD) (.cons (.bl _) (.cons (.bl _) (.cons (.bl _) (.cons (.bl _) .nil)))), .lst (SqL.of (s6 _ _ eDu)) (.cons (.bl _) (.cons (.bl _) (.cons (.bl _) (.cons (.bl _) .nil)))), rfl, rfl, ?_⟩
      rw [ee]
      refine ⟨false, rfl, ?_⟩
      walk_at "go"
      refine ⟨na, dxa, _, rfl, ena, na, l, tx, _, L1, rfl, hA6, nd, fun b hb => ⟨b, rfl, ?_⟩⟩
      obtain rfl : b = b1 := beq_iff hb hb1 Iff.rfl
      walk_at "go"
      refine ite2 (fun e => absurd e (same _)) fun _ => ?_
      walk_at "go"
      refine ⟨nb, dxb, _, rfl, enb, nb, l, tx, _, L2, rfl, hB6, nd, fun b' hb' => ⟨b', rfl, ?_⟩⟩
      obtain rfl : b' = b2 := beq_iff hb' hb2 Iff.rfl
      walk_at "go"
      refine ite2 (fun e => absurd e (same _)) fun _ => ?_
      walk_at "go"
      exact ⟨s3.trans s46, _, _, _, _, rfl⟩
    rintro σ J3 ⟨s3, v14, v15, v16, v17, rfl⟩
    have h_l : (S l).length = l.length := S_len _
    have hA := hA.mono s3
    have hB := hB.mono s3
    have ed := s3 _ _ ed
    have edm := s3 _ _ edm
    have s0 := s0.trans s3
    clear s3 h1 h2 h3 h4 et1 tr1 eg1 et2 tr2 eg2 eF eX lt ln
    have dot : Str.ofString "." = S [46] := by decide +kernel
    walk_at "go"
    refine ⟨by rw [dot, S_len, S_len]; exact szl (by show l.length + 1 ≤ 2000; omega), ?_⟩
    rw [dot, S_cat]
    have ndl : (l ++ [46]).Nodup := by
      rw [List.nodup_append]
      exact ⟨nd, by simp, fun x hx y hy => by rw [List.mem_singleton.mp hy]; exact fun z => ndot (z ▸ hx)⟩
    have ll : (l ++ [46]).length ≤ 5 := by rw [List.length_append]; show l.length + 1 ≤ 5; omega
    walk_at "go"
    intro D nD
    refine lc_zeros (by omega) nD (fun x => rfl) fun J s1 eD => ?_
    walk_at "go"
    intro T nT
    generalize eH_ : upd J T _ = J1
    have s2 : Same J J1 := by rw [← eH_]; exact same_new nT
    have eT : J1 T = some (.lst [.ref D]) := by rw [← eH_]; exact upd_same
    clear eH_
    walk_at "go"
    refine ⟨true, true, T, l ++ [46], [(D, List.replicate (l ++ [46]).length (some 0))], rfl, ndl, by simp, by omega, ⟨SqL.of eT, fun z m => by rw [List.mem_singleton.mp m]; exact SqL.of (s2 _ _ eD)⟩, wf_zero _ _, (show 1 ≤ 1000000 by decide), fun nc J2 s3 _ hC => ?_⟩
    have ss := s1.trans (s2.trans s3)
    have h_c : McL C K J2 nc (l ++ [46]) 1 (AccS [List.replicate (l ++ [46]).length (some 0)] (inG (List.range 1))) := hC
    have hA := hA.mono ss
    have hB := hB.mono ss
    have ed := ss _ _ ed
    have edm := ss _ _ edm
    have s0 := s0.trans ss
    clear s1 s2 s3 eD eT nD nT hC ss
    walk_at "go"
    refine ⟨by rw [S_len]; exact szl (by omega), ?_⟩
    rw [show ({ cps := (S l).cps.toList.reverse.toArray } : Str) = S l.reverse from rfl]
    have ndr : l.reverse.Nodup := List.pairwise_reverse.mpr (nd.imp fun h => Ne.symm h)
    have lr : l.reverse.length ≤ 5 := by rw [List.length_reverse]; omega
    walk_at "go"
    intro D nD
    refine lc_zeros (by omega) nD (fun x => rfl) fun J s1 eD => ?_
    walk_at "go"
    intro T nT
    generalize eH_ : upd J T _ = J1
    have s2 : Same J J1 := by rw [← eH_]; exact same_new nT
    have eT : J1 T = some (.lst [.ref D]) := by rw [← eH_]; exact upd_same
    clear eH_
    walk_at "go"
    refine ⟨true, true, T, l.reverse, [(D, List.replicate (l.reverse).length (some 0))], rfl, ndr, by simpa using l00, by omega, ⟨SqL.of eT, fun z m => by rw [List.mem_singleton.mp m]; exact SqL.of (s2 _ _ eD)⟩, wf_zero _ _, (show 1 ≤ 1000000 by decide), fun nv J2 s3 _ hN => ?_⟩
    have h_d : McL C K J2 nv (l.reverse) 1 (AccS [List.replicate (l.reverse).length (some 0)] (inG (List.range 1))) := hN
    have ss := s1.trans (s2.trans s3)
    have h_c := h_c.mono ss
    have hA := hA.mono ss
    have hB := hB.mono ss
    have ed := ss _ _ ed
    have edm := ss _ _ edm
    have s0 := s0.trans ss
    clear s1 s2 s3 eD eT nD nT hN ss
    obtain ⟨at', eat, lat⟩ := modN j01 l0
    have hlen : (S l).length ≤ sizeLine := by rw [S_len]; exact szl (by omega)
    walk_at "go"
    refine ⟨d0, _, _, _, rfl, rfl, SqL.of ed, a01, ?_⟩
    walk_at "go"
    dsimp only
    rw [eat]
    walk_at "go"
    rw [SX.slice_to (by omega), Int.toNat_natCast]
    walk_at "go"
    refine ⟨by rw [S_len, S_len, List.length_take]; exact szl (by show min at' l.length + 1 ≤ 2000; omega), ?_⟩
    rw [S_cat]
    walk_at "go"
    rw [SX.slice_from (by omega), show (((at' : Nat) : Int) + 1).toNat = at' + 1 by omega]
    refine ⟨by rw [S_len, S_len, List.length_append, List.length_take, List.length_drop]; exact szl (by show min at' l.length + 1 + (l.length - (at' + 1)) ≤ 2000; omega), ?_⟩
    rw [S_cat]
    obtain ⟨dt, hdt⟩ : ∃ dt, dt = l.take at' ++ [46] ++ l.drop (at' + 1) := ⟨_, rfl⟩
    have d46 : 46 ∈ dt := by rw [hdt]; simp
    have dne : dt ≠ l := fun e => ndot (e ▸ d46)
    have dt0 : dt ≠ [] := fun e => by rw [e] at d46; exact absurd d46 List.not_mem_nil
    have dtl : dt.length ≤ 5 := by
      rw [hdt, List.length_append, List.length_append, List.length_take, List.length_drop]
      show min at' l.length + 1 + (l.length - (at' + 1)) ≤ 5
      omega
    have dtn : dt.Nodup := by
      rw [hdt, List.append_assoc, List.nodup_append]
      have n1 : (l.take at' ++ l.drop at').Nodup := by rw [List.take_append_drop]; exact nd
      obtain ⟨a1, a2, a3⟩ := List.nodup_append.mp n1
      have sub : ∀ x ∈ l.drop (at' + 1), x ∈ l.drop at' := fun x hx => by
        rw [← List.drop_drop] at hx
        exact List.mem_of_mem_drop hx
      refine ⟨a1, List.nodup_cons.mpr ⟨fun h => ndot (List.mem_of_mem_drop h), by rw [← List.drop_drop]; exact a2.sublist (List.drop_sublist _ _)⟩, fun x hx y hy => ?_⟩
      rcases List.mem_cons.mp hy with rfl | hy
      · exact fun e => ndot (e ▸ List.mem_of_mem_take hx)
      · exact a3 x hx y (sub y hy)
    rw [← hdt]
    clear hdt
    walk_at "go"
    intro D nD
    refine lc_zeros (by omega) nD (fun x => rfl) fun J s1 eD => ?_
    walk_at "go"
    intro T nT
    generalize eH_ : upd J T _ = J1
    have s2 : Same J J1 := by rw [← eH_]; exact same_new nT
    have eT : J1 T = some (.lst [.ref D]) := by rw [← eH_]; exact upd_same
    clear eH_
    walk_at "go"
    refine ⟨true, true, T, dt, [(D, List.replicate (dt).length (some 0))], rfl, dtn, dt0, by omega, ⟨SqL.of eT, fun z m => by rw [List.mem_singleton.mp m]; exact SqL.of (s2 _ _ eD)⟩, wf_zero _ _, (show 1 ≤ 1000000 by decide), fun np J2 s3 _ hN => ?_⟩
    have h_p : McL C K J2 np (dt) 1 (AccS [List.replicate (dt).length (some 0)] (inG (List.range 1))) := hN
    have ss := s1.trans (s2.trans s3)
    have h_c := h_c.mono ss
    have h_d := h_d.mono ss
    have hA := hA.mono ss
    have hB := hB.mono ss
    have ed := ss _ _ ed
    have edm := ss _ _ edm
    have s0 := s0.trans ss
    have h_p := h_p
    clear s1 s2 s3 eD eT nD nT hN ss
    walk_at "go"
    intro D nD
    refine lc_zeros (by omega) nD (fun x => rfl) fun J s1 eD => ?_
    walk_at "go"
    intro T nT
    generalize eH_ : upd J T _ = J1
    have s2 : Same J J1 := by rw [← eH_]; exact same_new nT
    have eT : J1 T = some (.lst [.ref D]) := by rw [← eH_]; exact upd_same
    clear eH_
    walk_at "go"
    refine ⟨true, true, T, l, [(D, List.replicate (l).length (some 0))], rfl, nd, l00, by omega, ⟨SqL.of eT, fun z m => by rw [List.mem_singleton.mp m]; exact SqL.of (s2 _ _ eD)⟩, wf_zero _ _, (show 1 ≤ 1000000 by decide), fun ny J2 s3 _ hN => ?_⟩
    have h_y : McL C K J2 ny (l) 1 (AccS [List.replicate (l).length (some 0)] (inG (List.range 1))) := hN
    have ss := s1.trans (s2.trans s3)
    have h_c := h_c.mono ss
    have h_d := h_d.mono ss
    have hA := hA.mono ss
    have hB := hB.mono ss
    have ed := ss _ _ ed
    have edm := ss _ _ edm
    have s0 := s0.trans ss
    have h_p := h_p.mono ss
    clear s1 s2 s3 eD eT nD nT hN ss
    have ne_c : l ≠ l ++ [46] := fun e => by
      have := congrArg List.length e
      rw [List.length_append] at this
      exact absurd this (by show l.length ≠ l.length + 1; omega)
    dsimp only [List.set]
    walk_at "go"
    refine for_gen (n := 4) (fun k σ J => Same J2 J ∧ ∃ (v27 : Option V), σ = [some (.ref s), some (.ref d0), some (.ref p0), some (.str (S l)), some (.int (l.length : Int)), some (.ref t1), some (.ref dm), some (.ref t2), some (.ref na), some (.ref nb), some (.ref Fd), none, some (.ref X), v13, v14, v15, v16, v17, some (.str (S (l ++ [46]))), none, some (.ref nc), some (.str (S l.reverse)), some (.ref nv), some (.int (at' : Int)), some (.str (S dt)), some (.ref np), some (.ref ny), v27]) ⟨Same.refl _, none, rfl⟩ ?_ ?_ ?_ ?_
    · intro k σ J hk _
      show k < 4
      exact hk
    · intro σ J _
      show 4 ≤ 4
      exact Nat.le_refl _
    · rintro k σ J x J' hk ⟨sj, v27, rfl⟩ ⟨rfl, rfl⟩
      rw [show (0 : Int) + (k : Int) = (k : Int) by omega]
      walk_at "go"
      refine ⟨na, nc, l, l ++ [46], z1.length, 1, k, L1, _, rfl, hA.mono sj, h_c.mono sj, ne_c, nd, l00, by omega, by omega, by omega, fun K1 sk1 => ?_⟩
      have sj1 := sj.trans sk1
      walk_at "go"
      refine ⟨nc, na, l ++ [46], l, 1, z1.length, k, _, L1, rfl, h_c.mono sj1, hA.mono sj1, ne_c.symm, ndl, by simp, by omega, by omega, by omega, fun K2 sk2 => ?_⟩
      have sj2 := sj1.trans sk2
      walk_at "go"
      refine ⟨na, np, l, dt, z1.length, 1, k, L1, _, rfl, hA.mono sj2, h_p.mono sj2, dne.symm, nd, l00, by omega, by omega, by omega, fun K3 sk3 => ?_⟩
      have sj3 := sj2.trans sk3
      walk_at "go"
      by_cases c1 : 1 < l.length
      · rw [decide_eq_true (show (1 : Int) < (l.length : Int) by omega)]
        walk_at "go"
        refine ⟨nv, na, l.reverse, l, 1, z1.length, k, _, L1, rfl, h_d.mono sj3, hA.mono sj3, rev_ne nd c1, ndr, by simpa using l00, by omega, by omega, by omega, fun K4 sk4 => ?_⟩
        have sj4 := sj3.trans sk4
        walk_at "go"
        first | exact ⟨sj4, _, rfl⟩ | exact ⟨_, rfl⟩
      · rw [decide_eq_false (show ¬ (1 : Int) < (l.length : Int) by omega)]
        walk_at "go"
        first | exact ⟨sj3, _, rfl⟩ | exact ⟨_, rfl⟩
    · rintro σ J ⟨sj, v27, rfl⟩
      have h_d := h_d.mono sj
      have h_p := h_p.mono sj
      have h_y := h_y.mono sj
      have ed := sj _ _ ed
      have edm := sj _ _ edm
      have s0 := s0.trans sj
      refine ⟨fun σ' J' => Same J J' ∧ σ' = [some (.ref s), some (.ref d0), some (.ref p0), some (.str (S l)), some (.int (l.length : Int)), some (.ref t1), some (.ref dm), some (.ref t2), some (.ref na), some (.ref nb), some (.ref Fd), none, some (.ref X), v13, v14, v15, v16, v17, some (.str (S (l ++ [46]))), none, some (.ref nc), some (.str (S l.reverse)), some (.ref nv), some (.int (at' : Int)), some (.str (S dt)), some (.ref np), some (.ref ny), v27], ?_, ?_⟩
      · walk_at "go"
        refine ⟨d0, _, _, _, rfl, rfl, SqL.of ed, a00, ?_⟩
        walk_at "go"
        by_cases c0 : j00 % 4 = 0
        · rw [show decide (V.int ((fun i j => i % j) j00 4) = V.int 0) = true from decide_eq_true (by show V.int (j00 % 4) = V.int 0; rw [c0])]
          walk_at "go"
          refine ⟨dm, dsm, rfl, SqL.of edm, drm, fun J1 t1 => ?_⟩
          walk_at "go"
          first | exact ⟨t1, rfl⟩ | rfl
        · rw [show decide (V.int ((fun i j => i % j) j00 4) = V.int 0) = false from decide_eq_false (fun z => c0 (by injection z))]
          walk_at "go"
          first | exact ⟨Same.refl _, rfl⟩ | rfl
      rintro σ' J1 ⟨st, rfl⟩
      have h_d := h_d.mono st
      have h_p := h_p.mono st
      have h_y := h_y.mono st
      have s0 := s0.trans st
      obtain ⟨dxd, rd, ud, end_⟩ := h_d.ins
      obtain ⟨dxp, rp, up, enp⟩ := h_p.ins
      obtain ⟨dxy, ry, uy, eny⟩ := h_y.ins
      clear hA hB ed edm st sj
      refine ⟨fun σ' J' => J' = J1 ∧ σ' = [some (.ref s), some (.ref d0), some (.ref p0), some (.str (S l)), some (.int (l.length : Int)), some (.ref t1), some (.ref dm), some (.ref t2), some (.ref na), some (.ref nb), some (.ref Fd), none, some (.ref X), v13, v14, v15, v16, v17, some (.str (S (l ++ [46]))), none, some (.ref nc), some (.str (S l.reverse)), some (.ref nv), some (.int (at' : Int)), some (.str (S dt)), some (.ref np), some (.ref ny), v27], ?_, ?_⟩
      · walk_at "go"
        refine ⟨np, ny, dxp, dxy, _, _, rfl, rfl, enp, eny, np, ny, dt, l, _, _, _, _, rfl, h_p, h_y, fun b hb => ?_⟩
        have hb : b = false := by
          cases b with
          | false => rfl
          | true => exact absurd (hb.mp rfl).1 dne
        subst hb
        walk_at "go"
        refine ⟨ny, np, dxy, dxp, _, _, rfl, rfl, eny, enp, ny, np, l, dt, _, _, _, _, rfl, h_y, h_p, fun b hb => ?_⟩
        have hb : b = false := by
          cases b with
          | false => rfl
          | true => exact absurd (hb.mp rfl).1 dne.symm
        subst hb
        walk_at "go"
        by_cases c1 : 1 < l.length
        · rw [decide_eq_true (show (1 : Int) < (l.length : Int) by omega)]
          walk_at "go"
          refine ⟨ny, nv, dxy, dxd, _, _, rfl, rfl, eny, end_, ny, nv, l, l.reverse, _, _, _, _, rfl, h_y, h_d, fun b hb => ?_⟩
          have hb : b = false := by
            cases b with
            | false => rfl
            | true => exact absurd (hb.mp rfl).1 (rev_ne nd c1).symm
          subst hb
          walk_at "go"
          first | exact ⟨rfl, rfl⟩ | rfl
        · rw [decide_eq_false (show ¬ (1 : Int) < (l.length : Int) by omega)]
          walk_at "go"
          first | exact ⟨rfl, rfl⟩ | rfl
      rintro σ' J9 ⟨rfl, rfl⟩
      walk_at "go"
      refine ⟨ny, S l, dxy, _, rfl, rfl, eny, ?_⟩
      refine ⟨ny, S l, l, _, _, rfl, h_y, ?_⟩
      walk_at "go"
      intro D nD
      refine lc_zeros (by omega) nD (fun x => rfl) fun J s1 eD => ?_
      walk_at "go"
      intro T nT
      generalize eH_ : upd J T _ = J2
      have s2 : Same J J2 := by rw [← eH_]; exact same_new nT
      have eT : J2 T = some (.lst [.ref D]) := by rw [← eH_]; exact upd_same
      clear eH_
      walk_at "go"
      refine ⟨true, true, T, l, [(D, List.replicate (l).length (some 0))], rfl, nd, l00, by omega, ⟨SqL.of eT, fun z m => by rw [List.mem_singleton.mp m]; exact SqL.of (s2 _ _ eD)⟩, wf_zero _ _, (show 1 ≤ 1000000 by decide), fun nz J3 s3 _ hN => ?_⟩
      have hN : McL C K J3 nz l 1 (AccS [List.replicate l.length (some 0)] (inG (List.range 1))) := hN
      have ss := s1.trans (s2.trans s3)
      obtain ⟨dxz, rz, uz, enz⟩ := hN.ins
      refine ⟨ny, nz, dxy, dxz, _, _, rfl, rfl, ss _ _ eny, enz, ny, nz, l, l, _, _, _, _, rfl, h_y.mono ss, hN, fun b hb => ?_⟩
      have hb : b = true := hb.mpr ⟨rfl, fun _ => Iff.rfl⟩
      subst hb
      exact ⟨_, rfl, q _ (s0.trans ss)⟩
end
end Z
set_option pp.maxSteps 700
set_option Elab.async false
set_option linter.all false
set_option maxRecDepth 100000
set_option maxHeartbeats 4000000
open SX (S S_inj S_len S_cat)
namespace Z
open Mc
open PySem PySem.Spec PyProof.Rows L2
open C8 (pss_cut tCut)
local macro_rules | `(tactic| walk_at "num") => `(tactic| first | rfl | omega | decide | exact Nat.le_of_lt (small1000 (by simp)) | exact ⟨by omega, by omega⟩ | exact ⟨by omega, by omega, by omega⟩ | exact ⟨by decide, by decide, by decide⟩ | exact Or.inl ⟨by omega, by omega⟩ | exact Or.inr ⟨by omega, by omega⟩)
local macro_rules | `(tactic| walk_at "go") => `(tactic| repeat (first | refine ⟨_, rfl, ?_⟩ | refine ⟨_, _, rfl, rfl, ?_⟩ | refine ⟨_, _, rfl, ?_⟩ | (refine ⟨_, _, rfl, rfl, ?_, ?_⟩; focus walk_at "num") | refine Or.inl ⟨_, rfl, ?_⟩ | refine ⟨_, _, _, _, rfl, rfl, (by assumption), (by rfl), ?_⟩ | refine ⟨_, _, _, _, _, rfl, (by assumption), (by assumption), (by assumption), (by rfl), ?_⟩ | refine ⟨rfl, ?_⟩ | (refine And.intro ?_ ?_; focus walk_at "num")))
abbrev s_two : Stmt := topS 41
abbrev N_two : List Str := ["_law_script", "_law_draws_here", "_law_place", "_law_letters_here", "_law_many", "_law_one_here", "_law_more", "_law_other", "_law_a", "_law_b", "_law_chain", "_law_back", "_law_rounds", "_law_nothing", "_law_texts", "_law_k", "_law_text"]
abbrev P_two : List Str := ["_law_script"]
theorem sc_two : FnScope N_two P_two (defScope s_two) := ⟨rfl, rfl, rfl, by decide +kernel, rfl, by decide +kernel, by decide +kernel⟩
section
variable {P : Program} {w : World} {K : PySem.W.Frag} {mg : Str → Option Value} {base : Heap} {f C CL CH : Addr} {fd : FuncData}
theorem txl_nil {l tx : List Nat} (h : ∀ c ∈ tx, c ∈ l) : Txl (ixOf l) (StL (AccS [] (inG []))) tx ↔ tx = [] := by
  obtain ⟨v, hv⟩ := idx_ok h
  rw [txl_v hv]
  have no : ∀ {w : List Nat}, StL (AccS [] (inG [])) w → w = [] := fun h => by
    rcases h.cases' with h | ⟨u, v, _, _, _, ⟨t, e, _⟩⟩
    · exact h
    · rw [show Mc.st [] = none from rfl, rn_none] at e
      cases e
  cases tx with
  | nil =>
    cases hv
    exact ⟨fun _ => rfl, fun _ => .nil⟩
  | cons c t =>
    refine ⟨fun h => ?_, fun h => by cases h⟩
    rw [no h] at hv
    exact absurd (idx_len hv) (by simp)
theorem ok_two (F : FnP K "_law_two" s_two f fd) (isC : C8.InsC K C) (m_isinstance : mg "isinstance" = none) (g_Machine : mg "Machine" = some (.ref C)) (m_int : mg "int" = none) (m_len : mg "len" = none) (m_range : mg "range" = none) (m_min : mg "min" = none) (m_max : mg "max" = none) (cls : Cls K C) (n_letters : NoAttr K C "letters") (c_cell : Cal P w K mg base 1 "_law_cell" (spCell K)) (c_draws : Cal P w K mg base 1 "_law_draws" spDraws) (c_letters : Cal P w K mg base 2 "_law_letters" (spLet K)) (c_table : Cal P w K mg base 2 "_law_table" (spTab K)) (c_word : Cal P w K mg base 2 "_law_word" (spWord K)) (c_short : Cal P w K mg base 2 "_law_short" (spShort K)) (c_accepts : Cal P w K mg base 2 "_law_accepts" (spAcc K)) (c_chained : Cal P w K mg base 3 "_law_chained" (spChd K)) (c_in_pieces : Cal P w K mg base 3 "_law_in_pieces" (spPcs K)) (k_Machine : Mak P w K mg base 4 "Machine" (spL3 C K)) (kd_Machine : MakD P w K mg base 4 "Machine" [.non] (spL2 C K)) (in_Machine : InO P w K mg base 2 C (spInL C K)) (e_Machine : Eqo P w K mg base 1 C (spEqL C K)) (o_rshift : Bin2X P w K mg base 6 C .RShift (spOp2 szC2 CatL C CL K)) (me_rounds : Met P w K mg base 6 C "rounds" (spOp1 (fun s => 2 * 2 ^ s) (fun _ => StL) C K)) : FnOk P w K mg base CX0 8 f fd P_two (spLawP K) := by
  refine F.ok sc_two (fun vs H Q E h => ?_) (fun cdv A outer s H vs Q E hr h => ?_)
  · obtain ⟨s, ns, rfl, _⟩ := h
    rfl
  · obtain ⟨s, ns, rfl, hS, ls, q⟩ := h
    refine ⟨_, PSs.nox (pss_cons (ps_set (i := 1) sc_two.nd rfl (by first | exact .inl rfl | exact .inr rfl) (pe_cl c_draws hr (by decide) (by rfl) (pa_cons (pe_cl c_cell hr (by decide) (by rfl) (pa_cons (pv 0) (pa_cons pe_int pa_nil))) (pa_cons pe_int pa_nil))))
      (pss_cons (ps_set (i := 2) sc_two.nd rfl (by first | exact .inl rfl | exact .inr rfl) (pe_lst (pa_cons pe_int pa_nil)))
      (pss_cons (ps_set (i := 3) sc_two.nd rfl (by first | exact .inl rfl | exact .inr rfl) (pe_slice C8.sl_txt (pe_cl c_letters hr (by decide) (by rfl) (pa_cons (pv 1) (pa_cons (pv 2) pa_nil))) po_none (po_some pe_int)))
      (pss_cons (ps_set (i := 4) sc_two.nd rfl (by first | exact .inl rfl | exact .inr rfl) (pe_callB call_len_str (by rfl) m_len PySem.boot_len (pa_cons (pv 3) pa_nil)))
      (pss_cons (ps_set (i := 5) sc_two.nd rfl (by first | exact .inl rfl | exact .inr rfl) (pe_cl c_table hr (by decide) (by rfl) (pa_cons (pv 1) (pa_cons (pv 2) (pa_cons (pv 4) (pa_cons pe_int pa_nil))))))
      (pss_cons (ps_set (i := 6) sc_two.nd rfl (by first | exact .inl rfl | exact .inr rfl) (pe_cl c_draws hr (by decide) (by rfl) (pa_cons (pe_op op_add (pe_cl c_cell hr (by decide) (by rfl) (pa_cons (pv 0) (pa_cons pe_int pa_nil))) (pe_ix ix_list (pv 1) pe_int (fun _ _ => rfl))) (pa_cons pe_int pa_nil))))
      (pss_cons (ps_set (i := 7) sc_two.nd rfl (by first | exact .inl rfl | exact .inr rfl) (pe_cl c_table hr (by decide) (by rfl) (pa_cons (pv 6) (pa_cons (pe_lst (pa_cons pe_int pa_nil)) (pa_cons (pv 4) (pa_cons pe_int pa_nil))))))
      (pss_cons (ps_set (i := 8) sc_two.nd rfl (by first | exact .inl rfl | exact .inr rfl) (pe_mk k_Machine hr (by decide) (by rfl) (pa_cons (pv 3) (pa_cons (pe_ix ix_list (pv 5) pe_int (fun _ _ => rfl)) (pa_cons (pe_ix ix_list (pv 5) pe_int (fun _ _ => rfl)) pa_nil)))))
      (pss_cons (ps_set (i := 9) sc_two.nd rfl (by first | exact .inl rfl | exact .inr rfl) (pe_mk k_Machine hr (by decide) (by rfl) (pa_cons (pv 3) (pa_cons (pe_ix ix_list (pv 7) pe_int (fun _ _ => rfl)) (pa_cons (pe_ix ix_list (pv 7) pe_int (fun _ _ => rfl)) pa_nil)))))
      (pss_cons (ps_set (i := 10) sc_two.nd rfl (by first | exact .inl rfl | exact .inr rfl) (pe_op2E o_rshift (fun _ => passS0) hr (by decide) (pv 8) (pv 9)))
      (pss_cons (ps_set (i := 11) sc_two.nd rfl (by first | exact .inl rfl | exact .inr rfl) (pe_op2E o_rshift (fun _ => passS0) hr (by decide) (pv 9) (pv 8)))
      (pss_cons (ps_set (i := 12) sc_two.nd rfl (by first | exact .inl rfl | exact .inr rfl) (pe_me0 me_rounds (pv 8) hr (by decide)))
      (pss_cons (ps_set (i := 13) sc_two.nd rfl (by first | exact .inl rfl | exact .inr rfl) (pe_me0 me_rounds (pe_mkD kd_Machine hr (by decide) (by rfl) (pa_cons (pv 3) (pa_cons (pe_lst pa_nil) pa_nil))) hr (by decide)))
      (pss_cons (ps_set (i := 14) sc_two.nd rfl (by first | exact .inl rfl | exact .inr rfl) (pe_cl c_short hr (by decide) (by rfl) (pa_cons (pv 3) (pa_cons pe_int pa_nil))))
      (pss_cons (ps_for PassesOwn.never rfl (pi_range1 (by rfl) m_range (pa_cons (pe_callB (call_min2 rfl) (by rfl) m_min (by decide +kernel) (pa_cons pe_int (pa_cons (pe_callB (call_max2 rfl) (by rfl) m_max (by decide +kernel) (pa_cons pe_int (pa_cons (pe_op op_sub (pe_callB call_len_seq (by rfl) m_len PySem.boot_len (pa_cons (pv 0) pa_nil)) pe_int) pa_nil))) pa_nil))) pa_nil)) (pg_name (i := 15) sc_two.nd rfl (by first | exact .inl rfl | exact .inr rfl))
        (pss_one (ps_expr (pe_bm PySem.F.plainAttrs_list PySem.F.slot_list_append PySem.F.type_list_append mt_append (pv 14) (pa_cons (pe_cl c_word hr (by decide) (by rfl) (pa_cons (pe_cl c_draws hr (by decide) (by rfl) (pa_cons (pe_op op_add (pe_op op_add (pe_cl c_cell hr (by decide) (by rfl) (pa_cons (pv 0) (pa_cons (pe_op op_add pe_int (pv 15)) pa_nil))) (pe_op op_mul pe_int (pv 15))) (pe_ix ix_list (pv 1) pe_int (fun _ _ => rfl))) (pa_cons pe_int pa_nil))) (pa_cons (pe_lst (pa_cons pe_int pa_nil)) (pa_cons (pv 3) (pa_cons pe_int pa_nil))))) pa_nil)))))
      (pss_cons (ps_for PassesOwn.never rfl (pi_list (pv 14)) (pg_name (i := 16) sc_two.nd rfl (by first | exact .inl rfl | exact .inr rfl))
        (pss_cons (ps_if (pt_cmpR op_ne (pe_cmpR (op_ownIn in_Machine hr (by decide)) (pv 16) (pv 10) (by rfl)) (pe_cl c_chained hr (by decide) (by rfl) (pa_cons (pv 5) (pa_cons (pv 7) (pa_cons (pv 3) (pa_cons (pv 16) pa_nil))))) (nomark _)) (pss_one (ps_ret pe_bl)) pss_nil)
      (pss_cons (ps_if (pt_cmpR op_ne (pe_cmpR (op_ownIn in_Machine hr (by decide)) (pv 16) (pv 11) (by rfl)) (pe_cl c_chained hr (by decide) (by rfl) (pa_cons (pv 7) (pa_cons (pv 5) (pa_cons (pv 3) (pa_cons (pv 16) pa_nil))))) (nomark _)) (pss_one (ps_ret pe_bl)) pss_nil)
      (pss_cons (ps_if (PW.pt (pw_or (pt_cmpR op_ne (pe_cmpR (op_ownIn in_Machine hr (by decide)) (pv 16) (pv 12) (by rfl)) (pe_cl c_in_pieces hr (by decide) (by rfl) (pa_cons (pv 5) (pa_cons (pv 3) (pa_cons (pv 16) pa_nil)))) (nomark _)) (pw_or1 (pt_cmpR op_ne (pe_cmpR (op_ownIn in_Machine hr (by decide)) (pv 16) (pv 13) (by rfl)) (pe_cmpR op_eq (pv 16) pe_str (nomark _)) (nomark _))))) (pss_one (ps_ret pe_bl)) pss_nil)
      (pss_one (ps_if (PW.pt (pw_or (pt_cmpR op_ne (pe_cmpR (op_ownIn in_Machine hr (by decide)) (pv 16) (pv 8) (by rfl)) (pe_cl c_accepts hr (by decide) (by rfl) (pa_cons (pv 5) (pa_cons (pv 3) (pa_cons (pv 16) pa_nil)))) (nomark _)) (pw_or1 (pt_cmpR op_ne (pe_cmpR (op_ownIn in_Machine hr (by decide)) (pv 16) (pv 9) (by rfl)) (pe_cl c_accepts hr (by decide) (by rfl) (pa_cons (pv 7) (pa_cons (pv 3) (pa_cons (pv 16) pa_nil)))) (nomark _))))) (pss_one (ps_ret pe_bl)) pss_nil))))))
      (pss_cons (ps_if (PW.pt (pw_or (pt_not (pt_val (pe_callB (C8.call_isC isC) (by rfl) m_isinstance (by decide +kernel) (pa_cons (pv 10) (pa_cons (pe_glob (by rfl) g_Machine relv_ref) pa_nil))))) (pw_or (pt_not (pt_val (pe_callB (C8.call_isC isC) (by rfl) m_isinstance (by decide +kernel) (pa_cons (pv 12) (pa_cons (pe_glob (by rfl) g_Machine relv_ref) pa_nil))))) (pw_or1 (pt_cmpR op_ne (pe_fld (pv 10) rfl) (pv 3) (nomark _)))))) (pss_one (ps_ret pe_bl)) pss_nil)
      (pss_one (ps_ret (pe_and (pe_cmpR op_eq (pe_fld (pv 12) rfl) (pv 3) (nomark _)) (pe_and (pe_cmpR (op_own e_Machine hr (by decide)) (pe_me0 me_rounds (pv 8) hr (by decide)) (pv 12) (nomark _)) (pe_one (pe_cmpR (op_own e_Machine hr (by decide)) (pe_op2E o_rshift (fun _ => passS0) hr (by decide) (pv 8) (pv 9)) (pv 10) (nomark _)))))))))))))))))))))))), ?_⟩
    walk_at "go"
    refine ⟨s, ns, 0, rfl, hS, ?_⟩
    walk_at "go"
    intro d0 ds0 nd0 dr0
    have sd0 := same_new (o := .lst (ds0.map V.int)) nd0
    have ed0 : (upd H d0 (.lst (ds0.map V.int))) d0 = some (.lst (ds0.map V.int)) := upd_same
    generalize upd H d0 (.lst (ds0.map V.int)) = H1 at sd0 ed0
    obtain ⟨j00, a00⟩ := dr_at dr0 (show 0 < 60 by decide)
    obtain ⟨j01, a01⟩ := dr_at dr0 (show 1 < 60 by decide)
    walk_at "go"
    intro p0 np0
    generalize eH_ : upd H1 p0 _ = H2
    have s2 : Same H1 H2 := by rw [← eH_]; exact same_new np0
    have ep0 : H2 p0 = some (.lst [.int 2]) := by rw [← eH_]; exact upd_same
    clear eH_
    have hT0 : Tk K d0 p0 ds0 60 H2 H2 := ⟨s2 _ _ ed0, dr0, ne_of_none ed0 np0, Z.Same.sb (Same.refl _), 2, ep0⟩
    have np0H := none_of sd0 np0
    have s02 := sd0.trans s2
    walk_at "go"
    refine ⟨d0, p0, 60, ds0, rfl, hT0, fun lw H3 hT1 ndw lw0 lw4 _ => ?_⟩
    walk_at "go"
    rw [SX.slice_to (by omega), show (3 : Int).toNat = 3 from rfl]
    obtain ⟨l, hl⟩ : ∃ l, l = lw.take 3 := ⟨_, rfl⟩
    have nd : l.Nodup := hl ▸ ndw.sublist (List.take_sublist _ _)
    have l0 : 0 < l.length := by rw [hl, List.length_take]; omega
    have l4 : l.length ≤ 3 := by rw [hl, List.length_take]; omega
    rw [← hl]
    walk_at "go"
    refine ⟨by rw [S_len]; exact szl (by omega), ?_⟩
    walk_at "go"
    refine ⟨by rw [S_len]; exact szl (by omega), ?_⟩
    rw [S_len]
    walk_at "go"
    refine ⟨d0, p0, 60, l.length, 3, ds0, rfl, hT1.slf, by decide, by decide, by omega, fun t1 A1 g1 z1 s1 H4 hT2 et1 tr1 eg1 wf1 z10 lz1 gz1 lg1 => ?_⟩
    have hT3 := hT1.tr hT2
    have s04 : Same H H4 := fun c u e => hT3.sb c u (fun z => by rw [z, np0H] at e; cases e) (s02 c u e)
    have ed4 := hT3.hA
    clear hT0 hT1 hT2 hT3 s2 sd0 ep0 ed0 s02 np0 np0H
    dsimp only [List.set]
    walk_at "go"
    refine ⟨s, ns, 1, rfl, s04.seq hS, ?_⟩
    walk_at "go"
    refine ⟨d0, _, _, _, rfl, rfl, SqL.of ed4, a00, ?_⟩
    walk_at "go"
    intro dm dsm ndm drm
    have sdm := same_new (o := .lst (dsm.map V.int)) ndm
    have edm : (upd H4 dm (.lst (dsm.map V.int))) dm = some (.lst (dsm.map V.int)) := upd_same
    generalize upd H4 dm (.lst (dsm.map V.int)) = H5 at sdm edm
    walk_at "go"
    intro p1 np1
    generalize eH_ : upd H5 p1 _ = H6
    have s6 : Same H5 H6 := by rw [← eH_]; exact same_new np1
    have ep1 : H6 p1 = some (.lst [.int 0]) := by rw [← eH_]; exact upd_same
    clear eH_
    have hU0 : Tk K dm p1 dsm 40 H6 H6 := ⟨s6 _ _ edm, drm, ne_of_none edm np1, Z.Same.sb (Same.refl _), 0, ep1⟩
    have np1H := none_of sdm np1
    have s46 := sdm.trans s6
    walk_at "go"
    refine ⟨dm, p1, 40, l.length, 3, dsm, rfl, hU0, by decide, by decide, by omega, fun t2 A2 g2 z2 s2 H7 hU1 et2 tr2 eg2 wf2 z20 lz2 gz2 lg2 => ?_⟩
    have s47 : Same H4 H7 := fun c u e => hU1.sb c u (fun z => by rw [z, np1H] at e; cases e) (s46 c u e)
    have ed7 := s47 _ _ ed4
    have edm7 := hU1.hA
    have et17 := s47 _ _ et1
    have tr17 := tr1.mono s47
    have eg17 := s47 _ _ eg1
    have s07 := s04.trans s47
    have l00 : l ≠ [] := fun e => by rw [e] at l0; exact Nat.lt_irrefl _ l0
    clear hU0 hU1 sdm edm s6 np1 ep1 np1H s46 s47 s04 ed4 et1 tr1 eg1 ndm nd0
    dsimp only [List.set]
    walk_at "go"
    refine ⟨t1, _, _, _, rfl, rfl, SqL.of et17, at_0, ?_⟩
    walk_at "go"
    refine ⟨t1, _, _, _, rfl, rfl, SqL.of et17, at_1, ?_⟩
    walk_at "go"
    refine ⟨true, true, A1, l, .ref g1, z1, s1, rfl, nd, l00, by omega, tr17.tb, wf1, by omega, ⟨.inr ⟨true, g1, rfl, SqL.of eg17⟩, gz1⟩, fun na H8 s8 _ hA => ?_⟩
    obtain ⟨L1, hL1⟩ : ∃ L1, L1 = AccS (tb z1) (inG s1) := ⟨_, rfl⟩
    rw [← hL1] at hA
    walk_at "go"
    refine ⟨t2, _, _, _, rfl, rfl, SqL.of (s8 _ _ et2), at_0, ?_⟩
    walk_at "go"
    refine ⟨t2, _, _, _, rfl, rfl, SqL.of (s8 _ _ et2), at_1, ?_⟩
    walk_at "go"
    refine ⟨true, true, A2, l, .ref g2, z2, s2, rfl, nd, l00, by omega, (tr2.mono s8).tb, wf2, by omega, ⟨.inr ⟨true, g2, rfl, SqL.of (s8 _ _ eg2)⟩, gz2⟩, fun nb H9 s9 _ hB => ?_⟩
    obtain ⟨L2, hL2⟩ : ∃ L2, L2 = AccS (tb z2) (inG s2) := ⟨_, rfl⟩
    rw [← hL2] at hB
    have hA9 := hA.mono s9
    obtain ⟨dxa, ra, ua, ena⟩ := hA9.ins
    obtain ⟨dxb, rb, ub, enb⟩ := hB.ins
    have szc : szC2 z1.length z2.length ≤ 1000000 := Nat.le_trans (szC2_mono lz1 lz2) (by decide)
    have szd : szC2 z2.length z1.length ≤ 1000000 := Nat.le_trans (szC2_mono lz2 lz1) (by decide)
    have szr : 2 * 2 ^ z1.length ≤ 1000000 := Nat.le_trans (Nat.mul_le_mul_left 2 (Nat.pow_le_pow_right (by decide) lz1)) (by decide)
    walk_at "go"
    refine ⟨na, nb, dxa, dxb, _, _, rfl, rfl, ena, enb, na, nb, l, l, z1.length, z2.length, L1, L2, rfl, hA9, hB, nd, l00, by omega, szc, by omega, fun _ m1 H10 s10 _ h1 => ⟨m1, rfl, ?_⟩, fun e => absurd rfl e⟩
    walk_at "go"
    refine ⟨nb, na, dxb, dxa, _, _, rfl, rfl, s10 _ _ enb, s10 _ _ ena, nb, na, l, l, z2.length, z1.length, L2, L1, rfl, hB.mono s10, hA9.mono s10, nd, l00, by omega, szd, by omega, fun _ m2 H11 s11 _ h2 => ⟨m2, rfl, ?_⟩, fun e => absurd rfl e⟩
    have s57 := s10.trans s11
    walk_at "go"
    refine ⟨na, dxa, _, rfl, s57 _ _ ena, by rfl, ?_⟩
    refine ⟨na, l, z1.length, L1, rfl, hA9.mono s57, nd, l00, by omega, szr, by omega, fun m3 H12 s12 _ h3 => ?_⟩
    walk_at "go"
    intro Z0 nZ0
    generalize eH_ : upd H12 Z0 _ = H13
    have s13 : Same H12 H13 := by rw [← eH_]; exact same_new nZ0
    have eZ0 : H13 Z0 = some (.lst []) := by rw [← eH_]; exact upd_same
    clear eH_
    walk_at "go"
    refine ⟨true, true, Z0, l, [], rfl, nd, l00, by omega, ⟨SqL.of eZ0, fun z m => absurd m (by simp)⟩, ⟨fun r m => absurd m (by simp [Z.tb]), fun r m => absurd m (by simp [Z.tb])⟩, by decide, fun ne H14 s14 _ hE => ?_⟩
    obtain ⟨dxe, re, ue, ene⟩ := hE.ins
    walk_at "go"
    refine ⟨ne, dxe, _, rfl, ene, by rfl, ?_⟩
    refine ⟨ne, l, 0, _, rfl, hE, nd, l00, by omega, by decide, by omega, fun m4 H15 s15 _ h4 => ?_⟩
    have s35 := s13.trans (s14.trans s15)
    have s9x := s57.trans (s12.trans s35)
    have s7x := s8.trans (s9.trans s9x)
    have s0J := s07.trans s7x
    have h1J := h1.mono (s11.trans (s12.trans s35))
    have h2J := h2.mono (s12.trans s35)
    have h3J := h3.mono s35
    have h4J : McL C K H15 m4 l (2 * 2 ^ 0) (StL (AccS [] (inG []))) := h4
    have hAJ := hA9.mono s9x
    have hBJ := hB.mono s9x
    have et1J := s7x _ _ et17
    have tr1J := tr17.mono s7x
    have eg1J := s7x _ _ eg17
    have et2J := s7x _ _ et2
    have tr2J := tr2.mono s7x
    have eg2J := s7x _ _ eg2
    have edJ := s7x _ _ ed7
    clear s8 s9 s10 s11 s57 s12 s13 s14 s15 h1 h2 h3 h4 hE hA hA9 hB ena enb ene s9x s7x s07 et17 tr17 eg17 et2 tr2 eg2 ed7 edm7 eZ0 nZ0 s35
    dsimp only [List.set]
    have pb : (2 + 1) * l.length ^ 2 ≤ 200000 := by
      have : l.length ^ 2 ≤ 3 ^ 2 := Nat.pow_le_pow_left l4 2
      omega
    walk_at "go"
    intro X H16 sX nX eX
    obtain ⟨ts0, hts0⟩ : ∃ ts, ts = sht l 2 := ⟨_, rfl⟩
    have lt0 : ∀ t ∈ ts0, t.length ≤ 9 ∧ ∀ c ∈ t, c ∈ l := fun t ht => by
      rw [hts0] at ht
      have := sht_mem l 2 t ht
      exact ⟨by omega, sht_in l 2 t ht⟩
    have ln1 : ts0.length ≤ 48 := by rw [hts0]; have := sht_len l0 2; have : l.length ^ 2 ≤ 3 ^ 2 := Nat.pow_le_pow_left l4 2; omega
    rw [← hts0] at eX
    clear hts0 pb
    dsimp only [List.set]
    walk_at "go"
    refine ⟨s, _, rfl, .inl ((s0J.trans sX).seq hS), ?_⟩
    rw [List.length_map]
    walk_at "go"
    obtain ⟨nn, enn, hnn⟩ : ∃ nn : Nat, nn = (if (if (ns.length : Int) - 2 > 4 then (ns.length : Int) - 2 else 4) < 14 then (if (ns.length : Int) - 2 > 4 then (ns.length : Int) - 2 else 4) else 14).toNat ∧ nn ≤ 14 := ⟨_, rfl, by split <;> split <;> omega⟩
    refine for_gen (n := nn) (fun k σ J2 => Same H15 J2 ∧ ∃ (ts : List (List Nat)) (v15 : Option V), J2 X = some (.lst (txs ts)) ∧ (∀ t ∈ ts, t.length ≤ 9 ∧ ∀ c ∈ t, c ∈ l) ∧ ts.length ≤ 48 + k ∧ σ = [some (.ref s), some (.ref d0), some (.ref p0), some (.str (S l)), some (.int (l.length : Int)), some (.ref t1), some (.ref dm), some (.ref t2), some (.ref na), some (.ref nb), some (.ref m1), some (.ref m2), some (.ref m3), some (.ref m4), some (.ref X), v15, none]) ⟨sX, ts0, none, eX, lt0, ln1, rfl⟩ ?_ ?_ ?_ ?_
    · intro k σ J _hk _
      show k < Int.toNat _
      rw [enn] at _hk
      exact _hk
    · intro σ J _
      show Int.toNat _ ≤ nn
      rw [enn]
      exact Nat.le_refl _
    · rintro k σ J2 x J' hk ⟨s5, ts, v15, eX, lt, ln, rfl⟩ ⟨rfl, rfl⟩
      rw [show (0 : Int) + (k : Int) = (k : Int) by omega]
      walk_at "go"
      refine ⟨.inl ⟨rfl, _, SqL.of eX⟩, ?_⟩
      walk_at "go"
      refine ⟨s, ns, 2 + k, by rw [show ((2 + k : Nat) : Int) = 2 + (k : Int) by omega]; rfl, (s0J.trans s5).seq hS, ?_⟩
      walk_at "go"
      refine ⟨d0, _, _, _, rfl, rfl, SqL.of (s5 _ _ edJ), a01, ?_⟩
      walk_at "go"
      intro d1 ds1 nd1 dr1
      have sd1 := same_new (o := .lst (ds1.map V.int)) nd1
      have ed1 : (upd J' d1 (.lst (ds1.map V.int))) d1 = some (.lst (ds1.map V.int)) := upd_same
      generalize upd J' d1 (.lst (ds1.map V.int)) = J5 at sd1 ed1
      walk_at "go"
      intro pp npp
      generalize eH_ : upd J5 pp _ = J6
      have s6 : Same J5 J6 := by rw [← eH_]; exact same_new npp
      have epp : J6 pp = some (.lst [.int 0]) := by rw [← eH_]; exact upd_same
      clear eH_
      have hT0 : Tk K d1 pp ds1 12 J6 J6 := ⟨s6 _ _ ed1, dr1, ne_of_none ed1 npp, Z.Same.sb (Same.refl _), 0, epp⟩
      have nppJ := none_of sd1 npp
      have s56 := sd1.trans s6
      walk_at "go"
      refine ⟨d1, pp, 12, 9, ds1, l, rfl, hT0, l0, by omega, by decide, fun tx J7 hT2 ltx lin => ?_⟩
      have s57 : Same J' J7 := fun c u e => hT2.sb c u (fun z => by rw [z, nppJ] at e; cases e) (s56 c u e)
      have eX7 := s57 _ _ eX
      walk_at "go"
      refine ⟨X, _, _, rfl, rfl, eX7, by unfold txs; rw [List.length_map]; exact szC (by omega), ?_⟩
      refine ⟨Z.Same.mut (s5.trans s57) nX, ts ++ [tx], _, by rw [upd_same]; unfold txs; rw [List.map_append]; rfl, fun t ht => ?_, by rw [List.length_append]; show ts.length + 1 ≤ _; omega, rfl⟩
      rcases List.mem_append.mp ht with ht | ht
      · exact lt t ht
      · rw [List.mem_singleton.mp ht]
        exact ⟨ltx, lin⟩
    rintro σ J2 ⟨s5, ts, v15, eX, lt, ln, rfl⟩
    have h1 := h1J.mono s5
    have h2 := h2J.mono s5
    have h3 := h3J.mono s5
    have h4 := h4J.mono s5
    have hA := hAJ.mono s5
    have hB := hBJ.mono s5
    have et1 := s5 _ _ et1J
    have tr1 := tr1J.mono s5
    have eg1 := s5 _ _ eg1J
    have et2 := s5 _ _ et2J
    have tr2 := tr2J.mono s5
    have eg2 := s5 _ _ eg2J
    have ed := s5 _ _ edJ
    have s0 := s0J.trans s5
    clear s5 h1J h2J h3J h4J hAJ hBJ et1J tr1J eg1J et2J tr2J eg2J edJ s0J sX nX lt0 ln1 enn hnn
    walk_at "go"
    refine ⟨⟨_, SqL.of eX⟩, ?_⟩
    refine for_gen (n := ts.length) (fun k σ J => Same J2 J ∧ ∃ (v16 : Option V), σ = [some (.ref s), some (.ref d0), some (.ref p0), some (.str (S l)), some (.int (l.length : Int)), some (.ref t1), some (.ref dm), some (.ref t2), some (.ref na), some (.ref nb), some (.ref m1), some (.ref m2), some (.ref m3), some (.ref m4), some (.ref X), v15, v16]) ⟨Same.refl _, none, rfl⟩ ?_ ?_ ?_ ?_
    · rintro k σ J3 hk ⟨s3, _⟩
      exact ⟨_, _, SqL.of (s3 _ _ eX), by unfold txs; rw [List.getElem?_map, List.getElem?_eq_getElem hk]; rfl⟩
    · rintro σ J3 ⟨s3, _⟩
      exact ⟨_, SqL.of (s3 _ _ eX), by unfold txs; rw [List.length_map]; exact Nat.le_refl _⟩
    · rintro k σ J3 x J4 hk ⟨s3, v16, rfl⟩ ⟨rfl, y⟩
      have y := y _ (SqL.of (s3 _ _ eX))
      unfold txs at y
      rw [List.getElem?_map, List.getElem?_eq_getElem hk] at y
      cases y
      have ltk := lt _ (List.getElem_mem hk)
      generalize ts[k] = tx at ltk
      have same : ∀ b : Bool, ¬ (!decide (V.bl b = V.bl b)) = true := fun b => by simp
      have h1 := h1.mono s3
      have h2 := h2.mono s3
      have h3 := h3.mono s3
      have h4 := h4.mono s3
      have hA := hA.mono s3
      have hB := hB.mono s3
      have et1 := s3 _ _ et1
      have tr1 := tr1.mono s3
      have eg1 := s3 _ _ eg1
      have et2 := s3 _ _ et2
      have tr2 := tr2.mono s3
      have eg2 := s3 _ _ eg2
      obtain ⟨dx1, r1, u1, en1⟩ := h1.ins
      obtain ⟨dx2, r2, u2, en2⟩ := h2.ins
      obtain ⟨dx3, r3, u3, en3⟩ := h3.ins
      walk_at "go"
      refine ⟨m1, dx1, _, rfl, en1, m1, l, tx, _, _, rfl, h1, nd, fun b hb => ⟨b, rfl, ?_⟩⟩
      walk_at "go"
      refine ⟨t1, t2, A1, A2, g1, g2, l, tx, z1, z2, s1, s2, rfl, et1, tr1.tb, eg1, et2, tr2.tb, eg2, nd, wf1, wf2, by omega, fun b' hb' => ?_⟩
      rw [← hL1, ← hL2] at hb'
      obtain rfl : b = b' := beq_iff hb hb' Iff.rfl
      walk_at "go"
      refine ite2 (fun e => absurd e (same _)) fun _ => ?_
      walk_at "go"
      refine ⟨m2, dx2, _, rfl, en2, m2, l, tx, _, _, rfl, h2, nd, fun b hb => ⟨b, rfl, ?_⟩⟩
      walk_at "go"
      refine ⟨t2, t1, A2, A1, g2, g1, l, tx, z2, z1, s2, s1, rfl, et2, tr2.tb, eg2, et1, tr1.tb, eg1, nd, wf2, wf1, by omega, fun b' hb' => ?_⟩
      rw [← hL1, ← hL2] at hb'
      obtain rfl : b = b' := beq_iff hb hb' Iff.rfl
      walk_at "go"
      refine ite2 (fun e => absurd e (same _)) fun _ => ?_
      walk_at "go"
      refine ⟨m3, dx3, _, rfl, en3, m3, l, tx, _, _, rfl, h3, nd, fun b hb => ⟨b, rfl, ?_⟩⟩
      walk_at "go"
      refine ⟨t1, A1, g1, l, tx, z1, s1, rfl, et1, tr1.tb, eg1, nd, wf1, by omega, fun b' J5 s45 hb' => ?_⟩
      rw [← hL1] at hb'
      obtain rfl : b = b' := beq_iff hb hb' Iff.rfl
      have h4 := h4.mono s45
      have hA := hA.mono s45
      have hB := hB.mono s45
      have et1 := s45 _ _ et1
      have tr1 := tr1.mono s45
      have eg1 := s45 _ _ eg1
      have et2 := s45 _ _ et2
      have tr2 := tr2.mono s45
      have eg2 := s45 _ _ eg2
      obtain ⟨dx4, r4, u4, en4⟩ := h4.ins
      obtain ⟨dxa, ra, ua, ena⟩ := hA.ins
      obtain ⟨dxb, rb, ub, enb⟩ := hB.ins
      walk_at "go"
      refine ite2 (fun e => absurd e (same _)) fun _ => ?_
      walk_at "go"
      refine ⟨m4, dx4, _, rfl, en4, m4, l, tx, _, _, rfl, h4, nd, fun b hb => ⟨b, rfl, ?_⟩⟩
      have hb := hb.trans (txl_nil ltk.2)
      have hb : b = decide (V.str (S tx) = V.str (Str.ofString "")) := by
        rw [show Str.ofString "" = S [] by decide +kernel]
        refine beq_iff hb decide_eq_true_iff ⟨fun h => by rw [h], fun h => ?_⟩
        injection h with h
        exact S_inj h
      walk_at "go"
      rw [← hb]
      refine ite2 (fun e => absurd e (same _)) fun _ => ?_
      walk_at "go"
      refine ⟨na, dxa, _, rfl, ena, na, l, tx, _, _, rfl, hA, nd, fun b1 hb1 => ⟨b1, rfl, ?_⟩⟩
      walk_at "go"
      refine ⟨t1, A1, g1, l, tx, z1, s1, rfl, et1, tr1.tb, eg1, nd, wf1, fun b2 hb2 => ?_⟩
      rw [← hL1] at hb2
      obtain rfl : b1 = b2 := beq_iff hb1 hb2 Iff.rfl
      walk_at "go"
      refine ite2 (fun e => absurd e (same _)) fun _ => ?_
      walk_at "go"
      refine ⟨nb, dxb, _, rfl, enb, nb, l, tx, _, _, rfl, hB, nd, fun b3 hb3 => ⟨b3, rfl, ?_⟩⟩
      walk_at "go"
      refine ⟨t2, A2, g2, l, tx, z2, s2, rfl, et2, tr2.tb, eg2, nd, wf2, fun b4 hb4 => ?_⟩
      rw [← hL2] at hb4
      obtain rfl : b3 = b4 := beq_iff hb3 hb4 Iff.rfl
      walk_at "go"
      refine ite2 (fun e => absurd e (same _)) fun _ => ?_
      exact ⟨s3.trans s45, _, rfl⟩
    rintro σ J3 ⟨s3, v16, rfl⟩
    have hA := hA.mono s3
    have hB := hB.mono s3
    have h1 := h1.mono s3
    have h3 := h3.mono s3
    have s0 := s0.trans s3
    obtain ⟨dx1, r1, u1, en1⟩ := h1.ins
    obtain ⟨dx3, r3, u3, en3⟩ := h3.ins
    obtain ⟨dxa, ra, ua, ena⟩ := hA.ins
    obtain ⟨dxb, rb, ub, enb⟩ := hB.ins
    clear h2 h4 et1 tr1 eg1 et2 tr2 eg2 ed eX lt ln s3
    walk_at "go"
    refine ⟨m1, dx1, _, rfl, en1, ?_⟩
    walk_at "go"
    refine ⟨m3, dx3, _, rfl, en3, ?_⟩
    walk_at "go"
    refine ite2 (fun e => absurd e (by simp)) fun _ => ?_
    walk_at "go"
    rw [decide_eq_true (p := V.str (S l) = V.str (S l)) rfl]
    walk_at "go"
    refine ⟨na, dxa, _, rfl, ena, by rfl, ?_⟩
    refine ⟨na, l, z1.length, L1, rfl, hA, nd, l00, by omega, szr, by omega, fun m5 J4 t5 _ h5 => ?_⟩
    obtain ⟨dx5, r5, u5, en5⟩ := h5.ins
    walk_at "go"
    refine ⟨m5, m3, dx5, dx3, _, _, rfl, rfl, en5, t5 _ _ en3, m5, m3, l, l, _, _, _, _, rfl, h5, h3.mono t5, fun b hb => ?_⟩
    have hb : b = true := hb.mpr ⟨rfl, fun _ => Iff.rfl⟩
    subst hb
    walk_at "go"
    refine ⟨na, nb, dxa, dxb, _, _, rfl, rfl, t5 _ _ ena, t5 _ _ enb, na, nb, l, l, z1.length, z2.length, L1, L2, rfl, hA.mono t5, hB.mono t5, nd, l00, by omega, szc, by omega, fun _ m6 J5 t6 _ h6 => ⟨m6, rfl, ?_⟩, fun e => absurd rfl e⟩
    obtain ⟨dx6, r6, u6, en6⟩ := h6.ins
    walk_at "go"
    refine ⟨m6, m1, dx6, dx1, _, _, rfl, rfl, en6, (t5.trans t6) _ _ en1, m6, m1, l, l, _, _, _, _, rfl, h6, h1.mono (t5.trans t6), fun b hb => ?_⟩
    have hb : b = true := hb.mpr ⟨rfl, fun _ => Iff.rfl⟩
    subst hb
    exact ⟨_, rfl, q _ (s0.trans (t5.trans t6))⟩
end
end Z
set_option pp.maxSteps 700
set_option Elab.async false
set_option linter.all false
set_option maxRecDepth 100000
set_option maxHeartbeats 4000000
open SX (S S_inj S_len S_cat)
namespace Z
open Mc
open PySem PySem.Spec PyProof.Rows L2
open C8 (pss_cut tCut)
local macro_rules | `(tactic| walk_at "num") => `(tactic| first | rfl | omega | decide | exact Nat.le_of_lt (small1000 (by simp)) | exact ⟨by omega, by omega⟩ | exact ⟨by omega, by omega, by omega⟩ | exact ⟨by decide, by decide, by decide⟩ | exact Or.inl ⟨by omega, by omega⟩ | exact Or.inr ⟨by omega, by omega⟩)
local macro_rules | `(tactic| walk_at "go") => `(tactic| repeat (first | refine ⟨_, rfl, ?_⟩ | refine ⟨_, _, rfl, rfl, ?_⟩ | refine ⟨_, _, rfl, ?_⟩ | (refine ⟨_, _, rfl, rfl, ?_, ?_⟩; focus walk_at "num") | refine Or.inl ⟨_, rfl, ?_⟩ | refine ⟨_, _, _, _, rfl, rfl, (by assumption), (by rfl), ?_⟩ | refine ⟨_, _, _, _, _, rfl, (by assumption), (by assumption), (by assumption), (by rfl), ?_⟩ | refine ⟨rfl, ?_⟩ | (refine And.intro ?_ ?_; focus walk_at "num")))
abbrev s_law : Stmt := topS 42
abbrev N_law : List Str := ["_law_script"]
abbrev P_law : List Str := ["_law_script"]
theorem sc_law : FnScope N_law P_law (defScope s_law) := ⟨rfl, rfl, rfl, by decide +kernel, rfl, by decide +kernel, by decide +kernel⟩
section
variable {P : Program} {w : World} {K : PySem.W.Frag} {mg : Str → Option Value} {base : Heap} {f : Addr} {fd : FuncData}
def spLaw (K : PySem.W.Frag) : Sp := fun vs H Q _ => ∃ (s : Addr) (ns : List Int), vs = [.ref s] ∧ SqL K H s (ns.map V.int) ∧ ns.length ≤ 63 ∧ ∀ H', Q (.bl true) H'
theorem ok_law (F : FnP K "law" s_law f fd) (c_one : Cal P w K mg base 8 "_law_one" (spLawP K)) (c_two : Cal P w K mg base 8 "_law_two" (spLawP K)) : FnOk P w K mg base CX0 9 f fd P_law (spLaw K) := by
  refine F.ok sc_law (fun vs H Q E h => ?_) (fun cdv A outer s H vs Q E hr h => ?_)
  · obtain ⟨s, ns, rfl, _⟩ := h
    rfl
  · obtain ⟨s, ns, rfl, hS, ls, q⟩ := h
    refine ⟨_, PSs.nox (pss_one (ps_ret (pe_and (pe_cl c_one hr (by decide) (by rfl) (pa_cons (pv 0) pa_nil)) (pe_one (pe_cl c_two hr (by decide) (by rfl) (pa_cons (pv 0) pa_nil)))))), ?_⟩
    walk_at "go"
    refine ⟨s, ns, rfl, hS, ls, fun H1 s1 => ?_⟩
    walk_at "go"
    refine ⟨s, ns, rfl, s1.seq hS, ls, fun H2 s2 => ?_⟩
    walk_at "go"
    exact q _
end
end Z
set_option pp.maxSteps 700
set_option Elab.async false
set_option linter.all false
set_option maxRecDepth 100000
set_option maxHeartbeats 4000000
set_option maxHeartbeats 0
namespace Z
open PySem PySem.Spec PyProof.Rows L2 Mc
def d_check_letters : He.DefD := ⟨("check_letters", none), "check_letters", "check_letters", defArgs s_check_letters, defBody s_check_letters, defScope s_check_letters, [], []⟩
def d_check_rows : He.DefD := ⟨("check_rows", none), "check_rows", "check_rows", defArgs s_check_rows, defBody s_check_rows, defScope s_check_rows, [], []⟩
def d_flags_of : He.DefD := ⟨("flags_of", none), "flags_of", "flags_of", defArgs s_flags_of, defBody s_flags_of, defScope s_flags_of, [], []⟩
def d_live_rows : He.DefD := ⟨("live_rows", none), "live_rows", "live_rows", defArgs s_live_rows, defBody s_live_rows, defScope s_live_rows, [], []⟩
def d_state_classes : He.DefD := ⟨("state_classes", none), "state_classes", "state_classes", defArgs s_state_classes, defBody s_state_classes, defScope s_state_classes, [], []⟩
def d_normal_table : He.DefD := ⟨("normal_table", none), "normal_table", "normal_table", defArgs s_normal_table, defBody s_normal_table, defScope s_normal_table, [], []⟩
def d_is_kept : He.DefD := ⟨("is_kept", none), "is_kept", "is_kept", defArgs s_is_kept, defBody s_is_kept, defScope s_is_kept, [], []⟩
def d_is_good : He.DefD := ⟨("is_good", none), "is_good", "is_good", defArgs s_is_good, defBody s_is_good, defScope s_is_good, [], []⟩
def d_pair_table : He.DefD := ⟨("pair_table", none), "pair_table", "pair_table", defArgs s_pair_table, defBody s_pair_table, defScope s_pair_table, [], []⟩
def d_opposite_table : He.DefD := ⟨("opposite_table", none), "opposite_table", "opposite_table", defArgs s_opposite_table, defBody s_opposite_table, defScope s_opposite_table, [], []⟩
def d_after_step : He.DefD := ⟨("after_step", none), "after_step", "after_step", defArgs s_after_step, defBody s_after_step, defScope s_after_step, [], []⟩
def d_with_start : He.DefD := ⟨("with_start", none), "with_start", "with_start", defArgs s_with_start, defBody s_with_start, defScope s_with_start, [], []⟩
def d_chain_table : He.DefD := ⟨("chain_table", none), "chain_table", "chain_table", defArgs s_chain_table, defBody s_chain_table, defScope s_chain_table, [], []⟩
def d_rounds_table : He.DefD := ⟨("rounds_table", none), "rounds_table", "rounds_table", defArgs s_rounds_table, defBody s_rounds_table, defScope s_rounds_table, [], []⟩
def d_Machine___init__ : He.DefD := ⟨("Machine", some "__init__"), "__init__", "Machine.__init__", defArgs s_Machine___init__, defBody s_Machine___init__, defScope s_Machine___init__, [.non], []⟩
def d_Machine___contains__ : He.DefD := ⟨("Machine", some "__contains__"), "__contains__", "Machine.__contains__", defArgs s_Machine___contains__, defBody s_Machine___contains__, defScope s_Machine___contains__, [], []⟩
def d_Machine___eq__ : He.DefD := ⟨("Machine", some "__eq__"), "__eq__", "Machine.__eq__", defArgs s_Machine___eq__, defBody s_Machine___eq__, defScope s_Machine___eq__, [], []⟩
def d_Machine_after : He.DefD := ⟨("Machine", some "after"), "after", "Machine.after", defArgs s_Machine_after, defBody s_Machine_after, defScope s_Machine_after, [], []⟩
def d_Machine_check_alike : He.DefD := ⟨("Machine", some "check_alike"), "check_alike", "Machine.check_alike", defArgs s_Machine_check_alike, defBody s_Machine_check_alike, defScope s_Machine_check_alike, [], []⟩
def d_Machine___and__ : He.DefD := ⟨("Machine", some "__and__"), "__and__", "Machine.__and__", defArgs s_Machine___and__, defBody s_Machine___and__, defScope s_Machine___and__, [], []⟩
def d_Machine___or__ : He.DefD := ⟨("Machine", some "__or__"), "__or__", "Machine.__or__", defArgs s_Machine___or__, defBody s_Machine___or__, defScope s_Machine___or__, [], []⟩
def d_Machine___sub__ : He.DefD := ⟨("Machine", some "__sub__"), "__sub__", "Machine.__sub__", defArgs s_Machine___sub__, defBody s_Machine___sub__, defScope s_Machine___sub__, [], []⟩
def d_Machine___invert__ : He.DefD := ⟨("Machine", some "__invert__"), "__invert__", "Machine.__invert__", defArgs s_Machine___invert__, defBody s_Machine___invert__, defScope s_Machine___invert__, [], []⟩
def d_Machine___rshift__ : He.DefD := ⟨("Machine", some "__rshift__"), "__rshift__", "Machine.__rshift__", defArgs s_Machine___rshift__, defBody s_Machine___rshift__, defScope s_Machine___rshift__, [], []⟩
def d_Machine_rounds : He.DefD := ⟨("Machine", some "rounds"), "rounds", "Machine.rounds", defArgs s_Machine_rounds, defBody s_Machine_rounds, defScope s_Machine_rounds, [], []⟩
def d_cell : He.DefD := ⟨("_law_cell", none), "_law_cell", "_law_cell", defArgs s_cell, defBody s_cell, defScope s_cell, [], []⟩
def d_draws : He.DefD := ⟨("_law_draws", none), "_law_draws", "_law_draws", defArgs s_draws, defBody s_draws, defScope s_draws, [], []⟩
def d_take : He.DefD := ⟨("_law_take", none), "_law_take", "_law_take", defArgs s_take, defBody s_take, defScope s_take, [], []⟩
def d_letters : He.DefD := ⟨("_law_letters", none), "_law_letters", "_law_letters", defArgs s_letters, defBody s_letters, defScope s_letters, [], []⟩
def d_entry : He.DefD := ⟨("_law_entry", none), "_law_entry", "_law_entry", defArgs s_entry, defBody s_entry, defScope s_entry, [], []⟩
def d_table : He.DefD := ⟨("_law_table", none), "_law_table", "_law_table", defArgs s_table, defBody s_table, defScope s_table, [], []⟩
def d_read : He.DefD := ⟨("_law_read", none), "_law_read", "_law_read", defArgs s_read, defBody s_read, defScope s_read, [], []⟩
def d_accepts : He.DefD := ⟨("_law_accepts", none), "_law_accepts", "_law_accepts", defArgs s_accepts, defBody s_accepts, defScope s_accepts, [], []⟩
def d_word : He.DefD := ⟨("_law_word", none), "_law_word", "_law_word", defArgs s_word, defBody s_word, defScope s_word, [], []⟩
def d_longer : He.DefD := ⟨("_law_longer", none), "_law_longer", "_law_longer", defArgs s_longer, defBody s_longer, defScope s_longer, [], []⟩
def d_short : He.DefD := ⟨("_law_short", none), "_law_short", "_law_short", defArgs s_short, defBody s_short, defScope s_short, [], []⟩
def d_chained : He.DefD := ⟨("_law_chained", none), "_law_chained", "_law_chained", defArgs s_chained, defBody s_chained, defScope s_chained, [], []⟩
def d_in_pieces : He.DefD := ⟨("_law_in_pieces", none), "_law_in_pieces", "_law_in_pieces", defArgs s_in_pieces, defBody s_in_pieces, defScope s_in_pieces, [], []⟩
def d_refused : He.DefD := ⟨("_law_refused", none), "_law_refused", "_law_refused", defArgs s_refused, defBody s_refused, defScope s_refused, [], []⟩
def d_rings_right : He.DefD := ⟨("_law_rings_right", none), "_law_rings_right", "_law_rings_right", defArgs s_rings_right, defBody s_rings_right, defScope s_rings_right, [], []⟩
def d_one : He.DefD := ⟨("_law_one", none), "_law_one", "_law_one", defArgs s_one, defBody s_one, defScope s_one, [], []⟩
def d_two : He.DefD := ⟨("_law_two", none), "_law_two", "_law_two", defArgs s_two, defBody s_two, defScope s_two, [], []⟩
def d_law : He.DefD := ⟨("law", none), "law", "law", defArgs s_law, defBody s_law, defScope s_law, [], []⟩
def fn : List He.DefD := [d_check_letters, d_check_rows, d_flags_of, d_live_rows, d_state_classes, d_normal_table, d_is_kept, d_is_good, d_pair_table, d_opposite_table, d_after_step, d_with_start, d_chain_table, d_rounds_table, d_Machine___init__, d_Machine___contains__, d_Machine___eq__, d_Machine_after, d_Machine_check_alike, d_Machine___and__, d_Machine___or__, d_Machine___sub__, d_Machine___invert__, d_Machine___rshift__, d_Machine_rounds, d_cell, d_draws, d_take, d_letters, d_entry, d_table, d_read, d_accepts, d_word, d_longer, d_short, d_chained, d_in_pieces, d_refused, d_rings_right, d_one, d_two, d_law]
def fa : List He.Fa := [.glo "check_letters", .glo "check_rows", .glo "flags_of", .glo "live_rows", .glo "state_classes", .glo "normal_table", .glo "is_kept", .glo "is_good", .glo "pair_table", .glo "opposite_table", .glo "after_step", .glo "with_start", .glo "chain_table", .glo "rounds_table", .glo "_law_cell", .glo "_law_draws", .glo "_law_take", .glo "_law_letters", .glo "_law_entry", .glo "_law_table", .glo "_law_read", .glo "_law_accepts", .glo "_law_word", .glo "_law_longer", .glo "_law_short", .glo "_law_chained", .glo "_law_in_pieces", .glo "_law_refused", .glo "_law_rings_right", .glo "_law_one", .glo "_law_two", .glo "law", .free "abs", .free "any", .free "enumerate", .free "int", .free "isinstance", .free "len", .free "list", .free "max", .free "min", .free "range", .free "sorted", .free "tuple", .glo "Machine", .cls "Machine", .mkr "Machine", .noat "Machine" "letters", .noat "Machine" "rows", .noat "Machine" "good", .meth "Machine" "after", .meth "Machine" "check_alike", .meth "Machine" "rounds", .glo "HouseError", .glo "LettersDiffer"]
def loose : List Str := [("_wall" : Str), ("HouseError" : Str), ("BadLetters" : Str), ("BadRow" : Str), ("BadState" : Str), ("LettersDiffer" : Str), ("flags_of" : Str), ("live_rows" : Str), ("state_classes" : Str), ("normal_table" : Str), ("is_kept" : Str), ("is_good" : Str), ("pair_table" : Str), ("opposite_table" : Str), ("after_step" : Str), ("with_start" : Str), ("chain_table" : Str), ("rounds_table" : Str), ("check_letters" : Str), ("check_rows" : Str), ("Machine" : Str), ("_law_cell" : Str), ("_law_draws" : Str), ("_law_take" : Str), ("_law_letters" : Str), ("_law_entry" : Str), ("_law_table" : Str), ("_law_read" : Str), ("_law_accepts" : Str), ("_law_word" : Str), ("_law_longer" : Str), ("_law_short" : Str), ("_law_refused" : Str), ("_law_chained" : Str), ("_law_in_pieces" : Str), ("_law_rings_right" : Str), ("_law_one" : Str), ("_law_two" : Str)]
def exL0 (K : PySem.W.Frag) : List Bool := [isB K (He.ga K "Machine"), spB K (He.ga K "Machine") "__eq__", spB K (He.ga K "Machine") "__contains__",
  spB K (He.ga K "Machine") "__and__", spB K (He.ga K "Machine") "__or__", spB K (He.ga K "Machine") "__sub__", spB K (He.ga K "Machine") "__invert__", spB K (He.ga K "Machine") "__rshift__", PySem.W.selfFirst K (He.ga K "Machine"),
  PySem.W.notFirst K (He.ga K "Machine") (.type "str"), decide (PySem.W.kitOne K (.type "str") (.ref (He.ga K "Machine")) = some false),
  exmB K (He.ga K "LettersDiffer") (He.ga K "LettersDiffer"), kitVB K (He.ga K "LettersDiffer") (.ref (He.ga K "HouseError")) true, excB K (He.ga K "LettersDiffer"),
  PySem.W.excIn K (He.ga K "LettersDiffer") He.veBase "ValueError.__new__", PySem.W.keepIn K (.ref (He.ga K "LettersDiffer")), decide (PySem.W.subIn K (.ref (He.ga K "LettersDiffer")) (.type "BaseException") = some true), decide (PySem.W.typeIn K (.ref (He.ga K "LettersDiffer")) = some (.type "type"))]
def ex (K : PySem.W.Frag) : Bool := (exL0 K).all id
abbrev xns : List (PySem.W.Frag → SupV) := []
abbrev xvs : List SupV := []
abbrev R : PySem.W.OpenRow := PySem.W.OpenLaw.row PySem.Challenge.rw_signedpacts_k02_machine_operators
abbrev hk : PySem.W.Hook := hookY 5 fa fn xns xvs ex
def ob (s : PySem.W.SharedT) : He.AlD × (List SupV × Bool) := obY 5 fa fn xns ex (HandSHeadRun.getT s)
theorem ob_eq (s : PySem.W.SharedT) : ob s = hk.obs s.abs := obY_eq (HandSHeadRun.getT_eq s)
theorem run (w : World) : HandSHeadRun.RunEq R (PySem.W.view R.prog [42]) hk ob 8000 loose w := by
  intro os
  kernel_rfl
theorem facts {P : Program} {w : World} {K : PySem.W.Frag} {h : Heap} {mg : Str → Option Value} {f : Addr} (X : K.In h) (G : h.Ns mainGlobals mg) (hfa : mg ("law" : Str) = some (.ref f)) (c : He.SaysD fa fn K) (cx : ex K = true) :
    ∃ fd : FuncData, (∀ (s : Shared) (v : Value), BindsTo s fd ⟨[v], []⟩ [("_law_script", v)]) ∧ ∀ base : Heap, K.In base → base.Ns mainGlobals mg → FnOk P w K mg base CX0 9 f fd ["_law_script"] (spLaw K) := by
  obtain ⟨fd_check_letters, F_check_letters⟩ := c.def_ 0 (d := d_check_letters) rfl
  have F_check_letters : FnP K "check_letters" s_check_letters _ fd_check_letters := F_check_letters
  have g_check_letters := He.glo_ok X G (c.fact 0 (f := .glo "check_letters") rfl)
  have b_check_letters : Binds K fd_check_letters P_check_letters [] := F_check_letters.bindsN fun _ _ _ _ _ _ us hl => match us, hl with | [_], _ => rfl
  obtain ⟨fd_check_rows, F_check_rows⟩ := c.def_ 1 (d := d_check_rows) rfl
  have F_check_rows : FnP K "check_rows" s_check_rows _ fd_check_rows := F_check_rows
  have g_check_rows := He.glo_ok X G (c.fact 1 (f := .glo "check_rows") rfl)
  have b_check_rows : Binds K fd_check_rows P_check_rows [] := F_check_rows.bindsN fun _ _ _ _ _ _ us hl => match us, hl with | [_, _], _ => rfl
  obtain ⟨fd_flags_of, F_flags_of⟩ := c.def_ 2 (d := d_flags_of) rfl
  have F_flags_of : FnP K "flags_of" s_flags_of _ fd_flags_of := F_flags_of
  have g_flags_of := He.glo_ok X G (c.fact 2 (f := .glo "flags_of") rfl)
  have b_flags_of : Binds K fd_flags_of P_flags_of [] := F_flags_of.bindsN fun _ _ _ _ _ _ us hl => match us, hl with | [_, _], _ => rfl
  obtain ⟨fd_live_rows, F_live_rows⟩ := c.def_ 3 (d := d_live_rows) rfl
  have F_live_rows : FnP K "live_rows" s_live_rows _ fd_live_rows := F_live_rows
  have g_live_rows := He.glo_ok X G (c.fact 3 (f := .glo "live_rows") rfl)
  have b_live_rows : Binds K fd_live_rows P_live_rows [] := F_live_rows.bindsN fun _ _ _ _ _ _ us hl => match us, hl with | [_, _], _ => rfl
  obtain ⟨fd_state_classes, F_state_classes⟩ := c.def_ 4 (d := d_state_classes) rfl
  have F_state_classes : FnP K "state_classes" s_state_classes _ fd_state_classes := F_state_classes
  have g_state_classes := He.glo_ok X G (c.fact 4 (f := .glo "state_classes") rfl)
  have b_state_classes : Binds K fd_state_classes P_state_classes [] := F_state_classes.bindsN fun _ _ _ _ _ _ us hl => match us, hl with | [_, _], _ => rfl
  obtain ⟨fd_normal_table, F_normal_table⟩ := c.def_ 5 (d := d_normal_table) rfl
  have F_normal_table : FnP K "normal_table" s_normal_table _ fd_normal_table := F_normal_table
  have g_normal_table := He.glo_ok X G (c.fact 5 (f := .glo "normal_table") rfl)
  have b_normal_table : Binds K fd_normal_table P_normal_table [] := F_normal_table.bindsN fun _ _ _ _ _ _ us hl => match us, hl with | [_, _], _ => rfl
  obtain ⟨fd_is_kept, F_is_kept⟩ := c.def_ 6 (d := d_is_kept) rfl
  have F_is_kept : FnP K "is_kept" s_is_kept _ fd_is_kept := F_is_kept
  have g_is_kept := He.glo_ok X G (c.fact 6 (f := .glo "is_kept") rfl)
  have b_is_kept : Binds K fd_is_kept P_is_kept [] := F_is_kept.bindsN fun _ _ _ _ _ _ us hl => match us, hl with | [_, _, _], _ => rfl
  obtain ⟨fd_is_good, F_is_good⟩ := c.def_ 7 (d := d_is_good) rfl
  have F_is_good : FnP K "is_good" s_is_good _ fd_is_good := F_is_good
  have g_is_good := He.glo_ok X G (c.fact 7 (f := .glo "is_good") rfl)
  have b_is_good : Binds K fd_is_good P_is_good [] := F_is_good.bindsN fun _ _ _ _ _ _ us hl => match us, hl with | [_, _, _], _ => rfl
  obtain ⟨fd_pair_table, F_pair_table⟩ := c.def_ 8 (d := d_pair_table) rfl
  have F_pair_table : FnP K "pair_table" s_pair_table _ fd_pair_table := F_pair_table
  have g_pair_table := He.glo_ok X G (c.fact 8 (f := .glo "pair_table") rfl)
  have b_pair_table : Binds K fd_pair_table P_pair_table [] := F_pair_table.bindsN fun _ _ _ _ _ _ us hl => match us, hl with | [_, _, _, _], _ => rfl
  obtain ⟨fd_opposite_table, F_opposite_table⟩ := c.def_ 9 (d := d_opposite_table) rfl
  have F_opposite_table : FnP K "opposite_table" s_opposite_table _ fd_opposite_table := F_opposite_table
  have g_opposite_table := He.glo_ok X G (c.fact 9 (f := .glo "opposite_table") rfl)
  have b_opposite_table : Binds K fd_opposite_table P_opposite_table [] := F_opposite_table.bindsN fun _ _ _ _ _ _ us hl => match us, hl with | [_, _], _ => rfl
  obtain ⟨fd_after_step, F_after_step⟩ := c.def_ 10 (d := d_after_step) rfl
  have F_after_step : FnP K "after_step" s_after_step _ fd_after_step := F_after_step
  have g_after_step := He.glo_ok X G (c.fact 10 (f := .glo "after_step") rfl)
  have b_after_step : Binds K fd_after_step P_after_step [] := F_after_step.bindsN fun _ _ _ _ _ _ us hl => match us, hl with | [_, _, _], _ => rfl
  obtain ⟨fd_with_start, F_with_start⟩ := c.def_ 11 (d := d_with_start) rfl
  have F_with_start : FnP K "with_start" s_with_start _ fd_with_start := F_with_start
  have g_with_start := He.glo_ok X G (c.fact 11 (f := .glo "with_start") rfl)
  have b_with_start : Binds K fd_with_start P_with_start [] := F_with_start.bindsN fun _ _ _ _ _ _ us hl => match us, hl with | [_, _], _ => rfl
  obtain ⟨fd_chain_table, F_chain_table⟩ := c.def_ 12 (d := d_chain_table) rfl
  have F_chain_table : FnP K "chain_table" s_chain_table _ fd_chain_table := F_chain_table
  have g_chain_table := He.glo_ok X G (c.fact 12 (f := .glo "chain_table") rfl)
  have b_chain_table : Binds K fd_chain_table P_chain_table [] := F_chain_table.bindsN fun _ _ _ _ _ _ us hl => match us, hl with | [_, _, _], _ => rfl
  obtain ⟨fd_rounds_table, F_rounds_table⟩ := c.def_ 13 (d := d_rounds_table) rfl
  have F_rounds_table : FnP K "rounds_table" s_rounds_table _ fd_rounds_table := F_rounds_table
  have g_rounds_table := He.glo_ok X G (c.fact 13 (f := .glo "rounds_table") rfl)
  have b_rounds_table : Binds K fd_rounds_table P_rounds_table [] := F_rounds_table.bindsN fun _ _ _ _ _ _ us hl => match us, hl with | [_, _], _ => rfl
  obtain ⟨fd_Machine___init__, F_Machine___init__⟩ := c.def_ 14 (d := d_Machine___init__) rfl
  obtain ⟨fd_Machine___contains__, F_Machine___contains__⟩ := c.def_ 15 (d := d_Machine___contains__) rfl
  have F_Machine___contains__ : FnM K "__contains__" "Machine.__contains__" s_Machine___contains__ (He.ma K (He.ga K "Machine") "__contains__") fd_Machine___contains__ := F_Machine___contains__
  have b_Machine___contains__ : Binds K fd_Machine___contains__ P_Machine___contains__ [] := F_Machine___contains__.bindsN fun _ _ _ _ _ _ us hl => match us, hl with | [_, _], _ => rfl
  obtain ⟨fd_Machine___eq__, F_Machine___eq__⟩ := c.def_ 16 (d := d_Machine___eq__) rfl
  have F_Machine___eq__ : FnM K "__eq__" "Machine.__eq__" s_Machine___eq__ (He.ma K (He.ga K "Machine") "__eq__") fd_Machine___eq__ := F_Machine___eq__
  have b_Machine___eq__ : Binds K fd_Machine___eq__ P_Machine___eq__ [] := F_Machine___eq__.bindsN fun _ _ _ _ _ _ us hl => match us, hl with | [_, _], _ => rfl
  obtain ⟨fd_Machine_after, F_Machine_after⟩ := c.def_ 17 (d := d_Machine_after) rfl
  have F_Machine_after : FnM K "after" "Machine.after" s_Machine_after (He.ma K (He.ga K "Machine") "after") fd_Machine_after := F_Machine_after
  have b_Machine_after : Binds K fd_Machine_after P_Machine_after [] := F_Machine_after.bindsN fun _ _ _ _ _ _ us hl => match us, hl with | [_, _], _ => rfl
  obtain ⟨fd_Machine_check_alike, F_Machine_check_alike⟩ := c.def_ 18 (d := d_Machine_check_alike) rfl
  have F_Machine_check_alike : FnM K "check_alike" "Machine.check_alike" s_Machine_check_alike (He.ma K (He.ga K "Machine") "check_alike") fd_Machine_check_alike := F_Machine_check_alike
  have b_Machine_check_alike : Binds K fd_Machine_check_alike P_Machine_check_alike [] := F_Machine_check_alike.bindsN fun _ _ _ _ _ _ us hl => match us, hl with | [_, _], _ => rfl
  obtain ⟨fd_Machine___and__, F_Machine___and__⟩ := c.def_ 19 (d := d_Machine___and__) rfl
  have F_Machine___and__ : FnM K "__and__" "Machine.__and__" s_Machine___and__ (He.ma K (He.ga K "Machine") "__and__") fd_Machine___and__ := F_Machine___and__
  have b_Machine___and__ : Binds K fd_Machine___and__ P_Machine___and__ [] := F_Machine___and__.bindsN fun _ _ _ _ _ _ us hl => match us, hl with | [_, _], _ => rfl
  obtain ⟨fd_Machine___or__, F_Machine___or__⟩ := c.def_ 20 (d := d_Machine___or__) rfl
  have F_Machine___or__ : FnM K "__or__" "Machine.__or__" s_Machine___or__ (He.ma K (He.ga K "Machine") "__or__") fd_Machine___or__ := F_Machine___or__
  have b_Machine___or__ : Binds K fd_Machine___or__ P_Machine___or__ [] := F_Machine___or__.bindsN fun _ _ _ _ _ _ us hl => match us, hl with | [_, _], _ => rfl
  obtain ⟨fd_Machine___sub__, F_Machine___sub__⟩ := c.def_ 21 (d := d_Machine___sub__) rfl
  have F_Machine___sub__ : FnM K "__sub__" "Machine.__sub__" s_Machine___sub__ (He.ma K (He.ga K "Machine") "__sub__") fd_Machine___sub__ := F_Machine___sub__
  have b_Machine___sub__ : Binds K fd_Machine___sub__ P_Machine___sub__ [] := F_Machine___sub__.bindsN fun _ _ _ _ _ _ us hl => match us, hl with | [_, _], _ => rfl
  obtain ⟨fd_Machine___invert__, F_Machine___invert__⟩ := c.def_ 22 (d := d_Machine___invert__) rfl
  have F_Machine___invert__ : FnM K "__invert__" "Machine.__invert__" s_Machine___invert__ (He.ma K (He.ga K "Machine") "__invert__") fd_Machine___invert__ := F_Machine___invert__
  have b_Machine___invert__ : Binds K fd_Machine___invert__ P_Machine___invert__ [] := F_Machine___invert__.bindsN fun _ _ _ _ _ _ us hl => match us, hl with | [_], _ => rfl
  obtain ⟨fd_Machine___rshift__, F_Machine___rshift__⟩ := c.def_ 23 (d := d_Machine___rshift__) rfl
  have F_Machine___rshift__ : FnM K "__rshift__" "Machine.__rshift__" s_Machine___rshift__ (He.ma K (He.ga K "Machine") "__rshift__") fd_Machine___rshift__ := F_Machine___rshift__
  have b_Machine___rshift__ : Binds K fd_Machine___rshift__ P_Machine___rshift__ [] := F_Machine___rshift__.bindsN fun _ _ _ _ _ _ us hl => match us, hl with | [_, _], _ => rfl
  obtain ⟨fd_Machine_rounds, F_Machine_rounds⟩ := c.def_ 24 (d := d_Machine_rounds) rfl
  have F_Machine_rounds : FnM K "rounds" "Machine.rounds" s_Machine_rounds (He.ma K (He.ga K "Machine") "rounds") fd_Machine_rounds := F_Machine_rounds
  have b_Machine_rounds : Binds K fd_Machine_rounds P_Machine_rounds [] := F_Machine_rounds.bindsN fun _ _ _ _ _ _ us hl => match us, hl with | [_], _ => rfl
  obtain ⟨fd_cell, F_cell⟩ := c.def_ 25 (d := d_cell) rfl
  have F_cell : FnP K "_law_cell" s_cell _ fd_cell := F_cell
  have g_cell := He.glo_ok X G (c.fact 14 (f := .glo "_law_cell") rfl)
  have b_cell : Binds K fd_cell P_cell [] := F_cell.bindsN fun _ _ _ _ _ _ us hl => match us, hl with | [_, _], _ => rfl
  obtain ⟨fd_draws, F_draws⟩ := c.def_ 26 (d := d_draws) rfl
  have F_draws : FnP K "_law_draws" s_draws _ fd_draws := F_draws
  have g_draws := He.glo_ok X G (c.fact 15 (f := .glo "_law_draws") rfl)
  have b_draws : Binds K fd_draws P_draws [] := F_draws.bindsN fun _ _ _ _ _ _ us hl => match us, hl with | [_, _], _ => rfl
  obtain ⟨fd_take, F_take⟩ := c.def_ 27 (d := d_take) rfl
  have F_take : FnP K "_law_take" s_take _ fd_take := F_take
  have g_take := He.glo_ok X G (c.fact 16 (f := .glo "_law_take") rfl)
  have b_take : Binds K fd_take P_take [] := F_take.bindsN fun _ _ _ _ _ _ us hl => match us, hl with | [_, _], _ => rfl
  obtain ⟨fd_letters, F_letters⟩ := c.def_ 28 (d := d_letters) rfl
  have F_letters : FnP K "_law_letters" s_letters _ fd_letters := F_letters
  have g_letters := He.glo_ok X G (c.fact 17 (f := .glo "_law_letters") rfl)
  have b_letters : Binds K fd_letters P_letters [] := F_letters.bindsN fun _ _ _ _ _ _ us hl => match us, hl with | [_, _], _ => rfl
  obtain ⟨fd_entry, F_entry⟩ := c.def_ 29 (d := d_entry) rfl
  have F_entry : FnP K "_law_entry" s_entry _ fd_entry := F_entry
  have g_entry := He.glo_ok X G (c.fact 18 (f := .glo "_law_entry") rfl)
  have b_entry : Binds K fd_entry P_entry [] := F_entry.bindsN fun _ _ _ _ _ _ us hl => match us, hl with | [_, _], _ => rfl
  obtain ⟨fd_table, F_table⟩ := c.def_ 30 (d := d_table) rfl
  have F_table : FnP K "_law_table" s_table _ fd_table := F_table
  have g_table := He.glo_ok X G (c.fact 19 (f := .glo "_law_table") rfl)
  have b_table : Binds K fd_table P_table [] := F_table.bindsN fun _ _ _ _ _ _ us hl => match us, hl with | [_, _, _, _], _ => rfl
  obtain ⟨fd_read, F_read⟩ := c.def_ 31 (d := d_read) rfl
  have F_read : FnP K "_law_read" s_read _ fd_read := F_read
  have g_read := He.glo_ok X G (c.fact 20 (f := .glo "_law_read") rfl)
  have b_read : Binds K fd_read P_read [] := F_read.bindsN fun _ _ _ _ _ _ us hl => match us, hl with | [_, _, _], _ => rfl
  obtain ⟨fd_accepts, F_accepts⟩ := c.def_ 32 (d := d_accepts) rfl
  have F_accepts : FnP K "_law_accepts" s_accepts _ fd_accepts := F_accepts
  have g_accepts := He.glo_ok X G (c.fact 21 (f := .glo "_law_accepts") rfl)
  have b_accepts : Binds K fd_accepts P_accepts [] := F_accepts.bindsN fun _ _ _ _ _ _ us hl => match us, hl with | [_, _, _], _ => rfl
  obtain ⟨fd_word, F_word⟩ := c.def_ 33 (d := d_word) rfl
  have F_word : FnP K "_law_word" s_word _ fd_word := F_word
  have g_word := He.glo_ok X G (c.fact 22 (f := .glo "_law_word") rfl)
  have b_word : Binds K fd_word P_word [] := F_word.bindsN fun _ _ _ _ _ _ us hl => match us, hl with | [_, _, _, _], _ => rfl
  obtain ⟨fd_longer, F_longer⟩ := c.def_ 34 (d := d_longer) rfl
  have F_longer : FnP K "_law_longer" s_longer _ fd_longer := F_longer
  have g_longer := He.glo_ok X G (c.fact 23 (f := .glo "_law_longer") rfl)
  have b_longer : Binds K fd_longer P_longer [] := F_longer.bindsN fun _ _ _ _ _ _ us hl => match us, hl with | [_, _], _ => rfl
  obtain ⟨fd_short, F_short⟩ := c.def_ 35 (d := d_short) rfl
  have F_short : FnP K "_law_short" s_short _ fd_short := F_short
  have g_short := He.glo_ok X G (c.fact 24 (f := .glo "_law_short") rfl)
  have b_short : Binds K fd_short P_short [] := F_short.bindsN fun _ _ _ _ _ _ us hl => match us, hl with | [_, _], _ => rfl
  obtain ⟨fd_chained, F_chained⟩ := c.def_ 36 (d := d_chained) rfl
  have F_chained : FnP K "_law_chained" s_chained _ fd_chained := F_chained
  have g_chained := He.glo_ok X G (c.fact 25 (f := .glo "_law_chained") rfl)
  have b_chained : Binds K fd_chained P_chained [] := F_chained.bindsN fun _ _ _ _ _ _ us hl => match us, hl with | [_, _, _, _], _ => rfl
  obtain ⟨fd_in_pieces, F_in_pieces⟩ := c.def_ 37 (d := d_in_pieces) rfl
  have F_in_pieces : FnP K "_law_in_pieces" s_in_pieces _ fd_in_pieces := F_in_pieces
  have g_in_pieces := He.glo_ok X G (c.fact 26 (f := .glo "_law_in_pieces") rfl)
  have b_in_pieces : Binds K fd_in_pieces P_in_pieces [] := F_in_pieces.bindsN fun _ _ _ _ _ _ us hl => match us, hl with | [_, _, _], _ => rfl
  obtain ⟨fd_refused, F_refused⟩ := c.def_ 38 (d := d_refused) rfl
  have F_refused : FnP K "_law_refused" s_refused _ fd_refused := F_refused
  have g_refused := He.glo_ok X G (c.fact 27 (f := .glo "_law_refused") rfl)
  have b_refused : Binds K fd_refused P_refused [] := F_refused.bindsN fun _ _ _ _ _ _ us hl => match us, hl with | [_, _, _], _ => rfl
  obtain ⟨fd_rings_right, F_rings_right⟩ := c.def_ 39 (d := d_rings_right) rfl
  have F_rings_right : FnP K "_law_rings_right" s_rings_right _ fd_rings_right := F_rings_right
  have g_rings_right := He.glo_ok X G (c.fact 28 (f := .glo "_law_rings_right") rfl)
  have b_rings_right : Binds K fd_rings_right P_rings_right [] := F_rings_right.bindsN fun _ _ _ _ _ _ us hl => match us, hl with | [_], _ => rfl
  obtain ⟨fd_one, F_one⟩ := c.def_ 40 (d := d_one) rfl
  have F_one : FnP K "_law_one" s_one _ fd_one := F_one
  have g_one := He.glo_ok X G (c.fact 29 (f := .glo "_law_one") rfl)
  have b_one : Binds K fd_one P_one [] := F_one.bindsN fun _ _ _ _ _ _ us hl => match us, hl with | [_], _ => rfl
  obtain ⟨fd_two, F_two⟩ := c.def_ 41 (d := d_two) rfl
  have F_two : FnP K "_law_two" s_two _ fd_two := F_two
  have g_two := He.glo_ok X G (c.fact 30 (f := .glo "_law_two") rfl)
  have b_two : Binds K fd_two P_two [] := F_two.bindsN fun _ _ _ _ _ _ us hl => match us, hl with | [_], _ => rfl
  obtain ⟨fd_law, F_law⟩ := c.def_ 42 (d := d_law) rfl
  have F_law : FnP K "law" s_law _ fd_law := F_law
  have g_law := He.glo_ok X G (c.fact 31 (f := .glo "law") rfl)
  have m_abs := He.free_ok X G (c.fact 32 (f := .free "abs") rfl)
  have m_any := He.free_ok X G (c.fact 33 (f := .free "any") rfl)
  have m_enumerate := He.free_ok X G (c.fact 34 (f := .free "enumerate") rfl)
  have m_int := He.free_ok X G (c.fact 35 (f := .free "int") rfl)
  have m_isinstance := He.free_ok X G (c.fact 36 (f := .free "isinstance") rfl)
  have m_len := He.free_ok X G (c.fact 37 (f := .free "len") rfl)
  have m_list := He.free_ok X G (c.fact 38 (f := .free "list") rfl)
  have m_max := He.free_ok X G (c.fact 39 (f := .free "max") rfl)
  have m_min := He.free_ok X G (c.fact 40 (f := .free "min") rfl)
  have m_range := He.free_ok X G (c.fact 41 (f := .free "range") rfl)
  have m_sorted := He.free_ok X G (c.fact 42 (f := .free "sorted") rfl)
  have m_tuple := He.free_ok X G (c.fact 43 (f := .free "tuple") rfl)
  have g_Machine := He.glo_ok X G (c.fact 44 (f := .glo "Machine") rfl)
  have cls_Machine := He.cls_ok (c.fact 45 (f := .cls "Machine") rfl)
  have mk_Machine := He.mkr_ok (c.fact 46 (f := .mkr "Machine") rfl)
  have n_Machine_letters := He.noat_ok (c.fact 47 (f := .noat "Machine" "letters") rfl)
  have n_Machine_rows := He.noat_ok (c.fact 48 (f := .noat "Machine" "rows") rfl)
  have n_Machine_good := He.noat_ok (c.fact 49 (f := .noat "Machine" "good") rfl)
  have me_Machine_after := He.meth_ok (c.fact 50 (f := .meth "Machine" "after") rfl)
  have me_Machine_check_alike := He.meth_ok (c.fact 51 (f := .meth "Machine" "check_alike") rfl)
  have me_Machine_rounds := He.meth_ok (c.fact 52 (f := .meth "Machine" "rounds") rfl)
  have g_HouseError := He.glo_ok X G (c.fact 53 (f := .glo "HouseError") rfl)
  have g_LettersDiffer := He.glo_ok X G (c.fact 54 (f := .glo "LettersDiffer") rfl)
  have isC := isB_ok cls_Machine (all_at cx 0)
  obtain ⟨z1, z2, z3⟩ := spB_ok (all_at cx 1)
  obtain ⟨y1, y2, y3⟩ := spB_ok (all_at cx 2)
  obtain ⟨a1, a2, a3⟩ := spB_ok (all_at cx 3)
  obtain ⟨o1, o2, o3⟩ := spB_ok (all_at cx 4)
  obtain ⟨u1, u2, u3⟩ := spB_ok (all_at cx 5)
  obtain ⟨i1, i2, i3⟩ := spB_ok (all_at cx 6)
  obtain ⟨r1, r2, r3⟩ := spB_ok (all_at cx 7)
  have sf := all_at cx 8
  have nf := all_at cx 9
  have nk := of_decide_eq_true (all_at cx 10)
  have teLL := of_decide_eq_true (all_at cx 11)
  have kLH := of_decide_eq_true (all_at cx 12)
  have ecL := (excB_ok (all_at cx 13)).1
  have x0_LettersDiffer : Exn0 K mg "LettersDiffer" (He.ga K "LettersDiffer") := ⟨all_at cx 14, all_at cx 15, of_decide_eq_true (all_at cx 16), of_decide_eq_true (all_at cx 17), g_LettersDiffer⟩
  have e := hfa.symm.trans g_law
  cases e
  have b := FunD.bindsA (ps := ["_law_script"]) F_law fun _ _ _ _ _ _ us hl => match us, hl with | [_], _ => rfl
  refine ⟨fd_law, fun s v => b s [v] rfl, fun base _ _ => ?_⟩
  have c_cell : Cal P w K mg base 1 "_law_cell" (spCell K) := cal_of F_cell g_cell b_cell (ok_cell F_cell m_len m_int)
  have c_draws : Cal P w K mg base 1 "_law_draws" spDraws := cal_of F_draws g_draws b_draws (ok_draws F_draws m_int m_abs m_range)
  have c_take : Cal P w K mg base 1 "_law_take" (spTake K) := cal_of F_take g_take b_take (ok_take F_take m_len)
  have c_check_letters : Cal P w K mg base 1 "check_letters" spCkL := cal_of F_check_letters g_check_letters b_check_letters (ok_check_letters F_check_letters m_enumerate)
  have c_check_rows : Cal P w K mg base 1 "check_rows" (spCkR K) := cal_of F_check_rows g_check_rows b_check_rows (ok_check_rows F_check_rows m_enumerate m_len)
  have c_flags_of : Cal P w K mg base 1 "flags_of" (spFlags K) := cal_of F_flags_of g_flags_of b_flags_of (ok_flags_of F_flags_of m_range)
  have c_live_rows : Cal P w K mg base 2 "live_rows" (spLive K) := cal_of F_live_rows g_live_rows b_live_rows (ok_live_rows F_live_rows m_len m_any m_enumerate c_flags_of)
  have c_state_classes : Cal P w K mg base 2 "state_classes" (spClasses K) := cal_of F_state_classes g_state_classes b_state_classes (ok_state_classes F_state_classes m_int m_tuple m_len m_enumerate c_flags_of)
  have c_normal_table : Cal P w K mg base 3 "normal_table" (spNorm K) := cal_of F_normal_table g_normal_table b_normal_table (ok_normal_table F_normal_table m_len m_tuple m_enumerate c_flags_of c_live_rows c_state_classes)
  have c_is_kept : Cal P w K mg base 1 "is_kept" spKep := cal_of F_is_kept g_is_kept b_is_kept (ok_is_kept F_is_kept)
  have c_is_good : Cal P w K mg base 1 "is_good" spIsG := cal_of F_is_good g_is_good b_is_good (ok_is_good F_is_good)
  have c_pair_table : Cal P w K mg base 2 "pair_table" (spPair (He.ga K "Machine") K) := cal_of F_pair_table g_pair_table b_pair_table (ok_pair_table F_pair_table m_len m_range m_enumerate cls_Machine n_Machine_rows n_Machine_good c_is_kept c_is_good)
  have c_opposite_table : Cal P w K mg base 1 "opposite_table" (spOpp (He.ga K "Machine") K) := cal_of F_opposite_table g_opposite_table b_opposite_table (ok_opposite_table F_opposite_table m_len m_range cls_Machine n_Machine_rows n_Machine_good)
  have c_after_step : Cal P w K mg base 1 "after_step" (spAft K) := cal_of F_after_step g_after_step b_after_step (ok_after_step F_after_step m_sorted m_list)
  have c_with_start : Cal P w K mg base 1 "with_start" (spWst K) := cal_of F_with_start g_with_start b_with_start (ok_with_start F_with_start m_tuple)
  have c_chain_table : Cal P w K mg base 2 "chain_table" (spChain (He.ga K "Machine") K) := cal_of F_chain_table g_chain_table b_chain_table (ok_chain_table F_chain_table m_len m_range m_any m_enumerate cls_Machine n_Machine_rows n_Machine_good c_after_step c_with_start)
  have c_rounds_table : Cal P w K mg base 2 "rounds_table" (spRnd (He.ga K "Machine") K) := cal_of F_rounds_table g_rounds_table b_rounds_table (ok_rounds_table F_rounds_table m_len m_range m_any m_enumerate cls_Machine n_Machine_rows n_Machine_good c_after_step c_with_start)
  have Fi : FnMq K "__init__" "Machine.__init__" s_Machine___init__ [.non] _ fd_Machine___init__ := F_Machine___init__
  have o_init := ok_minit (P := P) (w := w) (mg := mg) (base := base) F_Machine___init__ m_len m_list m_range cls_Machine n_Machine_letters n_Machine_rows n_Machine_good c_check_letters c_check_rows c_normal_table
  obtain ⟨d3, v3, b3⟩ := FunD.binds1 (ps := P_Machine___init__) Fi 3 0 (by simp) rfl fun T kV doc pm an cdv ct us its hu hi => match us, hu, its, hi with | [_, _, _], _, [_], _ => ⟨_, rfl, rfl⟩
  obtain ⟨d4, v4, b4⟩ := FunD.binds1 (ps := P_Machine___init__) Fi 4 1 (by simp) rfl fun T kV doc pm an cdv ct us its hu hi => match us, hu, its, hi with | [_, _, _, _], _, [_], _ => ⟨_, rfl, rfl⟩
  cases v4
  have k_Machine : Mak P w K mg base 4 "Machine" (spL3 (He.ga K "Machine") K) := ⟨_, _, _, _, _, mk_Machine, o_init, g_Machine, b4, l3_imp⟩
  have kd_Machine : MakD P w K mg base 4 "Machine" [.non] (spL2 (He.ga K "Machine") K) := ⟨_, _, _, _, _, _, mk_Machine, o_init, g_Machine, v3, b3, l2_imp⟩
  have e_Machine : Eqo P w K mg base 1 (He.ga K "Machine") (spEqL (He.ga K "Machine") K) := ⟨_, _, _, (ok_eq F_Machine___eq__ isC m_isinstance g_Machine cls_Machine n_Machine_letters n_Machine_rows n_Machine_good).imp eqL_imp, z1, z2, b_Machine___eq__⟩
  have me_after : Met P w K mg base 1 (He.ga K "Machine") "after" (spAfter (He.ga K "Machine") K) := ⟨_, _, _, cls_Machine, me_Machine_after, ok_after F_Machine_after m_len cls_Machine n_Machine_letters n_Machine_rows, b_Machine_after⟩
  have in_Machine : InO P w K mg base 2 (He.ga K "Machine") (spInL (He.ga K "Machine") K) := ⟨_, _, _, (ok_contains F_Machine___contains__ cls_Machine n_Machine_good me_after).imp inL_imp, y1, y2, b_Machine___contains__⟩
  have eT_Machine : Eqo P w K mg base 1 (He.ga K "Machine") (spEqT (He.ga K "Machine") K) := ⟨_, _, _, ok_eqT F_Machine___eq__ nk m_isinstance g_Machine cls_Machine n_Machine_letters n_Machine_rows n_Machine_good, z1, z2, b_Machine___eq__⟩
  have me_check_alike : MetX P w K mg base 1 (He.ga K "Machine") "check_alike" (spAlike (He.ga K "Machine") (He.ga K "LettersDiffer") K) := ⟨_, _, _, cls_Machine, me_Machine_check_alike, ok_alike F_Machine_check_alike cls_Machine n_Machine_letters x0_LettersDiffer, b_Machine_check_alike⟩
  have o_and : Bin2X P w K mg base 6 (He.ga K "Machine") .BitAnd (spOp2 szP (fun L1 L2 => pL L1 L2 .both) (He.ga K "Machine") (He.ga K "LettersDiffer") K) := ⟨_, _, _, ok_and F_Machine___and__ m_len cls_Machine n_Machine_letters me_check_alike c_pair_table k_Machine, a1, a2, b_Machine___and__, sf⟩
  have o_or : Bin2X P w K mg base 6 (He.ga K "Machine") .BitOr (spOp2 szP (fun L1 L2 => pL L1 L2 .either) (He.ga K "Machine") (He.ga K "LettersDiffer") K) := ⟨_, _, _, ok_or F_Machine___or__ m_len cls_Machine n_Machine_letters me_check_alike c_pair_table k_Machine, o1, o2, b_Machine___or__, sf⟩
  have o_sub : Bin2X P w K mg base 6 (He.ga K "Machine") .Sub (spOp2 szP (fun L1 L2 => pL L1 L2 .one) (He.ga K "Machine") (He.ga K "LettersDiffer") K) := ⟨_, _, _, ok_sub F_Machine___sub__ m_len cls_Machine n_Machine_letters me_check_alike c_pair_table k_Machine, u1, u2, b_Machine___sub__, sf⟩
  have o_rshift : Bin2X P w K mg base 6 (He.ga K "Machine") .RShift (spOp2 szC2 CatL (He.ga K "Machine") (He.ga K "LettersDiffer") K) := ⟨_, _, _, ok_rshift F_Machine___rshift__ m_len cls_Machine n_Machine_letters me_check_alike c_chain_table k_Machine, r1, r2, b_Machine___rshift__, sf⟩
  have o_invert : Un1 P w K mg base 6 (He.ga K "Machine") (spOp1 (fun s => s + 1) NotL (He.ga K "Machine") K) := ⟨_, _, _, ok_invert F_Machine___invert__ m_len cls_Machine n_Machine_letters c_opposite_table k_Machine, i1, i2, b_Machine___invert__⟩
  have me_rounds : Met P w K mg base 6 (He.ga K "Machine") "rounds" (spOp1 (fun s => 2 * 2 ^ s) (fun _ => StL) (He.ga K "Machine") K) := ⟨_, _, _, cls_Machine, me_Machine_rounds, ok_rounds F_Machine_rounds m_len cls_Machine n_Machine_letters c_rounds_table k_Machine, b_Machine_rounds⟩
  have c_letters : Cal P w K mg base 2 "_law_letters" (spLet K) := cal_of F_letters g_letters b_letters (ok_letters F_letters m_int m_len m_range c_take)
  have c_entry : Cal P w K mg base 1 "_law_entry" spEnt := cal_of F_entry g_entry b_entry (ok_entry F_entry m_int)
  have c_table : Cal P w K mg base 2 "_law_table" (spTab K) := cal_of F_table g_table b_table (ok_table F_table m_int m_range c_take c_entry)
  have c_read : Cal P w K mg base 1 "_law_read" (spRead K) := cal_of F_read g_read b_read (ok_read F_read m_len)
  have c_word : Cal P w K mg base 2 "_law_word" (spWord K) := cal_of F_word g_word b_word (ok_word F_word m_int m_len m_range c_take)
  have c_accepts : Cal P w K mg base 2 "_law_accepts" (spAcc K) := cal_of F_accepts g_accepts b_accepts (ok_accepts F_accepts c_read)
  have c_longer : Cal P w K mg base 1 "_law_longer" (spLong K) := cal_of F_longer g_longer b_longer (ok_longer F_longer)
  have c_short : Cal P w K mg base 2 "_law_short" (spShort K) := cal_of F_short g_short b_short (ok_short F_short m_range c_longer)
  have c_chained : Cal P w K mg base 3 "_law_chained" (spChd K) := cal_of F_chained g_chained b_chained (ok_chained F_chained m_len m_range c_accepts)
  have c_in_pieces : Cal P w K mg base 3 "_law_in_pieces" (spPcs K) := cal_of F_in_pieces g_in_pieces b_in_pieces (ok_in_pieces F_in_pieces m_len m_range c_accepts)
  have c_refused : Cal P w K mg base 7 "_law_refused" (spRefd (He.ga K "Machine") K) := cal_of F_refused g_refused b_refused (ok_refused F_refused m_isinstance g_LettersDiffer g_HouseError o_and o_or o_sub o_rshift ecL teLL kLH)
  have c_rings_right : Cal P w K mg base 7 "_law_rings_right" (spRings K) := cal_of F_rings_right g_rings_right b_rings_right (ok_rings_right F_rings_right m_int m_len m_range in_Machine k_Machine o_and o_or o_sub o_rshift o_invert me_rounds)
  have c_one : Cal P w K mg base 8 "_law_one" (spLawP K) := cal_of F_one g_one b_one (ok_one F_one isC m_isinstance g_Machine nf m_int m_len m_range m_min m_max cls_Machine n_Machine_letters c_cell c_draws c_letters c_table c_word c_short c_accepts c_refused c_rings_right k_Machine kd_Machine in_Machine e_Machine eT_Machine o_and o_or o_sub o_invert)
  have c_two : Cal P w K mg base 8 "_law_two" (spLawP K) := cal_of F_two g_two b_two (ok_two F_two isC m_isinstance g_Machine m_int m_len m_range m_min m_max cls_Machine n_Machine_letters c_cell c_draws c_letters c_table c_word c_short c_accepts c_chained c_in_pieces k_Machine kd_Machine in_Machine e_Machine o_rshift me_rounds)
  exact ok_law F_law c_one c_two
end Z
open PySem PySem.W PySem.Calls PyProof.Rows
theorem PySem.Challenge.cw_signedpacts_k02_machine_operators_holds : PySem.Challenge.rw_signedpacts_k02_machine_operators.Holds := by
  w_on; o_law
  refine HandSHeadRun.head_any (r := OpenLaw.row PySem.Challenge.rw_signedpacts_k02_machine_operators) (q := view (OpenLaw.row PySem.Challenge.rw_signedpacts_k02_machine_operators).prog [42]) (H := Z.hk) (ob := Z.ob) (M := 8000) (loose := Z.loose) (d := HandSHeadRun.topDef (OpenLaw.row PySem.Challenge.rw_signedpacts_k02_machine_operators).prog 42) (kwd := []) Z.ob_eq
    (by kernel_rfl) (fun s => by kernel_rfl) Z.run (by kernel_rfl) (by kernel_rfl) (by kernel_rfl) (by rfl) (by first | assumption | decide +kernel) (by decide +kernel) ⟨rfl, rfl, rfl, rfl, rfl, by decide +kernel⟩ ?hw ?hc
  case hw => w_witness2
  case hc =>
    refine L2.walk_ofE (l := PySem.Challenge.rw_signedpacts_k02_machine_operators) (n := 63) (k := 9) (x := "_law_script") (CX := L2.CX0) rfl (by decide) (by kernel_rfl) ⟨rfl, by decide, by decide⟩ ?F (fun _ _ _ _ z => z)
    intro w mg fa h Y G hmg0
    obtain ⟨K, KX, c, _, cx⟩ := Y
    have hmg : mg ("law" : PySem.Str) = some (.ref fa) := by
      have e : (HandSHeadRun.topDef (OpenLaw.row PySem.Challenge.rw_signedpacts_k02_machine_operators).prog 42).name = ("law" : PySem.Str) := by kernel_rfl
      rw [← e]
      exact hmg0
    obtain ⟨fd, hb, hF⟩ := Z.facts (P := (PySem.Challenge.rw_signedpacts_k02_machine_operators).prog) (w := w) KX G hmg c cx
    exact ⟨K, fd, Z.spLaw K, KX, hb, fun H a ns hl _ hS => ⟨a, ns, rfl, hS, hl, fun _ => rfl⟩, hF⟩
