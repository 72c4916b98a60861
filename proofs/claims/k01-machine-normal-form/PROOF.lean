import PyProof.Rows.All
import Wide.All
import OpenK.AllK
import Wide.FinOn
import HandS.ForMost
import HandS.Zip
import HandS.TupMul
import HandS.Codes
import KE.GoesMore
import KE.GoesEnum
import HandS.Defaults
import HandS.IsInst
import HandS.Wide
import HandS.WideBits
import HandS.NoneIn
import HandS.OwnEq
import HandS.Star
import HandS.SetTxtIn
import HandS.Dict
import HandS.SetKeys
import HandS.TupLen
import KE.KeyNested
import PyProof.DictMoreH
import PyProof.DictRoadsH
import HandS.ExcInit
import HandS.ExcField
import HandS.ExcIs
import HandS.Nested
import HandS.ClsMeth
import HandS.HeadHook1
import KE.KSuper
import KE.KExcSuper
import HandS.WordsExc
import HandS.ExcInitHot
import KE.KExcIs
import HandS.HeadHook2
import HandS.Property
import KE.KOpsOwn
import HandS.Style
import HandS.NamedTupGet
import HandS.ExcCtx
import HandS.ExcOwn
import HandS.Strs
import OpenK.KMeth
import HandS.Replace
import HandS.Conv
import PyProof.StrLawsFirst
import HandS.Deep
import HandS.Head0
import HandS.Head1
import HandS.Head2
import HandS.HeadEnd
import PySem.Challenge.RW_signedpacts_k01_machine_normal_form
set_option Elab.async false
set_option linter.all false
set_option maxRecDepth 100000
set_option maxHeartbeats 4000000
namespace Z
open PySem PySem.Spec PyProof.Rows L2
/-! ### zip over two sequences, each a list (true) or a tuple (false) -/
def SqK (b : Bool) (K : PySem.W.Frag) (H : Hp) (a : Addr) (xs : List V) : Prop := match b with
  | true => SqL K H a xs
  | false => SqT K H a xs
def ItK (b : Bool) (h : Heap) (it l : Addr) (i : Nat) : Prop := match b with
  | true => h.IsListIter it l i
  | false => h.IsTupleIter it l i
def IsK (b : Bool) (h : Heap) (l : Addr) (xs : Array Value) : Prop := match b with
  | true => h.IsList l xs
  | false => h.IsTuple l xs
theorem ItK.at' {b : Bool} {h h' : Heap} {it l : Addr} {i : Nat} (x : ItK b h it l i) (k : ∀ o, h.get? it = some o → h'.get? it = some o) : ItK b h' it l i := by
  cases b
  · exact Heap.IsTupleIter.at x k
  · exact Heap.IsListIter.at x k
theorem ItK.obj {b : Bool} {h : Heap} {it l : Addr} {i : Nat} (x : ItK b h it l i) : ∃ o, h.get? it = some o ∧ ∀ v, o.data ≠ .cell v := by
  cases b
  · obtain ⟨o, e, _, d⟩ := (show h.IsTupleIter it l i from x)
    exact ⟨o, e, fun v q => by rw [d] at q; cases q⟩
  · obtain ⟨o, e, _, d⟩ := (show h.IsListIter it l i from x)
    exact ⟨o, e, fun v q => by rw [d] at q; cases q⟩
theorem sqk_is {X : Cx} {pins : List (Addr × Obj)} {σ : L2.St} {H : Hp} {s : Shared} {b : Bool} {a : Addr} {xs : List V} (I : Inv X pins σ H s) (h : SqK b X.K H a xs) :
    ∃ its : List Value, Vals xs its ∧ IsK b s.heap a its.toArray ∧ a < s.heap.objs.size := by
  cases b
  · obtain ⟨its, r, p, _⟩ := I.tuple h
    obtain ⟨o, ho, _⟩ := id p
    exact ⟨its, r, p, Heap.lt_size ho⟩
  · obtain ⟨its, r, p, _⟩ := I.list h
    exact ⟨its, r, p.isList, p.lt⟩
theorem sqk_inj {X : Cx} {pins : List (Addr × Obj)} {σ : L2.St} {H : Hp} {s : Shared} {b : Bool} {a : Addr} {xs ys : List V} (I : Inv X pins σ H s) (h : SqK b X.K H a xs) (h' : SqK b X.K H a ys) : xs = ys := by
  cases b
  · exact I.tuple_inj h h'
  · exact I.list_inj h h'
theorem drawsK {prog : Program} {w : World} {A : Around} (b : Bool) (hh : A.handled = none) (it l : Addr) (hne : l ≠ it) (items : Array Value) :
    Draws prog w A it [it, l] items.size (fun i v => items[i]? = some v) (fun i h => ItK b h it l i ∧ IsK b h l items) := by
  cases b
  · exact Draws.tuple hh it l hne items
  · exact Draws.list hh it l hne items
def ItzM (p q : Bool) (K : PySem.W.Frag) (a b : Addr) : It :=
  ⟨fun i H => ∃ (xs ys : List V) (x y : V), SqK p K H a xs ∧ SqK q K H b ys ∧ xs[i]? = some x ∧ ys[i]? = some y,
   fun i H v H' => ∃ T x y, v = .ref T ∧ H T = none ∧ H' = upd H T (.tup [x, y]) ∧ (∀ xs, SqK p K H a xs → xs[i]? = some x) ∧ (∀ ys, SqK q K H b ys → ys[i]? = some y),
   fun i H => ∃ xs ys : List V, SqK p K H a xs ∧ SqK q K H b ys ∧ (xs.length ≤ i ∨ ys.length ≤ i) ∧ i ≤ xs.length ∧ i ≤ ys.length⟩
theorem zsep {z TI TO i1 i2 a b : Addr} (D : ZipApart z TI TO i1 i2 a b) : ZipSep2 z TI TO i1 i2 [i1, a] [i2, b] where
  TIz := D.TIz
  TOz := D.TOz
  TITO := D.TITO
  TIi1 := D.TIi1
  mem1 := List.mem_cons_self
  zf1 := fun h => by rcases List.mem_cons.mp h with e | h; exact D.i1z e.symm; exact D.l1z (List.mem_singleton.mp h).symm
  Tf1 := fun h => by rcases List.mem_cons.mp h with e | h; exact D.TOi1 e; exact D.l1TO (List.mem_singleton.mp h).symm
  TIi2 := D.TIi2
  mem2 := List.mem_cons_self
  zf2 := fun h => by rcases List.mem_cons.mp h with e | h; exact D.i2z e.symm; exact D.l2z (List.mem_singleton.mp h).symm
  Tf2 := fun h => by rcases List.mem_cons.mp h with e | h; exact D.TOi2 e; exact D.l2TO (List.mem_singleton.mp h).symm
  sep1_2 := fun h => by rcases List.mem_cons.mp h with e | h; exact D.i12 e; exact D.l2i1 (List.mem_singleton.mp h).symm
  sep2_1 := fun h => by rcases List.mem_cons.mp h with e | h; exact D.i12 e.symm; exact D.l1i2 (List.mem_singleton.mp h).symm
theorem five {c z TI TO i1 i2 : Addr} {Pr : Addr → Prop} (hc : c ∈ [z, TI, TO, i1, i2]) (a : Pr z) (b : Pr TI) (d : Pr TO) (e : Pr i1) (f : Pr i2) : Pr c := by
  have q : c = z ∨ c = TI ∨ c = TO ∨ c = i1 ∨ c = i2 := by simpa using hc
  rcases q with rfl | rfl | rfl | rfl | rfl <;> assumption
theorem turn_zipM {p q : Bool} {P : Program} {w : World} {K : PySem.W.Frag} {elts : List Expr} {kk : Nat} {tpos : Pos} {a b z TI TO i1 i2 : Addr} (D : ZipApart z TI TO i1 i2 a b) :
    Turn P w K (.Tuple elts kk tpos) (ItzM p q K a b) [z, TI, TO, i1, i2] z (fun i h => IsZip h z TI TO .none ∧ IsTupOf2 h TI (.ref i1) (.ref i2) ∧ (∃ x y, IsTupOf2 h TO x y) ∧ ItK p h i1 a i ∧ ItK q h i2 b i) where
  mem := by simp
  obj := fun i h st c hc => by
    obtain ⟨hz, hI, ⟨x, y, hO⟩, h1, h2⟩ := st
    exact five (Pr := fun c => ∃ o, h.get? c = some o ∧ ∀ v, o.data ≠ .cell v) hc ⟨_, hz, fun v q => nomatch q⟩ ⟨_, hI, fun v q => nomatch q⟩ ⟨_, hO, fun v q => nomatch q⟩ h1.obj h2.obj
  keep := fun i h h' st k => by
    obtain ⟨hz, hI, ⟨x, y, hO⟩, h1, h2⟩ := st
    exact ⟨k z (by simp) _ hz, k TI (by simp) _ hI, ⟨x, y, k TO (by simp) _ hO⟩, h1.at' (fun o e => k i1 (by simp) o e), h2.at' (fun o e => k i2 (by simp) o e)⟩
  item := by
    intro X hP hw hK hc i pins s σ H E I hf st hg
    subst hP hw hK
    obtain ⟨hz, hI, ⟨x0, y0, hO⟩, h1, h2⟩ := st
    obtain ⟨xs, ys, x, y, qx, qy, ex, ey⟩ := hg
    obtain ⟨us, rx, kx, _⟩ := sqk_is I qx
    obtain ⟨vs, ry, ky, _⟩ := sqk_is I qy
    obtain ⟨u, eu, ru⟩ := rx.get ex
    obtain ⟨v, ev, rv⟩ := ry.get ey
    have hzl : z < s.heap.objs.size := Heap.lt_size hz
    have lu : i < us.toArray.size := by simpa using (List.getElem?_eq_some_iff.mp eu).1
    have lv : i < vs.toArray.size := by simpa using (List.getElem?_eq_some_iff.mp ev).1
    have hh : X.A.in1.handled = none := I.ok.hd hc
    refine wpAny_pyNext_zipD2_item (zsep D) (drawsK p hh i1 a D.l1i1 us.toArray) (drawsK q hh i2 b D.l2i2 vs.toArray) hz hI hO ⟨h1, kx⟩ ⟨h2, ky⟩ lu lv fun m1 m2 g tk p1 p2 gz gO g1 g2 gT gs gk => ?_
    have e1 : m1 = u := by
      have t1 : us.toArray[i]? = some u := by simpa using eu
      exact Option.some.inj (p1.symm.trans t1)
    have e2 : m2 = v := by
      have t1 : vs.toArray[i]? = some v := by simpa using ev
      exact Option.some.inj (p2.symm.trans t1)
    subst e1 e2
    refine ⟨_, rfl, wpAny_letOwnedTupleGo_zip (s := { s with heap := g, toks := tk }) gz fun g' gz' sb => ?_⟩
    have gT' : g'.get? s.heap.objs.size = some { cls := .type "tuple", data := .seq #[m1, m2] } := (sb.2 _ (Nat.ne_of_gt hzl)).trans gT
    have nw : ObjOk X.prog X.w (upd H s.heap.objs.size (.tup [x, y])) g' s.heap.objs.size (.tup [x, y]) := ⟨by show 2 ≤ sizeLine; decide, [m1, m2], .cons ru (.cons rv .nil), ⟨_, gT', rfl, _, rfl⟩⟩
    have I1 : Inv X pins σ (upd H s.heap.objs.size (.tup [x, y])) { s with heap := g', toks := tk } :=
      I.turnedNew (t' := tk) (ch := [z, TI, TO, i1, i2]) (fun c o nb e => (sb.2 c (fun w => nb (by simp [w]))).trans (gk c o (fun w => nb (by simp [w])) (fun w => nb (by simp [w])) (fun w => nb (by simp [w])) (fun w => nb (by simp [w])) e)) hf (Nat.le_refl _) nw
    refine ⟨.ref s.heap.objs.size, _, I1, rfl, ⟨_, x, y, rfl, I.hok.fresh (Nat.le_refl _), rfl, fun l hl => by rw [sqk_inj I hl qx]; exact ex, fun l hl => by rw [sqk_inj I hl qy]; exact ey⟩, ⟨gz', ?_, ⟨m1, m2, ?_⟩, ?_, ?_⟩, fun c hcm => ?_⟩
    · exact (sb.2 _ D.TIz).trans (gk _ _ D.TIz D.TITO D.TIi1 D.TIi2 hI)
    · exact (sb.2 _ D.TOz).trans gO
    · exact ItK.at' g1.1 (fun o e => (sb.2 _ D.i1z).trans e)
    · exact ItK.at' g2.1 (fun o e => (sb.2 _ D.i2z).trans e)
    · have lt : c < s.heap.objs.size := by
        obtain ⟨o1, q1, _⟩ := h1.obj
        obtain ⟨o2, q2, _⟩ := h2.obj
        exact five (Pr := fun c => c < s.heap.objs.size) hcm hzl (Heap.lt_size hI) (Heap.lt_size hO) (Heap.lt_size q1) (Heap.lt_size q2)
      rw [upd_ne (Nat.ne_of_lt lt)]
      exact (hf c hcm).1
  done := by
    intro X hP hw hK hc i pins s σ H E I hf st hg
    subst hP hw hK
    obtain ⟨hz, hI, ⟨x0, y0, hO⟩, h1, h2⟩ := st
    obtain ⟨xs, ys, qx, qy, hend, le1, le2⟩ := hg
    obtain ⟨us, rx, kx, _⟩ := sqk_is I qx
    obtain ⟨vs, ry, ky, _⟩ := sqk_is I qy
    have l1 := rx.length
    have l2 := ry.length
    have n1 : us.toArray.size = us.length := by simp
    have n2 : vs.toArray.size = vs.length := by simp
    have hh : X.A.in1.handled = none := I.ok.hd hc
    refine wpAny_pyNext_zipD2_end (i := i) (zsep D) (drawsK p hh i1 a D.l1i1 us.toArray) (drawsK q hh i2 b D.l2i2 vs.toArray) hz hI hO ⟨h1, kx⟩ ⟨h2, ky⟩ (by omega) (by omega) (by omega) fun g tk gk => ?_
    exact ⟨rfl, I.turnedL (t' := tk) (ch := [z, TI, TO, i1, i2]) (fun c o nb e => gk c o (fun w => nb (by simp [w])) (fun w => nb (by simp [w])) (fun w => nb (by simp [w])) (fun w => nb (by simp [w])) e) hf⟩
  self := fun A i s Q E st h => wpAny_pyIter_zip st.1 h
def iZipM (K : PySem.W.Frag) (ta : TA) : TI := fun σ H R => ta σ H fun vs H1 => ∃ p q a b xs ys, vs = [.ref a, .ref b] ∧ SqK p K H1 a xs ∧ SqK q K H1 b ys ∧ R (ItzM p q K a b) H1
theorem begK {p : Bool} {h : Heap} {a : Addr} {xs : Array Value} (k : IsK p h a xs) : ∃ o Hp', Begins (.ref a) o Hp' ∧ Hp' h ∧ ∀ h' it, h'.get? it = some o → ItK p h' it a 0 := by
  cases p
  · exact ⟨_, _, begins_tuple a xs, k, fun h' it e => ⟨_, e, rfl, rfl⟩⟩
  · exact ⟨_, _, begins_list a xs, k, fun h' it e => ⟨_, e, rfl, rfl⟩⟩
theorem pi_zipM {X : Cx} {e e2 : Expr} {ta : TA} {p pos tpos : Pos} {elts : List Expr} {kk : Nat} (hg : Gl X "zip") (hm : X.mg "zip" = none) (ha : PA X [e, e2] ta)
    (hs : starEach [e, e2] X.env = (false, eval e X.env) :: starEach [e2] X.env := by rfl) (hpl : (backTo pos (starEach [e2] X.env)).any (·.1) = false := by rfl) :
    PI X (.Tuple elts kk tpos) (.Call (.Name "zip" p) [e, e2] [] pos) (iZipM X.K ta) := by
  constructor
  intro pins s σ H R I h
  refine Call_ (ld_blt I hg hm PyProof.Rows.boot_zip (PyProof.Rows.callWith_type1 (thn (ha.run pos pins s σ H _ I h) fun us s1 ⟨vs, H1, I1, r1, q1⟩ => ?_) hs hpl))
  obtain ⟨k1, k2, a, b, xs, ys, ex, qx, qy, q⟩ := q1
  subst ex
  obtain ⟨u, v, rfl, ru, rv⟩ := Vals.two r1
  cases ru
  cases rv
  obtain ⟨i1, _, p1, lt1⟩ := sqk_is I1 qx
  obtain ⟨i2, _, p2, lt2⟩ := sqk_is I1 qy
  obtain ⟨o1, G1, B1, g1, w1⟩ := begK p1
  obtain ⟨o2, G2, B2, g2, w2⟩ := begK p2
  refine zip_begins2 B1 B2 g1 g2 fun h' hz hI hO e1 e2 hsz hk => wpAny_pyIter_zip hz ?_
  have I2 : Inv X pins σ H1 { s1 with heap := h' } := I1.kept (t' := s1.toks) hk
  refine ⟨s1.heap.objs.size + 4, [s1.heap.objs.size + 4, s1.heap.objs.size + 2, s1.heap.objs.size + 3, s1.heap.objs.size, s1.heap.objs.size + 1], _, _, H1, rfl, I2, turn_zipM (PySem.W.ktu_apart s1.heap.objs.size a b lt1 lt2), ⟨hz, hI, ⟨_, _, hO⟩, w1 _ _ e1, w2 _ _ e2⟩, fun c hcm => ?_, q⟩
  have hle : s1.heap.objs.size ≤ c := five (Pr := fun c => s1.heap.objs.size ≤ c) hcm (Nat.le_add_right _ _) (Nat.le_add_right _ _) (Nat.le_add_right _ _) (Nat.le_refl _) (Nat.le_add_right _ _)
  exact I1.fpOk hle (I1.hok.fresh hle)
end Z
set_option Elab.async false
set_option linter.all false
set_option maxRecDepth 100000
set_option maxHeartbeats 4000000
namespace Z
open PySem PySem.Spec PyProof.Rows L2
/-! ### (v,) * k for 0 ≤ k -/
theorem tmul0 (l : Addr) (v : Value) (n : Nat) (dd : Option Addr) (sl : Array (Option Value)) (u : Tok) :
    Meets (Builtin.«tuple.__mul__» ⟨[.ref l, .int 0 u], []⟩) (fun _ R s => s.heap.get? l = some { cls := .type "tuple", dict := dd, data := .seq #[v] n, slots := sl } ∧
      R (.ok (.ret (Value.ref s.heap.objs.size))) { s with heap := s.heap.push { cls := Value.type "tuple", data := Data.seq #[] }, toks := s.toks }) :=
  .of_wp fun prog w A R s h => by
    obtain ⟨hp, g, d, tk, os⟩ := s
    obtain ⟨hl, h⟩ := h
    have f1 := AutoSeq1.idx_int
    wp_walk using AutoSeq1.wpAny_loadPart' hl
    exact ⟨_, rfl, h⟩
theorem tmul1 (l : Addr) (items : Array Value) (n : Nat) (dd : Option Addr) (sl : Array (Option Value)) (u : Tok) :
    Meets (Builtin.«tuple.__mul__» ⟨[.ref l, .int 1 u], []⟩) (fun _ R s => s.heap.get? l = some { cls := .type "tuple", dict := dd, data := .seq items n, slots := sl } ∧ R (.ok (.ret (Value.ref l))) s) :=
  .of_wp fun prog w A R s h => by
    obtain ⟨hp, g, d, tk, os⟩ := s
    obtain ⟨hl, h⟩ := h
    have f1 := AutoSeq1.idx_int
    wp_walk using AutoSeq1.wpAny_loadPart' hl
    exact ⟨_, rfl, h⟩
theorem same_new {H : Hp} {p : Addr} {o : HO} (h : H p = none) : Same H (upd H p o) := fun b x e => by
  rw [upd_ne (ne_of_none e h)]
  exact e
def rRepU : R2 := fun x y H Q => ∃ l k v, x = .ref l ∧ y = .int k ∧ H l = some (.tup [v]) ∧ 0 ≤ k ∧ k ≤ 1000 ∧ ∀ p H', Same H H' → H' p = some (.tup (List.replicate k.toNat v)) → Q (.ref p) H'
theorem op_repU {X : Cx} : OpR X (binaryOp .Mult) rRepU := by
  intro pins s σ H x y vv uu Q I rx ry h
  obtain ⟨l, k, v, rfl, rfl, hT, h0, h1, q⟩ := id h
  by_cases k2 : 2 ≤ k
  · refine op_repT pins s σ H _ _ vv uu Q I rx ry ⟨l, k, [v], rfl, rfl, .inl (.inl hT), by simp, k2, h1, by simp, fun p np => q p _ (same_new np) ?_⟩
    rw [upd_same]
    congr 2
    generalize k.toNat = m
    induction m with
    | zero => rfl
    | succ m ih => rw [List.replicate_succ, List.flatten_cons, ih, List.replicate_succ]; rfl
  · cases rx
    obtain ⟨t, rfl⟩ := ry
    obtain ⟨its, r, ⟨⟨cls, dd, data, sl⟩, ho, hc, n, hd⟩, hs⟩ := I.tuple (.inl (.inl hT) : SqT X.K H l [v])
    simp only at hc hd
    subst hc hd
    obtain ⟨u, rfl, ru⟩ := Vals.one r
    by_cases k1 : k = 1
    · subst k1
      refine wpAny_binaryOp_repeat_ref (T := "tuple") (U := "int") (by decide) ⟨_, ho, rfl⟩ (fun s' => typeIs_int s' 1 t) noFill_tuple_mul F.fills_int_mul F.slot_int_rmul repeat_tuple F.slot_int_index.lookup
        (call_meets F.slot_int_rmul (typeIs_int s 1 t) F.entry_int_rmul (F.args_int_rmul_2 _ _) (int_rmul_tuple 1 t l [u].toArray n dd sl)
          ⟨ho, rfl, ⟨_, ho, rfl⟩, call_meets F.slot_tuple_mul ⟨_, ho, rfl⟩ F.entry_tuple_mul (F.args_tuple_mul_2 _ _) (tmul1 l [u].toArray n dd sl t) ⟨ho, ?_⟩⟩)
      exact ⟨.ref l, H, I, rfl, q l H (Same.refl H) hT⟩
    · have k0 : k = 0 := by omega
      subst k0
      refine wpAny_binaryOp_repeat_ref (T := "tuple") (U := "int") (by decide) ⟨_, ho, rfl⟩ (fun s' => typeIs_int s' 0 t) noFill_tuple_mul F.fills_int_mul F.slot_int_rmul repeat_tuple F.slot_int_index.lookup
        (call_meets F.slot_int_rmul (typeIs_int s 0 t) F.entry_int_rmul (F.args_int_rmul_2 _ _) (int_rmul_tuple 0 t l [u].toArray n dd sl)
          ⟨ho, rfl, ⟨_, ho, rfl⟩, call_meets F.slot_tuple_mul ⟨_, ho, rfl⟩ F.entry_tuple_mul (F.args_tuple_mul_2 _ _) (tmul0 l u n dd sl t) ⟨ho, ?_⟩⟩)
      refine ⟨.ref s.heap.objs.size, _, I.laid (t' := s.toks) (o := .tup []) (fun b ob z => Heap.get?_push_of_some _ z) (Nat.le_refl _) ?_, rfl, q _ _ (same_new (I.hok.fresh (Nat.le_refl _))) upd_same⟩
      exact ⟨Nat.zero_le _, [], .nil, IsTup.new _ _⟩
/-! ### loops and comprehensions over any iterator -/
def forW (J : It) (g : TG) (tb : TS) (D : Ends) (σ : L2.St) (H : Hp) : Prop := ∃ W : Nat → Nat → L2.St → Hp → Prop, (∃ m, W 0 m σ H) ∧ ∀ i m σ H, W i m σ H →
  (J.stop i H ∧ D.nx σ H) ∨ (J.go i H ∧ ∃ N : L2.St → Hp → Prop, (∀ σ' H', N σ' H' → ∃ m', m' < m ∧ W (i + 1) m' σ' H') ∧ ∀ x H', J.yld i H x H' → g x σ H' fun σ2 H2 => tb { D with nx := N, ct := N, bk := D.nx } σ2 H2)
theorem for_gen {J : It} {n : Nat} {g : TG} {tb : TS} {D : Ends} {σ : L2.St} {H : Hp} (Pv : Nat → L2.St → Hp → Prop) (h0 : Pv 0 σ H) (hgo : ∀ i σ H, i < n → Pv i σ H → J.go i H) (hst : ∀ σ H, Pv n σ H → J.stop n H)
    (hs : ∀ i σ H x H', i < n → Pv i σ H → J.yld i H x H' → g x σ H' fun σ2 H2 => tb { D with nx := Pv (i + 1), ct := Pv (i + 1), bk := D.nx } σ2 H2) (hd : ∀ σ H, Pv n σ H → D.nx σ H) : forW J g tb D σ H := by
  refine ⟨fun i m σ H => m = n - i ∧ i ≤ n ∧ Pv i σ H, ⟨n, by omega, Nat.zero_le _, h0⟩, fun i m σ H w => ?_⟩
  obtain ⟨rfl, hi, p⟩ := w
  by_cases hlt : i < n
  · exact .inr ⟨hgo i σ H hlt p, Pv (i + 1), fun σ' H' z => ⟨n - (i + 1), by omega, rfl, hlt, z⟩, fun x H' y => hs i σ H x H' hlt p y⟩
  · have e : i = n := by omega
    subst e
    exact .inl ⟨hst σ H p, hd σ H p⟩
def lcW (J : It) (g : TG) (tt : TT) (te : TE) (vs : List Nat) (σ : L2.St) (D : Addr) (Qd : Hp → Prop) (H1 : Hp) : Prop := ∃ W : Nat → Nat → Hp → Prop, (∃ m, W 0 m (upd H1 D (.lst []))) ∧ ∀ i m H, W i m H →
  (J.stop i H ∧ Qd H) ∨ (J.go i H ∧ ∃ Nx : Hp → Prop, (∀ H', Nx H' → ∃ m', m' < m ∧ W (i + 1) m' H') ∧ ∀ x H', J.yld i H x H' → g x (wipe σ vs) H' fun σ2 H2 => wipe σ2 vs = wipe σ vs ∧ tt σ2 H2 fun b H3 =>
    if b = true then te σ2 H3 fun y H4 => ∃ acc, H4 D = some (.lst acc) ∧ acc.length < sizeLine ∧ Nx (upd H4 D (.lst (acc ++ [y]))) else Nx H3)
theorem lc_gen {J : It} {n : Nat} {g : TG} {tt : TT} {te : TE} {vs : List Nat} {σ : L2.St} {H1 : Hp} {D : Addr} {Qd : Hp → Prop} (Pv : Nat → Hp → Prop) (h0 : Pv 0 (upd H1 D (.lst []))) (hgo : ∀ i H, i < n → Pv i H → J.go i H) (hst : ∀ H, Pv n H → J.stop n H)
    (hs : ∀ i H x H', i < n → Pv i H → J.yld i H x H' → g x (wipe σ vs) H' fun σ2 H2 => wipe σ2 vs = wipe σ vs ∧ tt σ2 H2 fun b H3 =>
      if b = true then te σ2 H3 fun y H4 => ∃ acc, H4 D = some (.lst acc) ∧ acc.length < sizeLine ∧ Pv (i + 1) (upd H4 D (.lst (acc ++ [y]))) else Pv (i + 1) H3) (hd : ∀ H, Pv n H → Qd H) : lcW J g tt te vs σ D Qd H1 := by
  refine ⟨fun i m H => m = n - i ∧ i ≤ n ∧ Pv i H, ⟨n, by omega, Nat.zero_le _, h0⟩, fun i m H w => ?_⟩
  obtain ⟨rfl, hi, p⟩ := w
  by_cases hlt : i < n
  · exact .inr ⟨hgo i H hlt p, Pv (i + 1), fun H' z => ⟨n - (i + 1), by omega, rfl, hlt, z⟩, fun x H' y => hs i H x H' hlt p y⟩
  · have e : i = n := by omega
    subst e
    exact .inl ⟨hst H p, hd H p⟩
/-! ### a def of the module that may be called by its name -/
structure Cal (P : Program) (w : World) (K : PySem.W.Frag) (mg : Str → Option Value) (base : Heap) (k : Nat) (x : Str) (sp : Sp) : Prop where
  ex : ∃ (f : Addr) (fd : FuncData) (ps : List Str), FnOk P w K mg base CX0 k f fd ps sp ∧ mg x = some (.ref f) ∧ PySem.W.keepIn K (.ref f) = true ∧ Binds K fd ps []
section
variable {X : Cx} {k j : Nat} {x : Str} {sp : Sp} {p pos : Pos} {e : Expr} {es : List Expr} {t : TA}
theorem pe_cl (c : Cal X.prog X.w X.K X.mg X.base k x sp) (hr : Room j X.A) (hk : k ≤ j) (hg : Gl X x) (ha : PA X (e :: es) t)
    (hdb : (x == ("__debug__" : Str)) = false := by decide) (he : starEach (e :: es) X.env = (false, eval e X.env) :: starEach es X.env := by rfl) (hpl : (backTo pos (starEach es X.env)).any (·.1) = false := by rfl) : PE X (.Call (.Name x p) (e :: es) [] pos) (tCall sp [] E0 t) := by
  obtain ⟨f, fd, ps, F, hm, kp, b⟩ := c.ex
  exact pe_call F (hr.mono hk) hg hm kp b .nil pass0 ha hdb he hpl
end
structure CalK (P : Program) (w : World) (K : PySem.W.Frag) (mg : Str → Option Value) (base : Heap) (k : Nat) (x : Str) (n : Nat) (ks : List Str) (gV : List V → List V → List V) (sp : Sp) : Prop where
  ex : ∃ (f : Addr) (fd : FuncData) (ps : List Str) (g : List Value → List Value → List Value), FnOk P w K mg base CX0 k f fd ps sp ∧ mg x = some (.ref f) ∧ PySem.W.keepIn K (.ref f) = true ∧ KBn K fd ps n ks g gV
section
variable {X : Cx} {k j n : Nat} {x : Str} {sp : Sp} {ks : List Str} {gV : List V → List V → List V} {p pos : Pos} {e : Expr} {es : List Expr} {kws : List Keyword} {t tk : TA}
theorem pe_clK (c : CalK X.prog X.w X.K X.mg X.base k x n ks gV sp) (hr : Room j X.A) (hk : k ≤ j) (hg : Gl X x) (ha : PA X (e :: es) t) (hkw : PK X kws tk)
    (hall : (backToKw pos (keywordEach kws X.env)).all (·.1.isSome) = true := by rfl) (hks : (backToKw pos (keywordEach kws X.env)).filterMap (·.1) = ks := by rfl) (hdb : (x == ("__debug__" : Str)) = false := by decide)
    (he : starEach (e :: es) X.env = (false, eval e X.env) :: starEach es X.env := by rfl) (hpl : ((backTo pos (starEach (e :: es) X.env)).any (·.1) || (backToKw pos (keywordEach kws X.env)).any (·.1.isNone)) = false := by rfl) :
    PE X (.Call (.Name x p) (e :: es) kws pos) (tCallN n ks.length sp gV E0 t tk) := by
  obtain ⟨f, fd, ps, g, F, hm, kp, b⟩ := c.ex
  exact pe_callN F (hr.mono hk) hg hm kp b pass0 ha hkw hall hks hdb he hpl
end
/-! ### heaps -/
/-- all but p stands -/
def SB (p : Addr) (H H' : Hp) : Prop := ∀ b o, b ≠ p → H b = some o → H' b = some o
theorem Same.sb {p : Addr} {H H' : Hp} (s : Same H H') : SB p H H' := fun b o _ h => s b o h
theorem SB.trans {p : Addr} {H H1 H2 : Hp} (a : SB p H H1) (b : SB p H1 H2) : SB p H H2 := fun c o n h => b c o n (a c o n h)
theorem SB.upd {p : Addr} {H H' : Hp} {o : HO} (s : SB p H H') : SB p H (upd H' p o) := fun b u n h => by
  rw [upd_ne n]
  exact s b u n h
theorem SB.same {p : Addr} {H H' : Hp} (s : SB p H H') (n : H p = none) : Same H H' := fun b o h => s b o (ne_of_none h n) h
theorem Same.mut {p : Addr} {H H' : Hp} {o : HO} (s : Same H H') (n : H p = none) : Same H (L2.upd H' p o) := fun b u h => by
  rw [upd_ne (ne_of_none h n)]
  exact s b u h
theorem SB.sq {K : PySem.W.Frag} {p a : Addr} {H H' : Hp} {xs : List V} (s : SB p H H') (n : a ≠ p) (h : SqL K H a xs) : SqL K H' a xs := by
  rcases h with (h | ⟨o, h⟩) | h
  · exact .inl (.inl (s _ _ n h))
  · exact .inl (.inr ⟨o, s _ _ n h⟩)
  · exact .inr h
theorem Same.sqT {K : PySem.W.Frag} {a : Addr} {H H' : Hp} {xs : List V} (s : Same H H') (h : SqT K H a xs) : SqT K H' a xs := by
  rcases h with (h | ⟨o, h⟩) | h
  · exact .inl (.inl (s _ _ h))
  · exact .inl (.inr ⟨o, s _ _ h⟩)
  · exact .inr h
theorem Same.sqK {b : Bool} {K : PySem.W.Frag} {a : Addr} {H H' : Hp} {xs : List V} (s : Same H H') (h : SqK b K H a xs) : SqK b K H' a xs := by
  cases b
  · exact Z.Same.sqT s h
  · exact s.seq h
theorem at_map {α : Type} {f : α → V} {xs : List α} {i : Nat} {x : α} (h : xs[i]? = some x) : atI (xs.map f) (i : Int) = some (f x) := atI_nat (by rw [List.getElem?_map, h]; rfl)
theorem of_map {α : Type} {f : α → V} {xs : List α} {i : Nat} {v : V} (h : (xs.map f)[i]? = some v) : ∃ x, xs[i]? = some x ∧ v = f x := by
  rw [List.getElem?_map] at h
  cases e : xs[i]? with
  | none => rw [e] at h; cases h
  | some x => rw [e] at h; exact ⟨x, rfl, (Option.some.inj h).symm⟩
end Z
set_option Elab.async false
set_option linter.all false
set_option maxRecDepth 100000
set_option maxHeartbeats 4000000
namespace Z
open PySem PySem.Spec PyProof.Rows L2
/-! ### data -/
def sqD (b : Bool) (ds : List PyData) : PyData := match b with
  | true => .list ds
  | false => .tuple ds
def intsD (b : Bool) (ns : List Int) : PyData := sqD b (ns.map PyData.int)
def matD (b : Bool) (rs : List (List Int)) : PyData := sqD b (rs.map (intsD b))
theorem dp_sq {b : Bool} {K : PySem.W.Frag} {H : Hp} {a : Addr} {xs : List V} {ds : List PyData} (h : SqK b K H a xs) (d : DpAll K H xs ds) : Dp K H (.ref a) (sqD b ds) := by
  cases b
  · exact .tup h d
  · exact .lst h d
theorem dpa_ints {K : PySem.W.Frag} {H : Hp} : ∀ ns : List Int, DpAll K H (ns.map V.int) (ns.map PyData.int)
  | [] => .nil
  | n :: r => .cons (.int n) (dpa_ints r)
theorem dp_ints {b : Bool} {K : PySem.W.Frag} {H : Hp} {a : Addr} {ns : List Int} (h : SqK b K H a (ns.map V.int)) : Dp K H (.ref a) (intsD b ns) := dp_sq h (dpa_ints ns)
/-- a matrix: a list (or tuple) of lists (or tuples) of ints, at ps -/
def Mat (b : Bool) (K : PySem.W.Frag) (H : Hp) (a : Addr) (ps : List Addr) (rs : List (List Int)) : Prop := SqK b K H a (ps.map V.ref) ∧ ps.length = rs.length ∧ ∀ (i : Nat) (p : Addr) (r : List Int), ps[i]? = some p → rs[i]? = some r → SqK b K H p (r.map V.int)
theorem Mat.mono {b : Bool} {K : PySem.W.Frag} {H H' : Hp} {a : Addr} {ps : List Addr} {rs : List (List Int)} (s : Same H H') (m : Mat b K H a ps rs) : Mat b K H' a ps rs := ⟨Z.Same.sqK s m.1, m.2.1, fun i p r h1 h2 => Z.Same.sqK s (m.2.2 i p r h1 h2)⟩
theorem dpa_mat {b : Bool} {K : PySem.W.Frag} {H : Hp} : ∀ (ps : List Addr) (rs : List (List Int)), ps.length = rs.length → (∀ (i : Nat) (p : Addr) (r : List Int), ps[i]? = some p → rs[i]? = some r → SqK b K H p (r.map V.int)) → DpAll K H (ps.map V.ref) (rs.map (intsD b))
  | [], [], _, _ => .nil
  | p :: ps, r :: rs, hl, h => .cons (dp_ints (h 0 p r rfl rfl)) (dpa_mat ps rs (by simpa using hl) fun i q s h1 h2 => h (i + 1) q s h1 h2)
theorem Mat.dp {b : Bool} {K : PySem.W.Frag} {H : Hp} {a : Addr} {ps : List Addr} {rs : List (List Int)} (m : Mat b K H a ps rs) : Dp K H (.ref a) (matD b rs) := dp_sq m.1 (dpa_mat ps rs m.2.1 m.2.2)
theorem lay_ints : ∀ ns : List Int, PyData.canLayAll0 (ns.map PyData.int) = true
  | [] => rfl
  | n :: r => by
    rw [List.map_cons, PyData.canLayAll0, lay_ints r]
    rfl
theorem dep_ints : ∀ ns : List Int, PyData.depthAll (ns.map PyData.int) = 0
  | [] => rfl
  | n :: r => by
    rw [List.map_cons, PyData.depthAll, dep_ints r]
    rfl
theorem shaped_ints (b : Bool) (ns : List Int) : SeqAt.shaped (intsD b ns) = true := by
  unfold SeqAt.shaped intsD
  cases b
  · show (PyData.canLayAll0 (ns.map PyData.int) && decide (PyData.depthAll (ns.map PyData.int) + 1 ≤ 64)) = true
    rw [lay_ints, dep_ints]
    rfl
  · show (PyData.canLayAll0 (ns.map PyData.int) && decide (PyData.depthAll (ns.map PyData.int) + 1 ≤ 64)) = true
    rw [lay_ints, dep_ints]
    rfl
theorem lay_mat (b : Bool) : ∀ rs : List (List Int), PyData.canLayAll0 (rs.map (intsD b)) = true
  | [] => rfl
  | n :: r => by
    rw [List.map_cons, PyData.canLayAll0, lay_mat b r, SeqAt.canLay_of_shaped (shaped_ints b n)]
    rfl
theorem dep_mat (b : Bool) : ∀ rs : List (List Int), PyData.depthAll (rs.map (intsD b)) ≤ 1
  | [] => Nat.zero_le _
  | n :: r => by
    rw [List.map_cons, PyData.depthAll]
    have h := dep_mat b r
    have h2 : (intsD b n).depth = 1 := by
      cases b
      · show PyData.depthAll (n.map PyData.int) + 1 = 1
        rw [dep_ints]
      · show PyData.depthAll (n.map PyData.int) + 1 = 1
        rw [dep_ints]
    omega
theorem shaped_mat (b : Bool) (rs : List (List Int)) : SeqAt.shaped (matD b rs) = true := by
  have h := dep_mat b rs
  unfold SeqAt.shaped matD
  cases b
  · show (PyData.canLayAll0 (rs.map (intsD false)) && decide (PyData.depthAll (rs.map (intsD false)) + 1 ≤ 64)) = true
    rw [lay_mat, decide_eq_true (by omega)]
    rfl
  · show (PyData.canLayAll0 (rs.map (intsD true)) && decide (PyData.depthAll (rs.map (intsD true)) + 1 ≤ 64)) = true
    rw [lay_mat, decide_eq_true (by omega)]
    rfl
theorem same2 {K : PySem.W.Frag} {H : Hp} {x y : V} {d : PyData} {R : PyData → PyData → Prop} (hx : Dp K H x d) (hy : Dp K H y d) (hs : SeqAt.shaped d = true) (q : R d d) : ∃ d' e', Dp K H x d' ∧ Dp K H y e' ∧ SeqAt.shaped d' = true ∧ SeqAt.shaped e' = true ∧ R d' e' := ⟨d, d, hx, hy, hs, hs, q⟩
theorem eqv_same {d : PyData} (hs : SeqAt.shaped d = true) : PyData.eqv d d = true := SeqAt.eqv_refl d (SeqAt.canLay_of_shaped hs)
/-! ### a target that is one of two kinds -/
def gOr (t u : TG) : TG := fun v σ H Q => t v σ H Q ∨ u v σ H Q
theorem pg_or {X : Cx} {e : Expr} {t u : TG} (h1 : PG X e t) (h2 : PG X e u) : PG X e (gOr t u) := by
  refine ⟨fun pins s σ H v uu Q I r hw => ?_⟩
  rcases hw with h | h
  · exact h1.run pins s σ H v uu Q I r h
  · exact h2.run pins s σ H v uu Q I r h
/-! ### isinstance of built-in kinds -/
theorem isi {K : PySem.W.Frag} {H : Hp} {x : V} {T c : String} {b : Bool} {R : Bool → Prop} (t : TyOf K H x (.type T)) (h : kitB T c = some b) (q : R b) : ∃ (x' c' : V) (t' u' : Value) (b' : Bool), [x, .ty c] = [x', c'] ∧ ClsV c' u' ∧ TyX K H x' t' ∧ PySem.W.kitOne K t' u' = some b' ∧ R b' :=
  ⟨x, .ty c, .type T, .type c, b, rfl, .ty c, .base t, kit_ty h, q⟩
/-! ### rules by the written part itself (within a comprehension's block) -/
section
variable {X : Cx} {K : PySem.W.Frag}
theorem ix_list_K (h : X.K = K) : IxR X (rIxL K) := by subst h; exact ix_list
theorem ix_tup_K (h : X.K = K) : IxR X (rIxT K) := by subst h; exact ix_tup
theorem ix_seq_K (h : X.K = K) : IxR X (rIx K) := by subst h; exact ix_seq
theorem call_len_seq_K (h : X.K = K) : CallR X (.builtin "len") (fun xs H Q => ∃ p ys, xs = [.ref p] ∧ (SqL K H p ys ∨ SqT K H p ys) ∧ Q (.int ys.length) H) := by subst h; exact call_len_seq
theorem call_list_of_K (h : X.K = K) : CallR X (.type "list") (fun xs H Q => ∃ p ys, xs = [.ref p] ∧ (SqL K H p ys ∨ SqT K H p ys) ∧ ∀ l, H l = none → Q (.ref l) (upd H l (.lst ys))) := by subst h; exact call_list_of
theorem call_tuple_of_K (h : X.K = K) : CallR X (.type "tuple") (fun xs H Q => ∃ p ys, xs = [.ref p] ∧ ((SqL K H p ys ∧ ∀ l, H l = none → Q (.ref l) (upd H l (.tup ys))) ∨ (SqT K H p ys ∧ Q (.ref p) H))) := by subst h; exact call_tuple_of
theorem op_in_seq_K (h : X.K = K) : OpR X (compareOp .In) (rIn K false) := by subst h; exact op_in_seq
theorem op_notIn_seq_K (h : X.K = K) : OpR X (compareOp .NotIn) (rIn K true) := by subst h; exact op_notIn_seq
theorem op_eqD_K (h : X.K = K) (hu : X.A.units + 64 < cLine) : OpR X (compareOp .Eq) (rEqD K) := by subst h; exact op_eqD hu
theorem op_neD_K (h : X.K = K) (hu : X.A.units + 64 < cLine) : OpR X (compareOp .NotEq) (rNeD K) := by subst h; exact op_neD hu
theorem call_isi_K (h : X.K = K) : CallR X (.builtin "isinstance") (rIsi K) := by subst h; exact call_isi
end
/-! ### great products -/
theorem big_mul {i j : Int} (hi : i.natAbs < 2 ^ 4000) (hj : j.natAbs < 2 ^ 4000) : CMulX i j := mulx_ok hi hj (by decide)
/-! ### sums of multiples of rows -/
def combN (rs : List (List Int)) (fs : List Int) (w : Nat) : Nat → List Int
  | 0 => List.replicate w 0
  | n + 1 => List.zipWith (fun a b => a + fs.getD n 0 * b) (combN rs fs w n) (rs.getD n [])
theorem combN_len {rs : List (List Int)} {fs : List Int} {w : Nat} (h : ∀ r ∈ rs, r.length = w) : ∀ n, n ≤ rs.length → (combN rs fs w n).length = w
  | 0, _ => List.length_replicate
  | n + 1, hn => by
    rw [combN, List.length_zipWith, combN_len h n (by omega), List.getD_eq_getElem?_getD, List.getElem?_eq_getElem (by omega), Option.getD_some, h _ (List.getElem_mem _)]
    omega
theorem combN_at {rs : List (List Int)} {fs : List Int} {w i c : Nat} (hi : i < rs.length) (hf : i < fs.length) (c1 : c < (combN rs fs w i).length) (c2 : c < rs[i].length) : (combN rs fs w (i + 1))[c]? = some ((combN rs fs w i)[c] + fs[i] * rs[i][c]) := by
  have g1 : fs.getD i 0 = fs[i] := by rw [List.getD_eq_getElem?_getD, List.getElem?_eq_getElem hf]; rfl
  have g2 : rs.getD i [] = rs[i] := by rw [List.getD_eq_getElem?_getD, List.getElem?_eq_getElem hi]; rfl
  rw [combN, List.getElem?_zipWith, g1, g2, List.getElem?_eq_getElem c1, List.getElem?_eq_getElem c2]
end Z
set_option Elab.async false
set_option linter.all false
set_option maxRecDepth 100000
set_option maxHeartbeats 4000000
namespace Z
open PySem PySem.Spec PyProof.Rows L2
open C8 (pss_cut tCut)
local macro_rules | `(tactic| walk_at "num") => `(tactic| first | omega | decide | exact ⟨by omega, by omega⟩ | exact ⟨by omega, by omega, by omega⟩ | exact ⟨by decide, by decide, by decide⟩ | exact Or.inl ⟨by omega, by omega⟩ | exact Or.inr ⟨by omega, by omega⟩)
local macro_rules | `(tactic| walk_at "go") => `(tactic| repeat (first | refine ⟨_, rfl, ?_⟩ | refine ⟨_, _, rfl, rfl, ?_⟩ | refine ⟨_, _, rfl, rfl, (by walk_at "num"), ?_⟩ | refine Or.inl ⟨_, rfl, ?_⟩ | refine ⟨rfl, ?_⟩ | refine And.intro (by walk_at "num") ?_))
def topS (i : Nat) : Stmt := PySem.Challenge.pw_signedpacts_k01_machine_normal_form.main.body.getD i (.Pass ⟨0, 0, 0, 0⟩)
abbrev s_cell : Stmt := topS 24
abbrev N_cell : List Str := ["_law_script", "_law_k"]
abbrev P_cell : List Str := ["_law_script", "_law_k"]
theorem sc_cell : FnScope N_cell P_cell (defScope s_cell) := ⟨rfl, rfl, rfl, by decide +kernel, rfl, by decide +kernel, by decide +kernel⟩
abbrev s_draws : Stmt := topS 25
abbrev N_draws : List Str := ["_law_cell_here", "_law_many", "_law_rest", "_law_large", "_law_seed", "_law_found", "_law_k"]
abbrev P_draws : List Str := ["_law_cell_here", "_law_many"]
theorem sc_draws : FnScope N_draws P_draws (defScope s_draws) := ⟨rfl, rfl, rfl, by decide +kernel, rfl, by decide +kernel, by decide +kernel⟩
abbrev s_take : Stmt := topS 26
abbrev N_take : List Str := ["_law_draws_here", "_law_place"]
abbrev P_take : List Str := ["_law_draws_here", "_law_place"]
theorem sc_take : FnScope N_take P_take (defScope s_take) := ⟨rfl, rfl, rfl, by decide +kernel, rfl, by decide +kernel, by decide +kernel⟩
abbrev FnP (K : PySem.W.Frag) (x : Str) (st : Stmt) (f : Addr) (fd : FuncData) : Prop := FunD K x x (defArgs st) (defBody st) (defScope st) [] [] f fd
section
variable {P : Program} {w : World} {K : PySem.W.Frag} {mg : Str → Option Value} {base : Heap} {f : Addr} {fd : FuncData}
theorem cal_of {k : Nat} {x : Str} {st : Stmt} {ps : List Str} {sp : Sp} (F : FnP K x st f fd) (g : mg x = some (.ref f)) (b : Binds K fd ps []) (h : FnOk P w K mg base CX0 k f fd ps sp) : Cal P w K mg base k x sp := ⟨f, fd, ps, h, g, F.kp, b⟩
/-! ### _law_cell -/
def spCell (K : PySem.W.Frag) : Sp := fun vs H Q _ => ∃ (a : Addr) (ns : List Int) (k : Nat), vs = [.ref a, .int (k : Int)] ∧ SqL K H a (ns.map V.int) ∧ Q (.int (ns.getD k 0)) H
theorem ok_cell (F : FnP K "_law_cell" s_cell f fd) (m_len : mg "len" = none) (m_int : mg "int" = none) : FnOk P w K mg base CX0 1 f fd P_cell (spCell K) := by
  refine F.ok sc_cell (fun vs H Q E h => ?_) (fun cdv A outer s H vs Q E hr h => ?_)
  · obtain ⟨a, ns, k, rfl, _⟩ := h
    rfl
  · obtain ⟨a, ns, k, rfl, hS, q⟩ := h
    refine ⟨_, PSs.nox (pss_cons (ps_if (pt_cmpR op_lt (pv 1) (pe_callB call_len_seq (by rfl) m_len PySem.boot_len (pa_cons (pv 0) pa_nil)) (nomark _)) (pss_one (ps_ret (pe_callTy call_int1 (by rfl) m_int (by decide +kernel) (pa_cons (pe_ix ix_list (pv 0) (pv 1) (fun _ _ => rfl)) pa_nil)))) pss_nil)
      (pss_one (ps_ret pe_int))), ?_⟩
    walk_at "go"
    refine ⟨a, _, rfl, .inl hS, ?_⟩
    walk_at "go"
    rw [List.length_map]
    refine ite2 (fun e => ?_) (fun e => ?_)
    · have hk : k < ns.length := by have := of_decide_eq_true e; omega
      walk_at "go"
      refine ⟨a, _, _, _, rfl, rfl, hS, at_map (List.getElem?_eq_getElem hk), ?_⟩
      walk_at "go"
      rw [List.getD_eq_getElem?_getD, List.getElem?_eq_getElem hk] at q
      exact q
    · have hk : ¬ k < ns.length := fun z => e (decide_eq_true (by omega))
      rw [List.getD_eq_getElem?_getD, List.getElem?_eq_none (by omega)] at q
      exact q
/-! ### _law_draws -/
def Dr (n : Nat) (ds : List Int) : Prop := ds.length = n ∧ ∀ d ∈ ds, 0 ≤ d ∧ d < 1000000
def spDraws : Sp := fun vs H Q _ => ∃ (c : Int) (n : Nat), vs = [.int c, .int (n : Int)] ∧ n ≤ 100000 ∧ ∀ p ds, H p = none → Dr n ds → Q (.ref p) (upd H p (.lst (ds.map V.int)))
theorem ok_draws (F : FnP K "_law_draws" s_draws f fd) (m_int : mg "int" = none) (m_abs : mg "abs" = none) (m_range : mg "range" = none) : FnOk P w K mg base CX0 1 f fd P_draws spDraws := by
  refine F.ok sc_draws (fun vs H Q E h => ?_) (fun cdv A outer s H vs Q E hr h => ?_)
  · obtain ⟨c, n, rfl, _⟩ := h
    rfl
  · obtain ⟨c, n, rfl, hn, q⟩ := h
    refine ⟨_, PSs.nox (pss_cons (ps_set (i := 2) sc_draws.nd rfl (by first | exact .inl rfl | exact .inr rfl) (pe_callB call_abs (by rfl) m_abs (by decide +kernel) (pa_cons (pe_callTy call_int1 (by rfl) m_int (by decide +kernel) (pa_cons (pv 0) pa_nil)) pa_nil)))
      (pss_cons (ps_set (i := 3) sc_draws.nd rfl (by first | exact .inl rfl | exact .inr rfl) (pe_cmpR op_ge (pv 2) (pe_op op_pow pe_int pe_int) (nomark _)))
      (pss_cons (ps_set (i := 4) sc_draws.nd rfl (by first | exact .inl rfl | exact .inr rfl) (pe_op op_mod (pe_callTy call_int1 (by rfl) m_int (by decide +kernel) (pa_cons (pv 2) pa_nil)) pe_int))
      (pss_cons (ps_set (i := 5) sc_draws.nd rfl (by first | exact .inl rfl | exact .inr rfl) (pe_lst pa_nil))
      (pss_cons (ps_for PassesOwn.never rfl (pi_range1 (by rfl) m_range (pa_cons (pv 1) pa_nil)) (pg_name (i := 6) sc_draws.nd rfl (by first | exact .inl rfl | exact .inr rfl))
        (pss_cons (ps_set (i := 4) sc_draws.nd rfl (by first | exact .inl rfl | exact .inr rfl) (pe_op op_mod (pe_callTy call_int1 (by rfl) m_int (by decide +kernel) (pa_cons (pe_op op_add (pe_op op_add (pe_op op_mul (pv 4) pe_int) (pe_op op_mul pe_int (pv 6))) pe_int) pa_nil)) pe_int))
      (pss_one (ps_if (PW.pt (pw_and (pt_val (pv 3)) (pw_and1 (pt_cmpR op_gt (pv 2) pe_int (nomark _))))) (pss_cons (ps_expr (pe_bm PySem.F.plainAttrs_list PySem.F.slot_list_append PySem.F.type_list_append mt_append (pv 5) (pa_cons (pe_op op_mod (pe_callTy call_int1 (by rfl) m_int (by decide +kernel) (pa_cons (pv 2) pa_nil)) pe_int) pa_nil)))
      (pss_one (ps_set (i := 2) sc_draws.nd rfl (by first | exact .inl rfl | exact .inr rfl) (pe_op op_fdiv (pv 2) pe_int)))) (pss_one (ps_expr (pe_bm PySem.F.plainAttrs_list PySem.F.slot_list_append PySem.F.type_list_append mt_append (pv 5) (pa_cons (pe_op op_mod (pe_callTy call_int1 (by rfl) m_int (by decide +kernel) (pa_cons (pe_op op_fdiv (pe_op op_mod (pe_callTy call_int1 (by rfl) m_int (by decide +kernel) (pa_cons (pe_op op_add (pe_op op_mul (pv 4) pe_int) (pe_op op_mul pe_int (pv 6))) pa_nil)) pe_int) pe_int) pa_nil)) pe_int) pa_nil))))))))
      (pss_one (ps_ret (pv 5)))))))), ?_⟩
    walk_at "go"
    intro p np
    walk_at "go"
    refine for_gen (n := n) (fun i σ H1 => ∃ (r : Int) (z : Int) (ds : List Int) (v : Option V), 0 ≤ r ∧ 0 ≤ z ∧ z < 2147483647 ∧ Dr i ds ∧ H1 = upd H p (.lst (ds.map V.int)) ∧
      σ = [some (.int c), some (.int (n : Int)), some (.int r), some (.bl (decide ((10 : Int) ^ 18 ≤ (if c < 0 then -c else c)))), some (.int z), some (.ref p), v]) ?_ ?_ ?_ ?_ ?_
    · refine ⟨_, _, [], none, ?_, ?_, ?_, ⟨rfl, fun d hd => nomatch hd⟩, rfl, rfl⟩
      · split <;> omega
      · omega
      · omega
    · intro i σ H1 hi _
      show i < (n : Int).toNat
      omega
    · intro σ H1 _
      show (n : Int).toNat ≤ n
      omega
    · rintro i σ H1 x H' hi ⟨r, z, ds, v, hr0, hz0, hz1, hd, rfl, rfl⟩ ⟨rfl, rfl⟩
      have hlen : (ds.map V.int).length < sizeLine := by
        rw [List.length_map, hd.1]
        exact Nat.lt_of_lt_of_le hi (Nat.le_trans hn (by decide))
      have fin : ∀ (r' z' d : Int) (u : Option V), 0 ≤ r' → 0 ≤ z' → z' < 2147483647 → 0 ≤ d → d < 1000000 → ∃ (r : Int) (z : Int) (es : List Int) (v : Option V), 0 ≤ r ∧ 0 ≤ z ∧ z < 2147483647 ∧ Dr (i + 1) es ∧ upd (upd H p (.lst (ds.map V.int))) p (.lst (ds.map V.int ++ [.int d])) = upd H p (.lst (es.map V.int)) ∧
          [some (.int c), some (.int (n : Int)), some (.int r'), some (.bl (decide ((10 : Int) ^ 18 ≤ (if c < 0 then -c else c)))), some (.int z'), some (.ref p), u] = [some (.int c), some (.int (n : Int)), some (.int r), some (.bl (decide ((10 : Int) ^ 18 ≤ (if c < 0 then -c else c)))), some (.int z), some (.ref p), v] := by
        intro r' z' d u a1 a2 a3 a4 a5
        refine ⟨r', z', ds ++ [d], u, a1, a2, a3, ⟨by rw [List.length_append, hd.1]; rfl, fun x hx => ?_⟩, ?_, rfl⟩
        · rcases List.mem_append.mp hx with h | h
          · exact hd.2 x h
          · rw [List.mem_singleton.mp h]
            exact ⟨a4, a5⟩
        · rw [upd_upd, List.map_append]
          rfl
      walk_at "go"
      refine ite2 (fun e => ?_) (fun e => ?_)
      · walk_at "go"
        refine ite2 (fun e2 => ?_) (fun e2 => ?_)
        · walk_at "go"
          refine ⟨.inl ⟨rfl, _, .inl (.inl upd_same)⟩, ?_⟩
          walk_at "go"
          refine ⟨_, _, _, rfl, rfl, upd_same, hlen, ?_⟩
          walk_at "go"
          exact fin _ _ _ _ (by omega) (by omega) (by omega) (by omega) (by omega)
        · walk_at "go"
          refine ⟨.inl ⟨rfl, _, .inl (.inl upd_same)⟩, ?_⟩
          walk_at "go"
          refine ⟨_, _, _, rfl, rfl, upd_same, hlen, ?_⟩
          walk_at "go"
          exact fin _ _ _ _ (by omega) (by omega) (by omega) (by omega) (by omega)
      · walk_at "go"
        refine ⟨.inl ⟨rfl, _, .inl (.inl upd_same)⟩, ?_⟩
        walk_at "go"
        refine ⟨_, _, _, rfl, rfl, upd_same, hlen, ?_⟩
        walk_at "go"
        exact fin _ _ _ _ (by omega) (by omega) (by omega) (by omega) (by omega)
    · rintro σ H1 ⟨r, z, ds, v, hr0, hz0, hz1, hd, rfl, rfl⟩
      walk_at "go"
      exact q p ds np hd
/-! ### _law_take -/
def spTake (K : PySem.W.Frag) : Sp := fun vs H Q _ => ∃ (a p : Addr) (n m : Nat) (ds : List Int), vs = [.ref a, .ref p] ∧ SqL K H a (ds.map V.int) ∧ Dr n ds ∧ H p = some (.lst [.int (m : Int)]) ∧ a ≠ p ∧ ∀ r : Int, 0 ≤ r → r < 1000000 → Q (.int r) (upd H p (.lst [.int ((m + 1 : Nat) : Int)]))
theorem ok_take (F : FnP K "_law_take" s_take f fd) (m_len : mg "len" = none) : FnOk P w K mg base CX0 1 f fd P_take (spTake K) := by
  refine F.ok sc_take (fun vs H Q E h => ?_) (fun cdv A outer s H vs Q E hr h => ?_)
  · obtain ⟨a, p, n, m, ds, rfl, _⟩ := h
    rfl
  · obtain ⟨a, p, n, m, ds, rfl, hS, hd, hp, ne, q⟩ := h
    refine ⟨_, PSs.nox (pss_cons (ps_asg (pe_op op_add (pe_ix ix_list (pv 1) pe_int (fun _ _ => rfl)) pe_int) (pg_sub (pv 1) pe_int set_list))
      (pss_cons (ps_if (pt_cmpR op_gt (pe_ix ix_list (pv 1) pe_int (fun _ _ => rfl)) (pe_callB call_len_seq (by rfl) m_len PySem.boot_len (pa_cons (pv 0) pa_nil)) (nomark _)) (pss_one (ps_ret pe_int)) pss_nil)
      (pss_one (ps_ret (pe_ix ix_list (pv 0) (pe_op op_sub (pe_ix ix_list (pv 1) pe_int (fun _ _ => rfl)) pe_int) (fun _ _ => rfl)))))), ?_⟩
    have sb : SB p H (upd H p (.lst [.int ((m + 1 : Nat) : Int)])) := SB.upd (Z.Same.sb (Same.refl H))
    have hS' := sb.sq ne hS
    walk_at "go"
    refine ⟨p, _, 0, _, rfl, rfl, SqL.of hp, rfl, ?_⟩
    walk_at "go"
    refine ⟨p, _, 0, 0, rfl, rfl, hp, rfl, ?_⟩
    show tSeq _ _ _ _ (upd H p (.lst [.int ((m : Int) + 1)]))
    rw [show ((m : Int) + 1) = ((m + 1 : Nat) : Int) by omega]
    walk_at "go"
    refine ⟨p, _, 0, _, rfl, rfl, SqL.of upd_same, rfl, ?_⟩
    walk_at "go"
    refine ⟨a, _, rfl, .inl hS', ?_⟩
    walk_at "go"
    rw [List.length_map]
    refine ite2 (fun e => ?_) (fun e => ?_)
    · exact q 0 (by omega) (by omega)
    · have hk : m < ds.length := by
        apply Decidable.byContradiction
        intro z
        exact e (decide_eq_true (by omega))
      walk_at "go"
      refine ⟨p, _, 0, _, rfl, rfl, SqL.of upd_same, rfl, ?_⟩
      walk_at "go"
      refine ⟨a, _, _, _, rfl, rfl, hS', at_of (by omega) (show (ds.map V.int)[m]? = some (.int ds[m]) by rw [List.getElem?_map, List.getElem?_eq_getElem hk]; rfl), ?_⟩
      have h1 := hd.2 ds[m] (List.getElem_mem hk)
      exact q _ h1.1 h1.2
end
end Z
set_option Elab.async false
set_option linter.all false
set_option maxRecDepth 100000
set_option maxHeartbeats 4000000
namespace Z
open PySem PySem.Spec PyProof.Rows L2
/-! ### own classes: making, methods, calls of instances, == -/
structure Mak (P : Program) (w : World) (K : PySem.W.Frag) (mg : Str → Option Value) (base : Heap) (k : Nat) (x : Str) (sp : Sp) : Prop where
  ex : ∃ (C f : Addr) (fd : FuncData) (ps : List Str) (si : Sp), Mk K C f ∧ FnOk P w K mg base CX0 k f fd ps si ∧ mg x = some (.ref C) ∧ Binds K fd ps [] ∧
    ∀ vs H Q E, sp vs H Q E → ∀ n dx, H n = none → H dx = none → dx ≠ n → si (.ref n :: vs) (upd (upd H dx (.own n)) n (.ins C dx [])) (fun v H2 => v = .non ∧ Q (.ref n) H2) E
structure Met (P : Program) (w : World) (K : PySem.W.Frag) (mg : Str → Option Value) (base : Heap) (k : Nat) (C : Addr) (m : Str) (sp : Sp) : Prop where
  ex : ∃ (f : Addr) (fd : FuncData) (ps : List Str), Cls K C ∧ Meth K C m f ∧ FnOk P w K mg base CX0 k f fd ps sp ∧ Binds K fd ps []
section
variable {X : Cx} {k j : Nat} {x m : Str} {sp : Sp} {C : Addr} {p pos apos : Pos} {e o : Expr} {es : List Expr} {t : TA} {ta : TE}
theorem pe_mk (c : Mak X.prog X.w X.K X.mg X.base k x sp) (hr : Room j X.A) (hk : k + 1 ≤ j) (hg : Gl X x) (ha : PA X (e :: es) t)
    (hdb : (x == ("__debug__" : Str)) = false := by decide) (he : starEach (e :: es) X.env = (false, eval e X.env) :: starEach es X.env := by rfl) (hpl : (backTo pos (starEach es X.env)).any (·.1) = false := by rfl) : PE X (.Call (.Name x p) (e :: es) [] pos) (tCall sp [] E0 t) := by
  obtain ⟨C, f, fd, ps, si, M, F, hm, b, imp⟩ := c.ex
  constructor
  intro pins s σ H Q I h
  refine wpAny_Call_Name_kw (ld_glob I hg hm ?_ hdb)
  refine PySem.W.callWith_K (h₀ := X.base) I.ok.mod.kin M.kp (thn (ha.run pos pins s σ H _ I h) fun us s1 ⟨vs, H1, I1, r, q⟩ => ⟨I1.kIn, ?_⟩) he hpl
  have q2 : sp vs H1 Q E0 := by
    have z : sp (vs ++ []) H1 Q E0 := q
    rw [List.append_nil] at z
    exact z
  refine run_make (dvs := []) M F (hr.mono hk) b .nil pass0 I1 r (fun n dx n1 n2 n3 => ?_)
  rw [List.append_nil]
  exact imp _ _ _ _ q2 n dx n1 n2 n3
theorem pe_me {pl : Sem Bool} (c : Met X.prog X.w X.K X.mg X.base k C m sp) (he : PE X o ta) (hr : Room j X.A) (hk : k ≤ j) (ha : PA X (e :: es) t)
    (hst : starEach (e :: es) X.env = (false, eval e X.env) :: starEach es X.env := by rfl) (hpl : (backTo pos (starEach es X.env)).any (·.1) = false := by rfl)
    (ht : eval (.Call (.Attribute o m apos) (e :: es) [] pos) X.env = (do
      let ov ← eval o X.env
      standAt apos.atName
      let (f, first) ← holding [ov] (getMethod ov m pl)
      callWith pos f first (backTo pos (starEach (e :: es) X.env)) (backToKw pos (keywordEach [] X.env))) := by rfl) : PE X (.Call (.Attribute o m apos) (e :: es) [] pos) (tMeth C m sp [] E0 ta t) := by
  obtain ⟨f, fd, ps, cl, me, F, b⟩ := c.ex
  exact pe_meth he cl me F (hr.mono hk) b .nil pass0 ha hst hpl ht
theorem pe_me0 {pl : Sem Bool} (c : Met X.prog X.w X.K X.mg X.base k C m sp) (he : PE X o ta) (hr : Room j X.A) (hk : k ≤ j)
    (ht : eval (.Call (.Attribute o m apos) [] [] pos) X.env = (do
      let ov ← eval o X.env
      standAt apos.atName
      let (f, first) ← holding [ov] (getMethod ov m pl)
      callWith pos f first (backTo pos (starEach [] X.env)) (backToKw pos (keywordEach [] X.env))) := by rfl) : PE X (.Call (.Attribute o m apos) [] [] pos) (tMeth C m sp [] E0 ta tNil) := by
  obtain ⟨f, fd, ps, cl, me, F, b⟩ := c.ex
  exact pe_meth0 he cl me F (hr.mono hk) b .nil pass0 ht
end
/-! ### f(e, ..), f an instance of C -/
structure Cob (P : Program) (w : World) (K : PySem.W.Frag) (mg : Str → Option Value) (base : Heap) (k : Nat) (C : Addr) (sp : Sp) : Prop where
  ex : ∃ g : Addr, StX.CallO K C g ∧ FnR P w K mg base CX0 k g sp
def tCo (C : Addr) (sp : Sp) (tf : TE) (t : TA) : TE := fun σ H Q => tf σ H fun y H1 => ∃ a, y = V.ref a ∧ t σ H1 fun vs H2 => (∃ dx fs, H2 a = some (.ins C dx fs)) ∧ sp (V.ref a :: vs) H2 Q E0
section
variable {X : Cx} {k j : Nat} {sp : Sp} {C : Addr} {pos : Pos} {e fe : Expr} {es : List Expr} {t : TA} {tf : TE}
theorem pe_co (c : Cob X.prog X.w X.K X.mg X.base k C sp) (hf : PE X fe tf) (hr : Room j X.A) (hk : k ≤ j) (ha : PA X (e :: es) t)
    (ht : eval (.Call fe (e :: es) [] pos) X.env = (do callWith pos (← eval fe X.env) [] (backTo pos (starEach (e :: es) X.env)) (backToKw pos (keywordEach [] X.env))) := by rfl)
    (he : starEach (e :: es) X.env = (false, eval e X.env) :: starEach es X.env := by rfl) (hpl : (backTo pos (starEach es X.env)).any (·.1) = false := by rfl) : PE X (.Call fe (e :: es) [] pos) (tCo C sp tf t) := by
  obtain ⟨g, co, F⟩ := c.ex
  constructor
  intro pins s σ H Q I h
  refine Call_ (thn (hf.run pins s σ H _ I h) fun u s1 ⟨y, H1, I1, ry, a, ey, q⟩ => ?_) ht
  subst ey
  obtain rfl : u = Value.ref a := ry
  refine StX.callO_with (thn (ha.run pos pins s1 σ H1 _ I1 q) fun us s2 ⟨vs, H2, I2, r, hi, q2⟩ => ?_) he hpl
  have hi2 : StX.InsC X H2 a C := .inr hi
  obtain ⟨ox, od, J, hd⟩ := StX.insC_at I2 hi2
  exact ⟨⟨C, ox, od, J, hd⟩, StX.run_callO co F (hr.mono hk) pass0 I2 hi2 r q2⟩
end
/-! ### a == b by the class's own __eq__ -/
structure Eqo (P : Program) (w : World) (K : PySem.W.Frag) (mg : Str → Option Value) (base : Heap) (k : Nat) (C : Addr) (sp : Sp) : Prop where
  ex : ∃ (f : Addr) (fd : FuncData) (ps : List Str), FnOk P w K mg base CX0 k f fd ps sp ∧ PySem.W.findIn K (.ref C) "__eq__" = some (some (.ref f)) ∧ PySem.W.isFn K (.ref f) = true ∧ Binds K fd ps []
def rOwn (C : Addr) (sp : Sp) : R2 := fun x y H Q => ∃ a b dx dy fs gs, x = .ref a ∧ y = .ref b ∧ H a = some (.ins C dx fs) ∧ H b = some (.ins C dy gs) ∧ sp [.ref a, .ref b] H (fun v H' => ∃ r, v = .bl r ∧ Q v H') E0
theorem op_own {X : Cx} {k j : Nat} {C : Addr} {sp : Sp} (c : Eqo X.prog X.w X.K X.mg X.base k C sp) (hr : Room j X.A) (hk : k ≤ j) : OpR X (compareOp .Eq) (rOwn C sp) := by
  intro pins s σ H x y v u Q I rx ry hq
  obtain ⟨f, fd, ps, F, hs, hf, hb⟩ := c.ex
  obtain ⟨a, b, dx, dy, fs, gs, rfl, rfl, ha, hb', q⟩ := hq
  cases rx
  cases ry
  obtain ⟨mA, J, _⟩ := ins_get I.hok ha
  obtain ⟨mB, J', _⟩ := ins_get I.hok hb'
  obtain ⟨od, J, _⟩ := J.look
  obtain ⟨od', J', _⟩ := J'.look
  obtain ⟨m, hF⟩ := I.fr
  show wpAny (model X.prog X.w) X.A (richCompare .Eq (Value.ref a) (Value.ref b)) (EP X pins σ Q) X.xe s
  refine PySem.W.cmp_K (op := .Eq) (tb := .ref C) (hr.mono hk).units0 hF I.ok.mod.kin J J'.type (by simp [PySem.W.notFirst]) hs hf ?_
  have r2 : Vals [V.ref a, V.ref b] [Value.ref a, Value.ref b] := .cons rfl (.cons rfl .nil)
  refine thn (run_fn (dvs := []) F (hr.mono hk) hb .nil pass0 I r2 q) fun r s' z => ?_
  obtain ⟨v, H', I', rv, b', rfl, q'⟩ := z
  cases rv
  exact ⟨.bl b', H', I', rfl, q'⟩
end Z
set_option linter.all false
set_option maxRecDepth 100000
set_option maxHeartbeats 4000000
namespace Z
open PySem PySem.Spec PyProof.Rows L2
/-! ### dicts whose keys are tuples of ints, texts, None, bools and such tuples; the values are ints -/
mutual
inductive NkV (H : Hp) : NestedKey → V → Prop
  | none : NkV H .none .non
  | bl (b : Bool) : NkV H (.num (if b = true then 1 else 0)) (.bl b)
  | int (i : Int) : NkV H (.num i) (.int i)
  | str (x : Str) : NkV H (.text x) (.str x)
  | tup {a : Addr} {ks : List NestedKey} {vs : List V} : H a = some (.tup vs) → NkA H ks vs → NkV H (.tup ks) (.ref a)
inductive NkA (H : Hp) : List NestedKey → List V → Prop
  | nil : NkA H [] []
  | cons {k : NestedKey} {v : V} {ks : List NestedKey} {vs : List V} : NkV H k v → NkA H ks vs → NkA H (k :: ks) (v :: vs)
end
mutual
theorem NkV.mono {H H' : Hp} (s : Same H H') : ∀ {k : NestedKey} {v : V}, NkV H k v → NkV H' k v
  | _, _, .none => .none
  | _, _, .bl b => .bl b
  | _, _, .int i => .int i
  | _, _, .str x => .str x
  | _, _, .tup e t => .tup (s _ _ e) (NkA.mono s t)
theorem NkA.mono {H H' : Hp} (s : Same H H') : ∀ {ks : List NestedKey} {vs : List V}, NkA H ks vs → NkA H' ks vs
  | _, _, .nil => .nil
  | _, _, .cons x t => .cons (NkV.mono s x) (NkA.mono s t)
end
mutual
theorem NkV.keepT {H H' : Hp} (s : ∀ c vs, H c = some (.tup vs) → H' c = some (.tup vs)) : ∀ {k : NestedKey} {v : V}, NkV H k v → NkV H' k v
  | _, _, .none => .none
  | _, _, .bl b => .bl b
  | _, _, .int i => .int i
  | _, _, .str x => .str x
  | _, _, .tup e t => .tup (s _ _ e) (NkA.keepT s t)
theorem NkA.keepT {H H' : Hp} (s : ∀ c vs, H c = some (.tup vs) → H' c = some (.tup vs)) : ∀ {ks : List NestedKey} {vs : List V}, NkA H ks vs → NkA H' ks vs
  | _, _, .nil => .nil
  | _, _, .cons x t => .cons (NkV.keepT s x) (NkA.keepT s t)
end
mutual
theorem NkV.is {P : Program} {w : World} {H : Hp} {h : Heap} (ok : HOk P w H h) : ∀ {k : NestedKey} {y : V} {u : Value}, NkV H k y → RelV y u → NestedIs h k u
  | _, _, u, .none, r => by
    cases (show u = Value.none from r)
    exact .none
  | _, _, u, .bl b, r => by
    cases (show u = Value.bool b from r)
    exact .bool rfl
  | _, _, u, .int i, r => by
    obtain ⟨t, rfl⟩ := (show ∃ t, u = Value.int i t from r)
    exact .int i t
  | _, _, u, .str x, r => by
    obtain ⟨t, rfl⟩ := (show ∃ t, u = Value.str x t from r)
    exact .text x t
  | _, _, u, @NkV.tup _ a ks vs e t, r => by
    cases (show u = Value.ref a from r)
    obtain ⟨_, its, rv, o, h1, h2, n, h3⟩ := (show ObjOk P w H h a (.tup vs) from ok a _ e)
    exact .tup h1 h2 h3 (by simpa using NkA.is ok t rv)
theorem NkA.is {P : Program} {w : World} {H : Hp} {h : Heap} (ok : HOk P w H h) : ∀ {ks : List NestedKey} {vs : List V} {us : List Value}, NkA H ks vs → Vals vs us → NestedAll h ks us
  | _, _, _, .nil, .nil => .nil
  | _, _, _, .cons x t, .cons r rs => .cons (NkV.is ok x r) (NkA.is ok t rs)
end
/-- the dict's own object -/
def DNo (P : Program) (w : World) (a : Addr) (kvs : List (NestedKey × Addr × Int)) : HO := .ext fun h => kvs.length ≤ sizeLine ∧ (a == sysModules) = false ∧ ∃ xs : List (NestedKey × Addr × Value),
  Paired (fun (p : NestedKey × Addr × Int) (q : NestedKey × Addr × Value) => p.1 = q.1 ∧ p.2.1 = q.2.1 ∧ ∃ t, q.2.2 = .int p.2.2 t) kvs xs ∧
  ∃ o es ep, h.get? a = some o ∧ o.ExactDict ∧ o.data = .dict es ep ∧ es.toList = xs.map (entryOfKey (nestedKind P w)) ∧ (xs.map (·.1)).Nodup
/-- a dict, its keys there -/
structure DN (P : Program) (w : World) (H : Hp) (a : Addr) (kvs : List (NestedKey × Addr × Int)) : Prop where
  at_ : H a = some (DNo P w a kvs)
  ks : ∀ x ∈ kvs, NkV H x.1 (.ref x.2.1) ∧ x.1.depth ≤ 8
theorem DN.mono {P : Program} {w : World} {H H' : Hp} {a : Addr} {kvs : List (NestedKey × Addr × Int)} (s : Same H H') (d : DN P w H a kvs) : DN P w H' a kvs := ⟨s _ _ d.at_, fun x m => ⟨(d.ks x m).1.mono s, (d.ks x m).2⟩⟩
abbrev Prn (p : NestedKey × Addr × Int) (q : NestedKey × Addr × Value) : Prop := p.1 = q.1 ∧ p.2.1 = q.2.1 ∧ ∃ t, q.2.2 = .int p.2.2 t
theorem dn_of {P : Program} {w : World} {H : Hp} {h : Heap} {a : Addr} {kvs : List (NestedKey × Addr × Int)} (ok : HOk P w H h) (d : DN P w H a kvs) : kvs.length ≤ sizeLine ∧ (a == sysModules) = false ∧ ∃ xs, Paired Prn kvs xs ∧ h.DictOfH (nestedKind P w) a xs := by
  obtain ⟨⟨z, y, xs, r, o, es, ep, h1, h2, h3, h4, h5⟩, _⟩ := (show ObjOk P w H h a (DNo P w a kvs) from ok a _ d.at_)
  refine ⟨z, y, xs, r, o, es, ep, h1, h2, h3, h4, ?_, h5⟩
  have all : ∀ {l : List (NestedKey × Addr × Int)} {m : List (NestedKey × Addr × Value)}, Paired Prn l m → (∀ x ∈ l, NkV H x.1 (.ref x.2.1) ∧ x.1.depth ≤ 8) → ∀ x ∈ m, (nestedKind P w).is h x.1 x.2.1 := by
    intro l m q
    induction q with
    | nil => intro _ x hx; exact nomatch hx
    | @cons p q ps qs hq t ih =>
      intro hk x hx
      rcases List.mem_cons.mp hx with e | hx
      · subst e
        obtain ⟨k1, k2⟩ := hk p List.mem_cons_self
        rw [← hq.1, ← hq.2.1]
        exact ⟨k1.is ok rfl, k2⟩
      · exact ih (fun y m => hk y (List.mem_cons_of_mem _ m)) x hx
  exact all r d.ks
theorem dno_ok {P : Program} {w : World} {H : Hp} {h : Heap} {a : Addr} {kvs : List (NestedKey × Addr × Int)} {xs : List (NestedKey × Addr × Value)} (z : kvs.length ≤ sizeLine) (y : (a == sysModules) = false) (r : Paired Prn kvs xs) (dd : h.DictOfH (nestedKind P w) a xs) : ObjOk P w H h a (DNo P w a kvs) := by
  obtain ⟨o, es, ep, h1, h2, h3, h4, _, h5⟩ := dd
  exact ⟨⟨z, y, xs, r, o, es, ep, h1, h2, h3, h4, h5⟩, ⟨o, h1⟩, fun g1 g2 ⟨z, y, xs, r, o, es, ep, h1, h2⟩ k => ⟨z, y, xs, r, o, es, ep, k o h1, h2⟩⟩
def atN (kvs : List (NestedKey × Addr × Int)) (k : NestedKey) : Option Int := (kvs.find? fun x => decide (x.1 = k)).map (·.2.2)
theorem atN_rel {k : NestedKey} : ∀ {kvs : List (NestedKey × Addr × Int)} {xs : List (NestedKey × Addr × Value)}, Paired Prn kvs xs → (atN kvs k = none → atKey xs k = none) ∧ ∀ i, atN kvs k = some i → ∃ p t, atKey xs k = some p ∧ p.2 = Value.int i t := by
  intro kvs xs q
  induction q with
  | nil => exact ⟨fun _ => rfl, fun i h => by cases h⟩
  | @cons p q ps qs hq t ih =>
    obtain ⟨e1, e2, tk, e3⟩ := hq
    by_cases c : p.1 = k
    · refine ⟨fun h => ?_, fun i h => ?_⟩
      · unfold atN at h
        rw [List.find?_cons, decide_eq_true c] at h
        cases h
      · unfold atN at h
        rw [List.find?_cons, decide_eq_true c] at h
        refine ⟨q.2, tk, ?_, ?_⟩
        · unfold atKey
          rw [List.find?_cons, decide_eq_true (e1 ▸ c)]
          rfl
        · rw [e3]
          injection h with h
          rw [show p.2.2 = i from h]
    · have c2 : ¬ q.1 = k := fun z => c (e1.trans z)
      have h1 : atN (p :: ps) k = atN ps k := by
        unfold atN
        rw [List.find?_cons, decide_eq_false c]
      have h2 : atKey (q :: qs) k = atKey qs k := by
        unfold atKey
        rw [List.find?_cons, decide_eq_false c2]
      rw [h1, h2]
      exact ih
theorem paired_snoc {α β : Type} {F : α → β → Prop} {x : α} {y : β} : ∀ {l : List α} {m : List β}, Paired F l m → F x y → Paired F (l ++ [x]) (m ++ [y])
  | _, _, .nil, h => .cons h .nil
  | _, _, .cons r t, h => .cons r (paired_snoc t h)
section
variable {X : Cx} {pins : List (Addr × Obj)} {σ : L2.St} {H : Hp} {s : Shared} {a : Addr} {u r : Value} {A : Around} {E : Value → Shared → Prop}
theorem isDN_at {kvs : List (NestedKey × Addr × Int)} (I : Inv X pins σ H s) (d : DN X.prog X.w H a kvs) :
    s.TypeIs (.ref a) "dict" ∧ (∀ b, Value.ref a = .ref b → ∃ ob, s.heap.get? b = some ob ∧ ob.dict = none) ∧ (a == sysModules) = false := by
  obtain ⟨_, hd, xs, _, dd⟩ := dn_of I.hok d
  refine ⟨dd.typeIs, fun b q => ?_, hd⟩
  cases q
  obtain ⟨ob, _, _, h1, h2, _⟩ := dd
  exact ⟨ob, h1, h2.2.1⟩
theorem dn_setd {kvs : List (NestedKey × Addr × Int)} {k : NestedKey} {b : Addr} {i : Int} {Q : Value → Shared → Prop} (hu : A.units + 9 < cLine) (I : Inv X pins σ H s) (d : DN X.prog X.w H a kvs) (hk : NkV H k (.ref b)) (hd8 : k.depth ≤ 8) (rd : RelV (.int i) r) (hl : kvs.length < sizeLine)
    (h1 : ∀ v, atN kvs k = some v → ∀ (w' : Value) (s' : Shared), Inv X pins σ H s' → RelV (.int v) w' → Q w' s') (h2 : atN kvs k = none → ∀ (w' : Value) (s' : Shared), Inv X pins σ (upd H a (DNo X.prog X.w a (kvs ++ [(k, b, i)]))) s' → RelV (.int i) w' → Q w' s') :
    wpAny (model X.prog X.w) A (call (.builtin "dict.setdefault") [.ref a, .ref b, r]) Q E s := by
  obtain ⟨z, hd, xs, rel, dd⟩ := dn_of I.hok d
  have hz : xs.length ≤ sizeLine := by rw [← Paired.length rel]; exact z
  obtain ⟨q1, q2⟩ := atN_rel (k := k) rel
  refine call_setdefault_heap (hsz := hz) (show (nestedKind X.prog X.w).room A.in1 from ?_) ⟨hk.is I.hok rfl, hd8⟩ hd dd (fun p hp => ?_) fun hn h' dd' hs => ?_
  · show A.in1.units + 8 < cLine
    rw [Around.in1_units]
    omega
  · cases e : atN kvs k with
    | none => rw [q1 e] at hp; cases hp
    | some v =>
      obtain ⟨p2, t, e1, e2⟩ := q2 v e
      rw [e1] at hp
      cases hp
      rw [e2]
      exact h1 v e _ _ (I.tok _) ⟨t, rfl⟩
  · cases e : atN kvs k with
    | some v =>
      obtain ⟨p2, t, e1, e2⟩ := q2 v e
      rw [e1] at hn
      cases hn
    | none =>
      rw [storedH_new hn] at dd'
      have he : ∃ q, h'.get? a = some q := let ⟨q, _, _, hq, _⟩ := dd'; ⟨q, hq⟩
      obtain ⟨t, rfl⟩ := (show ∃ t, r = Value.int i t from rd)
      exact h2 e _ _ (d_write (t' := _) I (by rw [d.at_]; exact True.intro) hs he (dno_ok (by rw [List.length_append]; exact hl) hd (paired_snoc rel ⟨rfl, rfl, t, rfl⟩) dd')) ⟨t, rfl⟩
theorem dno_new {P : Program} {w : World} {H : Hp} (h : Heap) (hb : sysModules < h.objs.size) : ObjOk P w H (h.push { cls := .type "dict", data := .dict #[] }) h.objs.size (DNo P w h.objs.size []) :=
  dno_ok (xs := []) (Nat.zero_le _) (beq_eq_false_iff_ne.mpr (Ne.symm (Nat.ne_of_lt hb))) .nil (Heap.DictOfH.new h)
end
/-- {}, to be such a dict -/
def tDNewN (P : Program) (w : World) : TE := fun _ H Q => ∀ p, H p = none → Q (.ref p) (upd H p (DNo P w p []))
theorem pe_dnewN {X : Cx} {P : Program} {w : World} {pos : Pos} (hP : X.prog = P) (hw : X.w = w) : PE X (.Dict [] [] pos) (tDNewN P w) := by
  subst hP hw
  exact ⟨fun pins s σ H Q I h => wpAny_Dict_empty ⟨.ref s.heap.objs.size, _, I.laid (a := s.heap.objs.size) (o := DNo X.prog X.w s.heap.objs.size []) (t' := s.toks) (fun _ _ q => Heap.get?_push_of_some _ q) (Nat.le_refl _) (dno_new s.heap I.big), rfl, h _ (I.hok.fresh (Nat.le_refl _))⟩⟩
theorem dn_new {P : Program} {w : World} {H : Hp} {p : Addr} : DN P w (upd H p (DNo P w p [])) p [] := ⟨upd_same, fun x m => absurd m (by simp)⟩
/-- len(d) -/
def rLenN (P : Program) (w : World) : List V → Hp → VK → Prop := fun xs H Q => ∃ (p : Addr) (kvs : List (NestedKey × Addr × Int)), xs = [.ref p] ∧ DN P w H p kvs ∧ Q (.int ((kvs.length : Nat) : Int)) H
theorem call_lenN {X : Cx} {P : Program} {w : World} (hP : X.prog = P) (hw : X.w = w) : CallR X (.builtin "len") (rLenN P w) := by
  subst hP hw
  intro pins s σ H xs us Q I r h
  obtain ⟨p, kvs, rfl, hp, q⟩ := h
  obtain ⟨u, rfl, rx⟩ := vals1 r
  obtain rfl : u = .ref p := rx
  obtain ⟨z, hd, ys, rel, dd⟩ := dn_of I.hok hp
  have hl : kvs.length = ys.length := Paired.length rel
  refine call_len_dictH hd dd (by rw [← hl]; rw [sizeLine_eq] at z; omega) ?_
  rw [← hl]
  exact ⟨.int ((kvs.length : Nat) : Int), H, I.tok _, ⟨_, rfl⟩, q⟩
/-- d.setdefault(y, z) -/
def tDSetdN (P : Program) (w : World) (td ty tx : TE) : TE := fun σ H Q => td σ H fun x H1 => ∃ a, x = .ref a ∧ (∃ kvs, DN P w H1 a kvs) ∧ ty σ H1 fun y H2 => tx σ H2 fun z H3 => ∃ (kvs : List (NestedKey × Addr × Int)) (k : NestedKey) (b : Addr) (i : Int), DN P w H3 a kvs ∧ y = .ref b ∧ z = .int i ∧ NkV H3 k (.ref b) ∧ k.depth ≤ 8 ∧ kvs.length < sizeLine ∧
  (∀ v, atN kvs k = some v → Q (.int v) H3) ∧ (atN kvs k = none → Q (.int i) (upd H3 a (DNo P w a (kvs ++ [(k, b, i)]))))
theorem pe_dsetdN {X : Cx} {P : Program} {w : World} {o e f : Expr} {td ty tx : TE} {apos cpos : Pos} (hu : X.A.units + 9 < cLine) (hP : X.prog = P) (hw : X.w = w) (ho : PE X o td) (he : PE X e ty) (hf : PE X f tx) (m : M2 X o "setdefault" apos e f cpos) : PE X (.Call (.Attribute o "setdefault" apos) [e, f] [] cpos) (tDSetdN P w td ty tx) := by
  subst hP hw
  refine ⟨fun pins s σ H Q I h => ?_⟩
  refine wpAny_Call_method m.base m.few m.line PySem.F.plainAttrs_dict PySem.F.slot_dict_setdefault PySem.F.type_dict_setdefault (thn (ho.run pins s σ H _ I h) fun u s1 ⟨x, H1, I1, rx, a, ex, ⟨kvs0, d⟩, q1⟩ => ?_)
  subst ex
  obtain rfl : u = Value.ref a := rx
  obtain ⟨t1, t2, _⟩ := isDN_at I1 d
  refine ⟨t1, t2, ?_⟩
  rw [m.trees]
  refine Calls.callWith_builtin rfl (Calls.evalArgs_plain (Calls.spliced_cons (thn (he.run pins s1 σ H1 _ I1 q1) fun iv s2 ⟨y, H2, I2, ry, q2⟩ =>
    Calls.spliced_cons (thn (hf.run pins s2 σ H2 _ I2 q2) fun fv s3 ⟨z, H3, I3, rz, kvs, k, b, i, ea, ey, ez, hk, h8, hl, q3, q4⟩ => Calls.spliced_nil ?_))))
  subst ey ez
  obtain rfl : iv = Value.ref b := ry
  exact dn_setd hu I3 ea hk h8 rz hl (fun v hv w' s4 I4 rw' => ⟨.int v, _, I4, rw', q3 v hv⟩) fun hn w' s4 I4 rw' => ⟨.int i, _, I4, rw', q4 hn⟩
theorem DN.put {P : Program} {w : World} {H : Hp} {a b : Addr} {kvs : List (NestedKey × Addr × Int)} {k : NestedKey} {i : Int} (d : DN P w H a kvs) (hk : NkV H k (.ref b)) (h8 : k.depth ≤ 8) : DN P w (upd H a (DNo P w a (kvs ++ [(k, b, i)]))) a (kvs ++ [(k, b, i)]) := by
  have key : ∀ {u : NestedKey} {v : V}, NkV H u v → NkV (upd H a (DNo P w a (kvs ++ [(k, b, i)]))) u v := by
    have ht : ∀ c vs, H c = some (.tup vs) → (upd H a (DNo P w a (kvs ++ [(k, b, i)]))) c = some (.tup vs) := fun c vs h => by
      rw [upd_ne (fun q => by rw [q, d.at_] at h; cases h)]
      exact h
    intro u v h
    exact NkV.keepT ht h
  refine ⟨upd_same, fun x m => ?_⟩
  rcases List.mem_append.mp m with m | m
  · exact ⟨key (d.ks x m).1, (d.ks x m).2⟩
  · rw [List.mem_singleton.mp m]
    exact ⟨key hk, h8⟩
end Z
set_option Elab.async false
set_option linter.all false
set_option maxRecDepth 100000
set_option maxHeartbeats 4000000
namespace Z
open PySem PySem.Spec PyProof.Rows L2 NdefX
/-! ### an own exception whose __init__ begins with super().__init__(..) -/
/-- what the written part says of it: the function f of the class C (cell cc, code c) -/
structure SupK (P : Program) (K : PySem.W.Frag) (C f c cc : Addr) (fd : FuncData) : Prop where
  lk : ∃ oc od osl, K.lookup f = some ⟨oc, od, .func fd, osl⟩
  code : ∃ (ccl : Value) (cdd : Option Addr) (vs : Array Value) (ccs : Array (Option Value)) (file : Str) (tf : Tok), K.lookup c = some ⟨ccl, cdd, .fields vs, ccs⟩ ∧ vs[2]? = some (.str file tf) ∧ ((P.main.file : Str) == file) = true
  cell : ∃ cl cld csl, K.lookup cc = some ⟨cl, cld, .cell (some (.ref C)), csl⟩
  top : (P.main.scope.names.lookup ("super" : Str)).isSome = false
  mro : PySem.W.mroIn K C (.ref C) = some true
  opq : PySem.W.nsIn K cStatics "thirdparty.any" = some none
  ini : PySem.W.ks_superIn K C C "__init__" = some (some (.builtin "ValueError.__init__"))
  sub : PySem.W.subIn K (.ref C) (.type "ValueError") = some true
  exi : PySem.W.excInitIn K C He.veBase "ValueError.__new__" = true
  oex : OexC K C
section
variable {CX : CXT} {P : Program} {w : World} {K : PySem.W.Frag} {mg : Str → Option Value} {base : Heap} {N ps : List Str} {F : NF} {f C a cc : Addr} {A : Around} {outer : List Env} {s0 s : Shared} {H0 H : Hp} {E : XK} {σ : L2.St}
/-- the bound __init__ called -/
theorem call_mw {X : Cx} {pins : List (Addr × Obj)} {u : Addr} {us : List Value} {Q : Value → Shared → Prop} {E : Value → Shared → Prop} {A : Around} (S : SupK X.prog X.K C f c cc fd) (I : Inv X ((u, PySem.W.kxs_mw "ValueError.__init__" a) :: pins) σ H s) (e : H a = some (exo a C none)) (hz : us.length ≤ sizeLine)
    (h : ∀ s', Inv X ((u, PySem.W.kxs_mw "ValueError.__init__" a) :: pins) σ H s' → Q .none s') : wpAny (model X.prog X.w) A (call (.ref u) us) Q E s := by
  have FB := F.excBase_ValueError
  obtain ⟨nm, N', qn, bs, bm, hdct, sn, sub, ab, col, dd, k0, k1, k2, k3, k5, hC, hT⟩ := PySem.W.excInit_of I.kIn S.exi
  have hu := (I.pin (u, PySem.W.kxs_mw "ValueError.__init__" a) (List.mem_append_right _ (List.mem_cons_self ..))).1
  obtain ⟨t1, he⟩ := exo_at I.hok e
  obtain ⟨hh, g, d, tk, os⟩ := s
  refine wpAny_call (codeAny_of_tree ?_)
  show wpAny _ A.in1 (callAny (.ref u) ⟨us, []⟩) _ _ _
  simp only [callAny]
  refine wpAny_bind (wpAny_load hu ?_)
  simp only [PySem.W.kxs_mw, show (Value.type "method-wrapper" == Value.type "method" || Value.type "method-wrapper" == Value.type "builtin_function_or_method" || Value.type "method-wrapper" == Value.type "method-wrapper") = true by decide, if_true]
  refine PySem.W.KFB.if_so (by decide) ?_
  refine wpAny_bind (PySem.W.check_bound_init FB.toExcCallFacts hC he rfl ?_)
  refine wpAny_bind (wpAny_pure (wpAny_pure ?_))
  refine ⟨plainId_quiet FB.init.plain _, codeAny_builtin FB.initEntry ?_⟩
  refine PySem.W.exc_init_tree (cls := .ref C) (t0 := t1) (dv := none) (c2 := .none) (c3 := .none) (b4 := .bool false) he hz fun h' k hx _ => ?_
  have J := I.write (t' := tk) (x := a) (e := a) (o := exo a C none) (by rw [e]; exact True.intro) (.inl rfl) k ⟨_, hx⟩ (exo_ok hx)
  have eu : upd H a (exo a C none) = H := by
    funext b
    by_cases hb : b = a
    · rw [hb, upd_same, e]
    · rw [upd_ne hb]
  rw [eu] at J
  exact h _ J
/-- super().__init__(e, ..), the first statement -/
theorem super_first {pl : Sem Bool} {fd : FuncData} {ar : Arg} {t : TA} {e : Expr} {es : List Expr} {p0 p1 p2 pos pos2 : Pos} {Qn : Hp → Prop} (S : SupK P K C f F.c cc fd) (hcl : F.cl = [(("__class__" : Str), cc)]) (hp : (fd.params.posonlyargs ++ fd.params.args).head? = some ar)
    (hks : F.scope.names.lookup ("super" : Str) = some .globalImplicit) (hkc : F.scope.names.lookup ("__class__" : Str) = some .free) (hka : F.scope.names.lookup ar.arg = some .local) (hk : F.scope.kind = .function) (m_super : mg "super" = none)
    (hN : N[0]? = some ar.arg) (ha : PA (ncx CX P w K mg base N F f A outer s0 H0 E) (e :: es) t) (I : Inv (ncx CX P w K mg base N F f A outer s0 H0 E) [] σ H s) (hs : σ[0]? = some (some (.ref a))) (hx : H a = some (exo a C none))
    (ht : t σ H fun vs H1 => vs.length ≤ 1000 ∧ H1 a = some (exo a C none) ∧ Qn H1)
    (hint : interactive (ncx CX P w K mg base N F f A outer s0 H0 E).env = false := by rfl) (hsw : swapsWith (.Call (.Attribute (.Call (.Name "super" p0) [] [] p1) "__init__" p2) (e :: es) [] pos) none pos2.line (ncx CX P w K mg base N F f A outer s0 H0 E).env = pure false := by rfl)
    (hev : eval (.Call (.Attribute (.Call (.Name "super" p0) [] [] p1) "__init__" p2) (e :: es) [] pos) (ncx CX P w K mg base N F f A outer s0 H0 E).env = (do
      let ov ← attributeBase (.Call (.Name "super" p0) [] [] p1) "__init__" (ncx CX P w K mg base N F f A outer s0 H0 E).env (eval (.Call (.Name "super" p0) [] [] p1) (ncx CX P w K mg base N F f A outer s0 H0 E).env)
      standAt p2.atName
      let (g, first) ← holding [ov] (getMethod ov "__init__" pl)
      callWith pos g first (backTo pos (starEach (e :: es) (ncx CX P w K mg base N F f A outer s0 H0 E).env)) []) := by rfl)
    (he : starEach (e :: es) (ncx CX P w K mg base N F f A outer s0 H0 E).env = (false, eval e (ncx CX P w K mg base N F f A outer s0 H0 E).env) :: starEach es (ncx CX P w K mg base N F f A outer s0 H0 E).env := by rfl) (hpl : (backTo pos (starEach es (ncx CX P w K mg base N F f A outer s0 H0 E).env)).any (·.1) = false := by rfl) :
    _root_.PySem.wpAt (model P w) (ncx CX P w K mg base N F f A outer s0 H0 E).A (.func F.body (ncx CX P w K mg base N F f A outer s0 H0 E).env) (exec (.Expr (.Call (.Attribute (.Call (.Name "super" p0) [] [] p1) "__init__" p2) (e :: es) [] pos) pos2) (ncx CX P w K mg base N F f A outer s0 H0 E).env)
      (fun fl s' => fl = .next ∧ ∃ H1, Inv (ncx CX P w K mg base N F f A outer s0 H0 E) [] σ H1 s' ∧ H1 a = some (exo a C none) ∧ Qn H1) (ncx CX P w K mg base N F f A outer s0 H0 E).xe s := by
  obtain ⟨oc, od, osl, lkf⟩ := S.lk
  obtain ⟨ccl, cdd, vs, ccs, file, tf, lkc, hvs, hfile⟩ := S.code
  obtain ⟨cl, cld, csl, lkcc⟩ := S.cell
  have KX : K.In s.heap := I.kIn
  obtain ⟨m, hn, hl⟩ := I.loc
  obtain ⟨u, ru, lu⟩ := hl 0 ar.arg (.ref a) hN hs (.inl hka)
  obtain rfl : u = .ref a := ru
  have hma : m ar.arg = some (.ref a) := by
    rcases lu with ⟨_, z⟩ | ⟨z, _⟩
    · exact z
    · rcases z with z | z
      · rw [show (ncx CX P w K mg base N F f A outer s0 H0 E).env.kindOf ar.arg = some .local from hka] at z; cases z
      · rw [show (ncx CX P w K mg base N F f A outer s0 H0 E).env.kindOf ar.arg = some .local from hka] at z; cases z
  obtain ⟨nm, q, NN, bs, bm, sn, sub, ab, col, dd, k0, k1, k2, k3, k5, hC, hbm⟩ := S.oex.cls
  obtain ⟨t1, hox⟩ := exo_at I.hok hx
  refine ks_wpAt_Expr_any (ks_wpAt_MethodCall ?_ hev) hint hsw
  refine ks_wpAt_super_base (env := (ncx CX P w K mg base N F f A outer s0 H0 E).env) (cc := F.c) hks hkc (by decide) rfl (KX _ _ lkf) rfl hp rfl (KX _ _ lkc) rfl hvs hfile S.top ?_
  obtain ⟨mb, h1, h2⟩ := I.mod.blt
  refine PySem.W.ks_loadName_global hk hks (Calls.loadGlobal_builtin (by rw [I.ok.glob]; exact I.mod.glob.keeps I.bk) m_super (by rw [I.ok.blt]; exact h1.keeps I.bk) ((h2 "super" (by decide)).trans (by decide +kernel)) ⟨rfl, ?_⟩)
  refine wpAny_loadName_free hk hkc (c := cc) (by show F.cl.lookup _ = _; rw [hcl]; rfl) ⟨_, KX _ _ lkcc, rfl⟩ ?_
  refine wpAny_loadName_local hk hka hn hma ?_
  refine ks_wpAny_isType_cls (KX _ _ hC) rfl ⟨rfl, ?_⟩
  obtain ⟨hh, g, d, tk, os⟩ := s
  refine ks_wpAny_call_super (KX _ _ hC) rfl hox rfl (fun c z => by cases z) (PySem.W.looks_mroIn KX S.mro) (fun h' eso kso => ?_)
  have I2 : Inv (ncx CX P w K mg base N F f A outer s0 H0 E) [] σ H ⟨h', g, d, tk, os⟩ := I.kept kso
  have KX2 : K.In h' := I2.kIn
  have hox2 := kso _ _ hox
  have IA : PySem.W.InstAt h' a _ C none := ⟨hox2, rfl, rfl, trivial⟩
  have hI : PySem.W.Looks (model P w) h' (isInstance (.ref a) (.type "ValueError")) true := IA.type.andThen (PySem.W.looks_subIn KX2 S.sub)
  have hm := S.ini
  cases hc : PySem.W.clsIn K C with
  | none =>
    unfold PySem.W.ks_superIn at hm
    rw [hc] at hm
    cases hm
  | some cd =>
    unfold PySem.W.ks_superIn at hm
    rw [hc] at hm
    refine PySem.W.kxs_getMethod PySem.W.kxs_ValueError eso (PySem.W.looks_opaque KX2 S.opq) (l₀ := cd.mro) ?_ rfl KX2 hm hI (PySem.W.ks_ne KX2 IA hc) (by decide) ?_
    · exact fun A Q E s k q => wpAny_bind ((PySem.W.looks_clsIn KX2 hc) A _ E s k (wpAny_pure q))
    · have I3 : Inv (ncx CX P w K mg base N F f A outer s0 H0 E) [(h'.objs.size, PySem.W.kxs_mw "ValueError.__init__" a)] σ H ⟨h'.push (PySem.W.kxs_mw "ValueError.__init__" a), g, d, tk + 1, os⟩ := ClX.pin_new I2 (fun b o e => Heap.get?_push_of_some _ e) (Nat.le_refl _) (Heap.get?_push_at rfl rfl) (fun v z => by cases z)
      rw [he]
      refine PySem.W.kxs_callWith (i := "ValueError.__init__") (x := a) (by show (false || (backTo pos (starEach es _)).any (·.1)) = false; rw [hpl]; rfl) ?_
      refine PySem.Calls.evalArgs_plain ?_
      have hrun := ha.run pos _ _ σ H _ I3 ht
      rw [he] at hrun
      refine thn hrun fun us s3 ⟨ws, H3, I4, r, q1, q2, q3⟩ => ?_
      refine ⟨ClX.pin_at I4, ?_⟩
      refine call_mw (X := ncx CX P w K mg base N F f A outer s0 H0 E) S I4 q2 (by show us.length ≤ sizeLine; rw [← r.length]; exact Nat.le_trans q1 (by decide)) fun s' I5 => ⟨rfl, H3, ClX.unpin I5, q2, q3⟩
theorem wpAt_to {M : Model} {A : Around} {c : Code} {α : Type} {m : Sem α} {Q Q' : α → Shared → Prop} {E : Value → Shared → Prop} {s : Shared} (h : _root_.PySem.wpAt M A c m Q E s) (hq : ∀ a s', Q a s' → Q' a s') : _root_.PySem.wpAt M A c m Q' E s := ks_wpAt_mono h hq fun _ _ z => z
/-- THE RULE: such an __init__, the rest of its body by its readings -/
theorem sup_ok {pl : Sem Bool} {fd : FuncData} {dV kV doc pm ct : Value} {an : Option Addr} {ar : Arg} {k : Nat} {sp : Sp} {txt : Str} {j : Nat} {p0 p1 p2 p3 pos pos2 : Pos} {rest : List Stmt} (hfd : fd = PySem.W.fnX F.name F.qual F.params F.body F.scope F.cl dV kV doc pm an (.ref F.c) ct)
    (S : SupK P K C f F.c cc fd) (hcd : PySem.W.codeIn K (.ref F.c) F.qual = true) (NS : NScope N ps ["__class__"] F.scope) (hcl : F.cl = [(("__class__" : Str), cc)]) (hp : (F.params.posonlyargs ++ F.params.args).head? = some ar) (hks : F.scope.names.lookup ("super" : Str) = some .globalImplicit) (m_super : mg "super" = none)
    (hN : N[0]? = some ar.arg) (hka : F.scope.names.lookup ar.arg = some .local)
    (hb : F.body = .Expr (.Call (.Attribute (.Call (.Name "super" p0) [] [] p1) "__init__" p2) [.Constant (.str txt) j p3] [] pos) pos2 :: rest)
    (len : ∀ vs H Q E, sp vs H Q E → vs.length = ps.length) (hself : ∀ vs H Q E, sp vs H Q E → ∃ a vs', vs = .ref a :: vs' ∧ H a = some (exo a C none))
    (hint : ∀ (A : Around) (outer : List Env) (s : Shared) (H : Hp) (E : XK), interactive (ncx CX P w K mg base N F f A outer s H E).env = false)
    (hsw : ∀ (A : Around) (outer : List Env) (s : Shared) (H : Hp) (E : XK), swapsWith (.Call (.Attribute (.Call (.Name "super" p0) [] [] p1) "__init__" p2) [.Constant (.str txt) j p3] [] pos) none pos2.line (ncx CX P w K mg base N F f A outer s H E).env = pure false)
    (hev : ∀ (A : Around) (outer : List Env) (s : Shared) (H : Hp) (E : XK), eval (.Call (.Attribute (.Call (.Name "super" p0) [] [] p1) "__init__" p2) [.Constant (.str txt) j p3] [] pos) (ncx CX P w K mg base N F f A outer s H E).env = (do
      let ov ← attributeBase (.Call (.Name "super" p0) [] [] p1) "__init__" (ncx CX P w K mg base N F f A outer s H E).env (eval (.Call (.Name "super" p0) [] [] p1) (ncx CX P w K mg base N F f A outer s H E).env)
      standAt p2.atName
      let (g, first) ← holding [ov] (getMethod ov "__init__" pl)
      callWith pos g first (backTo pos (starEach [.Constant (.str txt) j p3] (ncx CX P w K mg base N F f A outer s H E).env)) []))
    (hrest : ∀ (A : Around) (outer : List Env) (s : Shared) (H : Hp) (vs : List V) (Q : VK) (E : XK), sp vs H Q E → ∃ t, PSs (ncx CX P w K mg base N F f A outer s H E) rest t ∧ t { nx := fun _ H' => Q .non H', rt := Q } (startF N vs [some (.ref C)]) H) : FnOk P w K mg base CX (k + 1) f fd ps sp := by
  refine ⟨len, fun A outer s H args us vs Q E hr e0 hbn r hsp => ?_⟩
  have hl := len _ _ _ _ hsp
  have KX : K.In s.heap := e0.mod.kin.keeps fun b o e => (e0.bs b o e).1
  have lim : s.heap.NoLimit := e0.mod.nolimit.keeps fun b o e => (e0.bs b o e).1
  obtain ⟨oc, od, osl, lkf⟩ := S.lk
  obtain ⟨cl, cld, csl, lkcc⟩ := S.cell
  have CA : CellsAt F.cl ["__class__"] [some (.ref C)] s.heap H := by
    refine ⟨rfl, fun y c e => ?_, fun x y c e1 e2 => ?_, fun i y e => ?_⟩
    · rw [hcl] at e
      have ec : c = cc := by
        unfold List.lookup at e
        split at e
        · exact (Option.some.inj e).symm
        · cases e
      subst ec
      exact ⟨(e0.bs _ _ (e0.mod.kin _ _ lkcc)).2, _, _, KX _ _ lkcc, rfl⟩
    · rw [hcl] at e1 e2
      have k : ∀ z : Str, ([(("__class__" : Str), cc)] : List (Str × Addr)).lookup z = some c → z = "__class__" := fun z e => by
        unfold List.lookup at e
        split at e
        · next h => exact beq_iff_eq.mp h
        · cases e
      rw [k x e1, k y e2]
    · have ey : y = "__class__" := by
        cases i with
        | zero => exact (Option.some.inj e).symm
        | succ i => cases e
      subst ey
      refine ⟨cc, by rw [hcl]; rfl, fun v hv => ?_⟩
      have ei : i = 0 := by
        cases i with
        | zero => rfl
        | succ i => cases e
      subst ei
      obtain rfl : V.ref C = v := Option.some.inj (Option.some.inj hv)
      exact ⟨.ref C, rfl, _, KX _ _ lkcc, rfl⟩
  subst hfd
  refine ks_codeAny_call_defAt hr.depth (KX _ _ lkf) rfl lim (PySem.W.codeRec_of KX hcd) rfl hbn NS.nocell (fun ⟨n, _⟩ hy => NS.par n (List.of_mem_zip hy).1) (fun h₁ hns kp => ?_) NS.co NS.gen NS.kind
  show _root_.PySem.wpAt _ (ncx CX P w K mg base N F f A outer s H E).A (.func F.body (ncx CX P w K mg base N F f A outer s H E).env) (execs F.body (ncx CX P w K mg base N F f A outer s H E).env) _ (ncx CX P w K mg base N F f A outer s H E).xe _
  have I : Inv (ncx CX P w K mg base N F f A outer s H E) [] (startF N vs [some (.ref C)]) H { s with heap := h₁, toks := s.toks + (ps.zip us).length } := inv_startN NS hr.hd e0 hl r CA hns kp
  obtain ⟨a, vs', rfl, hx⟩ := hself _ _ _ _ hsp
  have hexe : execs F.body (ncx CX P w K mg base N F f A outer s H E).env = execs (.Expr (.Call (.Attribute (.Call (.Name "super" p0) [] [] p1) "__init__" p2) [.Constant (.str txt) j p3] [] pos) pos2 :: rest) (ncx CX P w K mg base N F f A outer s H E).env := by rw [hb]
  rw [hexe]
  refine ks_wpAt_execs_cons (wpAt_to (super_first (Qn := fun H1 => H1 = H) S hcl hp hks (NS.frk _ (List.mem_cons_self ..)) hka NS.kind m_super hN (pa_cons pe_str pa_nil) I rfl hx ⟨by simp, hx, rfl⟩ (hint A outer s H E) (hsw A outer s H E) (hev A outer s H E)) ?_)
  rintro fl s1 ⟨rfl, H1, I1, _, rfl⟩
  obtain ⟨t, ht, hq⟩ := hrest A outer s H1 _ Q E hsp
  refine wpAt_of_wpAny (wpAny_mono (ht.run [] _ _ H1 _ I1 hq) (fun fl s' hs => ?_) fun e s' hs => hs)
  have fin : ∀ {σ' : L2.St} {H' : Hp} {v : V} {u : Value}, Inv (ncx CX P w K mg base N F f A outer s H1 E) [] σ' H' s' → L2.RelV v u → Q v H' → CE outer P w H1 s Q u s' :=
    fun {σ' H' v u} J rv q => ⟨v, H', J.os, J.bare, J.base, J.hok, rv, q⟩
  cases fl with
  | ret u =>
    obtain ⟨v, σ', H', J, rv, q⟩ := hs
    exact fin J rv q
  | next =>
    obtain ⟨σ', H', J, q⟩ := hs
    exact fin (v := V.non) (u := Value.none) J rfl q
  | brk =>
    obtain ⟨_, _, _, q⟩ := hs
    exact False.elim q
  | cont =>
    obtain ⟨_, _, _, q⟩ := hs
    exact False.elim q
end
end Z
set_option Elab.async false
set_option linter.all false
set_option maxRecDepth 100000
set_option maxHeartbeats 4000000
namespace Z
open PySem PySem.Spec PyProof.Rows L2 NdefX
/-! ### class X(..): def __init__(self, v): super().__init__("text"); self.field = v -/
def spEx (C : Addr) (field : Str) : Sp := fun vs H Q _ => ∃ (a : Addr) (v : V), vs = [.ref a, v] ∧ H a = some (exo a C none) ∧ ∀ dx, H dx = none → dx ≠ a → Q .non (upd (upd H dx (exd dx [(field, v)])) a (exo a C (some dx)))
theorem exn_ok {P : Program} {w : World} {K : PySem.W.Frag} {mg : Str → Option Value} {base : Heap} {F : NF} {f C cc : Addr} {pl : Sem Bool} {fd : FuncData} {dV kV doc pm ct : Value} {an : Option Addr} {ar : Arg} {txt v field : Str} {j : Nat} {p0 p1 p2 p3 pos pos2 q1 q2 q3 q4 : Pos} (hfd : fd = PySem.W.fnX F.name F.qual F.params F.body F.scope F.cl dV kV doc pm an (.ref F.c) ct)
    (S : SupK P K C f F.c cc fd) (hcd : PySem.W.codeIn K (.ref F.c) F.qual = true) (NS : NScope ["self", v, "__class__"] ["self", v] ["__class__"] F.scope) (hcl : F.cl = [(("__class__" : Str), cc)]) (hp : (F.params.posonlyargs ++ F.params.args).head? = some ar) (har : ar.arg = "self") (hks : F.scope.names.lookup ("super" : Str) = some .globalImplicit) (m_super : mg "super" = none)
    (hno : PySem.W.findIn K (.ref C) field = some none) (hvd : (v == ("__debug__" : Str)) = false) (hvc : (v == ("__classdict__" : Str)) = false)
    (hb : F.body = [.Expr (.Call (.Attribute (.Call (.Name "super" p0) [] [] p1) "__init__" p2) [.Constant (.str txt) j p3] [] pos) pos2, .Assign [.Attribute (.Name "self" q1) field q2] (.Name v q3) q4])
    (hint : ∀ (A : Around) (outer : List Env) (s : Shared) (H : Hp) (E : XK), interactive (ncx CX0 P w K mg base ["self", v, "__class__"] F f A outer s H E).env = false)
    (hsw : ∀ (A : Around) (outer : List Env) (s : Shared) (H : Hp) (E : XK), swapsWith (.Call (.Attribute (.Call (.Name "super" p0) [] [] p1) "__init__" p2) [.Constant (.str txt) j p3] [] pos) none pos2.line (ncx CX0 P w K mg base ["self", v, "__class__"] F f A outer s H E).env = pure false)
    (hev : ∀ (A : Around) (outer : List Env) (s : Shared) (H : Hp) (E : XK), eval (.Call (.Attribute (.Call (.Name "super" p0) [] [] p1) "__init__" p2) [.Constant (.str txt) j p3] [] pos) (ncx CX0 P w K mg base ["self", v, "__class__"] F f A outer s H E).env = (do
      let ov ← attributeBase (.Call (.Name "super" p0) [] [] p1) "__init__" (ncx CX0 P w K mg base ["self", v, "__class__"] F f A outer s H E).env (eval (.Call (.Name "super" p0) [] [] p1) (ncx CX0 P w K mg base ["self", v, "__class__"] F f A outer s H E).env)
      standAt p2.atName
      let (g, first) ← holding [ov] (getMethod ov "__init__" pl)
      callWith pos g first (backTo pos (starEach [.Constant (.str txt) j p3] (ncx CX0 P w K mg base ["self", v, "__class__"] F f A outer s H E).env)) []))
    (hs2 : ∀ (A : Around) (outer : List Env) (s : Shared) (H : Hp) (E : XK), swapsWith (.Name v q3) (some (.Attribute (.Name "self" q1) field q2)) q4.line (ncx CX0 P w K mg base ["self", v, "__class__"] F f A outer s H E).env = pure false) : FnOk P w K mg base CX0 1 f fd ["self", v] (spEx C field) := by
  refine sup_ok (k := 0) (rest := [.Assign [.Attribute (.Name "self" q1) field q2] (.Name v q3) q4]) hfd S hcd NS hcl hp hks m_super (by rw [har]; rfl) (by rw [har]; exact NS.par _ (List.mem_cons_self ..)) hb (fun vs H Q E h => ?_) (fun vs H Q E h => ?_) hint hsw hev (fun A outer s H vs Q E h => ?_)
  · obtain ⟨a, y, rfl, _⟩ := h
    rfl
  · obtain ⟨a, y, rfl, hx, _⟩ := h
    exact ⟨a, [y], rfl, hx⟩
  · obtain ⟨a, y, rfl, hx, q⟩ := h
    refine ⟨_, pss_one (ps_ost (pe_var (i := 0) rfl (.inl (NS.par _ (List.mem_cons_self ..)))) (pe_var (i := 1) rfl (.inl (NS.par _ (List.mem_cons_of_mem _ (List.mem_cons_self ..)))) hvd hvc) (hs2 A outer s H E)), ?_⟩
    refine ⟨y, rfl, .ref a, rfl, a, C, rfl, S.oex, hno, .inl ⟨hx, fun dx n1 n2 => ?_⟩⟩
    exact q dx n1 n2
/-! ### raise X(e) -/
structure Exn (P : Program) (w : World) (K : PySem.W.Frag) (mg : Str → Option Value) (base : Heap) (x : Str) (C : Addr) (field : Str) : Prop where
  oex : OexC K C
  gl : mg x = some (.ref C)
  ini : ∃ fI fd ps, PySem.W.findIn K (.ref C) "__init__" = some (some (.ref fI)) ∧ PySem.W.typeIn K (.ref fI) = some (.type "function") ∧ FnOk P w K mg base CX0 1 fI fd ps (spEx C field) ∧ Binds K fd ps []
/-! ### C(e): the exception's object has no context -/
section
variable {X : Cx} {x : Str} {C g : Addr} {k : Nat} {fd : FuncData} {ps : List Str} {sp : Sp} {e : Expr} {ta : TA} {p pos : Pos}
/-- the two objects that type.__call__ lays -/
abbrev hp2 (h : Heap) (C : Addr) (us : List Value) : Heap :=
  (h.push (PySem.W.kdv_tup us)).push (PySem.HandSPX.excO C h.objs.size)
theorem hp2_keep {h : Heap} {us : List Value} (b : Addr) (o : Obj) (z : h.get? b = some o) :
    (hp2 h C us).get? b = some o := Heap.get?_push_of_some _ (Heap.get?_push_of_some _ z)
theorem hp2_at {h : Heap} {us : List Value} :
    (hp2 h C us).get? (h.objs.size + 1) = some (PySem.HandSPX.excO C h.objs.size) := by heap_get
theorem inv2 {pins : List (Addr × Obj)} {σ : L2.St} {H : Hp} {h : Heap} {gs : Array GenState} {dr : Drawn} {tk : Nat} {os : OsState} {us : List Value}
    (I : Inv X pins σ H ⟨h, gs, dr, tk, os⟩) :
    Inv X pins σ (upd H (h.objs.size + 1) (exo (h.objs.size + 1) C none)) ⟨hp2 h C us, gs, dr, tk, os⟩ :=
  I.laid (t' := tk) (a := h.objs.size + 1) (o := exo (h.objs.size + 1) C none) (h' := hp2 h C us)
    hp2_keep (Nat.le_succ _) (exo_ok hp2_at)
theorem pmkN (T : OexC X.K C)
    (iC : PySem.W.findIn X.K (.ref C) "__init__" = some (some (.ref g)))
    (tI : PySem.W.typeIn X.K (.ref g) = some (.type "function"))
    (F : FnOk X.prog X.w X.K X.mg X.base CX0 k g fd ps sp) (hr : Room (k + 1) X.A) (hb : Binds X.K fd ps [])
    (hg : Gl X x) (hm : X.mg x = some (.ref C)) (ha : PA X [e] ta)
    (hdb : (x == ("__debug__" : Str)) = false := by decide)
    (he : starEach [e] X.env = (false, eval e X.env) :: starEach [] X.env := by rfl)
    (hpl : (backTo pos (starEach [] X.env)).any (·.1) = false := by rfl) :
    L2N.PMk X (.Call (.Name x p) [e] [] pos) (tMkO C sp [] ta) := by
  intro pins s σ H Q I h
  obtain ⟨_, _, _, _, vm, _, _, _, _, _, _, _, _, _, _, atC, inM⟩ := T.cls
  refine wpAny_Call_Name_kw (ld_glob I hg hm ?_ hdb)
  refine PySem.W.callWith_K (h₀ := X.base) I.ok.mod.kin T.kC ?_ he hpl
  refine thn (ha.run pos pins s σ H _ I h) fun us s1 hh => ?_
  obtain ⟨vs, H1, J, r, few, q⟩ := hh
  refine ⟨J.kIn, ?_⟩
  obtain ⟨hp, gs, dr, tk, os⟩ := s1
  have q := q (hp.objs.size + 1) (J.hok.fresh (Nat.le_succ _))
  rw [List.append_nil] at q
  have J2 := inv2 (C := C) (us := us) J
  have r2 : Vals (V.ref (hp.objs.size + 1) :: vs) (Value.ref (hp.objs.size + 1) :: us) := .cons rfl r
  have len2 : (Value.ref (hp.objs.size + 1) :: us ++ []).length = ps.length := by
    rw [List.append_nil, ← r2.length]
    exact F.len _ _ _ _ q
  have b2 := hb _ (Value.ref (hp.objs.size + 1) :: us) J2.kIn len2
  rw [List.append_nil] at b2
  have few2 : us.length ≤ sizeLine := by
    have := Paired.length r
    rw [sizeLine_eq]
    omega
  have run := F.run _ X.stack _ _ _ _ _ _ _ (hr.make C us []) (J2.env0.make C us []) b2 r2 q
  refine wpAny_call (PySem.HandSPX.call_own PySem.F.excBase_ValueError (fun Y => PySem.HandSPX.refsVE_contains Y vm inM)
    (J.kIn _ _ atC) (PySem.W.looks_findIn J.kIn iC) (fun self => PySem.W.bind_fn J.kIn self tI) few2
    (codeAny_mono run fun res s' z => ?_))
  match res, z with
  | .error er, z => exact z.elim
  | .ok (.ret u), z =>
    obtain ⟨v, H2, eo, bare, un, ok2, rv, ev, d, fs, ea, ed, nd, q2⟩ := z
    subst ev
    obtain ⟨h2, g2, d2, t2, os'⟩ := s'
    obtain ⟨t0, G, J3, kG, ge, hoe, na⟩ := mk_end0 (d2 := d2) (t2 := t2) J (Nat.le_succ _) hp2_keep un ok2 eo bare ea ed nd
    refine ⟨rv, hp.objs.size + 1, _, _, ⟨G, g2, d2, t2, os'⟩, _, .ref C, some d, rfl, J3, kG, ge, hoe, ⟨rfl, rfl, fun ws ew => ?_⟩, rfl, rfl, na, rfl, bare, raises_own T.exC T.tyC, q2⟩
    cases ew
    rfl
end
section
variable {X : Cx} {x field : Str} {C : Addr} {j : Nat} {e : Expr} {ta : TA} {p pos pos2 : Pos} {W : WX}
theorem pmk_exn (c : Exn X.prog X.w X.K X.mg X.base x C field) (hr : Room j X.A) (hk : 2 ≤ j) (hg : Gl X x) (ha : PA X [e] ta) (hdb : (x == ("__debug__" : Str)) = false := by decide) (he : starEach [e] X.env = (false, eval e X.env) :: starEach [] X.env := by rfl) (hpl : (backTo pos (starEach [] X.env)).any (·.1) = false := by rfl) :
    L2N.PMk X (.Call (.Name x p) [e] [] pos) (tMkO C (spEx C field) [] ta) := by
  obtain ⟨fI, fd, ps, iC, tI, F1, b⟩ := c.ini
  exact pmkN (X := X) (pos := pos) (p := p) c.oex iC tI F1 (hr.mono hk) b hg c.gl ha hdb he hpl
/-- raise X(e) -/
theorem ps_exn (hc : X.calm = true) (tk : L2N.Takes X W) (c : Exn X.prog X.w X.K X.mg X.base x C field) (hr : Room j X.A) (hk : 2 ≤ j) (hg : Gl X x) (ha : PA X [e] ta) (hdb : (x == ("__debug__" : Str)) = false := by decide) (he : starEach [e] X.env = (false, eval e X.env) :: starEach [] X.env := by rfl) (hpl : (backTo pos (starEach [] X.env)).any (·.1) = false := by rfl) :
    PS X (.Raise (some (.Call (.Name x p) [e] [] pos)) none pos2) (fun _ σ H => tMkO C (spEx C field) [] ta σ H fun cls d H' => W cls d σ H') := L2N.ps_raise hc tk (pmk_exn c hr hk hg ha hdb he hpl)
end
/-- what is left to show of X(v) -/
theorem mkx_of {C : Addr} {field : Str} {v : V} {H1 : Hp} {Q : XK} (q : ∀ d, H1 d = none → Q (.ref C) (some d) (upd H1 d (.xd [(field, v)]))) :
    [v].length ≤ 1000 ∧ ∀ a, H1 a = none → spEx C field (.ref a :: ([v] ++ [])) (upd H1 a (exo a C none)) (fun v H2 => v = .non ∧ ∃ (d : Addr) (fs : List (Str × V)), H2 a = some (exo a C (some d)) ∧ H2 d = some (exd d fs) ∧ H1 d = none ∧ Q (.ref C) (some d) (upd (del H2 a) d (.xd fs))) (fun _ _ _ => False) := by
  refine ⟨by simp, fun a na => ⟨a, v, rfl, upd_same, fun dx n1 n2 => ⟨rfl, dx, [(field, v)], upd_same, ?_, ?_, ?_⟩⟩⟩
  · rw [upd_ne n2, upd_same]
  · rw [← n1, upd_ne n2]
  · have n3 : H1 dx = none := by rw [← n1, upd_ne n2]
    have e1 : upd (del (upd (upd (upd H1 a (exo a C none)) dx (exd dx [(field, v)])) a (exo a C (some dx))) a) dx (.xd [(field, v)]) = upd H1 dx (.xd [(field, v)]) := by
      funext b
      by_cases hb : b = dx
      · rw [hb, upd_same, upd_same]
      · rw [upd_ne hb, upd_ne hb]
        by_cases ha2 : b = a
        · rw [ha2, del_same, na]
        · rw [del_ne ha2, upd_ne ha2, upd_ne hb, upd_ne ha2]
    rw [e1]
    exact q dx n3
/-! ### calls that may raise -/
structure CalX (P : Program) (w : World) (K : PySem.W.Frag) (mg : Str → Option Value) (base : Heap) (k : Nat) (x : Str) (sp : Sp) : Prop where
  ex : ∃ (f : Addr) (fd : FuncData) (ps : List Str), FnOk P w K mg base (L2N.CX P w) k f fd ps sp ∧ mg x = some (.ref f) ∧ PySem.W.keepIn K (.ref f) = true ∧ Binds K fd ps []
structure MakX (P : Program) (w : World) (K : PySem.W.Frag) (mg : Str → Option Value) (base : Heap) (k : Nat) (x : Str) (C : Addr) (sp : Sp) : Prop where
  ex : ∃ (f : Addr) (fd : FuncData) (ps : List Str), Mk K C f ∧ FnOk P w K mg base (L2N.CX P w) k f fd ps sp ∧ mg x = some (.ref C) ∧ Binds K fd ps []
structure MetX (P : Program) (w : World) (K : PySem.W.Frag) (mg : Str → Option Value) (base : Heap) (k : Nat) (C : Addr) (m : Str) (sp : Sp) : Prop where
  ex : ∃ (f : Addr) (fd : FuncData) (ps : List Str), Cls K C ∧ Meth K C m f ∧ FnOk P w K mg base (L2N.CX P w) k f fd ps sp ∧ Binds K fd ps []
structure CobX (P : Program) (w : World) (K : PySem.W.Frag) (mg : Str → Option Value) (base : Heap) (k : Nat) (C : Addr) (sp : Sp) : Prop where
  ex : ∃ (g : Addr) (fd : FuncData) (ps : List Str), StX.CallO K C g ∧ FnOk P w K mg base (L2N.CX P w) k g fd ps sp ∧ Binds K fd ps []
/-- C(e, ..) by its __init__'s promise; what is raised at the slots -/
def tMkW (C : Addr) (sp : Sp) (E : L2.St → XK) (t : TA) : TE := fun σ H Q => t σ H fun vs H1 => ∀ n dx, H1 n = none → H1 dx = none → dx ≠ n → sp (.ref n :: vs) (upd (upd H1 dx (.own n)) n (.ins C dx [])) (fun v H2 => v = .non ∧ Q (.ref n) H2) (E σ)
def tCoW (C : Addr) (sp : Sp) (E : L2.St → XK) (tf : TE) (t : TA) : TE := fun σ H Q => tf σ H fun y H1 => ∃ a, y = V.ref a ∧ t σ H1 fun vs H2 => (∃ dx fs, H2 a = some (.ins C dx fs)) ∧ sp (V.ref a :: vs) H2 Q (E σ)
def tMeW (C : Addr) (m : Str) (sp : Sp) (E : L2.St → XK) (ta : TE) (t : TA) : TE := fun σ H Q => ta σ H fun x H1 => ∃ a dx fs, x = V.ref a ∧ H1 a = some (.ins C dx fs) ∧ List.lookup m fs = none ∧ t σ H1 fun vs H2 => sp (x :: vs) H2 Q (E σ)
section
variable {X : Cx} {k j : Nat} {x m : Str} {sp : Sp} {C : Addr} {p pos apos : Pos} {e o fe : Expr} {es : List Expr} {t : TA} {ta tf : TE} {W : WX} {E : L2.St → XK}
theorem passS0 {σ : L2.St} : PassesAt (L2N.CX X.prog X.w) X σ E0 := fun _ _ _ _ _ _ h => by
  obtain ⟨_, _, _, _, _, _, _, _, _, _, _, _, z⟩ := h
  exact z.elim
/-- any result of a promise, at the slots -/
theorem back_at {σ : L2.St} {H : Hp} {s : Shared} {pins : List (Addr × Obj)} {Q : VK} {E : XK} {CX : CXT} (hx : PassesAt CX X σ E) (I : Inv X pins σ H s) : ∀ (r : Result) (s' : Shared), CR CX X.stack X.prog X.w H s Q E r s' → match r with
    | .ok (.ret v) => EP X pins σ Q v s'
    | .ok _ => False
    | .error e => X.xe e s'
  | .error e, s', h => hx pins H s e s' I h
  | .ok (.ret u), s', h => I.after h
  | .ok .next, s', h => h
  | .ok .brk, s', h => h
  | .ok .cont, s', h => h
theorem pe_clE (c : CalX X.prog X.w X.K X.mg X.base k x sp) (hx : ∀ σ, PassesAt (L2N.CX X.prog X.w) X σ (E σ)) (hr : Room j X.A) (hk : k ≤ j) (hg : Gl X x) (ha : PA X (e :: es) t) (hdb : (x == ("__debug__" : Str)) = false := by decide) (he : starEach (e :: es) X.env = (false, eval e X.env) :: starEach es X.env := by rfl) (hpl : (backTo pos (starEach es X.env)).any (·.1) = false := by rfl) :
    PE X (.Call (.Name x p) (e :: es) [] pos) (tCallS sp E t) := by
  obtain ⟨f, fd, ps, F, hm, kp, b⟩ := c.ex
  exact pe_callS F (hr.mono hk) hg hm kp b hx ha hdb he hpl
theorem pe_mkE (c : MakX X.prog X.w X.K X.mg X.base k x C sp) (hx : ∀ σ, PassesAt (L2N.CX X.prog X.w) X σ (E σ)) (hr : Room j X.A) (hk : k + 1 ≤ j) (hg : Gl X x) (ha : PA X (e :: es) t) (hdb : (x == ("__debug__" : Str)) = false := by decide) (he : starEach (e :: es) X.env = (false, eval e X.env) :: starEach es X.env := by rfl) (hpl : (backTo pos (starEach es X.env)).any (·.1) = false := by rfl) :
    PE X (.Call (.Name x p) (e :: es) [] pos) (tMkW C sp E t) := by
  obtain ⟨f, fd, ps, M, F, hm, b⟩ := c.ex
  constructor
  intro pins s σ H Q I h
  refine wpAny_Call_Name_kw (ld_glob I hg hm ?_ hdb)
  refine PySem.W.callWith_K (h₀ := X.base) I.ok.mod.kin M.kp (thn (ha.run pos pins s σ H _ I h) fun us s1 z => ?_) he hpl
  obtain ⟨vs, H1, I1, rr, q⟩ := z
  refine ⟨I1.kIn, ?_⟩
  obtain ⟨n, hn⟩ : ∃ n, n = s1.heap.objs.size := ⟨_, rfl⟩
  have q1 := q (n + 1) n (I1.hok.fresh (by rw [hn]; exact Nat.le_succ _)) (I1.hok.fresh (by rw [hn]; exact Nat.le_refl _)) (Nat.ne_of_lt (Nat.lt_succ_self _))
  subst hn
  have J := Inv.made (C := C) I1
  have r3 : Vals (V.ref (s1.heap.objs.size + 1) :: vs) (Value.ref (s1.heap.objs.size + 1) :: us) := .cons rfl rr
  have b3 := b { s1 with heap := (s1.heap.push PySem.W.emptyDict).push (PySem.W.instObj C s1.heap.objs.size) } (Value.ref (s1.heap.objs.size + 1) :: us) J.kIn (by rw [List.append_nil, ← r3.length]; exact F.len _ _ _ _ q1)
  rw [List.append_nil] at b3
  have run := F.run _ X.stack _ _ _ _ _ _ _ ((hr.mono hk).make C us []) (J.env0.make C us []) b3 r3 q1
  refine wpAny_call (make_map (f := f) I1.kIn M.makes M.init (beq_iff_eq.mp M.fn) (codeAny_mono run fun r s' hq => ?_))
  have z := back_at (hx σ) J r s' hq
  match r, z with
  | .error e, z => exact z
  | .ok (.ret u), ⟨v, H', J', rv, ev, q3⟩ =>
    subst ev
    exact ⟨rv, V.ref (s1.heap.objs.size + 1), H', J', rfl, q3⟩
theorem run_atE {f : Addr} {fd : FuncData} {ps : List Str} {σ : L2.St} {H : Hp} {s : Shared} {pins : List (Addr × Obj)} {Q : VK} {us : List Value} {vs : List V} (F : FnOk X.prog X.w X.K X.mg X.base (L2N.CX X.prog X.w) k f fd ps sp) (b : Binds X.K fd ps []) (hx : PassesAt (L2N.CX X.prog X.w) X σ (E σ)) (hr : Room k X.A) (I : Inv X pins σ H s) (r : Vals vs us) (h : sp vs H Q (E σ)) :
    codeAny (model X.prog X.w) X.A (.call (.ref f) ⟨us, []⟩) (fun r s' => match r with | .ok (.ret v) => EP X pins σ Q v s' | .ok _ => False | .error e => X.xe e s') s := by
  have b3 := b s us I.kIn (by rw [List.append_nil, ← r.length]; exact F.len _ _ _ _ h)
  rw [List.append_nil] at b3
  exact codeAny_mono (F.run _ X.stack _ _ _ _ _ _ _ hr I.env0 b3 r h) (back_at hx I)
theorem pe_coE (c : CobX X.prog X.w X.K X.mg X.base k C sp) (hf : PE X fe tf) (hx : ∀ σ, PassesAt (L2N.CX X.prog X.w) X σ (E σ)) (hr : Room j X.A) (hk : k ≤ j) (ha : PA X (e :: es) t)
    (ht : eval (.Call fe (e :: es) [] pos) X.env = (do callWith pos (← eval fe X.env) [] (backTo pos (starEach (e :: es) X.env)) (backToKw pos (keywordEach [] X.env))) := by rfl)
    (he : starEach (e :: es) X.env = (false, eval e X.env) :: starEach es X.env := by rfl) (hpl : (backTo pos (starEach es X.env)).any (·.1) = false := by rfl) : PE X (.Call fe (e :: es) [] pos) (tCoW C sp E tf t) := by
  obtain ⟨g, fd, ps, co, F, b⟩ := c.ex
  constructor
  intro pins s σ H Q I h
  refine Call_ (thn (hf.run pins s σ H _ I h) fun u s1 ⟨y, H1, I1, ry, a, ey, q⟩ => ?_) ht
  subst ey
  obtain rfl : u = Value.ref a := ry
  refine StX.callO_with (thn (ha.run pos pins s1 σ H1 _ I1 q) fun us s2 z => ?_) he hpl
  obtain ⟨vs, H2, I2, r, hi, q2⟩ := z
  have hi2 : StX.InsC X H2 a C := .inr hi
  obtain ⟨ox, od, J, hd⟩ := StX.insC_at I2 hi2
  exact ⟨⟨C, ox, od, J, hd⟩, wpAny_call (PySem.W.kco_code I2.kIn J hd co.at_ co.fn co.fi (run_atE (vs := .ref a :: vs) (us := .ref a :: us) F b (hx σ) (hr.mono hk) I2 (.cons rfl r) q2))⟩
theorem pe_meE {pl : Sem Bool} (c : MetX X.prog X.w X.K X.mg X.base k C m sp) (ho : PE X o ta) (hx : ∀ σ, PassesAt (L2N.CX X.prog X.w) X σ (E σ)) (hr : Room j X.A) (hk : k ≤ j) (ha : PA X (e :: es) t)
    (hst : starEach (e :: es) X.env = (false, eval e X.env) :: starEach es X.env := by rfl) (hpl : (backTo pos (starEach es X.env)).any (·.1) = false := by rfl)
    (ht : eval (.Call (.Attribute o m apos) (e :: es) [] pos) X.env = (do
      let ov ← eval o X.env
      standAt apos.atName
      let (g, first) ← holding [ov] (getMethod ov m pl)
      callWith pos g first (backTo pos (starEach (e :: es) X.env)) (backToKw pos (keywordEach [] X.env))) := by rfl) : PE X (.Call (.Attribute o m apos) (e :: es) [] pos) (tMeW C m sp E ta t) := by
  obtain ⟨f, fd, ps, cl, me, F, b⟩ := c.ex
  constructor
  intro pins s σ H Q I h
  refine PySem.W.methodCall_KW (pl := pl) (thn (ho.run pins s σ H _ I h) fun u s1 z => ?_) ht
  obtain ⟨y, H1, I1, ry, a, dx, fs, ey, ea, l, q⟩ := z
  subst ey
  obtain rfl : u = Value.ref a := ry
  refine getmeth_ok I1 ea cl me l ?_
  refine PySem.W.callWith_K (first := [.ref a]) (h₀ := X.base) I.ok.mod.kin me.kp (thn (ha.run pos pins s1 σ H1 _ I1 q) fun us s2 z => ?_) hst hpl
  obtain ⟨vs, H2, I2, r, q2⟩ := z
  exact ⟨I2.kIn, wpAny_call (run_atE (vs := .ref a :: vs) (us := .ref a :: us) F b (hx σ) (hr.mono hk) I2 (.cons rfl r) q2)⟩
theorem takes_fn {P : Program} {w : World} {K : PySem.W.Frag} {mg : Str → Option Value} {base : Heap} {N : List Str} {qual : Str} {scope : Scope} {f : Addr} {cd : Value} {A : Around} {outer : List Env} {s : Shared} {H : Hp} {E : XK} : L2N.Takes (cxOf (L2N.CX P w) P w K mg base N qual scope f cd A outer s H E) (fun cls d _ H' => E cls d H') := L2N.takes_of rfl rfl rfl rfl
end
end Z
set_option Elab.async false
set_option linter.all false
set_option maxRecDepth 100000
set_option maxHeartbeats 4000000
namespace Z
open PySem PySem.Spec PyProof.Rows L2 L2H
/-! ### calls within an except suite -/
section
variable {P : Program} {w : World} {K : PySem.W.Frag} {mg : Str → Option Value} {base : Heap} {x qual : Str} {params : Arguments} {body : List Stmt} {scope : Scope} {dvs : List V} {kws : List (Str × V)} {f : Addr} {fd : FuncData}
theorem fund_okH {N ps : List Str} {k : Nat} {sp : Sp} (F : FunD K x qual params body scope dvs kws f fd) (S : FnScope N ps scope) (len : ∀ vs H Q E, sp vs H Q E → vs.length = ps.length)
    (hbody : ∀ (cdv : Value) (A : Around) (outer : List Env) (s : Shared) (H : Hp) (vs : List V) (Q : VK) (E : XK) (p : Addr × Obj), Hot1 A p → RoomH k (A.deeper (envOfC qual scope s.heap.objs.size f cdv)) → sp vs H Q E →
      ∃ t, PSs (cxH CX0 P w K mg base N qual scope f cdv A outer s H E p) body t ∧ t { nx := fun _ H' => Q .non H', rt := Q } (L2.start N vs) H) : FnH P w K mg base CX0 (k + 1) f fd ps sp := by
  obtain ⟨oc, od, dV, kV, doc, pm, an, cdv, ct, osl, rfl, lk, hcd, _, _⟩ := F.ex
  exact fn_ofH lk hcd S len (hbody cdv)
structure CalH (P : Program) (w : World) (K : PySem.W.Frag) (mg : Str → Option Value) (base : Heap) (k : Nat) (x : Str) (sp : Sp) : Prop where
  ex : ∃ (f : Addr) (fd : FuncData) (ps : List Str), FnH P w K mg base CX0 k f fd ps sp ∧ mg x = some (.ref f) ∧ PySem.W.keepIn K (.ref f) = true ∧ Binds K fd ps []
end
section
variable {X : Cx} {k j : Nat} {x : Str} {sp : Sp} {p pos : Pos} {e : Expr} {es : List Expr} {t : TA}
theorem pe_clH (c : CalH X.prog X.w X.K X.mg X.base k x sp) (hr : RoomH j X.A) (hk : k ≤ j) (hc : HotC X) (hg : Gl X x) (ha : PA X (e :: es) t) (hdb : (x == ("__debug__" : Str)) = false := by decide) (he : starEach (e :: es) X.env = (false, eval e X.env) :: starEach es X.env := by rfl) (hpl : (backTo pos (starEach es X.env)).any (·.1) = false := by rfl) :
    PE X (.Call (.Name x p) (e :: es) [] pos) (tCallS sp (fun _ => E0) t) := by
  obtain ⟨f, fd, ps, F, hm, kp, b⟩ := c.ex
  exact pe_callH F (hr.mono hk) hc hg hm kp b (fun σ _ _ _ _ _ _ h => h.elim) ha hdb he hpl
theorem hotC_suite {a : Addr} {cls : Value} {d : Option Addr} {oe : Obj} {pn : List (Addr × Obj)} (hz : L2N.Zn cls d oe) (hf : ∃ vs, oe.data = .fields vs) : HotC (X.suite a ((a, oe) :: pn)) := by
  obtain ⟨vs, e⟩ := hf
  exact ⟨(a, oe), ⟨rfl, vs, e, hz.2.2 vs e⟩, List.mem_cons_self⟩
theorem room_mark {v : Option Value} {A : Around} (r : Room j A) : RoomH j (A.mark v) := roomH_mark r v
theorem takes0N : L2N.Takes X (fun _ _ _ _ => False) := fun _ _ x => by
  obtain ⟨_, _, _, _, _, _, _, _, _, _, _, _, _, _, _, _, z⟩ := x
  exact z.elim
end
theorem hotC_fn {P : Program} {w : World} {K : PySem.W.Frag} {mg : Str → Option Value} {base : Heap} {CX : CXT} {N : List Str} {qual : Str} {scope : Scope} {f : Addr} {cd : Value} {A : Around} {outer : List Env} {s : Shared} {H : Hp} {E : XK} {p : Addr × Obj} (h : Hot1 A p) : HotC (cxH CX P w K mg base N qual scope f cd A outer s H E p) :=
  ⟨p, ⟨h.1, h.2⟩, List.mem_cons_self⟩
end Z
set_option Elab.async false
set_option linter.all false
set_option maxRecDepth 100000
set_option maxHeartbeats 4000000
namespace Z
open PySem PySem.Spec PyProof.Rows L2 NdefX
/-! ### what the head tells of such a class -/
def oexB (K : PySem.W.Frag) (C : Addr) : Bool := (match K.lookup C with
  | some ⟨.type t, _, .cls cd, sl⟩ => (match cd.mro, sl.toList with
    | .ref D :: bm, [_, _, _, _, some (.builtin n), _] => decide (t = "type") && (decide (D = C) && (decide (n = "ValueError.__new__") && (!cd.hasDel && (cd.hasDict && PySem.HandSPX.refsVE bm))))
    | _, _ => false)
  | _ => false) && (He.eqO (PySem.W.findIn K (.ref C) "__setattr__") (some (some (.builtin "object.__setattr__"))) && (decide (PySem.W.subIn K (.ref C) (.type "BaseException") = some true) && (decide (PySem.W.typeIn K (.ref C) = some (.type "type")) && PySem.W.keepIn K (.ref C))))
theorem oexB_ok {K : PySem.W.Frag} {C : Addr} (h : oexB K C = true) : OexC K C := by
  obtain ⟨h0, h⟩ := He.ba h
  obtain ⟨h1, h⟩ := He.ba h
  obtain ⟨h2, h⟩ := He.ba h
  obtain ⟨h3, h4⟩ := He.ba h
  refine ⟨?_, He.eqO_ok h1, of_decide_eq_true h2, of_decide_eq_true h3, h4⟩
  split at h0
  · next t dd cd sl lk =>
    split at h0
    · next D bm a0 a1 a2 a3 n a5 em es =>
      obtain ⟨g1, h0⟩ := He.ba h0
      obtain ⟨g2, h0⟩ := He.ba h0
      obtain ⟨g3, h0⟩ := He.ba h0
      obtain ⟨g4, h0⟩ := He.ba h0
      obtain ⟨g5, g6⟩ := He.ba h0
      have g1 := of_decide_eq_true g1
      have g2 := of_decide_eq_true g2
      have g3 := of_decide_eq_true g3
      subst g1 g2 g3
      obtain ⟨c1, c2, c3, c4, c5, c6, c7, c8, c9, c10, c11⟩ := cd
      have k3 : c3 = .ref D :: bm := em
      have k4 : c11 = false := by
        have z : (!c11) = true := g4
        cases c11
        · rfl
        · cases z
      have k5 : c6 = true := g5
      clear em g4 g5
      subst k3 k4 k5
      refine ⟨c1, c5, c4, c2, bm, c7, c8, c9, c10, dd, a0, a1, a2, a3, a5, ?_, g6⟩
      rw [lk]
      have : sl = #[a0, a1, a2, a3, some (.builtin "ValueError.__new__"), a5] := by
        apply Array.toList_inj.mp
        rw [es]
      rw [this]
    · cases h0
  · cases h0
def initFd (K : PySem.W.Frag) (C : Addr) : Option FuncData := match K.lookup (He.ma K C "__init__") with
  | some ⟨_, _, .func fd, _⟩ => some fd
  | _ => none
abbrev SupV : Type := Option (Str × Str × Arguments × FuncBody × Scope × Addr × List Str × Value × Addr)
def supObs (K : PySem.W.Frag) (x : Str) : SupV := (initFd K (He.ga K x)).map fun fd => (fd.name, fd.qualname, fd.params, fd.body, fd.scope, fd.globals, fd.closure.map (·.1), fd.defaults, fd.builtins)
def supVal (q : Str) (st : Stmt) : SupV := some ("__init__", q, defArgs st, .stmts (defBody st), defScope st, mainGlobals, ["__class__"], .none, builtinsNs)
def supB (fl : Str) (K : PySem.W.Frag) (C : Addr) (q : Str) : Bool := (match initFd K C with
  | some fd => (match fd.code, fd.closure with
    | .ref c, [(_, cc)] => PySem.W.codeIn K (.ref c) q && ((match K.lookup c with
      | some ⟨_, _, .fields vs, _⟩ => (match (vs[2]? : Option Value) with
        | some (.str file _) => fl == file
        | _ => false)
      | _ => false) && (match K.lookup cc with
      | some ⟨_, _, .cell (some (.ref D)), _⟩ => decide (D = C)
      | _ => false))
    | _, _ => false)
  | none => false) && (decide (PySem.W.mroIn K C (.ref C) = some true) && (He.eqO (PySem.W.nsIn K cStatics "thirdparty.any") (some none) && (He.eqO (PySem.W.ks_superIn K C C "__init__") (some (some (.builtin "ValueError.__init__"))) && (decide (PySem.W.subIn K (.ref C) (.type "ValueError") = some true) && (PySem.W.excInitIn K C He.veBase "ValueError.__new__" && oexB K C)))))
theorem sup_of {P : Program} {K : PySem.W.Frag} {x q fl : Str} {st : Stmt} (h1 : supObs K x = supVal q st) (h2 : supB fl K (He.ga K x) q = true) (hfl : ((P.main.file : Str) == fl) = true) (htop : (P.main.scope.names.lookup ("super" : Str)).isSome = false) :
    ∃ (c cc : Addr) (fd : FuncData) (kV doc pm ct : Value) (an : Option Addr), fd = PySem.W.fnX "__init__" q (defArgs st) (defBody st) (defScope st) [(("__class__" : Str), cc)] .none kV doc pm an (.ref c) ct ∧ SupK P K (He.ga K x) (He.ma K (He.ga K x) "__init__") c cc fd ∧ PySem.W.codeIn K (.ref c) q = true := by
  obtain ⟨g0, h2⟩ := He.ba h2
  obtain ⟨g1, h2⟩ := He.ba h2
  obtain ⟨g2, h2⟩ := He.ba h2
  obtain ⟨g3, h2⟩ := He.ba h2
  obtain ⟨g4, h2⟩ := He.ba h2
  obtain ⟨g5, g6⟩ := He.ba h2
  unfold supObs at h1
  cases e : initFd K (He.ga K x) with
  | none =>
    rw [e] at h1
    cases h1
  | some fd =>
    rw [e] at h1 g0
    have lk : ∃ oc od osl, K.lookup (He.ma K (He.ga K x) "__init__") = some ⟨oc, od, .func fd, osl⟩ := by
      unfold initFd at e
      split at e
      · next oc od fd' osl l =>
        cases e
        exact ⟨_, _, _, l⟩
      · cases e
    obtain ⟨n1, n2, n3, n4, n5, n6, n7, n8, n9, n10, n11, n12, n13, n14, n15⟩ := fd
    have h1 : (some (n1, n2, n3, n4, n5, n6, n7.map (·.1), n8, n15) : SupV) = supVal q st := h1
    unfold supVal at h1
    simp only [Option.some.injEq, Prod.mk.injEq] at h1
    obtain ⟨a1, a2, a3, a4, a5, a6, a7, a8, a9⟩ := h1
    subst a1 a2 a3 a4 a5 a6 a8 a9
    dsimp only at g0
    split at g0
    · next c y cc =>
      obtain ⟨b1, g0⟩ := He.ba g0
      obtain ⟨b2, b3⟩ := He.ba g0
      have ey : y = "__class__" := by
        have := a7
        simpa using this
      subst ey
      refine ⟨c, cc, _, _, _, _, _, _, rfl, ⟨lk, ?_, ?_, htop, of_decide_eq_true g1, He.eqO_ok g2, He.eqO_ok g3, of_decide_eq_true g4, g5, oexB_ok g6⟩, b1⟩
      · split at b2
        · next u1 u2 vs u3 l =>
          split at b2
          · next file tf ev =>
            refine ⟨_, _, vs, _, file, tf, l, ev, ?_⟩
            rw [beq_iff_eq.mp b2] at hfl
            exact hfl
          · cases b2
        · cases b2
      · split at b3
        · next u1 u2 D u3 l =>
          have := of_decide_eq_true b3
          subst this
          exact ⟨_, _, _, l⟩
        · cases b3
    · cases g0
end Z
set_option Elab.async false
set_option linter.all false
set_option maxRecDepth 100000
set_option maxHeartbeats 4000000
namespace Z
open PySem PySem.Spec PyProof.Rows L2 NdefX
/-! ### isinstance(e, c), e a caught error with a dict of its own -/
def rIsX (K : PySem.W.Frag) (a : Addr) (cls : Value) (d : Option Addr) : List V → Hp → VK → Prop := fun xs H Q => ∃ (D dd : Addr) (fs : List (Str × V)) (c : V) (cv : Value) (b : Bool), cls = .ref D ∧ d = some dd ∧ ExcC K D ∧ H dd = some (.xd fs) ∧ xs = [.ref a, c] ∧ (∀ u, RelV c u → u = cv) ∧ PySem.W.kitOne K (.ref D) cv = some b ∧ Q (.bl b) H
theorem call_isX {X : Cx} {a : Addr} {cls : Value} {d : Option Addr} {oe : Obj} {pn : List (Addr × Obj)} (hz : Zc cls d oe) (hf : ∃ vs, oe.data = .fields vs) : CallR (X.suite a ((a, oe) :: pn)) (.builtin "isinstance") (rIsX X.K a cls d) := by
  intro pins s σ H xs us Q I r h
  obtain ⟨D, dd, fs, c, cv, b, rfl, rfl, C, ed, rfl, hcv, e, q⟩ := h
  obtain ⟨u1, u2, rfl, r1, r2⟩ := vals2 r
  cases r1
  have ec := hcv _ r2
  subst ec
  obtain ⟨hget, _⟩ := I.pin (a, oe) (List.mem_append.mpr (.inl List.mem_cons_self))
  obtain ⟨vs, hv⟩ := hf
  have hx : ObjOk X.prog X.w H s.heap dd (.xd fs) := I.hok dd _ ed
  obtain ⟨mA, hns, hr⟩ := hx
  obtain ⟨od, ho, hl⟩ := lookIn_ns hns
  have J : PySem.W.InstAt s.heap a oe D (some od) := ⟨hget, hz.1, by unfold PySem.W.notCls; rw [hv] <;> rfl, by rw [hz.2]; exact ho⟩
  have hcl : (PySem.W.clsIn X.K D).isSome = true := by
    obtain ⟨cd, hc, _⟩ := PySem.W.any_some C.hd
    rw [hc]
    rfl
  exact PySem.W.kia_one (PySem.W.kitx_exc hcl C.hg C.hk C.hs C.ha C.hn C.ht C.hm) I.kIn J e (fun z => nomatch z) fun tk => ⟨.bl b, H, I.kept (t' := tk) fun _ _ z => z, rfl, q⟩
end Z
set_option Elab.async false
set_option linter.all false
set_option maxRecDepth 100000
set_option maxHeartbeats 4000000
namespace Z
open PySem PySem.Spec PyProof.Rows L2 NdefX
/-! ### the head with own exceptions: facts of defs and classes, one more Bool, the __init__s -/
def asX (g : Addr → Option Obj) (n : Nat) : List Addr := He.asD g n ++ [cStatics]
def hookX (n : Nat) (fa : List He.Fa) (fn : List He.DefD) (xs : List Str) (vs : List SupV) (ex : PySem.W.Frag → Bool) : PySem.W.Hook where
  α := He.AlD × (List SupV × Bool)
  obs := fun s => (He.obsD fa fn (He.frG s.heap.get? (asX s.heap.get? n)), xs.map (supObs (He.frG s.heap.get? (asX s.heap.get? n))), ex (He.frG s.heap.get? (asX s.heap.get? n)))
  val := fun _ => (He.valD fn, vs, true)
  says := fun _ h => ∃ K : PySem.W.Frag, K.In h ∧ He.SaysD fa fn K ∧ xs.map (supObs K) = vs ∧ ex K = true
  of := fun _ _ e => ⟨_, He.frG_in, congrArg (fun z : He.AlD × (List SupV × Bool) => z.1) e, congrArg (fun z : He.AlD × (List SupV × Bool) => z.2.1) e, congrArg (fun z : He.AlD × (List SupV × Bool) => z.2.2) e⟩
  keeps := fun _ _ _ ⟨K, hK, c⟩ k => ⟨K, PySem.W.Frag.In.keeps hK k, c⟩
def obX (n : Nat) (fa : List He.Fa) (fn : List He.DefD) (xs : List Str) (ex : PySem.W.Frag → Bool) (g : Addr → Option Obj) : He.AlD × (List SupV × Bool) := (He.obsD fa fn (He.frG g (asX g n)), xs.map (supObs (He.frG g (asX g n))), ex (He.frG g (asX g n)))
theorem obX_eq {n : Nat} {fa : List He.Fa} {fn : List He.DefD} {xs : List Str} {vs : List SupV} {ex : PySem.W.Frag → Bool} {g : Addr → Option Obj} {s : Shared} (h : ∀ a, g a = s.heap.get? a) : obX n fa fn xs ex g = (hookX n fa fn xs vs ex).obs s := by
  have e : g = s.heap.get? := funext h
  rw [e] <;> rfl
theorem sup_at {xs : List Str} {vs : List SupV} {K : PySem.W.Frag} (e : xs.map (supObs K) = vs) (i : Nat) {x : Str} {v : SupV} (h1 : xs[i]? = some x := by rfl) (h2 : vs[i]? = some v := by rfl) : supObs K x = v := by
  have := congrArg (fun z : List SupV => z[i]?) e
  simp only [List.getElem?_map, h1, h2] at this
  exact Option.some.inj this
def excB (K : PySem.W.Frag) (D : Addr) : Bool := He.eqO (PySem.W.findIn K (.ref D) "__getattribute__") (some (some (.builtin "BaseException.__getattribute__"))) && (He.eqO (PySem.W.findIn K (.ref D) "__getattr__") (some none) && (decide (PySem.W.subIn K (.ref D) (.type "BaseException") = some true) && (PySem.W.hasDictIn K D && (He.eqO (PySem.W.findIn K (.ref D) "__class__") (some (some (.builtin "object.__class__"))) && (He.eqO (PySem.W.specialIn K (.builtin "object.__class__") "__get__") (some (some (.builtin "getset_descriptor.__get__"))) && (decide (PySem.W.takesIn K (.builtin "object.__class__") = some true) && decide (PySem.W.mroIn K D (.type "object") = some true)))))))
theorem excB_ok {K : PySem.W.Frag} {D : Addr} (h : excB K D = true) : ExcC K D ∧ XfC K D := by
  obtain ⟨h1, h⟩ := He.ba h
  obtain ⟨h2, h⟩ := He.ba h
  obtain ⟨h3, h⟩ := He.ba h
  obtain ⟨h4, h⟩ := He.ba h
  obtain ⟨h5, h⟩ := He.ba h
  obtain ⟨h6, h⟩ := He.ba h
  obtain ⟨h7, h8⟩ := He.ba h
  exact ⟨⟨He.eqO_ok h1, He.eqO_ok h2, of_decide_eq_true h3, h4, He.eqO_ok h5, He.eqO_ok h6, of_decide_eq_true h7, of_decide_eq_true h8⟩, ⟨He.eqO_ok h1, He.eqO_ok h2, of_decide_eq_true h3, h4⟩⟩
/-- an own exception class with the field -/
def exnB (fl q field : Str) (K : PySem.W.Frag) (C : Addr) : Bool := supB fl K C q && (He.eqO (PySem.W.findIn K (.ref C) "__init__") (some (some (.ref (He.ma K C "__init__")))) && (decide (PySem.W.typeIn K (.ref (He.ma K C "__init__")) = some (.type "function")) && (He.eqO (PySem.W.findIn K (.ref C) field) (some none) && excB K C)))
structure ExnF (K : PySem.W.Frag) (C : Addr) (q field fl : Str) : Prop where
  sup : supB fl K C q = true
  ini : PySem.W.findIn K (.ref C) "__init__" = some (some (.ref (He.ma K C "__init__")))
  ty : PySem.W.typeIn K (.ref (He.ma K C "__init__")) = some (.type "function")
  no : PySem.W.findIn K (.ref C) field = some none
  ec : ExcC K C
  xf : XfC K C
theorem exnB_ok {fl q field : Str} {K : PySem.W.Frag} {C : Addr} (h : exnB fl q field K C = true) : ExnF K C q field fl := by
  obtain ⟨h1, h⟩ := He.ba h
  obtain ⟨h2, h⟩ := He.ba h
  obtain ⟨h3, h⟩ := He.ba h
  obtain ⟨h4, h5⟩ := He.ba h
  exact ⟨h1, He.eqO_ok h2, of_decide_eq_true h3, He.eqO_ok h4, (excB_ok h5).1, (excB_ok h5).2⟩
def exmB (K : PySem.W.Frag) (a b : Addr) : Bool := decide (PySem.W.exmOne K (.ref a) (.ref b) = some true)
def kitVB (K : PySem.W.Frag) (a : Addr) (v : Value) (b : Bool) : Bool := decide (PySem.W.kitOne K (.ref a) v = some b)
end Z
set_option Elab.async false
set_option linter.all false
set_option maxRecDepth 100000
set_option maxHeartbeats 4000000
namespace Z
open PySem PySem.Spec PyProof.Rows L2 NdefX
/-! ### the head with own exceptions and properties: further observations are any functions of the written part -/
def hookY (n : Nat) (fa : List He.Fa) (fn : List He.DefD) (xs : List (PySem.W.Frag → SupV)) (vs : List SupV) (ex : PySem.W.Frag → Bool) : PySem.W.Hook where
  α := He.AlD × (List SupV × Bool)
  obs := fun s => (He.obsD fa fn (He.frG s.heap.get? (asX s.heap.get? n)), xs.map (fun f => f (He.frG s.heap.get? (asX s.heap.get? n))), ex (He.frG s.heap.get? (asX s.heap.get? n)))
  val := fun _ => (He.valD fn, vs, true)
  says := fun _ h => ∃ K : PySem.W.Frag, K.In h ∧ He.SaysD fa fn K ∧ xs.map (fun f => f K) = vs ∧ ex K = true
  of := fun _ _ e => ⟨_, He.frG_in, congrArg (fun z : He.AlD × (List SupV × Bool) => z.1) e, congrArg (fun z : He.AlD × (List SupV × Bool) => z.2.1) e, congrArg (fun z : He.AlD × (List SupV × Bool) => z.2.2) e⟩
  keeps := fun _ _ _ ⟨K, hK, c⟩ k => ⟨K, PySem.W.Frag.In.keeps hK k, c⟩
def obY (n : Nat) (fa : List He.Fa) (fn : List He.DefD) (xs : List (PySem.W.Frag → SupV)) (ex : PySem.W.Frag → Bool) (g : Addr → Option Obj) : He.AlD × (List SupV × Bool) := (He.obsD fa fn (He.frG g (asX g n)), xs.map (fun f => f (He.frG g (asX g n))), ex (He.frG g (asX g n)))
theorem obY_eq {n : Nat} {fa : List He.Fa} {fn : List He.DefD} {xs : List (PySem.W.Frag → SupV)} {vs : List SupV} {ex : PySem.W.Frag → Bool} {g : Addr → Option Obj} {s : Shared} (h : ∀ a, g a = s.heap.get? a) : obY n fa fn xs ex g = (hookY n fa fn xs vs ex).obs s := by
  have e : g = s.heap.get? := funext h
  rw [e] <;> rfl
theorem y_at {xs : List (PySem.W.Frag → SupV)} {vs : List SupV} {K : PySem.W.Frag} (e : xs.map (fun f => f K) = vs) (i : Nat) {f : PySem.W.Frag → SupV} {v : SupV} (h1 : xs[i]? = some f := by rfl) (h2 : vs[i]? = some v := by rfl) : f K = v := by
  have := congrArg (fun z : List SupV => z[i]?) e
  simp only [List.getElem?_map, h1, h2] at this
  exact Option.some.inj this
def isB (K : PySem.W.Frag) (C : Addr) : Bool := He.eqO (PySem.W.findIn K (.ref C) "__class__") (some (some (.builtin "object.__class__"))) && (He.eqO (PySem.W.specialIn K (.builtin "object.__class__") "__get__") (some (some (.builtin "getset_descriptor.__get__"))) && (decide (PySem.W.takesIn K (.builtin "object.__class__") = some true) && (decide (PySem.W.mroIn K C (.type "object") = some true) && decide (PySem.W.kitOne K (.ref C) (.ref C) = some true))))
theorem isB_ok {K : PySem.W.Frag} {C : Addr} (cl : Cls K C) (h : isB K C = true) : C8.InsC K C := by
  obtain ⟨h1, h⟩ := He.ba h
  obtain ⟨h2, h⟩ := He.ba h
  obtain ⟨h3, h⟩ := He.ba h
  obtain ⟨h4, h5⟩ := He.ba h
  exact ⟨cl, He.eqO_ok h1, He.eqO_ok h2, of_decide_eq_true h3, of_decide_eq_true h4, of_decide_eq_true h5⟩
def spB (K : PySem.W.Frag) (C : Addr) (m : Str) : Bool := He.eqO (PySem.W.findIn K (.ref C) m) (some (some (.ref (He.ma K C m)))) && (PySem.W.isFn K (.ref (He.ma K C m)) && PySem.W.fnIn K (He.ma K C m))
theorem spB_ok {K : PySem.W.Frag} {C : Addr} {m : Str} (h : spB K C m = true) : PySem.W.findIn K (.ref C) m = some (some (.ref (He.ma K C m))) ∧ PySem.W.isFn K (.ref (He.ma K C m)) = true ∧ PySem.W.fnIn K (He.ma K C m) = true := by
  obtain ⟨h1, h⟩ := He.ba h
  obtain ⟨h2, h3⟩ := He.ba h
  exact ⟨He.eqO_ok h1, h2, h3⟩
theorem all_at {bs : List Bool} (h : bs.all id = true) (i : Nat) {b : Bool} (e : bs[i]? = some b := by rfl) : b = true := List.all_eq_true.mp h b (List.mem_of_getElem? e)
theorem fnr_ok {P : Program} {w : World} {K : PySem.W.Frag} {mg : Str → Option Value} {base : Heap} {k : Nat} {f : Addr} {fd : FuncData} {ps : List Str} {sp : Sp} (F : FnOk P w K mg base CX0 k f fd ps sp) (b : Binds K fd ps []) : FnR P w K mg base CX0 k f sp := (FnOk.raw (dvs := []) F b .nil).imp fun vs H Q E h => by
  show sp (vs ++ []) H Q E
  rw [List.append_nil]
  exact h
/-! a property's getter -/
def gtA (K : PySem.W.Frag) (C : Addr) (m : Str) : Addr := match PySem.W.recIn K (He.ma K C m) "property" with
  | some (.ref g :: _) => g
  | _ => 0
def fdAt (K : PySem.W.Frag) (g : Addr) : Option FuncData := match K.lookup g with
  | some ⟨_, _, .func fd, _⟩ => some fd
  | _ => none
def propObs (x m : Str) (K : PySem.W.Frag) : SupV := (fdAt K (gtA K (He.ga K x) m)).map fun fd => (fd.name, fd.qualname, fd.params, fd.body, fd.scope, fd.globals, fd.closure.map (·.1), fd.defaults, fd.builtins)
def propVal (m q : Str) (st : Stmt) : SupV := some (m, q, defArgs st, .stmts (defBody st), defScope st, mainGlobals, [], .none, builtinsNs)
def propB (K : PySem.W.Frag) (C : Addr) (m q : Str) : Bool := He.eqO (PySem.W.findIn K (.ref C) m) (some (some (.ref (He.ma K C m)))) && (He.eqO (PySem.W.specialIn K (.ref (He.ma K C m)) "__get__") (some (some (.builtin "property.__get__"))) && (decide (PySem.W.takesIn K (.ref (He.ma K C m)) = some true) && ((match PySem.W.recIn K (He.ma K C m) "property" with
  | some (.ref _ :: _) => true
  | _ => false) && (PySem.W.keepIn K (.ref (gtA K C m)) && (match fdAt K (gtA K C m) with
  | some fd => PySem.W.codeIn K fd.code q && (He.dflB K fd.defaults [] && He.kwdB K fd.kwdefaults [])
  | none => false)))))
theorem prop_of {K : PySem.W.Frag} {x m q : Str} {st : Stmt} (h1 : propObs x m K = propVal m q st) (h2 : propB K (He.ga K x) m q = true) : ∃ fd : FuncData, PropOf K (He.ga K x) m (He.ma K (He.ga K x) m) (gtA K (He.ga K x) m) ∧ FunD K m q (defArgs st) (defBody st) (defScope st) [] [] (gtA K (He.ga K x) m) fd := by
  obtain ⟨g0, h2⟩ := He.ba h2
  obtain ⟨g1, h2⟩ := He.ba h2
  obtain ⟨g2, h2⟩ := He.ba h2
  obtain ⟨g3, h2⟩ := He.ba h2
  obtain ⟨g4, g5⟩ := He.ba h2
  have P : PropOf K (He.ga K x) m (He.ma K (He.ga K x) m) (gtA K (He.ga K x) m) := by
    refine ⟨He.eqO_ok g0, He.eqO_ok g1, of_decide_eq_true g2, ?_⟩
    unfold gtA
    split at g3
    · next g rest e =>
      rw [e]
      exact ⟨rest, rfl⟩
    · cases g3
  unfold propObs at h1
  cases e : fdAt K (gtA K (He.ga K x) m) with
  | none =>
    rw [e] at h1
    cases h1
  | some fd =>
    rw [e] at h1 g5
    have lk : ∃ oc od osl, K.lookup (gtA K (He.ga K x) m) = some ⟨oc, od, .func fd, osl⟩ := by
      unfold fdAt at e
      split at e
      · next oc od fd' osl l =>
        cases e
        exact ⟨_, _, _, l⟩
      · cases e
    obtain ⟨oc, od, osl, lk⟩ := lk
    obtain ⟨n1, n2, n3, n4, n5, n6, n7, n8, n9, n10, n11, n12, n13, n14, n15⟩ := fd
    have h1 : (some (n1, n2, n3, n4, n5, n6, n7.map (·.1), n8, n15) : SupV) = propVal m q st := h1
    unfold propVal at h1
    simp only [Option.some.injEq, Prod.mk.injEq] at h1
    obtain ⟨a1, a2, a3, a4, a5, a6, a7, a8, a9⟩ := h1
    have a7 : n7 = [] := List.map_eq_nil_iff.mp a7
    subst a1 a2 a3 a4 a5 a6 a7 a8 a9
    obtain ⟨k1, k2⟩ := He.ba (show (PySem.W.codeIn K n13 n2 && (He.dflB K .none [] && He.kwdB K n9 [])) = true from g5)
    obtain ⟨k3, k4⟩ := He.ba k2
    exact ⟨_, P, ⟨oc, od, _, n9, n10, n11, n12, n13, n14, osl, rfl, lk, k1, He.dflB_ok k3, He.kwdB_ok k4⟩, g4⟩
end Z
set_option Elab.async false
set_option linter.all false
set_option maxRecDepth 100000
set_option maxHeartbeats 4000000
namespace Z
open PySem PySem.Spec PyProof.Rows L2
/-! ### comprehensions that give ints, over a list of ints and over a range -/
theorem lc_ofs {K : PySem.W.Frag} {J : It} {D : Addr} {n : Nat} {H0 : Hp} {i : Nat} {te : TE} {vs : List Nat} {σ : L2.St} {Qd : Hp → Prop} (g : Nat → Int) (xv : Nat → V) (hn : n ≤ 1000000) (nD : H0 D = none)
    (hgo : ∀ k H1, k < n → Same H0 H1 → J.go k H1) (hst : ∀ H1, Same H0 H1 → J.stop n H1) (hy : ∀ k H1 x H2, k < n → Same H0 H1 → J.yld k H1 x H2 → H2 = H1 ∧ x = xv k)
    (hw : ∀ k, wipe ((wipe σ vs).set i (some (xv k))) vs = wipe σ vs)
    (ht : ∀ k H1 (Q : VK), k < n → Same H0 H1 → (∀ H2, Same H1 H2 → Q (.int (g k)) H2) → te ((wipe σ vs).set i (some (xv k))) H1 Q)
    (hd : ∀ H1, Same H0 H1 → H1 D = some (.lst (((List.range n).map g).map V.int)) → Qd H1) : lcW J (gName i) tYes te vs σ D Qd H0 := by
  refine lc_gen (n := n) (fun k H1 => Same H0 H1 ∧ H1 D = some (.lst (((List.range k).map g).map V.int))) ⟨same_new nD, upd_same⟩ (fun k H1 hk p => hgo k H1 hk p.1) (fun H1 p => hst H1 p.1) ?_ (fun H1 p => hd H1 p.1 p.2)
  rintro k H1 x H2 hk ⟨s, e⟩ y
  obtain ⟨rfl, rfl⟩ := hy k H1 x H2 hk s y
  refine ⟨hw k, ?_⟩
  refine ht k _ _ hk s (fun H3 s3 => ⟨_, s3 _ _ e, ?_, Z.Same.mut (s.trans s3) nD, ?_⟩)
  · rw [List.length_map, List.length_map, List.length_range]
    exact Nat.lt_of_lt_of_le hk (Nat.le_trans hn (by decide))
  · rw [upd_same, List.range_succ, List.map_append, List.map_append]
    rfl
theorem lc_rng {K : PySem.W.Frag} {lo : Int} {D : Addr} {n : Nat} {H0 : Hp} {i : Nat} {te : TE} {vs : List Nat} {σ : L2.St} {Qd : Hp → Prop} (g : Nat → Int) (hn : n ≤ 1000000) (nD : H0 D = none) (hw : ∀ k : Nat, wipe ((wipe σ vs).set i (some (.int (lo + k)))) vs = wipe σ vs)
    (ht : ∀ (k : Nat) H1 (Q : VK), k < n → Same H0 H1 → (∀ H2, Same H1 H2 → Q (.int (g k)) H2) → te ((wipe σ vs).set i (some (.int (lo + k)))) H1 Q)
    (hd : ∀ H1, Same H0 H1 → H1 D = some (.lst (((List.range n).map g).map V.int)) → Qd H1) : lcW (Itr lo n) (gName i) tYes te vs σ D Qd H0 :=
  lc_ofs (K := K) g (fun k => .int (lo + k)) hn nD (fun k H1 hk _ => hk) (fun H1 _ => Nat.le_refl _) (fun k H1 x H2 _ _ y => y) hw ht hd
theorem lc_lst {K : PySem.W.Frag} {a D : Addr} {xs : List Int} {H0 : Hp} {i : Nat} {te : TE} {vs : List Nat} {σ : L2.St} {Qd : Hp → Prop} (hS : SqL K H0 a (xs.map V.int)) (g : Int → Int) (hn : xs.length ≤ 1000000) (nD : H0 D = none) (hw : ∀ x : Int, wipe ((wipe σ vs).set i (some (.int x))) vs = wipe σ vs)
    (ht : ∀ x H1 (Q : VK), x ∈ xs → Same H0 H1 → (∀ H2, Same H1 H2 → Q (.int (g x)) H2) → te ((wipe σ vs).set i (some (.int x))) H1 Q)
    (hd : ∀ H1, Same H0 H1 → H1 D = some (.lst ((xs.map g).map V.int)) → Qd H1) : lcW (Itl K a) (gName i) tYes te vs σ D Qd H0 := by
  have ex : ∀ k, k < xs.length → (xs.map V.int)[k]? = some (.int (xs.getD k 0)) := fun k hk => by
    rw [List.getElem?_map, List.getD_eq_getElem?_getD, List.getElem?_eq_getElem hk]
    rfl
  refine lc_ofs (K := K) (n := xs.length) (fun k => g (xs.getD k 0)) (fun k => .int (xs.getD k 0)) hn nD (fun k H1 hk s => ⟨_, _, s.seq hS, ex k hk⟩) (fun H1 s => ⟨_, s.seq hS, by rw [List.length_map]; exact Nat.le_refl _⟩) (fun k H1 x H2 hk s y => ⟨y.1, Option.some.inj ((y.2 _ (s.seq hS)).symm.trans (ex k hk))⟩) (fun k => hw _) (fun k H1 Q hk s q => ht _ H1 Q ?_ s q) (fun H1 s e => hd H1 s ?_)
  · rw [List.getD_eq_getElem?_getD, List.getElem?_eq_getElem hk]
    exact List.getElem_mem hk
  · rw [e]
    congr 2
    congr 1
    apply List.ext_getElem
    · rw [List.length_map, List.length_map, List.length_range]
    · intro k h1 h2
      rw [List.length_map] at h2
      rw [List.getElem_map, List.getElem_map, List.getElem_range, List.getD_eq_getElem?_getD, List.getElem?_eq_getElem h2]
      rfl
/-- for x in xs, ints -/
theorem for_lst {K : PySem.W.Frag} {a : Addr} {xs : List Int} {H0 H : Hp} {i : Nat} {tb : TS} {D : Ends} {σ : L2.St} (hS : SqL K H0 a (xs.map V.int)) (Pv : Nat → L2.St → Hp → Prop) (h0 : Pv 0 σ H) (hq : ∀ k σ H1, Pv k σ H1 → Same H0 H1)
    (hs : ∀ (k : Nat) (x : Int) (σ : L2.St) (H1 : Hp), xs[k]? = some x → Pv k σ H1 → tb { D with nx := Pv (k + 1), ct := Pv (k + 1), bk := D.nx } (σ.set i (some (.int x))) H1)
    (hd : ∀ σ H1, Pv xs.length σ H1 → D.nx σ H1) : forW (Itl K a) (gName i) tb D σ H := by
  have ex : ∀ k, k < xs.length → (xs.map V.int)[k]? = some (.int (xs.getD k 0)) := fun k hk => by
    rw [List.getElem?_map, List.getD_eq_getElem?_getD, List.getElem?_eq_getElem hk]
    rfl
  refine for_gen (n := xs.length) Pv h0 (fun k σ H1 hk p => ⟨_, _, (hq k σ H1 p).seq hS, ex k hk⟩) (fun σ H1 p => ⟨_, (hq _ σ H1 p).seq hS, by rw [List.length_map]; exact Nat.le_refl _⟩) ?_ hd
  intro k σ H1 x H2 hk p y
  obtain ⟨rfl, e⟩ := y
  have e2 := Option.some.inj ((e _ ((hq k σ _ p).seq hS)).symm.trans (ex k hk))
  subst e2
  refine hs k _ σ _ ?_ p
  rw [List.getD_eq_getElem?_getD, List.getElem?_eq_getElem hk]
  rfl
/-- for x in xs, any values -/
theorem for_vs {K : PySem.W.Frag} {a : Addr} {xs : List V} {H0 H : Hp} {i : Nat} {tb : TS} {D : Ends} {σ : L2.St} (hS : SqL K H0 a xs) (Pv : Nat → L2.St → Hp → Prop) (h0 : Pv 0 σ H) (hq : ∀ k σ H1, Pv k σ H1 → Same H0 H1)
    (hs : ∀ (k : Nat) (x : V) (σ : L2.St) (H1 : Hp), xs[k]? = some x → Pv k σ H1 → tb { D with nx := Pv (k + 1), ct := Pv (k + 1), bk := D.nx } (σ.set i (some x)) H1)
    (hd : ∀ σ H1, Pv xs.length σ H1 → D.nx σ H1) : forW (Itl K a) (gName i) tb D σ H := by
  refine for_gen (n := xs.length) Pv h0 (fun k σ H1 hk p => ⟨_, _, (hq k σ H1 p).seq hS, List.getElem?_eq_getElem hk⟩) (fun σ H1 p => ⟨_, (hq _ σ H1 p).seq hS, Nat.le_refl _⟩) ?_ hd
  intro k σ H1 x H2 hk p y
  obtain ⟨rfl, e⟩ := y
  exact hs k x σ _ (e _ ((hq k σ _ p).seq hS)) p
theorem pe_fld_K {X : Cx} {K : PySem.W.Frag} {e : Expr} {f : Str} {pos : Pos} {ta : TE} (h : X.K = K) (he : PE X e ta) (hb : attributeBase e f X.env (eval e X.env) = eval e X.env) : PE X (.Attribute e f pos) (tFld K ta f) := by
  subst h
  exact pe_fld he hb
/-! ### reads -/
theorem at_nat {xs : List Int} {i : Int} (h0 : 0 ≤ i) (h1 : i < xs.length) : atI (xs.map V.int) i = some (.int (xs.getD i.toNat 0)) := by
  have hk : i.toNat < xs.length := by omega
  rw [show i = ((i.toNat : Nat) : Int) by omega, List.getD_eq_getElem?_getD, Int.toNat_natCast, List.getElem?_eq_getElem hk]
  exact at_map (List.getElem?_eq_getElem hk)
theorem rd_at {K : PySem.W.Frag} {H : Hp} {a : Addr} {xs : List Int} {i : Int} {R : V → Prop} (h : SqL K H a (xs.map V.int)) (h0 : 0 ≤ i) (h1 : i < xs.length) (q : R (.int (xs.getD i.toNat 0))) : ∃ a' ys j v, V.ref a = .ref a' ∧ V.int i = .int j ∧ SqL K H a' ys ∧ atI ys j = some v ∧ R v := ⟨a, _, i, _, rfl, rfl, h, at_nat h0 h1, q⟩
theorem rd_atT {K : PySem.W.Frag} {H : Hp} {a : Addr} {xs : List Int} {i : Int} {R : V → Prop} (h : SqT K H a (xs.map V.int)) (h0 : 0 ≤ i) (h1 : i < xs.length) (q : R (.int (xs.getD i.toNat 0))) : ∃ a' ys j v, V.ref a = .ref a' ∧ V.int i = .int j ∧ SqT K H a' ys ∧ atI ys j = some v ∧ R v := ⟨a, _, i, _, rfl, rfl, h, at_nat h0 h1, q⟩
end Z
set_option Elab.async false
set_option linter.all false
set_option maxRecDepth 100000
set_option maxHeartbeats 4000000
namespace Z
open PySem PySem.Spec PyProof.Rows L2
/-! ### enumerate(x) of one argument: x a list, a tuple or a text -/
theorem enum_new1 {v : Value} {o : Obj} {G : Heap → Prop} (B : Begins v o G) :
    Meets (Builtin.«enumerate.__new__» ⟨[.type "enumerate", v], []⟩) (fun _ R s => G s.heap ∧
      R (.ok (.ret (.ref (s.heap.push o).objs.size))) { s with heap := (s.heap.push o).push { cls := .type "enumerate", data := .fields #[.none, .bool false, .ref s.heap.objs.size, rawInt 0, .none, .none] } }) :=
  .of_wp fun prog w A R s h => by
    obtain ⟨hp, gl, dd, tok, oo⟩ := s
    obtain ⟨g1, h⟩ := h
    have hsub := sub_enumerate
    have step : ∀ {A' : Around} {E : Value → Shared → Prop} {Q : Value → Shared → Prop}, Q (.ref hp.objs.size) ⟨hp.push o, gl, dd, tok, oo⟩ → wpAny (model prog w) A' (pyIter v) Q E ⟨hp, gl, dd, tok, oo⟩ := fun z => B.iter prog w _ _ ⟨hp, gl, dd, tok, oo⟩ _ g1 z
    wp_walk using step
    refine wpAny_stack_any fun _ => wpAny_pure ?_
    split
    · rename_i cc _ _ _ _ _
      cases (cc == Value.type "enumerate") <;>
        (wp_walk using step
         exact ⟨_, rfl, h⟩)
    · wp_walk using step
      exact ⟨_, rfl, h⟩
section
variable {prog : Program} {w : World} {A : Around} {E : Value → Shared → Prop} {s : Shared}
theorem enum_begins1 {v : Value} {o : Obj} {G : Heap → Prop} {Q : Value → Shared → Prop} (B : Begins v o G) (g : G s.heap)
    (h : ∀ h', IsEnum h' (s.heap.objs.size + 1) s.heap.objs.size 0 .none → h'.get? s.heap.objs.size = some o → (∀ b ob, s.heap.get? b = some ob → h'.get? b = some ob) → Q (.ref (s.heap.objs.size + 1)) { s with heap := h' }) :
    wpAny (model prog w) A (call (.type "enumerate") [v]) Q E s := by
  refine callType_new F.called_enumerate (by decide) (F.typeCall_enumerate_1 v) (F.newCall_enumerate_1 v) (fun ob => F.args_object_init_2 ob _) F.entry_enumerate_new (enum_new1 B) ⟨g, ?_⟩
  have sz : (s.heap.push o).objs.size = s.heap.objs.size + 1 := Heap.size_push ..
  show _ ∧ _
  rw [sz]
  have ie : IsEnum ((s.heap.push o).push { cls := .type "enumerate", data := .fields #[.none, .bool false, .ref s.heap.objs.size, rawInt 0, .none, .none] }) (s.heap.objs.size + 1) s.heap.objs.size 0 .none := by
    have z := Heap.get?_push_size (s.heap.push o) (o := { cls := .type "enumerate", data := .fields #[.none, .bool false, .ref s.heap.objs.size, rawInt 0, .none, .none] }) rfl
    rw [sz] at z
    exact z
  exact ⟨⟨_, ie, rfl⟩, h _ ie (Heap.get?_push_of_some _ (Heap.get?_push_size _ B.free)) fun b ob z => Heap.get?_push_of_some _ (Heap.get?_push_of_some _ z)⟩
end
/-- pairs of a turn's number and its item -/
def ItEM (p : Bool) (K : PySem.W.Frag) (a : Addr) : It :=
  ⟨fun i H => ∃ (xs : List V) (x : V), SqK p K H a xs ∧ xs[i]? = some x,
   fun i H v H' => ∃ T x, v = .ref T ∧ H T = none ∧ H' = upd H T (.tup [.int (i : Nat), x]) ∧ (∀ xs, SqK p K H a xs → xs[i]? = some x),
   fun i H => ∃ xs : List V, SqK p K H a xs ∧ xs.length = i⟩
def ItES (z : Str) : It :=
  ⟨fun i _ => i < z.cps.size,
   fun i H v H' => ∃ T c, v = .ref T ∧ H T = none ∧ H' = upd H T (.tup [.int (i : Nat), .str ⟨#[c]⟩]) ∧ z.cps[i]? = some c,
   fun i _ => z.cps.size = i⟩
theorem enum_item {X : Cx} {pins : List (Addr × Obj)} {σ : L2.St} {H : Hp} {s : Shared} {e it : Addr} {fp : List Addr} {n i : Nat} {Pi : Nat → Value → Prop} {Si : Nat → Heap → Prop} {old : Value} {elts : List Expr} {kk : Nat} {tpos : Pos} {E : Value → Shared → Prop}
    (I : Inv X pins σ H s) (hf : ∀ b ∈ [e, it], FpOk X pins H b) (D : Draws X.prog X.w X.A.in1 it fp n Pi Si) (he : IsEnum s.heap e it ((i : Nat) : Int) old) (st : Si i s.heap) (lt : i < n) (ne : e ≠ it) (ef : e ∉ fp)
    (x : V) (ru : ∀ v, Pi i v → L2.RelV x v) :
    wpAny (model X.prog X.w) X.A (pyNext (.ref e)) (fun r s1 => ∃ u, r = some u ∧ wpAny (model X.prog X.w) X.A (letOwnedTupleGo (.Tuple elts kk tpos) (.ref e) u) (fun _ s2 => ∃ T, u = .ref T ∧ H T = none ∧ Inv X pins σ (upd H T (.tup [.int (i : Nat), x])) s2 ∧ (∃ o, IsEnum s2.heap e it ((i + 1 : Nat) : Int) o) ∧ Si (i + 1) s2.heap ∧ ∀ b ∈ [e, it], upd H T (.tup [.int (i : Nat), x]) b = none) E s1) E s := by
  have el : e < s.heap.objs.size := Heap.lt_size he
  have il : it < s.heap.objs.size := by
    obtain ⟨_, z⟩ := D.live _ _ st
    exact Heap.lt_size z
  refine wpAny_pyNext_enum_itemC D he st lt ne ef fun v g tk pv go st' gT gs gk => ?_
  refine ⟨_, rfl, wpAny_letOwnedTupleGo_enum (s := { s with heap := g, toks := tk + 1 }) go fun g2 ge sb => ?_⟩
  have gT2 : g2.get? s.heap.objs.size = some { cls := .type "tuple", data := .seq #[.int i tk, v] } := (sb.2 _ (Nat.ne_of_gt el)).trans gT
  have nw : ObjOk X.prog X.w (upd H s.heap.objs.size (.tup [.int (i : Nat), x])) g2 s.heap.objs.size (.tup [.int (i : Nat), x]) := ⟨by show 2 ≤ sizeLine; decide, [.int i tk, v], .cons ⟨tk, rfl⟩ (.cons (ru v pv) .nil), ⟨_, gT2, rfl, _, rfl⟩⟩
  have I1 : Inv X pins σ (upd H s.heap.objs.size (.tup [.int (i : Nat), x])) { s with heap := g2, toks := tk + 1 } :=
    I.turnedNew (t' := tk + 1) (ch := [e, it]) (fun b ob nb z => (sb.2 b (fun w => nb (by simp [w]))).trans (gk b ob (fun w => nb (by simp [w])) (fun w => nb (by simp [w])) z)) hf (Nat.le_refl _) nw
  refine ⟨_, rfl, I.hok.fresh (Nat.le_refl _), I1, ⟨v, ?_⟩, D.frame _ _ _ st' fun b hb o z => (sb.2 b fun w => ef (w ▸ hb)).trans z, fun b hb => ?_⟩
  · rw [show ((i + 1 : Nat) : Int) = (i : Int) + 1 by omega]
    exact ge
  · have lb : b < s.heap.objs.size := by
      rcases (show b = e ∨ b = it by simpa using hb) with z | z
      · rw [z]
        exact el
      · rw [z]
        exact il
    rw [upd_ne (Nat.ne_of_lt lb)]
    exact (hf b hb).1
theorem enum_done {X : Cx} {pins : List (Addr × Obj)} {σ : L2.St} {H : Hp} {s : Shared} {e it : Addr} {fp : List Addr} {n : Nat} {Pi : Nat → Value → Prop} {Si : Nat → Heap → Prop} {old : Value} {c : Int} {E : Value → Shared → Prop}
    (I : Inv X pins σ H s) (hf : ∀ b ∈ [e, it], FpOk X pins H b) (D : Draws X.prog X.w X.A.in1 it fp n Pi Si) (he : IsEnum s.heap e it c old) (st : Si n s.heap) :
    wpAny (model X.prog X.w) X.A (pyNext (.ref e)) (fun r s1 => r = none ∧ Inv X pins σ H s1) E s := by
  obtain ⟨f0, f1, f2, f3, f4, f5⟩ := hf it (by simp)
  exact wpAny_pyNext_enum_endD D he st fun g gk => ⟨rfl, I.turned (t' := s.toks) (fun b o hb z => gk b o hb z) f0 f1 f3 f4 f5⟩
theorem turn_enumM {p : Bool} {P : Program} {w : World} {K : PySem.W.Frag} {elts : List Expr} {kk : Nat} {tpos : Pos} (a e it : Addr) (ea : e ≠ a) (ia : a ≠ it) :
    Turn P w K (.Tuple elts kk tpos) (ItEM p K a) [e, it] e (fun i h => (∃ old, IsEnum h e it ((i : Nat) : Int) old) ∧ ItK p h it a i ∧ e ≠ it) where
  mem := by simp
  obj := fun i h st b hb => by
    obtain ⟨⟨old, he⟩, hi, _⟩ := st
    rcases (show b = e ∨ b = it by simpa using hb) with z | z
    · rw [z]
      exact ⟨_, he, fun v q => nomatch q⟩
    · rw [z]
      exact hi.obj
  keep := fun i h h' st k => by
    obtain ⟨⟨old, he⟩, hi, ne⟩ := st
    exact ⟨⟨old, k e (by simp) _ he⟩, hi.at' (fun o z => k it (by simp) o z), ne⟩
  item := by
    intro X hP hw hK hc i pins s σ H E I hf st hg
    subst hP hw hK
    obtain ⟨⟨old, he⟩, hi, ne⟩ := st
    obtain ⟨xs, x, qx, ex⟩ := hg
    obtain ⟨us, rx, kx, _⟩ := sqk_is I qx
    obtain ⟨u, eu, ru⟩ := rx.get ex
    have lu : i < us.toArray.size := by simpa using (List.getElem?_eq_some_iff.mp eu).1
    have hh : X.A.in1.handled = none := I.ok.hd hc
    have key : ∀ v, us.toArray[i]? = some v → L2.RelV x v := fun v pv => by
      have t1 : us.toArray[i]? = some u := by simpa using eu
      have t2 : u = v := Option.some.inj (t1.symm.trans pv)
      exact t2 ▸ ru
    refine thn (enum_item (elts := elts) (kk := kk) (tpos := tpos) (E := E) I hf (drawsK p hh it a ia us.toArray) he ⟨hi, kx⟩ lu ne (by simp [ne, ea]) x key) fun r s1 hr => ?_
    obtain ⟨v, er, hv⟩ := hr
    refine ⟨v, er, thn hv fun _ s2 z => ?_⟩
    obtain ⟨T, eT, nT, I2, ie, si, fr⟩ := z
    subst eT
    exact ⟨.ref T, _, I2, rfl, ⟨T, x, rfl, nT, rfl, fun l hl => by rw [sqk_inj I hl qx]; exact ex⟩, ⟨ie, si.1, ne⟩, fr⟩
  done := by
    intro X hP hw hK hc i pins s σ H E I hf st hg
    subst hP hw hK
    obtain ⟨⟨old, he⟩, hi, ne⟩ := st
    obtain ⟨xs, qx, el⟩ := hg
    obtain ⟨us, rx, kx, _⟩ := sqk_is I qx
    have lx := rx.length
    have hh : X.A.in1.handled = none := I.ok.hd hc
    have hn : us.toArray.size = i := by
      rw [List.size_toArray]
      omega
    exact enum_done I hf (drawsK p hh it a ia us.toArray) he (by rw [hn]; exact ⟨hi, kx⟩)
  self := fun A i s Q E st h => by
    obtain ⟨⟨_, he⟩, _⟩ := st
    exact wpAny_pyIter_enum he h
def iEnumM (K : PySem.W.Frag) (ta : TA) : TI := fun σ H R => ta σ H fun vs H1 => ∃ p a xs, vs = [.ref a] ∧ SqK p K H1 a xs ∧ R (ItEM p K a) H1
theorem pi_enumM {X : Cx} {e : Expr} {ta : TA} {p pos tpos : Pos} {elts : List Expr} {kk : Nat} (hg : Gl X "enumerate") (hm : X.mg "enumerate" = none) (ha : PA X [e] ta) (hs : starEach [e] X.env = [(false, eval e X.env)] := by rfl) :
    PI X (.Tuple elts kk tpos) (.Call (.Name "enumerate" p) [e] [] pos) (iEnumM X.K ta) := by
  constructor
  intro pins s σ H R I h
  refine Call_ (ld_blt I hg hm PyProof.Rows.boot_enumerate (PyProof.Rows.callWith_type1 (thn (ha.run pos pins s σ H _ I h) fun us s1 ⟨vs, H1, I1, r1, q1⟩ => ?_) hs rfl))
  obtain ⟨k1, a, xs, ex, qx, q⟩ := q1
  subst ex
  cases r1 with
  | cons r rr =>
    cases rr
    cases r
    obtain ⟨i1, _, p1, lt1⟩ := sqk_is I1 qx
    obtain ⟨o1, G1, B1, g1, w1⟩ := begK p1
    refine enum_begins1 B1 g1 fun h' he e1 hk => wpAny_pyIter_enum he ?_
    have I2 : Inv X pins σ H1 { s1 with heap := h' } := I1.kept (t' := s1.toks) hk
    refine ⟨s1.heap.objs.size + 1, [s1.heap.objs.size + 1, s1.heap.objs.size], _, _, H1, rfl, I2, turn_enumM a (s1.heap.objs.size + 1) s1.heap.objs.size (Nat.ne_of_gt (Nat.lt_succ_of_lt lt1)) (Nat.ne_of_lt lt1), ⟨⟨.none, he⟩, w1 _ _ e1, Nat.succ_ne_self _⟩, fun b hb => ?_, q⟩
    have lb : s1.heap.objs.size ≤ b := by
      rcases (show b = s1.heap.objs.size + 1 ∨ b = s1.heap.objs.size by simpa using hb) with z | z
      · rw [z]
        exact Nat.le_add_right _ _
      · rw [z]
        exact Nat.le_refl _
    exact I1.fpOk lb (I1.hok.fresh lb)
/-! over a text -/
theorem drawsS {prog : Program} {w : World} {A : Around} (hh : A.handled = none) (it : Addr) (z : Str) (t : Tok) :
    Draws prog w A it [it] z.cps.size (fun i v => ∃ c u, z.cps[i]? = some c ∧ v = .str ⟨#[c]⟩ u) (fun i h => h.IsStrIter it (strIterType z) z t i) := by
  unfold strIterType
  cases z.cps.all (· < 128)
  · exact Draws.strWide hh it z t
  · exact Draws.strAscii hh it z t
theorem turn_enumS {P : Program} {w : World} {K : PySem.W.Frag} {elts : List Expr} {kk : Nat} {tpos : Pos} (z : Str) (t : Tok) (e it : Addr) :
    Turn P w K (.Tuple elts kk tpos) (ItES z) [e, it] e (fun i h => (∃ old, IsEnum h e it ((i : Nat) : Int) old) ∧ h.IsStrIter it (strIterType z) z t i ∧ e ≠ it) where
  mem := by simp
  obj := fun i h st b hb => by
    obtain ⟨⟨old, he⟩, ⟨o, eo, _, d⟩, _⟩ := st
    rcases (show b = e ∨ b = it by simpa using hb) with y | y
    · rw [y]
      exact ⟨_, he, fun v q => nomatch q⟩
    · rw [y]
      exact ⟨o, eo, fun v q => by rw [d] at q; cases q⟩
  keep := fun i h h' st k => by
    obtain ⟨⟨old, he⟩, ⟨o, eo, r⟩, ne⟩ := st
    exact ⟨⟨old, k e (by simp) _ he⟩, ⟨o, k it (by simp) o eo, r⟩, ne⟩
  item := by
    intro X hP hw hK hc i pins s σ H E I hf st hg
    subst hP hw hK
    obtain ⟨⟨old, he⟩, hi, ne⟩ := st
    have lt : i < z.cps.size := hg
    have hh : X.A.in1.handled = none := I.ok.hd hc
    have ec : z.cps[i]? = some z.cps[i] := Array.getElem?_eq_getElem lt
    refine thn (enum_item (elts := elts) (kk := kk) (tpos := tpos) (E := E) I hf (drawsS hh it z t) he hi lt ne (by simp [ne]) (.str ⟨#[z.cps[i]]⟩) (fun v pv => ?_)) fun r s1 hr => ?_
    · obtain ⟨c, u, e1, e2⟩ := pv
      rw [ec] at e1
      cases e1
      subst e2
      exact ⟨u, rfl⟩
    obtain ⟨v, er, hv⟩ := hr
    refine ⟨v, er, thn hv fun _ s2 y => ?_⟩
    obtain ⟨T, eT, nT, I2, ie, si, fr⟩ := y
    subst eT
    exact ⟨.ref T, _, I2, rfl, ⟨T, _, rfl, nT, rfl, ec⟩, ⟨ie, si, ne⟩, fr⟩
  done := by
    intro X hP hw hK hc i pins s σ H E I hf st hg
    subst hP hw hK
    obtain ⟨⟨old, he⟩, hi, ne⟩ := st
    have el : z.cps.size = i := hg
    have hh : X.A.in1.handled = none := I.ok.hd hc
    exact enum_done I hf (drawsS hh it z t) he (by rw [el]; exact hi)
  self := fun A i s Q E st h => by
    obtain ⟨⟨_, he⟩, _⟩ := st
    exact wpAny_pyIter_enum he h
def iEnumS (ta : TA) : TI := fun σ H R => ta σ H fun vs H1 => ∃ z, vs = [.str z] ∧ R (ItES z) H1
theorem pi_enumS {X : Cx} {e : Expr} {ta : TA} {p pos tpos : Pos} {elts : List Expr} {kk : Nat} (hg : Gl X "enumerate") (hm : X.mg "enumerate" = none) (ha : PA X [e] ta) (hs : starEach [e] X.env = [(false, eval e X.env)] := by rfl) :
    PI X (.Tuple elts kk tpos) (.Call (.Name "enumerate" p) [e] [] pos) (iEnumS ta) := by
  constructor
  intro pins s σ H R I h
  refine Call_ (ld_blt I hg hm PyProof.Rows.boot_enumerate (PyProof.Rows.callWith_type1 (thn (ha.run pos pins s σ H _ I h) fun us s1 ⟨vs, H1, I1, r1, q1⟩ => ?_) hs rfl))
  obtain ⟨z, ex, q⟩ := q1
  subst ex
  cases r1 with
  | cons r rr =>
    cases rr
    obtain ⟨t, rfl⟩ := r
    refine enum_begins1 (begins_text z t) trivial fun h' he e1 hk => wpAny_pyIter_enum he ?_
    have I2 : Inv X pins σ H1 { s1 with heap := h' } := I1.kept (t' := s1.toks) hk
    refine ⟨s1.heap.objs.size + 1, [s1.heap.objs.size + 1, s1.heap.objs.size], _, _, H1, rfl, I2, turn_enumS z t (s1.heap.objs.size + 1) s1.heap.objs.size, ⟨⟨.none, he⟩, ⟨_, e1, rfl, rfl⟩, Nat.succ_ne_self _⟩, fun b hb => ?_, q⟩
    have lb : s1.heap.objs.size ≤ b := by
      rcases (show b = s1.heap.objs.size + 1 ∨ b = s1.heap.objs.size by simpa using hb) with y | y
      · rw [y]
        exact Nat.le_add_right _ _
      · rw [y]
        exact Nat.le_refl _
    exact I1.fpOk lb (I1.hok.fresh lb)
end Z
set_option Elab.async false
set_option linter.all false
set_option maxRecDepth 100000
set_option maxHeartbeats 4000000
namespace Z
open PySem PySem.Spec PyProof.Rows L2
/-! ### walks over a list (true) or a tuple (false) -/
inductive SeqOr (A B : Prop) : Prop
  | l : A → SeqOr A B
  | r : B → SeqOr A B
def iSeq (K : PySem.W.Frag) (tl : TE) : TI := fun σ H R => SeqOr (iList K tl σ H R) (iTup K tl σ H R)
theorem pi_sq {X : Cx} {tg l : Expr} {tl : TE} (he : PE X l tl) : PI X tg l (iSeq X.K tl) := by
  constructor
  intro pins s σ H R I h
  rcases h with h | h
  · exact (pi_list he).run pins s σ H R I h
  · exact (pi_tup he).run pins s σ H R I h
theorem pi_sq_K {X : Cx} {K : PySem.W.Frag} {tg l : Expr} {tl : TE} (h : X.K = K) (he : PE X l tl) : PI X tg l (iSeq K tl) := by
  subst h
  exact pi_sq he
theorem pi_list_K {X : Cx} {K : PySem.W.Frag} {tg l : Expr} {tl : TE} (h : X.K = K) (he : PE X l tl) : PI X tg l (iList K tl) := by
  subst h
  exact pi_list he
theorem pi_tup_K {X : Cx} {K : PySem.W.Frag} {tg l : Expr} {tl : TE} (h : X.K = K) (he : PE X l tl) : PI X tg l (iTup K tl) := by
  subst h
  exact pi_tup he
def ItQ (b : Bool) (K : PySem.W.Frag) (a : Addr) : It := match b with
  | true => Itl K a
  | false => Itt K a
theorem itq_go {b : Bool} {K : PySem.W.Frag} {H : Hp} {a : Addr} {xs : List V} {i : Nat} {x : V} (h : SqK b K H a xs) (e : xs[i]? = some x) : (ItQ b K a).go i H := by
  cases b <;> exact ⟨_, _, h, e⟩
theorem itq_stop {b : Bool} {K : PySem.W.Frag} {H : Hp} {a : Addr} {xs : List V} {i : Nat} (h : SqK b K H a xs) (e : xs.length ≤ i) : (ItQ b K a).stop i H := by
  cases b <;> exact ⟨_, h, e⟩
theorem itq_yld {b : Bool} {K : PySem.W.Frag} {H H' : Hp} {a : Addr} {xs : List V} {i : Nat} {x : V} (h : SqK b K H a xs) (y : (ItQ b K a).yld i H x H') : H' = H ∧ xs[i]? = some x := by
  cases b <;> exact ⟨y.1, y.2 _ h⟩
theorem rd_sq {b : Bool} {K : PySem.W.Frag} {σ : L2.St} {H : Hp} {i : Nat} {a : Addr} {xs : List V} {R : It → Hp → Prop} (e : σ[i]? = some (some (.ref a))) (h : SqK b K H a xs) (r : R (ItQ b K a) H) : iSeq K (tVar i) σ H R := by
  cases b
  · exact .r ⟨_, e, a, rfl, ⟨xs, h⟩, r⟩
  · exact .l ⟨_, e, a, rfl, ⟨xs, h⟩, r⟩
theorem lc_sq {b : Bool} {K : PySem.W.Frag} {a D : Addr} {xs : List Int} {H0 : Hp} {i : Nat} {te : TE} {vs : List Nat} {σ : L2.St} {Qd : Hp → Prop} (hS : SqK b K H0 a (xs.map V.int)) (g : Int → Int) (hn : xs.length ≤ 1000000) (nD : H0 D = none) (hw : ∀ x : Int, wipe ((wipe σ vs).set i (some (.int x))) vs = wipe σ vs)
    (ht : ∀ x H1 (Q : VK), x ∈ xs → Same H0 H1 → (∀ H2, Same H1 H2 → Q (.int (g x)) H2) → te ((wipe σ vs).set i (some (.int x))) H1 Q)
    (hd : ∀ H1, Same H0 H1 → H1 D = some (.lst ((xs.map g).map V.int)) → Qd H1) : lcW (ItQ b K a) (gName i) tYes te vs σ D Qd H0 := by
  have ex : ∀ k, k < xs.length → (xs.map V.int)[k]? = some (.int (xs.getD k 0)) := fun k hk => by
    rw [List.getElem?_map, List.getD_eq_getElem?_getD, List.getElem?_eq_getElem hk]
    rfl
  refine lc_ofs (K := K) (n := xs.length) (fun k => g (xs.getD k 0)) (fun k => .int (xs.getD k 0)) hn nD (fun k H1 hk s => itq_go (Z.Same.sqK s hS) (ex k hk)) (fun H1 s => itq_stop (Z.Same.sqK s hS) (by rw [List.length_map]; exact Nat.le_refl _)) (fun k H1 x H2 hk s y => ?_) (fun k => hw _) (fun k H1 Q hk s q => ht _ H1 Q ?_ s q) (fun H1 s e => hd H1 s ?_)
  · obtain ⟨e1, e2⟩ := itq_yld (Z.Same.sqK s hS) y
    exact ⟨e1, Option.some.inj (e2.symm.trans (ex k hk))⟩
  · rw [List.getD_eq_getElem?_getD, List.getElem?_eq_getElem hk]
    exact List.getElem_mem hk
  · rw [e]
    congr 2
    congr 1
    apply List.ext_getElem
    · rw [List.length_map, List.length_map, List.length_range]
    · intro k h1 h2
      rw [List.length_map] at h2
      rw [List.getElem_map, List.getElem_map, List.getElem_range, List.getD_eq_getElem?_getD, List.getElem?_eq_getElem h2]
      rfl
/-- for x in xs, any values -/
theorem for_sq {b : Bool} {K : PySem.W.Frag} {a : Addr} {xs : List V} {H0 H : Hp} {i : Nat} {tb : TS} {D : Ends} {σ : L2.St} (hS : SqK b K H0 a xs) (Pv : Nat → L2.St → Hp → Prop) (h0 : Pv 0 σ H) (hq : ∀ k σ H1, Pv k σ H1 → Same H0 H1)
    (hs : ∀ (k : Nat) (x : V) (σ : L2.St) (H1 : Hp), xs[k]? = some x → Pv k σ H1 → tb { D with nx := Pv (k + 1), ct := Pv (k + 1), bk := D.nx } (σ.set i (some x)) H1)
    (hd : ∀ σ H1, Pv xs.length σ H1 → D.nx σ H1) : forW (ItQ b K a) (gName i) tb D σ H := by
  refine for_gen (n := xs.length) Pv h0 (fun k σ H1 hk p => itq_go (Z.Same.sqK (hq k σ H1 p) hS) (List.getElem?_eq_getElem hk)) (fun σ H1 p => itq_stop (Z.Same.sqK (hq _ σ H1 p) hS) (Nat.le_refl _)) ?_ hd
  intro k σ H1 x H2 hk p y
  obtain ⟨rfl, e⟩ := itq_yld (Z.Same.sqK (hq k σ H1 p) hS) y
  exact hs k x σ _ e p
/-- for i, x in enumerate(xs) -/
theorem for_enum {b : Bool} {K : PySem.W.Frag} {a : Addr} {xs : List V} {H0 H : Hp} {i j : Nat} {tb : TS} {D : Ends} {σ : L2.St} (hS : SqK b K H0 a xs) (Pv : Nat → L2.St → Hp → Prop) (h0 : Pv 0 σ H) (hq : ∀ k σ H1, Pv k σ H1 → Same H0 H1)
    (hs : ∀ (k : Nat) (x : V) (σ : L2.St) (H1 H2 : Hp), xs[k]? = some x → Pv k σ H1 → Same H1 H2 → tb { D with nx := Pv (k + 1), ct := Pv (k + 1), bk := D.nx } ((σ.set i (some (.int (k : Nat)))).set j (some x)) H2)
    (hd : ∀ σ H1, Pv xs.length σ H1 → D.nx σ H1) : forW (ItEM b K a) (gTup K 2 (gCons (gName i) (gCons (gName j) gNil))) tb D σ H := by
  refine for_gen (n := xs.length) Pv h0 (fun k σ H1 hk p => ⟨xs, _, Z.Same.sqK (hq k σ H1 p) hS, List.getElem?_eq_getElem hk⟩) (fun σ H1 p => ⟨xs, Z.Same.sqK (hq _ σ H1 p) hS, rfl⟩) ?_ hd
  intro k σ H1 x H2 hk p y
  obtain ⟨T, z, rfl, nT, rfl, e⟩ := y
  exact ⟨T, _, rfl, SqT.of upd_same, rfl, _, _, rfl, _, _, rfl, rfl, hs k z σ H1 _ (e _ (Z.Same.sqK (hq k σ H1 p) hS)) p (same_new nT)⟩
/-- for i, c in enumerate(text) -/
theorem for_enumS {K : PySem.W.Frag} {z : Str} {H : Hp} {i j : Nat} {tb : TS} {D : Ends} {σ : L2.St} (Pv : Nat → L2.St → Hp → Prop) (h0 : Pv 0 σ H)
    (hs : ∀ (k : Nat) (c : Nat) (σ : L2.St) (H1 H2 : Hp), z.cps[k]? = some c → Pv k σ H1 → Same H1 H2 → tb { D with nx := Pv (k + 1), ct := Pv (k + 1), bk := D.nx } ((σ.set i (some (.int (k : Nat)))).set j (some (.str ⟨#[c]⟩))) H2)
    (hd : ∀ σ H1, Pv z.cps.size σ H1 → D.nx σ H1) : forW (ItES z) (gTup K 2 (gCons (gName i) (gCons (gName j) gNil))) tb D σ H := by
  refine for_gen (n := z.cps.size) Pv h0 (fun k σ H1 hk p => hk) (fun σ H1 p => rfl) ?_ hd
  intro k σ H1 x H2 hk p y
  obtain ⟨T, c, rfl, nT, rfl, e⟩ := y
  exact ⟨T, _, rfl, SqT.of upd_same, rfl, _, _, rfl, _, _, rfl, rfl, hs k c σ H1 _ e p (same_new nT)⟩
/-! ### built-ins within a comprehension's block -/
theorem cr_min_K {X : Cx} {K : PySem.W.Frag} (h : X.K = K) (hc : X.calm = true) : CallR X (.builtin "min") (rMin K) := by
  subst h
  exact cr_min hc
theorem cr_max_K {X : Cx} {K : PySem.W.Frag} (h : X.K = K) (hc : X.calm = true) : CallR X (.builtin "max") (rMax K) := by
  subst h
  exact cr_max hc
theorem cr_sum_K {X : Cx} {K : PySem.W.Frag} (h : X.K = K) (hc : X.calm = true) : CallR X (.builtin "sum") (rSum K) := by
  subst h
  exact cr_sum hc
theorem cr_all_K {X : Cx} {K : PySem.W.Frag} (h : X.K = K) (hc : X.calm = true) : CallR X (.builtin "all") (rAll K) := by
  subst h
  exact cr_all hc
theorem cr_any_K {X : Cx} {K : PySem.W.Frag} (h : X.K = K) (hc : X.calm = true) : CallR X (.builtin "any") (rAny K) := by
  subst h
  exact cr_any hc
/-! ### comprehensions with a test, any values -/
def fltL (kb : Nat → Bool) (g : Nat → V) (n : Nat) : List V := ((List.range n).filter kb).map g
theorem flt_succ (kb : Nat → Bool) (g : Nat → V) (n : Nat) : fltL kb g (n + 1) = fltL kb g n ++ (if kb n then [g n] else []) := by
  unfold fltL
  rw [List.range_succ, List.filter_append, List.map_append]
  cases e : kb n <;> simp [e]
theorem flt_len (kb : Nat → Bool) (g : Nat → V) (n : Nat) : (fltL kb g n).length ≤ n := by
  unfold fltL
  rw [List.length_map]
  exact Nat.le_trans (List.length_filter_le ..) (by rw [List.length_range]; exact Nat.le_refl _)
theorem lc_flt {J : It} {D : Addr} {n : Nat} {H0 : Hp} {i : Nat} {tt : TT} {te : TE} {vs : List Nat} {σ : L2.St} {Qd : Hp → Prop} (xv : Nat → V) (kb : Nat → Bool) (g : Nat → V) (hn : n ≤ 1000000) (nD : H0 D = none)
    (hgo : ∀ k H1, k < n → Same H0 H1 → J.go k H1) (hst : ∀ H1, Same H0 H1 → J.stop n H1) (hy : ∀ k H1 x H2, k < n → Same H0 H1 → J.yld k H1 x H2 → Same H1 H2 ∧ x = xv k)
    (hw : ∀ k, wipe ((wipe σ vs).set i (some (xv k))) vs = wipe σ vs)
    (hb : ∀ k H1 (Q : Bool → Hp → Prop), k < n → Same H0 H1 → (∀ H2, Same H1 H2 → Q (kb k) H2) → tt ((wipe σ vs).set i (some (xv k))) H1 Q)
    (ht : ∀ k H1 (Q : VK), k < n → kb k = true → Same H0 H1 → (∀ H2, Same H1 H2 → Q (g k) H2) → te ((wipe σ vs).set i (some (xv k))) H1 Q)
    (hd : ∀ H1, Same H0 H1 → H1 D = some (.lst (fltL kb g n)) → Qd H1) : lcW J (gName i) tt te vs σ D Qd H0 := by
  refine lc_gen (n := n) (fun k H1 => Same H0 H1 ∧ H1 D = some (.lst (fltL kb g k))) ⟨same_new nD, upd_same⟩ (fun k H1 hk p => hgo k H1 hk p.1) (fun H1 p => hst H1 p.1) ?_ (fun H1 p => hd H1 p.1 p.2)
  rintro k H1 x H2 hk ⟨s, e⟩ y
  obtain ⟨s2, rfl⟩ := hy k H1 x H2 hk s y
  refine ⟨hw k, ?_⟩
  refine hb k _ _ hk (s.trans s2) (fun H3 s3 => ?_)
  cases eb : kb k
  · rw [if_neg (by decide)]
    refine ⟨s.trans (s2.trans s3), ?_⟩
    rw [flt_succ, eb]
    simpa using s3 _ _ (s2 _ _ e)
  · rw [if_pos rfl]
    refine ht k _ _ hk eb (s.trans (s2.trans s3)) (fun H4 s4 => ⟨_, s4 _ _ (s3 _ _ (s2 _ _ e)), ?_, Z.Same.mut (s.trans (s2.trans (s3.trans s4))) nD, ?_⟩)
    · exact Nat.lt_of_le_of_lt (flt_len kb g k) (Nat.lt_of_lt_of_le hk (Nat.le_trans hn (by decide)))
    · rw [upd_same, flt_succ, eb]
      rfl
end Z
set_option Elab.async false
set_option linter.all false
set_option maxRecDepth 100000
set_option maxHeartbeats 4000000
namespace Z
open PySem PySem.Spec PyProof.Rows L2
/-! ### o.f as one of several targets -/
theorem asg_attr {M : Model} {A : Around} {E : Value → Shared → Prop} {s : Shared} {o : Expr} {attr : Str} {pos : Pos} {env : Env} {v : Value} {Q : Unit → Shared → Prop}
    (h : wpAny M A (eval o env) (fun ov s2 => wpAny M A (setAttr ov attr v) (fun _ => Q ()) E s2) E s) : wpAny M A (assign (.Attribute o attr pos) env v) Q E s := fun Γ p hΓ => by
  simp only [assign_Attribute, Sem.wp_bind', Sem.wp_holding, Sem.wp_cmd_standAt, Sem.wp_release, Sem.wp_pure']
  exact Sem.wp_mono M Γ _ (fun ov _ s2 h2 => h2 Γ _ hΓ) (fun _ _ _ z => z) _ _ (h Γ _ hΓ)
def gFld (K : PySem.W.Frag) (ta : TE) (f : Str) : TG := fun v σ H Q => ta σ H fun x H1 => ∃ a C dx fs, x = .ref a ∧ H1 a = some (.ins C dx fs) ∧ Cls K C ∧ NoAttr K C f ∧ fs.length < 1000 ∧ Q σ (upd H1 a (.ins C dx (putF f v fs)))
theorem pg_fld {X : Cx} {o : Expr} {f : Str} {pos : Pos} {ta : TE} (ha : PE X o ta) : PG X (.Attribute o f pos) (gFld X.K ta f) := by
  constructor
  intro pins s σ H v u Q I r h
  refine asg_attr (thn (ha.run pins s σ H _ I h) fun ov s1 ⟨x, H1, I1, rx, a, C, dx, fs, ex, ea, c, n, l, q⟩ => ?_)
  subst ex
  obtain rfl : ov = Value.ref a := rx
  exact setattr_ok I1 ea c n l r fun s2 I2 => ⟨σ, _, I2, q⟩
/-! ### a if c else b as a test -/
def tIfT (tc ta tb : TT) : TT := fun σ H Q => tc σ H fun k H1 => if k = true then ta σ H1 Q else tb σ H1 Q
theorem pt_ifExp {X : Cx} {c a b : Expr} {pos : Pos} {tc ta tb : TT} (hc : PT X c tc) (ha : PT X a ta) (hb : PT X b tb) : PT X (.IfExp c a b pos) (tIfT tc ta tb) := by
  constructor
  intro pins s σ H Q I h
  refine PyProof.Rows.isTrue_IfExp (thn (hc.run pins s σ H _ I h) fun d s1 ⟨H1, I1, q1⟩ => ?_)
  cases d with
  | true => exact ha.run pins s1 σ H1 Q I1 q1
  | false => exact hb.run pins s1 σ H1 Q I1 q1
end Z
set_option Elab.async false
set_option linter.all false
set_option maxRecDepth 100000
set_option maxHeartbeats 4000000
namespace Z
open PySem PySem.Spec PyProof.Rows L2
/-! ### a op b by the class's own method, which may raise -/
structure Bin2X (P : Program) (w : World) (K : PySem.W.Frag) (mg : Str → Option Value) (base : Heap) (k : Nat) (C : Addr) (op : Operator) (sp : Sp) : Prop where
  ex : ∃ (f : Addr) (fd : FuncData) (ps : List Str), FnOk P w K mg base (L2N.CX P w) k f fd ps sp ∧ PySem.W.findIn K (.ref C) (PySem.dunder op.info.2) = some (some (.ref f)) ∧ PySem.W.isFn K (.ref f) = true ∧ Binds K fd ps [] ∧ PySem.W.selfFirst K C = true
def tOp2E (C : Addr) (sp : Sp) (E : L2.St → XK) (ta tb : TE) : TE := fun σ H Q => ta σ H fun x H1 => tb σ H1 fun y H2 => ∃ a b dx dy fs gs, x = .ref a ∧ y = .ref b ∧ H2 a = some (.ins C dx fs) ∧ H2 b = some (.ins C dy gs) ∧ sp [.ref a, .ref b] H2 (fun v H' => ∃ p, v = .ref p ∧ Q v H') (E σ)
theorem pe_op2E {X : Cx} {k j : Nat} {C : Addr} {sp : Sp} {op : Operator} {E : L2.St → XK} {a b : Expr} {ta tb : TE} {pos : Pos} (c : Bin2X X.prog X.w X.K X.mg X.base k C op sp) (hx : ∀ σ, PassesAt (L2N.CX X.prog X.w) X σ (E σ)) (hr : Room j X.A) (hk : k ≤ j) (ha : PE X a ta) (hb : PE X b tb) : PE X (.BinOp a op b pos) (tOp2E C sp E ta tb) := by
  obtain ⟨f, fd, ps, F, hs, hf, hbi, sf⟩ := c.ex
  refine ⟨fun pins s σ H Q I h => ?_⟩
  refine wpAny_BinOp (binT ha hb I h fun v u s2 x y H2 I2 rx ry q => ?_)
  obtain ⟨a, b, dx, dy, fs, gs, rfl, rfl, ea, eb, q⟩ := q
  cases rx
  cases ry
  obtain ⟨mA, J, _⟩ := ins_get I2.hok ea
  obtain ⟨mB, J', _⟩ := ins_get I2.hok eb
  obtain ⟨od, J, _⟩ := J.look
  obtain ⟨od', J', _⟩ := J'.look
  obtain ⟨m, hF⟩ := I2.fr
  refine PySem.W.binop_K hF I2.ok.mod.kin J J'.type sf hs hf ?_
  refine thn (wpAny_call (run_atE (vs := [.ref a, .ref b]) (us := [.ref a, .ref b]) F hbi (hx σ) (hr.mono hk) I2 (.cons rfl (.cons rfl .nil)) q)) fun r s' z => ?_
  obtain ⟨v, H', I', rv, p, rfl, q'⟩ := z
  cases rv
  exact ⟨.ref p, H', I', rfl, q'⟩
/-! ### ~a by the class's own method -/
structure Un1 (P : Program) (w : World) (K : PySem.W.Frag) (mg : Str → Option Value) (base : Heap) (k : Nat) (C : Addr) (sp : Sp) : Prop where
  ex : ∃ (f : Addr) (fd : FuncData) (ps : List Str), FnOk P w K mg base CX0 k f fd ps sp ∧ PySem.W.findIn K (.ref C) "__invert__" = some (some (.ref f)) ∧ PySem.W.isFn K (.ref f) = true ∧ Binds K fd ps []
def rUn1 (C : Addr) (sp : Sp) : V → Hp → VK → Prop := fun x H Q => ∃ a dx fs, x = .ref a ∧ H a = some (.ins C dx fs) ∧ sp [.ref a] H Q E0
theorem un_own {X : Cx} {k j : Nat} {C : Addr} {sp : Sp} (c : Un1 X.prog X.w X.K X.mg X.base k C sp) (hr : Room j X.A) (hk : k ≤ j) : UnR X (unaryOp .Invert) (rUn1 C sp) := by
  intro pins s σ H x v Q I rx hq
  obtain ⟨f, fd, ps, F, hs, hf, hb⟩ := c.ex
  obtain ⟨a, dx, fs, rfl, ha, q⟩ := hq
  cases rx
  obtain ⟨mA, J, _⟩ := ins_get I.hok ha
  obtain ⟨od, J, _⟩ := J.look
  obtain ⟨m, hF⟩ := I.fr
  refine PySem.W.ksp_inv hF I.ok.mod.kin J hs hf ?_
  have r2 : Vals [V.ref a] [Value.ref a] := .cons rfl .nil
  exact run_fn (dvs := []) F (hr.mono hk) hb .nil pass0 I r2 (by rw [List.append_nil]; exact q)
end Z
set_option Elab.async false
set_option linter.all false
set_option maxRecDepth 100000
set_option maxHeartbeats 4000000
namespace Z
open PySem PySem.Spec PyProof.Rows L2 PySem.Builtin.Str
/-! ### x[::-1], x a text -/
def tRevS (te : TE) : TE := fun σ H Q => te σ H fun x H1 => ∃ z, x = .str z ∧ z.length ≤ sizeLine ∧ Q (.str ⟨z.cps.toList.reverse.toArray⟩) H1
theorem rev_picked (z : Str) : (strSliceIndices none none (-1) z.length) = (List.range z.length).map fun k => z.length - 1 - k := by
  show sliceRange ((z.length : Int) - 1) (-1) (-1) = _
  exact PySem.W.krv_sliceRange z.length
theorem fm_map {α β : Type} {f : α → Option β} {g : α → β} : ∀ {l : List α}, (∀ x ∈ l, f x = some (g x)) → l.filterMap f = l.map g
  | [], _ => rfl
  | x :: l, h => by
    rw [List.filterMap_cons, h x List.mem_cons_self, fm_map fun y hy => h y (List.mem_cons_of_mem _ hy)]
    rfl
theorem rev_codes (z : Str) : ((strSliceIndices none none (-1) z.length).filterMap (z.cps[·]?)) = z.cps.toList.reverse := by
  rw [rev_picked]
  have hl : z.length = z.cps.toList.length := by
    show z.cps.size = _
    rw [Array.length_toList]
  rw [hl]
  generalize hz : z.cps.toList = l
  have e : ∀ i : Nat, z.cps[i]? = l[i]? := fun i => by rw [← hz, Array.getElem?_toList]
  rw [show (fun i : Nat => z.cps[i]?) = fun i : Nat => l[i]? from funext e]
  clear e hl hz
  rw [List.filterMap_map]
  apply List.ext_getElem?
  intro i
  rw [show (List.range l.length).filterMap ((fun i : Nat => l[i]?) ∘ fun k => l.length - 1 - k) = (List.range l.length).map (fun k => l.getD (l.length - 1 - k) 0) from ?_]
  · rw [List.getElem?_map]
    by_cases h : i < l.length
    · rw [List.getElem?_range h, List.getElem?_reverse h, List.getElem?_eq_getElem (by omega)]
      show some (l.getD _ 0) = _
      rw [List.getD_eq_getElem?_getD, List.getElem?_eq_getElem (by omega)]
      rfl
    · rw [List.getElem?_eq_none (by rw [List.length_range]; omega), List.getElem?_eq_none (by rw [List.length_reverse]; omega)]
      rfl
  · refine fm_map fun k hk => ?_
    have := List.mem_range.mp hk
    show l[l.length - 1 - k]? = some (l.getD _ 0)
    rw [List.getD_eq_getElem?_getD, List.getElem?_eq_getElem (by omega)]
    rfl
theorem pe_revS {X : Cx} {e : Expr} {te : TE} {k : Nat} {p1 p2 p3 pos : Pos} (he : PE X e te) : PE X (.Subscript e (.Slice none none (some (.UnaryOp .USub (.Constant (.int 1) k p1) p2)) p3) pos) (tRevS te) := by
  refine ⟨fun pins s σ H Q I h => ?_⟩
  refine Subscript_ (thn (he.run pins s σ H _ I h) fun v s1 ⟨x, H1, I1, r1, q1⟩ => ?_)
  obtain ⟨z, ex, hz, q⟩ := q1
  subst ex
  obtain ⟨t, rfl⟩ := r1
  have hst : PO X (some (.UnaryOp .USub (.Constant (.int 1) k p1) p2)) (tPart (tUn (rU fun i => .int (-i)) (tC (.int 1)))) := po_some (pe_un un_neg pe_int)
  refine wpAny_Slice (thn (po_none.run pins s1 σ H1 (fun o H2 => o = none ∧ H2 = H1) I1 ⟨rfl, rfl⟩) fun vl s2 ⟨l, H2, I2, pl, el, e2⟩ => ?_)
  subst el e2
  refine thn (po_none.run pins s2 σ H2 (fun o H3 => o = none ∧ H3 = H2) I2 ⟨rfl, rfl⟩) fun vu s3 ⟨u, H3, I3, pu, eu, e3⟩ => ?_
  subst eu e3
  refine thn (hst.run pins s3 σ H3 (fun o H4 => o = some (-1) ∧ H4 = H3) I3 ⟨1, rfl, -1, rfl, rfl, rfl⟩) fun vs s4 ⟨o, H4, I4, ps, eo, e4⟩ => ?_
  subst eo e4
  obtain ⟨l, ev, el⟩ := IsPart.raw pl
  obtain ⟨u, eu', eu⟩ := IsPart.raw pu
  obtain ⟨st, es', es⟩ := IsPart.raw ps
  subst ev eu' es'
  have I5 : Inv X pins σ H4 { s4 with heap := s4.heap.push { cls := .type "slice", data := .fields #[partValue l, partValue u, partValue st] } } := I4.kept (t' := s4.toks) fun b ob q => Heap.get?_push_of_some _ q
  show wpAny (model X.prog X.w) X.A (subscriptTail e (.Slice none none (some (.UnaryOp .USub (.Constant (.int 1) k p1) p2)) p3) (.str z t) (.ref s4.heap.objs.size)) (EP X pins σ Q) X.xe _
  cases l with
  | some x => cases el
  | none =>
  cases u with
  | some x => cases eu
  | none =>
  cases st with
  | none => cases es
  | some x =>
  obtain ⟨x, ux⟩ := x
  have es : x = (-1 : Int) := by injection es
  subst es
  refine tail_of_ItemOn ⟨"str", _, F.slot_str_getitem.lookup, typeIs_str _ _ _, wpAny_getItem_str_slice (l := none) (u := none) (st := some (-1, ux)) ⟨_, Heap.get?_push_size _ rfl, rfl, rfl⟩ rfl ?_⟩ (by with_unfolding_all rfl) (by intro r; cases e <;> rfl)
  show Made.post (if ((-1 : Int) == 1 && (strSliceIndices none none (-1) z.length).length == z.length) = true then Made.val (.str z t) else Made.str ⟨((strSliceIndices none none (-1) z.length).filterMap (z.cps[·]?)).toArray⟩) (EP X pins σ Q) _
  rw [if_neg (by simp), rev_codes]
  refine ⟨?_, .str _, H4, I5.tok _, ⟨_, rfl⟩, q⟩
  show (z.cps.toList.reverse.toArray).size ≤ _
  rw [List.size_toArray, List.length_reverse, Array.length_toList]
  exact hz
/-! ### a == "text" by the class's own __eq__ -/
def rOwnS (C : Addr) (sp : Sp) : R2 := fun x y H Q => ∃ a z dx fs, x = .ref a ∧ y = .str z ∧ H a = some (.ins C dx fs) ∧ sp [.ref a, .str z] H (fun v H' => ∃ r, v = .bl r ∧ Q v H') E0
theorem op_ownS {X : Cx} {k j : Nat} {C : Addr} {sp : Sp} (c : Eqo X.prog X.w X.K X.mg X.base k C sp) (nf : PySem.W.notFirst X.K C (.type "str") = true) (hr : Room j X.A) (hk : k ≤ j) : OpR X (compareOp .Eq) (rOwnS C sp) := by
  intro pins s σ H x y v u Q I rx ry hq
  obtain ⟨f, fd, ps, F, hs, hf, hb⟩ := c.ex
  obtain ⟨a, z, dx, fs, rfl, rfl, ha, q⟩ := hq
  cases rx
  obtain ⟨t, rfl⟩ := ry
  obtain ⟨mA, J, _⟩ := ins_get I.hok ha
  obtain ⟨od, J, _⟩ := J.look
  obtain ⟨m, hF⟩ := I.fr
  have lk : PySem.W.Looks (model X.prog X.w) s.heap (typeOf (.str z t)) (.type "str") := fun A Q E s' k' q' => wpAny_pure q'
  show wpAny (model X.prog X.w) X.A (richCompare .Eq (Value.ref a) (Value.str z t)) (EP X pins σ Q) X.xe s
  refine PySem.W.cmp_K (op := .Eq) (tb := .type "str") (hr.mono hk).units0 hF I.ok.mod.kin J lk nf hs hf ?_
  have r2 : Vals [V.ref a, V.str z] [Value.ref a, Value.str z t] := .cons rfl (.cons ⟨_, rfl⟩ .nil)
  refine thn (run_fn (dvs := []) F (hr.mono hk) hb .nil pass0 I r2 q) fun r s' z => ?_
  obtain ⟨v, H', I', rv, b', rfl, q'⟩ := z
  cases rv
  exact ⟨.bl b', H', I', rfl, q'⟩
end Z
set_option Elab.async false
set_option linter.all false
set_option maxRecDepth 100000
set_option maxHeartbeats 4000000
namespace Z
open PySem PySem.Spec PyProof PyProof.Rows L2 F
/-! ### len(x), x an instance of a class with __len__ -/
structure LenO (P : Program) (w : World) (K : PySem.W.Frag) (mg : Str → Option Value) (base : Heap) (k : Nat) (C : Addr) (sp : Sp) : Prop where
  ex : ∃ (f : Addr) (fd : FuncData) (ps : List Str), FnOk P w K mg base CX0 k f fd ps sp ∧ PySem.W.findIn K (.ref C) "__len__" = some (some (.ref f)) ∧ PySem.W.isFn K (.ref f) = true ∧ Binds K fd ps []
def rLenO (C : Addr) (sp : Sp) : List V → Hp → VK → Prop := fun xs H Q => ∃ a dx fs, xs = [.ref a] ∧ H a = some (.ins C dx fs) ∧ sp [.ref a] H (fun v H' => ∃ n : Int, v = .int n ∧ 0 ≤ n ∧ n < 2 ^ 63 ∧ Q (.int n) H') E0
theorem call_lenO {X : Cx} {k j : Nat} {C : Addr} {sp : Sp} (c : LenO X.prog X.w X.K X.mg X.base k C sp) (hr : Room j X.A) (hk : k + 1 ≤ j) : CallR X (.builtin "len") (rLenO C sp) := by
  intro pins s σ H xs us Q I r h
  obtain ⟨f, fd, ps, F, hs, hf, hb⟩ := c.ex
  obtain ⟨a, dx, fs, rfl, ha, q⟩ := h
  obtain ⟨u, rfl, ru⟩ := vals1 r
  obtain rfl : u = Value.ref a := ru
  obtain ⟨mA, J, _⟩ := ins_get I.hok ha
  obtain ⟨od, J, _⟩ := J.look
  refine Calls.call_function_entry kind_len plain_len entry_len (args_len1 _) ?_
  unfold Builtin.«len»
  refine wpAny_bind (m := oneArg "len" _) (wpAny_pure ?_)
  have e0 : Env0 X.prog X.w X.K X.mg X.base X.A.in1 X.stack s H := by
    have e := I.env0
    exact ⟨e.frames, e.mod, e.bs, e.bsz, e.funs, e.frf, e.hok, e.bare⟩
  refine wpAny_bind (m := callSpecial? (.ref a) (PySem.Str.ofString "__len__")) (PySem.W.special_fn (name := "__len__") (args := []) I.kIn J hs (beq_iff_eq.mp hf) ?_)
  have hl := F.len _ _ _ _ q
  refine wpAny_call (codeAny_mono (F.run X.A.in1 X.stack s H ⟨[.ref a], []⟩ [.ref a] [.ref a] _ E0 (hr.mono hk).in1 e0 (by
    have := hb s [.ref a] I.kIn (by simpa using hl)
    simpa using this) (.cons rfl .nil) q) fun r s' hq => ?_)
  cases r with
  | error e => exact pass0 pins σ H s e s' I hq
  | ok fl =>
    cases fl with
    | next => exact False.elim hq
    | brk => exact False.elim hq
    | cont => exact False.elim hq
    | ret u =>
      obtain ⟨v, H1, I1, rv, n, rfl, h0, h1, q1⟩ := I.after hq
      obtain ⟨t, rfl⟩ := rv
      refine wpAny_bind (wpAny_holding (wpAny_pure ?_))
      refine wpAny_bind (wpAny_letGo ?_)
      show wpAny _ _ (if n < 0 then _ else _) _ _ _
      rw [if_neg (by omega)]
      show wpAny _ _ (if n ≥ 2 ^ 63 then _ else _) _ _ _
      rw [if_neg (by omega)]
      exact wpAny_bind (wpAny_mkInt (wpAny_pure ⟨_, rfl, .int n, H1, I1.tok _, ⟨_, rfl⟩, q1⟩))
end Z
set_option Elab.async false
set_option linter.all false
set_option maxRecDepth 100000
set_option maxHeartbeats 4000000
namespace L2N
open PySem PySem.Spec PyProof.Rows L2
/-! ### several clauses `except c as n` -/
/-- a clause: its class, the slot of its name, its suite's reading -/
abbrev Cl := Value × Nat × (Addr → Value → Option Addr → TS)
def wManyA (K : PySem.W.Frag) (Wout : WX) (D : Ends) : List Cl → WX
  | [] => Wout
  | h :: r => wAs K h.1 h.2.1 h.2.2 (wManyA K Wout D r) D
inductive HdsA (X : Cx) : List ExceptHandler → List Cl → Prop
  | nil : HdsA X [] []
  | cons {x n : Str} {c : Value} {i : Nat} {ts : Addr → Value → Option Addr → TS} {b₀ : Stmt} {suite : List Stmt} {np pos' : Pos} {hds : List ExceptHandler} {l : List Cl} (hi : X.N[i]? = some n) (hln : X.env.kindOf n = some .local) (hc : Names X x c)
      (hsu : ∀ (a : Addr) (oe : Obj) (cls : Value) (d : Option Addr) (pn : List (Addr × Obj)), Zn cls d oe → (∃ vs, oe.data = .fields vs) → PSs (X.suite a ((a, oe) :: pn)) (b₀ :: suite) (ts a cls d)) (r : HdsA X hds l) :
      HdsA X (.ExceptHandler (some (.Name x np)) (some n) (b₀ :: suite) pos' :: hds) ((c, i, ts) :: l)
section
variable {X : Cx} {body : List Stmt} {h₀ : ExceptHandler} {hds : List ExceptHandler} {l : List Cl} {pos : Pos} {tb : WX → TS} {Wout : WX}
theorem ps_try_manyA (hs : X.stack = X.env :: X.outer) (hf : X.env.frame = some X.env.locals) (hN : X.N.Nodup) (tk : Takes X Wout)
    (hb : ∀ (W : WX) (pn : List (Addr × Obj)) (xe : Value → Shared → Prop), Takes (X.tr pn xe) W → PassesOwn (model X.prog X.w) X.A X.env xe → PSs (X.tr pn xe) body (tb W))
    (hh : HdsA X (h₀ :: hds) l) : PS X (.Try body (h₀ :: hds) [] [] pos) (fun D σ H => tb (wManyA X.K Wout D l) D σ H) := by
  refine ⟨fun pins s σ H D I h => ?_⟩
  have ok := I.ok
  have hfr : X.A.frames = some (X.env :: X.outer) := by rw [ok.frames, hs]
  have calm : ∀ (f : Flow) (s1 : Shared) , SP (X.tr (X.pn ++ pins) (fun e s₁ => wpAny (model X.prog X.w) X.A (noteFrame e X.env) (fun _ s₂ => wpAny (model X.prog X.w) X.A (setFlight e none) (fun _ s₃ =>
      wpAny (model X.prog X.w) X.A (handleBy e X.env (h₀ :: hds)) (SP X pins D) X.xe s₃) X.xe s₂) X.xe s₁)) [] D f s1 → SP X pins D f s1 := fun f s1 hsp => by
    cases f with
    | next =>
      obtain ⟨σ', H', J', q⟩ := hsp
      exact ⟨σ', H', J'.ofTry ok, q⟩
    | brk =>
      obtain ⟨σ', H', J', q⟩ := hsp
      exact ⟨σ', H', J'.ofTry ok, q⟩
    | cont =>
      obtain ⟨σ', H', J', q⟩ := hsp
      exact ⟨σ', H', J'.ofTry ok, q⟩
    | ret u =>
      obtain ⟨v, σ', H', J', r, q⟩ := hsp
      exact ⟨v, σ', H', J'.ofTry ok, r, q⟩
  refine wpAny_Try_except ?_
  refine wpAny_mono ((hb (wManyA X.K Wout D l) (X.pn ++ pins) (fun e s₁ => wpAny (model X.prog X.w) X.A (noteFrame e X.env) (fun _ s₂ => wpAny (model X.prog X.w) X.A (setFlight e none) (fun _ s₃ =>
    wpAny (model X.prog X.w) X.A (handleBy e X.env (h₀ :: hds)) (SP X pins D) X.xe s₃) X.xe s₂) X.xe s₁) (fun u s' xx => ?_) PassesOwn.looking).run [] s σ H D (I.toTry _) h) (fun f s1 hsp => ?_) (fun e s1 he => he)
  · obtain ⟨a, B, sI, pins', σ', H', cls, d, rfl, J', nb, up, sky, na, os, ag, w⟩ := xx
    have J : Inv X pins σ' H' sI := J'.ofTry ok
    have sky' : Sky B (X.env :: X.outer) a (Zn cls d) X.env.locals s'.heap := by rw [← hs]; exact sky
    show wpAny (model X.prog X.w) X.A (noteFrame (.ref a) X.env) _ _ _
    refine Sky.land Zn.steady hfr hf sky' fun h3 fl3 up3 => ?_
    have J3 : Inv X pins σ' H' { s' with heap := h3 } := J.landed nb fl3.1 (up.trans up3) os ag
    obtain ⟨oe3, vs3, he3, hz3, hd3⟩ := fl3.there
    have nfr : a ∉ frs (X.env :: X.outer) := fun hm => by
      obtain ⟨_, o', e', hnf⟩ := fl3.2.2.1.mem hm
      rw [he3] at e'
      cases e'
      exact hnf _ hd3
    have nL : a ≠ X.env.locals := fun z => nfr (List.mem_filterMap.mpr ⟨X.env, List.mem_cons_self, by rw [hf, z]⟩)
    have nF : a ∉ X.fs := fun hm => by
      obtain ⟨e, he, q⟩ := List.mem_filterMap.mp hm
      exact nfr (List.mem_filterMap.mpr ⟨e, List.mem_cons_of_mem _ he, q⟩)
    have S3 := J3.suite he3 hd3 na nL nF
    have go : ∀ {hds' : List ExceptHandler} {l' : List Cl}, HdsA X hds' l' → wManyA X.K Wout D l' cls d σ' H' →
        wpAny (model X.prog X.w) X.A (handleBy (.ref a) X.env hds') (SP X pins D) X.xe { s' with heap := h3 } := by
      intro hds' l' hk
      induction hk with
      | nil =>
        intro w
        refine wpAny_handleBy_nil ?_
        obtain ⟨k1, k2, k3, oe, vs, T, oT, ts', he, hz, hd, h1, hr⟩ := id fl3
        unfold PySem.passOn
        refine wpAny_bind (wpAny_field he hd h1 ?_)
        rw [if_neg (show ¬ ((Value.ref T == Value.none) = true) from by simp)]
        have fin : wpAny (model X.prog X.w) X.A (setFlight (.ref a) X.env.frame) (fun _ s4 => wpAny (model X.prog X.w) X.A (throw (.ref a) : Sem Flow) (SP X pins D) X.xe s4) X.xe { s' with heap := h3 } := by
          rw [hf]
          refine HandSPX.setFlight_upZ fl3 fun h4 hh4 up4 => wpAny_throw (tk _ _ ?_)
          exact ⟨a, B, sI, pins, σ', H', cls, d, rfl, J, nb, (up.trans up3).trans up4, .inr (.inr (by rw [hs]; exact hh4)), na, os, ag, w⟩
        first
          | exact wpAny_bind (wpAny_pure (wpAny_bind fin))
          | exact wpAny_bind fin
      | @cons x n c i ts b₀ suite np pos' hds2 l2 hi hln hc hsu r ih =>
        intro w
        obtain ⟨b, hb1, hyes, hno⟩ := w
        have hloc : Loc X.env.scope n := .inl hln
        refine wpAny_handleBy_cons (codeAny_handlers_test ?_) (by intro q; cases q)
        have LT : PySem.W.Looks (model X.prog X.w) h3 (typeOf (.ref a)) cls := fun A Q E s k q => wpAny_typeOf_ref (k _ _ he3) (by rw [hz3.1]; exact q)
        have LM := PySem.W.exm_one (M := model X.prog X.w) (J3.kIn) LT hb1
        have test : ∀ {Q : Value → Shared → Prop} {E : Value → Shared → Prop}, Q c { s' with heap := h3 } → wpAny (model X.prog X.w) (X.A.mark (some (.ref a))) (eval (.Name x np) X.env) Q E { s' with heap := h3 } := fun {Q E} q => by
          obtain ⟨hg, hdbg, hm | ⟨hm, hv, hnn⟩⟩ := hc
          · exact ld_glob (X := X.suite a ((a, oe3) :: (X.pn ++ pins))) S3 hg hm q hdbg
          · exact ld_blt (X := X.suite a ((a, oe3) :: (X.pn ++ pins))) S3 hg hm hv q hnn hdbg
        refine test (LM.here ?_)
        cases b with
        | true =>
          refine codeAny_handlers_suite_as ?_
          refine HandSPX.lands_againZ fl3 fun h4 fl4 up4 => ?_
          have J4 : Inv X pins σ' H' { s' with heap := h4 } := J.landed nb fl4.1 ((up.trans up3).trans up4) os ag
          obtain ⟨oe4, vs4, he4, hz4, hd4⟩ := fl4.there
          have S4 := J4.suite he4 hd4 na nL nF
          refine store_ok (X := X.suite a ((a, oe4) :: (X.pn ++ pins))) (v := .ref a) S4 hN hi hloc rfl (fun s5 S5 => ?_) (.inr hln)
          refine wpAny_mono ((hsu a oe4 cls d (X.pn ++ pins) hz4 ⟨_, hd4⟩).run [] s5 _ H' _ S5 (hyes rfl a na)) (fun f s6 hsp => ?_) (fun _ _ z => False.elim z)
          have end_ : ∀ {σ6 : L2.St} {H6 : Hp} {Q : Shared → Prop}, Inv (X.suite a ((a, oe4) :: (X.pn ++ pins))) [] σ6 H6 s6 → (∀ s7, Inv X pins (σ6.set i none) H6 s7 → Q s7) →
              wpAny (model X.prog X.w) X.A (do bindName X.env n .none; unbindBehindTheSuite X.env n pos') (fun _ s7 => Q s7) X.xe s6 := fun {σ6 H6 Q} S6 hq => gone_ok (S6.unsuite ok) hN hi hln hq
          cases f with
          | next =>
            obtain ⟨σ6, H6, S6, q6⟩ := hsp
            exact end_ S6 fun s7 J7 => ⟨_, _, J7, q6⟩
          | brk =>
            obtain ⟨σ6, H6, S6, q6⟩ := hsp
            exact end_ S6 fun s7 J7 => ⟨_, _, J7, q6⟩
          | cont =>
            obtain ⟨σ6, H6, S6, q6⟩ := hsp
            exact end_ S6 fun s7 J7 => ⟨_, _, J7, q6⟩
          | ret u =>
            obtain ⟨v6, σ6, H6, S6, r6, q6⟩ := hsp
            exact end_ S6 fun s7 J7 => ⟨_, _, _, J7, r6, q6⟩
        | false =>
          show wpAny _ X.A (handleBy (.ref a) X.env hds2) _ _ _
          exact ih (hno rfl)
    exact go hh w
  · cases f with
    | next => exact wpAny_execs_nil (calm .next s1 hsp)
    | brk => exact calm .brk s1 hsp
    | cont => exact calm .cont s1 hsp
    | ret u => exact calm (.ret u) s1 hsp
end
end L2N
set_option Elab.async false
set_option linter.all false
set_option maxRecDepth 100000
set_option maxHeartbeats 4000000
namespace Z
open PySem PySem.Spec PyProof.Rows L2
/-! ### f(e, .., k = v), what is raised at the slots -/
structure CalKX (P : Program) (w : World) (K : PySem.W.Frag) (mg : Str → Option Value) (base : Heap) (k : Nat) (x : Str) (n : Nat) (ks : List Str) (gV : List V → List V → List V) (sp : Sp) : Prop where
  ex : ∃ (f : Addr) (fd : FuncData) (ps : List Str) (g : List Value → List Value → List Value), FnOk P w K mg base (L2N.CX P w) k f fd ps sp ∧ mg x = some (.ref f) ∧ PySem.W.keepIn K (.ref f) = true ∧ KBn K fd ps n ks g gV
def tClKW (n m : Nat) (sp : Sp) (gV : List V → List V → List V) (E : L2.St → XK) (t tk : TA) : TE := fun σ H Q => t σ H fun vs H1 => tk σ H1 fun zs H2 => vs.length = n ∧ zs.length = m ∧ sp (gV vs zs) H2 Q (E σ)
section
variable {X : Cx} {k j n : Nat} {x : Str} {sp : Sp} {ks : List Str} {gV : List V → List V → List V} {p pos : Pos} {e : Expr} {es : List Expr} {kws : List Keyword} {t tk : TA} {E : L2.St → XK}
theorem pe_clKE (c : CalKX X.prog X.w X.K X.mg X.base k x n ks gV sp) (hx : ∀ σ, PassesAt (L2N.CX X.prog X.w) X σ (E σ)) (hr : Room j X.A) (hk : k ≤ j) (hg : Gl X x) (ha : PA X (e :: es) t) (hkw : PK X kws tk)
    (hall : (backToKw pos (keywordEach kws X.env)).all (·.1.isSome) = true := by rfl) (hks : (backToKw pos (keywordEach kws X.env)).filterMap (·.1) = ks := by rfl) (hdb : (x == ("__debug__" : Str)) = false := by decide)
    (he : starEach (e :: es) X.env = (false, eval e X.env) :: starEach es X.env := by rfl) (hpl : ((backTo pos (starEach (e :: es) X.env)).any (·.1) || (backToKw pos (keywordEach kws X.env)).any (·.1.isNone)) = false := by rfl) :
    PE X (.Call (.Name x p) (e :: es) kws pos) (tClKW n ks.length sp gV E t tk) := by
  obtain ⟨f, fd, ps, g, F, hm, kp, hb⟩ := c.ex
  refine ⟨fun pins s σ H Q I h => ?_⟩
  refine wpAny_Call_Name_kw (ld_glob I hg hm ?_ hdb)
  refine PySem.W.callWith_KW (h₀ := X.base) I.ok.mod.kin kp hall (thn (ha.run pos pins s σ H _ I h) fun us s1 ⟨vs, H1, I1, r, q⟩ => ?_) hpl he
  refine thn (hkw.run pos pins s1 σ H1 _ I1 q) fun ws s2 ⟨zs, H2, I2, rz, l1, l2, q2⟩ => ⟨I2.kIn, ?_⟩
  rw [hks]
  have r2 := hb.rel r rz
  refine wpAny_call (codeAny_mono (F.run X.A X.stack s2 H2 ⟨us, ks.zip ws⟩ (g us ws) (gV vs zs) Q (E σ) (hr.mono hk) I2.env0 (hb.to s2 us ws I2.kIn (by rw [← r.length]; exact l1) (by rw [← rz.length]; exact l2)) r2 q2) fun r s' hq => ?_)
  exact back_at (hx σ) I2 r s' hq
end
end Z
set_option Elab.async false
set_option linter.all false
set_option maxRecDepth 100000
set_option maxHeartbeats 4000000
namespace Z
open PySem PySem.Spec PyProof.Rows L2
/-! ### raise X(), X an own class without own __init__ -/
structure Exn0 (K : PySem.W.Frag) (mg : Str → Option Value) (x : Str) (C : Addr) : Prop where
  ex : PySem.W.excIn K C He.veBase "ValueError.__new__" = true
  kp : PySem.W.keepIn K (.ref C) = true
  sub : PySem.W.subIn K (.ref C) (.type "BaseException") = some true
  ty : PySem.W.typeIn K (.ref C) = some (.type "type")
  gl : mg x = some (.ref C)
theorem pmk_ex0 {X : Cx} {x : Str} {C : Addr} {p pos : Pos} (c : Exn0 X.K X.mg x C) (hg : Gl X x) (hdb : (x == ("__debug__" : Str)) = false := by decide) :
    L2N.PMk X (.Call (.Name x p) [] [] pos) (fun _ H Q => Q (.ref C) none H) := by
  intro pins s σ H Q I h
  refine wpAny_Call_Name_kw (ld_glob I hg c.gl ?_ hdb)
  refine PySem.W.callWith_K0 I.kIn c.kp ?_
  obtain ⟨bm, N, nm, qn, bs, hdct, sn, sub, ab, col, dd, k0, k1, k2, k3, k5, mN, hC, hN, hni, T⟩ := exc_obj I.kIn c.ex
  refine wpAny_call_exc_subT PySem.F.excBase_ValueError T hC hN hni (fun h' e hm => ?_) (by decide)
  exact L2N.mk_of I hm (raises_own c.sub c.ty) h (I.hok.gone hm.new)
theorem ps_ex0 {X : Cx} {x : Str} {C : Addr} {p pos pos2 : Pos} {W : WX} (hc : X.calm = true) (tk : L2N.Takes X W) (c : Exn0 X.K X.mg x C) (hg : Gl X x) (hdb : (x == ("__debug__" : Str)) = false := by decide) :
    PS X (.Raise (some (.Call (.Name x p) [] [] pos)) none pos2) (fun _ σ H => W (.ref C) none σ H) := L2N.ps_raise hc tk (pmk_ex0 c hg hdb)
/-! ### isinstance(e, c), e a caught error without a dict -/
def rIs0 (K : PySem.W.Frag) (a : Addr) (cls : Value) (d : Option Addr) : List V → Hp → VK → Prop := fun xs H Q => ∃ (D : Addr) (c : V) (cv : Value) (b : Bool), cls = .ref D ∧ d = none ∧ ExcC K D ∧ xs = [.ref a, c] ∧ (∀ u, RelV c u → u = cv) ∧ PySem.W.kitOne K (.ref D) cv = some b ∧ Q (.bl b) H
theorem call_is0 {X : Cx} {a : Addr} {cls : Value} {d : Option Addr} {oe : Obj} {pn : List (Addr × Obj)} (hz : Zc cls d oe) (hf : ∃ vs, oe.data = .fields vs) : CallR (X.suite a ((a, oe) :: pn)) (.builtin "isinstance") (rIs0 X.K a cls d) := by
  intro pins s σ H xs us Q I r h
  obtain ⟨D, c, cv, b, rfl, rfl, C, rfl, hcv, e, q⟩ := h
  exact call_isE C hz hf pins s σ H _ us Q I r ⟨c, cv, b, rfl, hcv, e, q⟩
end Z
set_option linter.all false
set_option maxRecDepth 100000
namespace Z
open PySem PySem.Spec PyProof.Rows L2
theorem none_of {H J : Hp} {p : Addr} (s : Same H J) (n : J p = none) : H p = none := by
  cases e : H p with
  | none => rfl
  | some o =>
    have := s p o e
    rw [n] at this
    cases this
theorem szC {n : Nat} (h : n ≤ 10000000) : n < sizeLine := Nat.lt_of_le_of_lt h (by decide)
theorem ixN_nat {n j : Nat} (h : j < n) : ixN n (j : Int) = some j := by
  unfold ixN
  rw [if_pos (by omega)]
  first
    | (rw [if_pos (by omega)]; congr 1)
    | simp [h]
theorem sqk_or {q : Bool} {K : PySem.W.Frag} {H : Hp} {a : Addr} {xs : List V} (h : SqK q K H a xs) : SqL K H a xs ∨ SqT K H a xs := by
  cases q
  · exact .inr h
  · exact .inl h
theorem nd_inj {l : List Nat} (nd : l.Nodup) {i j c : Nat} (hi : l[i]? = some c) (hj : l[j]? = some c) : i = j := by
  obtain ⟨h1, e1⟩ := List.getElem?_eq_some_iff.mp hi
  exact (List.getElem?_inj h1 nd).mp (hi.trans hj.symm)
theorem relv_ref {a : Addr} : L2.RelV (.ref a) (.ref a) := rfl
end Z
set_option Elab.async false
set_option linter.all false
set_option maxRecDepth 100000
set_option maxHeartbeats 4000000
namespace Z
open PySem PySem.Spec PyProof.Rows L2
open SX (S S_inj S_len S_cat)
theorem relv_str {x : Str} {t : Tok} : L2.RelV (.str x) (.str x t) := ⟨t, rfl⟩
theorem szl {n : Nat} (h : n ≤ 2000) : n ≤ sizeLine := Nat.le_trans h (by decide)
theorem szlt {n : Nat} (h : n ≤ 2000) : n < sizeLine := Nat.lt_of_le_of_lt h (by decide)
/-! ### draws and their place -/
structure Tk (K : PySem.W.Frag) (a p : Addr) (ds : List Int) (n : Nat) (H0 H1 : Hp) : Prop where
  hA : H1 a = some (.lst (ds.map V.int))
  hd : Dr n ds
  ne : a ≠ p
  sb : SB p H0 H1
  pl : ∃ m : Nat, H1 p = some (.lst [.int (m : Int)])
section
variable {K : PySem.W.Frag} {a p : Addr} {ds : List Int} {n m : Nat} {H0 H1 H2 : Hp}
theorem Tk.more (t : Tk K a p ds n H0 H1) (s : Same H1 H2) : Tk K a p ds n H0 H2 := by
  obtain ⟨m, e⟩ := t.pl
  exact ⟨s _ _ t.hA, t.hd, t.ne, t.sb.trans (Z.Same.sb s), m, s _ _ e⟩
theorem Tk.next (t : Tk K a p ds n H0 H1) (e : H1 p = some (.lst [.int (m : Int)])) : Tk K a p ds n H0 (upd H1 p (.lst [.int ((m + 1 : Nat) : Int)])) ∧ SB p H1 (upd H1 p (.lst [.int ((m + 1 : Nat) : Int)])) := by
  have sb : SB p H1 (upd H1 p (.lst [.int ((m + 1 : Nat) : Int)])) := SB.upd (Z.Same.sb (Same.refl H1))
  exact ⟨⟨sb _ _ t.ne t.hA, t.hd, t.ne, t.sb.trans sb, m + 1, upd_same⟩, sb⟩
theorem Tk.slf (t : Tk K a p ds n H0 H1) : Tk K a p ds n H1 H1 := ⟨t.hA, t.hd, t.ne, Z.Same.sb (Same.refl _), t.pl⟩
theorem Tk.tr (t : Tk K a p ds n H0 H1) (u : Tk K a p ds n H1 H2) : Tk K a p ds n H0 H2 := ⟨u.hA, u.hd, u.ne, t.sb.trans u.sb, u.pl⟩
theorem Tk.nn {q : Addr} (t : Tk K a p ds n H0 H1) (h : H1 q = none) : H0 q = none := by
  cases e : H0 q with
  | none => rfl
  | some o =>
    have pq : q ≠ p := fun z => by
      obtain ⟨m, em⟩ := t.pl
      rw [z, em] at h
      cases h
    rw [t.sb _ _ pq e] at h
    cases h
theorem Tk.at_ {q : Addr} {o : HO} (t : Tk K a p ds n H0 H1) (h : H0 q = none) (hp : p ≠ q) (ha : a ≠ q) : Tk K a p ds n H0 (upd H1 q o) := by
  obtain ⟨m, em⟩ := t.pl
  refine ⟨by rw [upd_ne ha]; exact t.hA, t.hd, t.ne, fun b u n1 n2 => ?_, m, by rw [upd_ne hp]; exact em⟩
  have bq : b ≠ q := fun z => by rw [z, h] at n2; cases n2
  rw [upd_ne bq]
  exact t.sb _ _ n1 n2
/-- an object other than the place lives on -/
theorem Tk.up (t : Tk K a p ds n H0 H1) {b : Addr} {o : HO} (e : H0 b = some o) (h : b ≠ p) : H1 b = some o := t.sb _ _ h e
end
theorem at_0 {α : Type} {x : α} {xs : List α} : atI (x :: xs) 0 = some x := show atI _ ((0 : Nat) : Int) = _ from atI_nat rfl
theorem at_1 {α : Type} {x y : α} {xs : List α} : atI (x :: y :: xs) 1 = some y := show atI _ ((1 : Nat) : Int) = _ from atI_nat rfl
theorem at_2 {α : Type} {x y z : α} {xs : List α} : atI (x :: y :: z :: xs) 2 = some z := show atI _ ((2 : Nat) : Int) = _ from atI_nat rfl
theorem at_3 {α : Type} {x y z u : α} {xs : List α} : atI (x :: y :: z :: u :: xs) 3 = some u := show atI _ ((3 : Nat) : Int) = _ from atI_nat rfl
theorem sum_one : ∀ l : List Nat, (l.map fun _ => 1).sum = l.length
  | [] => rfl
  | _ :: r => by
    rw [List.map_cons, List.sum_cons, sum_one r, List.length_cons]
    omega
theorem join_one : ∀ l : List Nat, TL.joinL [] (l.map fun c => [c]) = l
  | [] => rfl
  | [c] => rfl
  | c :: d :: r => by
    have ih := join_one (d :: r)
    show [c] ++ ([] ++ TL.joinL [] ((d :: r).map fun c => [c])) = _
    rw [ih]
    rfl
theorem ixv {b : Bool} {K : PySem.W.Frag} {H : Hp} {a : Addr} {xs : List V} {i : Int} {v : V} {Q : VK} (hS : SqK b K H a xs) (e : atI xs i = some v) (q : Q v H) : rIx K (.ref a) (.int i) H Q := by
  cases b
  · exact .inr (.inl ⟨a, _, _, _, rfl, rfl, hS, e, q⟩)
  · exact .inl ⟨a, _, _, _, rfl, rfl, hS, e, q⟩
theorem sgn_at (z : Str) (r : Int) (h : 0 < z.length) : ∃ c, atI z.cps.toList (r % (z.length : Int)) = some c := by
  have h1 := Int.emod_nonneg r (show (z.length : Int) ≠ 0 by omega)
  have h2 := Int.emod_lt_of_pos r (show 0 < (z.length : Int) by omega)
  obtain ⟨j, hj⟩ : ∃ j : Nat, r % (z.length : Int) = (j : Int) := ⟨(r % (z.length : Int)).toNat, by omega⟩
  rw [hj] at h2 ⊢
  have hl : j < z.cps.toList.length := by
    show j < z.cps.size
    have : z.length = z.cps.size := rfl
    omega
  exact ⟨z.cps.toList[j], atI_nat (List.getElem?_eq_getElem hl)⟩
theorem modN (r : Int) {n : Nat} (h : 0 < n) : ∃ c : Nat, r % (n : Int) = (c : Int) ∧ c < n := by
  have h1 := Int.emod_nonneg r (show (n : Int) ≠ 0 by omega)
  have h2 := Int.emod_lt_of_pos r (show 0 < (n : Int) by omega)
  exact ⟨(r % (n : Int)).toNat, by omega, by omega⟩
end Z
set_option Elab.async false
set_option linter.all false
set_option maxRecDepth 100000
set_option maxHeartbeats 4000000
namespace Z
open PySem PySem.Spec PyProof PyProof.Rows L2 F
/-! ### x in y, y an instance of a class with __contains__ -/
structure InO (P : Program) (w : World) (K : PySem.W.Frag) (mg : Str → Option Value) (base : Heap) (k : Nat) (C : Addr) (sp : Sp) : Prop where
  ex : ∃ (f : Addr) (fd : FuncData) (ps : List Str), FnOk P w K mg base CX0 k f fd ps sp ∧ PySem.W.findIn K (.ref C) "__contains__" = some (some (.ref f)) ∧ PySem.W.isFn K (.ref f) = true ∧ Binds K fd ps []
def rInO (C : Addr) (sp : Sp) : R2 := fun x y H Q => ∃ b dy gs, y = .ref b ∧ H b = some (.ins C dy gs) ∧ sp [.ref b, x] H (fun v H' => ∃ r, v = .bl r ∧ Q (.bl r) H') E0
theorem op_ownIn {X : Cx} {k j : Nat} {C : Addr} {sp : Sp} (c : InO X.prog X.w X.K X.mg X.base k C sp) (hr : Room j X.A) (hk : k ≤ j) : OpR X (compareOp .In) (rInO C sp) := by
  intro pins s σ H x y v u Q I rx ry hq
  obtain ⟨f, fd, ps, F, hs, hf, hb⟩ := c.ex
  obtain ⟨b, dy, gs, rfl, hb', q⟩ := hq
  cases ry
  obtain ⟨mB, J, _⟩ := ins_get I.hok hb'
  obtain ⟨od, J, _⟩ := J.look
  obtain ⟨m, hF⟩ := I.fr
  refine PySem.W.in_K hF I.ok.mod.kin J hs hf ?_
  have r2 : Vals [V.ref b, x] [Value.ref b, v] := .cons rfl (.cons rx .nil)
  refine thn (run_fn (dvs := []) F (hr.mono hk) hb .nil pass0 I r2 q) fun r s' z => ?_
  obtain ⟨v', H', I', rv, b', rfl, q'⟩ := z
  cases rv
  exact wpAny_truthy_bool ⟨.bl b', H', I', rfl, q'⟩
/-! ### making with defaults -/
structure MakD (P : Program) (w : World) (K : PySem.W.Frag) (mg : Str → Option Value) (base : Heap) (k : Nat) (x : Str) (dvs : List V) (sp : Sp) : Prop where
  ex : ∃ (C f : Addr) (fd : FuncData) (ps : List Str) (si : Sp) (ds : List Value), Mk K C f ∧ FnOk P w K mg base CX0 k f fd ps si ∧ mg x = some (.ref C) ∧ Vals dvs ds ∧ Binds K fd ps ds ∧
    ∀ vs H Q E, sp vs H Q E → ∀ n dx, H n = none → H dx = none → dx ≠ n → si (.ref n :: (vs ++ dvs)) (upd (upd H dx (.own n)) n (.ins C dx [])) (fun v H2 => v = .non ∧ Q (.ref n) H2) E
theorem pe_mkD {X : Cx} {k j : Nat} {x : Str} {sp : Sp} {dvs : List V} {p pos : Pos} {e : Expr} {es : List Expr} {t : TA} (c : MakD X.prog X.w X.K X.mg X.base k x dvs sp) (hr : Room j X.A) (hk : k + 1 ≤ j) (hg : Gl X x) (ha : PA X (e :: es) t)
    (hdb : (x == ("__debug__" : Str)) = false := by decide) (he : starEach (e :: es) X.env = (false, eval e X.env) :: starEach es X.env := by rfl) (hpl : (backTo pos (starEach es X.env)).any (·.1) = false := by rfl) : PE X (.Call (.Name x p) (e :: es) [] pos) (tCall sp [] E0 t) := by
  obtain ⟨C, f, fd, ps, si, ds, M, F, hm, rv, b, imp⟩ := c.ex
  constructor
  intro pins s σ H Q I h
  refine wpAny_Call_Name_kw (ld_glob I hg hm ?_ hdb)
  refine PySem.W.callWith_K (h₀ := X.base) I.ok.mod.kin M.kp (thn (ha.run pos pins s σ H _ I h) fun us s1 ⟨vs, H1, I1, r, q⟩ => ⟨I1.kIn, ?_⟩) he hpl
  have q2 : sp vs H1 Q E0 := by
    have z : sp (vs ++ []) H1 Q E0 := q
    rw [List.append_nil] at z
    exact z
  exact run_make (dvs := dvs) M F (hr.mono hk) b rv pass0 I1 r (fun n dx n1 n2 n3 => imp _ _ _ _ q2 n dx n1 n2 n3)
end Z
set_option linter.all false
set_option maxRecDepth 100000
namespace Mc
/-! ### tables and their runs -/
abbrev Tbl := List (List (Option Nat))
def nx (T : Tbl) (s k : Nat) : Option Nat := (T.getD s []).getD k none
def rn (T : Tbl) : Option Nat → List Nat → Option Nat
  | o, [] => o
  | none, _ :: _ => none
  | some s, k :: w => rn T (nx T s k) w
structure Wf (T : Tbl) (m : Nat) : Prop where
  row : ∀ r ∈ T, r.length = m
  ent : ∀ r ∈ T, ∀ e, some e ∈ r → e < T.length
def Acc (T : Tbl) (G : Nat → Prop) (s : Nat) (w : List Nat) : Prop := ∃ t, rn T (some s) w = some t ∧ G t
def Liv (T : Tbl) (G : Nat → Prop) (s : Nat) : Prop := ∃ w, Acc T G s w
def Leq (T : Tbl) (G : Nat → Prop) (s t : Nat) : Prop := ∀ w, Acc T G s w ↔ Acc T G t w
theorem rn_none (T : Tbl) : ∀ w, rn T none w = none
  | [] => rfl
  | _ :: _ => rfl
theorem rn_app (T : Tbl) : ∀ (u : List Nat) (o : Option Nat) (v : List Nat), rn T o (u ++ v) = rn T (rn T o u) v
  | [], _, _ => rfl
  | _ :: _, none, v => (rn_none T v).symm
  | k :: u, some s, v => rn_app T u (nx T s k) v
theorem nx_mem {T : Tbl} {s k e : Nat} (h : nx T s k = some e) : ∃ r, T[s]? = some r ∧ r[k]? = some (some e) := by
  unfold nx at h
  cases hT : T[s]? with
  | none =>
    rw [List.getD_eq_getElem?_getD, List.getD_eq_getElem?_getD, hT] at h
    simp at h
  | some r =>
    rw [List.getD_eq_getElem?_getD, List.getD_eq_getElem?_getD, hT] at h
    cases hr : r[k]? with
    | none =>
      simp [hr] at h
    | some o =>
      simp [hr] at h
      exact ⟨r, rfl, by rw [hr, h]⟩
theorem nx_at {T : Tbl} {s k : Nat} {r : List (Option Nat)} {o : Option Nat} (h : T[s]? = some r) (h2 : r[k]? = some o) : nx T s k = o := by
  unfold nx
  rw [List.getD_eq_getElem?_getD, List.getD_eq_getElem?_getD, h]
  show (r[k]?).getD none = o
  rw [h2]
  rfl
theorem nx_lt {T : Tbl} {m s k e : Nat} (wf : Wf T m) (h : nx T s k = some e) : e < T.length ∧ k < m ∧ s < T.length := by
  obtain ⟨r, h1, h2⟩ := nx_mem h
  have mr := List.mem_of_getElem? h1
  refine ⟨wf.ent r mr e (List.mem_of_getElem? h2), ?_, (List.getElem?_eq_some_iff.mp h1).1⟩
  rw [← wf.row r mr]
  exact (List.getElem?_eq_some_iff.mp h2).1
theorem acc_cons {T : Tbl} {G : Nat → Prop} {s k : Nat} {w : List Nat} : Acc T G s (k :: w) ↔ ∃ e, nx T s k = some e ∧ Acc T G e w := by
  constructor
  · rintro ⟨t, h, g⟩
    have h : rn T (nx T s k) w = some t := h
    cases e : nx T s k with
    | none => rw [e, rn_none] at h; cases h
    | some e' => exact ⟨e', rfl, t, by rw [e] at h; exact h, g⟩
  · rintro ⟨e, h, t, h2, g⟩
    exact ⟨t, by show rn T (nx T s k) w = some t; rw [h]; exact h2, g⟩
theorem acc_nil {T : Tbl} {G : Nat → Prop} {s : Nat} : Acc T G s [] ↔ G s := ⟨fun ⟨t, h, g⟩ => by cases h; exact g, fun g => ⟨s, rfl, g⟩⟩
theorem Leq.refl {T : Tbl} {G : Nat → Prop} (s : Nat) : Leq T G s s := fun _ => Iff.rfl
theorem Leq.symm {T : Tbl} {G : Nat → Prop} {s t : Nat} (h : Leq T G s t) : Leq T G t s := fun w => (h w).symm
theorem Leq.trans {T : Tbl} {G : Nat → Prop} {s t u : Nat} (h : Leq T G s t) (k : Leq T G t u) : Leq T G s u := fun w => (h w).trans (k w)
theorem Leq.good {T : Tbl} {G : Nat → Prop} {s t : Nat} (h : Leq T G s t) : G s ↔ G t := by
  have := h []
  rwa [acc_nil, acc_nil] at this
theorem Leq.liv {T : Tbl} {G : Nat → Prop} {s t : Nat} (h : Leq T G s t) (l : Liv T G s) : Liv T G t := let ⟨w, a⟩ := l; ⟨w, (h w).mp a⟩
theorem Leq.step {T : Tbl} {G : Nat → Prop} {s t k e : Nat} (h : Leq T G s t) (n : nx T s k = some e) (l : Liv T G e) : ∃ e', nx T t k = some e' ∧ Leq T G e e' := by
  obtain ⟨w, a⟩ := l
  obtain ⟨e', h1, _⟩ := acc_cons.mp ((h (k :: w)).mp (acc_cons.mpr ⟨e, n, a⟩))
  refine ⟨e', h1, fun v => ⟨fun b => ?_, fun b => ?_⟩⟩
  · obtain ⟨e2, h2, b2⟩ := acc_cons.mp ((h (k :: v)).mp (acc_cons.mpr ⟨e, n, b⟩))
    rw [h1] at h2
    cases h2
    exact b2
  · obtain ⟨e2, h2, b2⟩ := acc_cons.mp ((h (k :: v)).mpr (acc_cons.mpr ⟨e', h1, b⟩))
    rw [n] at h2
    cases h2
    exact b2
theorem liv_back {T : Tbl} {G : Nat → Prop} {s t : Nat} {w : List Nat} (h : rn T (some s) w = some t) (l : Liv T G t) : Liv T G s := by
  obtain ⟨v, u, a, g⟩ := l
  exact ⟨w ++ v, u, by rw [rn_app, h]; exact a, g⟩
theorem liv_good {T : Tbl} {G : Nat → Prop} {s : Nat} (h : G s) : Liv T G s := ⟨[], acc_nil.mpr h⟩
theorem liv_step {T : Tbl} {G : Nat → Prop} {s k e : Nat} (h : nx T s k = some e) (l : Liv T G e) : Liv T G s := let ⟨w, a⟩ := l; ⟨k :: w, acc_cons.mpr ⟨e, h, a⟩⟩
/-- closed flags that hold the good states hold the live ones -/
theorem liv_closed {T : Tbl} {G : Nat → Prop} {al : Nat → Prop} (g : ∀ s, G s → al s) (c : ∀ s k e, nx T s k = some e → al e → al s) {s : Nat} (l : Liv T G s) : al s := by
  obtain ⟨w, a⟩ := l
  induction w generalizing s with
  | nil => exact g s (acc_nil.mp a)
  | cons k w ih =>
    obtain ⟨e, h, b⟩ := acc_cons.mp a
    exact c s k e h (ih b)
/-! ### the normal form -/
structure NfOf (T : Tbl) (G : Nat → Prop) (m : Nat) (R : Tbl) (g : List Nat) (met : List Nat) : Prop where
  zero : met[0]? = some 0
  len : R.length = met.length
  row : ∀ r ∈ R, r.length = m
  live : ∀ s ∈ met, s < T.length ∧ Liv T G s
  ap : ∀ (i j s t : Nat), met[i]? = some s → met[j]? = some t → Leq T G s t → i = j
  no : ∀ (i s k : Nat), met[i]? = some s → nx R i k = none → ∀ e, nx T s k = some e → ¬ Liv T G e
  yes : ∀ (i s k j : Nat), met[i]? = some s → nx R i k = some j → ∃ e t, nx T s k = some e ∧ met[j]? = some t ∧ Leq T G e t
  good : ∀ i : Nat, i ∈ g ↔ ∃ s, met[i]? = some s ∧ G s
  asc : g.Pairwise (· < ·)
  ord : ∀ j : Nat, 0 < j → j < met.length → ∃ i k : Nat, i < j ∧ nx R i k = some j ∧ ∀ (i' k' j' : Nat), (i' < i ∨ i' = i ∧ k' < k) → nx R i' k' = some j' → j' < j
def Nf (T : Tbl) (G : Nat → Prop) (m : Nat) (R : Tbl) (g : List Nat) : Prop := (R = [] ∧ g = [] ∧ (T = [] ∨ ¬ Liv T G 0)) ∨ ∃ met, NfOf T G m R g met
theorem NfOf.sim {T : Tbl} {G : Nat → Prop} {m : Nat} {R : Tbl} {g met : List Nat} (h : NfOf T G m R g met) : ∀ (w : List Nat) (i s t0 : Nat), met[i]? = some t0 → Leq T G s t0 → (rn R (some i) w = none → ∀ t, rn T (some s) w = some t → ¬ Liv T G t) ∧ ∀ j, rn R (some i) w = some j → ∃ t t1, rn T (some s) w = some t ∧ met[j]? = some t1 ∧ Leq T G t t1 := by
  intro w
  induction w with
  | nil =>
    intro i s t0 hi l
    exact ⟨fun z => (by cases z), fun j z => by cases z; exact ⟨s, t0, rfl, hi, l⟩⟩
  | cons k w ih =>
    intro i s t0 hi l
    cases e : nx R i k with
    | none =>
      refine ⟨fun _ t ht lt => ?_, fun j z => ?_⟩
      · have ht : rn T (nx T s k) w = some t := ht
        cases e2 : nx T s k with
        | none => rw [e2, rn_none] at ht; cases ht
        | some e' =>
          rw [e2] at ht
          have le := liv_back ht lt
          obtain ⟨e3, h3, l3⟩ := l.step e2 le
          exact h.no i t0 k hi e e3 h3 (l3.liv le)
      · have z : rn R (nx R i k) w = some j := z
        rw [e, rn_none] at z
        cases z
    | some j =>
      obtain ⟨e1, t1, h1, h2, l1⟩ := h.yes i t0 k j hi e
      have lv1 : Liv T G e1 := l1.symm.liv (h.live t1 (List.mem_of_getElem? h2)).2
      obtain ⟨e2, h3, l3⟩ := l.symm.step h1 lv1
      obtain ⟨a, b⟩ := ih j e2 t1 h2 (l3.symm.trans l1)
      refine ⟨fun z t ht => a (by have z : rn R (nx R i k) w = none := z; rw [e] at z; exact z) t (by have ht : rn T (nx T s k) w = some t := ht; rw [h3] at ht; exact ht), fun j' z => ?_⟩
      obtain ⟨t, t2, c1, c2, c3⟩ := b j' (by have z : rn R (nx R i k) w = some j' := z; rw [e] at z; exact z)
      exact ⟨t, t2, by show rn T (nx T s k) w = some t; rw [h3]; exact c1, c2, c3⟩
def st (T : Tbl) : Option Nat := if T.length = 0 then none else some 0
theorem Nf.read {T : Tbl} {G : Nat → Prop} {m : Nat} {R : Tbl} {g : List Nat} (h : Nf T G m R g) (w : List Nat) : (rn R (st R) w = none → ∀ t, rn T (st T) w = some t → ¬ Liv T G t) ∧ ∀ j, rn R (st R) w = some j → ∃ t, rn T (st T) w = some t ∧ Liv T G t ∧ (j ∈ g ↔ G t) := by
  rcases h with ⟨rfl, rfl, h⟩ | ⟨met, h⟩
  · have e : rn [] (st []) w = none := rn_none [] w
    rw [e]
    refine ⟨fun _ t ht lt => ?_, fun j z => (by cases z)⟩
    rcases h with rfl | h
    · rw [e] at ht; cases ht
    · unfold st at ht
      split at ht
      · rw [rn_none] at ht; cases ht
      · exact h (liv_back ht lt)
  · have hm : 0 < met.length := (List.getElem?_eq_some_iff.mp h.zero).1
    have hT := (h.live 0 (List.mem_of_getElem? h.zero)).1
    have e1 : st R = some 0 := if_neg (by rw [h.len]; omega)
    have e2 : st T = some 0 := if_neg (by omega)
    rw [e1, e2]
    obtain ⟨a, b⟩ := h.sim w 0 0 0 h.zero (Leq.refl 0)
    refine ⟨a, fun j z => ?_⟩
    obtain ⟨t, t1, c1, c2, c3⟩ := b j z
    refine ⟨t, c1, c3.symm.liv (h.live t1 (List.mem_of_getElem? c2)).2, (h.good j).trans ⟨fun ⟨s, q1, q2⟩ => ?_, fun q => ⟨t1, c2, c3.good.mp q⟩⟩⟩
    rw [c2] at q1
    cases q1
    exact c3.good.mpr q2
/-! ### texts: some characters are no letters -/
def rs (T : Tbl) (ix : Nat → Option Nat) : Option Nat → List Nat → Option Nat
  | o, [] => o
  | none, _ :: _ => none
  | some s, c :: w => match ix c with
    | none => none
    | some k => rs T ix (nx T s k) w
theorem rs_none (T : Tbl) (ix : Nat → Option Nat) : ∀ w, rs T ix none w = none
  | [] => rfl
  | _ :: _ => rfl
theorem rs_known (ix : Nat → Option Nat) : ∀ (w : List Nat), (∃ ks : List Nat, (∀ T o, rs T ix o w = rn T o ks) ∧ ∀ c ∈ w, ix c ≠ none) ∨ ((∀ T o, rs T ix o w = none) ∧ ∃ c ∈ w, ix c = none)
  | [] => .inl ⟨[], fun T o => by cases o <;> rfl, fun c m => absurd m (by simp)⟩
  | c :: w => by
    cases e : ix c with
    | none =>
      refine .inr ⟨fun T o => ?_, c, List.mem_cons_self, e⟩
      cases o with
      | none => rfl
      | some s => show (match ix c with | none => none | some k => rs T ix (nx T s k) w) = none; rw [e]
    | some k =>
      have step : ∀ T s, rs T ix (some s) (c :: w) = rs T ix (nx T s k) w := fun T s => by
        show (match ix c with | none => none | some k => rs T ix (nx T s k) w) = _
        rw [e]
      rcases rs_known ix w with ⟨ks, h, h2⟩ | ⟨h, d, hd, h2⟩
      · refine .inl ⟨k :: ks, fun T o => ?_, fun d m => ?_⟩
        · cases o with
          | none => rfl
          | some s => rw [step, h]; rfl
        · rcases List.mem_cons.mp m with rfl | m
          · rw [e]; exact fun z => by cases z
          · exact h2 d m
      · refine .inr ⟨fun T o => ?_, d, List.mem_cons_of_mem _ hd, h2⟩
        cases o with
        | none => rfl
        | some s => rw [step, h]
theorem Nf.text {T : Tbl} {G : Nat → Prop} {m : Nat} {R : Tbl} {g : List Nat} (h : Nf T G m R g) (ix : Nat → Option Nat) (w : List Nat) : (rs R ix (st R) w = none → ∀ t, rs T ix (st T) w = some t → ¬ Liv T G t) ∧ ∀ j, rs R ix (st R) w = some j → ∃ t, rs T ix (st T) w = some t ∧ Liv T G t ∧ (j ∈ g ↔ G t) := by
  rcases rs_known ix w with ⟨ks, e, _⟩ | ⟨e, _⟩
  · rw [e, e]
    exact h.read ks
  · rw [e, e]
    exact ⟨fun _ t z => (by cases z), fun j z => (by cases z)⟩
/-! ### first occurrences -/
section
variable {α β : Type} [DecidableEq α] [DecidableEq β]
def isF (f : Nat → α) (s : Nat) : Bool := (List.range s).all fun t => decide (f t ≠ f s)
def cf (f : Nat → α) (n : Nat) : Nat := ((List.range n).filter (isF f)).length
theorem isF_iff {f : Nat → α} {s : Nat} : isF f s = true ↔ ∀ t, t < s → f t ≠ f s := by
  unfold isF
  rw [List.all_eq_true]
  exact ⟨fun h t ht => of_decide_eq_true (h t (List.mem_range.mpr ht)), fun h t ht => decide_eq_true (h t (List.mem_range.mp ht))⟩
theorem cf_succ (f : Nat → α) (n : Nat) : cf f (n + 1) = cf f n + if isF f n then 1 else 0 := by
  unfold cf
  rw [List.range_succ, List.filter_append, List.length_append]
  congr 1
  cases e : isF f n <;> simp [e]
theorem cf_le (f : Nat → α) (n : Nat) : cf f n ≤ n := by
  have := List.length_filter_le (isF f) (List.range n)
  rwa [List.length_range] at this
theorem cf_pos (f : Nat → α) {n : Nat} (h : 0 < n) : 0 < cf f n := by
  cases n with
  | zero => exact absurd h (Nat.lt_irrefl _)
  | succ n =>
    clear h
    induction n with
    | zero => rw [cf_succ, show isF f 0 = true from rfl]; exact Nat.succ_pos _
    | succ n ih => rw [cf_succ]; omega
theorem first_ex (f : Nat → α) : ∀ s, ∃ t, t ≤ s ∧ f t = f s ∧ isF f t = true := by
  intro s
  induction s using Nat.strongRecOn with
  | _ s ih =>
    cases e : isF f s with
    | true => exact ⟨s, Nat.le_refl _, rfl, e⟩
    | false =>
      have : ∃ t, t < s ∧ f t = f s := by
        refine Classical.byContradiction fun c => ?_
        have : isF f s = true := isF_iff.mpr fun t ht q => c ⟨t, ht, q⟩
        rw [e] at this
        cases this
      obtain ⟨t, ht, q⟩ := this
      obtain ⟨u, hu, q2, q3⟩ := ih t ht
      exact ⟨u, by omega, q2.trans q, q3⟩
/-- a finer map has at least as many values; as many only if it is not finer -/
theorem cf_mono {f : Nat → α} {g : Nat → β} {n : Nat} (h : ∀ s t, s < n → t < n → g s = g t → f s = f t) : cf f n ≤ cf g n := by
  induction n with
  | zero => exact Nat.le_refl _
  | succ n ih =>
    have h1 := ih fun s t hs ht => h s t (by omega) (by omega)
    rw [cf_succ, cf_succ]
    cases e : isF f n with
    | false => simp; omega
    | true =>
      have : isF g n = true := isF_iff.mpr fun t ht q => isF_iff.mp e t ht (h t n (by omega) (by omega) q)
      rw [this]
      omega
theorem cf_eq {f : Nat → α} {g : Nat → β} {n : Nat} (h : ∀ s t, s < n → t < n → g s = g t → f s = f t) (e : cf g n = cf f n) : ∀ s t, s < n → t < n → f s = f t → g s = g t := by
  have sub : ∀ s, s < n → isF f s = true → isF g s = true := fun s hs hf => isF_iff.mpr fun t ht q => isF_iff.mp hf t ht (h t s (by omega) hs q)
  have all : ∀ k, k ≤ n → (cf g k = cf f k → ∀ s, s < k → isF g s = true → isF f s = true) ∧ cf f k ≤ cf g k := by
    intro k
    induction k with
    | zero => exact fun _ => ⟨fun _ s hs => absurd hs (Nat.not_lt_zero _), Nat.le_refl _⟩
    | succ k ih =>
      intro hk
      obtain ⟨i1, i2⟩ := ih (by omega)
      have sk := sub k (by omega)
      rw [cf_succ, cf_succ]
      cases ef : isF f k with
      | true =>
        rw [sk ef]
        refine ⟨fun q s hs hg => ?_, by simp; omega⟩
        by_cases c : s = k
        · subst c; exact ef
        · exact i1 (by simp at q; omega) s (by omega) hg
      | false =>
        cases eg : isF g k with
        | true => exact ⟨fun q => by simp at q; omega, by simp; omega⟩
        | false =>
          refine ⟨fun q s hs hg => ?_, by simp; omega⟩
          by_cases c : s = k
          · subst c; rw [eg] at hg; cases hg
          · exact i1 (by simp at q; omega) s (by omega) hg
  have back := (all n (Nat.le_refl n)).1 e
  intro s t hs ht q
  obtain ⟨s1, a1, a2, a3⟩ := first_ex g s
  obtain ⟨t1, b1, b2, b3⟩ := first_ex g t
  have fs := back s1 (by omega) a3
  have ft := back t1 (by omega) b3
  have e1 : f s1 = f t1 := (h s1 s (by omega) hs a2).trans (q.trans (h t1 t (by omega) ht b2).symm)
  have : s1 = t1 := by
    rcases Nat.lt_trichotomy s1 t1 with c | c | c
    · exact absurd e1 (isF_iff.mp ft s1 c)
    · exact c
    · exact absurd e1.symm (isF_iff.mp fs t1 c)
  rw [← a2, this, b2]
end
/-! ### classes of states -/
/-- what a row tells about the classes -/
def mk (T : Tbl) (m : Nat) (cl : Nat → Nat) (s : Nat) : Nat × List (Option Nat) := (cl s, (List.range m).map fun k => (nx T s k).map cl)
theorem mk_fst {T : Tbl} {m : Nat} {cl : Nat → Nat} {s t : Nat} (h : mk T m cl s = mk T m cl t) : cl s = cl t := congrArg (·.1) h
theorem mk_snd {T : Tbl} {m : Nat} {cl : Nat → Nat} {s t k : Nat} (h : mk T m cl s = mk T m cl t) (hk : k < m) : (nx T s k).map cl = (nx T t k).map cl := by
  have e := congrArg (fun z : Nat × List (Option Nat) => z.2[k]?) h
  unfold mk at e
  dsimp only at e
  rw [List.getElem?_map, List.getElem?_map, List.getElem?_range hk] at e
  injection e
theorem mk_mk {T : Tbl} {m : Nat} {cl : Nat → Nat} {s t : Nat} (h : cl s = cl t) (h2 : ∀ k, k < m → (nx T s k).map cl = (nx T t k).map cl) : mk T m cl s = mk T m cl t := by
  unfold mk
  rw [h]
  congr 1
  exact List.map_congr_left fun k hk => h2 k (List.mem_range.mp hk)
/-- states with the same language have the same class -/
def Crs (T : Tbl) (G : Nat → Prop) (cl : Nat → Nat) : Prop := ∀ s t, s < T.length → t < T.length → Leq T G s t → cl s = cl t
theorem Crs.next {T : Tbl} {G : Nat → Prop} {m : Nat} {cl : Nat → Nat} (wf : Wf T m) (lv : ∀ s k e, nx T s k = some e → Liv T G e) (h : Crs T G cl) {s t : Nat} (hs : s < T.length) (ht : t < T.length) (l : Leq T G s t) : mk T m cl s = mk T m cl t := by
  refine mk_mk (h s t hs ht l) fun k hk => ?_
  cases e : nx T s k with
  | some a =>
    obtain ⟨b, e2, l2⟩ := l.step e (lv _ _ _ e)
    rw [e2]
    show some (cl a) = some (cl b)
    rw [h a b (nx_lt wf e).1 (nx_lt wf e2).1 l2]
  | none =>
    cases e2 : nx T t k with
    | none => rfl
    | some b =>
      obtain ⟨a, e3, _⟩ := l.symm.step e2 (lv _ _ _ e2)
      rw [e] at e3
      cases e3
/-- stable classes tell the languages apart -/
theorem stable_leq {T : Tbl} {G : Nat → Prop} {m : Nat} {cl : Nat → Nat} (wf : Wf T m) (g : ∀ s t, s < T.length → t < T.length → cl s = cl t → (G s ↔ G t)) (st : ∀ s t, s < T.length → t < T.length → cl s = cl t → mk T m cl s = mk T m cl t) : ∀ s t, s < T.length → t < T.length → cl s = cl t → Leq T G s t := by
  have key : ∀ w s t, s < T.length → t < T.length → cl s = cl t → Acc T G s w → Acc T G t w := by
    intro w
    induction w with
    | nil => exact fun s t hs ht e a => acc_nil.mpr ((g s t hs ht e).mp (acc_nil.mp a))
    | cons k w ih =>
      intro s t hs ht e a
      obtain ⟨x, h1, a⟩ := acc_cons.mp a
      obtain ⟨x1, x2, x3⟩ := nx_lt wf h1
      have q := mk_snd (st s t hs ht e) x2
      rw [h1] at q
      cases h2 : nx T t k with
      | none => rw [h2] at q; cases q
      | some y =>
        rw [h2] at q
        have q : some (cl x) = some (cl y) := q
        injection q with q
        exact acc_cons.mpr ⟨y, h2, ih x y x1 (nx_lt wf h2).1 q a⟩
  exact fun s t hs ht e w => ⟨key w s t hs ht e, key w t s ht hs e.symm⟩
/-! ### flags -/
def cnt (al : Nat → Bool) (n : Nat) : Nat := ((List.range n).filter al).length
theorem cnt_succ (al : Nat → Bool) (n : Nat) : cnt al (n + 1) = cnt al n + if al n then 1 else 0 := by
  unfold cnt
  rw [List.range_succ, List.filter_append, List.length_append]
  congr 1
  cases e : al n <;> simp [e]
theorem cnt_le (al : Nat → Bool) (n : Nat) : cnt al n ≤ n := by
  have := List.length_filter_le al (List.range n)
  rwa [List.length_range] at this
theorem cnt_mono {al bl : Nat → Bool} : ∀ {n : Nat}, (∀ s, s < n → al s = true → bl s = true) → cnt al n ≤ cnt bl n
  | 0, _ => Nat.le_refl _
  | n + 1, h => by
    have := cnt_mono (n := n) fun s hs => h s (by omega)
    rw [cnt_succ, cnt_succ]
    cases e : al n with
    | false => simp; omega
    | true => rw [h n (by omega) e]; simp; omega
theorem cnt_lt {al bl : Nat → Bool} : ∀ {n x : Nat}, (∀ s, s < n → al s = true → bl s = true) → x < n → al x = false → bl x = true → cnt al n < cnt bl n
  | 0, x, _, hx, _, _ => absurd hx (Nat.not_lt_zero _)
  | n + 1, x, h, hx, h1, h2 => by
    rw [cnt_succ, cnt_succ]
    by_cases c : x = n
    · subst c
      have := cnt_mono (n := x) fun s hs => h s (by omega)
      rw [h1, h2]
      simp
      omega
    · have := cnt_lt (n := n) (x := x) (fun s hs => h s (by omega)) (by omega) h1 h2
      cases e : al n with
      | false => simp; omega
      | true => rw [h n (by omega) e]; simp; omega
/-! ### the rows that are kept -/
structure Kpt (T : Tbl) (G : Nat → Prop) (m : Nat) (T' : Tbl) : Prop where
  len : T'.length = T.length
  wf : Wf T' m
  nx : ∀ s k e, nx T' s k = some e ↔ nx T s k = some e ∧ Liv T G e
theorem Kpt.acc {T T' : Tbl} {G : Nat → Prop} {m : Nat} (h : Kpt T G m T') : ∀ w s, Acc T' G s w ↔ Acc T G s w
  | [], s => by rw [acc_nil, acc_nil]
  | k :: w, s => by
    rw [acc_cons, acc_cons]
    constructor
    · rintro ⟨e, h1, a⟩
      exact ⟨e, ((h.nx s k e).mp h1).1, (h.acc w e).mp a⟩
    · rintro ⟨e, h1, a⟩
      exact ⟨e, (h.nx s k e).mpr ⟨h1, w, a⟩, (h.acc w e).mpr a⟩
theorem Kpt.liv {T T' : Tbl} {G : Nat → Prop} {m : Nat} (h : Kpt T G m T') (s : Nat) : Liv T' G s ↔ Liv T G s := ⟨fun ⟨w, a⟩ => ⟨w, (h.acc w s).mp a⟩, fun ⟨w, a⟩ => ⟨w, (h.acc w s).mpr a⟩⟩
theorem Kpt.leq {T T' : Tbl} {G : Nat → Prop} {m : Nat} (h : Kpt T G m T') (s t : Nat) : Leq T' G s t ↔ Leq T G s t := by
  constructor
  · intro l w
    rw [← h.acc, ← h.acc]
    exact l w
  · intro l w
    rw [h.acc, h.acc]
    exact l w
theorem Kpt.lv {T T' : Tbl} {G : Nat → Prop} {m : Nat} (h : Kpt T G m T') (s k e : Nat) (z : Mc.nx T' s k = some e) : Liv T' G e := (h.liv e).mpr ((h.nx s k e).mp z).2
theorem Kpt.nf {T T' : Tbl} {G : Nat → Prop} {m : Nat} {R : Tbl} {g met : List Nat} (h : Kpt T G m T') (n : NfOf T' G m R g met) : NfOf T G m R g met where
  zero := n.zero
  len := n.len
  row := n.row
  live := fun s hs => ⟨by rw [← h.len]; exact (n.live s hs).1, (h.liv s).mp (n.live s hs).2⟩
  ap := fun i j s t h1 h2 l => n.ap i j s t h1 h2 ((h.leq s t).mpr l)
  no := fun i s k h1 h2 e h3 h4 => n.no i s k h1 h2 e ((h.nx s k e).mpr ⟨h3, h4⟩) ((h.liv e).mpr h4)
  yes := fun i s k j h1 h2 => let ⟨e, t, h3, h4, h5⟩ := n.yes i s k j h1 h2; ⟨e, t, ((h.nx s k e).mp h3).1, h4, (h.leq e t).mp h5⟩
  good := n.good
  asc := n.asc
  ord := n.ord
def kp (al : Nat → Bool) : Option Nat → Option Nat
  | none => none
  | some e => if al e = true then some e else none
def kpT (al : Nat → Bool) (T : Tbl) : Tbl := T.map fun r => r.map (kp al)
theorem nx_kp (al : Nat → Bool) (T : Tbl) (s k : Nat) : nx (kpT al T) s k = kp al (nx T s k) := by
  unfold nx kpT
  rw [List.getD_eq_getElem?_getD, List.getD_eq_getElem?_getD, List.getD_eq_getElem?_getD, List.getD_eq_getElem?_getD, List.getElem?_map]
  cases T[s]? with
  | none => rfl
  | some r =>
    show ((r.map (kp al))[k]?).getD none = kp al ((r[k]?).getD none)
    rw [List.getElem?_map]
    cases r[k]? <;> rfl
theorem kp_some {al : Nat → Bool} {o : Option Nat} {e : Nat} : kp al o = some e ↔ o = some e ∧ al e = true := by
  cases o with
  | none => exact ⟨fun z => (by cases z), fun z => (by cases z.1)⟩
  | some x =>
    show (if al x = true then some x else none) = some e ↔ _
    constructor
    · intro z
      by_cases c : al x = true
      · rw [if_pos c] at z
        cases z
        exact ⟨rfl, c⟩
      · rw [if_neg c] at z
        cases z
    · rintro ⟨z, c⟩
      cases z
      rw [if_pos c]
theorem kpt_of {T : Tbl} {G : Nat → Prop} {m : Nat} {al : Nat → Bool} (wf : Wf T m) (h : ∀ s, s < T.length → (al s = true ↔ Liv T G s)) : Kpt T G m (kpT al T) where
  len := List.length_map ..
  wf := ⟨fun r hr => by
    obtain ⟨r0, h0, rfl⟩ := List.mem_map.mp hr
    rw [List.length_map]
    exact wf.row r0 h0, fun r hr e he => by
    obtain ⟨r0, h0, rfl⟩ := List.mem_map.mp hr
    obtain ⟨o, ho, h1⟩ := List.mem_map.mp he
    have := (kp_some.mp h1).1
    subst this
    unfold kpT
    rw [List.length_map]
    exact wf.ent r0 h0 e ho⟩
  nx := fun s k e => by
    rw [nx_kp, kp_some]
    constructor
    · rintro ⟨h1, h2⟩
      exact ⟨h1, (h e (nx_lt wf h1).1).mp h2⟩
    · rintro ⟨h1, h2⟩
      exact ⟨h1, (h e (nx_lt wf h1).1).mpr h2⟩
theorem nd_len : ∀ {n : Nat} {l : List Nat}, l.Nodup → (∀ x ∈ l, x < n) → l.length ≤ n := by
  intro n
  induction n with
  | zero =>
    intro l _ h
    cases l with
    | nil => exact Nat.le_refl _
    | cons x r => exact absurd (h x List.mem_cons_self) (Nat.not_lt_zero _)
  | succ n ih =>
    intro l nd h
    have z := ih (l := l.erase n) (nd.erase _) (fun x hx => by
      have h1 := h x (List.mem_of_mem_erase hx)
      have h2 : x ≠ n := fun e => nd.not_mem_erase (e ▸ hx)
      omega)
    by_cases c : n ∈ l
    · rw [List.length_erase_of_mem c] at z
      omega
    · rw [List.erase_of_not_mem c] at z
      omega
/-! ### the walk that numbers the states -/
theorem nx_grow {R : Tbl} {L : List (Option Nat)} {o : Option Nat} {i k : Nat} : nx (R ++ [L ++ [o]]) i k = if i = R.length ∧ k = L.length then o else nx (R ++ [L]) i k := by
  unfold nx
  simp only [List.getD_eq_getElem?_getD]
  by_cases c : i < R.length
  · rw [if_neg (by omega), List.getElem?_append_left c, List.getElem?_append_left c]
  · rw [List.getElem?_append_right (by omega), List.getElem?_append_right (by omega)]
    by_cases d : i = R.length
    · subst d
      rw [Nat.sub_self]
      show ((L ++ [o])[k]?).getD none = if R.length = R.length ∧ k = L.length then o else (L[k]?).getD none
      by_cases e : k < L.length
      · rw [if_neg (by omega), List.getElem?_append_left e]
      · rw [List.getElem?_append_right (by omega)]
        by_cases f : k = L.length
        · subst f
          rw [if_pos ⟨rfl, rfl⟩, Nat.sub_self]
          rfl
        · rw [if_neg (by omega), List.getElem?_eq_none (by simp; omega), List.getElem?_eq_none (by omega)]
    · rw [if_neg (by omega)]
      obtain ⟨x, hx⟩ : ∃ x, i - R.length = x + 1 := ⟨i - R.length - 1, by omega⟩
      rw [hx]
      rfl
theorem nx_close {A : Tbl} {i k : Nat} : nx (A ++ [[]]) i k = nx A i k := by
  unfold nx
  simp only [List.getD_eq_getElem?_getD]
  by_cases c : i < A.length
  · rw [List.getElem?_append_left c]
  · rw [List.getElem?_append_right (by omega), List.getElem?_eq_none (show A.length ≤ i by omega)]
    cases h : i - A.length with
    | zero => rfl
    | succ x => rfl
structure Bf (T : Tbl) (G : Nat → Prop) (m : Nat) (met : List Nat) (R : Tbl) (L : List (Option Nat)) : Prop where
  zero : met[0]? = some 0
  live : ∀ s ∈ met, s < T.length ∧ Liv T G s
  ap : ∀ (i j s t : Nat), met[i]? = some s → met[j]? = some t → Leq T G s t → i = j
  row : ∀ r ∈ R, r.length = m
  len : L.length ≤ m
  le : R.length ≤ met.length
  no : ∀ (i s k : Nat), (i < R.length ∧ k < m ∨ i = R.length ∧ k < L.length) → met[i]? = some s → nx (R ++ [L]) i k = none → nx T s k = none
  yes : ∀ (i s k j : Nat), met[i]? = some s → nx (R ++ [L]) i k = some j → ∃ e t, nx T s k = some e ∧ met[j]? = some t ∧ Leq T G e t
  bd : ∀ (i k j : Nat), nx (R ++ [L]) i k = some j → j < met.length
  ord : ∀ j : Nat, 0 < j → j < met.length → ∃ i k : Nat, i < j ∧ nx (R ++ [L]) i k = some j ∧ ∀ (i' k' j' : Nat), (i' < i ∨ i' = i ∧ k' < k) → nx (R ++ [L]) i' k' = some j' → j' < j
theorem nx_out {R : Tbl} {L : List (Option Nat)} {i k j : Nat} (h : nx (R ++ [L]) i k = some j) : i < R.length ∨ i = R.length ∧ k < L.length := by
  obtain ⟨r, h1, h2⟩ := nx_mem h
  have hi := (List.getElem?_eq_some_iff.mp h1).1
  rw [List.length_append] at hi
  have hi : i < R.length + 1 := hi
  by_cases c : i < R.length
  · exact .inl c
  · have e : i = R.length := by omega
    subst e
    rw [List.getElem?_append_right (Nat.le_refl _), Nat.sub_self] at h1
    cases h1
    exact .inr ⟨rfl, (List.getElem?_eq_some_iff.mp h2).1⟩
/-- one more entry: none, or an old number, or the next one -/
theorem Bf.put {T : Tbl} {G : Nat → Prop} {m : Nat} {met more : List Nat} {R : Tbl} {L : List (Option Nat)} {o : Option Nat} {s : Nat} (h : Bf T G m met R L) (hs : met[R.length]? = some s) (hL : L.length < m)
    (hm : more = [] ∨ ∃ e, more = [e] ∧ o = some met.length ∧ e < T.length ∧ Liv T G e ∧ ∀ t ∈ met, ¬ Leq T G e t)
    (ho : (o = none ∧ nx T s L.length = none) ∨ ∃ j e t, o = some j ∧ nx T s L.length = some e ∧ (met ++ more)[j]? = some t ∧ Leq T G e t) : Bf T G m (met ++ more) R (L ++ [o]) := by
  have ml : R.length < met.length := (List.getElem?_eq_some_iff.mp hs).1
  have up : ∀ {i t : Nat}, met[i]? = some t → (met ++ more)[i]? = some t := fun {i t} hi => by
    rw [List.getElem?_append_left (List.getElem?_eq_some_iff.mp hi).1]
    exact hi
  have dn : ∀ {i t : Nat}, (met ++ more)[i]? = some t → met[i]? = some t ∨ (i = met.length ∧ more = [t]) := fun {i t} hi => by
    by_cases c : i < met.length
    · rw [List.getElem?_append_left c] at hi
      exact .inl hi
    · rw [List.getElem?_append_right (by omega)] at hi
      rcases hm with rfl | ⟨e, rfl, _⟩
      · simp at hi
      · have c2 : i - met.length = 0 := by
          have := (List.getElem?_eq_some_iff.mp hi).1
          simp at this
          omega
        rw [c2] at hi
        cases hi
        exact .inr ⟨by omega, rfl⟩
  have low : ∀ {i t : Nat}, (met ++ more)[i]? = some t → i < met.length → met[i]? = some t := fun {i t} hi hl => by
    rw [List.getElem?_append_left hl] at hi
    exact hi
  refine ⟨up h.zero, fun t ht => ?_, fun i j a b ha hb l => ?_, h.row, by rw [List.length_append]; exact hL, Nat.le_trans h.le (by rw [List.length_append]; omega), fun i a k hc ha hn => ?_, fun i a k j ha hy => ?_, fun i k j hy => ?_, fun j j0 jl => ?_⟩
  · rcases List.mem_append.mp ht with ht | ht
    · exact h.live t ht
    · rcases hm with rfl | ⟨e, rfl, _, e1, e2, _⟩
      · exact absurd ht (by simp)
      · rw [List.mem_singleton.mp ht]
        exact ⟨e1, e2⟩
  · rcases dn ha with ha1 | ⟨rfl, ma⟩
    · rcases dn hb with hb1 | ⟨rfl, mb⟩
      · exact h.ap i j a b ha1 hb1 l
      · rcases hm with rfl | ⟨e, rfl, _, _, _, no⟩
        · cases mb
        · cases mb
          exact absurd l.symm (no a (List.mem_of_getElem? ha1))
    · rcases dn hb with hb1 | ⟨rfl, mb⟩
      · rcases hm with rfl | ⟨e, rfl, _, _, _, no⟩
        · cases ma
        · cases ma
          exact absurd l (no b (List.mem_of_getElem? hb1))
      · rfl
  · rw [nx_grow] at hn
    by_cases c : i = R.length ∧ k = L.length
    · rw [if_pos c] at hn
      rcases ho with ⟨_, h2⟩ | ⟨j, e, t, h1, _⟩
      · rw [c.1] at ha
        have := low ha ml
        rw [hs] at this
        cases this
        rw [c.2]
        exact h2
      · rw [h1] at hn; cases hn
    · rw [if_neg c] at hn
      rw [List.length_append] at hc
      have hc : i < R.length ∧ k < m ∨ i = R.length ∧ k < L.length + 1 := hc
      exact h.no i a k (by omega) (low ha (by omega)) hn
  · rw [nx_grow] at hy
    by_cases c : i = R.length ∧ k = L.length
    · rw [if_pos c] at hy
      rcases ho with ⟨h1, _⟩ | ⟨j', e, t, h1, h2, h3, h4⟩
      · rw [h1] at hy; cases hy
      · rw [h1] at hy
        cases hy
        rw [c.1] at ha
        have := low ha ml
        rw [hs] at this
        cases this
        rw [c.2]
        exact ⟨e, t, h2, h3, h4⟩
    · rw [if_neg c] at hy
      have hi := nx_out hy
      obtain ⟨e, t, h1, h2, h3⟩ := h.yes i a k j (low ha (by omega)) hy
      exact ⟨e, t, h1, up h2, h3⟩
  · rw [nx_grow] at hy
    rw [List.length_append]
    by_cases c : i = R.length ∧ k = L.length
    · rw [if_pos c] at hy
      rcases ho with ⟨h1, _⟩ | ⟨j', e, t, h1, h2, h3, h4⟩
      · rw [h1] at hy; cases hy
      · rw [h1] at hy
        cases hy
        have := (List.getElem?_eq_some_iff.mp h3).1
        rwa [List.length_append] at this
    · rw [if_neg c] at hy
      have := h.bd i k j hy
      omega
  · by_cases c : j < met.length
    · obtain ⟨i, k, h1, h2, h3⟩ := h.ord j j0 c
      have hi := nx_out h2
      refine ⟨i, k, h1, ?_, fun i' k' j' hb hy => ?_⟩
      · rw [nx_grow, if_neg (by omega)]
        exact h2
      · rw [nx_grow, if_neg (by omega)] at hy
        exact h3 i' k' j' hb hy
    · rcases hm with rfl | ⟨e, rfl, ho2, _⟩
      · rw [List.append_nil] at jl
        exact absurd jl c
      · have hj : j = met.length := by
          rw [List.length_append] at jl
          have jl : j < met.length + 1 := jl
          omega
        subst hj
        refine ⟨R.length, L.length, ml, by rw [nx_grow, if_pos ⟨rfl, rfl⟩]; exact ho2, fun i' k' j' hb hy => ?_⟩
        rw [nx_grow, if_neg (by omega)] at hy
        exact h.bd i' k' j' hy
theorem Bf.close {T : Tbl} {G : Nat → Prop} {m : Nat} {met : List Nat} {R : Tbl} {L : List (Option Nat)} (h : Bf T G m met R L) (hR : R.length < met.length) (hL : L.length = m) : Bf T G m met (R ++ [L]) [] := by
  refine ⟨h.zero, h.live, h.ap, fun r hr => ?_, Nat.zero_le _, by rw [List.length_append]; exact hR, fun i s k hc hs hn => ?_, fun i s k j hs hy => ?_, fun i k j hy => ?_, fun j j0 jl => ?_⟩
  · rcases List.mem_append.mp hr with hr | hr
    · exact h.row r hr
    · rw [List.mem_singleton.mp hr]
      exact hL
  · rw [nx_close] at hn
    rw [List.length_append] at hc
    have hc : i < R.length + 1 ∧ k < m ∨ i = R.length + 1 ∧ k < 0 := hc
    exact h.no i s k (by omega) hs hn
  · rw [nx_close] at hy
    exact h.yes i s k j hs hy
  · rw [nx_close] at hy
    exact h.bd i k j hy
  · obtain ⟨i, k, h1, h2, h3⟩ := h.ord j j0 jl
    exact ⟨i, k, h1, by rw [nx_close]; exact h2, fun i' k' j' hb hy => h3 i' k' j' hb (by rw [nx_close] at hy; exact hy)⟩
theorem Bf.start {T : Tbl} {G : Nat → Prop} {m : Nat} (h : 0 < T.length) (l : Liv T G 0) : Bf T G m [0] [] [] := by
  have e : ∀ i k, nx ([] ++ [[]]) i k = none := fun i k => by
    rw [nx_close]
    rfl
  refine ⟨rfl, fun s hs => by rw [List.mem_singleton.mp hs]; exact ⟨h, l⟩, fun i j s t hi hj _ => ?_, fun r hr => absurd hr (by simp), Nat.zero_le _, Nat.zero_le _, fun i s k hc _ _ => ?_, fun i s k j _ hy => ?_, fun i k j hy => ?_, fun j j0 jl => ?_⟩
  · have h1 := (List.getElem?_eq_some_iff.mp hi).1
    have h2 := (List.getElem?_eq_some_iff.mp hj).1
    have h1 : i < 1 := h1
    have h2 : j < 1 := h2
    omega
  · have hc : i < 0 ∧ k < m ∨ i = 0 ∧ k < 0 := hc
    omega
  · rw [e] at hy; cases hy
  · rw [e] at hy; cases hy
  · have jl : j < 1 := jl
    omega
theorem Bf.nodup {T : Tbl} {G : Nat → Prop} {m : Nat} {met : List Nat} {R : Tbl} {L : List (Option Nat)} (h : Bf T G m met R L) : met.length ≤ T.length := by
  have nd : met.Nodup := by
    rw [List.Nodup, List.pairwise_iff_getElem]
    intro i j hi hj hij e
    have h1 := List.getElem?_eq_getElem hi
    have h2 := List.getElem?_eq_getElem hj
    have := h.ap i j _ _ h1 h2 (by rw [e]; exact Leq.refl _)
    omega
  exact nd_len nd fun x hx => (h.live x hx).1
theorem Bf.nf {T : Tbl} {G : Nat → Prop} {m : Nat} {met : List Nat} {R : Tbl} {g : List Nat} (wf : Wf T m) (h : Bf T G m met R []) (hR : R.length = met.length) (hg : ∀ i : Nat, i ∈ g ↔ ∃ s, met[i]? = some s ∧ G s) (asc : g.Pairwise (· < ·)) : NfOf T G m R g met where
  zero := h.zero
  len := hR
  row := h.row
  live := h.live
  ap := h.ap
  no := fun i s k hs hn e he _ => by
    have hi := (List.getElem?_eq_some_iff.mp hs).1
    have := h.no i s k (.inl ⟨by omega, (nx_lt wf he).2.1⟩) hs (by rw [nx_close]; exact hn)
    rw [this] at he
    cases he
  yes := fun i s k j hs hy => h.yes i s k j hs (by rw [nx_close]; exact hy)
  good := hg
  asc := asc
  ord := fun j j0 jl => by
    obtain ⟨i, k, h1, h2, h3⟩ := h.ord j j0 jl
    rw [nx_close] at h2
    exact ⟨i, k, h1, h2, fun i' k' j' hb hy => h3 i' k' j' hb (by rw [nx_close]; exact hy)⟩
/-! ### letters -/
def ixOf : List Nat → Nat → Option Nat
  | [], _ => none
  | x :: l, c => if x = c then some 0 else (ixOf l c).map (· + 1)
theorem ixOf_some : ∀ {l : List Nat} {c i : Nat}, ixOf l c = some i → l[i]? = some c
  | [], _, _, h => by cases h
  | x :: l, c, i, h => by
    unfold ixOf at h
    by_cases e : x = c
    · rw [if_pos e] at h
      cases h
      rw [e]
      rfl
    · rw [if_neg e] at h
      obtain ⟨j, hj, rfl⟩ := Option.map_eq_some_iff.mp h
      show l[j]? = some c
      exact ixOf_some hj
theorem ixOf_none : ∀ {l : List Nat} {c : Nat}, ixOf l c = none ↔ c ∉ l
  | [], _ => ⟨fun _ h => (by cases h), fun _ => rfl⟩
  | x :: l, c => by
    unfold ixOf
    by_cases e : x = c
    · rw [if_pos e]
      exact ⟨fun h => (by cases h), fun h => absurd (by rw [e]; exact List.mem_cons_self) h⟩
    · rw [if_neg e, Option.map_eq_none_iff, ixOf_none]
      exact ⟨fun h m => (List.mem_cons.mp m).elim (fun z => e z.symm) h, fun h m => h (List.mem_cons_of_mem _ m)⟩
theorem rs_app (T : Tbl) (ix : Nat → Option Nat) : ∀ (u : List Nat) (o : Option Nat) (v : List Nat), rs T ix o (u ++ v) = rs T ix (rs T ix o u) v
  | [], _, _ => rfl
  | _ :: _, none, v => (rs_none T ix v).symm
  | c :: u, some s, v => by
    show (match ix c with | none => none | some k => rs T ix (nx T s k) (u ++ v)) = rs T ix (match ix c with | none => none | some k => rs T ix (nx T s k) u) v
    cases ix c with
    | none => exact (rs_none T ix v).symm
    | some k => exact rs_app T ix u (nx T s k) v
theorem rs_one {T : Tbl} {ix : Nat → Option Nat} {s c : Nat} : rs T ix (some s) [c] = match ix c with | none => none | some k => nx T s k := by
  show (match ix c with | none => none | some k => rs T ix (nx T s k) []) = _
  cases ix c with
  | none => rfl
  | some k =>
    show rs T ix (nx T s k) [] = nx T s k
    cases nx T s k <;> rfl
theorem Nf.wf {T : Tbl} {G : Nat → Prop} {m : Nat} {R : Tbl} {g : List Nat} (h : Nf T G m R g) : Wf R m ∧ ∀ j ∈ g, j < R.length := by
  rcases h with ⟨rfl, rfl, _⟩ | ⟨met, h⟩
  · exact ⟨⟨fun r m => absurd m (by simp), fun r m => absurd m (by simp)⟩, fun j m => absurd m (by simp)⟩
  · refine ⟨⟨h.row, fun r hr e he => ?_⟩, fun j hj => ?_⟩
    · obtain ⟨i, hi, rfl⟩ := List.getElem_of_mem hr
      obtain ⟨k, hk, ek⟩ := List.getElem_of_mem he
      have hm : i < met.length := by rw [← h.len]; exact hi
      obtain ⟨_, t, _, h2, _⟩ := h.yes i met[i] k e (List.getElem?_eq_getElem hm) (nx_at (List.getElem?_eq_getElem hi) (by rw [List.getElem?_eq_getElem hk, ek]))
      rw [h.len]
      exact (List.getElem?_eq_some_iff.mp h2).1
    · obtain ⟨s, hs, _⟩ := (h.good j).mp hj
      rw [h.len]
      exact (List.getElem?_eq_some_iff.mp hs).1
theorem cnt_all {al : Nat → Bool} : ∀ {n : Nat}, n ≤ cnt al n → ∀ s, s < n → al s = true
  | 0, _, s, hs => absurd hs (Nat.not_lt_zero _)
  | n + 1, h, s, hs => by
    rw [cnt_succ] at h
    have le := cnt_le al n
    cases e : al n with
    | false =>
      rw [e] at h
      simp at h
      omega
    | true =>
      by_cases c : s = n
      · rw [c]; exact e
      · rw [e] at h
        simp at h
        exact cnt_all (by omega) s (by omega)
/-- one round over all states -/
theorem round_end {T : Tbl} {m r : Nat} {a0 al : Nat → Bool} (wf : Wf T m) (h0 : r ≤ cnt a0 T.length ∨ ∀ s k e, nx T s k = some e → a0 e = true → a0 s = true) (mo : ∀ s, a0 s = true → al s = true) (cl : (∀ s k e, nx T s k = some e → a0 e = true → a0 s = true) → ∀ s, al s = a0 s)
    (st : ∀ s, s < T.length → ∀ k e, nx T s k = some e → a0 e = true → al s = true) : r + 1 ≤ cnt al T.length ∨ ∀ s k e, nx T s k = some e → al e = true → al s = true := by
  by_cases c : ∀ s k e, nx T s k = some e → a0 e = true → a0 s = true
  · right
    intro s k e h1 h2
    rw [cl c] at h2 ⊢
    exact c s k e h1 h2
  · have h1 := h0.resolve_right c
    by_cases d : ∃ x, x < T.length ∧ a0 x = false ∧ al x = true
    · obtain ⟨x, hx, e1, e2⟩ := d
      have := cnt_lt (n := T.length) (fun s _ => mo s) hx e1 e2
      left
      omega
    · refine absurd (fun s k e h2 h3 => ?_) c
      have hs := (nx_lt wf h2).2.2
      cases e4 : a0 s with
      | true => rfl
      | false => exact absurd ⟨s, hs, e4, st s hs k e h2 h3⟩ d
end Mc
set_option Elab.async false
set_option linter.all false
set_option maxRecDepth 100000
namespace Z
open PySem PySem.Spec PyProof.Rows L2 Mc
def eV : Option Nat → V
  | none => .non
  | some k => .int (k : Int)
/-- a table: a list (or tuple) of lists (or tuples) -/
structure Tb (q q2 : Bool) (K : PySem.W.Frag) (H : Hp) (a : Addr) (zs : List (Addr × List (Option Nat))) : Prop where
  sq : SqK q K H a (zs.map fun z => V.ref z.1)
  at_ : ∀ z ∈ zs, SqK q2 K H z.1 (z.2.map eV)
theorem Tb.mono {q q2 : Bool} {K : PySem.W.Frag} {H H' : Hp} {a : Addr} {zs : List (Addr × List (Option Nat))} (s : Same H H') (h : Tb q q2 K H a zs) : Tb q q2 K H' a zs := ⟨Z.Same.sqK s h.sq, fun z m => Z.Same.sqK s (h.at_ z m)⟩
def tb (zs : List (Addr × List (Option Nat))) : Tbl := zs.map (·.2)
def gsq (gs : List Nat) : List V := gs.map fun (g : Nat) => .int (g : Int)
/-! ### tables as data -/
def eD : Option Nat → PyData
  | none => .none
  | some k => .int (k : Int)
def rowD (b : Bool) (r : List (Option Nat)) : PyData := sqD b (r.map eD)
def tbD (b b2 : Bool) (T : Tbl) : PyData := sqD b (T.map (rowD b2))
theorem dpa_row {K : PySem.W.Frag} {H : Hp} : ∀ r : List (Option Nat), DpAll K H (r.map eV) (r.map eD)
  | [] => .nil
  | none :: r => .cons .non (dpa_row r)
  | some k :: r => .cons (.int _) (dpa_row r)
theorem dp_row {b : Bool} {K : PySem.W.Frag} {H : Hp} {a : Addr} {r : List (Option Nat)} (h : SqK b K H a (r.map eV)) : Dp K H (.ref a) (rowD b r) := dp_sq h (dpa_row r)
theorem dpa_tb {b : Bool} {K : PySem.W.Frag} {H : Hp} : ∀ {zs : List (Addr × List (Option Nat))}, (∀ z ∈ zs, SqK b K H z.1 (z.2.map eV)) → DpAll K H (zs.map fun z => V.ref z.1) ((tb zs).map (rowD b))
  | [], _ => .nil
  | z :: zs, h => .cons (dp_row (h z List.mem_cons_self)) (dpa_tb fun y m => h y (List.mem_cons_of_mem _ m))
theorem Tb.dp {q q2 : Bool} {K : PySem.W.Frag} {H : Hp} {a : Addr} {zs : List (Addr × List (Option Nat))} (h : Tb q q2 K H a zs) : Dp K H (.ref a) (tbD q q2 (tb zs)) := dp_sq h.sq (dpa_tb h.at_)
theorem lay_row : ∀ r : List (Option Nat), PyData.canLayAll0 (r.map eD) = true
  | [] => rfl
  | none :: r => by
    rw [List.map_cons, PyData.canLayAll0, lay_row r]
    rfl
  | some _ :: r => by
    rw [List.map_cons, PyData.canLayAll0, lay_row r]
    rfl
theorem dep_row : ∀ r : List (Option Nat), PyData.depthAll (r.map eD) = 0
  | [] => rfl
  | none :: r => by
    rw [List.map_cons, PyData.depthAll, dep_row r]
    rfl
  | some _ :: r => by
    rw [List.map_cons, PyData.depthAll, dep_row r]
    rfl
theorem shaped_row (b : Bool) (r : List (Option Nat)) : SeqAt.shaped (rowD b r) = true := by
  unfold SeqAt.shaped rowD
  cases b
  · show (PyData.canLayAll0 (r.map eD) && decide (PyData.depthAll (r.map eD) + 1 ≤ 64)) = true
    rw [lay_row, dep_row]
    rfl
  · show (PyData.canLayAll0 (r.map eD) && decide (PyData.depthAll (r.map eD) + 1 ≤ 64)) = true
    rw [lay_row, dep_row]
    rfl
theorem lay_tb (b : Bool) : ∀ T : Tbl, PyData.canLayAll0 (T.map (rowD b)) = true
  | [] => rfl
  | n :: r => by
    rw [List.map_cons, PyData.canLayAll0, lay_tb b r, SeqAt.canLay_of_shaped (shaped_row b n)]
    rfl
theorem dep_tb (b : Bool) : ∀ T : Tbl, PyData.depthAll (T.map (rowD b)) ≤ 1
  | [] => Nat.zero_le _
  | n :: r => by
    rw [List.map_cons, PyData.depthAll]
    have h := dep_tb b r
    have h2 : (rowD b n).depth = 1 := by
      cases b
      · show PyData.depthAll (n.map eD) + 1 = 1
        rw [dep_row]
      · show PyData.depthAll (n.map eD) + 1 = 1
        rw [dep_row]
    omega
theorem shaped_tb (b b2 : Bool) (T : Tbl) : SeqAt.shaped (tbD b b2 T) = true := by
  have h := dep_tb b2 T
  unfold SeqAt.shaped tbD
  cases b
  · show (PyData.canLayAll0 (T.map (rowD b2)) && decide (PyData.depthAll (T.map (rowD b2)) + 1 ≤ 64)) = true
    rw [lay_tb, decide_eq_true (by omega)]
    rfl
  · show (PyData.canLayAll0 (T.map (rowD b2)) && decide (PyData.depthAll (T.map (rowD b2)) + 1 ≤ 64)) = true
    rw [lay_tb, decide_eq_true (by omega)]
    rfl
theorem eqv_e (a b : Option Nat) : PyData.eqv (eD a) (eD b) = decide (a = b) := by
  cases a <;> cases b
  · rfl
  · rfl
  · rfl
  · rename_i x y
    show PyData.eqv (.int (x : Int)) (.int (y : Int)) = _
    rw [PyData.eqv]
    by_cases h : x = y
    · subst h
      simp
    · have h2 : ¬ (x : Int) = (y : Int) := by omega
      have h3 : ¬ (some x = some y) := fun z => h (by injection z)
      rw [decide_eq_false h3]
      simp [h2]
theorem eqvAll_row : ∀ r s : List (Option Nat), PyData.eqvAll (r.map eD) (s.map eD) = decide (r = s)
  | [], [] => rfl
  | [], _ :: _ => rfl
  | _ :: _, [] => rfl
  | a :: r, b :: s => by
    rw [List.map_cons, List.map_cons, PyData.eqvAll, eqv_e, eqvAll_row r s]
    by_cases h1 : a = b
    · by_cases h2 : r = s
      · simp [h1, h2]
      · simp [h1, h2]
    · simp [h1]
theorem eqv_row (b : Bool) (r s : List (Option Nat)) : PyData.eqv (rowD b r) (rowD b s) = decide (r = s) := by
  cases b
  · show PyData.eqv (.tuple _) (.tuple _) = _
    rw [PyData.eqv, eqvAll_row]
  · show PyData.eqv (.list _) (.list _) = _
    rw [PyData.eqv, eqvAll_row]
theorem eqvAll_tb (b : Bool) : ∀ T U : Tbl, PyData.eqvAll (T.map (rowD b)) (U.map (rowD b)) = decide (T = U)
  | [], [] => rfl
  | [], _ :: _ => rfl
  | _ :: _, [] => rfl
  | a :: r, c :: s => by
    rw [List.map_cons, List.map_cons, PyData.eqvAll, eqv_row, eqvAll_tb b r s]
    by_cases h1 : a = c
    · by_cases h2 : r = s
      · simp [h1, h2]
      · simp [h1, h2]
    · simp [h1]
theorem eqv_tb (b b2 : Bool) (T U : Tbl) : PyData.eqv (tbD b b2 T) (tbD b b2 U) = decide (T = U) := by
  cases b
  · show PyData.eqv (.tuple _) (.tuple _) = _
    rw [PyData.eqv, eqvAll_tb]
  · show PyData.eqv (.list _) (.list _) = _
    rw [PyData.eqv, eqvAll_tb]
/-! ### lists of numbers as data -/
def natD (b : Bool) (g : List Nat) : PyData := intsD b (g.map fun (x : Nat) => (x : Int))
theorem gsq_ints (g : List Nat) : gsq g = (g.map fun (x : Nat) => (x : Int)).map V.int := by
  unfold gsq
  rw [List.map_map]
  rfl
theorem dp_nat {b : Bool} {K : PySem.W.Frag} {H : Hp} {a : Addr} {g : List Nat} (h : SqK b K H a (gsq g)) : Dp K H (.ref a) (natD b g) := by
  rw [gsq_ints] at h
  exact dp_ints h
theorem shaped_nat (b : Bool) (g : List Nat) : SeqAt.shaped (natD b g) = true := shaped_ints _ _
theorem natI_inj : ∀ {g h : List Nat}, (g.map fun (x : Nat) => (x : Int)) = (h.map fun (x : Nat) => (x : Int)) → g = h
  | [], [], _ => rfl
  | [], _ :: _, e => by cases e
  | _ :: _, [], e => by cases e
  | a :: g, b :: h, e => by
    rw [List.map_cons, List.map_cons] at e
    injection e with e1 e2
    rw [show a = b by omega, natI_inj e2]
theorem eqv_nat (b : Bool) (g h : List Nat) : PyData.eqv (natD b g) (natD b h) = decide (g = h) := by
  have key : PyData.eqv (natD b g) (natD b h) = decide ((g.map fun (x : Nat) => (x : Int)) = (h.map fun (x : Nat) => (x : Int))) := by
    cases b
    · show PyData.eqv (.tuple _) (.tuple _) = _
      rw [PyData.eqv, PySem.W.ked_eqvAll]
    · show PyData.eqv (.list _) (.list _) = _
      rw [PyData.eqv, PySem.W.ked_eqvAll]
  rw [key]
  exact decide_eq_decide.mpr ⟨natI_inj, fun e => by rw [e]⟩
end Z
set_option pp.maxSteps 700
set_option Elab.async false
set_option linter.all false
set_option maxRecDepth 100000
set_option maxHeartbeats 4000000
open SX (S S_inj S_len S_cat)
namespace Z
open Mc
open PySem PySem.Spec PyProof.Rows L2
open C8 (pss_cut tCut)
local macro_rules | `(tactic| walk_at "num") => `(tactic| first | rfl | omega | decide | exact Nat.le_of_lt (small1000 (by simp)) | exact ⟨by omega, by omega⟩ | exact ⟨by omega, by omega, by omega⟩ | exact ⟨by decide, by decide, by decide⟩ | exact Or.inl ⟨by omega, by omega⟩ | exact Or.inr ⟨by omega, by omega⟩)
local macro_rules | `(tactic| walk_at "go") => `(tactic| repeat (first | refine ⟨_, rfl, ?_⟩ | refine ⟨_, _, rfl, rfl, ?_⟩ | refine ⟨_, _, rfl, ?_⟩ | (refine ⟨_, _, rfl, rfl, ?_, ?_⟩; focus walk_at "num") | refine Or.inl ⟨_, rfl, ?_⟩ | refine ⟨_, _, _, _, rfl, rfl, (by assumption), (by rfl), ?_⟩ | refine ⟨_, _, _, _, _, rfl, (by assumption), (by assumption), (by assumption), (by rfl), ?_⟩ | refine ⟨rfl, ?_⟩ | (refine And.intro ?_ ?_; focus walk_at "num")))
abbrev s_check_letters : Stmt := topS 20
abbrev N_check_letters : List Str := ["letters", "index", "letter"]
abbrev P_check_letters : List Str := ["letters"]
theorem sc_check_letters : FnScope N_check_letters P_check_letters (defScope s_check_letters) := ⟨rfl, rfl, rfl, by decide +kernel, rfl, by decide +kernel, by decide +kernel⟩
abbrev s_check_rows : Stmt := topS 21
abbrev N_check_rows : List Str := ["many", "rows", "state", "row", "entry"]
abbrev P_check_rows : List Str := ["many", "rows"]
theorem sc_check_rows : FnScope N_check_rows P_check_rows (defScope s_check_rows) := ⟨rfl, rfl, rfl, by decide +kernel, rfl, by decide +kernel, by decide +kernel⟩
abbrev s_flags_of : Stmt := topS 8
abbrev N_flags_of : List Str := ["many", "states", "state", "found"]
abbrev P_flags_of : List Str := ["many", "states"]
theorem sc_flags_of : FnScope N_flags_of P_flags_of (defScope s_flags_of) := ⟨rfl, rfl, rfl, by decide +kernel, rfl, by decide +kernel, by decide +kernel⟩
theorem set_flag {n g : Nat} {gs : List Nat} : ((List.range n).map fun i => V.bl (decide (i ∈ gs))).set g (V.bl true) = (List.range n).map fun i => V.bl (decide (i ∈ gs ++ [g])) := by
  apply List.ext_getElem
  · rw [List.length_set, List.length_map, List.length_map]
  · intro i h1 h2
    rw [List.length_map, List.length_range] at h2
    rw [List.getElem_set, List.getElem_map, List.getElem_map, List.getElem_range]
    by_cases c : g = i
    · rw [if_pos c, decide_eq_true (by rw [c]; exact List.mem_append_right _ List.mem_cons_self)]
    · rw [if_neg c]
      congr 1
      refine decide_eq_decide.mpr ⟨fun m => List.mem_append_left _ m, fun m => ?_⟩
      rcases List.mem_append.mp m with m | m
      · exact m
      · exact absurd (List.mem_singleton.mp m).symm c
section
variable {P : Program} {w : World} {K : PySem.W.Frag} {mg : Str → Option Value} {base : Heap} {f : Addr} {fd : FuncData}
def spCkL : Sp := fun vs H Q _ => ∃ l : List Nat, vs = [.str (S l)] ∧ l.Nodup ∧ l ≠ [] ∧ l.length ≤ 100000 ∧ ∀ H', Same H H' → Q .non H'
theorem ok_check_letters (F : FnP K "check_letters" s_check_letters f fd) (m_enumerate : mg "enumerate" = none) : FnOk P w K mg base CX0 1 f fd P_check_letters spCkL := by
  refine F.ok sc_check_letters (fun vs H Q E h => ?_) (fun cdv A outer s H vs Q E hr h => ?_)
  · obtain ⟨l, rfl, _⟩ := h
    rfl
  · obtain ⟨l, rfl, nd, ne, ll, q⟩ := h
    refine ⟨_, PSs.nox (pss_cons (ps_for PassesOwn.never rfl (pi_enumS (by rfl) m_enumerate (pa_cons (pv 0) pa_nil)) (pg_tup rfl (pgs_cons (pg_name (i := 1) sc_check_letters.nd rfl (by first | exact .inl rfl | exact .inr rfl)) (pgs_cons (pg_name (i := 2) sc_check_letters.nd rfl (by first | exact .inl rfl | exact .inr rfl)) pgs_nil)))
        (pss_one (ps_if (pt_cmpR op_in_sign (pv 2) (pe_slice C8.sl_txt (pv 0) po_none (po_some (pv 1))) (by rfl)) (pss_one ps_never) pss_nil)))
      (pss_one (ps_if (pt_cmpR op_eq (pv 0) pe_str (nomark _)) (pss_one ps_never) pss_nil))), ?_⟩
    walk_at "go"
    refine for_enumS (K := K) (fun k σ H1 => Same H H1 ∧ ∃ v1 v2 : Option V, σ = [some (.str (S l)), v1, v2]) ⟨Same.refl _, none, none, rfl⟩ ?_ ?_
    · rintro k c σ H1 H2 ec ⟨s1, v1, v2, rfl⟩ s2
      have ec : l[k]? = some c := by simpa using ec
      have hk := (List.getElem?_eq_some_iff.mp ec).1
      walk_at "go"
      refine ⟨by rw [S_len]; exact Nat.le_trans ll (by decide), ?_⟩
      rw [SX.slice_to (by omega), Int.toNat_natCast]
      walk_at "go"
      have no : c ∉ (S (l.take k)).cps.toList := by
        show c ∉ l.take k
        intro hm
        obtain ⟨j, hj, e⟩ := List.getElem_of_mem hm
        rw [List.length_take] at hj
        rw [List.getElem_take] at e
        have h2 := List.getElem?_eq_getElem (show j < l.length by omega)
        rw [e] at h2
        have := nd_inj nd h2 ec
        omega
      rw [decide_eq_false no]
      walk_at "go"
      exact ⟨s1.trans s2, _, _, rfl⟩
    · rintro σ H1 ⟨s1, v1, v2, rfl⟩
      walk_at "go"
      rw [decide_eq_false (show ¬ V.str (S l) = V.str (Str.ofString "") from fun z => by injection z with z; exact ne (S_inj (z.trans (show Str.ofString "" = S [] from rfl))))]
      exact q H1 s1
def spCkR (K : PySem.W.Frag) : Sp := fun vs H Q _ => ∃ (q q2 : Bool) (m : Nat) (a : Addr) (zs : List (Addr × List (Option Nat))), vs = [.int (m : Int), .ref a] ∧ Tb q q2 K H a zs ∧ Wf (tb zs) m ∧ ∀ H', Same H H' → Q .non H'
theorem ok_check_rows (F : FnP K "check_rows" s_check_rows f fd) (m_enumerate : mg "enumerate" = none) (m_len : mg "len" = none) : FnOk P w K mg base CX0 1 f fd P_check_rows (spCkR K) := by
  refine F.ok sc_check_rows (fun vs H Q E h => ?_) (fun cdv A outer s H vs Q E hr h => ?_)
  · obtain ⟨q, q2, m, a, zs, rfl, _⟩ := h
    rfl
  · obtain ⟨q, q2, m, a, zs, rfl, hT, wf, qq⟩ := h
    refine ⟨_, PSs.nox (pss_one (ps_for PassesOwn.never rfl (pi_enumM (by rfl) m_enumerate (pa_cons (pv 1) pa_nil)) (pg_tup rfl (pgs_cons (pg_name (i := 2) sc_check_rows.nd rfl (by first | exact .inl rfl | exact .inr rfl)) (pgs_cons (pg_name (i := 3) sc_check_rows.nd rfl (by first | exact .inl rfl | exact .inr rfl)) pgs_nil)))
        (pss_cons (ps_if (pt_cmpR op_ne (pe_callB call_len_seq (by rfl) m_len PySem.boot_len (pa_cons (pv 3) pa_nil)) (pv 0) (nomark _)) (pss_one ps_never) pss_nil)
      (pss_one (ps_for PassesOwn.never rfl (pi_sq (pv 3)) (pg_name (i := 4) sc_check_rows.nd rfl (by first | exact .inl rfl | exact .inr rfl))
        (pss_one (ps_if (PW.pt (pw_and (pt_cmpR op_notN (pv 4) pe_non (nomark _)) (pw_and1 (pt_not (pt_chain op_le op_lt pe_int (pv 4) (pe_callB call_len_seq (by rfl) m_len PySem.boot_len (pa_cons (pv 1) pa_nil))))))) (pss_one ps_never) pss_nil))))))), ?_⟩
    walk_at "go"
    refine ⟨q, _, _, rfl, hT.sq, ?_⟩
    refine for_enum hT.sq (fun k σ H1 => Same H H1 ∧ ∃ v2 v3 v4 : Option V, σ = [some (.int (m : Int)), some (.ref a), v2, v3, v4]) ⟨Same.refl _, none, none, none, rfl⟩ (fun k σ H1 p => p.1) ?_ ?_
    · rintro k x σ H1 H2 ex ⟨s1, v2, v3, v4, rfl⟩ s2
      rw [List.getElem?_map] at ex
      obtain ⟨z, ez, rfl⟩ := Option.map_eq_some_iff.mp ex
      have hT2 := hT.mono (s1.trans s2)
      have zm := List.mem_of_getElem? ez
      have hz := hT2.at_ z zm
      have mz : z.2 ∈ tb zs := List.mem_map.mpr ⟨z, zm, rfl⟩
      have lz := wf.row _ mz
      walk_at "go"
      refine ⟨z.1, _, rfl, sqk_or hz, ?_⟩
      rw [List.length_map, lz]
      walk_at "go"
      rw [decide_eq_true rfl]
      walk_at "go"
      refine rd_sq (b := q2) rfl hz ?_
      refine for_gen (n := m) (fun i σ J => Same H J ∧ ∃ v4 : Option V, σ = [some (.int (m : Int)), some (.ref a), some (.int (k : Int)), some (.ref z.1), v4]) ⟨s1.trans s2, v4, rfl⟩ ?_ ?_ ?_ ?_
      · rintro i σ J hi ⟨s3, _⟩
        exact itq_go (Z.Same.sqK s3 ((hT.at_ z zm))) (x := eV (z.2.getD i none)) (by rw [List.getElem?_map, List.getD_eq_getElem?_getD, List.getElem?_eq_getElem (by omega)]; rfl)
      · rintro σ J ⟨s3, _⟩
        exact itq_stop (Z.Same.sqK s3 ((hT.at_ z zm))) (by rw [List.length_map]; omega)
      · rintro i σ J x J' hi ⟨s3, v4, rfl⟩ y
        obtain ⟨rfl, ex⟩ := itq_yld (Z.Same.sqK s3 ((hT.at_ z zm))) y
        have hi2 : i < z.2.length := by omega
        rw [List.getElem?_map, List.getElem?_eq_getElem hi2] at ex
        cases ex
        have me : z.2[i] ∈ z.2 := List.getElem_mem hi2
        have ent := wf.ent _ mz
        generalize z.2[i] = e at me
        cases e with
        | none =>
          walk_at "go"
          exact ⟨_, rfl⟩
        | some e =>
          have lt : e < zs.length := by simpa [tb] using ent e me
          dsimp only [eV]
          walk_at "go"
          refine ⟨a, _, rfl, sqk_or (Z.Same.sqK s3 hT.sq), ?_⟩
          rw [List.length_map]
          walk_at "go"
          rw [decide_eq_true (show (e : Int) < (zs.length : Int) by omega)]
          walk_at "go"
          exact ⟨_, rfl⟩
      · rintro σ J ⟨s3, v4, rfl⟩
        exact ⟨s3, _, _, _, rfl⟩
    · rintro σ H1 ⟨s1, v2, v3, v4, rfl⟩
      exact qq H1 s1
def spFlags (K : PySem.W.Frag) : Sp := fun vs H Q _ => ∃ (q : Bool) (n : Nat) (a : Addr) (gs : List Nat), vs = [.int (n : Int), .ref a] ∧ SqK q K H a (gsq gs) ∧ (∀ g ∈ gs, g < n) ∧ n ≤ 1000000 ∧ ∀ (L : Addr) H', Same H H' → H L = none → H' L = some (.lst ((List.range n).map fun i => V.bl (decide (i ∈ gs)))) → Q (.ref L) H'
theorem ok_flags_of (F : FnP K "flags_of" s_flags_of f fd) (m_range : mg "range" = none) : FnOk P w K mg base CX0 1 f fd P_flags_of (spFlags K) := by
  refine F.ok sc_flags_of (fun vs H Q E h => ?_) (fun cdv A outer s H vs Q E hr h => ?_)
  · obtain ⟨q, n, a, gs, rfl, _⟩ := h
    rfl
  · obtain ⟨q, n, a, gs, rfl, hS, hg, hn, qq⟩ := h
    refine ⟨_, PSs.nox (pss_cons (ps_setLc (i := 3) (own := [("state", 2)]) (g := (gName 2)) (tt := tYes) (by rfl) sc_flags_of.nd rfl rfl (sw_true rfl rfl rfl (by decide +kernel)) (pi_range1 (by rfl) m_range (pa_cons (pv 0) pa_nil)) (blkOk_by (own := [("state", 2)]) (N := N_flags_of) (sc := defScope s_flags_of) (by decide +kernel)) (fun _ _ _ _ _ => (pg_name (i := 2) sc_flags_of.nd rfl (by first | exact .inl rfl | exact .inr rfl))) (fun _ _ _ _ _ => pts_nil) (fun _ _ _ _ _ => pe_bl))
      (pss_cons (ps_for PassesOwn.never rfl (pi_sq (pv 1)) (pg_name (i := 2) sc_flags_of.nd rfl (by first | exact .inl rfl | exact .inr rfl))
        (pss_one (ps_asg pe_bl (pg_sub (pv 3) (pv 2) set_list))))
      (pss_one (ps_ret (pv 3))))), ?_⟩
    walk_at "go"
    intro L nL
    refine lc_gen (n := n) (fun k J => Same H J ∧ J L = some (.lst ((List.range k).map fun _ => V.bl false))) ⟨same_new nL, upd_same⟩ ?_ ?_ ?_ ?_
    · intro k J hk _
      show k < ((n : Int)).toNat
      omega
    · intro J _
      show ((n : Int)).toNat ≤ n
      omega
    · rintro k J x J' hk ⟨s1, eL⟩ ⟨rfl, rfl⟩
      walk_at "go"
      refine ⟨_, eL, by rw [List.length_map, List.length_range]; exact szC (by omega), Z.Same.mut s1 nL, ?_⟩
      rw [upd_same, List.range_succ, List.map_append]
      rfl
    rintro J ⟨s1, eL⟩
    walk_at "go"
    have lg : (gsq gs).length = gs.length := List.length_map ..
    refine rd_sq (b := q) rfl (Z.Same.sqK s1 hS) ?_
    refine for_gen (n := gs.length) (fun k σ J => Same H J ∧ J L = some (.lst ((List.range n).map fun i => V.bl (decide (i ∈ gs.take k)))) ∧ ∃ v2 : Option V, σ = [some (.int (n : Int)), some (.ref a), v2, some (.ref L)]) ⟨s1, by rw [eL]; simp, none, rfl⟩ ?_ ?_ ?_ ?_
    · rintro k σ J hk ⟨s2, _⟩
      exact itq_go (Z.Same.sqK s2 hS) (x := .int ((gs[k] : Nat) : Int)) (by unfold gsq; rw [List.getElem?_map, List.getElem?_eq_getElem hk]; rfl)
    · rintro σ J ⟨s2, _⟩
      exact itq_stop (Z.Same.sqK s2 hS) (by omega)
    · rintro k σ J x J' hk ⟨s2, eL, v2, rfl⟩ y
      obtain ⟨rfl, ex⟩ := itq_yld (Z.Same.sqK s2 hS) y
      unfold gsq at ex
      rw [List.getElem?_map, List.getElem?_eq_getElem hk] at ex
      cases ex
      have hgk := hg _ (List.getElem_mem hk)
      have tk : gs.take (k + 1) = gs.take k ++ [gs[k]] := by
        rw [List.take_succ, List.getElem?_eq_getElem hk]
        rfl
      generalize gs[k] = g at hgk tk
      walk_at "go"
      refine ⟨L, _, _, g, rfl, rfl, eL, by rw [List.length_map, List.length_range]; exact ixN_nat hgk, ?_⟩
      refine ⟨Z.Same.mut s2 nL, ?_, _, rfl⟩
      rw [upd_same, tk, set_flag]
    · rintro σ J ⟨s2, eL, v2, rfl⟩
      rw [List.take_length] at eL
      walk_at "go"
      exact qq L J s2 nL eL
end
end Z
set_option pp.maxSteps 700
set_option Elab.async false
set_option linter.all false
set_option maxRecDepth 100000
set_option maxHeartbeats 4000000
open SX (S S_inj S_len S_cat)
namespace Z
open Mc
open PySem PySem.Spec PyProof.Rows L2
open C8 (pss_cut tCut)
local macro_rules | `(tactic| walk_at "num") => `(tactic| first | rfl | omega | decide | exact Nat.le_of_lt (small1000 (by simp)) | exact ⟨by omega, by omega⟩ | exact ⟨by omega, by omega, by omega⟩ | exact ⟨by decide, by decide, by decide⟩ | exact Or.inl ⟨by omega, by omega⟩ | exact Or.inr ⟨by omega, by omega⟩)
local macro_rules | `(tactic| walk_at "go") => `(tactic| repeat (first | refine ⟨_, rfl, ?_⟩ | refine ⟨_, _, rfl, rfl, ?_⟩ | refine ⟨_, _, rfl, ?_⟩ | (refine ⟨_, _, rfl, rfl, ?_, ?_⟩; focus walk_at "num") | refine Or.inl ⟨_, rfl, ?_⟩ | refine ⟨_, _, _, _, rfl, rfl, (by assumption), (by rfl), ?_⟩ | refine ⟨_, _, _, _, _, rfl, (by assumption), (by assumption), (by assumption), (by rfl), ?_⟩ | refine ⟨rfl, ?_⟩ | (refine And.intro ?_ ?_; focus walk_at "num")))
abbrev s_live_rows : Stmt := topS 9
abbrev N_live_rows : List Str := ["rows", "good", "flag", "alive", "changed", "state", "row", "entry", "kept"]
abbrev P_live_rows : List Str := ["rows", "good"]
theorem sc_live_rows : FnScope N_live_rows P_live_rows (defScope s_live_rows) := ⟨rfl, rfl, rfl, by decide +kernel, rfl, by decide +kernel, by decide +kernel⟩
def bls (n : Nat) (al : Nat → Bool) : List V := (List.range n).map fun i => V.bl (al i)
theorem row_at {r : List (Option Nat)} {i : Nat} (h : i < r.length) : (r.map eV)[i]? = some (eV (r.getD i none)) := by
  rw [List.getElem?_map, List.getD_eq_getElem?_getD, List.getElem?_eq_getElem h]
  rfl
theorem row_nx {zs : List (Addr × List (Option Nat))} {k i : Nat} {z : Addr × List (Option Nat)} (h : zs[k]? = some z) (hi : i < z.2.length) : z.2.getD i none = nx (tb zs) k i :=
  (nx_at (by unfold tb; rw [List.getElem?_map, h]; rfl) (by rw [List.getD_eq_getElem?_getD, List.getElem?_eq_getElem hi]; rfl)).symm
def elB (al : Nat → Bool) : Option Nat → Bool
  | none => false
  | some e => al e
theorem bls_at {n i : Nat} {al : Nat → Bool} (h : i < n) : atI (bls n al) (i : Int) = some (.bl (al i)) := atI_nat (by unfold bls; rw [List.getElem?_map, List.getElem?_range h]; rfl)
theorem bls_set {n i : Nat} {al : Nat → Bool} : (bls n al).set i (V.bl true) = bls n fun j => if j = i then true else al j := by
  unfold bls
  apply List.ext_getElem
  · rw [List.length_set, List.length_map, List.length_map]
  · intro j h1 h2
    rw [List.length_map, List.length_range] at h2
    rw [List.getElem_set, List.getElem_map, List.getElem_map, List.getElem_range]
    by_cases c : i = j
    · subst c
      simp
    · have c2 : ¬ j = i := fun z => c z.symm
      simp [c, c2]
theorem bls_len (n : Nat) (al : Nat → Bool) : (bls n al).length = n := by unfold bls; rw [List.length_map, List.length_range]
theorem fltL_all {n : Nat} {g : Nat → V} : fltL (fun _ => true) g n = (List.range n).map g := by
  unfold fltL
  rw [List.filter_eq_self.mpr fun _ _ => rfl]
theorem row_range {β : Type} {r : List (Option Nat)} {f : Option Nat → β} : ((List.range r.length).map fun i => f (r.getD i none)) = r.map f := by
  apply List.ext_getElem
  · rw [List.length_map, List.length_map, List.length_range]
  · intro i h1 h2
    rw [List.length_map] at h2
    rw [List.getElem_map, List.getElem_map, List.getElem_range, List.getD_eq_getElem?_getD, List.getElem?_eq_getElem h2]
    rfl
theorem ne_of_none' {H : Hp} {B L : Addr} {o : HO} (s4 : H L = some o) (n : H B = none) : B ≠ L := fun e => by
  rw [e, s4] at n
  cases n
section
variable {P : Program} {w : World} {K : PySem.W.Frag} {mg : Str → Option Value} {base : Heap} {f : Addr} {fd : FuncData}
def inG (gs : List Nat) : Nat → Prop := fun s => s ∈ gs
def spLive (K : PySem.W.Frag) : Sp := fun vs H Q _ => ∃ (q q2 q3 : Bool) (m : Nat) (a g : Addr) (zs : List (Addr × List (Option Nat))) (gs : List Nat), vs = [.ref a, .ref g] ∧ Tb q q2 K H a zs ∧ Wf (tb zs) m ∧ m ≤ 1000 ∧ zs.length ≤ 1000000 ∧ SqK q3 K H g (gsq gs) ∧ (∀ s ∈ gs, s < zs.length) ∧
  ∀ (L : Addr) (zk : List (Addr × List (Option Nat))) H', Same H H' → H L = none → Tb true true K H' L zk → ((zk = [] ∧ (zs = [] ∨ ¬ Liv (tb zs) (inG gs) 0)) ∨ (0 < zs.length ∧ Liv (tb zs) (inG gs) 0 ∧ Kpt (tb zs) (inG gs) m (tb zk))) → Q (.ref L) H'
theorem ok_live_rows (F : FnP K "live_rows" s_live_rows f fd) (m_len : mg "len" = none) (m_any : mg "any" = none) (m_enumerate : mg "enumerate" = none) (c_flags_of : Cal P w K mg base 1 "flags_of" (spFlags K)) : FnOk P w K mg base CX0 2 f fd P_live_rows (spLive K) := by
  refine F.ok sc_live_rows (fun vs H Q E h => ?_) (fun cdv A outer s H vs Q E hr h => ?_)
  · obtain ⟨q, q2, q3, m, a, g, zs, gs, rfl, _⟩ := h
    rfl
  · obtain ⟨q, q2, q3, m, a, g, zs, gs, rfl, hT, wf, hm, hn, hG, hgs, qq⟩ := h
    refine ⟨_, PSs.nox (pss_cons (ps_set (i := 3) sc_live_rows.nd rfl (by first | exact .inl rfl | exact .inr rfl) (pe_lc (own := [("flag", 2)]) (g := (gName 2)) (tt := tYes) (by rfl) sc_live_rows.nd (pi_list (pe_cl c_flags_of hr (by decide) (by rfl) (pa_cons (pe_callB call_len_seq (by rfl) m_len PySem.boot_len (pa_cons (pv 0) pa_nil)) (pa_cons (pv 1) pa_nil)))) (blkOk_by (own := [("flag", 2)]) (N := N_live_rows) (sc := defScope s_live_rows) (by decide +kernel)) (fun _ _ _ _ _ => (pg_name (i := 2) sc_live_rows.nd rfl (by first | exact .inl rfl | exact .inr rfl))) (fun _ _ _ _ _ => pts_nil) (fun _ _ _ _ _ => (pv 2))))
      (pss_cons (ps_set (i := 4) sc_live_rows.nd rfl (by first | exact .inl rfl | exact .inr rfl) pe_bl)
      (pss_cut (ps_while PassesOwn.never (pt_val (pv 4))
        (pss_cons (ps_set (i := 4) sc_live_rows.nd rfl (by first | exact .inl rfl | exact .inr rfl) pe_bl)
      (pss_one (ps_for PassesOwn.never rfl (pi_enumM (by rfl) m_enumerate (pa_cons (pv 0) pa_nil)) (pg_tup rfl (pgs_cons (pg_name (i := 5) sc_live_rows.nd rfl (by first | exact .inl rfl | exact .inr rfl)) (pgs_cons (pg_name (i := 6) sc_live_rows.nd rfl (by first | exact .inl rfl | exact .inr rfl)) pgs_nil)))
        (pss_one (ps_if (PW.pt (pw_and (pt_not (pt_val (pe_ix ix_list (pv 3) (pv 5) (fun _ _ => rfl)))) (pw_and1 (pt_val (pe_callB (cr_any rfl) (by rfl) m_any (by decide +kernel) (pa_cons (pe_lc (own := [("entry", 7)]) (g := (gName 7)) (tt := tYes) (by rfl) sc_live_rows.nd (pi_sq (pv 6)) (blkOk_by (own := [("entry", 7)]) (N := N_live_rows) (sc := defScope s_live_rows) (by decide +kernel)) (fun _ _ _ _ _ => (pg_name (i := 7) sc_live_rows.nd rfl (by first | exact .inl rfl | exact .inr rfl))) (fun _ _ _ _ _ => pts_nil) (fun _ _ _ _ _ => (pe_and (pe_cmpR op_notN (pv 7) pe_non (nomark _)) (pe_one (pe_ix (ix_list_K (K := K) rfl) (pv 3) (pv 7) (fun _ _ => rfl)))))) pa_nil)))))) (pss_cons (ps_asg pe_bl (pg_sub (pv 3) (pv 5) set_list))
      (pss_one (ps_set (i := 4) sc_live_rows.nd rfl (by first | exact .inl rfl | exact .inr rfl) pe_bl))) pss_nil))))))
      (pss_cons (ps_setLc (i := 8) (own := [("row", 6)]) (g := (gName 6)) (tt := tYes) (by rfl) sc_live_rows.nd rfl rfl (sw_true rfl rfl rfl (by decide +kernel)) (pi_sq (pv 0)) (blkOk_by (own := [("row", 6)]) (N := N_live_rows) (sc := defScope s_live_rows) (by decide +kernel)) (fun _ _ _ _ _ => (pg_name (i := 6) sc_live_rows.nd rfl (by first | exact .inl rfl | exact .inr rfl))) (fun _ _ _ _ _ => pts_nil) (fun _ _ _ _ _ => (pe_lc (own := [("entry", 7)]) (g := (gName 7)) (tt := tYes) (by rfl) sc_live_rows.nd (pi_sq_K (K := K) rfl (pv 6)) (blkOk_by (own := [("entry", 7)]) (N := N_live_rows) (sc := relS _ (defScope s_live_rows)) (by decide +kernel)) (fun _ _ _ _ _ => (pg_name (i := 7) sc_live_rows.nd rfl (by first | exact .inl rfl | exact .inr rfl))) (fun _ _ _ _ _ => pts_nil) (fun _ _ _ _ _ => (pe_ifExp (PW.pt (pw_and (pt_cmpR op_notN (pv 7) pe_non (nomark _)) (pw_and1 (pt_val (pe_ix (ix_list_K (K := K) rfl) (pv 3) (pv 7) (fun _ _ => rfl)))))) (pv 7) pe_non)))))
      (pss_one (ps_ret (pe_ifExp (PW.pt (pw_and (pt_cmpR op_gt (pe_callB call_len_seq (by rfl) m_len PySem.boot_len (pa_cons (pv 0) pa_nil)) pe_int (nomark _)) (pw_and1 (pt_val (pe_ix ix_list (pv 3) pe_int (fun _ _ => rfl)))))) (pv 8) (pe_lst pa_nil)))))))), ?_⟩
    walk_at "go"
    refine ⟨a, _, rfl, sqk_or hT.sq, ?_⟩
    rw [List.length_map]
    walk_at "go"
    refine ⟨q3, zs.length, g, gs, rfl, hG, hgs, by omega, fun L0 H1 s1 nL0 eL0 => ?_⟩
    walk_at "go"
    refine ⟨⟨_, SqL.of eL0⟩, fun A0 nA0 => ?_⟩
    refine lc_gen (n := zs.length) (fun k J => Same H1 J ∧ J A0 = some (.lst (bls k fun i => decide (i ∈ gs)))) ⟨same_new nA0, upd_same⟩ ?_ ?_ ?_ ?_
    · rintro k J hk ⟨s2, _⟩
      exact ⟨_, .bl (decide (k ∈ gs)), SqL.of (s2 _ _ eL0), by rw [List.getElem?_map, List.getElem?_range hk]; rfl⟩
    · rintro J ⟨s2, _⟩
      exact ⟨_, SqL.of (s2 _ _ eL0), by rw [List.length_map, List.length_range]; exact Nat.le_refl _⟩
    · rintro k J x J' hk ⟨s2, eA⟩ ⟨rfl, e⟩
      have hx := e _ (SqL.of (s2 _ _ eL0))
      rw [List.getElem?_map, List.getElem?_range hk] at hx
      cases hx
      walk_at "go"
      refine ⟨_, eA, by unfold bls; rw [List.length_map, List.length_range]; exact szC (by omega), Z.Same.mut s2 nA0, ?_⟩
      unfold bls
      rw [upd_same, List.range_succ, List.map_append]
      rfl
    rintro J ⟨s2, eA⟩
    have nA := none_of s1 nA0
    have sJ := s1.trans s2
    clear eL0 nA0 s1 s2
    walk_at "go"
    obtain ⟨n, hn'⟩ : ∃ n, n = zs.length := ⟨_, rfl⟩
    obtain ⟨T, hT'⟩ : ∃ T, T = tb zs := ⟨_, rfl⟩
    have lT : T.length = n := by rw [hT', hn']; exact List.length_map ..
    rw [← hT'] at wf qq
    rw [← hn'] at hn hgs qq eA
    refine ⟨fun σ' J => Same H J ∧ ∃ (al : Nat → Bool) (v5 v6 : Option V), J A0 = some (.lst (bls n al)) ∧ (∀ s, s < n → (al s = true ↔ Liv T (inG gs) s)) ∧ σ' = [some (.ref a), some (.ref g), none, some (.ref A0), some (.bl false), v5, v6, none, none], ?_, ?_⟩
    · refine ⟨fun μ σ J => Same H J ∧ ∃ (al : Nat → Bool) (ch : Bool) (v5 v6 : Option V), J A0 = some (.lst (bls n al)) ∧ (∀ s, s < n → al s = true → Liv T (inG gs) s) ∧ (∀ s, s ∈ gs → al s = true) ∧ (ch = false → ∀ s k e, nx T s k = some e → al e = true → al s = true) ∧ μ = (if ch = true then n - cnt al n + 1 else 0) ∧ σ = [some (.ref a), some (.ref g), none, some (.ref A0), some (.bl ch), v5, v6, none, none], ⟨_, sJ, fun i => decide (i ∈ gs), true, none, none, eA, fun s _ e => liv_good (show s ∈ gs from of_decide_eq_true e), fun s e => decide_eq_true e, fun z => (by cases z), rfl, rfl⟩, ?_⟩
      rintro μ σ J ⟨s3, al, ch, v5, v6, eA, snd, hgl, cl, rfl, rfl⟩
      walk_at "go"
      cases ch
      · rw [if_neg Bool.false_ne_true]
        refine ⟨s3, al, v5, v6, eA, fun s hs => ⟨snd s hs, fun l => ?_⟩, rfl⟩
        exact liv_closed (al := fun s => al s = true) hgl (cl rfl) l
      rw [if_pos rfl]
      refine ⟨fun σ' J' => Same H J' ∧ ∃ (al' : Nat → Bool) (ch' : Bool) (v5 v6 : Option V), J' A0 = some (.lst (bls n al')) ∧ (∀ s, s < n → al' s = true → Liv T (inG gs) s) ∧ (∀ s, s ∈ gs → al' s = true) ∧ (ch' = false → ∀ s k e, nx T s k = some e → al' e = true → al' s = true) ∧ (ch' = true → cnt al n < cnt al' n) ∧ σ' = [some (.ref a), some (.ref g), none, some (.ref A0), some (.bl ch'), v5, v6, none, none], ?_, ?_⟩
      · rintro σ' J' ⟨s4, al', ch', v5, v6, eA', snd', hgl', cl', up, rfl⟩
        refine ⟨_, ?_, s4, al', ch', v5, v6, eA', snd', hgl', cl', rfl, rfl⟩
        cases ch'
        · rw [if_neg Bool.false_ne_true, if_pos rfl]
          exact Nat.succ_pos _
        · rw [if_pos rfl, if_pos rfl]
          have := up rfl
          have := cnt_le al' n
          omega
      walk_at "go"
      refine ⟨q, _, _, rfl, Z.Same.sqK s3 hT.sq, ?_⟩
      refine for_enum hT.sq (fun k σ J => Same H J ∧ ∃ (al' : Nat → Bool) (ch' : Bool) (v5 v6 : Option V), J A0 = some (.lst (bls n al')) ∧ (∀ s, s < n → al' s = true → Liv T (inG gs) s) ∧ (∀ s, al s = true → al' s = true) ∧ (ch' = false → (∀ s, al' s = al s) ∧ ∀ s, s < k → ∀ k e, nx T s k = some e → al e = true → al s = true) ∧ (ch' = true → cnt al n < cnt al' n) ∧ σ = [some (.ref a), some (.ref g), none, some (.ref A0), some (.bl ch'), v5, v6, none, none]) ⟨s3, al, false, v5, v6, eA, snd, fun _ h => h, fun _ => ⟨fun _ => rfl, fun s hs => absurd hs (Nat.not_lt_zero _)⟩, fun z => (by cases z), rfl⟩ (fun k σ J p => p.1) ?_ ?_
      · rintro k x σ J J2 ex ⟨s4, al', ch', v5, v6, eA', snd', mo, un, up, rfl⟩ s5
        rw [List.getElem?_map] at ex
        obtain ⟨z, ez, rfl⟩ := Option.map_eq_some_iff.mp ex
        have hk : k < n := by rw [hn']; exact (List.getElem?_eq_some_iff.mp ez).1
        have hz := (hT.mono (s4.trans s5)).at_ z (List.mem_of_getElem? ez)
        have mz : z.2 ∈ T := by rw [hT']; exact List.mem_map.mpr ⟨z, List.mem_of_getElem? ez, rfl⟩
        have lz := wf.row _ mz
        have rx : ∀ i, i < m → z.2.getD i none = nx T k i := fun i hi => by rw [hT']; exact row_nx ez (by omega)
        have eA2 := s5 _ _ eA'
        walk_at "go"
        refine ⟨A0, _, _, _, rfl, rfl, SqL.of eA2, bls_at hk, ?_⟩
        cases e1 : al' k
        · walk_at "go"
          refine rd_sq (b := q2) rfl hz ?_
          intro B nB
          refine lc_flt (n := m) (fun i => eV (z.2.getD i none)) (fun _ => true) (fun i => .bl (elB al' (z.2.getD i none))) (by omega) nB (fun i J3 hi s6 => itq_go (Z.Same.sqK s6 hz) (row_at (by omega))) (fun J3 s6 => itq_stop (Z.Same.sqK s6 hz) (by rw [List.length_map]; omega)) (fun i J3 x J4 hi s6 y => ?_) (fun i => rfl) (fun i J3 Q1 hi s6 q1 => ?_) (fun i J3 Q1 hi _ s6 q1 => ?_) (fun J3 s6 eB => ?_)
          · obtain ⟨rfl, ex⟩ := itq_yld (Z.Same.sqK s6 hz) y
            rw [row_at (by omega)] at ex
            cases ex
            exact ⟨Same.refl _, rfl⟩
          · exact q1 _ (Same.refl _)
          · rw [rx i hi] at q1 ⊢
            cases e2 : nx T k i with
            | none =>
              rw [e2] at q1
              walk_at "go"
              exact q1 _ (Same.refl _)
            | some e =>
              rw [e2] at q1
              have he := (nx_lt wf e2).1
              rw [lT] at he
              dsimp only [eV]
              walk_at "go"
              exact ⟨A0, _, _, _, rfl, rfl, SqL.of (s6 _ _ eA2), bls_at he, q1 _ (Same.refl _)⟩
          rw [fltL_all] at eB
          walk_at "go"
          refine ⟨B, (List.range m).map fun i => elB al' (z.2.getD i none), rfl, SqL.of (by rw [eB, List.map_map]; rfl), ?_⟩
          have s7 := s4.trans (s5.trans s6)
          have eA3 := s6 _ _ eA2
          have hany : ∀ k1 e, nx T k k1 = some e → al' e = true → ((List.range m).map fun i => elB al' (z.2.getD i none)).any id = true := fun k1 e he hl => by
            have hk1 := (nx_lt wf he).2.1
            refine List.any_eq_true.mpr ⟨elB al' (z.2.getD k1 none), List.mem_map.mpr ⟨k1, List.mem_range.mpr hk1, rfl⟩, ?_⟩
            rw [rx k1 hk1, he]
            exact hl
          cases e3 : ((List.range m).map fun i => elB al' (z.2.getD i none)).any id
          · walk_at "go"
            refine ⟨al', ch', _, _, eA3, snd', mo, fun zz => ⟨(un zz).1, fun s hs k1 e he hl => ?_⟩, up, rfl⟩
            by_cases c : s = k
            · subst c
              rw [← (un zz).1 e] at hl
              rw [hany k1 e he hl] at e3
              cases e3
            · exact (un zz).2 s (by omega) k1 e he hl
          · walk_at "go"
            refine ⟨A0, _, _, k, rfl, rfl, eA3, by rw [bls_len]; exact ixN_nat hk, ?_⟩
            rw [bls_set]
            walk_at "go"
            have alk : al k = false := by
              cases e4 : al k with
              | false => rfl
              | true => rw [mo k e4] at e1; cases e1
            refine ⟨Z.Same.mut s7 nA, fun j => if j = k then true else al' j, true, _, _, upd_same, fun s hs h => ?_, fun s h => ?_, fun zz => (by cases zz), fun _ => cnt_lt (x := k) (fun s hs h => ?_) hk alk (by simp), rfl⟩
            · by_cases c : s = k
              · subst c
                obtain ⟨b, hb, hb2⟩ := List.any_eq_true.mp e3
                obtain ⟨i, hi, rfl⟩ := List.mem_map.mp hb
                rw [rx i (List.mem_range.mp hi)] at hb2
                cases e5 : nx T s i with
                | none => rw [e5] at hb2; cases hb2
                | some e =>
                  rw [e5] at hb2
                  exact liv_step e5 (snd' e (by rw [← lT]; exact (nx_lt wf e5).1) hb2)
              · simp only [c, if_false] at h
                exact snd' s hs h
            · by_cases c : s = k
              · simp [c]
              · simp only [c, if_false]
                exact mo s h
            · by_cases c : s = k
              · simp [c]
              · simp only [c, if_false]
                exact mo s h
        · walk_at "go"
          refine ite2 (fun e => absurd e (show ¬ ((!true) = true) from Bool.false_ne_true)) (fun _ => ?_)
          refine ite2 (fun e => absurd e Bool.false_ne_true) (fun _ => ?_)
          refine ⟨s4.trans s5, al', ch', _, _, eA2, snd', mo, fun zz => ⟨(un zz).1, fun s hs k1 e he hl => ?_⟩, up, rfl⟩
          by_cases c : s = k
          · subst c
            rw [← (un zz).1 s]
            exact e1
          · exact (un zz).2 s (by omega) k1 e he hl
      · rintro σ J ⟨s4, al', ch', v5, v6, eA', snd', mo, un, up, rfl⟩
        rw [List.length_map, ← hn'] at un
        refine ⟨s4, al', ch', v5, v6, eA', snd', fun s hs => mo s (hgl s hs), fun z s k e he hl => ?_, up, rfl⟩
        obtain ⟨u1, u2⟩ := un z
        rw [u1] at hl ⊢
        exact u2 s (by rw [← lT]; exact (nx_lt wf he).2.2) k e he hl
    rintro σ' J ⟨s3, al, v5, v6, eA, hal, rfl⟩
    walk_at "go"
    refine rd_sq (b := q) rfl (hT.mono s3).sq ?_
    intro L nL
    refine lc_gen (n := n) (fun k J' => Same J J' ∧ ∃ zk : List (Addr × List (Option Nat)), J' L = some (.lst (zk.map fun z => V.ref z.1)) ∧ (∀ z ∈ zk, J' z.1 = some (.lst (z.2.map eV)) ∧ z.1 ≠ L) ∧ tb zk = kpT al (T.take k)) ⟨same_new nL, [], upd_same, fun z hz => absurd hz (by simp), rfl⟩ ?_ ?_ ?_ ?_
    · rintro k J' hk ⟨s4, _⟩
      have hk2 : k < zs.length := by omega
      exact itq_go (Z.Same.sqK (s3.trans s4) hT.sq) (x := .ref zs[k].1) (by rw [List.getElem?_map, List.getElem?_eq_getElem hk2]; rfl)
    · rintro J' ⟨s4, _⟩
      exact itq_stop (Z.Same.sqK (s3.trans s4) hT.sq) (by rw [List.length_map]; omega)
    · rintro k J' x J2 hk ⟨s4, zk, eL, hz, ek⟩ y
      obtain ⟨rfl, ex⟩ := itq_yld (Z.Same.sqK (s3.trans s4) hT.sq) y
      have hk2 : k < zs.length := by omega
      rw [List.getElem?_map, List.getElem?_eq_getElem hk2] at ex
      cases ex
      have zk2 := (hT.mono (s3.trans s4)).at_ _ (List.getElem_mem hk2)
      have mz : zs[k].2 ∈ T := by rw [hT']; exact List.mem_map.mpr ⟨_, List.getElem_mem hk2, rfl⟩
      have tk : T.take (k + 1) = T.take k ++ [zs[k].2] := by
        rw [hT']
        unfold tb
        rw [List.take_succ, List.getElem?_map, List.getElem?_eq_getElem hk2]
        rfl
      have lz := wf.row _ mz
      have ent := wf.ent _ mz
      generalize zs[k] = z at zk2 mz tk lz ent
      have eA2 := s4 _ _ eA
      walk_at "go"
      refine rd_sq (b := q2) rfl zk2 ?_
      intro B nB
      refine lc_flt (n := m) (fun i => eV (z.2.getD i none)) (fun _ => true) (fun i => eV (kp al (z.2.getD i none))) (by omega) nB (fun i J3 hi s6 => itq_go (Z.Same.sqK s6 zk2) (row_at (by omega))) (fun J3 s6 => itq_stop (Z.Same.sqK s6 zk2) (by rw [List.length_map]; omega)) (fun i J3 x J4 hi s6 y => ?_) (fun i => rfl) (fun i J3 Q1 hi s6 q1 => ?_) (fun i J3 Q1 hi _ s6 q1 => ?_) (fun J3 s6 eB => ?_)
      · obtain ⟨rfl, ex⟩ := itq_yld (Z.Same.sqK s6 zk2) y
        rw [row_at (by omega)] at ex
        cases ex
        exact ⟨Same.refl _, rfl⟩
      · exact q1 _ (Same.refl _)
      · have me : z.2.getD i none ∈ z.2 := by
          rw [List.getD_eq_getElem?_getD, List.getElem?_eq_getElem (show i < z.2.length by omega)]
          exact List.getElem_mem _
        generalize z.2.getD i none = o at me q1
        cases o with
        | none =>
          walk_at "go"
          exact q1 _ (Same.refl _)
        | some e =>
          have he := ent e me
          rw [lT] at he
          dsimp only [eV]
          walk_at "go"
          refine ⟨A0, _, _, _, rfl, rfl, SqL.of (s6 _ _ eA2), bls_at he, ?_⟩
          have ee : kp al (some e) = if al e = true then some e else none := rfl
          rw [ee] at q1
          cases e1 : al e
          · rw [e1, if_neg Bool.false_ne_true] at q1
            walk_at "go"
            exact q1 _ (Same.refl _)
          · rw [e1, if_pos rfl] at q1
            walk_at "go"
            exact q1 _ (Same.refl _)
      have nBL : B ≠ L := ne_of_none' (s4 := eL) nB
      rw [fltL_all, ← lz, row_range (f := fun o => eV (kp al o))] at eB
      have ezk : zk.length ≤ 1000000 := by
        have := congrArg List.length ek
        unfold tb kpT at this
        rw [List.length_map, List.length_map, List.length_take] at this
        omega
      refine ⟨_, s6 _ _ eL, by rw [List.length_map]; exact szC (by omega), Z.Same.mut (s4.trans s6) nL, zk ++ [(B, z.2.map (kp al))], by rw [upd_same, List.map_append]; rfl, fun y hy => ?_, ?_⟩
      · rcases List.mem_append.mp hy with hy | hy
        · obtain ⟨h1, h2⟩ := hz y hy
          exact ⟨by rw [upd_ne h2]; exact s6 _ _ h1, h2⟩
        · rw [List.mem_singleton.mp hy]
          refine ⟨?_, nBL⟩
          rw [upd_ne nBL, eB, List.map_map]
          rfl
      · unfold tb at ek ⊢
        rw [List.map_append, ek, tk]
        unfold kpT
        rw [List.map_append]
        rfl
    rintro J' ⟨s4, zk, eL, hz, ek⟩
    rw [List.take_of_length_le (by omega)] at ek
    have hTk : Tb true true K J' L zk := ⟨SqL.of eL, fun z m => SqL.of (hz z m).1⟩
    have nLH := none_of s3 nL
    have s3' := s3.trans s4
    walk_at "go"
    refine ⟨a, _, rfl, sqk_or (Z.Same.sqK s3' hT.sq), ?_⟩
    rw [List.length_map, ← hn']
    walk_at "go"
    have nil : ∀ (zs0 : zs = [] ∨ ¬ Liv T (inG gs) 0) (B : Addr), J' B = none → Q (.ref B) (upd J' B (.lst [])) := fun zs0 B nB =>
      qq B [] _ (s3'.trans (same_new nB)) (none_of s3' nB) ⟨SqL.of upd_same, fun z m => absurd m (by simp)⟩ (.inl ⟨rfl, zs0⟩)
    by_cases n0 : n = 0
    · rw [decide_eq_false (show ¬ (0 : Int) < (n : Int) by omega)]
      walk_at "go"
      exact nil (.inl (List.length_eq_zero_iff.mp (by omega)))
    · have n1 : 0 < n := by omega
      rw [decide_eq_true (show (0 : Int) < (n : Int) by omega)]
      walk_at "go"
      refine ⟨A0, _, _, _, rfl, rfl, SqL.of (s4 _ _ eA), bls_at (i := 0) n1, ?_⟩
      cases e1 : al 0
      · walk_at "go"
        exact nil (.inr fun l => by rw [(hal 0 n1).mpr l] at e1; cases e1)
      · walk_at "go"
        refine qq L zk J' s3' nLH hTk (.inr ⟨n1, (hal 0 n1).mp e1, ?_⟩)
        rw [ek]
        exact kpt_of wf (by rw [lT]; exact hal)
end
end Z
set_option pp.maxSteps 700
set_option Elab.async false
set_option linter.all false
set_option maxRecDepth 100000
set_option maxHeartbeats 4000000
open SX (S S_inj S_len S_cat)
namespace Z
open Mc
open PySem PySem.Spec PyProof.Rows L2
open C8 (pss_cut tCut)
local macro_rules | `(tactic| walk_at "num") => `(tactic| first | rfl | omega | decide | exact Nat.le_of_lt (small1000 (by simp)) | exact ⟨by omega, by omega⟩ | exact ⟨by omega, by omega, by omega⟩ | exact ⟨by decide, by decide, by decide⟩ | exact Or.inl ⟨by omega, by omega⟩ | exact Or.inr ⟨by omega, by omega⟩)
local macro_rules | `(tactic| walk_at "go") => `(tactic| repeat (first | refine ⟨_, rfl, ?_⟩ | refine ⟨_, _, rfl, rfl, ?_⟩ | refine ⟨_, _, rfl, ?_⟩ | (refine ⟨_, _, rfl, rfl, ?_, ?_⟩; focus walk_at "num") | refine Or.inl ⟨_, rfl, ?_⟩ | refine ⟨_, _, _, _, rfl, rfl, (by assumption), (by rfl), ?_⟩ | refine ⟨_, _, _, _, _, rfl, (by assumption), (by assumption), (by assumption), (by rfl), ?_⟩ | refine ⟨rfl, ?_⟩ | (refine And.intro ?_ ?_; focus walk_at "num")))
abbrev s_state_classes : Stmt := topS 10
abbrev N_state_classes : List Str := ["rows", "good", "flag", "classes", "many", "numbers", "finer", "state", "row", "entry", "mark"]
abbrev P_state_classes : List Str := ["rows", "good"]
theorem sc_state_classes : FnScope N_state_classes P_state_classes (defScope s_state_classes) := ⟨rfl, rfl, rfl, by decide +kernel, rfl, by decide +kernel, by decide +kernel⟩
def nls (n : Nat) (f : Nat → Nat) : List V := (List.range n).map fun i => V.int ((f i : Nat) : Int)
def lk : Option Nat → NestedKey
  | none => .none
  | some c => .num (c : Int)
def nk (p : Nat × List (Option Nat)) : NestedKey := .tup (.num ((p.1 : Nat) : Int) :: p.2.map lk)
theorem lk_inj : ∀ {a b : Option Nat}, lk a = lk b → a = b
  | none, none, _ => rfl
  | some _, none, h => by cases h
  | none, some _, h => by cases h
  | some a, some b, h => by
    have h : NestedKey.num (a : Int) = NestedKey.num (b : Int) := h
    injection h with h
    rw [show a = b by omega]
theorem lks_inj : ∀ {a b : List (Option Nat)}, a.map lk = b.map lk → a = b
  | [], [], _ => rfl
  | [], _ :: _, h => by cases h
  | _ :: _, [], h => by cases h
  | x :: a, y :: b, h => by
    rw [List.map_cons, List.map_cons] at h
    injection h with h1 h2
    rw [lk_inj h1, lks_inj h2]
theorem nk_inj {p q : Nat × List (Option Nat)} (h : nk p = nk q) : p = q := by
  unfold nk at h
  injection h with h
  injection h with h1 h2
  injection h1 with h1
  exact Prod.ext (by omega) (lks_inj h2)
theorem lks_depth : ∀ l : List (Option Nat), NestedKey.depthAll (l.map lk) ≤ 1
  | [] => by decide
  | x :: l => by
    have := lks_depth l
    cases x <;> simp only [List.map_cons, NestedKey.depthAll, lk, NestedKey.depth] <;> omega
theorem nk_depth (p : Nat × List (Option Nat)) : (nk p).depth ≤ 8 := by
  have := lks_depth p.2
  unfold nk
  simp only [NestedKey.depth, NestedKey.depthAll]
  omega
theorem atN_some {kvs : List (NestedKey × Addr × Int)} {k : NestedKey} {v : Int} (h : atN kvs k = some v) : ∃ x ∈ kvs, x.1 = k ∧ x.2.2 = v := by
  unfold atN at h
  obtain ⟨x, hx, e⟩ := Option.map_eq_some_iff.mp h
  exact ⟨x, List.mem_of_find?_eq_some hx, of_decide_eq_true (List.find?_some (p := fun x : NestedKey × Addr × Int => decide (x.1 = k)) hx), e⟩
theorem atN_none {kvs : List (NestedKey × Addr × Int)} {k : NestedKey} (h : atN kvs k = none) : ∀ x ∈ kvs, x.1 ≠ k := fun x hx e => by
  unfold atN at h
  rw [Option.map_eq_none_iff] at h
  have := List.find?_eq_none.mp h x hx
  rw [decide_eq_true e] at this
  exact this rfl
/-- marks are numbered as they are met -/
structure Num (f : Nat → Nat × List (Option Nat)) (k : Nat) (kvs : List (NestedKey × Addr × Int)) (fn : Nat → Nat) : Prop where
  len : kvs.length = cf f k
  val : ∀ (i : Nat) x, kvs[i]? = some x → x.2.2 = (i : Int)
  at_ : ∀ s, s < k → ∃ x, kvs[fn s]? = some x ∧ x.1 = nk (f s)
  one : ∀ (i j : Nat) x y, kvs[i]? = some x → kvs[j]? = some y → x.1 = y.1 → i = j
  src : ∀ x ∈ kvs, ∃ s, s < k ∧ x.1 = nk (f s)
theorem Num.eq {f : Nat → Nat × List (Option Nat)} {k : Nat} {kvs : List (NestedKey × Addr × Int)} {fn : Nat → Nat} (h : Num f k kvs fn) {s t : Nat} (hs : s < k) (ht : t < k) : fn s = fn t ↔ f s = f t := by
  obtain ⟨x, hx, ex⟩ := h.at_ s hs
  obtain ⟨y, hy, ey⟩ := h.at_ t ht
  constructor
  · intro e
    rw [e, hy] at hx
    cases hx
    exact nk_inj (ex.symm.trans ey)
  · intro e
    exact h.one _ _ x y hx hy (by rw [ex, ey, e])
theorem Num.cf {f : Nat → Nat × List (Option Nat)} {k : Nat} {kvs : List (NestedKey × Addr × Int)} {fn : Nat → Nat} (h : Num f k kvs fn) : Mc.cf fn k = Mc.cf f k :=
  Nat.le_antisymm (cf_mono fun _ _ hs ht e => (h.eq hs ht).mpr e) (cf_mono fun _ _ hs ht e => (h.eq hs ht).mp e)
theorem Num.old {f : Nat → Nat × List (Option Nat)} {k : Nat} {kvs : List (NestedKey × Addr × Int)} {fn : Nat → Nat} (h : Num f k kvs fn) {v : Int} (e : atN kvs (nk (f k)) = some v) : ∃ i : Nat, v = (i : Int) ∧ Num f (k + 1) kvs fun s => if s = k then i else fn s := by
  obtain ⟨x, hx, e1, e2⟩ := atN_some e
  obtain ⟨i, hi, rfl⟩ := List.getElem_of_mem hx
  have gi := List.getElem?_eq_getElem hi
  have hv := h.val i _ gi
  refine ⟨i, by rw [← e2, hv], ?_, h.val, fun s hs => ?_, h.one, fun x hx => ?_⟩
  · obtain ⟨s, hs, es⟩ := h.src _ hx
    have nf : isF f k = false := by
      cases c : isF f k with
      | false => rfl
      | true => exact absurd (nk_inj (es.symm.trans e1)) (isF_iff.mp c s hs)
    rw [cf_succ, nf]
    exact h.len
  · by_cases c : s = k
    · subst c
      exact ⟨_, by rw [if_pos rfl]; exact gi, e1⟩
    · rw [if_neg c]
      exact h.at_ s (by omega)
  · obtain ⟨s, hs, es⟩ := h.src x hx
    exact ⟨s, by omega, es⟩
theorem Num.new {f : Nat → Nat × List (Option Nat)} {k : Nat} {kvs : List (NestedKey × Addr × Int)} {fn : Nat → Nat} (h : Num f k kvs fn) (e : atN kvs (nk (f k)) = none) (b : Addr) : Num f (k + 1) (kvs ++ [(nk (f k), b, (kvs.length : Int))]) fun s => if s = k then kvs.length else fn s := by
  have no := atN_none e
  have get : ∀ (i : Nat) x, (kvs ++ [(nk (f k), b, (kvs.length : Int))])[i]? = some x → kvs[i]? = some x ∨ i = kvs.length ∧ x = (nk (f k), b, (kvs.length : Int)) := fun i x hx => by
    by_cases c : i < kvs.length
    · rw [List.getElem?_append_left c] at hx
      exact .inl hx
    · rw [List.getElem?_append_right (by omega)] at hx
      have c2 : i - kvs.length = 0 := by
        have := (List.getElem?_eq_some_iff.mp hx).1
        simp at this
        omega
      rw [c2] at hx
      cases hx
      exact .inr ⟨by omega, rfl⟩
  refine ⟨?_, fun i x hx => ?_, fun s hs => ?_, fun i j x y hx hy exy => ?_, fun x hx => ?_⟩
  · have nf : isF f k = true := isF_iff.mpr fun t ht q => by
      obtain ⟨x, hx, ex⟩ := h.at_ t ht
      exact no x (List.mem_of_getElem? hx) (by rw [ex, q])
    rw [cf_succ, nf, List.length_append, h.len]
    rfl
  · rcases get i x hx with hx | ⟨rfl, rfl⟩
    · exact h.val i x hx
    · rfl
  · by_cases c : s = k
    · subst c
      exact ⟨_, by rw [if_pos rfl, List.getElem?_append_right (Nat.le_refl _), Nat.sub_self]; rfl, rfl⟩
    · rw [if_neg c]
      obtain ⟨x, hx, ex⟩ := h.at_ s (by omega)
      exact ⟨x, by rw [List.getElem?_append_left (List.getElem?_eq_some_iff.mp hx).1]; exact hx, ex⟩
  · rcases get i x hx with hx | ⟨rfl, rfl⟩
    · rcases get j y hy with hy | ⟨rfl, rfl⟩
      · exact h.one i j x y hx hy exy
      · exact absurd exy (no x (List.mem_of_getElem? hx))
    · rcases get j y hy with hy | ⟨rfl, rfl⟩
      · exact absurd exy.symm (no y (List.mem_of_getElem? hy))
      · rfl
  · rcases List.mem_append.mp hx with hx | hx
    · obtain ⟨s, hs, es⟩ := h.src x hx
      exact ⟨s, by omega, es⟩
    · rw [List.mem_singleton.mp hx]
      exact ⟨k, by omega, rfl⟩
theorem num_nil (f : Nat → Nat × List (Option Nat)) : Num f 0 [] fun _ => 0 := ⟨rfl, fun i x h => by simp at h, fun s hs => absurd hs (Nat.not_lt_zero _), fun i j x y h => by simp at h, fun x m => absurd m (by simp)⟩
theorem nls_len (n : Nat) (f : Nat → Nat) : (nls n f).length = n := by unfold nls; rw [List.length_map, List.length_range]
theorem nls_at {n i : Nat} {f : Nat → Nat} (h : i < n) : atI (nls n f) (i : Int) = some (.int ((f i : Nat) : Int)) := atI_nat (by unfold nls; rw [List.getElem?_map, List.getElem?_range h]; rfl)
theorem nls_snoc {k v : Nat} {f : Nat → Nat} : nls k f ++ [V.int (v : Int)] = nls (k + 1) fun s => if s = k then v else f s := by
  unfold nls
  rw [List.range_succ, List.map_append]
  congr 1
  · exact List.map_congr_left fun s hs => by simp [Nat.ne_of_lt (List.mem_range.mp hs)]
  · simp
theorem nka_lks {H : Hp} : ∀ {l : List (Option Nat)}, NkA H (l.map lk) (l.map eV)
  | [] => .nil
  | none :: l => .cons .none nka_lks
  | some c :: l => .cons (.int _) nka_lks
theorem DN.upd_lst {P : Program} {w : World} {H : Hp} {a b : Addr} {kvs : List (NestedKey × Addr × Int)} {xs ys : List V} (d : DN P w H a kvs) (e : H b = some (.lst xs)) : DN P w (upd H b (.lst ys)) a kvs := by
  have ht : ∀ c vs, H c = some (.tup vs) → (upd H b (.lst ys)) c = some (.tup vs) := fun c vs h => by
    rw [upd_ne (fun q => by rw [q, e] at h; cases h)]
    exact h
  refine ⟨?_, fun x m => ⟨NkV.keepT ht (d.ks x m).1, (d.ks x m).2⟩⟩
  rw [upd_ne (fun q => by have := d.at_; rw [q, e] at this; unfold DNo at this; cases this)]
  exact d.at_
section
variable {P : Program} {w : World} {K : PySem.W.Frag} {mg : Str → Option Value} {base : Heap} {f : Addr} {fd : FuncData}
def spClasses (K : PySem.W.Frag) : Sp := fun vs H Q _ => ∃ (q q2 q3 : Bool) (m : Nat) (a g : Addr) (zs : List (Addr × List (Option Nat))) (gs : List Nat), vs = [.ref a, .ref g] ∧ Tb q q2 K H a zs ∧ Wf (tb zs) m ∧ m ≤ 1000 ∧ 0 < zs.length ∧ zs.length ≤ 1000000 ∧ SqK q3 K H g (gsq gs) ∧ (∀ s ∈ gs, s < zs.length) ∧ (∀ s k e, nx (tb zs) s k = some e → Liv (tb zs) (inG gs) e) ∧
  ∀ (L : Addr) (fc : Nat → Nat) H', Same H H' → H L = none → H' L = some (.lst (nls zs.length fc)) → (∀ s t, s < zs.length → t < zs.length → (fc s = fc t ↔ Leq (tb zs) (inG gs) s t)) → Q (.ref L) H'
theorem ok_state_classes (F : FnP K "state_classes" s_state_classes f fd) (m_int : mg "int" = none) (m_tuple : mg "tuple" = none) (m_len : mg "len" = none) (m_enumerate : mg "enumerate" = none) (c_flags_of : Cal P w K mg base 1 "flags_of" (spFlags K)) : FnOk P w K mg base CX0 2 f fd P_state_classes (spClasses K) := by
  refine F.ok sc_state_classes (fun vs H Q E h => ?_) (fun cdv A outer s H vs Q E hr h => ?_)
  · obtain ⟨q, q2, q3, m, a, g, zs, gs, rfl, _⟩ := h
    rfl
  · obtain ⟨q, q2, q3, m, a, g, zs, gs, rfl, hT, wf, hm, hn0, hn, hG, hgs, lv, qq⟩ := h
    refine ⟨_, PSs.nox (pss_cons (ps_set (i := 3) sc_state_classes.nd rfl (by first | exact .inl rfl | exact .inr rfl) (pe_lc (own := [("flag", 2)]) (g := (gName 2)) (tt := tYes) (by rfl) sc_state_classes.nd (pi_list (pe_cl c_flags_of hr (by decide) (by rfl) (pa_cons (pe_callB call_len_seq (by rfl) m_len PySem.boot_len (pa_cons (pv 0) pa_nil)) (pa_cons (pv 1) pa_nil)))) (blkOk_by (own := [("flag", 2)]) (N := N_state_classes) (sc := defScope s_state_classes) (by decide +kernel)) (fun _ _ _ _ _ => (pg_name (i := 2) sc_state_classes.nd rfl (by first | exact .inl rfl | exact .inr rfl))) (fun _ _ _ _ _ => pts_nil) (fun _ _ _ _ _ => (pe_callTy call_int1 (by rfl) m_int (by decide +kernel) (pa_cons (pv 2) pa_nil)))))
      (pss_cons (ps_set (i := 4) sc_state_classes.nd rfl (by first | exact .inl rfl | exact .inr rfl) pe_int)
      (pss_one (ps_while PassesOwn.never (pt_val pe_bl)
        (pss_cons (ps_set (i := 5) sc_state_classes.nd rfl (by first | exact .inl rfl | exact .inr rfl) (pe_dnewN (P := P) (w := w) rfl rfl))
      (pss_cons (ps_set (i := 6) sc_state_classes.nd rfl (by first | exact .inl rfl | exact .inr rfl) (pe_lst pa_nil))
      (pss_cons (ps_for PassesOwn.never rfl (pi_enumM (by rfl) m_enumerate (pa_cons (pv 0) pa_nil)) (pg_tup rfl (pgs_cons (pg_name (i := 7) sc_state_classes.nd rfl (by first | exact .inl rfl | exact .inr rfl)) (pgs_cons (pg_name (i := 8) sc_state_classes.nd rfl (by first | exact .inl rfl | exact .inr rfl)) pgs_nil)))
        (pss_cons (ps_set (i := 10) sc_state_classes.nd rfl (by first | exact .inl rfl | exact .inr rfl) (pe_callTy call_tuple_of (by rfl) m_tuple (by decide +kernel) (pa_cons (pe_op op_cat (pe_lst (pa_cons (pe_ix ix_list (pv 3) (pv 7) (fun _ _ => rfl)) pa_nil)) (pe_lc (own := [("entry", 9)]) (g := (gName 9)) (tt := tYes) (by rfl) sc_state_classes.nd (pi_sq (pv 8)) (blkOk_by (own := [("entry", 9)]) (N := N_state_classes) (sc := defScope s_state_classes) (by decide +kernel)) (fun _ _ _ _ _ => (pg_name (i := 9) sc_state_classes.nd rfl (by first | exact .inl rfl | exact .inr rfl))) (fun _ _ _ _ _ => pts_nil) (fun _ _ _ _ _ => (pe_ifExp (pt_cmpR op_isN (pv 9) pe_non (nomark _)) pe_non (pe_ix (ix_list_K (K := K) rfl) (pv 3) (pv 9) (fun _ _ => rfl)))))) pa_nil)))
      (pss_one (ps_expr (pe_bm PySem.F.plainAttrs_list PySem.F.slot_list_append PySem.F.type_list_append mt_append (pv 6) (pa_cons (pe_dsetdN (P := P) (w := w) (Nat.lt_of_le_of_lt (Nat.add_le_add_left (by decide) _) hr.units) rfl rfl (pv 5) (pv 10) (pe_callB (call_lenN (P := P) (w := w) rfl rfl) (by rfl) m_len PySem.boot_len (pa_cons (pv 5) pa_nil)) ⟨rfl, rfl, rfl, rfl⟩) pa_nil))))))
      (pss_cons (ps_if (pt_cmpR op_eq (pe_callB (call_lenN (P := P) (w := w) rfl rfl) (by rfl) m_len PySem.boot_len (pa_cons (pv 5) pa_nil)) (pv 4) (nomark _)) (pss_one (ps_ret (pv 6))) pss_nil)
      (pss_cons (ps_set (i := 3) sc_state_classes.nd rfl (by first | exact .inl rfl | exact .inr rfl) (pv 6))
      (pss_one (ps_set (i := 4) sc_state_classes.nd rfl (by first | exact .inl rfl | exact .inr rfl) (pe_callB (call_lenN (P := P) (w := w) rfl rfl) (by rfl) m_len PySem.boot_len (pa_cons (pv 5) pa_nil))))))))))))), ?_⟩
    walk_at "go"
    refine ⟨a, _, rfl, sqk_or hT.sq, ?_⟩
    rw [List.length_map]
    walk_at "go"
    refine ⟨q3, zs.length, g, gs, rfl, hG, hgs, by omega, fun L0 H1 s1 nL0 eL0 => ?_⟩
    walk_at "go"
    refine ⟨⟨_, SqL.of eL0⟩, fun A0 nA0 => ?_⟩
    refine lc_gen (n := zs.length) (fun k J => Same H1 J ∧ J A0 = some (.lst (nls k fun i => if i ∈ gs then 1 else 0))) ⟨same_new nA0, upd_same⟩ ?_ ?_ ?_ ?_
    · rintro k J hk ⟨s2, _⟩
      exact ⟨_, .bl (decide (k ∈ gs)), SqL.of (s2 _ _ eL0), by rw [List.getElem?_map, List.getElem?_range hk]; rfl⟩
    · rintro J ⟨s2, _⟩
      exact ⟨_, SqL.of (s2 _ _ eL0), by rw [List.length_map, List.length_range]; exact Nat.le_refl _⟩
    · rintro k J x J' hk ⟨s2, eA⟩ ⟨rfl, e⟩
      have hx := e _ (SqL.of (s2 _ _ eL0))
      rw [List.getElem?_map, List.getElem?_range hk] at hx
      cases hx
      walk_at "go"
      have two : ∀ v : Nat, (if k ∈ gs then 1 else 0) = v → ∃ acc, J' A0 = some (.lst acc) ∧ acc.length < sizeLine ∧ Same H1 (upd J' A0 (.lst (acc ++ [V.int (v : Int)]))) ∧ (upd J' A0 (.lst (acc ++ [V.int (v : Int)]))) A0 = some (.lst (nls (k + 1) fun i => if i ∈ gs then 1 else 0)) := fun v hv => by
        refine ⟨_, eA, by rw [nls_len]; exact szC (by omega), Z.Same.mut s2 nA0, ?_⟩
        rw [upd_same, nls_snoc]
        congr 3
        funext i
        by_cases c : i = k
        · rw [if_pos c, c, hv]
        · rw [if_neg c]
      refine .inr ⟨_, rfl, ?_⟩
      by_cases c : k ∈ gs
      · rw [decide_eq_true c]
        exact two 1 (if_pos c)
      · rw [decide_eq_false c]
        exact two 0 (if_neg c)
    rintro J ⟨s2, eA⟩
    have nA := none_of s1 nA0
    have sJ := s1.trans s2
    clear eL0 nA0 s1 s2
    walk_at "go"
    obtain ⟨n, hn'⟩ : ∃ n, n = zs.length := ⟨_, rfl⟩
    obtain ⟨T, hT'⟩ : ∃ T, T = tb zs := ⟨_, rfl⟩
    have lT : T.length = n := by rw [hT', hn']; exact List.length_map ..
    rw [← hT'] at wf qq lv
    rw [← hn'] at hn hn0 hgs qq eA
    refine ⟨fun μ σ J => Same H J ∧ ∃ (Cl : Addr) (cl : Nat → Nat) (mn : Nat) (v5 v6 v7 v8 v10 : Option V), J Cl = some (.lst (nls n cl)) ∧ Crs T (inG gs) cl ∧ (∀ s t, s < n → t < n → cl s = cl t → (inG gs s ↔ inG gs t)) ∧ (mn = 0 ∨ mn = cf cl n) ∧ mn ≤ n ∧ μ = n - mn ∧ σ = [some (.ref a), some (.ref g), none, some (.ref Cl), some (.int (mn : Int)), v5, v6, v7, v8, none, v10], ⟨_, sJ, A0, _, 0, none, none, none, none, none, eA, fun s t hs ht l => ?_, fun s t hs ht e => ?_, .inl rfl, Nat.zero_le _, rfl, rfl⟩, ?_⟩
    · have := l.good
      unfold inG at this
      show (if s ∈ gs then (1 : Nat) else 0) = if t ∈ gs then 1 else 0
      by_cases c : s ∈ gs
      · rw [if_pos c, if_pos (this.mp c)]
      · rw [if_neg c, if_neg (fun z => c (this.mpr z))]
    · unfold inG
      have e : (if s ∈ gs then (1 : Nat) else 0) = if t ∈ gs then 1 else 0 := e
      by_cases c : s ∈ gs
      · by_cases d : t ∈ gs
        · exact ⟨fun _ => d, fun _ => c⟩
        · rw [if_pos c, if_neg d] at e; cases e
      · by_cases d : t ∈ gs
        · rw [if_neg c, if_pos d] at e; cases e
        · exact ⟨fun z => absurd z c, fun z => absurd z d⟩
    rintro μ σ J ⟨s3, Cl, cl, mn, v5, v6, v7, v8, v10, eC, crs, fl, hm0, mnn, rfl, rfl⟩
    walk_at "go"
    refine ite2 (fun _ => ?_) (fun e => absurd rfl e)
    refine ⟨fun σ' J' => Same H J' ∧ ∃ (Cl : Addr) (cl : Nat → Nat) (mn' : Nat) (v5 v6 v7 v8 v10 : Option V), J' Cl = some (.lst (nls n cl)) ∧ Crs T (inG gs) cl ∧ (∀ s t, s < n → t < n → cl s = cl t → (inG gs s ↔ inG gs t)) ∧ mn' = cf cl n ∧ mn' ≤ n ∧ mn < mn' ∧ σ' = [some (.ref a), some (.ref g), none, some (.ref Cl), some (.int (mn' : Int)), v5, v6, v7, v8, none, v10], ?_, ?_⟩
    · rintro σ' J' ⟨s4, Cl', cl', mn', v5, v6, v7, v8, v10, e1, e2, e3, e4, e5, e6, rfl⟩
      exact ⟨_, by omega, s4, Cl', cl', mn', v5, v6, v7, v8, v10, e1, e2, e3, .inr e4, e5, rfl, rfl⟩
    walk_at "go"
    intro D nD
    have sD := same_new (o := DNo P w D []) nD
    have hD : DN P w (upd J D (DNo P w D [])) D [] := dn_new
    generalize upd J D (DNo P w D []) = J1 at sD hD
    walk_at "go"
    intro Fn nFn
    have sF := same_new (o := .lst []) nFn
    have eF : (upd J1 Fn (.lst [])) Fn = some (.lst (nls 0 fun _ => 0)) := upd_same
    have hD1 := hD.mono sF
    generalize upd J1 Fn (.lst []) = J2 at sF eF hD1
    have nFnJ := none_of sD nFn
    have s32 := sD.trans sF
    walk_at "go"
    refine ⟨q, _, _, rfl, Z.Same.sqK (s3.trans s32) hT.sq, ?_⟩
    refine for_enum hT.sq (fun k σ J2 => Same H J2 ∧ Same J J2 ∧ (∃ kvs fn, DN P w J2 D kvs ∧ J2 Fn = some (.lst (nls k fn)) ∧ Num (mk T m cl) k kvs fn) ∧ ∃ v7 v8 v10 : Option V, σ = [some (.ref a), some (.ref g), none, some (.ref Cl), some (.int (mn : Int)), some (.ref D), some (.ref Fn), v7, v8, none, v10]) ⟨s3.trans s32, s32, ⟨_, _, hD1, eF, num_nil _⟩, _, _, _, rfl⟩ (fun k σ J p => p.1) ?_ ?_
    · rintro k x σ J3 J4 ex ⟨s4, sJ4, ⟨kvs, fn, hD, eF, num⟩, v7, v8, v10, rfl⟩ s5
      rw [List.getElem?_map] at ex
      obtain ⟨z, ez, rfl⟩ := Option.map_eq_some_iff.mp ex
      have hk : k < n := by rw [hn']; exact (List.getElem?_eq_some_iff.mp ez).1
      have hz := (hT.mono (s4.trans s5)).at_ z (List.mem_of_getElem? ez)
      have mz : z.2 ∈ T := by rw [hT']; exact List.mem_map.mpr ⟨z, List.mem_of_getElem? ez, rfl⟩
      have lz := wf.row _ mz
      have rx : ∀ i, i < m → z.2.getD i none = nx T k i := fun i hi => by rw [hT']; exact row_nx ez (by omega)
      have eC4 := (sJ4.trans s5) _ _ eC
      have hD4 := hD.mono s5
      have eF4 := s5 _ _ eF
      walk_at "go"
      refine ⟨Cl, _, _, _, rfl, rfl, SqL.of eC4, nls_at hk, ?_⟩
      walk_at "go"
      intro l1 nl1
      generalize eH_ : upd J4 l1 _ = J5
      have s6 : Same J4 J5 := by rw [← eH_]; exact same_new nl1
      have el1 : J5 l1 = some (.lst [.int ((cl k : Nat) : Int)]) := by rw [← eH_]; exact upd_same
      clear eH_
      walk_at "go"
      refine rd_sq (b := q2) rfl (Z.Same.sqK s6 hz) ?_
      intro B nB
      refine lc_flt (n := m) (fun i => eV (z.2.getD i none)) (fun _ => true) (fun i => eV ((z.2.getD i none).map cl)) (by omega) nB (fun i J6 hi s7 => itq_go (Z.Same.sqK (s6.trans s7) hz) (row_at (by omega))) (fun J6 s7 => itq_stop (Z.Same.sqK (s6.trans s7) hz) (by rw [List.length_map]; omega)) (fun i J6 x J7 hi s7 y => ?_) (fun i => rfl) (fun i J6 Q1 hi s7 q1 => ?_) (fun i J6 Q1 hi _ s7 q1 => ?_) (fun J6 s7 eB => ?_)
      · obtain ⟨rfl, ex⟩ := itq_yld (Z.Same.sqK (s6.trans s7) hz) y
        rw [row_at (by omega)] at ex
        cases ex
        exact ⟨Same.refl _, rfl⟩
      · exact q1 _ (Same.refl _)
      · rw [rx i hi] at q1 ⊢
        cases e2 : nx T k i with
        | none =>
          rw [e2] at q1
          walk_at "go"
          exact q1 _ (Same.refl _)
        | some e =>
          rw [e2] at q1
          have he := (nx_lt wf e2).1
          rw [lT] at he
          dsimp only [eV]
          walk_at "go"
          exact ⟨Cl, _, _, _, rfl, rfl, SqL.of ((s6.trans s7) _ _ eC4), nls_at he, q1 _ (Same.refl _)⟩
      have em : fltL (fun _ => true) (fun i => eV ((z.2.getD i none).map cl)) m = (mk T m cl k).2.map eV := by
        rw [fltL_all]
        unfold mk
        dsimp only
        rw [List.map_map]
        exact List.map_congr_left fun i hi => by rw [rx i (List.mem_range.mp hi)]; rfl
      rw [em] at eB
      have lmk : ((mk T m cl k).2.map eV).length = m := by unfold mk; simp
      walk_at "go"
      refine ⟨l1, B, _, _, rfl, rfl, s7 _ _ el1, eB, by rw [lmk]; exact Nat.le_trans (show 1 + m ≤ 2000 by omega) (by decide), fun l2 nl2 => ?_⟩
      have s8 := same_new (o := .lst ([.int ((cl k : Nat) : Int)] ++ (mk T m cl k).2.map eV)) nl2
      have el2 : (upd J6 l2 (.lst ([.int ((cl k : Nat) : Int)] ++ (mk T m cl k).2.map eV))) l2 = some (.lst ([.int ((cl k : Nat) : Int)] ++ (mk T m cl k).2.map eV)) := upd_same
      generalize upd J6 l2 (.lst ([.int ((cl k : Nat) : Int)] ++ (mk T m cl k).2.map eV)) = J7 at s8 el2
      walk_at "go"
      refine ⟨l2, _, rfl, .inl ⟨SqL.of el2, fun t nt => ?_⟩⟩
      have s9 := same_new (o := .tup ([.int ((cl k : Nat) : Int)] ++ (mk T m cl k).2.map eV)) nt
      have et : (upd J7 t (.tup ([.int ((cl k : Nat) : Int)] ++ (mk T m cl k).2.map eV))) t = some (.tup ([.int ((cl k : Nat) : Int)] ++ (mk T m cl k).2.map eV)) := upd_same
      generalize upd J7 t (.tup ([.int ((cl k : Nat) : Int)] ++ (mk T m cl k).2.map eV)) = J8 at s9 et
      have s48 := s6.trans (s7.trans (s8.trans s9))
      have hD8 := hD4.mono s48
      have eF8 := s48 _ _ eF4
      have hN : NkV J8 (nk (mk T m cl k)) (.ref t) := .tup et (.cons (.int _) nka_lks)
      clear s6 s7 s8 s9 el1 eB el2
      walk_at "go"
      refine ⟨.inl ⟨rfl, _, SqL.of eF8⟩, ?_⟩
      walk_at "go"
      refine ⟨D, kvs, rfl, hD8, ?_⟩
      have lkv : kvs.length ≤ 1000000 := by
        rw [num.len]
        exact Nat.le_trans (cf_le _ _) (by omega)
      have sJ8 := sJ4.trans (s5.trans s48)
      have sH8 := s4.trans (s5.trans s48)
      have nDH := none_of s3 nD
      have nFnH := none_of s3 nFnJ
      refine ⟨kvs, nk (mk T m cl k), t, _, hD8, rfl, rfl, hN, nk_depth _, Nat.lt_of_le_of_lt lkv (by decide), fun v hv => ?_, fun hv => ?_⟩
      · obtain ⟨i, rfl, num2⟩ := num.old hv
        walk_at "go"
        refine ⟨Fn, _, _, rfl, rfl, eF8, by rw [nls_len]; exact szC (by omega), ?_⟩
        rw [nls_snoc]
        exact ⟨Z.Same.mut sH8 nFnH, Z.Same.mut sJ8 nFnJ, ⟨kvs, _, hD8.upd_lst eF8, upd_same, num2⟩, _, _, _, rfl⟩
      · have num2 := num.new hv t
        have hD9 := hD8.put (i := (kvs.length : Int)) hN (nk_depth _)
        have eF9 : (upd J8 D (DNo P w D (kvs ++ [(nk (mk T m cl k), t, (kvs.length : Int))]))) Fn = some (.lst (nls k fn)) := by
          rw [upd_ne (fun e => by have := hD8.at_; rw [← e, eF8] at this; unfold DNo at this; cases this)]
          exact eF8
        have sJ9 : Same J (upd J8 D (DNo P w D (kvs ++ [(nk (mk T m cl k), t, (kvs.length : Int))]))) := Z.Same.mut sJ8 nD
        have sH9 : Same H (upd J8 D (DNo P w D (kvs ++ [(nk (mk T m cl k), t, (kvs.length : Int))]))) := Z.Same.mut sH8 nDH
        generalize upd J8 D (DNo P w D (kvs ++ [(nk (mk T m cl k), t, (kvs.length : Int))])) = J9 at hD9 eF9 sJ9 sH9
        walk_at "go"
        refine ⟨Fn, _, _, rfl, rfl, eF9, by rw [nls_len]; exact szC (by omega), ?_⟩
        rw [nls_snoc]
        exact ⟨Z.Same.mut sH9 nFnH, Z.Same.mut sJ9 nFnJ, ⟨_, _, hD9.upd_lst eF9, upd_same, num2⟩, _, _, _, rfl⟩
    · rintro σ J3 ⟨s4, sJ3, ⟨kvs, fn, hD, eF, num⟩, v7, v8, v10, rfl⟩
      rw [List.length_map, ← hn'] at eF num
      walk_at "go"
      refine ⟨D, kvs, rfl, hD, ?_⟩
      walk_at "go"
      have e1 := num.cf
      have e2 := num.len
      have np : 0 < kvs.length := by rw [e2]; exact cf_pos _ hn0
      have rfn : ∀ s t, s < n → t < n → fn s = fn t → cl s = cl t := fun s t hs ht e => mk_fst ((num.eq hs ht).mp e)
      by_cases c : kvs.length = mn
      · rw [decide_eq_true (show V.int (kvs.length : Int) = V.int (mn : Int) by rw [c])]
        walk_at "go"
        have em : mn = Mc.cf cl n := by
          rcases hm0 with z | z
          · omega
          · exact z
        have back := cf_eq (f := cl) (g := fn) rfn (by rw [e1, ← e2, c, em])
        have key : ∀ s t, s < n → t < n → (fn s = fn t ↔ Leq T (inG gs) s t) := fun s t hs ht => by
          constructor
          · intro e
            refine stable_leq (cl := cl) wf (by rw [lT]; exact fl) (by rw [lT]; exact fun s t hs ht e => (num.eq hs ht).mp (back s t hs ht e)) s t (by rw [lT]; exact hs) (by rw [lT]; exact ht) (rfn s t hs ht e)
          · intro l
            exact back s t hs ht (crs s t (by rw [lT]; exact hs) (by rw [lT]; exact ht) l)
        exact qq Fn fn J3 s4 (none_of s3 nFnJ) eF key
      · rw [decide_eq_false (show ¬ V.int (kvs.length : Int) = V.int (mn : Int) from fun z => by injection z with z; omega)]
        walk_at "go"
        refine ⟨D, kvs, rfl, hD, ?_⟩
        refine ⟨s4, Fn, fn, kvs.length, _, _, _, _, _, eF, fun s t hs ht l => ?_, fun s t hs ht e => fl s t hs ht (rfn s t hs ht e), by rw [e1, e2], by rw [e2]; exact cf_le _ _, ?_, rfl⟩
        · rw [lT] at hs ht
          exact (num.eq hs ht).mpr (crs.next wf lv (by rw [lT]; exact hs) (by rw [lT]; exact ht) l)
        · rcases hm0 with z | z
          · omega
          · have := cf_mono (f := cl) (g := fn) rfn
            rw [e1, ← e2, ← z] at this
            omega
end
end Z
set_option pp.maxSteps 700
set_option Elab.async false
set_option linter.all false
set_option maxRecDepth 100000
set_option maxHeartbeats 4000000
open SX (S S_inj S_len S_cat)
namespace Z
open Mc
open PySem PySem.Spec PyProof.Rows L2
open C8 (pss_cut tCut)
local macro_rules | `(tactic| walk_at "num") => `(tactic| first | rfl | omega | decide | exact Nat.le_of_lt (small1000 (by simp)) | exact ⟨by omega, by omega⟩ | exact ⟨by omega, by omega, by omega⟩ | exact ⟨by decide, by decide, by decide⟩ | exact Or.inl ⟨by omega, by omega⟩ | exact Or.inr ⟨by omega, by omega⟩)
local macro_rules | `(tactic| walk_at "go") => `(tactic| repeat (first | refine ⟨_, rfl, ?_⟩ | refine ⟨_, _, rfl, rfl, ?_⟩ | refine ⟨_, _, rfl, ?_⟩ | (refine ⟨_, _, rfl, rfl, ?_, ?_⟩; focus walk_at "num") | refine Or.inl ⟨_, rfl, ?_⟩ | refine ⟨_, _, _, _, rfl, rfl, (by assumption), (by rfl), ?_⟩ | refine ⟨_, _, _, _, _, rfl, (by assumption), (by assumption), (by assumption), (by rfl), ?_⟩ | refine ⟨rfl, ?_⟩ | (refine And.intro ?_ ?_; focus walk_at "num")))
abbrev s_normal_table : Stmt := topS 11
abbrev N_normal_table : List Str := ["rows", "good", "flags", "classes", "numbers", "met", "result", "line", "entry", "at", "state"]
abbrev P_normal_table : List Str := ["rows", "good"]
theorem sc_normal_table : FnScope N_normal_table P_normal_table (defScope s_normal_table) := ⟨rfl, rfl, rfl, by decide +kernel, rfl, by decide +kernel, by decide +kernel⟩
/-- the numbers of the classes met -/
structure Nmb (kvs : List (L2.Key × V)) (fc : Nat → Nat) (met : List Nat) : Prop where
  len : kvs.length ≤ met.length
  at_ : ∀ (j s : Nat), met[j]? = some s → valV kvs (.inl ((fc s : Nat) : Int)) = some (.int ((j : Nat) : Int))
  no : ∀ c : Nat, (∀ s ∈ met, fc s ≠ c) → valV kvs (.inl (c : Int)) = none
theorem Nmb.put {kvs : List (L2.Key × V)} {fc : Nat → Nat} {met : List Nat} (h : Nmb kvs fc met) {e : Nat} (he : ∀ s ∈ met, fc s ≠ fc e) : Nmb (putK kvs (.inl ((fc e : Nat) : Int)) (.int ((met.length : Nat) : Int))) fc (met ++ [e]) := by
  refine ⟨?_, fun j s hj => ?_, fun c hc => ?_⟩
  · have := length_putK kvs (.inl ((fc e : Nat) : Int)) (.int ((met.length : Nat) : Int))
    rw [List.length_append]
    have := h.len
    show _ ≤ met.length + 1
    omega
  · rw [valV_put]
    by_cases c : j < met.length
    · rw [List.getElem?_append_left c] at hj
      rw [if_neg (fun z => he s (List.mem_of_getElem? hj) (by injection z with z; omega))]
      exact h.at_ j s hj
    · rw [List.getElem?_append_right (by omega)] at hj
      have c2 : j - met.length = 0 := by
        have := (List.getElem?_eq_some_iff.mp hj).1
        simp at this
        omega
      rw [c2] at hj
      cases hj
      rw [if_pos rfl, show j = met.length by omega]
  · rw [valV_put, if_neg (fun z => hc e (List.mem_append_right _ List.mem_cons_self) (by injection z with z; omega))]
    exact h.no c fun s hs => hc s (List.mem_append_left _ hs)
section
variable {P : Program} {w : World} {K : PySem.W.Frag} {mg : Str → Option Value} {base : Heap} {f : Addr} {fd : FuncData}
def spNorm (K : PySem.W.Frag) : Sp := fun vs H Q _ => ∃ (q q2 q3 : Bool) (m : Nat) (a g : Addr) (zs : List (Addr × List (Option Nat))) (gs : List Nat), vs = [.ref a, .ref g] ∧ Tb q q2 K H a zs ∧ Wf (tb zs) m ∧ m ≤ 1000 ∧ zs.length ≤ 1000000 ∧ SqK q3 K H g (gsq gs) ∧ (∀ s ∈ gs, s < zs.length) ∧
  ∀ (t r u : Addr) (zr : List (Addr × List (Option Nat))) (g' : List Nat) H', Same H H' → H' t = some (.tup [.ref r, .ref u]) → Tb false false K H' r zr → H' u = some (.tup (gsq g')) → Nf (tb zs) (inG gs) m (tb zr) g' → Q (.ref t) H'
theorem ok_normal_table (F : FnP K "normal_table" s_normal_table f fd) (m_len : mg "len" = none) (m_tuple : mg "tuple" = none) (m_enumerate : mg "enumerate" = none) (c_flags_of : Cal P w K mg base 1 "flags_of" (spFlags K)) (c_live_rows : Cal P w K mg base 2 "live_rows" (spLive K)) (c_state_classes : Cal P w K mg base 2 "state_classes" (spClasses K)) : FnOk P w K mg base CX0 3 f fd P_normal_table (spNorm K) := by
  refine F.ok sc_normal_table (fun vs H Q E h => ?_) (fun cdv A outer s H vs Q E hr h => ?_)
  · obtain ⟨q, q2, q3, m, a, g, zs, gs, rfl, _⟩ := h
    rfl
  · obtain ⟨q, q2, q3, m, a, g, zs, gs, rfl, hT, wf, hm, hn, hG, hgs, qq⟩ := h
    refine ⟨_, PSs.nox (pss_cons (ps_set (i := 2) sc_normal_table.nd rfl (by first | exact .inl rfl | exact .inr rfl) (pe_cl c_flags_of hr (by decide) (by rfl) (pa_cons (pe_callB call_len_seq (by rfl) m_len PySem.boot_len (pa_cons (pv 0) pa_nil)) (pa_cons (pv 1) pa_nil))))
      (pss_cons (ps_set (i := 0) sc_normal_table.nd rfl (by first | exact .inl rfl | exact .inr rfl) (pe_cl c_live_rows hr (by decide) (by rfl) (pa_cons (pv 0) (pa_cons (pv 1) pa_nil))))
      (pss_cons (ps_if (pt_cmpR op_eq (pe_callB call_len_seq (by rfl) m_len PySem.boot_len (pa_cons (pv 0) pa_nil)) pe_int (nomark _)) (pss_one (ps_ret (pe_tup (pa_cons (pe_tup pa_nil) (pa_cons (pe_tup pa_nil) pa_nil))))) pss_nil)
      (pss_cons (ps_set (i := 3) sc_normal_table.nd rfl (by first | exact .inl rfl | exact .inr rfl) (pe_cl c_state_classes hr (by decide) (by rfl) (pa_cons (pv 0) (pa_cons (pv 1) pa_nil))))
      (pss_cons (ps_set (i := 4) sc_normal_table.nd rfl (by first | exact .inl rfl | exact .inr rfl) (pe_disp (pps_cons (pe_ix ix_list (pv 3) pe_int (fun _ _ => rfl)) pe_int pps_nil) rfl rfl (by simp) (by decide)))
      (pss_cons (ps_set (i := 5) sc_normal_table.nd rfl (by first | exact .inl rfl | exact .inr rfl) (pe_lst (pa_cons pe_int pa_nil)))
      (pss_cons (ps_set (i := 6) sc_normal_table.nd rfl (by first | exact .inl rfl | exact .inr rfl) (pe_lst pa_nil))
      (pss_cut (ps_while PassesOwn.never (pt_cmpR op_lt (pe_callB call_len_seq (by rfl) m_len PySem.boot_len (pa_cons (pv 6) pa_nil)) (pe_callB call_len_seq (by rfl) m_len PySem.boot_len (pa_cons (pv 5) pa_nil)) (nomark _))
        (pss_cons (ps_set (i := 7) sc_normal_table.nd rfl (by first | exact .inl rfl | exact .inr rfl) (pe_lst pa_nil))
      (pss_cut (ps_for PassesOwn.never rfl (pi_list (pe_ix ix_list (pv 0) (pe_ix ix_list (pv 5) (pe_callB call_len_seq (by rfl) m_len PySem.boot_len (pa_cons (pv 6) pa_nil)) (fun _ _ => rfl)) (fun _ _ => rfl))) (pg_name (i := 8) sc_normal_table.nd rfl (by first | exact .inl rfl | exact .inr rfl))
        (pss_cons (ps_if (pt_cmpR op_isN (pv 8) pe_non (nomark _)) (pss_cons (ps_expr (pe_bm PySem.F.plainAttrs_list PySem.F.slot_list_append PySem.F.type_list_append mt_append (pv 7) (pa_cons pe_non pa_nil)))
      (pss_one ps_continue)) pss_nil)
      (pss_cut (ps_if (pt_cmp (pc_dnotin (hu_of hr) (pe_ix ix_list (pv 3) (pv 8) (fun _ _ => rfl)) (pv 4)) (by rfl)) (pss_cons (ps_dput (hu_of hr) (pv 4) (pe_ix ix_list (pv 3) (pv 8) (fun _ _ => rfl)) (pe_callB call_len_seq (by rfl) m_len PySem.boot_len (pa_cons (pv 5) pa_nil)) rfl)
      (pss_one (ps_expr (pe_bm PySem.F.plainAttrs_list PySem.F.slot_list_append PySem.F.type_list_append mt_append (pv 5) (pa_cons (pv 8) pa_nil))))) pss_nil)
      (pss_one (ps_expr (pe_bm PySem.F.plainAttrs_list PySem.F.slot_list_append PySem.F.type_list_append mt_append (pv 7) (pa_cons (pe_dget (hu_of hr) (pv 4) (pe_ix ix_list (pv 3) (pv 8) (fun _ _ => rfl)) (fun _ _ => rfl)) pa_nil)))))))
      (pss_one (ps_expr (pe_bm PySem.F.plainAttrs_list PySem.F.slot_list_append PySem.F.type_list_append mt_append (pv 6) (pa_cons (pe_callTy call_tuple_of (by rfl) m_tuple (by decide +kernel) (pa_cons (pv 7) pa_nil)) pa_nil)))))))
      (pss_one (ps_ret (pe_tup (pa_cons (pe_callTy call_tuple_of (by rfl) m_tuple (by decide +kernel) (pa_cons (pv 6) pa_nil)) (pa_cons (pe_callTy call_tuple_of (by rfl) m_tuple (by decide +kernel) (pa_cons (pe_lc (own := [("at", 9), ("state", 10)]) (g := (gTup K 2 (gCons (gName 9) (gCons (gName 10) gNil)))) (by rfl) sc_normal_table.nd (pi_enumM (by rfl) m_enumerate (pa_cons (pv 5) pa_nil)) (blkOk_by (own := [("at", 9), ("state", 10)]) (N := N_normal_table) (sc := defScope s_normal_table) (by decide +kernel)) (fun _ _ _ _ _ => (pg_tup rfl (pgs_cons (pg_name (i := 9) sc_normal_table.nd rfl (by first | exact .inl rfl | exact .inr rfl)) (pgs_cons (pg_name (i := 10) sc_normal_table.nd rfl (by first | exact .inl rfl | exact .inr rfl)) pgs_nil)))) (fun _ _ _ _ _ => (pts_one (pt_val (pe_ix (ix_list_K (K := K) rfl) (pv 2) (pv 10) (fun _ _ => rfl))))) (fun _ _ _ _ _ => (pv 9))) pa_nil)) pa_nil))))))))))))), ?_⟩
    walk_at "go"
    refine ⟨a, _, rfl, sqk_or hT.sq, ?_⟩
    rw [List.length_map]
    walk_at "go"
    refine ⟨q3, zs.length, g, gs, rfl, hG, hgs, by omega, fun L0 H1 s1 nL0 eL0 => ?_⟩
    walk_at "go"
    refine ⟨q, q2, q3, m, a, g, zs, gs, rfl, hT.mono s1, wf, hm, hn, Z.Same.sqK s1 hG, hgs, fun L zk H2 s2 nL hK hk => ?_⟩
    walk_at "go"
    refine ⟨L, _, rfl, sqk_or hK.sq, ?_⟩
    rw [List.length_map]
    walk_at "go"
    have nLH := none_of s1 nL
    rcases hk with ⟨rfl, h0⟩ | ⟨n0, l0, kpt⟩
    · rw [decide_eq_true (show V.int (([] : List (Addr × List (Option Nat))).length : Int) = V.int 0 from rfl)]
      walk_at "go"
      intro r nr
      generalize eH_ : upd H2 r _ = H3
      have s3 : Same H2 H3 := by rw [← eH_]; exact same_new nr
      have er : H3 r = some (.tup []) := by rw [← eH_]; exact upd_same
      clear eH_
      walk_at "go"
      intro u nu
      generalize eH_ : upd H3 u _ = H4
      have s4 : Same H3 H4 := by rw [← eH_]; exact same_new nu
      have eu : H4 u = some (.tup []) := by rw [← eH_]; exact upd_same
      clear eH_
      walk_at "go"
      intro t nt
      generalize eH_ : upd H4 t _ = H5
      have s5 : Same H4 H5 := by rw [← eH_]; exact same_new nt
      have et : H5 t = some (.tup [.ref r, .ref u]) := by rw [← eH_]; exact upd_same
      clear eH_
      exact qq t r u [] [] H5 (s1.trans (s2.trans (s3.trans (s4.trans s5)))) et ⟨SqT.of ((s4.trans s5) _ _ er), fun z m => absurd m (by simp)⟩ (s5 _ _ eu) (.inl ⟨rfl, rfl, h0.imp (fun e => by rw [e]; rfl) id⟩)
    have lK : zk.length = zs.length := by
      have := kpt.len
      unfold tb at this
      rwa [List.length_map, List.length_map] at this
    rw [decide_eq_false (show ¬ V.int (zk.length : Int) = V.int 0 from fun z => by injection z with z; omega)]
    walk_at "go"
    have s12 := s1.trans s2
    have hG2 := Z.Same.sqK s12 hG
    refine ⟨true, true, q3, m, L, g, zk, gs, rfl, hK, kpt.wf, hm, by omega, by omega, hG2, by rw [lK]; exact hgs, ?_⟩
    obtain ⟨T, hT'⟩ : ∃ T, T = tb zk := ⟨_, rfl⟩
    have lT : T.length = zs.length := by rw [hT', kpt.len]; exact List.length_map ..
    rw [← hT'] at kpt ⊢
    refine ⟨kpt.lv, fun L3 fc H3 s3 nL3 eFc hfc => ?_⟩
    rw [lK] at hfc eFc
    obtain ⟨n, hn'⟩ : ∃ n, n = zs.length := ⟨_, rfl⟩
    rw [← hn'] at hfc eFc hn n0 lT lK hgs eL0
    have eL03 := (s2.trans s3) _ _ eL0
    have hK3 := hK.mono s3
    have sH3 := s12.trans s3
    have l0' := (kpt.liv 0).mpr l0
    intro Nu nNu
    have sN := same_new (o := .dK []) nNu
    walk_at "go"
    refine ⟨L3, _, _, _, rfl, rfl, SqL.of (sN _ _ eFc), nls_at (i := 0) n0, ?_⟩
    walk_at "go"
    refine ⟨upd_same, [(.inl ((fc 0 : Nat) : Int), .int 0)], rfl, (by show 1 ≤ 15; decide), ?_⟩
    have s35 : Same H3 (upd (upd H3 Nu (.dK [])) Nu (.dK (mergeK [] [(.inl ((fc 0 : Nat) : Int), .int 0)]))) := Z.Same.mut sN nNu
    have eNu : (upd (upd H3 Nu (.dK [])) Nu (.dK (mergeK [] [(.inl ((fc 0 : Nat) : Int), .int 0)]))) Nu = some (.dK [(.inl ((fc 0 : Nat) : Int), .int 0)]) := upd_same
    have nm0 : Nmb [(.inl ((fc 0 : Nat) : Int), .int 0)] fc [0] := by
      refine ⟨Nat.le_refl _, fun j s hj => ?_, fun c hc => ?_⟩
      · have h1 := (List.getElem?_eq_some_iff.mp hj).1
        have h1 : j < 1 := h1
        have : j = 0 := by omega
        subst this
        cases hj
        exact valV_pos rfl
      · rw [valV_neg (fun z => hc 0 List.mem_cons_self (by injection z with z; omega))]
        rfl
    generalize upd (upd H3 Nu (.dK [])) Nu (.dK (mergeK [] [(.inl ((fc 0 : Nat) : Int), .int 0)])) = H5 at s35 eNu
    clear sN
    walk_at "go"
    intro Me nMe
    have s6 := same_new (o := .lst [.int 0]) nMe
    have eMe : (upd H5 Me (.lst [.int 0])) Me = some (.lst (gsq [0])) := upd_same
    generalize upd H5 Me (.lst [.int 0]) = H6 at s6 eMe
    walk_at "go"
    intro Re nRe
    have s7 := same_new (o := .lst []) nRe
    have eRe : (upd H6 Re (.lst [])) Re = some (.lst (([] : List (Addr × List (Option Nat))).map fun z => V.ref z.1)) := upd_same
    have eNu7 := (s6.trans s7) _ _ eNu
    have eMe7 := s7 _ _ eMe
    generalize upd H6 Re (.lst []) = H7 at s7 eRe eNu7 eMe7
    have s37 := s35.trans (s6.trans s7)
    have nMe3 := none_of s35 nMe
    have nRe3 := none_of (s35.trans s6) nRe
    have MR : Me ≠ Re := fun e => by rw [e, nRe] at eMe; cases eMe
    clear s6 s7 eNu eMe s35 nMe nRe
    rw [show L2.start N_normal_table [V.ref a, V.ref g] = [some (.ref a), some (.ref g), none, none, none, none, none, none, none, none, none] from rfl]
    dsimp only [List.set]
    have bf0 : Bf T (inG gs) m [0] [] [] := Bf.start (by rw [lT]; exact n0) l0'
    refine ⟨fun σ' J => Same H3 J ∧ ∃ (met : List Nat) (zr : List (Addr × List (Option Nat))) (v7 v8 : Option V), J Me = some (.lst (gsq met)) ∧ J Re = some (.lst (zr.map fun z => V.ref z.1)) ∧ (∀ z ∈ zr, J z.1 = some (.tup (z.2.map eV))) ∧ Bf T (inG gs) m met (tb zr) [] ∧ zr.length = met.length ∧ σ' = [some (.ref L), some (.ref g), some (.ref L0), some (.ref L3), some (.ref Nu), some (.ref Me), some (.ref Re), v7, v8, none, none], ?_, ?_⟩
    · refine ⟨fun μ σ J => Same H3 J ∧ ∃ (met : List Nat) (zr : List (Addr × List (Option Nat))) (kvs : List (L2.Key × V)) (v7 v8 : Option V), J Me = some (.lst (gsq met)) ∧ J Re = some (.lst (zr.map fun z => V.ref z.1)) ∧ J Nu = some (.dK kvs) ∧ Nmb kvs fc met ∧ (∀ z ∈ zr, J z.1 = some (.tup (z.2.map eV))) ∧ Bf T (inG gs) m met (tb zr) [] ∧ μ = n - zr.length ∧ σ = [some (.ref L), some (.ref g), some (.ref L0), some (.ref L3), some (.ref Nu), some (.ref Me), some (.ref Re), v7, v8, none, none], ⟨_, s37, [0], [], _, none, none, eMe7, eRe, eNu7, nm0, fun z m => absurd m (by simp), bf0, rfl, rfl⟩, ?_⟩
      rintro μ σ J ⟨s4, met, zr, kvs, v7, v8, eM, eR, eN, nm, hz, bf, rfl, rfl⟩
      have lzr : (tb zr).length = zr.length := List.length_map ..
      have bfl := bf.le
      have bfn := bf.nodup
      rw [lzr] at bfl
      rw [lT] at bfn
      walk_at "go"
      refine ⟨Re, _, rfl, .inl (SqL.of eR), ?_⟩
      rw [List.length_map]
      walk_at "go"
      refine ⟨Me, _, rfl, .inl (SqL.of eM), ?_⟩
      rw [show (gsq met).length = met.length from List.length_map ..]
      walk_at "go"
      refine ite2 (fun e => ?_) (fun e => ?_)
      · have lt : zr.length < met.length := by have := of_decide_eq_true e; omega
        refine ⟨fun σ' J' => Same H3 J' ∧ ∃ (met : List Nat) (zr' : List (Addr × List (Option Nat))) (kvs : List (L2.Key × V)) (v7 v8 : Option V), J' Me = some (.lst (gsq met)) ∧ J' Re = some (.lst (zr'.map fun z => V.ref z.1)) ∧ J' Nu = some (.dK kvs) ∧ Nmb kvs fc met ∧ (∀ z ∈ zr', J' z.1 = some (.tup (z.2.map eV))) ∧ Bf T (inG gs) m met (tb zr') [] ∧ zr'.length = zr.length + 1 ∧ σ' = [some (.ref L), some (.ref g), some (.ref L0), some (.ref L3), some (.ref Nu), some (.ref Me), some (.ref Re), v7, v8, none, none], ?_, ?_⟩
        · rintro σ' J' ⟨s5, met', zr', kvs', v7, v8, e1, e2, e3, e4, e5, e6, e7, rfl⟩
          exact ⟨_, by omega, s5, met', zr', kvs', v7, v8, e1, e2, e3, e4, e5, e6, rfl, rfl⟩
        obtain ⟨s0, hs0⟩ : ∃ s0, met[zr.length]? = some s0 := ⟨_, List.getElem?_eq_getElem lt⟩
        have s0n := (bf.live s0 (List.mem_of_getElem? hs0)).1
        rw [lT] at s0n
        obtain ⟨z0, hz0⟩ : ∃ z0, zk[s0]? = some z0 := ⟨_, List.getElem?_eq_getElem (by omega)⟩
        have mz0 : z0.2 ∈ T := by rw [hT']; exact List.mem_map.mpr ⟨z0, List.mem_of_getElem? hz0, rfl⟩
        have lz0 := kpt.wf.row _ mz0
        have rx : ∀ i, i < m → z0.2.getD i none = nx T s0 i := fun i hi => by rw [hT']; exact row_nx hz0 (by omega)
        walk_at "go"
        intro Li nLi
        have s5 := same_new (o := .lst []) nLi
        have eLi : (upd J Li (.lst [])) Li = some (.lst (([] : List (Option Nat)).map eV)) := upd_same
        have LM : Li ≠ Me := ne_of_none' (s4 := eM) nLi
        have LR : Li ≠ Re := ne_of_none' (s4 := eR) nLi
        have LN : Li ≠ Nu := ne_of_none' (s4 := eN) nLi
        have MN : Me ≠ Nu := fun e => by rw [e, eN] at eM; cases eM
        have RN : Re ≠ Nu := fun e => by rw [e, eN] at eR; cases eR
        have nLi3 := none_of s4 nLi
        have hLz : ∀ z ∈ zr, z.1 ≠ Li := fun z hm e => by have := hz z hm; rw [e, nLi] at this; cases this
        have hMz : ∀ z ∈ zr, z.1 ≠ Me := fun z hm e => by have := hz z hm; rw [e, eM] at this; cases this
        have hRz : ∀ z ∈ zr, z.1 ≠ Re := fun z hm e => by have := hz z hm; rw [e, eR] at this; cases this
        have hNz : ∀ z ∈ zr, z.1 ≠ Nu := fun z hm e => by have := hz z hm; rw [e, eN] at this; cases this
        refine ⟨fun σ' J' => Same H3 J' ∧ ∃ (met : List Nat) (kvs : List (L2.Key × V)) (Ln : List (Option Nat)) (v8 : Option V), J' Me = some (.lst (gsq met)) ∧ J' Re = some (.lst (zr.map fun z => V.ref z.1)) ∧ J' Nu = some (.dK kvs) ∧ Nmb kvs fc met ∧ (∀ z ∈ zr, J' z.1 = some (.tup (z.2.map eV))) ∧ J' Li = some (.lst (Ln.map eV)) ∧ Ln.length = m ∧ Bf T (inG gs) m met (tb zr) Ln ∧ zr.length < met.length ∧ σ' = [some (.ref L), some (.ref g), some (.ref L0), some (.ref L3), some (.ref Nu), some (.ref Me), some (.ref Re), some (.ref Li), v8, none, none], ?_, ?_⟩
        · walk_at "go"
          refine ⟨Re, _, rfl, .inl (SqL.of (s5 _ _ eR)), ?_⟩
          rw [List.length_map]
          walk_at "go"
          refine ⟨Me, _, _, _, rfl, rfl, SqL.of (s5 _ _ eM), atI_nat (v := .int ((s0 : Nat) : Int)) (by unfold gsq; rw [List.getElem?_map, hs0]; rfl), ?_⟩
          walk_at "go"
          have hK5 := hK3.mono (s4.trans s5)
          refine ⟨L, _, _, _, rfl, rfl, hK5.sq, atI_nat (v := .ref z0.1) (by rw [List.getElem?_map, hz0]; rfl), ?_⟩
          walk_at "go"
          refine ⟨⟨_, hK5.at_ z0 (List.mem_of_getElem? hz0)⟩, ?_⟩
          refine for_gen (n := m) (fun k σ J => Same H3 J ∧ ∃ (met : List Nat) (kvs : List (L2.Key × V)) (Ln : List (Option Nat)) (v8 : Option V), J Me = some (.lst (gsq met)) ∧ J Re = some (.lst (zr.map fun z => V.ref z.1)) ∧ J Nu = some (.dK kvs) ∧ Nmb kvs fc met ∧ (∀ z ∈ zr, J z.1 = some (.tup (z.2.map eV))) ∧ J Li = some (.lst (Ln.map eV)) ∧ Ln.length = k ∧ Bf T (inG gs) m met (tb zr) Ln ∧ met[zr.length]? = some s0 ∧ σ = [some (.ref L), some (.ref g), some (.ref L0), some (.ref L3), some (.ref Nu), some (.ref Me), some (.ref Re), some (.ref Li), v8, none, none]) ⟨s4.trans s5, met, kvs, [], v8, s5 _ _ eM, s5 _ _ eR, s5 _ _ eN, nm, fun z hm => s5 _ _ (hz z hm), eLi, rfl, bf, hs0, rfl⟩ ?_ ?_ ?_ ?_
          · rintro k σ J hk ⟨s6, _⟩
            exact ⟨_, eV (z0.2.getD k none), (hK3.mono s6).at_ z0 (List.mem_of_getElem? hz0), row_at (by omega)⟩
          · rintro σ J ⟨s6, _⟩
            exact ⟨_, (hK3.mono s6).at_ z0 (List.mem_of_getElem? hz0), by rw [List.length_map]; omega⟩
          · rintro k σ J6 x J7 hk ⟨s6, met, kvs, Ln, v8, eM, eR, eN, nm, hz, eLi, lL, bf, hs0, rfl⟩ ⟨rfl, e⟩
            have hx := e _ ((hK3.mono s6).at_ z0 (List.mem_of_getElem? hz0))
            rw [row_at (by omega), rx k hk] at hx
            cases hx
            have hs0' : met[(tb zr).length]? = some s0 := by rw [show (tb zr).length = zr.length from List.length_map ..]; exact hs0
            have bfn := bf.nodup
            rw [lT] at bfn
            cases eo : nx T s0 k with
            | none =>
              walk_at "go"
              refine ⟨.inl ⟨rfl, _, SqL.of eLi⟩, ?_⟩
              walk_at "go"
              refine ⟨Li, _, _, rfl, rfl, eLi, by rw [List.length_map]; exact szC (by omega), ?_⟩
              have bf2 := bf.put (more := []) (o := none) hs0' (by omega) (.inl rfl) (.inl ⟨rfl, by rw [lL]; exact eo⟩)
              rw [List.append_nil] at bf2
              exact ⟨Z.Same.mut s6 nLi3, met, kvs, Ln ++ [none], _, by rw [upd_ne LM.symm]; exact eM, by rw [upd_ne LR.symm]; exact eR, by rw [upd_ne LN.symm]; exact eN, nm, fun z hm => by rw [upd_ne (hLz z hm)]; exact hz z hm, by rw [upd_same, List.map_append]; rfl, by rw [List.length_append, lL]; rfl, bf2, hs0, rfl⟩
            | some e =>
              dsimp only [eV]
              have he := (nx_lt kpt.wf eo).1
              rw [lT] at he
              have lvE := kpt.lv _ _ _ eo
              walk_at "go"
              refine ite2 (fun h => absurd (of_decide_eq_true h) (fun z => by cases z)) (fun _ => ?_)
              refine ⟨fun σ' J' => Same H3 J' ∧ ∃ (more : List Nat) (kvs2 : List (L2.Key × V)) (j t : Nat), J' Me = some (.lst (gsq (met ++ more))) ∧ J' Re = some (.lst (zr.map fun z => V.ref z.1)) ∧ J' Nu = some (.dK kvs2) ∧ Nmb kvs2 fc (met ++ more) ∧ (∀ z ∈ zr, J' z.1 = some (.tup (z.2.map eV))) ∧ J' Li = some (.lst (Ln.map eV)) ∧ (met ++ more)[j]? = some t ∧ t < n ∧ fc t = fc e ∧ (more = [] ∨ ∃ e', more = [e'] ∧ some j = some met.length ∧ e' < T.length ∧ Liv T (inG gs) e' ∧ ∀ t ∈ met, ¬ Leq T (inG gs) e' t) ∧ σ' = [some (.ref L), some (.ref g), some (.ref L0), some (.ref L3), some (.ref Nu), some (.ref Me), some (.ref Re), some (.ref Li), some (.int (e : Int)), none, none], ?_, ?_⟩
              · walk_at "go"
                refine ⟨L3, _, _, _, rfl, rfl, SqL.of (s6 _ _ eFc), nls_at he, ?_⟩
                walk_at "go"
                refine ⟨Nu, _, rfl, DGet.k (k := .inl ((fc e : Nat) : Int)) eN, ?_⟩
                by_cases hx : ∃ j t : Nat, met[j]? = some t ∧ fc t = fc e
                · obtain ⟨j, t, hj, ht⟩ := hx
                  have hv := nm.at_ j t hj
                  rw [ht] at hv
                  rw [hv]
                  walk_at "go"
                  have tn := (bf.live t (List.mem_of_getElem? hj)).1
                  rw [lT] at tn
                  exact ⟨[], kvs, j, t, by rw [List.append_nil]; exact eM, eR, eN, by rw [List.append_nil]; exact nm, hz, eLi, by rw [List.append_nil]; exact hj, tn, ht, .inl rfl, rfl⟩
                · have ne : ∀ t ∈ met, fc t ≠ fc e := fun t ht q => by
                    obtain ⟨j, hj, rfl⟩ := List.getElem_of_mem ht
                    exact hx ⟨j, _, List.getElem?_eq_getElem hj, q⟩
                  rw [nm.no (fc e) ne]
                  walk_at "go"
                  refine ⟨Me, _, rfl, .inl (SqL.of eM), ?_⟩
                  rw [show (gsq met).length = met.length from List.length_map ..]
                  walk_at "go"
                  refine ⟨L3, _, _, _, rfl, rfl, SqL.of (s6 _ _ eFc), nls_at he, ?_⟩
                  walk_at "go"
                  have nml := nm.len
                  refine ⟨Nu, _, rfl, DPut.k (k := .inl ((fc e : Nat) : Int)) eN (szC (by omega)), ?_⟩
                  have s7 : Same H3 (upd J7 Nu (.dK (putK kvs (.inl ((fc e : Nat) : Int)) (.int ((met.length : Nat) : Int))))) := Z.Same.mut s6 nNu
                  have eM7 : (upd J7 Nu (.dK (putK kvs (.inl ((fc e : Nat) : Int)) (.int ((met.length : Nat) : Int))))) Me = some (.lst (gsq met)) := by rw [upd_ne MN]; exact eM
                  have eR7 : (upd J7 Nu (.dK (putK kvs (.inl ((fc e : Nat) : Int)) (.int ((met.length : Nat) : Int))))) Re = some (.lst (zr.map fun z => V.ref z.1)) := by rw [upd_ne RN]; exact eR
                  have eN7 : (upd J7 Nu (.dK (putK kvs (.inl ((fc e : Nat) : Int)) (.int ((met.length : Nat) : Int))))) Nu = some (.dK (putK kvs (.inl ((fc e : Nat) : Int)) (.int ((met.length : Nat) : Int)))) := upd_same
                  have eL7 : (upd J7 Nu (.dK (putK kvs (.inl ((fc e : Nat) : Int)) (.int ((met.length : Nat) : Int))))) Li = some (.lst (Ln.map eV)) := by rw [upd_ne LN]; exact eLi
                  have hz7 : ∀ z ∈ zr, (upd J7 Nu (.dK (putK kvs (.inl ((fc e : Nat) : Int)) (.int ((met.length : Nat) : Int))))) z.1 = some (.tup (z.2.map eV)) := fun z hm => by rw [upd_ne (hNz z hm)]; exact hz z hm
                  generalize upd J7 Nu (.dK (putK kvs (.inl ((fc e : Nat) : Int)) (.int ((met.length : Nat) : Int)))) = J9 at s7 eM7 eR7 eN7 eL7 hz7
                  walk_at "go"
                  refine ⟨.inl ⟨rfl, _, SqL.of eM7⟩, ?_⟩
                  walk_at "go"
                  refine ⟨Me, _, _, rfl, rfl, eM7, by rw [show (gsq met).length = met.length from List.length_map ..]; exact szC (by omega), ?_⟩
                  refine ⟨Z.Same.mut s7 nMe3, [e], _, met.length, e, by rw [upd_same]; unfold gsq; rw [List.map_append]; rfl, by rw [upd_ne MR.symm]; exact eR7, by rw [upd_ne MN.symm]; exact eN7, nm.put ne, fun z hm => by rw [upd_ne (hMz z hm)]; exact hz7 z hm, by rw [upd_ne LM]; exact eL7, by rw [List.getElem?_append_right (Nat.le_refl _), Nat.sub_self]; rfl, he, rfl, .inr ⟨e, rfl, rfl, by rw [lT]; exact he, lvE, fun t ht l => ?_⟩, rfl⟩
                  have tn := (bf.live t ht).1
                  rw [lT] at tn
                  exact ne t ht ((hfc e t he tn).mpr l).symm
              rintro σ' J7 ⟨s7, more, kvs2, j, t, eM7, eR7, eN7, nm7, hz7, eL7, hj, tn, ht, hmo, rfl⟩
              walk_at "go"
              refine ⟨.inl ⟨rfl, _, SqL.of eL7⟩, ?_⟩
              walk_at "go"
              refine ⟨L3, _, _, _, rfl, rfl, SqL.of (s7 _ _ eFc), nls_at he, ?_⟩
              walk_at "go"
              have hv := nm7.at_ j t hj
              rw [ht] at hv
              refine ⟨Nu, _, rfl, (by have := DGet.k (k := .inl ((fc e : Nat) : Int)) eN7; rw [hv] at this; exact this), ?_⟩
              walk_at "go"
              refine ⟨Li, _, _, rfl, rfl, eL7, by rw [List.length_map]; exact szC (by omega), ?_⟩
              have bf2 := bf.put (more := more) (o := some j) hs0' (by omega) hmo (.inr ⟨j, e, t, rfl, by rw [lL]; exact eo, hj, (hfc e t he tn).mp ht.symm⟩)
              exact ⟨Z.Same.mut s7 nLi3, met ++ more, kvs2, Ln ++ [some j], _, by rw [upd_ne LM.symm]; exact eM7, by rw [upd_ne LR.symm]; exact eR7, by rw [upd_ne LN.symm]; exact eN7, nm7, fun z hm => by rw [upd_ne (hLz z hm)]; exact hz7 z hm, by rw [upd_same, List.map_append]; rfl, by rw [List.length_append, lL]; rfl, bf2, by rw [List.getElem?_append_left (List.getElem?_eq_some_iff.mp hs0).1]; exact hs0, rfl⟩
          · rintro σ J ⟨s6, met, kvs, Ln, v8, eM, eR, eN, nm, hz, eLi, lL, bf, hs0, rfl⟩
            exact ⟨s6, met, kvs, Ln, v8, eM, eR, eN, nm, hz, eLi, lL, bf, (List.getElem?_eq_some_iff.mp hs0).1, rfl⟩
        rintro σ' J6 ⟨s6, met, kvs, Ln, v8, eM, eR, eN, nm, hz, eLi, lL, bf, lt, rfl⟩
        walk_at "go"
        refine ⟨.inl ⟨rfl, _, SqL.of eR⟩, ?_⟩
        walk_at "go"
        refine ⟨Li, _, rfl, .inl ⟨SqL.of eLi, fun t nt => ?_⟩⟩
        have st_ := same_new (o := .tup (Ln.map eV)) nt
        have et : (upd J6 t (.tup (Ln.map eV))) t = some (.tup (Ln.map eV)) := upd_same
        have tR : t ≠ Re := ne_of_none' (s4 := eR) nt
        generalize upd J6 t (.tup (Ln.map eV)) = J7 at st_ et
        walk_at "go"
        refine ⟨Re, _, _, rfl, rfl, st_ _ _ eR, by rw [List.length_map]; exact szC (by omega), ?_⟩
        have bf2 := bf.close (by rw [show (tb zr).length = zr.length from List.length_map ..]; exact lt) lL
        refine ⟨Z.Same.mut (s6.trans st_) nRe3, met, zr ++ [(t, Ln)], kvs, _, _, by rw [upd_ne MR]; exact st_ _ _ eM, by rw [upd_same, List.map_append]; rfl, by rw [upd_ne RN.symm]; exact st_ _ _ eN, nm, fun z hm => ?_, by unfold tb at bf2 ⊢; rw [List.map_append]; exact bf2, by rw [List.length_append]; rfl, rfl⟩
        rcases List.mem_append.mp hm with hm | hm
        · rw [upd_ne (hRz z hm)]
          exact st_ _ _ (hz z hm)
        · rw [List.mem_singleton.mp hm, upd_ne tR]
          exact et
      · have lt : ¬ zr.length < met.length := fun z => e (decide_eq_true (by omega))
        exact ⟨s4, met, zr, _, _, eM, eR, hz, bf, by omega, rfl⟩
    rintro σ' J ⟨s4, met, zr, v7, v8, eM, eR, hz, bf, lz, rfl⟩
    have bfn := bf.nodup
    rw [lT] at bfn
    walk_at "go"
    refine ⟨Re, _, rfl, .inl ⟨SqL.of eR, fun r nr => ?_⟩⟩
    have sr := same_new (o := .tup (zr.map fun z => V.ref z.1)) nr
    have er : (upd J r (.tup (zr.map fun z => V.ref z.1))) r = some (.tup (zr.map fun z => V.ref z.1)) := upd_same
    generalize upd J r (.tup (zr.map fun z => V.ref z.1)) = J1 at sr er
    have eM1 := sr _ _ eM
    have eL01 := (s4.trans sr) _ _ eL03
    walk_at "go"
    refine ⟨true, _, _, rfl, SqL.of eM1, ?_⟩
    intro D nD
    refine lc_gen (n := met.length) (fun k J => Same J1 J ∧ J D = some (.lst (gsq ((List.range k).filter fun i => decide (met.getD i 0 ∈ gs))))) ⟨same_new nD, upd_same⟩ ?_ ?_ ?_ ?_
    · rintro k J hk ⟨s5, _⟩
      exact ⟨gsq met, .int ((met[k] : Nat) : Int), SqL.of (s5 _ _ eM1), by unfold gsq; rw [List.getElem?_map, List.getElem?_eq_getElem hk]; rfl⟩
    · rintro J ⟨s5, _⟩
      exact ⟨gsq met, SqL.of (s5 _ _ eM1), List.length_map ..⟩
    · rintro k J x J' hk ⟨s5, eD⟩ ⟨Tt, z, rfl, nT, rfl, e⟩
      have hx := e _ (SqL.of (s5 _ _ eM1))
      unfold gsq at hx
      rw [List.getElem?_map, List.getElem?_eq_getElem hk] at hx
      cases hx
      have ln : met[k] < n := by have := (bf.live _ (List.getElem_mem hk)).1; omega
      have sT := same_new (o := .tup [.int ((k : Nat) : Int), .int ((met[k] : Nat) : Int)]) nT
      have eg : met.getD k 0 = met[k] := by rw [List.getD_eq_getElem?_getD, List.getElem?_eq_getElem hk]; rfl
      refine ⟨Tt, _, rfl, SqT.of upd_same, rfl, _, _, rfl, _, _, rfl, rfl, ?_⟩
      walk_at "go"
      refine ⟨L0, _, _, _, rfl, rfl, SqL.of ((s5.trans sT) _ _ eL01), atI_nat (v := .bl (decide (met[k] ∈ gs))) (by rw [List.getElem?_map, List.getElem?_range ln]; rfl), ?_⟩
      have fs : (List.range (k + 1)).filter (fun i => decide (met.getD i 0 ∈ gs)) = (List.range k).filter (fun i => decide (met.getD i 0 ∈ gs)) ++ if met[k] ∈ gs then [k] else [] := by
        rw [List.range_succ, List.filter_append]
        congr 1
        by_cases c : met[k] ∈ gs
        · rw [if_pos c]
          simp only [List.filter_cons, List.filter_nil, eg, c, decide_true, if_true]
        · rw [if_neg c]
          simp only [List.filter_cons, List.filter_nil, eg, c, decide_false, if_false, Bool.false_eq_true]
      have lD : (gsq ((List.range k).filter fun i => decide (met.getD i 0 ∈ gs))).length ≤ 1000000 := by
        have h1 := List.length_filter_le (fun i => decide (met.getD i 0 ∈ gs)) (List.range k)
        rw [List.length_range] at h1
        rw [show (gsq ((List.range k).filter fun i => decide (met.getD i 0 ∈ gs))).length = _ from List.length_map ..]
        omega
      by_cases c : met[k] ∈ gs
      · rw [decide_eq_true c]
        walk_at "go"
        refine ⟨_, sT _ _ eD, szC (by omega), Z.Same.mut (s5.trans sT) nD, ?_⟩
        rw [upd_same, fs, if_pos c]
        unfold gsq
        rw [List.map_append]
        rfl
      · rw [decide_eq_false c]
        walk_at "go"
        refine ⟨s5.trans sT, ?_⟩
        rw [fs, if_neg c, List.append_nil]
        exact sT _ _ eD
    rintro J ⟨s5, eD⟩
    walk_at "go"
    refine ⟨D, _, rfl, .inl ⟨SqL.of eD, fun u nu => ?_⟩⟩
    have su := same_new (o := .tup (gsq ((List.range met.length).filter fun i => decide (met.getD i 0 ∈ gs)))) nu
    have eu : (upd J u (.tup (gsq ((List.range met.length).filter fun i => decide (met.getD i 0 ∈ gs))))) u = some (.tup (gsq ((List.range met.length).filter fun i => decide (met.getD i 0 ∈ gs)))) := upd_same
    generalize upd J u (.tup (gsq ((List.range met.length).filter fun i => decide (met.getD i 0 ∈ gs)))) = J8 at su eu
    walk_at "go"
    intro t nt
    have st_ := same_new (o := .tup [.ref r, .ref u]) nt
    have s18 := s5.trans (su.trans st_)
    have nf : NfOf T (inG gs) m (tb zr) ((List.range met.length).filter fun i => decide (met.getD i 0 ∈ gs)) met := bf.nf kpt.wf (by rw [show (tb zr).length = zr.length from List.length_map ..]; exact lz) (fun i => by
      rw [List.mem_filter, List.mem_range, decide_eq_true_iff]
      constructor
      · rintro ⟨hi, hg⟩
        refine ⟨met[i], List.getElem?_eq_getElem hi, ?_⟩
        rw [List.getD_eq_getElem?_getD, List.getElem?_eq_getElem hi] at hg
        exact hg
      · rintro ⟨s, hs, hg⟩
        refine ⟨(List.getElem?_eq_some_iff.mp hs).1, ?_⟩
        rw [List.getD_eq_getElem?_getD, hs]
        exact hg) (List.Pairwise.filter _ List.pairwise_lt_range)
    exact qq t r u zr _ _ (sH3.trans (s4.trans (sr.trans s18))) upd_same ⟨SqT.of (s18 _ _ er), fun z hm => SqT.of ((sr.trans s18) _ _ (hz z hm))⟩ (st_ _ _ eu) (.inr ⟨met, kpt.nf nf⟩)
end
end Z
set_option pp.maxSteps 700
set_option Elab.async false
set_option linter.all false
set_option maxRecDepth 100000
set_option maxHeartbeats 4000000
open SX (S S_inj S_len S_cat)
namespace Z
open Mc
open PySem PySem.Spec PyProof.Rows L2
open C8 (pss_cut tCut)
local macro_rules | `(tactic| walk_at "num") => `(tactic| first | rfl | omega | decide | exact Nat.le_of_lt (small1000 (by simp)) | exact ⟨by omega, by omega⟩ | exact ⟨by omega, by omega, by omega⟩ | exact ⟨by decide, by decide, by decide⟩ | exact Or.inl ⟨by omega, by omega⟩ | exact Or.inr ⟨by omega, by omega⟩)
local macro_rules | `(tactic| walk_at "go") => `(tactic| repeat (first | refine ⟨_, rfl, ?_⟩ | refine ⟨_, _, rfl, rfl, ?_⟩ | refine ⟨_, _, rfl, ?_⟩ | (refine ⟨_, _, rfl, rfl, ?_, ?_⟩; focus walk_at "num") | refine Or.inl ⟨_, rfl, ?_⟩ | refine ⟨_, _, _, _, rfl, rfl, (by assumption), (by rfl), ?_⟩ | refine ⟨_, _, _, _, _, rfl, (by assumption), (by assumption), (by assumption), (by rfl), ?_⟩ | refine ⟨rfl, ?_⟩ | (refine And.intro ?_ ?_; focus walk_at "num")))
abbrev s_Machine___init__ : Stmt := inClass (topS 22) 0
abbrev N_Machine___init__ : List Str := ["self", "letters", "rows", "good", "ends", "state"]
abbrev P_Machine___init__ : List Str := ["self", "letters", "rows", "good"]
theorem sc_Machine___init__ : FnScope N_Machine___init__ P_Machine___init__ (defScope s_Machine___init__) := ⟨rfl, rfl, rfl, by decide +kernel, rfl, by decide +kernel, by decide +kernel⟩
abbrev s_Machine_after : Stmt := inClass (topS 22) 9
abbrev N_Machine_after : List Str := ["self", "text", "state", "letter"]
abbrev P_Machine_after : List Str := ["self", "text"]
theorem sc_Machine_after : FnScope N_Machine_after P_Machine_after (defScope s_Machine_after) := ⟨rfl, rfl, rfl, by decide +kernel, rfl, by decide +kernel, by decide +kernel⟩
abbrev s_Machine___contains__ : Stmt := inClass (topS 22) 7
abbrev N_Machine___contains__ : List Str := ["self", "text", "state"]
abbrev P_Machine___contains__ : List Str := ["self", "text"]
theorem sc_Machine___contains__ : FnScope N_Machine___contains__ P_Machine___contains__ (defScope s_Machine___contains__) := ⟨rfl, rfl, rfl, by decide +kernel, rfl, by decide +kernel, by decide +kernel⟩
abbrev s_Machine___eq__ : Stmt := inClass (topS 22) 8
abbrev N_Machine___eq__ : List Str := ["self", "other"]
abbrev P_Machine___eq__ : List Str := ["self", "other"]
theorem sc_Machine___eq__ : FnScope N_Machine___eq__ P_Machine___eq__ (defScope s_Machine___eq__) := ⟨rfl, rfl, rfl, by decide +kernel, rfl, by decide +kernel, by decide +kernel⟩
abbrev FnM (K : PySem.W.Frag) (x q : Str) (st : Stmt) (f : Addr) (fd : FuncData) : Prop := FunD K x q (defArgs st) (defBody st) (defScope st) [] [] f fd
abbrev FnMq (K : PySem.W.Frag) (x q : Str) (st : Stmt) (dvs : List V) (f : Addr) (fd : FuncData) : Prop := FunD K x q (defArgs st) (defBody st) (defScope st) dvs [] f fd
def mF (l : List Nat) (r u : Addr) : List (Str × V) := [("letters", .str (S l)), ("rows", .ref r), ("good", .ref u)]
structure McAt (C : Addr) (K : PySem.W.Frag) (H : Hp) (n : Addr) (l : List Nat) (R : Tbl) (g : List Nat) : Prop where
  ex : ∃ (dx r u : Addr) (zr : List (Addr × List (Option Nat))), H n = some (.ins C dx (mF l r u)) ∧ Tb false false K H r zr ∧ H u = some (.tup (gsq g)) ∧ R = tb zr
theorem McAt.mono {C : Addr} {K : PySem.W.Frag} {H H' : Hp} {n : Addr} {l : List Nat} {R : Tbl} {g : List Nat} (s : Same H H') (h : McAt C K H n l R g) : McAt C K H' n l R g := by
  obtain ⟨dx, r, u, zr, h1, h2, h3, h4⟩ := h.ex
  exact ⟨dx, r, u, zr, s _ _ h1, h2.mono s, s _ _ h3, h4⟩
theorem rgV_nat (n : Nat) : rgV 0 (n : Int) = gsq (List.range n) := by
  unfold rgV gsq
  simp
theorem SB.sqK {q : Bool} {K : PySem.W.Frag} {p a C dx : Addr} {fs : List (Str × V)} {H H' : Hp} {xs : List V} (s : SB p H H') (hp : H p = some (.ins C dx fs)) (h : SqK q K H a xs) : SqK q K H' a xs := by
  cases q
  · rcases h with (h | ⟨o, h⟩) | h
    · exact .inl (.inl (s _ _ (fun e => by rw [e, hp] at h; cases h) h))
    · exact .inl (.inr ⟨o, s _ _ (fun e => by rw [e, hp] at h; cases h) h⟩)
    · exact .inr h
  · rcases h with (h | ⟨o, h⟩) | h
    · exact .inl (.inl (s _ _ (fun e => by rw [e, hp] at h; cases h) h))
    · exact .inl (.inr ⟨o, s _ _ (fun e => by rw [e, hp] at h; cases h) h⟩)
    · exact .inr h
theorem Tb.sb {q q2 : Bool} {K : PySem.W.Frag} {p C dx : Addr} {fs : List (Str × V)} {H H' : Hp} {a : Addr} {zs : List (Addr × List (Option Nat))} (s : SB p H H') (hp : H p = some (.ins C dx fs)) (h : Tb q q2 K H a zs) : Tb q q2 K H' a zs := ⟨SB.sqK s hp h.sq, fun z m => SB.sqK s hp (h.at_ z m)⟩
section
variable {P : Program} {w : World} {K : PySem.W.Frag} {mg : Str → Option Value} {base : Heap} {f C : Addr} {fd : FuncData}
def GoodV (K : PySem.W.Frag) (H : Hp) (n : Nat) (gv : V) (gs : List Nat) : Prop := ((gv = .non ∧ gs = List.range n) ∨ ∃ (q3 : Bool) (g : Addr), gv = .ref g ∧ SqK q3 K H g (gsq gs)) ∧ ∀ s ∈ gs, s < n
def spMIni (C : Addr) (K : PySem.W.Frag) : Sp := fun vs H Q _ => ∃ (q q2 : Bool) (n dx a : Addr) (l : List Nat) (gv : V) (zs : List (Addr × List (Option Nat))) (gs : List Nat), vs = [.ref n, .str (S l), .ref a, gv] ∧ H n = some (.ins C dx []) ∧ l.Nodup ∧ l ≠ [] ∧ l.length ≤ 1000 ∧ Tb q q2 K H a zs ∧ Wf (tb zs) l.length ∧ zs.length ≤ 1000000 ∧ GoodV K H zs.length gv gs ∧
  ∀ (r u : Addr) (zr : List (Addr × List (Option Nat))) (g' : List Nat) H', SB n H H' → H' n = some (.ins C dx (mF l r u)) → Tb false false K H' r zr → H' u = some (.tup (gsq g')) → Nf (tb zs) (inG gs) l.length (tb zr) g' → Q .non H'
theorem ok_minit (F : FnMq K "__init__" "Machine.__init__" s_Machine___init__ [.non] f fd) (m_len : mg "len" = none) (m_list : mg "list" = none) (m_range : mg "range" = none) (cls : Cls K C) (n_letters : NoAttr K C "letters") (n_rows : NoAttr K C "rows") (n_good : NoAttr K C "good") (c_check_letters : Cal P w K mg base 1 "check_letters" spCkL) (c_check_rows : Cal P w K mg base 1 "check_rows" (spCkR K)) (c_normal_table : Cal P w K mg base 3 "normal_table" (spNorm K)) : FnOk P w K mg base CX0 4 f fd P_Machine___init__ (spMIni C K) := by
  refine F.ok sc_Machine___init__ (fun vs H Q E h => ?_) (fun cdv A outer s H vs Q E hr h => ?_)
  · obtain ⟨q, q2, n, dx, a, l, gv, zs, gs, rfl, _⟩ := h
    rfl
  · obtain ⟨q, q2, n, dx, a, l, gv, zs, gs, rfl, hn, nd, ne, ll, hT, wf, lz, hg, qq⟩ := h
    refine ⟨_, PSs.nox (pss_cons (ps_expr (pe_cl c_check_letters hr (by decide) (by rfl) (pa_cons (pv 1) pa_nil)))
      (pss_cons (ps_expr (pe_cl c_check_rows hr (by decide) (by rfl) (pa_cons (pe_callB call_len_str (by rfl) m_len PySem.boot_len (pa_cons (pv 1) pa_nil)) (pa_cons (pv 2) pa_nil))))
      (pss_cut (ps_set (i := 4) sc_Machine___init__.nd rfl (by first | exact .inl rfl | exact .inr rfl) (pe_ifExp (pt_cmpR op_isN (pv 3) pe_non (nomark _)) (pe_listRg rfl (by rfl) m_list (prg_1 (by rfl) m_range (pe_callB call_len_seq (by rfl) m_len PySem.boot_len (pa_cons (pv 2) pa_nil)))) (pv 3)))
      (pss_cons (ps_for PassesOwn.never rfl (pi_sq (pv 4)) (pg_name (i := 5) sc_Machine___init__.nd rfl (by first | exact .inl rfl | exact .inr rfl))
        (pss_one (ps_if (pt_not (pt_chain op_le op_lt pe_int (pv 5) (pe_callB call_len_seq (by rfl) m_len PySem.boot_len (pa_cons (pv 2) pa_nil)))) (pss_one ps_never) pss_nil)))
      (pss_cons (ps_fld (pv 0) (pv 1) rfl)
      (pss_one (ps_asg (pe_cl c_normal_table hr (by decide) (by rfl) (pa_cons (pv 2) (pa_cons (pv 4) pa_nil))) (pg_tup rfl (pgs_cons (pg_fld (pv 0)) (pgs_cons (pg_fld (pv 0)) pgs_nil)))))))))), ?_⟩
    walk_at "go"
    intro H1 s1
    walk_at "go"
    refine ⟨by rw [S_len]; exact Nat.le_trans ll (by decide), ?_⟩
    rw [S_len]
    walk_at "go"
    refine ⟨q, q2, l.length, a, zs, rfl, hT.mono s1, wf, fun H2 s2 => ?_⟩
    have s12 := s1.trans s2
    walk_at "go"
    refine ⟨fun σ' J => Same H J ∧ ∃ (q3 : Bool) (e : Addr), SqK q3 K J e (gsq gs) ∧ σ' = [some (.ref n), some (.str (S l)), some (.ref a), some gv, some (.ref e), none], ?_, ?_⟩
    · obtain ⟨hg1, hg2⟩ := hg
      walk_at "go"
      rcases hg1 with ⟨rfl, rfl⟩ | ⟨q3, g, rfl, hG⟩
      · walk_at "go"
        refine ⟨a, _, rfl, sqk_or (Z.Same.sqK s12 hT.sq), ?_⟩
        rw [List.length_map]
        walk_at "go"
        intro e ne'
        rw [rgV_nat]
        exact ⟨s12.trans (same_new ne'), true, e, SqL.of upd_same, rfl⟩
      · walk_at "go"
        exact ⟨q3, g, Z.Same.sqK s12 hG, rfl⟩
    obtain ⟨hg1, hg2⟩ := hg
    clear hg1
    rintro σ' J ⟨s3, q3, e, hE, rfl⟩
    walk_at "go"
    refine rd_sq (b := q3) rfl hE ?_
    refine for_gen (n := gs.length) (fun k σ J' => J' = J ∧ ∃ v5 : Option V, σ = [some (.ref n), some (.str (S l)), some (.ref a), some gv, some (.ref e), v5]) ⟨rfl, none, rfl⟩ ?_ ?_ ?_ ?_
    · rintro k σ J' hk ⟨rfl, _⟩
      exact itq_go hE (x := .int ((gs[k] : Nat) : Int)) (by unfold gsq; rw [List.getElem?_map, List.getElem?_eq_getElem hk]; rfl)
    · rintro σ J' ⟨rfl, _⟩
      exact itq_stop hE (by rw [show (gsq gs).length = gs.length from List.length_map ..]; exact Nat.le_refl _)
    · rintro k σ J' x J2 hk ⟨rfl, v5, rfl⟩ y
      obtain ⟨rfl, ex⟩ := itq_yld hE y
      unfold gsq at ex
      rw [List.getElem?_map, List.getElem?_eq_getElem hk] at ex
      cases ex
      have hgk := hg2 _ (List.getElem_mem hk)
      walk_at "go"
      refine ⟨a, _, rfl, sqk_or (Z.Same.sqK s3 hT.sq), ?_⟩
      rw [List.length_map]
      walk_at "go"
      rw [decide_eq_true (show ((gs[k] : Nat) : Int) < (zs.length : Int) by omega)]
      walk_at "go"
      exact ⟨_, rfl⟩
    rintro σ J' ⟨rfl, v5, rfl⟩
    have hn3 := s3 _ _ hn
    walk_at "go"
    refine ⟨n, C, dx, _, rfl, hn3, cls, n_letters, by decide, ?_⟩
    have sb4 : SB n J' (upd J' n (.ins C dx (putF (Str.ofString "letters") (V.str (S l)) []))) := SB.upd (Z.Same.sb (Same.refl _))
    have hn4 : (upd J' n (.ins C dx (putF (Str.ofString "letters") (V.str (S l)) []))) n = some (.ins C dx [("letters", .str (S l))]) := upd_same
    have hT4 := (hT.mono s3).sb sb4 hn3
    have hE4 := SB.sqK sb4 hn3 hE
    generalize upd J' n (.ins C dx (putF (Str.ofString "letters") (V.str (S l)) [])) = H4 at sb4 hn4 hT4 hE4
    walk_at "go"
    refine ⟨q, q2, q3, l.length, a, e, zs, gs, rfl, hT4, wf, ll, lz, hE4, hg2, fun t r u zr g' H5 s5 et hR eu nf => ?_⟩
    have hn5 := s5 _ _ hn4
    refine ⟨t, _, rfl, SqT.of et, rfl, _, _, rfl, _, rfl, n, C, dx, _, rfl, hn5, cls, n_rows, (show (1 : Nat) < 1000 by decide), ?_⟩
    refine ⟨_, _, rfl, _, rfl, n, C, dx, _, rfl, upd_same, cls, n_good, (show (2 : Nat) < 1000 by decide), rfl, ?_⟩
    have sb6 : SB n H5 (upd (upd H5 n (.ins C dx (putF (Str.ofString "rows") (V.ref r) [("letters", .str (S l))]))) n (.ins C dx (putF (Str.ofString "good") (V.ref u) (putF (Str.ofString "rows") (V.ref r) [("letters", .str (S l))])))) := SB.upd (SB.upd (Z.Same.sb (Same.refl _)))
    refine qq r u zr g' _ ((Z.Same.sb s3).trans (sb4.trans ((Z.Same.sb s5).trans sb6))) upd_same (hR.sb sb6 hn5) (sb6 _ _ (fun e => by rw [e, hn5] at eu; cases eu) eu) nf
theorem occ_one {l : List Nat} {c i : Nat} (nd : l.Nodup) (h : l[i]? = some c) : ∃ rest, Builtin.Str.occurrences (S l) ⟨#[c]⟩ 0 (S l).length 1 = i :: rest := by
  have at_iff : ∀ j, PySem.StrLaws.At (S l) ⟨#[c]⟩ (S l).length j ↔ l[j]? = some c := fun j => by
    have e := PySem.StrLaws.subAt_eq (S l) ⟨#[c]⟩ j
    constructor
    · rintro ⟨_, h2⟩
      rw [e] at h2
      exact PySem.StrLaws.take1_drop.mp h2
    · intro h2
      refine ⟨?_, by rw [e]; exact PySem.StrLaws.take1_drop.mpr h2⟩
      rw [S_len]
      exact (List.getElem?_eq_some_iff.mp h2).1
  rcases PySem.StrLaws.occ_head (S l) ⟨#[c]⟩ 1 (Nat.le_refl _) with ⟨_, no⟩ | ⟨j, rest, e, hj, _⟩
  · exact absurd ((at_iff i).mpr h) (no i)
  · have := nd_inj nd ((at_iff j).mp hj) h
    subst this
    exact ⟨rest, e⟩
def spAfter (C : Addr) (K : PySem.W.Frag) : Sp := fun vs H Q _ => ∃ (n : Addr) (l t : List Nat) (R : Tbl) (g : List Nat), vs = [.ref n, .str (S t)] ∧ McAt C K H n l R g ∧ l.Nodup ∧ Wf R l.length ∧ Q (eV (rs R (ixOf l) (Mc.st R) t)) H
theorem ok_after (F : FnM K "after" "Machine.after" s_Machine_after f fd) (m_len : mg "len" = none) (cls : Cls K C) (n_letters : NoAttr K C "letters") (n_rows : NoAttr K C "rows") : FnOk P w K mg base CX0 1 f fd P_Machine_after (spAfter C K) := by
  refine F.ok sc_Machine_after (fun vs H Q E h => ?_) (fun cdv A outer s H vs Q E hr h => ?_)
  · obtain ⟨n, l, t, R, g, rfl, _⟩ := h
    rfl
  · obtain ⟨n, l, t, R, g, rfl, ⟨dx, r, u, zr, hn, hR, hu, rfl⟩, nd, wf, q⟩ := h
    refine ⟨_, PSs.nox (pss_cut (ps_set (i := 2) sc_Machine_after.nd rfl (by first | exact .inl rfl | exact .inr rfl) (pe_ifExp (pt_cmpR op_gt (pe_callB call_len_seq (by rfl) m_len PySem.boot_len (pa_cons (pe_fld (pv 0) rfl) pa_nil)) pe_int (nomark _)) pe_int pe_non))
      (pss_cons (ps_for PassesOwn.never rfl (pi_str (pv 1)) (pg_name (i := 3) sc_Machine_after.nd rfl (by first | exact .inl rfl | exact .inr rfl))
        (pss_cons (ps_if (PW.pt (pw_or (pt_cmpR op_isN (pv 2) pe_non (nomark _)) (pw_or1 (pt_cmpR op_notIn_sign (pv 3) (pe_fld (pv 0) rfl) (by rfl))))) (pss_one (ps_ret pe_non)) pss_nil)
      (pss_one (ps_set (i := 2) sc_Machine_after.nd rfl (by first | exact .inl rfl | exact .inr rfl) (pe_ix ix_tup (pe_ix ix_tup (pe_fld (pv 0) rfl) (pv 2) (fun _ _ => rfl)) (pe_bm PySem.F.plainAttrs_str PySem.F.slot_str_index PySem.F.type_str_index mt_sindex (pe_fld (pv 0) rfl) (pa_cons (pv 3) pa_nil)) (fun _ _ => rfl))))))
      (pss_one (ps_ret (pv 2))))), ?_⟩
    have lR : (tb zr).length = zr.length := List.length_map ..
    refine ⟨fun σ' J => J = H ∧ σ' = [some (.ref n), some (.str (S t)), some (eV (Mc.st (tb zr))), none], ?_, ?_⟩
    · walk_at "go"
      refine ⟨r, _, rfl, .inr hR.sq, ?_⟩
      rw [List.length_map]
      unfold Mc.st
      rw [lR]
      walk_at "go"
      by_cases c : zr.length = 0
      · rw [if_pos c, decide_eq_false (show ¬ (0 : Int) < (zr.length : Int) by omega)]
        walk_at "go"
        rfl
      · rw [if_neg c, decide_eq_true (show (0 : Int) < (zr.length : Int) by omega)]
        walk_at "go"
        rfl
    rintro σ' J ⟨rfl, rfl⟩
    walk_at "go"
    refine for_gen (n := t.length) (fun k σ J' => J' = J ∧ ∃ (o : Option Nat) (v3 : Option V), o = rs (tb zr) (ixOf l) (Mc.st (tb zr)) (t.take k) ∧ (∀ j, o = some j → j < zr.length) ∧ σ = [some (.ref n), some (.str (S t)), some (eV o), v3]) ⟨rfl, Mc.st (tb zr), none, by cases Mc.st (tb zr) <;> rfl, fun j hj => ?_, rfl⟩ ?_ ?_ ?_ ?_
    · unfold Mc.st at hj
      split at hj
      · cases hj
      · cases hj
        omega
    · rintro k σ J' hk ⟨rfl, _⟩
      show k < (S t).cps.size
      simpa using hk
    · rintro σ J' ⟨rfl, _⟩
      show (S t).cps.size ≤ t.length
      simp
    · rintro k σ J' x J2 hk ⟨rfl, o, v3, ho, hj, rfl⟩ ⟨rfl, c, ec, rfl⟩
      have ec : t[k]? = some c := by simpa using ec
      have tk : t.take (k + 1) = t.take k ++ [c] := by rw [List.take_succ, ec]; rfl
      have tt : t = t.take (k + 1) ++ t.drop (k + 1) := (List.take_append_drop _ _).symm
      walk_at "go"
      cases o with
      | none =>
        dsimp only [eV]
        walk_at "go"
        refine ite2 (fun _ => ?_) (fun e => absurd (decide_eq_true rfl) e)
        refine ite2 (fun _ => ?_) (fun e => absurd rfl e)
        have e1 : rs (tb zr) (ixOf l) (Mc.st (tb zr)) t = none := by
          conv => lhs; rw [← List.take_append_drop k t]
          rw [rs_app, ← ho, rs_none]
        rw [e1] at q
        exact q
      | some s0 =>
        have hs := hj s0 rfl
        dsimp only [eV]
        walk_at "go"
        refine ite2 (fun e => ?_) (fun e => ?_)
        · have nc : c ∉ l := by simpa using e
          have e1 : rs (tb zr) (ixOf l) (Mc.st (tb zr)) t = none := by
            conv => lhs; rw [tt]
            rw [rs_app, tk, rs_app, ← ho, rs_one, ixOf_none.mpr nc]
            exact rs_none _ _ _
          rw [e1] at q
          exact q
        · have hc : c ∈ l := by simpa using e
          obtain ⟨i, hi⟩ : ∃ i, ixOf l c = some i := by
            cases e1 : ixOf l c with
            | none => exact absurd hc (ixOf_none.mp e1)
            | some i => exact ⟨i, rfl⟩
          have li := ixOf_some hi
          have il := (List.getElem?_eq_some_iff.mp li).1
          obtain ⟨rest, ho2⟩ := occ_one nd li
          obtain ⟨z, hz⟩ : ∃ z, zr[s0]? = some z := ⟨_, List.getElem?_eq_getElem hs⟩
          have mz : z.2 ∈ tb zr := List.mem_map.mpr ⟨z, List.mem_of_getElem? hz, rfl⟩
          have lz := wf.row _ mz
          have rx := row_nx hz (i := i) (by omega)
          have hrow := hR.at_ z (List.mem_of_getElem? hz)
          walk_at "go"
          refine ⟨r, _, _, _, rfl, rfl, hR.sq, atI_nat (v := .ref z.1) (by rw [List.getElem?_map, hz]; rfl), ?_⟩
          walk_at "go"
          refine ⟨_, _, i, rest, rfl, rfl, ho2, ?_⟩
          refine ⟨z.1, _, _, _, rfl, rfl, hrow, atI_nat (row_at (by omega)), ?_⟩
          refine ⟨rfl, nx (tb zr) s0 i, _, ?_, fun j hj => ?_, by rw [rx]; rfl⟩
          · rw [tk, rs_app, ← ho, rs_one, hi]
          · rw [← lR]
            exact (nx_lt wf hj).1
    · rintro σ J' ⟨rfl, o, v3, ho, hj, rfl⟩
      rw [List.take_length] at ho
      walk_at "go"
      rw [ho]
      exact q
theorem gsq_flat : ∀ g : List Nat, (gsq g).all flatV = true
  | [] => rfl
  | _ :: g => gsq_flat g
theorem inV_gsq (j : Nat) : ∀ g : List Nat, inV (.int (j : Int)) (gsq g) = decide (j ∈ g)
  | [] => rfl
  | x :: g => by
    have e := inV_gsq j g
    show (((x : Int)) == (j : Int) || inV (.int (j : Int)) (gsq g)) = _
    rw [e]
    by_cases c : x = j
    · subst c
      simp
    · have c1 : ((x : Int) == (j : Int)) = false := beq_eq_false_iff_ne.mpr (by omega)
      rw [c1, Bool.false_or]
      refine decide_eq_decide.mpr ⟨fun h => List.mem_cons_of_mem _ h, fun h => ?_⟩
      rcases List.mem_cons.mp h with h | h
      · exact absurd h.symm c
      · exact h
def accB (g : List Nat) : Option Nat → Bool
  | none => false
  | some j => decide (j ∈ g)
def spIn (C : Addr) (K : PySem.W.Frag) : Sp := fun vs H Q _ => ∃ (n : Addr) (l t : List Nat) (R : Tbl) (g : List Nat), vs = [.ref n, .str (S t)] ∧ McAt C K H n l R g ∧ l.Nodup ∧ Wf R l.length ∧ Q (.bl (accB g (rs R (ixOf l) (Mc.st R) t))) H
theorem ok_contains (F : FnM K "__contains__" "Machine.__contains__" s_Machine___contains__ f fd) (cls : Cls K C) (n_good : NoAttr K C "good") (me_after : Met P w K mg base 1 C "after" (spAfter C K)) : FnOk P w K mg base CX0 2 f fd P_Machine___contains__ (spIn C K) := by
  refine F.ok sc_Machine___contains__ (fun vs H Q E h => ?_) (fun cdv A outer s H vs Q E hr h => ?_)
  · obtain ⟨n, l, t, R, g, rfl, _⟩ := h
    rfl
  · obtain ⟨n, l, t, R, g, rfl, hM, nd, wf, q⟩ := h
    obtain ⟨dx, r, u, zr, hn, hR, hu, hRe⟩ := id hM.ex
    refine ⟨_, PSs.nox (pss_cons (ps_set (i := 2) sc_Machine___contains__.nd rfl (by first | exact .inl rfl | exact .inr rfl) (pe_me me_after (pv 0) hr (by decide) (pa_cons (pv 1) pa_nil)))
      (pss_one (ps_ret (pe_and (pe_cmpR op_notN (pv 2) pe_non (nomark _)) (pe_one (pe_cmpR op_in_seq (pv 2) (pe_fld (pv 0) rfl) (by rfl))))))), ?_⟩
    walk_at "go"
    refine ⟨n, dx, _, rfl, hn, rfl, ?_⟩
    walk_at "go"
    refine ⟨n, l, t, R, g, rfl, hM, nd, wf, ?_⟩
    cases e : rs R (ixOf l) (Mc.st R) t with
    | none =>
      rw [e] at q
      walk_at "go"
      exact q
    | some j =>
      rw [e] at q
      dsimp only [eV]
      walk_at "go"
      refine ⟨u, _, rfl, .inr (SqT.of hu), rfl, gsq_flat g, ?_⟩
      rw [inV_gsq]
      exact q
def spEqM (C : Addr) (K : PySem.W.Frag) : Sp := fun vs H Q _ => ∃ (n m : Addr) (l l' : List Nat) (R R' : Tbl) (g g' : List Nat), vs = [.ref n, .ref m] ∧ McAt C K H n l R g ∧ McAt C K H m l' R' g' ∧ Q (.bl (decide (l = l' ∧ R = R' ∧ g = g'))) H
theorem ok_eq (F : FnM K "__eq__" "Machine.__eq__" s_Machine___eq__ f fd) (isC : C8.InsC K C) (m_isinstance : mg "isinstance" = none) (g_Machine : mg "Machine" = some (.ref C)) (cls : Cls K C) (n_letters : NoAttr K C "letters") (n_rows : NoAttr K C "rows") (n_good : NoAttr K C "good") : FnOk P w K mg base CX0 1 f fd P_Machine___eq__ (spEqM C K) := by
  refine F.ok sc_Machine___eq__ (fun vs H Q E h => ?_) (fun cdv A outer s H vs Q E hr h => ?_)
  · obtain ⟨n, m, l, l', R, R', g, g', rfl, _⟩ := h
    rfl
  · obtain ⟨n, m, l, l', R, R', g, g', rfl, ⟨dx, r, u, zr, hn, hR, hu, rfl⟩, ⟨dy, r', u', zr', hn', hR', hu', rfl⟩, q⟩ := h
    refine ⟨_, PSs.nox (pss_one (ps_ret (pe_and (pe_callB (C8.call_isC isC) (by rfl) m_isinstance (by decide +kernel) (pa_cons (pv 1) (pa_cons (pe_glob (by rfl) g_Machine relv_ref) pa_nil))) (pe_and (pe_cmpR op_eq (pe_fld (pv 0) rfl) (pe_fld (pv 1) rfl) (nomark _)) (pe_and (pe_cmpR (op_eqD hr.units) (pe_fld (pv 0) rfl) (pe_fld (pv 1) rfl) (nomark _)) (pe_one (pe_cmpR (op_eqD hr.units) (pe_fld (pv 0) rfl) (pe_fld (pv 1) rfl) (nomark _)))))))), ?_⟩
    walk_at "go"
    refine ⟨m, dy, _, rfl, hn', ?_⟩
    walk_at "go"
    by_cases h1 : l = l'
    · subst h1
      rw [decide_eq_true rfl, if_pos rfl]
      walk_at "go"
      refine ⟨_, _, hR.dp, hR'.dp, shaped_tb _ _ _, shaped_tb _ _ _, ?_⟩
      rw [eqv_tb]
      by_cases h2 : tb zr = tb zr'
      · rw [decide_eq_true h2]
        walk_at "go"
        refine ⟨_, _, dp_nat (b := false) (SqT.of hu), dp_nat (b := false) (SqT.of hu'), shaped_nat _ _, shaped_nat _ _, ?_⟩
        rw [eqv_nat]
        rw [show decide (l = l ∧ tb zr = tb zr' ∧ g = g') = decide (g = g') from decide_eq_decide.mpr ⟨fun h => h.2.2, fun h => ⟨rfl, h2, h⟩⟩] at q
        exact q
      · rw [decide_eq_false h2]
        walk_at "go"
        rw [decide_eq_false (fun z => h2 z.2.1)] at q
        exact q
    · rw [decide_eq_false (fun z => h1 (by injection z with z; exact S_inj z)), if_neg (by decide)]
      rw [decide_eq_false (fun z => h1 z.1)] at q
      exact q
end
end Z
set_option pp.maxSteps 700
set_option Elab.async false
set_option linter.all false
set_option maxRecDepth 100000
set_option maxHeartbeats 4000000
open SX (S S_inj S_len S_cat)
namespace Z
open Mc
open PySem PySem.Spec PyProof.Rows L2
open C8 (pss_cut tCut)
local macro_rules | `(tactic| walk_at "num") => `(tactic| first | rfl | omega | decide | exact Nat.le_of_lt (small1000 (by simp)) | exact ⟨by omega, by omega⟩ | exact ⟨by omega, by omega, by omega⟩ | exact ⟨by decide, by decide, by decide⟩ | exact Or.inl ⟨by omega, by omega⟩ | exact Or.inr ⟨by omega, by omega⟩)
local macro_rules | `(tactic| walk_at "go") => `(tactic| repeat (first | refine ⟨_, rfl, ?_⟩ | refine ⟨_, _, rfl, rfl, ?_⟩ | refine ⟨_, _, rfl, ?_⟩ | (refine ⟨_, _, rfl, rfl, ?_, ?_⟩; focus walk_at "num") | refine Or.inl ⟨_, rfl, ?_⟩ | refine ⟨_, _, _, _, rfl, rfl, (by assumption), (by rfl), ?_⟩ | refine ⟨_, _, _, _, _, rfl, (by assumption), (by assumption), (by assumption), (by rfl), ?_⟩ | refine ⟨rfl, ?_⟩ | (refine And.intro ?_ ?_; focus walk_at "num")))
abbrev s_letters : Stmt := topS 27
abbrev N_letters : List Str := ["_law_draws_here", "_law_place", "_law_signs", "_law_letters_here", "_law_k", "_law_sign"]
abbrev P_letters : List Str := ["_law_draws_here", "_law_place"]
theorem sc_letters : FnScope N_letters P_letters (defScope s_letters) := ⟨rfl, rfl, rfl, by decide +kernel, rfl, by decide +kernel, by decide +kernel⟩
abbrev s_entry : Stmt := topS 28
abbrev N_entry : List Str := ["_law_draw", "_law_size"]
abbrev P_entry : List Str := ["_law_draw", "_law_size"]
theorem sc_entry : FnScope N_entry P_entry (defScope s_entry) := ⟨rfl, rfl, rfl, by decide +kernel, rfl, by decide +kernel, by decide +kernel⟩
abbrev s_table : Stmt := topS 29
abbrev N_table : List Str := ["_law_draws_here", "_law_place", "_law_many", "_law_most", "_law_size", "_law_rows", "_law_good", "_law_state", "_law_k"]
abbrev P_table : List Str := ["_law_draws_here", "_law_place", "_law_many", "_law_most"]
theorem sc_table : FnScope N_table P_table (defScope s_table) := ⟨rfl, rfl, rfl, by decide +kernel, rfl, by decide +kernel, by decide +kernel⟩
theorem atI_in {α : Type} {l : List α} {i : Int} {c : α} (h : atI l i = some c) : c ∈ l := by
  obtain ⟨j, _, e, _⟩ := atI_get h
  exact List.mem_of_getElem? e
section
variable {P : Program} {w : World} {K : PySem.W.Frag} {mg : Str → Option Value} {base : Heap} {f : Addr} {fd : FuncData}
def spLet (K : PySem.W.Frag) : Sp := fun vs H Q _ => ∃ (a p : Addr) (n : Nat) (ds : List Int), vs = [.ref a, .ref p] ∧ Tk K a p ds n H H ∧ ∀ (l : List Nat) H', Tk K a p ds n H H' → l.Nodup → 0 < l.length → l.length ≤ 4 → 46 ∉ l → Q (.str (S l)) H'
theorem ok_letters (F : FnP K "_law_letters" s_letters f fd) (m_int : mg "int" = none) (m_len : mg "len" = none) (m_range : mg "range" = none) (c_take : Cal P w K mg base 1 "_law_take" (spTake K)) : FnOk P w K mg base CX0 2 f fd P_letters (spLet K) := by
  refine F.ok sc_letters (fun vs H Q E h => ?_) (fun cdv A outer s H vs Q E hr h => ?_)
  · obtain ⟨a, p, n, ds, rfl, _⟩ := h
    rfl
  · obtain ⟨a, p, n, ds, rfl, hT, q⟩ := h
    refine ⟨_, PSs.nox (pss_cons (ps_set (i := 2) sc_letters.nd rfl (by first | exact .inl rfl | exact .inr rfl) pe_str)
      (pss_cons (ps_set (i := 3) sc_letters.nd rfl (by first | exact .inl rfl | exact .inr rfl) pe_str)
      (pss_cons (ps_for PassesOwn.never rfl (pi_range1 (by rfl) m_range (pa_cons (pe_op op_add pe_int (pe_op op_mod (pe_callTy call_int1 (by rfl) m_int (by decide +kernel) (pa_cons (pe_cl c_take hr (by decide) (by rfl) (pa_cons (pv 0) (pa_cons (pv 1) pa_nil))) pa_nil)) pe_int)) pa_nil)) (pg_name (i := 4) sc_letters.nd rfl (by first | exact .inl rfl | exact .inr rfl))
        (pss_cons (ps_set (i := 5) sc_letters.nd rfl (by first | exact .inl rfl | exact .inr rfl) (pe_ix ix_str (pv 2) (pe_op op_mod (pe_callTy call_int1 (by rfl) m_int (by decide +kernel) (pa_cons (pe_cl c_take hr (by decide) (by rfl) (pa_cons (pv 0) (pa_cons (pv 1) pa_nil))) pa_nil)) (pe_callB call_len_str (by rfl) m_len PySem.boot_len (pa_cons (pv 2) pa_nil))) (fun _ _ => rfl)))
      (pss_one (ps_if (pt_cmpR op_notIn_sign (pv 5) (pv 3) (by rfl)) (pss_one (ps_set (i := 3) sc_letters.nd rfl (by first | exact .inl rfl | exact .inr rfl) (pe_op op_add_str (pv 3) (pv 5)))) pss_nil))))
      (pss_one (ps_ret (pv 3)))))), ?_⟩
    obtain ⟨mm, em⟩ := hT.pl
    walk_at "go"
    refine ⟨a, p, n, mm, ds, rfl, SqL.of hT.hA, hT.hd, em, hT.ne, fun r r0 r1 => ?_⟩
    obtain ⟨hT1, _⟩ := hT.next em
    generalize upd H p (.lst [.int ((mm + 1 : Nat) : Int)]) = H1 at hT1
    walk_at "go"
    have sg0 : 0 < (Str.ofString " !#$&'()*+,-/0123456789:;<=>?@ABCDEFGHIJKLMNOPQRSTUVWXYZ[]^_abcdefghijklmnopqrstuvwxyz{|}~").length := by decide +kernel
    have sg1 : (Str.ofString " !#$&'()*+,-/0123456789:;<=>?@ABCDEFGHIJKLMNOPQRSTUVWXYZ[]^_abcdefghijklmnopqrstuvwxyz{|}~").length ≤ sizeLine := by decide +kernel
    have sg2 : 46 ∉ (Str.ofString " !#$&'()*+,-/0123456789:;<=>?@ABCDEFGHIJKLMNOPQRSTUVWXYZ[]^_abcdefghijklmnopqrstuvwxyz{|}~").cps.toList := by decide +kernel
    generalize Str.ofString " !#$&'()*+,-/0123456789:;<=>?@ABCDEFGHIJKLMNOPQRSTUVWXYZ[]^_abcdefghijklmnopqrstuvwxyz{|}~" = sg at sg0 sg1 sg2
    obtain ⟨c, hc, c0, c4⟩ : ∃ c : Nat, 1 + r % 4 = (c : Int) ∧ 0 < c ∧ c ≤ 4 := ⟨(1 + r % 4).toNat, by omega, by omega, by omega⟩
    refine for_gen (n := c) (fun k σ J => Tk K a p ds n H J ∧ ∃ (l : List Nat) (v4 v5 : Option V), l.Nodup ∧ 46 ∉ l ∧ l.length ≤ k ∧ (0 < k → 0 < l.length) ∧ σ = [some (.ref a), some (.ref p), some (.str sg), some (.str (S l)), v4, v5]) ⟨hT1, [], none, none, List.nodup_nil, by simp, Nat.le_refl _, fun h => absurd h (Nat.lt_irrefl _), rfl⟩ ?_ ?_ ?_ ?_
    · intro k σ J hk _
      show k < (1 + r % 4).toNat
      omega
    · intro σ J _
      show (1 + r % 4).toNat ≤ c
      omega
    · rintro k σ J x J' hk ⟨hT2, l, v4, v5, nd, nt, ll, l0, rfl⟩ ⟨rfl, rfl⟩
      obtain ⟨m2, em2⟩ := hT2.pl
      walk_at "go"
      refine ⟨a, p, n, m2, ds, rfl, SqL.of hT2.hA, hT2.hd, em2, hT2.ne, fun r2 r20 r21 => ?_⟩
      obtain ⟨hT3, _⟩ := hT2.next em2
      generalize upd J' p (.lst [.int ((m2 + 1 : Nat) : Int)]) = J3 at hT3
      obtain ⟨cc, ea⟩ := sgn_at sg r2 sg0
      walk_at "go"
      refine ⟨sg, _, cc, rfl, rfl, sg1, ea, ?_⟩
      walk_at "go"
      refine ite2 (fun e => ?_) (fun e => ?_)
      · have nc : cc ∉ l := by simpa using e
        walk_at "go"
        refine ⟨by rw [S_len]; exact Nat.le_trans (show l.length + 1 ≤ 10 by omega) (by decide), ?_⟩
        exact ⟨hT3, l ++ [cc], _, _, by rw [List.nodup_append]; exact ⟨nd, by simp, fun x hx y hy => by rw [List.mem_singleton.mp hy]; exact fun z => nc (z ▸ hx)⟩, fun h => (List.mem_append.mp h).elim nt fun z => sg2 (by rw [List.mem_singleton.mp z]; exact atI_in ea), by rw [List.length_append]; show l.length + 1 ≤ k + 1; omega, fun _ => by rw [List.length_append]; exact Nat.succ_pos _, by rw [← S_cat]; rfl⟩
      · have hc2 : cc ∈ l := by simpa using e
        exact ⟨hT3, l, _, _, nd, nt, by omega, fun _ => List.length_pos_of_mem hc2, rfl⟩
    · rintro σ J ⟨hT2, l, v4, v5, nd, nt, ll, l0, rfl⟩
      walk_at "go"
      exact q l J hT2 nd (l0 c0) (by omega) nt
def spEnt : Sp := fun vs H Q _ => ∃ (r : Int) (n : Nat), vs = [.int r, .int (n : Int)] ∧ ∀ o : Option Nat, (∀ e, o = some e → e < n) → Q (eV o) H
theorem ok_entry (F : FnP K "_law_entry" s_entry f fd) (m_int : mg "int" = none) : FnOk P w K mg base CX0 1 f fd P_entry spEnt := by
  refine F.ok sc_entry (fun vs H Q E h => ?_) (fun cdv A outer s H vs Q E hr h => ?_)
  · obtain ⟨r, n, rfl, _⟩ := h
    rfl
  · obtain ⟨r, n, rfl, q⟩ := h
    refine ⟨_, PSs.nox (pss_cons (ps_if (pt_cmpR op_eq (pe_op op_mod (pe_callTy call_int1 (by rfl) m_int (by decide +kernel) (pa_cons (pv 0) pa_nil)) (pe_op op_add (pv 1) pe_int)) (pv 1) (nomark _)) (pss_one (ps_ret pe_non)) pss_nil)
      (pss_one (ps_ret (pe_op op_mod (pe_callTy call_int1 (by rfl) m_int (by decide +kernel) (pa_cons (pv 0) pa_nil)) (pe_op op_add (pv 1) pe_int))))), ?_⟩
    walk_at "go"
    refine ite2 (fun e => ?_) (fun e => ?_)
    · walk_at "go"
      exact q none fun e h => by cases h
    · walk_at "go"
      have h1 := Int.emod_nonneg r (show (n : Int) + 1 ≠ 0 by omega)
      have h2 := Int.emod_lt_of_pos r (show 0 < (n : Int) + 1 by omega)
      have ne : r % ((n : Int) + 1) ≠ (n : Int) := fun z => e (decide_eq_true (show V.int (r % ((n : Int) + 1)) = V.int (n : Int) from congrArg V.int z))
      have := q (some (r % ((n : Int) + 1)).toNat) (fun e h => by cases h; omega)
      dsimp only [eV] at this
      rw [Int.toNat_of_nonneg h1] at this
      exact this
structure TbR (H : Hp) (A : Addr) (zs : List (Addr × List (Option Nat))) : Prop where
  sq : H A = some (.lst (zs.map fun z => V.ref z.1))
  at_ : ∀ z ∈ zs, H z.1 = some (.lst (z.2.map eV))
theorem TbR.tb {K : PySem.W.Frag} {H : Hp} {A : Addr} {zs : List (Addr × List (Option Nat))} (h : TbR H A zs) : Tb true true K H A zs := ⟨SqL.of h.sq, fun z m => SqL.of (h.at_ z m)⟩
theorem TbR.mono {H H' : Hp} {A : Addr} {zs : List (Addr × List (Option Nat))} (s : Same H H') (h : TbR H A zs) : TbR H' A zs := ⟨s _ _ h.sq, fun z m => s _ _ (h.at_ z m)⟩
def spTab (K : PySem.W.Frag) : Sp := fun vs H Q _ => ∃ (a p : Addr) (n m mo : Nat) (ds : List Int), vs = [.ref a, .ref p, .int (m : Int), .int (mo : Int)] ∧ Tk K a p ds n H H ∧ 0 < mo ∧ mo ≤ 10 ∧ m ≤ 20 ∧ ∀ (t A g : Addr) (zs : List (Addr × List (Option Nat))) (gs : List Nat) H', Tk K a p ds n H H' → H' t = some (.lst [.ref A, .ref g]) → TbR H' A zs → H' g = some (.lst (gsq gs)) → Wf (Z.tb zs) m → 0 < zs.length → zs.length ≤ mo → (∀ s ∈ gs, s < zs.length) → gs.length ≤ mo → Q (.ref t) H'
theorem ok_table (F : FnP K "_law_table" s_table f fd) (m_int : mg "int" = none) (m_range : mg "range" = none) (c_take : Cal P w K mg base 1 "_law_take" (spTake K)) (c_entry : Cal P w K mg base 1 "_law_entry" spEnt) : FnOk P w K mg base CX0 2 f fd P_table (spTab K) := by
  refine F.ok sc_table (fun vs H Q E h => ?_) (fun cdv A outer s H vs Q E hr h => ?_)
  · obtain ⟨a, p, n, m, mo, ds, rfl, _⟩ := h
    rfl
  · obtain ⟨a, p, n, m, mo, ds, rfl, hT, mo0, mo1, m1, q⟩ := h
    refine ⟨_, PSs.nox (pss_cons (ps_set (i := 4) sc_table.nd rfl (by first | exact .inl rfl | exact .inr rfl) (pe_op op_add pe_int (pe_op op_mod (pe_callTy call_int1 (by rfl) m_int (by decide +kernel) (pa_cons (pe_cl c_take hr (by decide) (by rfl) (pa_cons (pv 0) (pa_cons (pv 1) pa_nil))) pa_nil)) (pv 3))))
      (pss_cons (ps_set (i := 5) sc_table.nd rfl (by first | exact .inl rfl | exact .inr rfl) (pe_lst pa_nil))
      (pss_cons (ps_set (i := 6) sc_table.nd rfl (by first | exact .inl rfl | exact .inr rfl) (pe_lst pa_nil))
      (pss_cons (ps_for PassesOwn.never rfl (pi_range1 (by rfl) m_range (pa_cons (pv 4) pa_nil)) (pg_name (i := 7) sc_table.nd rfl (by first | exact .inl rfl | exact .inr rfl))
        (pss_cons (ps_expr (pe_bm PySem.F.plainAttrs_list PySem.F.slot_list_append PySem.F.type_list_append mt_append (pv 5) (pa_cons (pe_lc (own := [("_law_k", 8)]) (g := (gName 8)) (tt := tYes) (by rfl) sc_table.nd (pi_range1 (by rfl) m_range (pa_cons (pv 2) pa_nil)) (blkOk_by (own := [("_law_k", 8)]) (N := N_table) (sc := defScope s_table) (by decide +kernel)) (fun _ _ _ _ _ => (pg_name (i := 8) sc_table.nd rfl (by first | exact .inl rfl | exact .inr rfl))) (fun _ _ _ _ _ => pts_nil) (fun _ _ _ _ _ => (pe_cl c_entry hr (by decide) (by rfl) (pa_cons (pe_cl c_take hr (by decide) (by rfl) (pa_cons (pv 0) (pa_cons (pv 1) pa_nil))) (pa_cons (pv 4) pa_nil))))) pa_nil)))
      (pss_one (ps_if (pt_cmpR op_lt (pe_op op_mod (pe_callTy call_int1 (by rfl) m_int (by decide +kernel) (pa_cons (pe_cl c_take hr (by decide) (by rfl) (pa_cons (pv 0) (pa_cons (pv 1) pa_nil))) pa_nil)) pe_int) pe_int (nomark _)) (pss_one (ps_expr (pe_bm PySem.F.plainAttrs_list PySem.F.slot_list_append PySem.F.type_list_append mt_append (pv 6) (pa_cons (pv 7) pa_nil)))) pss_nil))))
      (pss_one (ps_ret (pe_lst (pa_cons (pv 5) (pa_cons (pv 6) pa_nil))))))))), ?_⟩
    obtain ⟨mm, em⟩ := hT.pl
    walk_at "go"
    refine ⟨a, p, n, mm, ds, rfl, SqL.of hT.hA, hT.hd, em, hT.ne, fun r r0 r1 => ?_⟩
    obtain ⟨hT1, _⟩ := hT.next em
    generalize upd H p (.lst [.int ((mm + 1 : Nat) : Int)]) = H1 at hT1
    obtain ⟨c, ec, hc⟩ := modN r mo0
    walk_at "go"
    rw [ec]
    rw [show L2.start N_table [V.ref a, V.ref p, V.int (m : Int), V.int (mo : Int)] = [some (.ref a), some (.ref p), some (.int (m : Int)), some (.int (mo : Int)), none, none, none, none, none] from rfl]
    dsimp only [List.set]
    have e1 : (1 : Int) + (c : Int) = ((1 + c : Nat) : Int) := by omega
    rw [e1]
    obtain ⟨sz, hsz⟩ : ∃ sz, sz = 1 + c := ⟨_, rfl⟩
    rw [← hsz]
    intro Ar nAr
    have sA := same_new (o := .lst []) nAr
    have eA : (upd H1 Ar (.lst [])) Ar = some (.lst (([] : List (Addr × List (Option Nat))).map fun z => V.ref z.1)) := upd_same
    have hT2 := hT1.more sA
    have nAH := hT1.nn nAr
    generalize upd H1 Ar (.lst []) = H2 at sA eA hT2
    walk_at "go"
    intro g ng
    have sg := same_new (o := .lst []) ng
    have eg : (upd H2 g (.lst [])) g = some (.lst (gsq [])) := upd_same
    have hT3 := hT2.more sg
    have ngH := hT2.nn ng
    have eA3 := sg _ _ eA
    have Ag : Ar ≠ g := fun e => by rw [e, ng] at eA; cases eA
    generalize upd H2 g (.lst []) = H3 at sg eg hT3 eA3
    have Ap : Ar ≠ p := fun e => by obtain ⟨m, em⟩ := hT3.pl; rw [← e, eA3] at em; cases em; done
    have gp : g ≠ p := fun e => by obtain ⟨m, em⟩ := hT3.pl; rw [← e, eg] at em; cases em; done
    clear sA sg eA nAr ng hT2 hT1
    walk_at "go"
    refine for_gen (n := sz) (fun k σ J => Tk K a p ds n H J ∧ ∃ (zs : List (Addr × List (Option Nat))) (gs : List Nat) (v7 : Option V), TbR J Ar zs ∧ (∀ z ∈ zs, z.1 ≠ Ar ∧ z.1 ≠ g ∧ z.1 ≠ p) ∧ J g = some (.lst (gsq gs)) ∧ zs.length = k ∧ (∀ r ∈ Z.tb zs, r.length = m ∧ ∀ e, some e ∈ r → e < sz) ∧ (∀ s ∈ gs, s < k) ∧ gs.length ≤ k ∧ σ = [some (.ref a), some (.ref p), some (.int (m : Int)), some (.int (mo : Int)), some (.int (sz : Int)), some (.ref Ar), some (.ref g), v7, none]) ⟨hT3, [], [], none, ⟨eA3, fun z m => absurd m (by simp)⟩, fun z m => absurd m (by simp), eg, rfl, fun r m => absurd m (by simp [Z.tb]), fun s m => absurd m (by simp), Nat.le_refl _, rfl⟩ ?_ ?_ ?_ ?_
    · intro k σ J hk _
      show k < ((sz : Int)).toNat
      omega
    · intro σ J _
      show ((sz : Int)).toNat ≤ sz
      omega
    · rintro k σ J x J' hk ⟨hT4, zs, gs, v7, tr, nz, eg, lz, hrow, hgs, lg, rfl⟩ ⟨rfl, rfl⟩
      walk_at "go"
      refine ⟨.inl ⟨rfl, _, SqL.of tr.sq⟩, ?_⟩
      walk_at "go"
      intro D nD
      have Dp : p ≠ D := fun e => by obtain ⟨m, em⟩ := hT4.pl; rw [e, nD] at em; cases em
      have aD : a ≠ D := fun e => by have := hT4.hA; rw [e, nD] at this; cases this
      refine lc_gen (n := m) (fun i J2 => Tk K a p ds n J' J2 ∧ ∃ r : List (Option Nat), J2 D = some (.lst (r.map eV)) ∧ r.length = i ∧ ∀ e, some e ∈ r → e < sz) ⟨hT4.slf.more (same_new nD), [], upd_same, rfl, fun e m => absurd m (by simp)⟩ ?_ ?_ ?_ ?_
      · intro i J2 hi _
        show i < ((m : Int)).toNat
        omega
      · intro J2 _
        show ((m : Int)).toNat ≤ m
        omega
      · rintro i J2 x J3 hi ⟨hT5, r', eD, lr, hent⟩ ⟨rfl, rfl⟩
        obtain ⟨m5, em5⟩ := hT5.pl
        walk_at "go"
        refine ⟨a, p, n, m5, ds, rfl, SqL.of hT5.hA, hT5.hd, em5, hT5.ne, fun r2 r20 r21 => ?_⟩
        obtain ⟨hT6, sb6⟩ := hT5.next em5
        have eD6 := sb6 _ _ Dp.symm eD
        generalize upd J3 p (.lst [.int ((m5 + 1 : Nat) : Int)]) = J4 at hT6 eD6
        walk_at "go"
        intro o ho
        refine ⟨_, eD6, by rw [List.length_map]; exact szC (by omega), hT6.at_ nD Dp aD, r' ++ [o], by rw [upd_same, List.map_append]; rfl, by rw [List.length_append, lr]; rfl, fun e he => ?_⟩
        rcases List.mem_append.mp he with he | he
        · exact hent e he
        · exact ho e (List.mem_singleton.mp he).symm
      rintro J2 ⟨hT5, r', eD, lr, hent⟩
      have hT6 := hT4.tr hT5
      have tr6 : TbR J2 Ar zs := ⟨hT5.up tr.sq Ap, fun z hm => hT5.up (tr.at_ z hm) (nz z hm).2.2⟩
      have eg6 := hT5.up eg gp
      have DA : D ≠ Ar := fun e => by have := tr.sq; rw [← e, nD] at this; cases this
      have aA : a ≠ Ar := ne_of_none hT.hA nAH
      have ag : a ≠ g := ne_of_none hT.hA ngH
      have Dg : D ≠ g := fun e => by rw [← e, nD] at eg; cases eg
      have lzr : zs.length ≤ 100 := by omega
      walk_at "go"
      refine ⟨Ar, _, _, rfl, rfl, tr6.sq, by rw [List.length_map]; exact szC (by omega), ?_⟩
      have hT7 : Tk K a p ds n H (upd J2 Ar (.lst ((zs.map fun z => V.ref z.1) ++ [.ref D]))) := hT6.at_ nAH Ap.symm aA
      have tr7 : TbR (upd J2 Ar (.lst ((zs.map fun z => V.ref z.1) ++ [.ref D]))) Ar (zs ++ [(D, r')]) := ⟨by rw [upd_same, List.map_append]; rfl, fun z hm => by
        rcases List.mem_append.mp hm with hm | hm
        · rw [upd_ne (nz z hm).1]
          exact tr6.at_ z hm
        · rw [List.mem_singleton.mp hm, upd_ne DA]
          exact eD⟩
      have eg7 : (upd J2 Ar (.lst ((zs.map fun z => V.ref z.1) ++ [.ref D]))) g = some (.lst (gsq gs)) := by rw [upd_ne Ag.symm]; exact eg6
      generalize upd J2 Ar (.lst ((zs.map fun z => V.ref z.1) ++ [.ref D])) = J3 at hT7 tr7 eg7
      have nz7 : ∀ z ∈ zs ++ [(D, r')], z.1 ≠ Ar ∧ z.1 ≠ g ∧ z.1 ≠ p := fun z hm => by
        rcases List.mem_append.mp hm with hm | hm
        · exact nz z hm
        · rw [List.mem_singleton.mp hm]
          exact ⟨DA, Dg, Dp.symm⟩
      have hrow7 : ∀ r ∈ Z.tb (zs ++ [(D, r')]), r.length = m ∧ ∀ e, some e ∈ r → e < sz := fun r hr => by
        unfold Z.tb at hr
        rw [List.map_append] at hr
        rcases List.mem_append.mp hr with hr | hr
        · exact hrow r hr
        · rw [List.mem_singleton.mp hr]
          exact ⟨lr, hent⟩
      have lz7 : (zs ++ [(D, r')]).length = k + 1 := by rw [List.length_append, lz]; rfl
      obtain ⟨m7, em7⟩ := hT7.pl
      walk_at "go"
      refine ⟨a, p, n, m7, ds, rfl, SqL.of hT7.hA, hT7.hd, em7, hT7.ne, fun r5 r50 r51 => ?_⟩
      obtain ⟨hT8, _⟩ := hT7.next em7
      have tr8 : TbR (upd J3 p (.lst [.int ((m7 + 1 : Nat) : Int)])) Ar (zs ++ [(D, r')]) := ⟨by rw [upd_ne Ap]; exact tr7.sq, fun z hm => by rw [upd_ne (nz7 z hm).2.2]; exact tr7.at_ z hm⟩
      have eg8 : (upd J3 p (.lst [.int ((m7 + 1 : Nat) : Int)])) g = some (.lst (gsq gs)) := by rw [upd_ne gp]; exact eg7
      generalize upd J3 p (.lst [.int ((m7 + 1 : Nat) : Int)]) = J4 at hT8 tr8 eg8
      walk_at "go"
      refine ite2 (fun e => ?_) (fun e => ?_)
      · walk_at "go"
        refine ⟨.inl ⟨rfl, _, SqL.of eg8⟩, ?_⟩
        walk_at "go"
        refine ⟨g, _, _, rfl, rfl, eg8, by rw [show (gsq gs).length = gs.length from List.length_map ..]; exact szC (by omega), ?_⟩
        refine ⟨hT8.at_ ngH gp.symm ag, zs ++ [(D, r')], gs ++ [k], _, ⟨by rw [upd_ne Ag]; exact tr8.sq, fun z hm => by rw [upd_ne (nz7 z hm).2.1]; exact tr8.at_ z hm⟩, nz7, by rw [upd_same]; unfold gsq; rw [List.map_append]; simp, lz7, hrow7, fun s hs => ?_, by rw [List.length_append]; show gs.length + 1 ≤ k + 1; omega, rfl⟩
        rcases List.mem_append.mp hs with hs | hs
        · have := hgs s hs
          omega
        · rw [List.mem_singleton.mp hs]
          omega
      · exact ⟨hT8, zs ++ [(D, r')], gs, _, tr8, nz7, eg8, lz7, hrow7, fun s hs => by have := hgs s hs; omega, by omega, rfl⟩
    · rintro σ J ⟨hT4, zs, gs, v7, tr, nz, eg, lz, hrow, hgs, lg, rfl⟩
      walk_at "go"
      intro t nt
      have st_ := same_new (o := .lst [.ref Ar, .ref g]) nt
      refine q t Ar g zs gs _ (hT4.more st_) upd_same (tr.mono st_) (st_ _ _ eg) ⟨fun r m => (hrow r m).1, fun r m e he => ?_⟩ (by omega) (by omega) (by rw [lz]; exact hgs) (by omega)
      rw [show (Z.tb zs).length = zs.length from List.length_map .., lz]
      exact (hrow r m).2 e he
end
end Z
set_option linter.all false
set_option maxRecDepth 100000
namespace Mc
/-! ### the normal form is determined by the accepted texts -/
structure Ab (m : Nat) (R : Tbl) (X : Nat → List Nat → Prop) : Prop where
  zero : 0 < R.length
  row : ∀ r ∈ R, r.length = m
  inj : ∀ i j, i < R.length → j < R.length → (∀ w, X i w ↔ X j w) → i = j
  live : ∀ i, i < R.length → ∃ w, X i w
  no : ∀ i k, i < R.length → nx R i k = none → ∀ w, ¬ X i (k :: w)
  yes : ∀ i k j, nx R i k = some j → j < R.length ∧ ∀ w, X j w ↔ X i (k :: w)
  ord : ∀ j : Nat, 0 < j → j < R.length → ∃ i k : Nat, i < j ∧ nx R i k = some j ∧ ∀ (i' k' j' : Nat), (i' < i ∨ i' = i ∧ k' < k) → nx R i' k' = some j' → j' < j
theorem Ab.step {m : Nat} {R R' : Tbl} {X X' : Nat → List Nat → Prop} (h : Ab m R X) (h' : Ab m R' X') {i k j : Nat} (hi' : i < R'.length) (e : ∀ w, X i w ↔ X' i w) (hj : nx R i k = some j) : ∃ j', nx R' i k = some j' ∧ ∀ w, X j w ↔ X' j' w := by
  obtain ⟨lj, ej⟩ := h.yes i k j hj
  cases c : nx R' i k with
  | none =>
    obtain ⟨w, xw⟩ := h.live j lj
    exact absurd ((e _).mp ((ej w).mp xw)) (h'.no i k hi' c w)
  | some j' =>
    exact ⟨j', rfl, fun w => (ej w).trans ((e _).trans ((h'.yes i k j' c).2 w).symm)⟩
theorem Ab.grow {m : Nat} {R R' : Tbl} {X X' : Nat → List Nat → Prop} (h : Ab m R X) (h' : Ab m R' X') {n : Nat} (n0 : 0 < n) (ih : ∀ i, i < n → (i < R.length ↔ i < R'.length) ∧ (i < R.length → ∀ w, X i w ↔ X' i w)) (hn : n < R.length) : n < R'.length ∧ ∀ w, X n w ↔ X' n w := by
  obtain ⟨i, k, hi, e1, mi⟩ := h.ord n n0 hn
  have li : i < R.length := by omega
  have li' := (ih i hi).1.mp li
  obtain ⟨j', e2, q⟩ := h.step h' li' ((ih i hi).2 li) e1
  have lj' := (h'.yes i k j' e2).1
  have key : j' = n := by
    rcases Nat.lt_trichotomy j' n with c | c | c
    · have a := ih j' c
      have := h.inj j' n (a.1.mpr lj') hn fun w => ((a.2 (a.1.mpr lj')) w).trans (q w).symm
      omega
    · exact c
    · obtain ⟨i2, k2, hi2, e3, mi2⟩ := h'.ord n n0 (by omega)
      have nl : ¬ (i < i2 ∨ i = i2 ∧ k < k2) := fun z => by have := mi2 i k j' z e2; omega
      have ne : ¬ (i = i2 ∧ k = k2) := fun ⟨a, b⟩ => by subst a b; rw [e2] at e3; injection e3; omega
      have l2 : i2 < i ∨ i2 = i ∧ k2 < k := by omega
      have li2' : i2 < R'.length := by omega
      have li2 := (ih i2 hi2).1.mpr li2'
      obtain ⟨j3, e4, q4⟩ := h'.step h li2 (fun w => ((ih i2 hi2).2 li2 w).symm) e3
      have lt := mi i2 k2 j3 l2 e4
      have lj3 := (h.yes i2 k2 j3 e4).1
      have := h'.inj j3 n ((ih j3 lt).1.mp lj3) (by omega) fun w => ((ih j3 lt).2 lj3 w).symm.trans (q4 w).symm
      omega
  subst key
  exact ⟨lj', q⟩
theorem Ab.all {m : Nat} {R R' : Tbl} {X X' : Nat → List Nat → Prop} (h : Ab m R X) (h' : Ab m R' X') (e : ∀ w, X 0 w ↔ X' 0 w) : ∀ n i, i < n → (i < R.length ↔ i < R'.length) ∧ (i < R.length → ∀ w, X i w ↔ X' i w) := by
  intro n
  induction n with
  | zero => exact fun i hi => absurd hi (Nat.not_lt_zero _)
  | succ n ih =>
    intro i hi
    by_cases c : i < n
    · exact ih i c
    · have : i = n := by omega
      subst this
      by_cases c0 : i = 0
      · subst c0
        exact ⟨⟨fun _ => h'.zero, fun _ => h.zero⟩, fun _ => e⟩
      · have ih' : ∀ j, j < i → (j < R'.length ↔ j < R.length) ∧ (j < R'.length → ∀ w, X' j w ↔ X j w) := fun j hj => ⟨(ih j hj).1.symm, fun l w => ((ih j hj).2 ((ih j hj).1.mpr l) w).symm⟩
        exact ⟨⟨fun l => (h.grow h' (by omega) ih l).1, fun l => (h'.grow h (by omega) ih' l).1⟩, fun l => (h.grow h' (by omega) ih l).2⟩
theorem tbl_ext {m : Nat} {R R' : Tbl} (l : R.length = R'.length) (h : ∀ r ∈ R, r.length = m) (h' : ∀ r ∈ R', r.length = m) (e : ∀ i k, i < R.length → nx R i k = nx R' i k) : R = R' := by
  apply List.ext_getElem l
  intro i h1 h2
  have a := h _ (List.getElem_mem h1)
  have b := h' _ (List.getElem_mem h2)
  apply List.ext_getElem (a.trans b.symm)
  intro k k1 k2
  have := e i k h1
  rw [nx_at (List.getElem?_eq_getElem h1) (List.getElem?_eq_getElem k1), nx_at (List.getElem?_eq_getElem h2) (List.getElem?_eq_getElem k2)] at this
  exact this
theorem Ab.uniq {m : Nat} {R R' : Tbl} {X X' : Nat → List Nat → Prop} (h : Ab m R X) (h' : Ab m R' X') (e : ∀ w, X 0 w ↔ X' 0 w) : R = R' ∧ ∀ i, i < R.length → ∀ w, X i w ↔ X' i w := by
  have al := h.all h' e
  have l : R.length = R'.length := by
    rcases Nat.lt_trichotomy R.length R'.length with c | c | c
    · have := (al (R.length + 1) R.length (by omega)).1.mpr c
      omega
    · exact c
    · have := (al (R'.length + 1) R'.length (by omega)).1.mp c
      omega
  have x : ∀ i, i < R.length → ∀ w, X i w ↔ X' i w := fun i hi => (al (i + 1) i (by omega)).2 hi
  refine ⟨tbl_ext l h.row h'.row fun i k hi => ?_, x⟩
  have hi' : i < R'.length := by omega
  cases c : nx R i k with
  | none =>
    cases c' : nx R' i k with
    | none => rfl
    | some j =>
      obtain ⟨j', e2, _⟩ := h'.step h hi (fun w => (x i hi w).symm) c'
      rw [c] at e2
      cases e2
  | some j =>
    obtain ⟨j', e2, q⟩ := h.step h' hi' (x i hi) c
    have lj := (h.yes i k j c).1
    have lj' := (h'.yes i k j' e2).1
    rw [e2, h'.inj j j' (by omega) lj' fun w => (x j lj w).symm.trans (q w)]
theorem NfOf.ab {T : Tbl} {G : Nat → Prop} {m : Nat} {R : Tbl} {g met : List Nat} (h : NfOf T G m R g met) : Ab m R fun i w => ∃ s, met[i]? = some s ∧ Acc T G s w := by
  have ex : ∀ i, i < R.length → ∃ s, met[i]? = some s := fun i hi => ⟨_, List.getElem?_eq_getElem (by rw [← h.len]; exact hi)⟩
  refine ⟨by rw [h.len]; exact (List.getElem?_eq_some_iff.mp h.zero).1, h.row, fun i j hi hj e => ?_, fun i hi => ?_, fun i k hi n w => ?_, fun i k j hj => ?_, by rw [h.len]; exact h.ord⟩
  · obtain ⟨s, es⟩ := ex i hi
    obtain ⟨t, et⟩ := ex j hj
    refine h.ap i j s t es et fun w => ⟨fun a => ?_, fun a => ?_⟩
    · obtain ⟨t', e1, a'⟩ := (e w).mp ⟨s, es, a⟩
      rw [et] at e1
      cases e1
      exact a'
    · obtain ⟨t', e1, a'⟩ := (e w).mpr ⟨t, et, a⟩
      rw [es] at e1
      cases e1
      exact a'
  · obtain ⟨s, es⟩ := ex i hi
    obtain ⟨w, a⟩ := (h.live s (List.mem_of_getElem? es)).2
    exact ⟨w, s, es, a⟩
  · rintro ⟨s, es, a⟩
    obtain ⟨e, h1, b⟩ := acc_cons.mp a
    exact h.no i s k es n e h1 ⟨w, b⟩
  · obtain ⟨r, h1, h2⟩ := nx_mem hj
    obtain ⟨s, es⟩ := ex i (List.getElem?_eq_some_iff.mp h1).1
    obtain ⟨e, t, h3, h4, h5⟩ := h.yes i s k j es hj
    refine ⟨by rw [h.len]; exact (List.getElem?_eq_some_iff.mp h4).1, fun w => ⟨?_, ?_⟩⟩
    · rintro ⟨t', e1, a⟩
      rw [h4] at e1
      cases e1
      exact ⟨s, es, acc_cons.mpr ⟨e, h3, (h5 w).mpr a⟩⟩
    · rintro ⟨s', e1, a⟩
      rw [es] at e1
      cases e1
      obtain ⟨e', h6, b⟩ := acc_cons.mp a
      rw [h3] at h6
      cases h6
      exact ⟨t, h4, (h5 w).mp b⟩
theorem asc_ext : ∀ {l m : List Nat}, l.Pairwise (· < ·) → m.Pairwise (· < ·) → (∀ x, x ∈ l ↔ x ∈ m) → l = m
  | [], [], _, _, _ => rfl
  | [], y :: m, _, _, h => absurd ((h y).mpr List.mem_cons_self) (by simp)
  | x :: l, [], _, _, h => absurd ((h x).mp List.mem_cons_self) (by simp)
  | x :: l, y :: m, p, q, h => by
    obtain ⟨p1, p2⟩ := List.pairwise_cons.mp p
    obtain ⟨q1, q2⟩ := List.pairwise_cons.mp q
    have e : x = y := by
      rcases List.mem_cons.mp ((h x).mp List.mem_cons_self) with a | a
      · exact a
      · rcases List.mem_cons.mp ((h y).mpr List.mem_cons_self) with b | b
        · exact b.symm
        · have := q1 x a
          have := p1 y b
          omega
    subst e
    rw [asc_ext p2 q2 fun z => ⟨fun m1 => ?_, fun m1 => ?_⟩]
    · rcases List.mem_cons.mp ((h z).mp (List.mem_cons_of_mem _ m1)) with a | a
      · have := p1 z m1
        omega
      · exact a
    · rcases List.mem_cons.mp ((h z).mpr (List.mem_cons_of_mem _ m1)) with a | a
      · have := q1 z m1
        omega
      · exact a
def AccS (T : Tbl) (G : Nat → Prop) (w : List Nat) : Prop := ∃ t, rn T (st T) w = some t ∧ G t
theorem NfOf.pos {T : Tbl} {G : Nat → Prop} {m : Nat} {R : Tbl} {g met : List Nat} (h : NfOf T G m R g met) : st T = some 0 := if_neg (by have := (h.live 0 (List.mem_of_getElem? h.zero)).1; omega)
theorem NfOf.accS {T : Tbl} {G : Nat → Prop} {m : Nat} {R : Tbl} {g met : List Nat} (h : NfOf T G m R g met) (w : List Nat) : (∃ s, met[0]? = some s ∧ Acc T G s w) ↔ AccS T G w := by
  unfold AccS
  rw [h.pos]
  constructor
  · rintro ⟨s, e, a⟩
    rw [h.zero] at e
    cases e
    exact a
  · exact fun a => ⟨0, h.zero, a⟩
theorem Nf.uniq {T T' : Tbl} {G G' : Nat → Prop} {m : Nat} {R R' : Tbl} {g g' : List Nat} (h : Nf T G m R g) (h' : Nf T' G' m R' g') (e : ∀ w, AccS T G w ↔ AccS T' G' w) : R = R' ∧ g = g' := by
  have no : ∀ {T : Tbl} {G : Nat → Prop}, (T = [] ∨ ¬ Liv T G 0) → ∀ w, ¬ AccS T G w := by
    rintro T G h w ⟨t, h1, h2⟩
    rcases h with rfl | h
    · rw [show st [] = none from rfl, rn_none] at h1
      cases h1
    · unfold st at h1
      split at h1
      · rw [rn_none] at h1; cases h1
      · exact h ⟨w, t, h1, h2⟩
  have ex : ∀ {T : Tbl} {G : Nat → Prop} {R : Tbl} {g met : List Nat}, NfOf T G m R g met → ∃ w, AccS T G w := fun n => by
    obtain ⟨w, a⟩ := (n.live 0 (List.mem_of_getElem? n.zero)).2
    exact ⟨w, (n.accS w).mp ⟨0, n.zero, a⟩⟩
  rcases h with ⟨r1, r2, h⟩ | ⟨met, h⟩
  · rcases h' with ⟨r3, r4, h'⟩ | ⟨met', h'⟩
    · rw [r1, r2, r3, r4]
      exact ⟨rfl, rfl⟩
    · obtain ⟨w, a⟩ := ex h'
      exact absurd ((e w).mpr a) (no h w)
  · rcases h' with ⟨r3, r4, h'⟩ | ⟨met', h'⟩
    · obtain ⟨w, a⟩ := ex h
      exact absurd ((e w).mp a) (no h' w)
    · obtain ⟨eR, x⟩ := h.ab.uniq h'.ab fun w => (h.accS w).trans ((e w).trans (h'.accS w).symm)
      refine ⟨eR, asc_ext h.asc h'.asc fun i => (h.good i).trans (Iff.trans ?_ (h'.good i).symm)⟩
      have lm : met.length = met'.length := by rw [← h.len, ← h'.len, eR]
      by_cases c : i < R.length
      · have := x i c []
        simp only [acc_nil] at this
        exact this
      · constructor
        · rintro ⟨s, e1, _⟩
          have := (List.getElem?_eq_some_iff.mp e1).1
          rw [← h.len] at this
          exact absurd this c
        · rintro ⟨s, e1, _⟩
          have := (List.getElem?_eq_some_iff.mp e1).1
          rw [← h'.len, ← eR] at this
          exact absurd this c
end Mc
set_option linter.all false
set_option maxRecDepth 100000
namespace Mc
/-! ### languages: sets of texts, a text as its letters' numbers -/
abbrev Lg := List Nat → Prop
/-- the numbers of a text's letters, none if one is no letter -/
def idx (ix : Nat → Option Nat) : List Nat → Option (List Nat)
  | [] => some []
  | c :: w => match ix c, idx ix w with
    | some k, some v => some (k :: v)
    | _, _ => none
theorem rs_idx (T : Tbl) (ix : Nat → Option Nat) : ∀ (w : List Nat) (o : Option Nat), rs T ix o w = match idx ix w with | none => none | some v => rn T o v
  | [], o => by cases o <;> rfl
  | c :: w, none => by
    rw [rs_none]
    cases idx ix (c :: w) with
    | none => rfl
    | some v => exact (rn_none T v).symm
  | c :: w, some s => by
    show (match ix c with | none => none | some k => rs T ix (nx T s k) w) = _
    unfold idx
    cases h : ix c with
    | none => rfl
    | some k =>
      show rs T ix (nx T s k) w = _
      rw [rs_idx T ix w]
      cases idx ix w <;> rfl
theorem idx_app (ix : Nat → Option Nat) : ∀ (u v : List Nat), idx ix (u ++ v) = match idx ix u, idx ix v with | some a, some b => some (a ++ b) | _, _ => none
  | [], v => by
    show idx ix v = _
    cases idx ix v <;> rfl
  | c :: u, v => by
    show (match ix c, idx ix (u ++ v) with | some k, some v => some (k :: v) | _, _ => none) = match (match ix c, idx ix u with | some k, some v => some (k :: v) | _, _ => none), idx ix v with | some a, some b => some (a ++ b) | _, _ => none
    rw [idx_app ix u v]
    cases ix c <;> cases idx ix u <;> cases idx ix v <;> rfl
theorem idx_len {ix : Nat → Option Nat} : ∀ {u v : List Nat}, idx ix u = some v → v.length = u.length
  | [], v, h => by cases h; rfl
  | c :: u, v, h => by
    unfold idx at h
    cases h1 : ix c with
    | none => rw [h1] at h; cases h
    | some k =>
      cases h2 : idx ix u with
      | none => rw [h1, h2] at h; cases h
      | some v' =>
        rw [h1, h2] at h
        cases h
        rw [List.length_cons, List.length_cons, idx_len h2]
/-- the texts of a language -/
def Txl (ix : Nat → Option Nat) (L : Lg) (tx : List Nat) : Prop := ∃ v, idx ix tx = some v ∧ L v
theorem txl_rs {T : Tbl} {G : Nat → Prop} {ix : Nat → Option Nat} {tx : List Nat} : Txl ix (AccS T G) tx ↔ ∃ t, rs T ix (st T) tx = some t ∧ G t := by
  unfold Txl AccS
  rw [rs_idx]
  cases idx ix tx with
  | none => exact ⟨fun ⟨v, h, _⟩ => (by cases h), fun ⟨t, h, _⟩ => (by cases h)⟩
  | some v =>
    constructor
    · rintro ⟨v', h, h2⟩
      cases h
      exact h2
    · exact fun h => ⟨v, rfl, h⟩
theorem Txl.congr {ix : Nat → Option Nat} {L L' : Lg} {tx : List Nat} (h : ∀ w, L w ↔ L' w) : Txl ix L tx ↔ Txl ix L' tx := ⟨fun ⟨v, a, b⟩ => ⟨v, a, (h v).mp b⟩, fun ⟨v, a, b⟩ => ⟨v, a, (h v).mpr b⟩⟩
/-! ### the normal form and its language -/
theorem Nf.lang {T : Tbl} {G : Nat → Prop} {m : Nat} {R : Tbl} {g : List Nat} (h : Nf T G m R g) (w : List Nat) : AccS R (fun j => j ∈ g) w ↔ AccS T G w := by
  obtain ⟨h1, h2⟩ := h.read w
  constructor
  · rintro ⟨j, e, hj⟩
    obtain ⟨t, e2, _, h3⟩ := h2 j e
    exact ⟨t, e2, h3.mp hj⟩
  · rintro ⟨t, e, ht⟩
    cases e2 : rn R (st R) w with
    | none => exact absurd (liv_good ht) (h1 e2 t e)
    | some j =>
      obtain ⟨t', e3, _, h3⟩ := h2 j e2
      rw [e] at e3
      cases e3
      exact ⟨j, e2, h3.mpr ht⟩
/-- every state of the normal form can reach a good one -/
theorem Nf.live {T : Tbl} {G : Nat → Prop} {m : Nat} {R : Tbl} {g : List Nat} (h : Nf T G m R g) {j : Nat} (hj : j < R.length) : Liv R (fun j => j ∈ g) j := by
  rcases h with ⟨rfl, _, _⟩ | ⟨met, h⟩
  · exact absurd hj (Nat.not_lt_zero _)
  · obtain ⟨w, s, es, a⟩ := h.ab.live j hj
    obtain ⟨t, e1, e2⟩ := a
    obtain ⟨b1, b2⟩ := h.sim w j s s es (Leq.refl s)
    cases e : rn R (some j) w with
    | none => exact absurd (liv_good e2) (b1 e t e1)
    | some i =>
      obtain ⟨t', t1, e3, e4, e5⟩ := b2 i e
      rw [e1] at e3
      cases e3
      exact ⟨w, i, e, (h.good i).mpr ⟨t1, e4, e5.good.mp e2⟩⟩
/-! ### beginnings -/
def BeL (L : Lg) : Lg := fun w => ∃ v, L (w ++ v)
theorem rn_some {T : Tbl} {o : Option Nat} {u v : List Nat} {t : Nat} (h : rn T o (u ++ v) = some t) : ∃ s, rn T o u = some s ∧ rn T (some s) v = some t := by
  rw [rn_app] at h
  cases e : rn T o u with
  | none => rw [e, rn_none] at h; cases h
  | some s => exact ⟨s, rfl, by rw [e] at h; exact h⟩
theorem bel_iff {T : Tbl} {G : Nat → Prop} {w : List Nat} : BeL (AccS T G) w ↔ ∃ t, rn T (st T) w = some t ∧ Liv T G t := by
  constructor
  · rintro ⟨v, t, e, g⟩
    obtain ⟨s, e1, e2⟩ := rn_some e
    exact ⟨s, e1, v, t, e2, g⟩
  · rintro ⟨s, e1, v, t, e2, g⟩
    exact ⟨v, t, by rw [rn_app, e1]; exact e2, g⟩
theorem bel_bel {L : Lg} {w : List Nat} : BeL (BeL L) w ↔ BeL L w := by
  constructor
  · rintro ⟨v, u, h⟩
    exact ⟨v ++ u, by rw [← List.append_assoc]; exact h⟩
  · rintro ⟨v, h⟩
    exact ⟨v, [], by rw [List.append_nil]; exact h⟩
theorem BeL.congr {L L' : Lg} (h : ∀ w, L w ↔ L' w) (w : List Nat) : BeL L w ↔ BeL L' w := ⟨fun ⟨v, a⟩ => ⟨v, (h _).mp a⟩, fun ⟨v, a⟩ => ⟨v, (h _).mpr a⟩⟩
theorem rn_lt {T : Tbl} {m : Nat} (wf : Wf T m) : ∀ {w : List Nat} {o : Option Nat} {t : Nat}, (∀ j, o = some j → j < T.length) → rn T o w = some t → t < T.length
  | [], o, t, h, e => h t (by cases o <;> exact e)
  | k :: w, none, t, h, e => by cases e
  | k :: w, some s, t, h, e => rn_lt wf (fun j hj => (nx_lt wf hj).1) (show rn T (nx T s k) w = some t from e)
theorem st_lt' (T : Tbl) : ∀ j, st T = some j → j < T.length := fun j h => by
  unfold st at h
  split at h
  · cases h
  · cases h
    omega
/-! ### endless ways -/
def LaL (L : Lg) : Prop := ∃ B : List Nat → Prop, B [] ∧ ∀ u, B u → L u ∧ ∃ k, B (u ++ [k])
def UnL (L : Lg) : Lg := fun w => ∀ u, u <+: w → LaL fun v => L (u ++ v)
def La (T : Tbl) (G : Nat → Prop) (s : Nat) : Prop := ∃ A : Nat → Prop, A s ∧ ∀ x, A x → G x ∧ ∃ k e, nx T x k = some e ∧ A e
theorem La.out {T : Tbl} {G : Nat → Prop} {s : Nat} (h : La T G s) : G s ∧ ∃ k e, nx T s k = some e ∧ La T G e := by
  obtain ⟨A, a, h⟩ := h
  obtain ⟨g, k, e, n, b⟩ := h s a
  exact ⟨g, k, e, n, A, b, h⟩
theorem LaL.congr {L L' : Lg} (h : ∀ w, L w ↔ L' w) : LaL L ↔ LaL L' := ⟨fun ⟨B, a, b⟩ => ⟨B, a, fun u hu => ⟨(h u).mp (b u hu).1, (b u hu).2⟩⟩, fun ⟨B, a, b⟩ => ⟨B, a, fun u hu => ⟨(h u).mpr (b u hu).1, (b u hu).2⟩⟩⟩
theorem UnL.congr {L L' : Lg} (h : ∀ w, L w ↔ L' w) (w : List Nat) : UnL L w ↔ UnL L' w := ⟨fun a u hu => (LaL.congr fun v => h _).mp (a u hu), fun a u hu => (LaL.congr fun v => h _).mpr (a u hu)⟩
theorem rn_snoc {T : Tbl} {o : Option Nat} {u : List Nat} {k t : Nat} (h : rn T o u = some t) : rn T o (u ++ [k]) = nx T t k := by
  rw [rn_app, h]
  show rn T (nx T t k) [] = nx T t k
  cases nx T t k <;> rfl
theorem la_lal {T : Tbl} {G : Nat → Prop} {s : Nat} : La T G s ↔ LaL fun v => Acc T G s v := by
  constructor
  · intro h
    refine ⟨fun u => ∃ t, rn T (some s) u = some t ∧ La T G t, ⟨s, rfl, h⟩, ?_⟩
    rintro u ⟨t, e, l⟩
    obtain ⟨g, k, e', n, l'⟩ := l.out
    exact ⟨⟨t, e, g⟩, k, e', by rw [rn_snoc e]; exact n, l'⟩
  · rintro ⟨B, b0, h⟩
    refine ⟨fun t => ∃ u, B u ∧ rn T (some s) u = some t, ⟨[], b0, rfl⟩, ?_⟩
    rintro t ⟨u, bu, e⟩
    obtain ⟨⟨t', e', g⟩, k, bk⟩ := h u bu
    rw [e] at e'
    cases e'
    obtain ⟨⟨t2, e2, _⟩, _⟩ := h _ bk
    have e3 := e2
    rw [rn_snoc e] at e3
    exact ⟨g, k, t2, e3, _, bk, e2⟩
theorem lal_at {T : Tbl} {G : Nat → Prop} {u : List Nat} : (LaL fun v => AccS T G (u ++ v)) ↔ ∃ t, rn T (st T) u = some t ∧ La T G t := by
  cases e : rn T (st T) u with
  | none =>
    constructor
    · rintro ⟨B, b0, h⟩
      obtain ⟨⟨t, h1, _⟩, _⟩ := h [] b0
      rw [rn_app, e, rn_none] at h1
      cases h1
    · rintro ⟨t, h, _⟩
      cases h
  | some s =>
    have key : ∀ v, AccS T G (u ++ v) ↔ Acc T G s v := fun v => by
      unfold AccS Acc
      rw [rn_app, e]
    constructor
    · intro h
      exact ⟨s, rfl, la_lal.mpr ((LaL.congr key).mp h)⟩
    · rintro ⟨t, h, l⟩
      cases h
      exact (LaL.congr key).mpr (la_lal.mp l)
theorem unl_iff {T : Tbl} {G : Nat → Prop} {w : List Nat} : UnL (AccS T G) w ↔ ∀ u, u <+: w → ∃ t, rn T (st T) u = some t ∧ La T G t :=
  ⟨fun h u hu => lal_at.mp (h u hu), fun h u hu => lal_at.mpr (h u hu)⟩
theorem pre_cases {u v x : List Nat} (h : x <+: u ++ v) : x <+: u ∨ ∃ y, y <+: v ∧ x = u ++ y := by
  obtain ⟨z, e⟩ := h
  rcases List.append_eq_append_iff.mp e with ⟨a, e1, e2⟩ | ⟨a, e1, e2⟩
  · exact .inl ⟨a, e1.symm⟩
  · exact .inr ⟨a, ⟨z, e2.symm⟩, e1⟩
theorem unl_unl {L : Lg} {w : List Nat} : UnL (UnL L) w ↔ UnL L w := by
  constructor
  · intro h u hu
    obtain ⟨B, b0, hb⟩ := h u hu
    have := (hb [] b0).1 u (by rw [List.append_nil]; exact List.prefix_refl u)
    exact this
  · intro h u hu
    obtain ⟨B, b0, hb⟩ := h u hu
    refine ⟨fun v => ∀ y, y <+: v → B y, fun y hy => ?_, fun v hv => ⟨fun x hx => ?_, ?_⟩⟩
    · rw [List.prefix_nil.mp hy]
      exact b0
    · rcases pre_cases hx with hx | ⟨y, hy, rfl⟩
      · exact h x (hx.trans hu)
      · refine ⟨fun z => B (y ++ z), by show B (y ++ []); rw [List.append_nil]; exact hv y hy, fun z hz => ?_⟩
        obtain ⟨a, k, b⟩ := hb _ hz
        exact ⟨by show L (u ++ y ++ z); rw [List.append_assoc]; exact a, k, by show B (y ++ (z ++ [k])); rw [← List.append_assoc]; exact b⟩
    · obtain ⟨_, k, b⟩ := hb v (hv v (List.prefix_refl v))
      refine ⟨k, fun y hy => ?_⟩
      rcases pre_cases hy with hy | ⟨z, hz, rfl⟩
      · exact hv y hy
      · rcases List.prefix_cons_iff.mp hz with rfl | ⟨t, rfl, ht⟩
        · rw [List.append_nil]
          exact hv v (List.prefix_refl v)
        · rw [List.prefix_nil.mp ht]
          exact b
/-- the rows that lead to lasting states alone -/
theorem kept_acc {T T' : Tbl} {A : Nat → Prop} (h0 : 0 < T.length) (hl : T'.length = T.length) (a0 : A 0) (hn : ∀ s k e, nx T' s k = some e ↔ nx T s k = some e ∧ A e) (w : List Nat) : (∃ t, rn T' (st T') w = some t) ↔ ∀ u, u <+: w → ∃ t, rn T (st T) u = some t ∧ A t := by
  have e1 : st T = some 0 := if_neg (by omega)
  have e2 : st T' = some 0 := if_neg (by omega)
  rw [e1, e2]
  have key : ∀ (w : List Nat) (s : Nat), A s → ((∃ t, rn T' (some s) w = some t) ↔ ∀ u, u <+: w → ∃ t, rn T (some s) u = some t ∧ A t) := by
    intro w
    induction w with
    | nil =>
      intro s hs
      exact ⟨fun _ u hu => by rw [List.prefix_nil.mp hu]; exact ⟨s, rfl, hs⟩, fun _ => ⟨s, rfl⟩⟩
    | cons k w ih =>
      intro s hs
      constructor
      · rintro ⟨t, e⟩ u hu
        rcases List.prefix_cons_iff.mp hu with rfl | ⟨v, rfl, hv⟩
        · exact ⟨s, rfl, hs⟩
        · have e : rn T' (nx T' s k) w = some t := e
          cases c : nx T' s k with
          | none => rw [c, rn_none] at e; cases e
          | some e' =>
            obtain ⟨c1, c2⟩ := (hn s k e').mp c
            rw [c] at e
            obtain ⟨t', h1, h2⟩ := (ih e' c2).mp ⟨t, e⟩ v hv
            exact ⟨t', by show rn T (nx T s k) v = some t'; rw [c1]; exact h1, h2⟩
      · intro h
        obtain ⟨e', h1, h2⟩ := h [k] ⟨w, rfl⟩
        have h1 : rn T (nx T s k) [] = some e' := h1
        have c1 : nx T s k = some e' := by cases c : nx T s k <;> rw [c] at h1 <;> exact h1
        obtain ⟨t, e⟩ := (ih e' h2).mpr fun v hv => by
          obtain ⟨t, h3, h4⟩ := h (k :: v) (List.prefix_cons_iff.mpr (.inr ⟨v, rfl, hv⟩))
          exact ⟨t, by have h3 : rn T (nx T s k) v = some t := h3; rw [c1] at h3; exact h3, h4⟩
        exact ⟨t, by show rn T' (nx T' s k) w = some t; rw [(hn s k e').mpr ⟨c1, h2⟩]; exact e⟩
  exact key w 0 a0
end Mc
namespace Mc
structure Kpa (T : Tbl) (A : Nat → Prop) (m : Nat) (T' : Tbl) : Prop where
  len : T'.length = T.length
  wf : Wf T' m
  nx : ∀ s k e, nx T' s k = some e ↔ nx T s k = some e ∧ A e
theorem kpa_of {T : Tbl} {A : Nat → Prop} {m : Nat} {al : Nat → Bool} (wf : Wf T m) (h : ∀ s, s < T.length → (al s = true ↔ A s)) : Kpa T A m (kpT al T) where
  len := List.length_map ..
  wf := ⟨fun r hr => by
    obtain ⟨r0, h0, rfl⟩ := List.mem_map.mp hr
    rw [List.length_map]
    exact wf.row r0 h0, fun r hr e he => by
    obtain ⟨r0, h0, rfl⟩ := List.mem_map.mp hr
    obtain ⟨o, ho, h1⟩ := List.mem_map.mp he
    have := (kp_some.mp h1).1
    subst this
    unfold kpT
    rw [List.length_map]
    exact wf.ent r0 h0 e ho⟩
  nx := fun s k e => by
    rw [nx_kp, kp_some]
    constructor
    · rintro ⟨h1, h2⟩
      exact ⟨h1, (h e (nx_lt wf h1).1).mp h2⟩
    · rintro ⟨h1, h2⟩
      exact ⟨h1, (h e (nx_lt wf h1).1).mpr h2⟩
/-- the language of the kept rows, all states good -/
theorem Kpa.acc {T T' : Tbl} {A : Nat → Prop} {m : Nat} (h : Kpa T A m T') (h0 : 0 < T.length) (a0 : A 0) (w : List Nat) : AccS T' (fun j => j ∈ List.range T'.length) w ↔ ∀ u, u <+: w → ∃ t, rn T (st T) u = some t ∧ A t := by
  rw [← kept_acc h0 h.len a0 h.nx]
  constructor
  · rintro ⟨t, e, _⟩
    exact ⟨t, e⟩
  · rintro ⟨t, e⟩
    exact ⟨t, e, List.mem_range.mpr (rn_lt h.wf (st_lt' T') e)⟩
theorem unl_empty {T : Tbl} {G : Nat → Prop} (h : T = [] ∨ ¬ La T G 0) (w : List Nat) : ¬ UnL (AccS T G) w := by
  rw [unl_iff]
  intro z
  obtain ⟨t, e, l⟩ := z [] ⟨w, rfl⟩
  rcases h with rfl | h
  · cases e
  · unfold st at e
    split at e
    · cases e
    · cases e
      exact h l
end Mc
namespace Mc
theorem Nf.len {T : Tbl} {G : Nat → Prop} {m : Nat} {R : Tbl} {g : List Nat} (h : Nf T G m R g) : R.length ≤ T.length := by
  rcases h with ⟨rfl, _, _⟩ | ⟨met, h⟩
  · exact Nat.zero_le _
  · rw [h.len]
    have nd : met.Nodup := by
      rw [List.Nodup, List.pairwise_iff_getElem]
      intro i j hi hj hij e
      have h1 := List.getElem?_eq_getElem hi
      have h2 := List.getElem?_eq_getElem hj
      have := h.ap i j _ _ h1 h2 (by rw [e]; exact Leq.refl _)
      omega
    exact nd_len nd fun x hx => (h.live x hx).1
end Mc
namespace Mc
/-- one round over all states that takes out the ones that cannot go on -/
theorem round_out {T : Tbl} {m r : Nat} {a0 al : Nat → Bool} (wf : Wf T m) (h0 : r ≤ cnt (fun s => !a0 s) T.length ∨ ∀ s, s < T.length → a0 s = true → ∃ k e, nx T s k = some e ∧ a0 e = true) (mo : ∀ s, al s = true → a0 s = true) (cl : (∀ s, s < T.length → a0 s = true → ∃ k e, nx T s k = some e ∧ a0 e = true) → ∀ s, al s = a0 s)
    (st : ∀ s, s < T.length → al s = true → ∃ k e, nx T s k = some e ∧ a0 e = true) : r + 1 ≤ cnt (fun s => !al s) T.length ∨ ∀ s, s < T.length → al s = true → ∃ k e, nx T s k = some e ∧ al e = true := by
  by_cases c : ∀ s, s < T.length → a0 s = true → ∃ k e, nx T s k = some e ∧ a0 e = true
  · right
    intro s hs h2
    rw [cl c] at h2
    obtain ⟨k, e, h3, h4⟩ := c s hs h2
    exact ⟨k, e, h3, by rw [cl c]; exact h4⟩
  · have h1 := h0.resolve_right c
    by_cases d : ∃ x, x < T.length ∧ a0 x = true ∧ al x = false
    · obtain ⟨x, hx, e1, e2⟩ := d
      have := cnt_lt (al := fun s => !a0 s) (bl := fun s => !al s) (n := T.length) (fun s _ h => by
        cases e : al s with
        | false => rfl
        | true =>
          have h : (!a0 s) = true := h
          rw [mo s e] at h
          cases h) hx (show (!a0 x) = false by rw [e1]; rfl) (show (!al x) = true by rw [e2]; rfl)
      left
      omega
    · refine absurd (fun s hs h2 => ?_) c
      cases e4 : al s with
      | true => exact st s hs e4
      | false => exact absurd ⟨s, hs, h2, e4⟩ d
end Mc
namespace Mc
theorem kept_sub {T T' : Tbl} (h : ∀ s k e, nx T' s k = some e → nx T s k = some e) : ∀ (w : List Nat) (o : Option Nat) (t : Nat), rn T' o w = some t → rn T o w = some t
  | [], o, t, e => by cases o <;> exact e
  | k :: w, none, t, e => by cases e
  | k :: w, some s, t, e => by
    have e : rn T' (nx T' s k) w = some t := e
    show rn T (nx T s k) w = some t
    cases c : nx T' s k with
    | none => rw [c, rn_none] at e; cases e
    | some e' =>
      rw [c] at e
      rw [h s k e' c]
      exact kept_sub h w (some e') t e
/-- the same, the lasting states good -/
theorem Kpa.acc2 {T T' : Tbl} {A G' : Nat → Prop} {m : Nat} (h : Kpa T A m T') (h0 : 0 < T.length) (a0 : A 0) (hg : ∀ j, G' j ↔ j < T.length ∧ A j) (w : List Nat) : AccS T' G' w ↔ ∀ u, u <+: w → ∃ t, rn T (st T) u = some t ∧ A t := by
  have e0 : st T' = st T := by rw [show st T = some 0 from if_neg (by omega), show st T' = some 0 from if_neg (by have := h.len; omega)]
  rw [← h.acc h0 a0]
  constructor
  · rintro ⟨t, e, g⟩
    exact ⟨t, e, List.mem_range.mpr (rn_lt h.wf (st_lt' T') e)⟩
  · intro z
    obtain ⟨t, e, g⟩ := z
    have z2 := (h.acc h0 a0 w).mp ⟨t, e, g⟩ w (List.prefix_refl w)
    obtain ⟨t2, e2, a⟩ := z2
    have e3 := kept_sub (fun s k e h1 => ((h.nx s k e).mp h1).1) w _ _ e
    rw [e0, e2] at e3
    cases e3
    exact ⟨t, e, (hg t).mpr ⟨by have := rn_lt h.wf (st_lt' T') e; rw [h.len] at this; exact this, a⟩⟩
end Mc
set_option linter.all false
set_option maxRecDepth 100000
namespace Mc
/-! ### states told apart step by step -/
def mt (R : Nat → Nat → Prop) : Option Nat → Option Nat → Prop
  | none, none => True
  | some a, some b => R a b
  | _, _ => False
theorem mt.mono {R R' : Nat → Nat → Prop} (h : ∀ a b, R a b → R' a b) : ∀ {o p : Option Nat}, mt R o p → mt R' o p
  | none, none, _ => trivial
  | some a, some b, z => h a b z
  | none, some _, z => z
  | some _, none, z => z
def Eqt (T : Tbl) (m : Nat) (c : Nat → Nat) : Nat → Nat → Nat → Prop
  | 0, s, s' => c s = c s'
  | t + 1, s, s' => Eqt T m c t s s' ∧ ∀ k, k < m → mt (Eqt T m c t) (nx T s k) (nx T s' k)
theorem Eqt.refl {T : Tbl} {m : Nat} {c : Nat → Nat} : ∀ (t s : Nat), Eqt T m c t s s
  | 0, s => rfl
  | t + 1, s => ⟨Eqt.refl t s, fun k _ => by
    cases nx T s k with
    | none => exact trivial
    | some e => exact Eqt.refl t e⟩
theorem Eqt.symm {T : Tbl} {m : Nat} {c : Nat → Nat} : ∀ (t s s' : Nat), Eqt T m c t s s' → Eqt T m c t s' s
  | 0, s, s', h => Eq.symm h
  | t + 1, s, s', h => ⟨Eqt.symm t s s' h.1, fun k hk => by
    have := h.2 k hk
    cases e1 : nx T s k with
    | none =>
      cases e2 : nx T s' k with
      | none => exact trivial
      | some b => rw [e1, e2] at this; exact this
    | some a =>
      cases e2 : nx T s' k with
      | none => rw [e1, e2] at this; exact this
      | some b => rw [e1, e2] at this; exact Eqt.symm t a b this⟩
theorem Eqt.trans {T : Tbl} {m : Nat} {c : Nat → Nat} : ∀ (t s s' s2 : Nat), Eqt T m c t s s' → Eqt T m c t s' s2 → Eqt T m c t s s2
  | 0, s, s', s2, h, h' => Eq.trans h h'
  | t + 1, s, s', s2, h, h' => ⟨Eqt.trans t s s' s2 h.1 h'.1, fun k hk => by
    have h1 := h.2 k hk
    have h2 := h'.2 k hk
    cases e1 : nx T s k with
    | none =>
      cases e2 : nx T s' k with
      | none => rw [e2] at h2; exact h2
      | some b => rw [e1, e2] at h1; exact h1.elim
    | some a =>
      cases e2 : nx T s' k with
      | none => rw [e1, e2] at h1; exact h1.elim
      | some b =>
        rw [e1, e2] at h1
        rw [e2] at h2
        cases e3 : nx T s2 k with
        | none => rw [e3] at h2; exact h2
        | some d => rw [e3] at h2; exact Eqt.trans t a b d h1 h2⟩
theorem mt_dec {R : Nat → Nat → Prop} {o p : Option Nat} (h : mt R o p) (n : Nat) (ho : ∀ e, o = some e → e < n) (hp : ∀ e, p = some e → e < n) {R' : Nat → Nat → Prop} (st : ∀ a b, a < n → b < n → R a b → R' a b) : mt R' o p := by
  cases o with
  | none =>
    cases p with
    | none => exact trivial
    | some b => exact h
  | some a =>
    cases p with
    | none => exact h
    | some b => exact st a b (ho a rfl) (hp b rfl) h
/-- a finer and finer relation over n states is still by the n-th step -/
theorem ref_stab {n : Nat} (E : Nat → Nat → Nat → Prop) (hs : ∀ t s s', E t s s' → E t s' s) (hr : ∀ t s, E t s s) (ht : ∀ t s s' s2, E t s s' → E t s' s2 → E t s s2) (mono : ∀ t s s', E (t + 1) s s' → E t s s')
    (step : ∀ t, (∀ s s', s < n → s' < n → E t s s' → E (t + 1) s s') → ∀ s s', s < n → s' < n → E (t + 1) s s' → E (t + 2) s s') : ∀ j s s', s < n → s' < n → E n s s' → E (n + j) s s' := by
  have ⟨t0, ht0, st0⟩ : ∃ t0, t0 ≤ n ∧ ∀ s s', s < n → s' < n → E t0 s s' → E (t0 + 1) s s' := by
    refine Classical.byContradiction fun no => ?_
    have no : ∀ t, t ≤ n → ∃ s s', s < n ∧ s' < n ∧ E t s s' ∧ ¬ E (t + 1) s s' := fun t h => by
      refine Classical.byContradiction fun z => no ⟨t, h, fun s s' h1 h2 e => Classical.byContradiction fun y => z ⟨s, s', h1, h2, e, y⟩⟩
    obtain ⟨rp, hrp⟩ : ∃ rp : Nat → Nat → Bool, ∀ t s, rp t s = true ↔ ∀ s', s' < s → ¬ E t s' s := by
      classical
      exact ⟨fun t s => decide (∀ s', s' < s → ¬ E t s' s), fun t s => decide_eq_true_iff⟩
    have least : ∀ t s, ∃ r, r ≤ s ∧ E t r s ∧ rp t r = true := fun t s => by
      induction s using Nat.strongRecOn with
      | _ s ih =>
        by_cases c : rp t s = true
        · exact ⟨s, Nat.le_refl _, hr t s, c⟩
        · have : ∃ s', s' < s ∧ E t s' s := Classical.byContradiction fun z => c ((hrp t s).mpr fun s' h e => z ⟨s', h, e⟩)
          obtain ⟨s', h, e⟩ := this
          obtain ⟨r, h1, h2, h3⟩ := ih s' h
          exact ⟨r, by omega, ht t r s' s h2 e, h3⟩
    have uniq : ∀ t r r', rp t r = true → rp t r' = true → E t r r' → r = r' := fun t r r' h1 h2 e => by
      rcases Nat.lt_trichotomy r r' with h | h | h
      · exact absurd e ((hrp t r').mp h2 r h)
      · exact h
      · exact absurd (hs t r r' e) ((hrp t r).mp h1 r' h)
    have big : ∀ t, t ≤ n → t + 1 ≤ cnt (rp t) n := fun t => by
      induction t with
      | zero =>
        intro _
        obtain ⟨s, s', h1, _, _, _⟩ := no 0 (Nat.zero_le _)
        have := cnt_lt (al := fun _ => false) (bl := rp 0) (n := n) (x := 0) (fun s _ h => by cases h) (by omega) rfl ((hrp 0 0).mpr fun s' h => absurd h (Nat.not_lt_zero _))
        omega
      | succ t ih =>
        intro h
        have ih := ih (by omega)
        obtain ⟨s, s', h1, h2, e1, e2⟩ := no t (by omega)
        have up : ∀ x, rp t x = true → rp (t + 1) x = true := fun x hx => (hrp (t + 1) x).mpr fun s' h e => (hrp t x).mp hx s' h (mono t s' x e)
        have ⟨x, hx, f1, f2⟩ : ∃ x, x < n ∧ rp t x = false ∧ rp (t + 1) x = true := by
          refine Classical.byContradiction fun z => ?_
          have z : ∀ x, x < n → rp (t + 1) x = true → rp t x = true := fun x hx h => by
            cases e : rp t x with
            | true => rfl
            | false => exact absurd ⟨x, hx, e, h⟩ z
          obtain ⟨r, r1, r2, r3⟩ := least (t + 1) s
          obtain ⟨r', r1', r2', r3'⟩ := least (t + 1) s'
          have q := uniq t r r' (z r (by omega) r3) (z r' (by omega) r3') (ht t _ _ _ (ht t _ _ _ (mono t _ _ r2) e1) (hs t _ _ (mono t _ _ r2')))
          subst q
          exact e2 (ht (t + 1) _ _ _ (hs (t + 1) _ _ r2) r2')
        have := cnt_lt (al := rp t) (bl := rp (t + 1)) (n := n) (fun s _ h => up s h) hx f1 f2
        omega
    have := big n (Nat.le_refl _)
    have := cnt_le (rp n) n
    omega
  have st : ∀ j s s', s < n → s' < n → E (t0 + j) s s' → E (t0 + j + 1) s s' := fun j => by
    induction j with
    | zero => exact st0
    | succ j ih => exact step (t0 + j) ih
  intro j
  induction j with
  | zero => exact fun s s' _ _ h => h
  | succ j ih =>
    intro s s' h1 h2 e
    have := st (n + j - t0) s s' h1 h2 (by rw [show t0 + (n + j - t0) = n + j by omega]; exact ih s s' h1 h2 e)
    rw [show t0 + (n + j - t0) + 1 = n + (j + 1) by omega] at this
    exact this
theorem eqt_stab {T : Tbl} {m : Nat} {c : Nat → Nat} (wf : Wf T m) {s s' : Nat} (hs : s < T.length) (hs' : s' < T.length) (h : Eqt T m c T.length s s') : ∀ t, Eqt T m c t s s' := by
  have dn : ∀ j t, Eqt T m c (t + j) s s' → Eqt T m c t s s' := fun j => by
    induction j with
    | zero => exact fun t h => h
    | succ j ih => exact fun t h => ih t h.1
  intro t
  have key := ref_stab (n := T.length) (Eqt T m c) Eqt.symm Eqt.refl Eqt.trans (fun t s s' h => h.1) (fun t st s s' h1 h2 e => ⟨e, fun k hk => mt_dec (e.2 k hk) T.length (fun e h => (nx_lt wf h).1) (fun e h => (nx_lt wf h).1) fun a b ha hb => st a b ha hb⟩) t s s' hs hs' h
  rw [Nat.add_comm] at key
  exact dn T.length t key
theorem eqt_leq {T : Tbl} {m : Nat} {c : Nat → Nat} {G : Nat → Prop} (wf : Wf T m) (lv : ∀ s, s < T.length → Liv T G s) (hc : ∀ s s', s < T.length → s' < T.length → (c s = c s' ↔ (G s ↔ G s'))) {s s' : Nat} (hs : s < T.length) (hs' : s' < T.length) : (∀ t, Eqt T m c t s s') ↔ Leq T G s s' := by
  have acc0 : ∀ s, Acc T G s [] ↔ G s := fun s => ⟨fun ⟨t, e, g⟩ => (by cases e; exact g), fun g => ⟨s, rfl, g⟩⟩
  have accS : ∀ s k w, Acc T G s (k :: w) ↔ ∃ e, nx T s k = some e ∧ Acc T G e w := fun s k w => by
    show (∃ t, rn T (nx T s k) w = some t ∧ G t) ↔ _
    cases e : nx T s k with
    | none => exact ⟨fun ⟨t, h, _⟩ => (by rw [rn_none] at h; cases h), fun ⟨e, h, _⟩ => (by cases h)⟩
    | some a => exact ⟨fun h => ⟨a, rfl, h⟩, fun ⟨b, h1, h2⟩ => (by cases h1; exact h2)⟩
  constructor
  · intro h w
    induction w generalizing s s' with
    | nil => rw [acc0, acc0]; exact (hc s s' hs hs').mp (h 0)
    | cons k w ih =>
      rw [accS, accS]
      by_cases hk : k < m
      · have h := fun t => (h (t + 1)).2 k hk
        cases e1 : nx T s k with
        | none =>
          cases e2 : nx T s' k with
          | none => exact ⟨fun ⟨e, a, _⟩ => (by cases a), fun ⟨e, a, _⟩ => (by cases a)⟩
          | some b =>
            have := h 0
            rw [e1, e2] at this
            exact this.elim
        | some a =>
          cases e2 : nx T s' k with
          | none =>
            have := h 0
            rw [e1, e2] at this
            exact this.elim
          | some b =>
            have h : ∀ t, Eqt T m c t a b := fun t => by
              have := h t
              rw [e1, e2] at this
              exact this
            have := ih (nx_lt wf e1).1 (nx_lt wf e2).1 h
            exact ⟨fun ⟨e, x, y⟩ => (by cases x; exact ⟨b, rfl, this.mp y⟩), fun ⟨e, x, y⟩ => (by cases x; exact ⟨a, rfl, this.mpr y⟩)⟩
      · exact ⟨fun ⟨e, x, _⟩ => absurd (nx_lt wf x).2.1 hk, fun ⟨e, x, _⟩ => absurd (nx_lt wf x).2.1 hk⟩
  · intro h t
    induction t generalizing s s' with
    | zero => exact (hc s s' hs hs').mpr (by rw [← acc0, ← acc0]; exact h [])
    | succ t ih =>
      refine ⟨ih hs hs' h, fun k hk => ?_⟩
      have go : ∀ {s s' : Nat}, Leq T G s s' → ∀ e, nx T s k = some e → ∃ e', nx T s' k = some e' := fun h e he => by
        obtain ⟨w, hw⟩ := lv e (nx_lt wf he).1
        obtain ⟨e', h1, _⟩ := (accS _ k w).mp ((h (k :: w)).mp ((accS _ k w).mpr ⟨e, he, hw⟩))
        exact ⟨e', h1⟩
      cases e1 : nx T s k with
      | none =>
        cases e2 : nx T s' k with
        | none => exact trivial
        | some b =>
          obtain ⟨a, ha⟩ := go (fun w => (h w).symm) b e2
          rw [e1] at ha
          cases ha
      | some a =>
        obtain ⟨b, hb⟩ := go h a e1
        rw [hb]
        refine ih (nx_lt wf e1).1 (nx_lt wf hb).1 fun w => ?_
        have := h (k :: w)
        rw [accS, accS] at this
        exact ⟨fun x => (by obtain ⟨e', y, z⟩ := this.mp ⟨a, e1, x⟩; rw [hb] at y; cases y; exact z), fun x => (by obtain ⟨e', y, z⟩ := this.mpr ⟨b, hb, x⟩; rw [e1] at y; cases y; exact z)⟩
/-- without the own class, where all begin alike -/
theorem eqt_own {T : Tbl} {m : Nat} : ∀ (t : Nat) {s s' : Nat}, (∀ k, k < m → mt (Eqt T m (fun _ => 0) t) (nx T s k) (nx T s' k)) → Eqt T m (fun _ => 0) t s s'
  | 0, _, _, _ => rfl
  | t + 1, s, s', h => ⟨eqt_own t fun k hk => (h k hk).mono fun a b z => z.1, fun k hk => (h k hk).mono fun a b z => z.1⟩
/-- rows that keep what lasts, told for the lasting states alone -/
theorem kept_acc' {T T' : Tbl} {A : Nat → Prop} (h0 : 0 < T.length) (hl : T'.length = T.length) (a0 : A 0) (hn : ∀ s, A s → ∀ k e, nx T' s k = some e ↔ nx T s k = some e ∧ A e) (w : List Nat) : (∃ t, rn T' (st T') w = some t) ↔ ∀ u, u <+: w → ∃ t, rn T (st T) u = some t ∧ A t := by
  have e1 : st T = some 0 := if_neg (by omega)
  have e2 : st T' = some 0 := if_neg (by omega)
  rw [e1, e2]
  have key : ∀ (w : List Nat) (s : Nat), A s → ((∃ t, rn T' (some s) w = some t) ↔ ∀ u, u <+: w → ∃ t, rn T (some s) u = some t ∧ A t) := by
    intro w
    induction w with
    | nil =>
      intro s hs
      exact ⟨fun _ u hu => by rw [List.prefix_nil.mp hu]; exact ⟨s, rfl, hs⟩, fun _ => ⟨s, rfl⟩⟩
    | cons k w ih =>
      intro s hs
      constructor
      · rintro ⟨t, e⟩ u hu
        rcases List.prefix_cons_iff.mp hu with rfl | ⟨v, rfl, hv⟩
        · exact ⟨s, rfl, hs⟩
        · have e : rn T' (nx T' s k) w = some t := e
          cases c : nx T' s k with
          | none => rw [c, rn_none] at e; cases e
          | some e' =>
            obtain ⟨c1, c2⟩ := (hn s hs k e').mp c
            rw [c] at e
            obtain ⟨t', h1, h2⟩ := (ih e' c2).mp ⟨t, e⟩ v hv
            exact ⟨t', by show rn T (nx T s k) v = some t'; rw [c1]; exact h1, h2⟩
      · intro h
        obtain ⟨e', h1, h2⟩ := h [k] ⟨w, rfl⟩
        have h1 : rn T (nx T s k) [] = some e' := h1
        have c1 : nx T s k = some e' := by cases c : nx T s k <;> rw [c] at h1 <;> exact h1
        obtain ⟨t, e⟩ := (ih e' h2).mpr fun v hv => by
          obtain ⟨t, h3, h4⟩ := h (k :: v) (List.prefix_cons_iff.mpr (.inr ⟨v, rfl, hv⟩))
          exact ⟨t, by have h3 : rn T (nx T s k) v = some t := h3; rw [c1] at h3; exact h3, h4⟩
        exact ⟨t, by show rn T' (nx T' s k) w = some t; rw [(hn s hs k e').mpr ⟨c1, h2⟩]; exact e⟩
  exact key w 0 a0
/-- one round of the law's own unending states -/
def lst (T : Tbl) (al : Nat → Bool) (s : Nat) : Bool := al s && (T.getD s []).any fun o => match o with
  | none => false
  | some e => al e
def lsn (T : Tbl) (g : Nat → Bool) : Nat → Nat → Bool
  | 0 => g
  | r + 1 => lst T (lsn T g r)
theorem lst_iff {T : Tbl} {al : Nat → Bool} {s : Nat} : lst T al s = true ↔ al s = true ∧ ∃ k e, nx T s k = some e ∧ al e = true := by
  unfold lst
  rw [Bool.and_eq_true, List.any_eq_true]
  refine and_congr_right fun _ => ⟨fun ⟨o, ho, h⟩ => ?_, fun ⟨k, e, h1, h2⟩ => ?_⟩
  · cases o with
    | none => cases h
    | some e =>
      obtain ⟨k, hk, e1⟩ := List.getElem_of_mem ho
      refine ⟨k, e, ?_, h⟩
      unfold nx
      rw [List.getD_eq_getElem?_getD, List.getElem?_eq_getElem hk, e1]
      rfl
  · obtain ⟨r, e1, e2⟩ := nx_mem h1
    refine ⟨some e, ?_, h2⟩
    rw [List.getD_eq_getElem?_getD, e1]
    exact List.mem_of_getElem? e2
theorem lsn_la {T : Tbl} {m : Nat} {g : Nat → Bool} {G : Nat → Prop} (wf : Wf T m) (g0 : ∀ s, g s = true → s < T.length) (hg : ∀ s, s < T.length → (g s = true ↔ G s)) {s : Nat} (hs : s < T.length) : lsn T g T.length s = true ↔ La T G s := by
  have up : ∀ r s, s < T.length → La T G s → lsn T g r s = true := fun r => by
    induction r with
    | zero => exact fun s hs h => (hg s hs).mpr h.out.1
    | succ r ih =>
      intro s hs h
      obtain ⟨_, k, e, h1, h2⟩ := h.out
      exact lst_iff.mpr ⟨ih s hs h, k, e, h1, ih e (nx_lt wf h1).1 h2⟩
  have dn : ∀ r s, lsn T g r s = true → g s = true := fun r => by
    induction r with
    | zero => exact fun s h => h
    | succ r ih => exact fun s h => ih s (lst_iff.mp h).1
  have st : ∀ r, r ≤ cnt (fun s => !lsn T g r s) T.length ∨ ∀ s, s < T.length → lsn T g r s = true → ∃ k e, nx T s k = some e ∧ lsn T g r e = true := fun r => by
    induction r with
    | zero => exact .inl (Nat.zero_le _)
    | succ r ih =>
      refine round_out (r := r) (a0 := lsn T g r) (al := lsn T g (r + 1)) wf ih (fun s h => (lst_iff.mp h).1) (fun h s => ?_) (fun s _ h => (lst_iff.mp h).2)
      show lst T (lsn T g r) s = lsn T g r s
      cases c : lsn T g r s with
      | false =>
        cases d : lst T (lsn T g r) s with
        | false => rfl
        | true => rw [(lst_iff.mp d).1] at c; cases c
      | true =>
        exact lst_iff.mpr ⟨c, h s (g0 s (dn _ _ c)) c⟩
  constructor
  · intro h
    have key : ∀ s, s < T.length → lsn T g T.length s = true → ∃ k e, nx T s k = some e ∧ lsn T g T.length e = true := by
      rcases st T.length with h1 | h1
      · intro s hs h
        have := cnt_all h1 s hs
        rw [h] at this
        cases this
      · exact h1
    refine ⟨fun x => x < T.length ∧ lsn T g T.length x = true, ⟨hs, h⟩, fun x hx => ⟨(hg x hx.1).mp (dn _ _ hx.2), ?_⟩⟩
    obtain ⟨k, e, h1, h2⟩ := key x hx.1 hx.2
    exact ⟨k, e, h1, (nx_lt wf h1).1, h2⟩
  · exact up T.length s hs
/-- the law's own unending table -/
def unT (T : Tbl) (al : Nat → Bool) : Tbl := (List.range T.length).map fun s => if al s = true then (T.getD s []).map (kp al) else List.replicate 4 none
theorem unT_len (T : Tbl) (al : Nat → Bool) : (unT T al).length = T.length := by unfold unT; rw [List.length_map, List.length_range]
theorem unT_nx {T : Tbl} {al : Nat → Bool} {s : Nat} (hs : s < T.length) (h : al s = true) (k e : Nat) : nx (unT T al) s k = some e ↔ nx T s k = some e ∧ al e = true := by
  have e1 : (unT T al).getD s [] = (T.getD s []).map (kp al) := by
    rw [List.getD_eq_getElem?_getD]
    unfold unT
    rw [List.getElem?_map, List.getElem?_range hs]
    show (if al s = true then _ else _) = _
    rw [if_pos h]
  unfold nx
  rw [e1]
  generalize T.getD s [] = row
  rw [List.getD_eq_getElem?_getD, List.getD_eq_getElem?_getD, List.getElem?_map]
  cases c : row[k]? with
  | none =>
    show none = some e ↔ none = some e ∧ _
    exact ⟨fun z => (by cases z), fun z => (by cases z.1)⟩
  | some o => exact kp_some
theorem unT_wf {T : Tbl} {al : Nat → Bool} (wf : Wf T 4) : Wf (unT T al) 4 := by
  have row : ∀ s, s < T.length → (T.getD s []) ∈ T := fun s hs => by
    rw [List.getD_eq_getElem?_getD, List.getElem?_eq_getElem hs]
    exact List.getElem_mem hs
  refine ⟨fun r hr => ?_, fun r hr e he => ?_⟩
  · obtain ⟨s, hs, rfl⟩ := List.mem_map.mp hr
    have hs := List.mem_range.mp hs
    split
    · rw [List.length_map]
      exact wf.row _ (row s hs)
    · rw [List.length_replicate]
  · obtain ⟨s, hs, rfl⟩ := List.mem_map.mp hr
    have hs := List.mem_range.mp hs
    have he : some e ∈ (if al s = true then (T.getD s []).map (kp al) else List.replicate 4 none) := he
    rw [unT_len]
    split at he
    · obtain ⟨o, ho, h1⟩ := List.mem_map.mp he
      have := (kp_some.mp h1).1
      subst this
      exact wf.ent _ (row s hs) e ho
    · have := (List.mem_replicate.mp he).2
      cases this
theorem unT_acc {T : Tbl} {G : Nat → Prop} {al : Nat → Bool} (wf : Wf T 4) (h0 : 0 < T.length) (ha : ∀ s, s < T.length → (al s = true ↔ La T G s)) (a0 : al 0 = true) (w : List Nat) : AccS (unT T al) (fun s => s ∈ List.range (unT T al).length) w ↔ UnL (AccS T G) w := by
  have key := kept_acc' (A := fun s => s < T.length ∧ al s = true) h0 (unT_len T al) ⟨h0, a0⟩ (fun s hs k e => ⟨fun h => by
    obtain ⟨h1, h2⟩ := (unT_nx hs.1 hs.2 k e).mp h
    exact ⟨h1, (nx_lt wf h1).1, h2⟩, fun h => (unT_nx hs.1 hs.2 k e).mpr ⟨h.1, h.2.2⟩⟩) w
  have e1 : AccS (unT T al) (fun s => s ∈ List.range (unT T al).length) w ↔ ∃ t, rn (unT T al) (st (unT T al)) w = some t :=
    ⟨fun ⟨t, e, _⟩ => ⟨t, e⟩, fun ⟨t, e⟩ => ⟨t, e, List.mem_range.mpr (rn_lt (unT_wf wf) (st_lt' _) e)⟩⟩
  rw [e1, key, unl_iff]
  constructor
  · intro h u hu
    obtain ⟨t, e, h1, h2⟩ := h u hu
    exact ⟨t, e, (ha t h1).mp h2⟩
  · intro h u hu
    obtain ⟨t, e, h2⟩ := h u hu
    have h1 := rn_lt wf (st_lt' _) e
    exact ⟨t, e, h1, (ha t h1).mpr h2⟩
theorem un_none {T : Tbl} {G : Nat → Prop} (h : T.length = 0 ∨ ¬ La T G 0) (w : List Nat) : AccS [] (fun s => s ∈ List.range 0) w ↔ UnL (AccS T G) w :=
  ⟨fun ⟨t, e, _⟩ => (by rw [show st [] = none from rfl, rn_none] at e; cases e), fun z => absurd z (unl_empty (h.imp List.length_eq_zero_iff.mp id) w)⟩
end Mc
set_option linter.all false
set_option maxRecDepth 100000
namespace Mc
/-! ### the law's own classes -/
def mkI (cl : Nat → Nat) : Option Nat → Int
  | none => -1
  | some e => (cl e : Int)
theorem getD_mem {T : Tbl} {s : Nat} (hs : s < T.length) : T.getD s [] ∈ T := by
  rw [List.getD_eq_getElem?_getD, List.getElem?_eq_getElem hs]
  exact List.getElem_mem hs
theorem mk_step {T : Tbl} {m : Nat} (wf : Wf T m) {cl : Nat → Nat} {r : Nat} (h : ∀ s s', s < T.length → s' < T.length → (cl s = cl s' ↔ Eqt T m (fun _ => 0) r s s')) {s s' : Nat} (hs : s < T.length) (hs' : s' < T.length) : (T.getD s []).map (mkI cl) = (T.getD s' []).map (mkI cl) ↔ Eqt T m (fun _ => 0) (r + 1) s s' := by
  have l1 := wf.row _ (getD_mem hs)
  have l2 := wf.row _ (getD_mem hs')
  have one : ∀ k, (mkI cl (nx T s k) = mkI cl (nx T s' k) ↔ mt (Eqt T m (fun _ => 0) r) (nx T s k) (nx T s' k)) := fun k => by
    cases e1 : nx T s k with
    | none =>
      cases e2 : nx T s' k with
      | none => exact ⟨fun _ => trivial, fun _ => rfl⟩
      | some b => exact ⟨fun z => (by have z : (-1 : Int) = (cl b : Int) := z; omega), fun z => z.elim⟩
    | some a =>
      cases e2 : nx T s' k with
      | none => exact ⟨fun z => (by have z : (cl a : Int) = -1 := z; omega), fun z => z.elim⟩
      | some b =>
        rw [show mt (Eqt T m (fun _ => 0) r) (some a) (some b) ↔ Eqt T m (fun _ => 0) r a b from Iff.rfl, ← h a b (nx_lt wf e1).1 (nx_lt wf e2).1]
        exact ⟨fun z => (by have z : (cl a : Int) = (cl b : Int) := z; omega), fun z => (by show (cl a : Int) = (cl b : Int); rw [z])⟩
  have get : ∀ {s : Nat}, s < T.length → ∀ k, k < m → ((T.getD s []).map (mkI cl))[k]? = some (mkI cl (nx T s k)) := fun {s} hs k hk => by
    have l := wf.row _ (getD_mem hs)
    rw [List.getElem?_map]
    unfold nx
    rw [List.getD_eq_getElem?_getD (l := T.getD s []), List.getElem?_eq_getElem (by omega)]
    rfl
  constructor
  · intro e
    have all : ∀ k, k < m → mt (Eqt T m (fun _ => 0) r) (nx T s k) (nx T s' k) := fun k hk => (one k).mp (by
      have h1 := get hs k hk
      have h2 := get hs' k hk
      rw [e, h2] at h1
      injection h1 with h1
      exact h1.symm)
    exact ⟨eqt_own r all, all⟩
  · intro e
    refine List.ext_getElem? fun k => ?_
    by_cases hk : k < m
    · rw [get hs k hk, get hs' k hk, (one k).mpr (e.2 k hk)]
    · rw [List.getElem?_eq_none (by rw [List.length_map]; omega), List.getElem?_eq_none (by rw [List.length_map]; omega)]
/-- the place of the first equal one -/
def fst' {α : Type} [DecidableEq α] (ms : List α) (x : α) : Nat := ms.findIdx fun y => decide (y = x)
theorem fst_at {α : Type} [DecidableEq α] {ms : List α} {x : α} (h : x ∈ ms) : ms[fst' ms x]? = some x := by
  have hl : fst' ms x < ms.length := List.findIdx_lt_length_of_exists ⟨x, h, by simp⟩
  have := List.findIdx_getElem (xs := ms) (p := fun y => decide (y = x)) (w := hl)
  rw [List.getElem?_eq_getElem hl]
  exact congrArg some (of_decide_eq_true this)
theorem fst_no {α : Type} [DecidableEq α] {ms : List α} {x z : α} {j : Nat} (hj : j < fst' ms x) (h : ms[j]? = some z) : z ≠ x := by
  obtain ⟨hl, e⟩ := List.getElem?_eq_some_iff.mp h
  have := List.not_of_lt_findIdx (xs := ms) (p := fun y => decide (y = x)) (i := j) hj
  have this : decide (ms[j] = x) = false := by simpa using this
  rw [← e]
  exact of_decide_eq_false this
theorem fst_iff {α : Type} [DecidableEq α] {ms : List α} {x y : α} (hx : x ∈ ms) (hy : y ∈ ms) : fst' ms x = fst' ms y ↔ x = y :=
  ⟨fun e => by
    have h1 := fst_at hx
    rw [e, fst_at hy] at h1
    injection h1 with h1
    exact h1.symm, fun e => by rw [e]⟩
theorem fst_lt {α : Type} [DecidableEq α] {ms : List α} {x : α} (h : x ∈ ms) : fst' ms x < ms.length := (List.getElem?_eq_some_iff.mp (fst_at h)).1
/-- classes after as many rounds as there are states -/
theorem cls_leq {T : Tbl} {m : Nat} (wf : Wf T m) {cl : Nat → Nat} (h : ∀ s s', s < T.length → s' < T.length → (cl s = cl s' ↔ Eqt T m (fun _ => 0) T.length s s')) {s s' : Nat} (hs : s < T.length) (hs' : s' < T.length) : cl s = cl s' ↔ Leq T (fun j => j ∈ List.range T.length) s s' := by
  rw [h s s' hs hs', ← eqt_leq (c := fun _ => 0) (m := m) wf (fun s hs => ⟨[], s, rfl, List.mem_range.mpr hs⟩) (fun s s' h1 h2 => ⟨fun _ => ⟨fun _ => List.mem_range.mpr h2, fun _ => List.mem_range.mpr h1⟩, fun _ => rfl⟩) hs hs']
  exact ⟨fun e => eqt_stab wf hs hs' e, fun e => e _⟩
end Mc
namespace Mc
theorem fst_new {α : Type} [DecidableEq α] {l : List α} {x : α} (h : x ∉ l) : fst' (l ++ [x]) x = l.length := by
  have m : x ∈ l ++ [x] := List.mem_append_right _ List.mem_cons_self
  have h1 := fst_at m
  have h2 := fst_lt m
  rw [List.length_append] at h2
  have h2 : fst' (l ++ [x]) x < l.length + 1 := h2
  rcases Nat.lt_or_ge (fst' (l ++ [x]) x) l.length with h3 | h3
  · rw [List.getElem?_append_left h3] at h1
    exact absurd (List.mem_of_getElem? h1) h
  · omega
end Mc
set_option linter.all false
set_option maxRecDepth 100000
namespace Mc
/-! ### states are numbered as they are first met -/
def Ord (R : Tbl) : Prop := ∀ j : Nat, 0 < j → j < R.length → ∃ i k : Nat, i < j ∧ nx R i k = some j ∧ ∀ (i' k' j' : Nat), (i' < i ∨ i' = i ∧ k' < k) → nx R i' k' = some j' → j' < j
theorem Nf.ord {T : Tbl} {G : Nat → Prop} {m : Nat} {R : Tbl} {g : List Nat} (h : Nf T G m R g) : Ord R := by
  intro j j0 jl
  rcases h with ⟨rfl, _⟩ | ⟨met, h⟩
  · exact absurd jl (Nat.not_lt_zero _)
  · exact h.ord j j0 (by rw [← h.len]; exact jl)
theorem Nf.asc {T : Tbl} {G : Nat → Prop} {m : Nat} {R : Tbl} {g : List Nat} (h : Nf T G m R g) : g.Pairwise (· < ·) := by
  rcases h with ⟨_, rfl, _⟩ | ⟨met, h⟩
  · exact .nil
  · exact h.asc
structure MO (R : Tbl) (i k e : Nat) : Prop where
  pos : 0 < e
  le : R.length ≠ 0 → e ≤ R.length
  all : ∀ i' k' j', (i' < i ∨ i' = i ∧ k' < k) → nx R i' k' = some j' → j' < e
theorem MO.state {R : Tbl} (o : Ord R) {i k e : Nat} (h : MO R i k e) (hi : i < R.length) : i < e := by
  refine Nat.lt_of_not_le fun c => ?_
  obtain ⟨i1, k1, l1, n1, _⟩ := o e h.pos (by omega)
  have := h.all i1 k1 e (.inl (by omega)) n1
  omega
theorem MO.entry {R : Tbl} {m : Nat} (o : Ord R) (wf : Wf R m) {i k e j : Nat} (h : MO R i k e) (n : nx R i k = some j) : j ≤ e := by
  refine Nat.le_of_not_lt fun c => ?_
  have jl := (nx_lt wf n).1
  obtain ⟨i1, k1, l1, n1, a1⟩ := o e h.pos (by omega)
  rcases Nat.lt_trichotomy i1 i with c1 | rfl | c1
  · have := h.all i1 k1 e (.inl c1) n1
    omega
  · rcases Nat.lt_trichotomy k1 k with c2 | rfl | c2
    · have := h.all i1 k1 e (.inr ⟨rfl, c2⟩) n1
      omega
    · rw [n] at n1
      cases n1
      omega
    · have := a1 i1 k j (.inr ⟨rfl, c2⟩) n
      omega
  · have := a1 i k j (.inl c1) n
    omega
theorem MO.keep {R : Tbl} {i k e : Nat} (h : MO R i k e) (n : ∀ j, nx R i k = some j → j < e) : MO R i (k + 1) e := by
  refine ⟨h.pos, h.le, fun i' k' j' c e' => ?_⟩
  rcases c with c | ⟨rfl, c⟩
  · exact h.all i' k' j' (.inl c) e'
  · rcases Nat.lt_or_ge k' k with c2 | c2
    · exact h.all i' k' j' (.inr ⟨rfl, c2⟩) e'
    · obtain rfl : k' = k := by omega
      exact n j' e'
theorem MO.more {R : Tbl} {m i k e : Nat} (wf : Wf R m) (h : MO R i k e) (n : nx R i k = some e) : MO R i (k + 1) (e + 1) := by
  have l := (nx_lt wf n).1
  refine ⟨by omega, fun _ => l, fun i' k' j' c e' => ?_⟩
  rcases c with c | ⟨rfl, c⟩
  · have := h.all i' k' j' (.inl c) e'
    omega
  · rcases Nat.lt_or_ge k' k with c2 | c2
    · have := h.all i' k' j' (.inr ⟨rfl, c2⟩) e'
      omega
    · obtain rfl : k' = k := by omega
      rw [n] at e'
      cases e'
      omega
theorem MO.row {R : Tbl} {m i e : Nat} (wf : Wf R m) (h : MO R i m e) : MO R (i + 1) 0 e := by
  refine ⟨h.pos, h.le, fun i' k' j' c e' => ?_⟩
  have l := (nx_lt wf e').2.1
  refine h.all i' k' j' ?_ e'
  rcases c with c | ⟨_, c⟩
  · rcases Nat.lt_or_ge i' i with c2 | c2
    · exact .inl c2
    · exact .inr ⟨by omega, l⟩
  · omega
theorem MO.fin {R : Tbl} (o : Ord R) {e : Nat} (h : MO R R.length 0 e) (n : R.length ≠ 0) : e = R.length := by
  have l := h.le n
  refine Nat.le_antisymm l (Nat.le_of_not_lt fun c => ?_)
  obtain ⟨i1, k1, l1, n1, _⟩ := o e h.pos c
  have := h.all i1 k1 e (.inl (by omega)) n1
  omega
theorem MO.zero (R : Tbl) : MO R 0 0 1 := ⟨Nat.one_pos, fun h => by omega, fun i' k' j' c e => by omega⟩
/-! ### no two states accept the same texts -/
theorem NfOf.acc {T : Tbl} {G : Nat → Prop} {m : Nat} {R : Tbl} {g met : List Nat} (h : NfOf T G m R g met) {i s : Nat} (es : met[i]? = some s) (w : List Nat) : Acc R (fun j => j ∈ g) i w ↔ Acc T G s w := by
  obtain ⟨b1, b2⟩ := h.sim w i s s es (Leq.refl s)
  constructor
  · rintro ⟨j, e, hj⟩
    obtain ⟨t, t1, e3, e4, e5⟩ := b2 j e
    obtain ⟨s1, hs1, gs1⟩ := (h.good j).mp hj
    rw [e4] at hs1
    cases hs1
    exact ⟨t, e3, e5.good.mpr gs1⟩
  · rintro ⟨t, e, ht⟩
    cases c : rn R (some i) w with
    | none => exact absurd (liv_good ht) (b1 c t e)
    | some j =>
      obtain ⟨t', t1, e3, e4, e5⟩ := b2 j c
      rw [e] at e3
      cases e3
      exact ⟨j, c, (h.good j).mpr ⟨t1, e4, e5.good.mp ht⟩⟩
theorem Nf.apart {T : Tbl} {G : Nat → Prop} {m : Nat} {R : Tbl} {g : List Nat} (h : Nf T G m R g) {i j : Nat} (hi : i < R.length) (hj : j < R.length) (l : Leq R (fun x => x ∈ g) i j) : i = j := by
  rcases h with ⟨rfl, _⟩ | ⟨met, h⟩
  · exact absurd hi (Nat.not_lt_zero _)
  · rw [h.len] at hi hj
    have ei := List.getElem?_eq_getElem hi
    have ej := List.getElem?_eq_getElem hj
    exact h.ap i j _ _ ei ej fun w => ((h.acc ei w).symm.trans (l w)).trans (h.acc ej w)
/-! ### two tables, step by step -/
theorem rn_cns (T : Tbl) (o : Option Nat) (k : Nat) (w : List Nat) : rn T o (k :: w) = rn T (o.bind fun s => nx T s k) w := by
  cases o with
  | none => exact (rn_none T w).symm
  | some s => rfl
def og (G : Nat → Prop) (o : Option Nat) : Prop := ∃ t, o = some t ∧ G t
theorem sim_acc {T T' : Tbl} {G G' : Nat → Prop} (Rl : Option Nat → Option Nat → Prop) (hs : ∀ o o' k, Rl o o' → Rl (o.bind fun s => nx T s k) (o'.bind fun s => nx T' s k)) (hg : ∀ o o', Rl o o' → (og G o ↔ og G' o')) : ∀ (w : List Nat) (o o' : Option Nat), Rl o o' → (og G (rn T o w) ↔ og G' (rn T' o' w))
  | [], o, o', h => hg o o' h
  | k :: w, o, o', h => by
    rw [rn_cns, rn_cns]
    exact sim_acc Rl hs hg w _ _ (hs o o' k h)
theorem accS_og' {T : Tbl} {G : Nat → Prop} {w : List Nat} : AccS T G w ↔ og G (rn T (st T) w) := Iff.rfl
/-! ### pairs of states -/
abbrev PrO := Option Nat × Option Nat
def stp (T T' : Tbl) (p : PrO) (k : Nat) : PrO := (p.1.bind fun s => nx T s k, p.2.bind fun s => nx T' s k)
def rnp (T T' : Tbl) (w : List Nat) : PrO := (rn T (st T) w, rn T' (st T') w)
theorem rn_snc (T : Tbl) (o : Option Nat) (w : List Nat) (k : Nat) : rn T o (w ++ [k]) = (rn T o w).bind fun s => nx T s k := by
  rw [rn_app, rn_cns]
  rfl
theorem rnp_snc (T T' : Tbl) (w : List Nat) (k : Nat) : rnp T T' (w ++ [k]) = stp T T' (rnp T T' w) k := by
  unfold rnp stp
  rw [rn_snc, rn_snc]
structure Bw (T T' : Tbl) (G G' : Nat → Prop) (m : Nat) (ps : List PrO) (at_ k : Nat) : Prop where
  nd : ps.Nodup
  start : ps[0]? = some (st T, st T')
  come : ∀ p ∈ ps, ∃ w, rnp T T' w = p
  flag : ∀ i p, i < at_ → ps[i]? = some p → (og G p.1 ↔ og G' p.2)
  next : ∀ i p j, (i < at_ ∨ i + 1 = at_ ∧ False ∨ i = at_ ∧ j < k) → j < m → ps[i]? = some p → stp T T' p j ∈ ps
theorem Bw.begin_ (T T' : Tbl) (G G' : Nat → Prop) (m : Nat) : Bw T T' G G' m [(st T, st T')] 0 0 :=
  ⟨List.nodup_cons.mpr ⟨List.not_mem_nil, List.nodup_nil⟩, rfl, fun p hp => ⟨[], by rw [List.mem_singleton.mp hp]; rfl⟩, fun i p h => by omega, fun i p j h => by omega⟩
theorem Bw.old {T T' : Tbl} {G G' : Nat → Prop} {m at_ k : Nat} {ps : List PrO} {p : PrO} (h : Bw T T' G G' m ps at_ k) (ep : ps[at_]? = some p) (q : stp T T' p k ∈ ps) : Bw T T' G G' m ps at_ (k + 1) := by
  refine ⟨h.nd, h.start, h.come, h.flag, fun i p' j c hj e => ?_⟩
  rcases c with c | ⟨_, c⟩ | ⟨rfl, c⟩
  · exact h.next i p' j (.inl c) hj e
  · exact c.elim
  · rcases Nat.lt_or_ge j k with c2 | c2
    · exact h.next i p' j (.inr (.inr ⟨rfl, c2⟩)) hj e
    · obtain rfl : j = k := by omega
      rw [ep] at e
      cases e
      exact q
theorem Bw.new {T T' : Tbl} {G G' : Nat → Prop} {m at_ k : Nat} {ps : List PrO} {p : PrO} (h : Bw T T' G G' m ps at_ k) (ep : ps[at_]? = some p) (q : stp T T' p k ∉ ps) : Bw T T' G G' m (ps ++ [stp T T' p k]) at_ (k + 1) := by
  have la := (List.getElem?_eq_some_iff.mp ep).1
  have lf : ∀ i x, i ≤ at_ → (ps ++ [stp T T' p k])[i]? = some x → ps[i]? = some x := fun i x hi e => by
    rwa [List.getElem?_append_left (by omega)] at e
  refine ⟨?_, ?_, fun x hx => ?_, fun i x hi e => h.flag i x hi (lf i x (by omega) e), fun i x j c hj e => ?_⟩
  · rw [List.nodup_append]
    refine ⟨h.nd, List.nodup_cons.mpr ⟨List.not_mem_nil, List.nodup_nil⟩, fun a ha b hb => ?_⟩
    rw [List.mem_singleton.mp hb]
    rintro rfl
    exact q ha
  · rw [List.getElem?_append_left (by omega)]
    exact h.start
  · rcases List.mem_append.mp hx with hx | hx
    · exact h.come x hx
    · obtain ⟨w, e⟩ := h.come p (List.mem_of_getElem? ep)
      exact ⟨w ++ [k], by rw [List.mem_singleton.mp hx, rnp_snc, e]⟩
  · rcases c with c | ⟨_, c⟩ | ⟨rfl, c⟩
    · exact List.mem_append_left _ (h.next i x j (.inl c) hj (lf i x (by omega) e))
    · exact c.elim
    · replace e := lf i x (Nat.le_refl _) e
      rcases Nat.lt_or_ge j k with c2 | c2
      · exact List.mem_append_left _ (h.next i x j (.inr (.inr ⟨rfl, c2⟩)) hj e)
      · obtain rfl : j = k := by omega
        have e9 := ep.symm.trans e
        cases e9
        exact List.mem_append_right _ List.mem_cons_self
theorem Bw.turn {T T' : Tbl} {G G' : Nat → Prop} {m at_ : Nat} {ps : List PrO} {p : PrO} (h : Bw T T' G G' m ps at_ m) (ep : ps[at_]? = some p) (f : og G p.1 ↔ og G' p.2) : Bw T T' G G' m ps (at_ + 1) 0 := by
  refine ⟨h.nd, h.start, h.come, fun i x hi e => ?_, fun i x j c hj e => ?_⟩
  · rcases Nat.lt_or_ge i at_ with c2 | c2
    · exact h.flag i x c2 e
    · obtain rfl : i = at_ := by omega
      rw [ep] at e
      cases e
      exact f
  · refine h.next i x j ?_ hj e
    rcases c with c | ⟨_, c⟩ | ⟨_, c⟩
    · rcases Nat.lt_or_ge i at_ with c2 | c2
      · exact .inl c2
      · exact .inr (.inr ⟨by omega, hj⟩)
    · exact c.elim
    · omega
theorem Bw.same {T T' : Tbl} {G G' : Nat → Prop} {m : Nat} {ps : List PrO} (wf : Wf T m) (wf' : Wf T' m) (h : Bw T T' G G' m ps ps.length 0) (w : List Nat) : AccS T G w ↔ AccS T' G' w := by
  have ng : ∀ {G : Nat → Prop}, ¬ og G none := fun ⟨t, e, _⟩ => by cases e
  refine sim_acc (fun o o' => (o, o') ∈ ps ∨ o = none ∧ o' = none) (fun o o' k c => ?_) (fun o o' c => ?_) w _ _ (.inl (List.mem_of_getElem? h.start))
  · rcases c with c | ⟨rfl, rfl⟩
    · rcases Nat.lt_or_ge k m with hk | hk
      · obtain ⟨i, hi, e⟩ := List.getElem_of_mem c
        exact .inl (h.next i (o, o') k (.inl hi) hk (by rw [List.getElem?_eq_getElem hi, e]))
      · have nn : ∀ {T : Tbl}, Wf T m → ∀ o : Option Nat, (o.bind fun s => nx T s k) = none := fun {T} wf o => by
          cases o with
          | none => rfl
          | some s =>
            show nx T s k = none
            cases e : nx T s k with
            | none => rfl
            | some t => have := (nx_lt wf e).2.1; omega
        exact .inr ⟨nn wf o, nn wf' o'⟩
    · exact .inr ⟨rfl, rfl⟩
  · rcases c with c | ⟨rfl, rfl⟩
    · obtain ⟨i, hi, e⟩ := List.getElem_of_mem c
      exact h.flag i _ hi (by rw [List.getElem?_eq_getElem hi, e])
    · exact ⟨fun z => (ng z).elim, fun z => (ng z).elim⟩
theorem Bw.differ {T T' : Tbl} {G G' : Nat → Prop} {m at_ k : Nat} {ps : List PrO} {p : PrO} (h : Bw T T' G G' m ps at_ k) (ep : ps[at_]? = some p) (f : ¬ (og G p.1 ↔ og G' p.2)) : ¬ ∀ w, AccS T G w ↔ AccS T' G' w := fun all => by
  obtain ⟨w, e⟩ := h.come p (List.mem_of_getElem? ep)
  refine f ?_
  rw [← e]
  exact all w
theorem Bw.lt {T T' : Tbl} {G G' : Nat → Prop} {m at_ k : Nat} {ps : List PrO} (wf : Wf T m) (wf' : Wf T' m) (h : Bw T T' G G' m ps at_ k) {p : PrO} (hp : p ∈ ps) : (∀ s, p.1 = some s → s < T.length) ∧ ∀ s, p.2 = some s → s < T'.length := by
  obtain ⟨w, rfl⟩ := h.come p hp
  exact ⟨fun s e => rn_lt wf (st_lt' T) e, fun s e => rn_lt wf' (st_lt' T') e⟩
theorem sub_len {α : Type} [DecidableEq α] : ∀ {l l' : List α}, l.Nodup → (∀ x ∈ l, x ∈ l') → l.length ≤ l'.length
  | [], _, _, _ => Nat.zero_le _
  | a :: l, l', nd, h => by
    obtain ⟨na, nd⟩ := List.nodup_cons.mp nd
    have ha := h a List.mem_cons_self
    have := sub_len (l := l) (l' := l'.erase a) nd fun x hx => by
      have hx' := h x (List.mem_cons_of_mem _ hx)
      exact (List.mem_erase_of_ne (fun e => na (by rw [← e]; exact hx))).mpr hx'
    rw [List.length_erase_of_mem ha] at this
    have := List.length_pos_of_mem ha
    show l.length + 1 ≤ _
    omega
def cO (n : Nat) (o : Option Nat) : Nat := match o with | none => n | some s => s
theorem Bw.few {T T' : Tbl} {G G' : Nat → Prop} {m at_ k : Nat} {ps : List PrO} (wf : Wf T m) (wf' : Wf T' m) (h : Bw T T' G G' m ps at_ k) : ps.length ≤ (T.length + 1) * (T'.length + 1) := by
  have all : ∀ p ∈ ps, p ∈ ((none :: (List.range T.length).map some).flatMap fun o => (none :: (List.range T'.length).map some).map fun o' => (o, o')) := fun p hp => by
    obtain ⟨h1, h2⟩ := h.lt wf wf' hp
    have ml : ∀ {n : Nat} {o : Option Nat}, (∀ s, o = some s → s < n) → o ∈ none :: (List.range n).map some := fun {n o} c => by
      cases o with
      | none => exact List.mem_cons_self
      | some s => exact List.mem_cons_of_mem _ (List.mem_map.mpr ⟨s, List.mem_range.mpr (c s rfl), rfl⟩)
    exact List.mem_flatMap.mpr ⟨p.1, ml h1, List.mem_map.mpr ⟨p.2, ml h2, rfl⟩⟩
  have := sub_len h.nd all
  rw [List.length_flatMap] at this
  have e : ((none :: (List.range T.length).map some).map fun o => ((none :: (List.range T'.length).map some).map fun o' => (o, o')).length) = List.replicate (T.length + 1) (T'.length + 1) := by
    rw [show (fun o : Option Nat => ((none :: (List.range T'.length).map some).map fun o' => (o, o')).length) = fun _ => T'.length + 1 from funext fun o => by rw [List.length_map, List.length_cons, List.length_map, List.length_range], List.map_const', List.length_cons, List.length_map, List.length_range]
  rw [e, List.sum_replicate_nat] at this
  exact this
end Mc
set_option linter.all false
set_option maxRecDepth 100000
namespace Mc
/-! ### the second table -/
/-- numbers turned: the start stays -/
def tau (n s : Nat) : Nat := if s = 0 then 0 else n + 3 - s
theorem tau_lt {n s : Nat} (h : s < n + 3) : tau n s < n + 3 := by unfold tau; split <;> omega
theorem tau_tau {n s : Nat} (h : s < n + 3) : tau n (tau n s) = s := by unfold tau; split <;> (try split) <;> omega
theorem tau_inj {n s t : Nat} (hs : s < n + 3) (ht : t < n + 3) (e : tau n s = tau n t) : s = t := by rw [← tau_tau hs, e, tau_tau ht]
/-- the place in the first table -/
def prS (n d s : Nat) : Option Nat := if s < n then some s else if s = n then some d else none
/-- an entry and what stands in its place -/
inductive Er (n d : Nat) : Option Nat → Option Nat → Prop
  | dead : Er n d none (some (n + 1))
  | dbl : Er n d (some d) (some n)
  | own {o : Option Nat} : Er n d o o
structure Sec (T U : Tbl) (m d : Nat) : Prop where
  len : U.length = T.length + 3
  row : ∀ r ∈ U, r.length = m
  ent : ∀ r ∈ U, ∀ e, some e ∈ r → e < T.length + 3
  er : ∀ s s', prS T.length d s = some s' → ∀ k, k < m → Er T.length d (nx T s' k) (nx U s k)
  dead : ∀ k, k < m → nx U (T.length + 1) k = some (T.length + 1)
def trn (n : Nat) (U : Tbl) : Tbl := (List.range (n + 3)).map fun t => (U.getD (tau n t) []).map fun o => o.map (tau n)
theorem trn_len (n : Nat) (U : Tbl) : (trn n U).length = n + 3 := by unfold trn; rw [List.length_map, List.length_range]
theorem trn_wf {T U : Tbl} {m d : Nat} (h : Sec T U m d) : Wf (trn T.length U) m := by
  have mem : ∀ t, t < T.length + 3 → U.getD (tau T.length t) [] ∈ U := fun t ht => by
    have := tau_lt ht
    rw [List.getD_eq_getElem?_getD, List.getElem?_eq_getElem (by rw [h.len]; exact this)]
    exact List.getElem_mem _
  refine ⟨fun r hr => ?_, fun r hr e he => ?_⟩
  · obtain ⟨t, ht, rfl⟩ := List.mem_map.mp hr
    rw [List.length_map]
    exact h.row _ (mem t (List.mem_range.mp ht))
  · obtain ⟨t, ht, rfl⟩ := List.mem_map.mp hr
    obtain ⟨o, ho, eo⟩ := List.mem_map.mp he
    cases o with
    | none => cases eo
    | some x =>
      cases eo
      rw [trn_len]
      exact tau_lt (h.ent _ (mem t (List.mem_range.mp ht)) x ho)
theorem trn_nx {T U : Tbl} {m d : Nat} (h : Sec T U m d) {t : Nat} (ht : t < T.length + 3) (k : Nat) : nx (trn T.length U) t k = (nx U (tau T.length t) k).map (tau T.length) := by
  unfold nx trn
  rw [List.getD_eq_getElem?_getD (l := List.map _ _), List.getElem?_map, List.getElem?_range ht]
  show ((U.getD (tau T.length t) []).map fun o => o.map (tau T.length)).getD k none = _
  rw [List.getD_eq_getElem?_getD, List.getElem?_map, List.getD_eq_getElem?_getD (l := U.getD _ _)]
  cases (U.getD (tau T.length t) [])[k]? <;> rfl
/-- the good states of the second table -/
def sgd (n d : Nat) (g : List Nat) : List Nat := (g ++ [n + 2] ++ if d ∈ g then [n] else []).map (tau n)
theorem sec_acc {T U : Tbl} {m d : Nat} {g : List Nat} (h0 : 0 < T.length) (hd : d < T.length) (wf : Wf T m) (hg : ∀ s ∈ g, s < T.length) (h : Sec T U m d) (w : List Nat) : AccS (trn T.length U) (fun s => s ∈ sgd T.length d g) w ↔ AccS T (fun s => s ∈ g) w := by
  have wfV := trn_wf h
  have st1 : st (trn T.length U) = some 0 := if_neg (by rw [trn_len]; omega)
  have st2 : st T = some 0 := if_neg (by omega)
  refine sim_acc (fun o o' => match o with | none => o' = none | some t => t < T.length + 3 ∧ tau T.length t ≤ T.length + 1 ∧ o' = prS T.length d (tau T.length t)) (fun o o' k c => ?_) (fun o o' c => ?_) w _ _ ?_
  · cases o with
    | none =>
      have c : o' = none := c
      subst c
      exact rfl
    | some t =>
      obtain ⟨c1, c2, c3⟩ := c
      subst c3
      show (match nx (trn T.length U) t k with | none => _ = none | some t => _)
      rcases Nat.lt_or_ge k m with hk | hk
      · rw [trn_nx h c1]
        rcases Nat.lt_or_ge T.length (tau T.length t) with c4 | c4
        · obtain e4 : tau T.length t = T.length + 1 := by omega
          rw [e4, h.dead k hk]
          have e5 : prS T.length d (T.length + 1) = none := by unfold prS; rw [if_neg (by omega), if_neg (by omega)]
          have e6 : tau T.length (tau T.length (T.length + 1)) = T.length + 1 := tau_tau (by omega)
          refine ⟨tau_lt (by omega), by rw [e6]; exact Nat.le_refl _, ?_⟩
          rw [e6, e5]
          rfl
        · obtain ⟨s', es⟩ : ∃ s', prS T.length d (tau T.length t) = some s' := by
            unfold prS
            split
            · exact ⟨_, rfl⟩
            · rw [if_pos (by omega)]
              exact ⟨_, rfl⟩
          rw [es]
          have er := h.er _ _ es k hk
          show (match (nx U (tau T.length t) k).map (tau T.length) with | none => nx T s' k = none | some t => t < T.length + 3 ∧ tau T.length t ≤ T.length + 1 ∧ nx T s' k = prS T.length d (tau T.length t))
          generalize e1 : nx T s' k = o1 at er
          generalize e2 : nx U (tau T.length t) k = o2 at er
          cases er with
          | dead =>
            have e6 : tau T.length (tau T.length (T.length + 1)) = T.length + 1 := tau_tau (by omega)
            refine ⟨tau_lt (by omega), by rw [e6]; exact Nat.le_refl _, ?_⟩
            rw [e6]
            unfold prS
            rw [if_neg (by omega), if_neg (by omega)]
          | dbl =>
            have e6 : tau T.length (tau T.length T.length) = T.length := tau_tau (by omega)
            refine ⟨tau_lt (by omega), by rw [e6]; omega, ?_⟩
            rw [e6]
            unfold prS
            rw [if_neg (by omega), if_pos rfl]
          | own =>
            cases o1 with
            | none => exact rfl
            | some e =>
              have le := (nx_lt wf e1).1
              have e6 : tau T.length (tau T.length e) = e := tau_tau (by omega)
              refine ⟨tau_lt (by omega), by rw [e6]; omega, ?_⟩
              rw [e6]
              unfold prS
              rw [if_pos le]
      · have n1 : nx (trn T.length U) t k = none := by
          cases e : nx (trn T.length U) t k with
          | none => rfl
          | some x => have := (nx_lt wfV e).2.1; omega
        rw [n1]
        cases e : prS T.length d (tau T.length t) with
        | none => rfl
        | some s =>
          show nx T s k = none
          cases e2 : nx T s k with
          | none => rfl
          | some x => have := (nx_lt wf e2).2.1; omega
  · cases o with
    | none =>
      have c : o' = none := c
      subst c
      exact ⟨fun ⟨t, e, _⟩ => (by cases e), fun ⟨t, e, _⟩ => (by cases e)⟩
    | some t =>
      obtain ⟨c1, c2, c3⟩ := c
      subst c3
      have e1 : og (fun s => s ∈ sgd T.length d g) (some t) ↔ tau T.length t ∈ (g ++ [T.length + 2] ++ if d ∈ g then [T.length] else []) := by
        constructor
        · rintro ⟨t', et, h⟩
          cases et
          obtain ⟨s, hs, e⟩ := List.mem_map.mp h
          have ls : s < T.length + 3 := by
            rcases List.mem_append.mp hs with hs | hs
            · rcases List.mem_append.mp hs with hs | hs
              · have := hg s hs
                omega
              · rw [List.mem_singleton.mp hs]
                omega
            · split at hs
              · rw [List.mem_singleton.mp hs]
                omega
              · cases hs
          rw [← e, tau_tau ls]
          exact hs
        · intro h
          exact ⟨t, rfl, List.mem_map.mpr ⟨_, h, tau_tau c1⟩⟩
      rw [e1]
      generalize tau T.length t = s at c2
      unfold prS
      have g2 : s ∈ (g ++ [T.length + 2] ++ if d ∈ g then [T.length] else []) ↔ s ∈ g ∨ s = T.length ∧ d ∈ g := by
        rw [List.mem_append, List.mem_append, List.mem_singleton]
        constructor
        · rintro ((h | h) | h)
          · exact .inl h
          · omega
          · split at h
            · exact .inr ⟨List.mem_singleton.mp h, ‹_›⟩
            · cases h
        · rintro (h | ⟨h1, h2⟩)
          · exact .inl (.inl h)
          · rw [if_pos h2]
            exact .inr (List.mem_singleton.mpr h1)
      rw [g2]
      by_cases c4 : s < T.length
      · rw [if_pos c4]
        constructor
        · rintro (h | ⟨h, _⟩)
          · exact ⟨s, rfl, h⟩
          · omega
        · rintro ⟨s', et, h⟩
          cases et
          exact .inl h
      · rw [if_neg c4]
        by_cases c5 : s = T.length
        · rw [if_pos c5]
          constructor
          · rintro (h | ⟨_, h⟩)
            · have := hg s h
              omega
            · exact ⟨d, rfl, h⟩
          · rintro ⟨s', et, h⟩
            cases et
            exact .inr ⟨c5, h⟩
        · rw [if_neg c5]
          constructor
          · rintro (h | ⟨h, _⟩)
            · have := hg s h
              omega
            · exact absurd h c5
          · rintro ⟨_, h, _⟩
            cases h
  · rw [st1, st2]
    refine ⟨by omega, by show 0 ≤ _; omega, ?_⟩
    show some 0 = prS T.length d 0
    unfold prS
    rw [if_pos h0]
/-! ### the ring -/
def rgT (n m : Nat) : Tbl := (List.range n).map fun i => (List.range m).map fun j => some ((i + j + 1) % n)
theorem rgT_len (n m : Nat) : (rgT n m).length = n := by unfold rgT; rw [List.length_map, List.length_range]
theorem rgT_nx {n m i j : Nat} (hi : i < n) (hj : j < m) : nx (rgT n m) i j = some ((i + j + 1) % n) :=
  nx_at (r := (List.range m).map fun j => some ((i + j + 1) % n)) (by unfold rgT; rw [List.getElem?_map, List.getElem?_range hi]; rfl) (by rw [List.getElem?_map, List.getElem?_range hj]; rfl)
theorem rgT_wf {n : Nat} (h : 0 < n) (m : Nat) : Wf (rgT n m) m := by
  refine ⟨fun r hr => ?_, fun r hr e he => ?_⟩
  · obtain ⟨i, _, rfl⟩ := List.mem_map.mp hr
    rw [List.length_map, List.length_range]
  · obtain ⟨i, _, rfl⟩ := List.mem_map.mp hr
    obtain ⟨j, _, h1⟩ := List.mem_map.mp he
    injection h1 with h1
    rw [rgT_len, ← h1]
    exact Nat.mod_lt _ h
theorem rgT_rep {n m : Nat} (h : 0 < n) (hm : 0 < m) : ∀ (p s : Nat), s < n → rn (rgT n m) (some s) (List.replicate p 0) = some ((s + p) % n)
  | 0, s, hs => by
    show some s = some ((s + 0) % n)
    rw [Nat.add_zero, Nat.mod_eq_of_lt hs]
  | p + 1, s, hs => by
    rw [List.replicate_succ, rn_cns]
    show rn (rgT n m) (nx (rgT n m) s 0) _ = _
    rw [rgT_nx hs hm, rgT_rep h hm p _ (Nat.mod_lt _ h), Nat.mod_add_mod]
    congr 2
    omega
theorem rgT_acc {n m s : Nat} {G : Nat → Prop} (h : 0 < n) (hm : 0 < m) (hs : s < n) (p : Nat) : Acc (rgT n m) G s (List.replicate p 0) ↔ G ((s + p) % n) := by
  unfold Acc
  rw [rgT_rep h hm p s hs]
  exact ⟨fun ⟨t, e, g⟩ => by cases e; exact g, fun g => ⟨_, rfl, g⟩⟩
/-- five steps of one length lead to five states -/
def five (n x d : Nat) : List Nat := [x % n, (x + d) % n, (x + 2 * d) % n, (x + 3 * d) % n, (x + 4 * d) % n]
def fives (n : Nat) : Bool := (List.range n).all fun d => d == 0 || (List.range n).all fun x => decide (five n x d).Nodup
theorem fives_of {n x d : Nat} (h : fives n = true) (hd : d < n) (d0 : d ≠ 0) (hx : x < n) : (five n x d).Nodup := by
  have := List.all_eq_true.mp h d (List.mem_range.mpr hd)
  rcases Bool.or_eq_true_iff.mp this with c | c
  · exact absurd (beq_iff_eq.mp c) d0
  · exact of_decide_eq_true (List.all_eq_true.mp c x (List.mem_range.mpr hx))
theorem ring_apart {n m i j : Nat} {gs : List Nat} (f : fives n = true) (hm : 0 < m) (lg : gs.length ≤ 4) {x : Nat} (hx : x ∈ gs) (hxn : x < n) (hij : i < j) (hj : j < n) : ¬ Leq (rgT n m) (fun s => s ∈ gs) i j := fun l => by
  have n0 : 0 < n := by omega
  have stepd : ∀ y, y < n → y ∈ gs → (y + (j - i)) % n ∈ gs := fun y hy my => by
    have := l (List.replicate (y + n - i) 0)
    rw [rgT_acc n0 hm (by omega), rgT_acc n0 hm hj, show i + (y + n - i) = y + n by omega, Nat.add_mod_right, Nat.mod_eq_of_lt hy] at this
    have := this.mp my
    rwa [show j + (y + n - i) = y + (j - i) + n by omega, Nat.add_mod_right] at this
  have many : ∀ r, (x + r * (j - i)) % n ∈ gs := fun r => by
    induction r with
    | zero =>
      rw [Nat.zero_mul, Nat.add_zero, Nat.mod_eq_of_lt hxn]
      exact hx
    | succ r ih =>
      have := stepd _ (Nat.mod_lt _ n0) ih
      rw [Nat.mod_add_mod] at this
      rw [Nat.succ_mul, ← Nat.add_assoc]
      exact this
  have nd := fives_of (x := x) (d := j - i) f (by omega) (by omega) hxn
  have := sub_len (l' := gs) nd fun y hy => by
    unfold five at hy
    have m0 := many 0
    have m1 := many 1
    rw [Nat.zero_mul, Nat.add_zero] at m0
    rw [Nat.one_mul] at m1
    simp only [List.mem_cons, List.not_mem_nil, or_false] at hy
    rcases hy with rfl | rfl | rfl | rfl | rfl
    · exact m0
    · exact m1
    · exact many 2
    · exact many 3
    · exact many 4
  have : 5 ≤ gs.length := this
  omega
theorem ring_nf {n m : Nat} {gs : List Nat} (f : fives n = true) (hm : 0 < m) (mn : m < n) (lg : gs.length ≤ 4) (ne : ∃ x ∈ gs, x < n) : Nf (rgT n m) (fun s => s ∈ gs) m (rgT n m) ((List.range n).filter fun s => decide (s ∈ gs)) := by
  have n0 : 0 < n := by omega
  obtain ⟨x, hx, hxn⟩ := ne
  have wf := rgT_wf (n := n) n0 m
  have er : ∀ {i s : Nat}, (List.range n)[i]? = some s → i = s ∧ s < n := fun {i s} h => by
    have l := (List.getElem?_eq_some_iff.mp h).1
    rw [List.length_range] at l
    rw [List.getElem?_range l] at h
    cases h
    exact ⟨rfl, l⟩
  refine .inr ⟨List.range n, List.getElem?_range n0, by rw [rgT_len, List.length_range], wf.row, fun s hs => ?_, fun i j s t es et l => ?_, fun i s k es e0 e h => ?_, fun i s k j es ej => ?_, fun i => ?_, ?_, fun j j0 jl => ?_⟩
  · have hs := List.mem_range.mp hs
    refine ⟨by rw [rgT_len]; exact hs, List.replicate (x + n - s) 0, (rgT_acc n0 hm hs _).mpr ?_⟩
    rw [show s + (x + n - s) = x + n by omega, Nat.add_mod_right, Nat.mod_eq_of_lt hxn]
    exact hx
  · obtain ⟨rfl, hi⟩ := er es
    obtain ⟨rfl, hj⟩ := er et
    rcases Nat.lt_trichotomy i j with c | c | c
    · exact absurd l (ring_apart f hm lg hx hxn c hj)
    · exact c
    · exact absurd l.symm (ring_apart f hm lg hx hxn c hi)
  · obtain ⟨rfl, _⟩ := er es
    rw [e0] at h
    cases h
  · obtain ⟨rfl, _⟩ := er es
    have hj := (nx_lt wf ej).1
    rw [rgT_len] at hj
    exact ⟨j, j, ej, List.getElem?_range hj, Leq.refl j⟩
  · rw [List.mem_filter, List.mem_range, decide_eq_true_iff]
    exact ⟨fun ⟨a, b⟩ => ⟨i, List.getElem?_range a, b⟩, fun ⟨s, e, b⟩ => by obtain ⟨rfl, c⟩ := er e; exact ⟨c, b⟩⟩
  · exact List.Pairwise.filter _ List.pairwise_lt_range
  · rw [List.length_range] at jl
    have low : ∀ i' k' j', i' + k' + 1 < j → nx (rgT n m) i' k' = some j' → j' < j := fun i' k' j' h e => by
      obtain ⟨_, a, b⟩ := nx_lt wf e
      rw [rgT_len] at b
      rw [rgT_nx b a, Nat.mod_eq_of_lt (by omega)] at e
      cases e
      exact h
    rcases Nat.lt_or_ge m j with c | c
    · refine ⟨j - m, m - 1, by omega, ?_, fun i' k' j' c2 e => ?_⟩
      · rw [rgT_nx (by omega) (by omega), Nat.mod_eq_of_lt (by omega)]
        congr 1
        omega
      · have := (nx_lt wf e).2.1
        exact low i' k' j' (by omega) e
    · refine ⟨0, j - 1, by omega, ?_, fun i' k' j' c2 e => ?_⟩
      · rw [rgT_nx n0 (by omega), Nat.mod_eq_of_lt (by omega)]
        congr 1
        omega
      · have := (nx_lt wf e).2.1
        exact low i' k' j' (by omega) e
end Mc
set_option Elab.async false
set_option linter.all false
set_option maxRecDepth 100000
set_option maxHeartbeats 4000000
namespace Z
open Mc PySem PySem.Spec PyProof.Rows L2
/-- the rows of a table, each copied (c: into lists, else into tuples) -/
def rwO (c : Bool) (r : List (Option Nat)) : HO := if c then .lst (r.map eV) else .tup (r.map eV)
theorem lc_rows {K : PySem.W.Frag} {q c : Bool} {a D : Addr} {zs : List (Addr × List (Option Nat))} {H0 : Hp} {i : Nat} {te : TE} {vs : List Nat} {σ : L2.St} {Qd : Hp → Prop} (hT : Tb true q K H0 a zs) (hn : zs.length ≤ 1000000) (nD : H0 D = none) (hw : ∀ x : Addr, wipe ((wipe σ vs).set i (some (.ref x))) vs = wipe σ vs)
    (ht : ∀ (x : Addr) (r : List (Option Nat)) J (Q : VK), Same H0 J → r ∈ tb zs → SqK q K J x (r.map eV) → (∀ l, J l = none → Q (.ref l) (upd J l (rwO c r))) → te ((wipe σ vs).set i (some (.ref x))) J Q)
    (hd : ∀ J (hs : List (Addr × List (Option Nat))), Same H0 J → J D = some (.lst (hs.map fun z => V.ref z.1)) → tb hs = tb zs → (∀ z ∈ hs, J z.1 = some (rwO c z.2) ∧ H0 z.1 = none ∧ z.1 ≠ D) → Qd J) : lcW (Itl K a) (gName i) tYes te vs σ D Qd H0 := by
  have hS : SqL K H0 a (zs.map fun z => V.ref z.1) := hT.sq
  have ex : ∀ k (hk : k < zs.length), (zs.map fun z => V.ref z.1)[k]? = some (V.ref (zs[k]).1) := fun k hk => by
    rw [List.getElem?_map, List.getElem?_eq_getElem hk]
    rfl
  refine lc_gen (n := zs.length) (fun k J => Same H0 J ∧ ∃ hs : List (Addr × List (Option Nat)), J D = some (.lst (hs.map fun z => V.ref z.1)) ∧ hs.length = k ∧ tb hs = (tb zs).take k ∧ ∀ z ∈ hs, J z.1 = some (rwO c z.2) ∧ H0 z.1 = none ∧ z.1 ≠ D) ⟨same_new nD, [], upd_same, rfl, rfl, fun z h => absurd h (by simp)⟩ (fun k J hk p => ⟨_, _, p.1.seq hS, ex k hk⟩) (fun J p => ⟨_, p.1.seq hS, by rw [List.length_map]; exact Nat.le_refl _⟩) ?_ ?_
  · rintro k J x J' hk ⟨s1, hs, eD, ll, et, fr⟩ ⟨rfl, y⟩
    have y := y _ (s1.seq hS)
    rw [ex k hk] at y
    cases y
    refine ⟨hw _, ?_⟩
    dsimp only [tYes]
    rw [if_pos rfl]
    have mk : (zs[k]).2 ∈ tb zs := List.mem_map.mpr ⟨_, List.getElem_mem hk, rfl⟩
    refine ht _ (zs[k]).2 J' _ s1 mk (Z.Same.sqK s1 (hT.at_ _ (List.getElem_mem hk))) fun l nl => ?_
    have lD : D ≠ l := ne_of_none eD nl
    have nlH : H0 l = none := none_of s1 nl
    refine ⟨_, by rw [upd_ne lD]; exact eD, by rw [List.length_map, ll]; exact Nat.lt_of_lt_of_le (show k < 2000000 by omega) (by decide), Z.Same.mut (s1.trans (same_new nl)) nD, hs ++ [(l, (zs[k]).2)], by rw [upd_same, List.map_append]; rfl, by rw [List.length_append, ll]; rfl, ?_, fun z h => ?_⟩
    · unfold tb at et ⊢
      rw [List.map_append, et, List.take_succ, List.getElem?_map, List.getElem?_eq_getElem hk]
      rfl
    · rcases List.mem_append.mp h with h | h
      · obtain ⟨f1, f2, f3⟩ := fr z h
        exact ⟨by rw [upd_ne f3, upd_ne (ne_of_none f1 nl)]; exact f1, f2, f3⟩
      · rw [List.mem_singleton.mp h]
        exact ⟨by rw [upd_ne lD.symm, upd_same], nlH, lD.symm⟩
  · rintro J ⟨s1, hs, eD, ll, et, fr⟩
    refine hd J hs s1 eD ?_ fr
    rw [et, List.take_of_length_le (by unfold tb; rw [List.length_map]; exact Nat.le_refl _)]
/-- a store to a list leaves the machines as they are -/
theorem McAt.lst {C : Addr} {K : PySem.W.Frag} {H : Hp} {n p : Addr} {l : List Nat} {R : Tbl} {g : List Nat} {xs : List V} {o : HO} (hp : H p = some (.lst xs)) (h : McAt C K H n l R g) : McAt C K (upd H p o) n l R g := by
  have tk : ∀ {a : Addr} {ys : List V}, SqK false K H a ys → SqK false K (upd H p o) a ys := fun {a ys} h => by
    rcases h with (h | ⟨o', h⟩) | h
    · exact .inl (.inl (by rw [upd_ne (fun e => by rw [e, hp] at h; cases h)]; exact h))
    · exact .inl (.inr ⟨o', by rw [upd_ne (fun e => by rw [e, hp] at h; cases h)]; exact h⟩)
    · exact .inr h
  obtain ⟨dx, r, u, zr, h1, h2, h3, h4⟩ := h.ex
  refine ⟨dx, r, u, zr, ?_, ⟨tk h2.sq, fun z m => tk (h2.at_ z m)⟩, ?_, h4⟩
  · rw [upd_ne (fun e => by rw [e, hp] at h1; cases h1)]
    exact h1
  · rw [upd_ne (fun e => by rw [e, hp] at h3; cases h3)]
    exact h3
theorem cut_gsq (gs : List Nat) (lo hi : Option Int) : ∃ g2 : List Nat, cutV (gsq gs) lo hi = gsq g2 ∧ (∀ s ∈ g2, s ∈ gs) ∧ g2.length ≤ gs.length := by
  unfold cutV gsq
  rw [List.length_map, ← List.map_drop, ← List.map_take]
  exact ⟨_, rfl, fun s h => List.mem_of_mem_drop (List.mem_of_mem_take h), by rw [List.length_take, List.length_drop]; omega⟩
end Z
set_option pp.maxSteps 700
set_option Elab.async false
set_option linter.all false
set_option maxRecDepth 100000
set_option maxHeartbeats 4000000
open SX (S S_inj S_len S_cat)
namespace Z
open Mc
open PySem PySem.Spec PyProof.Rows L2
open C8 (pss_cut tCut)
local macro_rules | `(tactic| walk_at "num") => `(tactic| first | rfl | omega | decide | exact Nat.le_of_lt (small1000 (by simp)) | exact ⟨by omega, by omega⟩ | exact ⟨by omega, by omega, by omega⟩ | exact ⟨by decide, by decide, by decide⟩ | exact Or.inl ⟨by omega, by omega⟩ | exact Or.inr ⟨by omega, by omega⟩)
local macro_rules | `(tactic| walk_at "go") => `(tactic| repeat (first | refine ⟨_, rfl, ?_⟩ | refine ⟨_, _, rfl, rfl, ?_⟩ | refine ⟨_, _, rfl, ?_⟩ | (refine ⟨_, _, rfl, rfl, ?_, ?_⟩; focus walk_at "num") | refine Or.inl ⟨_, rfl, ?_⟩ | refine ⟨_, _, _, _, rfl, rfl, (by assumption), (by rfl), ?_⟩ | refine ⟨_, _, _, _, _, rfl, (by assumption), (by assumption), (by assumption), (by rfl), ?_⟩ | refine ⟨rfl, ?_⟩ | (refine And.intro ?_ ?_; focus walk_at "num")))
section
variable {P : Program} {w : World} {K : PySem.W.Frag} {mg : Str → Option Value} {base : Heap} {f C : Addr} {fd : FuncData}
def spM3 (C : Addr) (K : PySem.W.Frag) : Sp := fun vs H Q _ => ∃ (q q2 : Bool) (a : Addr) (l : List Nat) (gv : V) (zs : List (Addr × List (Option Nat))) (gs : List Nat), vs = [.str (S l), .ref a, gv] ∧ l.Nodup ∧ l ≠ [] ∧ l.length ≤ 1000 ∧ Tb q q2 K H a zs ∧ Wf (tb zs) l.length ∧ zs.length ≤ 1000000 ∧ GoodV K H zs.length gv gs ∧
  ∀ (n : Addr) (R : Tbl) (g' : List Nat) H', Same H H' → H n = none → McAt C K H' n l R g' → Nf (tb zs) (inG gs) l.length R g' → Q (.ref n) H'
def spM2 (C : Addr) (K : PySem.W.Frag) : Sp := fun vs H Q _ => ∃ (q q2 : Bool) (a : Addr) (l : List Nat) (zs : List (Addr × List (Option Nat))), vs = [.str (S l), .ref a] ∧ l.Nodup ∧ l ≠ [] ∧ l.length ≤ 1000 ∧ Tb q q2 K H a zs ∧ Wf (tb zs) l.length ∧ zs.length ≤ 1000000 ∧
  ∀ (n : Addr) (R : Tbl) (g' : List Nat) H', Same H H' → H n = none → McAt C K H' n l R g' → Nf (tb zs) (inG (List.range zs.length)) l.length R g' → Q (.ref n) H'
theorem GoodV.mono {H H' : Hp} {n : Nat} {gv : V} {gs : List Nat} (s : Same H H') (h : GoodV K H n gv gs) : GoodV K H' n gv gs := by
  obtain ⟨h1, h2⟩ := h
  refine ⟨?_, h2⟩
  rcases h1 with h1 | ⟨q3, g, e, hg⟩
  · exact .inl h1
  · exact .inr ⟨q3, g, e, Z.Same.sqK s hg⟩
theorem m3_imp : ∀ vs H Q E, spM3 C K vs H Q E → ∀ n dx, H n = none → H dx = none → dx ≠ n → spMIni C K (.ref n :: vs) (upd (upd H dx (.own n)) n (.ins C dx [])) (fun v H2 => v = .non ∧ Q (.ref n) H2) E := by
  rintro vs H Q E ⟨q, q2, a, l, gv, zs, gs, rfl, nd, ne, ll, hT, wf, lz, hg, qq⟩ n dx n1 n2 n3
  have sm : Same H (upd (upd H dx (.own n)) n (.ins C dx [])) := Z.Same.mut (same_new n2) n1
  refine ⟨q, q2, n, dx, a, l, gv, zs, gs, rfl, upd_same, nd, ne, ll, hT.mono sm, wf, lz, hg.mono sm, fun r u zr g' H' sb en hR eu nf => ⟨rfl, ?_⟩⟩
  exact qq n (tb zr) g' H' (fun c o e => sb c o (fun z => by rw [z, n1] at e; cases e) (sm c o e)) n1 ⟨dx, r, u, zr, en, hR, eu, rfl⟩ nf
theorem m2_imp : ∀ vs H Q E, spM2 C K vs H Q E → ∀ n dx, H n = none → H dx = none → dx ≠ n → spMIni C K (.ref n :: (vs ++ [.non])) (upd (upd H dx (.own n)) n (.ins C dx [])) (fun v H2 => v = .non ∧ Q (.ref n) H2) E := by
  rintro vs H Q E ⟨q, q2, a, l, zs, rfl, nd, ne, ll, hT, wf, lz, qq⟩ n dx n1 n2 n3
  exact m3_imp _ H Q E ⟨q, q2, a, l, .non, zs, List.range zs.length, rfl, nd, ne, ll, hT, wf, lz, ⟨.inl ⟨rfl, rfl⟩, fun s h => List.mem_range.mp h⟩, qq⟩ n dx n1 n2 n3
/-! ### machines by their languages -/
structure McL (C : Addr) (K : PySem.W.Frag) (H : Hp) (n : Addr) (l : List Nat) (sz : Nat) (L : Lg) : Prop where
  ex : ∃ (R : Tbl) (g : List Nat) (T : Tbl) (G : Nat → Prop), McAt C K H n l R g ∧ Nf T G l.length R g ∧ R.length ≤ sz ∧ ∀ w, AccS T G w ↔ L w
theorem McL.mono {H H' : Hp} {n : Addr} {l : List Nat} {sz : Nat} {L : Lg} (s : Same H H') (h : McL C K H n l sz L) : McL C K H' n l sz L := by
  obtain ⟨R, g, T, G, h1, h2, hz, h3⟩ := h.ex
  exact ⟨R, g, T, G, h1.mono s, h2, hz, h3⟩
theorem McL.congr {H : Hp} {n : Addr} {l : List Nat} {sz : Nat} {L L' : Lg} (e : ∀ w, L w ↔ L' w) (h : McL C K H n l sz L) : McL C K H n l sz L' := by
  obtain ⟨R, g, T, G, h1, h2, hz, h3⟩ := h.ex
  exact ⟨R, g, T, G, h1, h2, hz, fun w => (h3 w).trans (e w)⟩
theorem McL.at_ {H : Hp} {n : Addr} {l : List Nat} {sz : Nat} {L : Lg} (h : McL C K H n l sz L) : ∃ (R : Tbl) (g : List Nat), McAt C K H n l R g ∧ R.length ≤ sz ∧ Wf R l.length ∧ (∀ j ∈ g, j < R.length) ∧ (∀ j, j < R.length → Liv R (inG g) j) ∧ ∀ w, AccS R (inG g) w ↔ L w := by
  obtain ⟨R, g, T, G, h1, h2, hz, h3⟩ := h.ex
  exact ⟨R, g, h1, hz, h2.wf.1, h2.wf.2, fun j hj => h2.live hj, fun w => (h2.lang w).trans (h3 w)⟩
theorem McL.same {H : Hp} {n n' : Addr} {l : List Nat} {sz sz' : Nat} {L L' : Lg} (h : McL C K H n l sz L) (h' : McL C K H n' l sz' L') (e : ∀ w, L w ↔ L' w) : ∃ (R : Tbl) (g : List Nat), McAt C K H n l R g ∧ McAt C K H n' l R g := by
  obtain ⟨R, g, T, G, h1, h2, hz, h3⟩ := h.ex
  obtain ⟨R', g', T', G', h1', h2', hz', h3'⟩ := h'.ex
  obtain ⟨rfl, rfl⟩ := h2.uniq h2' fun w => (h3 w).trans ((e w).trans (h3' w).symm)
  exact ⟨R, g, h1, h1'⟩
theorem McL.ins {H : Hp} {n : Addr} {l : List Nat} {sz : Nat} {L : Lg} (h : McL C K H n l sz L) : ∃ dx r u, H n = some (.ins C dx (mF l r u)) := by
  obtain ⟨R, g, T, G, h1, h2, hz, h3⟩ := h.ex
  obtain ⟨dx, r, u, zr, e, _⟩ := h1.ex
  exact ⟨dx, r, u, e⟩
def spL3 (C : Addr) (K : PySem.W.Frag) : Sp := fun vs H Q _ => ∃ (q q2 : Bool) (a : Addr) (l : List Nat) (gv : V) (zs : List (Addr × List (Option Nat))) (gs : List Nat), vs = [.str (S l), .ref a, gv] ∧ l.Nodup ∧ l ≠ [] ∧ l.length ≤ 1000 ∧ Tb q q2 K H a zs ∧ Wf (tb zs) l.length ∧ zs.length ≤ 1000000 ∧ GoodV K H zs.length gv gs ∧
  ∀ (n : Addr) H', Same H H' → H n = none → McL C K H' n l zs.length (AccS (tb zs) (inG gs)) → Q (.ref n) H'
def spL2 (C : Addr) (K : PySem.W.Frag) : Sp := fun vs H Q _ => ∃ (q q2 : Bool) (a : Addr) (l : List Nat) (zs : List (Addr × List (Option Nat))), vs = [.str (S l), .ref a] ∧ l.Nodup ∧ l ≠ [] ∧ l.length ≤ 1000 ∧ Tb q q2 K H a zs ∧ Wf (tb zs) l.length ∧ zs.length ≤ 1000000 ∧
  ∀ (n : Addr) H', Same H H' → H n = none → McL C K H' n l zs.length (AccS (tb zs) (inG (List.range zs.length))) → Q (.ref n) H'
theorem l3_imp : ∀ vs H Q E, spL3 C K vs H Q E → ∀ n dx, H n = none → H dx = none → dx ≠ n → spMIni C K (.ref n :: vs) (upd (upd H dx (.own n)) n (.ins C dx [])) (fun v H2 => v = .non ∧ Q (.ref n) H2) E := by
  rintro vs H Q E ⟨q, q2, a, l, gv, zs, gs, e, nd, ne, ll, hT, wf, lz, hg, qq⟩
  exact m3_imp vs H Q E ⟨q, q2, a, l, gv, zs, gs, e, nd, ne, ll, hT, wf, lz, hg, fun n R g' H' s nn hM nf => qq n H' s nn ⟨R, g', _, _, hM, nf, by have := nf.len; unfold tb at this; rwa [List.length_map] at this, fun _ => Iff.rfl⟩⟩
theorem l2_imp : ∀ vs H Q E, spL2 C K vs H Q E → ∀ n dx, H n = none → H dx = none → dx ≠ n → spMIni C K (.ref n :: (vs ++ [.non])) (upd (upd H dx (.own n)) n (.ins C dx [])) (fun v H2 => v = .non ∧ Q (.ref n) H2) E := by
  rintro vs H Q E ⟨q, q2, a, l, zs, e, nd, ne, ll, hT, wf, lz, qq⟩
  exact m2_imp vs H Q E ⟨q, q2, a, l, zs, e, nd, ne, ll, hT, wf, lz, fun n R g' H' s nn hM nf => qq n H' s nn ⟨R, g', _, _, hM, nf, by have := nf.len; unfold tb at this; rwa [List.length_map] at this, fun _ => Iff.rfl⟩⟩
theorem accB_iff {g : List Nat} {o : Option Nat} : accB g o = true ↔ ∃ t, o = some t ∧ t ∈ g := by
  cases o with
  | none => exact ⟨fun h => (by cases h), fun ⟨t, h, _⟩ => (by cases h)⟩
  | some j => exact ⟨fun h => ⟨j, rfl, of_decide_eq_true h⟩, fun ⟨t, h, ht⟩ => by cases h; exact decide_eq_true ht⟩
def spInL (C : Addr) (K : PySem.W.Frag) : Sp := fun vs H Q _ => ∃ (n : Addr) (l t : List Nat) (sz : Nat) (L : Lg), vs = [.ref n, .str (S t)] ∧ McL C K H n l sz L ∧ l.Nodup ∧ ∀ b : Bool, (b = true ↔ Txl (ixOf l) L t) → Q (.bl b) H
theorem inL_imp : ∀ vs H Q E, spInL C K vs H Q E → spIn C K vs H Q E := by
  rintro vs H Q E ⟨n, l, t, sz, L, rfl, hM, nd, q⟩
  obtain ⟨R, g, h1, _, h2, h3, _, h4⟩ := hM.at_
  refine ⟨n, l, t, R, g, rfl, h1, nd, h2, q _ ?_⟩
  rw [accB_iff, ← Txl.congr h4, txl_rs]
  exact Iff.rfl
def spEqL (C : Addr) (K : PySem.W.Frag) : Sp := fun vs H Q _ => ∃ (n m : Addr) (l l' : List Nat) (sz sz' : Nat) (L L' : Lg), vs = [.ref n, .ref m] ∧ McL C K H n l sz L ∧ McL C K H m l' sz' L' ∧ ∀ b : Bool, (b = true ↔ (l = l' ∧ ∀ w, L w ↔ L' w)) → Q (.bl b) H
theorem eqL_imp : ∀ vs H Q E, spEqL C K vs H Q E → spEqM C K vs H Q E := by
  rintro vs H Q E ⟨n, m, l, l', sz, sz', L, L', rfl, hM, hN, q⟩
  obtain ⟨R, g, T, G, h1, h2, hz, h3⟩ := hM.ex
  obtain ⟨R', g', T', G', h1', h2', hz', h3'⟩ := hN.ex
  refine ⟨n, m, l, l', R, R', g, g', rfl, h1, h1', q _ ?_⟩
  rw [decide_eq_true_iff]
  constructor
  · rintro ⟨rfl, rfl, rfl⟩
    exact ⟨rfl, fun w => (h3 w).symm.trans ((h2.lang w).symm.trans ((h2'.lang w).trans (h3' w)))⟩
  · rintro ⟨rfl, e⟩
    exact ⟨rfl, h2.uniq h2' fun w => (h3 w).trans ((e w).trans (h3' w).symm)⟩
theorem beq_iff {a b : Bool} {p q : Prop} (ha : a = true ↔ p) (hb : b = true ↔ q) (h : p ↔ q) : a = b := by
  cases a <;> cases b
  · rfl
  · exact absurd (ha.mpr (h.mpr (hb.mp rfl))) Bool.false_ne_true
  · exact absurd (hb.mpr (h.mp (ha.mp rfl))) Bool.false_ne_true
  · rfl
end
end Z
set_option pp.maxSteps 700
set_option Elab.async false
set_option linter.all false
set_option maxRecDepth 100000
set_option maxHeartbeats 4000000
open SX (S S_inj S_len S_cat)
namespace Z
open Mc
open PySem PySem.Spec PyProof.Rows L2
open C8 (pss_cut tCut)
local macro_rules | `(tactic| walk_at "num") => `(tactic| first | rfl | omega | decide | exact Nat.le_of_lt (small1000 (by simp)) | exact ⟨by omega, by omega⟩ | exact ⟨by omega, by omega, by omega⟩ | exact ⟨by decide, by decide, by decide⟩ | exact Or.inl ⟨by omega, by omega⟩ | exact Or.inr ⟨by omega, by omega⟩)
local macro_rules | `(tactic| walk_at "go") => `(tactic| repeat (first | refine ⟨_, rfl, ?_⟩ | refine ⟨_, _, rfl, rfl, ?_⟩ | refine ⟨_, _, rfl, ?_⟩ | (refine ⟨_, _, rfl, rfl, ?_, ?_⟩; focus walk_at "num") | refine Or.inl ⟨_, rfl, ?_⟩ | refine ⟨_, _, _, _, rfl, rfl, (by assumption), (by rfl), ?_⟩ | refine ⟨_, _, _, _, _, rfl, (by assumption), (by assumption), (by assumption), (by rfl), ?_⟩ | refine ⟨rfl, ?_⟩ | (refine And.intro ?_ ?_; focus walk_at "num")))
abbrev s_is_number : Stmt := topS 32
abbrev N_is_number : List Str := ["_law_value"]
abbrev P_is_number : List Str := ["_law_value"]
theorem sc_is_number : FnScope N_is_number P_is_number (defScope s_is_number) := ⟨rfl, rfl, rfl, by decide +kernel, rfl, by decide +kernel, by decide +kernel⟩
abbrev s_kinds : Stmt := topS 33
abbrev N_kinds : List Str := ["_law_machine", "_law_many", "_law_row", "_law_entry_here", "_law_last", "_law_state"]
abbrev P_kinds : List Str := ["_law_machine", "_law_many"]
theorem sc_kinds : FnScope N_kinds P_kinds (defScope s_kinds) := ⟨rfl, rfl, rfl, by decide +kernel, rfl, by decide +kernel, by decide +kernel⟩

theorem tyX_tup {K : PySem.W.Frag} {H : Hp} {a : Addr} {xs : List V} (h : SqT K H a xs) : TyX K H (.ref a) (.type "tuple") := by
  rcases h with (h | ⟨o, h⟩) | ⟨o, its, n, h, c, _⟩
  · exact .base (.tup h)
  · exact .fTuple h
  · exact .kTuple h c
theorem isiX {K : PySem.W.Frag} {H : Hp} {x : V} {T c : String} {b : Bool} {R : Bool → Prop} (t : TyX K H x (.type T)) (h : kitB T c = some b) (q : R b) : ∃ (x' c' : V) (t' u' : Value) (b' : Bool), [x, .ty c] = [x', c'] ∧ ClsV c' u' ∧ TyX K H x' t' ∧ PySem.W.kitOne K t' u' = some b' ∧ R b' :=
  ⟨x, .ty c, .type T, .type c, b, rfl, .ty c, t, kit_ty h, q⟩
section
variable {P : Program} {w : World} {K : PySem.W.Frag} {mg : Str → Option Value} {base : Heap} {f C : Addr} {fd : FuncData}
def spIsN : Sp := fun vs H Q _ => ∃ a : Int, vs = [.int a] ∧ Q (.bl true) H
theorem ok_is_number (F : FnP K "_law_is_number" s_is_number f fd) (m_isinstance : mg "isinstance" = none) (m_int : mg "int" = none) (m_bool : mg "bool" = none) : FnOk P w K mg base CX0 1 f fd P_is_number spIsN := by
  refine F.ok sc_is_number (fun vs H Q E h => ?_) (fun cdv A outer s H vs Q E hr h => ?_)
  · obtain ⟨x, rfl, _⟩ := h
    rfl
  · obtain ⟨x, rfl, q⟩ := h
    refine ⟨_, PSs.nox (pss_one (ps_ret (pe_and (pe_callB call_isi (by rfl) m_isinstance (by decide +kernel) (pa_cons (pv 0) (pa_cons (pe_bltn (v := .ty "int") (by rfl) m_int (by decide +kernel) rfl) pa_nil))) (pe_one (pe_not (pe_callB call_isi (by rfl) m_isinstance (by decide +kernel) (pa_cons (pv 0) (pa_cons (pe_bltn (v := .ty "bool") (by rfl) m_bool (by decide +kernel) rfl) pa_nil)))))))), ?_⟩
    walk_at "go"
    refine isi (c := "int") (b := true) (.int x) (by decide +kernel) ?_
    walk_at "go"
    refine isi (c := "bool") (b := false) (.int x) (by decide +kernel) ?_
    walk_at "go"
    exact q
def spKnd (C : Addr) (K : PySem.W.Frag) : Sp := fun vs H Q _ => ∃ (n : Addr) (l : List Nat) (R : Tbl) (g : List Nat), vs = [.ref n, .int (l.length : Int)] ∧ McAt C K H n l R g ∧ Wf R l.length ∧ (∀ j ∈ g, j < R.length) ∧ g.Pairwise (· < ·) ∧ Q (.bl true) H
theorem ok_kinds (F : FnP K "_law_kinds" s_kinds f fd) (m_isinstance : mg "isinstance" = none) (m_tuple : mg "tuple" = none) (m_len : mg "len" = none) (cls : Cls K C) (n_rows : NoAttr K C "rows") (n_good : NoAttr K C "good") (c_is_number : Cal P w K mg base 1 "_law_is_number" spIsN) : FnOk P w K mg base CX0 2 f fd P_kinds (spKnd C K) := by
  refine F.ok sc_kinds (fun vs H Q E h => ?_) (fun cdv A outer s H vs Q E hr h => ?_)
  · obtain ⟨n, l, R, g, rfl, _⟩ := h
    rfl
  · obtain ⟨n, l, R, g, rfl, ⟨dx, r, u, zr, hn, hR, hu, rfl⟩, wf, hg, asc, q⟩ := h
    refine ⟨_, PSs.nox (pss_cons (ps_if (PW.pt (pw_or (pt_not (pt_val (pe_callB call_isi (by rfl) m_isinstance (by decide +kernel) (pa_cons (pe_fld (pv 0) rfl) (pa_cons (pe_bltn (v := .ty "tuple") (by rfl) m_tuple (by decide +kernel) rfl) pa_nil))))) (pw_or1 (pt_not (pt_val (pe_callB call_isi (by rfl) m_isinstance (by decide +kernel) (pa_cons (pe_fld (pv 0) rfl) (pa_cons (pe_bltn (v := .ty "tuple") (by rfl) m_tuple (by decide +kernel) rfl) pa_nil)))))))) (pss_one (ps_ret pe_bl)) pss_nil)
      (pss_cons (ps_for PassesOwn.never rfl (pi_tup (pe_fld (pv 0) rfl)) (pg_name (i := 2) sc_kinds.nd rfl (by first | exact .inl rfl | exact .inr rfl))
        (pss_cons (ps_if (PW.pt (pw_or (pt_not (pt_val (pe_callB call_isi (by rfl) m_isinstance (by decide +kernel) (pa_cons (pv 2) (pa_cons (pe_bltn (v := .ty "tuple") (by rfl) m_tuple (by decide +kernel) rfl) pa_nil))))) (pw_or1 (pt_cmpR op_ne (pe_callB call_len_seq (by rfl) m_len PySem.boot_len (pa_cons (pv 2) pa_nil)) (pv 1) (nomark _))))) (pss_one (ps_ret pe_bl)) pss_nil)
      (pss_one (ps_for PassesOwn.never rfl (pi_tup (pv 2)) (pg_name (i := 3) sc_kinds.nd rfl (by first | exact .inl rfl | exact .inr rfl))
        (pss_one (ps_if (PW.pt (pw_and (pt_cmpR op_notN (pv 3) pe_non (nomark _)) (pw_and1 (PW.pt (pw_or (pt_not (pt_val (pe_cl c_is_number hr (by decide) (by rfl) (pa_cons (pv 3) pa_nil)))) (pw_or (pt_cmpR op_lt (pv 3) pe_int (nomark _)) (pw_or1 (pt_cmpR op_ge (pv 3) (pe_callB call_len_seq (by rfl) m_len PySem.boot_len (pa_cons (pe_fld (pv 0) rfl) pa_nil)) (nomark _))))))))) (pss_one (ps_ret pe_bl)) pss_nil))))))
      (pss_cons (ps_set (i := 4) sc_kinds.nd rfl (by first | exact .inl rfl | exact .inr rfl) (pe_un un_neg pe_int))
      (pss_cons (ps_for PassesOwn.never rfl (pi_tup (pe_fld (pv 0) rfl)) (pg_name (i := 5) sc_kinds.nd rfl (by first | exact .inl rfl | exact .inr rfl))
        (pss_cons (ps_if (PW.pt (pw_or (pt_not (pt_val (pe_cl c_is_number hr (by decide) (by rfl) (pa_cons (pv 5) pa_nil)))) (pw_or (pt_cmpR op_le (pv 5) (pv 4) (nomark _)) (pw_or1 (pt_cmpR op_ge (pv 5) (pe_callB call_len_seq (by rfl) m_len PySem.boot_len (pa_cons (pe_fld (pv 0) rfl) pa_nil)) (nomark _)))))) (pss_one (ps_ret pe_bl)) pss_nil)
      (pss_one (ps_set (i := 4) sc_kinds.nd rfl (by first | exact .inl rfl | exact .inr rfl) (pv 5)))))
      (pss_one (ps_ret pe_bl)))))), ?_⟩
    have lT : (tb zr).length = zr.length := List.length_map ..
    have lA : (zr.map fun z => V.ref z.1).length = zr.length := List.length_map ..
    have lG : (gsq g).length = g.length := List.length_map ..
    walk_at "go"
    refine isiX (c := "tuple") (b := true) (tyX_tup hR.sq) (by decide +kernel) ?_
    walk_at "go"
    refine isi (c := "tuple") (b := true) (.tup hu) (by decide +kernel) ?_
    walk_at "go"
    refine ⟨⟨_, hR.sq⟩, ?_⟩
    refine for_gen (n := zr.length) (fun k σ J => J = H ∧ ∃ (v2 v3 : Option V), σ = [some (.ref n), some (.int (l.length : Int)), v2, v3, none, none]) ⟨rfl, none, none, rfl⟩ ?_ ?_ ?_ ?_
    · rintro k σ J hk ⟨rfl, _⟩
      exact ⟨_, .ref (zr[k]).1, hR.sq, by rw [List.getElem?_map, List.getElem?_eq_getElem hk]; rfl⟩
    · rintro σ J ⟨rfl, _⟩
      exact ⟨_, hR.sq, by rw [lA]; omega⟩
    · rintro k σ J x J' hk ⟨rfl, v2, v3, rfl⟩ ⟨rfl, ex⟩
      have ex := ex _ hR.sq
      rw [List.getElem?_map, List.getElem?_eq_getElem hk] at ex
      cases ex
      have mz : (zr[k]).2 ∈ tb zr := List.mem_map.mpr ⟨zr[k], List.getElem_mem hk, rfl⟩
      have hrow := hR.at_ zr[k] (List.getElem_mem hk)
      have lrow := wf.row _ mz
      have lr2 : ((zr[k]).2.map eV).length = l.length := by rw [List.length_map]; exact lrow
      walk_at "go"
      refine isiX (c := "tuple") (b := true) (tyX_tup hrow) (by decide +kernel) ?_
      walk_at "go"
      refine ⟨_, _, rfl, .inr hrow, ?_⟩
      rw [lr2]
      walk_at "go"
      rw [decide_eq_true (p := V.int (l.length : Int) = V.int (l.length : Int)) rfl]
      walk_at "go"
      refine ⟨⟨_, hrow⟩, ?_⟩
      refine for_gen (n := l.length) (fun j σ J => J = J' ∧ ∃ (v3 : Option V), σ = [some (.ref n), some (.int (l.length : Int)), some (.ref (zr[k]).1), v3, none, none]) ⟨rfl, v3, rfl⟩ ?_ ?_ ?_ ?_
      · rintro j σ J hj ⟨rfl, _⟩
        exact ⟨_, eV ((zr[k]).2.getD j none), hrow, row_at (by omega)⟩
      · rintro σ J ⟨rfl, _⟩
        exact ⟨_, hrow, by rw [lr2]; omega⟩
      · rintro j σ J x J2 hj ⟨rfl, v3, rfl⟩ ⟨rfl, ex⟩
        have ex := ex _ hrow
        rw [row_at (by omega)] at ex
        cases ex
        have mj : (zr[k]).2.getD j none ∈ (zr[k]).2 := by
          rw [List.getD_eq_getElem?_getD, List.getElem?_eq_getElem (by omega)]
          exact List.getElem_mem _
        cases eo : (zr[k]).2.getD j none with
        | none =>
          dsimp only [eV]
          walk_at "go"
          exact ⟨_, rfl⟩
        | some e =>
          rw [eo] at mj
          have he := wf.ent _ mz e mj
          rw [lT] at he
          dsimp only [eV]
          walk_at "go"
          refine Exists.intro _ (Exists.intro _ ⟨rfl, .inr hR.sq, ?_⟩)
          rw [lA]
          walk_at "go"
          rw [decide_eq_false (show ¬ ((zr.length : Nat) : Int) ≤ (e : Int) by omega)]
          walk_at "go"
          exact ⟨_, rfl⟩
      · rintro σ J ⟨rfl, v3, rfl⟩
        exact ⟨rfl, _, _, rfl⟩
    · rintro σ J ⟨rfl, v2, v3, rfl⟩
      walk_at "go"
      refine ⟨⟨_, SqT.of hu⟩, ?_⟩
      refine for_gen (n := g.length) (fun k σ J' => J' = J ∧ ∃ (v4 : Int) (v5 : Option V), (v4 = -1 ∧ k = 0 ∨ ∃ h : 0 < k ∧ k ≤ g.length, v4 = ((g[k - 1]'(by omega) : Nat) : Int)) ∧ σ = [some (.ref n), some (.int (l.length : Int)), v2, v3, some (.int v4), v5]) ⟨rfl, -1, none, .inl ⟨rfl, rfl⟩, rfl⟩ ?_ ?_ ?_ ?_
      · rintro k σ J' hk ⟨rfl, _⟩
        exact ⟨_, .int ((g[k] : Nat) : Int), SqT.of hu, by unfold gsq; rw [List.getElem?_map, List.getElem?_eq_getElem hk]; rfl⟩
      · rintro σ J' ⟨rfl, _⟩
        exact ⟨_, SqT.of hu, by rw [lG]; omega⟩
      · rintro k σ J' x J2 hk ⟨rfl, v4, v5, hv, rfl⟩ ⟨rfl, ex⟩
        have ex := ex _ (SqT.of hu)
        unfold gsq at ex
        rw [List.getElem?_map, List.getElem?_eq_getElem hk] at ex
        cases ex
        have lt4 : v4 < ((g[k] : Nat) : Int) := by
          rcases hv with ⟨rfl, _⟩ | ⟨h, rfl⟩
          · omega
          · have := (List.pairwise_iff_getElem.mp asc) (k - 1) k (by omega) hk (by omega)
            omega
        have ltR := hg _ (List.getElem_mem hk)
        rw [lT] at ltR
        walk_at "go"
        rw [decide_eq_false (show ¬ ((g[k] : Nat) : Int) ≤ v4 by omega)]
        walk_at "go"
        refine Exists.intro _ (Exists.intro _ ⟨rfl, .inr hR.sq, ?_⟩)
        rw [lA]
        walk_at "go"
        rw [decide_eq_false (show ¬ ((zr.length : Nat) : Int) ≤ ((g[k] : Nat) : Int) by omega)]
        walk_at "go"
        exact ⟨((g[k] : Nat) : Int), _, .inr ⟨⟨Nat.succ_pos k, hk⟩, rfl⟩, rfl⟩
      · rintro σ J' ⟨rfl, v4, v5, hv, rfl⟩
        walk_at "go"
        exact q
end
end Z
set_option pp.maxSteps 700
set_option Elab.async false
set_option linter.all false
set_option maxRecDepth 100000
set_option maxHeartbeats 4000000
open SX (S S_inj S_len S_cat)
namespace Z
open Mc
open PySem PySem.Spec PyProof.Rows L2
open C8 (pss_cut tCut)
local macro_rules | `(tactic| walk_at "num") => `(tactic| first | rfl | omega | decide | exact Nat.le_of_lt (small1000 (by simp)) | exact ⟨by omega, by omega⟩ | exact ⟨by omega, by omega, by omega⟩ | exact ⟨by decide, by decide, by decide⟩ | exact Or.inl ⟨by omega, by omega⟩ | exact Or.inr ⟨by omega, by omega⟩)
local macro_rules | `(tactic| walk_at "go") => `(tactic| repeat (first | refine ⟨_, rfl, ?_⟩ | refine ⟨_, _, rfl, rfl, ?_⟩ | refine ⟨_, _, rfl, ?_⟩ | (refine ⟨_, _, rfl, rfl, ?_, ?_⟩; focus walk_at "num") | refine Or.inl ⟨_, rfl, ?_⟩ | refine ⟨_, _, _, _, rfl, rfl, (by assumption), (by rfl), ?_⟩ | refine ⟨_, _, _, _, _, rfl, (by assumption), (by assumption), (by assumption), (by rfl), ?_⟩ | refine ⟨rfl, ?_⟩ | (refine And.intro ?_ ?_; focus walk_at "num")))
abbrev s_met_in_order : Stmt := topS 34
abbrev N_met_in_order : List Str := ["_law_rows", "_law_expected", "_law_state", "_law_entry_here"]
abbrev P_met_in_order : List Str := ["_law_rows"]
theorem sc_met_in_order : FnScope N_met_in_order P_met_in_order (defScope s_met_in_order) := ⟨rfl, rfl, rfl, by decide +kernel, rfl, by decide +kernel, by decide +kernel⟩
section
variable {P : Program} {w : World} {K : PySem.W.Frag} {mg : Str → Option Value} {base : Heap} {f C : Addr} {fd : FuncData}
def spMio (K : PySem.W.Frag) : Sp := fun vs H Q _ => ∃ (m : Nat) (r : Addr) (zr : List (Addr × List (Option Nat))), vs = [.ref r] ∧ Tb false false K H r zr ∧ Wf (tb zr) m ∧ zr.length ≤ 1000 ∧ Ord (tb zr) ∧ Q (.bl true) H
theorem ok_met_in_order (F : FnP K "_law_met_in_order" s_met_in_order f fd) (m_len : mg "len" = none) (m_range : mg "range" = none) : FnOk P w K mg base CX0 1 f fd P_met_in_order (spMio K) := by
  refine F.ok sc_met_in_order (fun vs H Q E h => ?_) (fun cdv A outer s H vs Q E hr h => ?_)
  · obtain ⟨m, r, zr, rfl, _⟩ := h
    rfl
  · obtain ⟨m, r, zr, rfl, hR, wf, lz, ord, q⟩ := h
    refine ⟨_, PSs.nox (pss_cons (ps_set (i := 1) sc_met_in_order.nd rfl (by first | exact .inl rfl | exact .inr rfl) pe_int)
      (pss_cons (ps_for PassesOwn.never rfl (pi_range1 (by rfl) m_range (pa_cons (pe_callB call_len_seq (by rfl) m_len PySem.boot_len (pa_cons (pv 0) pa_nil)) pa_nil)) (pg_name (i := 2) sc_met_in_order.nd rfl (by first | exact .inl rfl | exact .inr rfl))
        (pss_cons (ps_if (pt_cmpR op_ge (pv 2) (pv 1) (nomark _)) (pss_one (ps_ret pe_bl)) pss_nil)
      (pss_one (ps_for PassesOwn.never rfl (pi_tup (pe_ix ix_tup (pv 0) (pv 2) (fun _ _ => rfl))) (pg_name (i := 3) sc_met_in_order.nd rfl (by first | exact .inl rfl | exact .inr rfl))
        (pss_cons (ps_if (PW.pt (pw_and (pt_cmpR op_notN (pv 3) pe_non (nomark _)) (pw_and1 (pt_cmpR op_gt (pv 3) (pv 1) (nomark _))))) (pss_one (ps_ret pe_bl)) pss_nil)
      (pss_one (ps_if (PW.pt (pw_and (pt_cmpR op_notN (pv 3) pe_non (nomark _)) (pw_and1 (pt_cmpR op_eq (pv 3) (pv 1) (nomark _))))) (pss_one (ps_set (i := 1) sc_met_in_order.nd rfl (by first | exact .inl rfl | exact .inr rfl) (pe_op op_add (pv 1) pe_int))) pss_nil)))))))
      (pss_one (ps_ret (pe_or (pe_cmpR op_eq (pe_callB call_len_seq (by rfl) m_len PySem.boot_len (pa_cons (pv 0) pa_nil)) pe_int (nomark _)) (pe_one (pe_cmpR op_eq (pv 1) (pe_callB call_len_seq (by rfl) m_len PySem.boot_len (pa_cons (pv 0) pa_nil)) (nomark _)))))))), ?_⟩
    have lT : (tb zr).length = zr.length := List.length_map ..
    have lA : (zr.map fun z => V.ref z.1).length = zr.length := List.length_map ..
    walk_at "go"
    refine ⟨r, _, rfl, .inr hR.sq, ?_⟩
    rw [lA]
    walk_at "go"
    refine for_gen (n := zr.length) (fun k σ J => J = H ∧ ∃ (e : Nat) (v2 v3 : Option V), MO (tb zr) k 0 e ∧ σ = [some (.ref r), some (.int (e : Int)), v2, v3]) ⟨rfl, 1, none, none, MO.zero _, rfl⟩ ?_ ?_ ?_ ?_
    · rintro k σ J hk ⟨rfl, _⟩
      show k < ((zr.length : Int)).toNat
      omega
    · rintro σ J ⟨rfl, _⟩
      show ((zr.length : Int)).toNat ≤ zr.length
      omega
    · rintro k σ J x J' hk ⟨rfl, e, v2, v3, mo, rfl⟩ ⟨rfl, rfl⟩
      have lk := mo.state ord (by omega)
      have hrow := hR.at_ zr[k] (List.getElem_mem hk)
      have ez : zr[k]? = some zr[k] := List.getElem?_eq_getElem hk
      have mz : (zr[k]).2 ∈ tb zr := List.mem_map.mpr ⟨zr[k], List.getElem_mem hk, rfl⟩
      have lrow := wf.row _ mz
      rw [show (0 : Int) + (k : Int) = (k : Int) by omega]
      walk_at "go"
      rw [decide_eq_false (show ¬ (e : Int) ≤ (k : Int) by omega)]
      walk_at "go"
      refine ⟨r, _, _, _, rfl, rfl, hR.sq, atI_nat (v := .ref (zr[k]).1) (by rw [List.getElem?_map, ez]; rfl), ?_⟩
      walk_at "go"
      refine ⟨⟨_, hrow⟩, ?_⟩
      refine for_gen (n := m) (fun j σ J2 => J2 = J' ∧ ∃ (e : Nat) (v3 : Option V), MO (tb zr) k j e ∧ σ = [some (.ref r), some (.int (e : Int)), some (.int (k : Int)), v3]) ⟨rfl, e, v3, mo, rfl⟩ ?_ ?_ ?_ ?_
      · rintro j σ J2 hj ⟨rfl, _⟩
        exact ⟨_, eV ((zr[k]).2.getD j none), hrow, row_at (by omega)⟩
      · rintro σ J2 ⟨rfl, _⟩
        exact ⟨_, hrow, by rw [List.length_map]; omega⟩
      · rintro j σ J2 x J3 hj ⟨rfl, e, v3, mo, rfl⟩ ⟨rfl, ex⟩
        have ex := ex _ hrow
        rw [row_at (by omega)] at ex
        cases ex
        have rx : (zr[k]).2.getD j none = nx (tb zr) k j := row_nx ez (by omega)
        rw [rx]
        cases eo : nx (tb zr) k j with
        | none =>
          dsimp only [eV]
          walk_at "go"
          exact ⟨e, _, mo.keep (fun j' h => by rw [eo] at h; cases h), rfl⟩
        | some t =>
          have le := mo.entry ord wf eo
          dsimp only [eV]
          walk_at "go"
          rw [decide_eq_false (show ¬ (e : Int) < (t : Int) by omega)]
          walk_at "go"
          refine ite2 (fun c => ?_) (fun c => ?_)
          · have ee : t = e := by have := of_decide_eq_true c; injection this with this; omega
            subst ee
            walk_at "go"
            exact ⟨t + 1, _, mo.more wf eo, rfl⟩
          · have ne : t ≠ e := fun z => c (decide_eq_true (by rw [z]))
            walk_at "go"
            exact ⟨e, _, mo.keep (fun j' h => by rw [eo] at h; cases h; omega), rfl⟩
      · rintro σ J2 ⟨rfl, e, v3, mo, rfl⟩
        walk_at "go"
        exact ⟨e, _, _, mo.row wf, rfl⟩
    · rintro σ J ⟨rfl, e, v2, v3, mo, rfl⟩
      walk_at "go"
      refine ⟨r, _, rfl, .inr hR.sq, ?_⟩
      rw [lA]
      walk_at "go"
      refine ite2 (fun c => ?_) (fun c => ?_)
      · exact q
      · have n0 : zr.length ≠ 0 := fun z => c (decide_eq_true (by rw [z]; rfl))
        have fe := (show MO (tb zr) (tb zr).length 0 e by rw [lT]; exact mo).fin ord (by omega)
        rw [lT] at fe
        subst fe
        walk_at "go"
        refine ⟨r, _, rfl, .inr hR.sq, ?_⟩
        rw [lA]
        walk_at "go"
        rw [decide_eq_true (p := V.int ((zr.length : Nat) : Int) = V.int ((zr.length : Nat) : Int)) rfl]
        exact q
end
end Z
set_option pp.maxSteps 700
set_option Elab.async false
set_option linter.all false
set_option maxRecDepth 100000
set_option maxHeartbeats 4000000
open SX (S S_inj S_len S_cat)
namespace Z
open Mc
open PySem PySem.Spec PyProof.Rows L2
open C8 (pss_cut tCut)
local macro_rules | `(tactic| walk_at "num") => `(tactic| first | rfl | omega | decide | exact Nat.le_of_lt (small1000 (by simp)) | exact ⟨by omega, by omega⟩ | exact ⟨by omega, by omega, by omega⟩ | exact ⟨by decide, by decide, by decide⟩ | exact Or.inl ⟨by omega, by omega⟩ | exact Or.inr ⟨by omega, by omega⟩)
local macro_rules | `(tactic| walk_at "go") => `(tactic| repeat (first | refine ⟨_, rfl, ?_⟩ | refine ⟨_, _, rfl, rfl, ?_⟩ | refine ⟨_, _, rfl, ?_⟩ | (refine ⟨_, _, rfl, rfl, ?_, ?_⟩; focus walk_at "num") | refine Or.inl ⟨_, rfl, ?_⟩ | refine ⟨_, _, _, _, rfl, rfl, (by assumption), (by rfl), ?_⟩ | refine ⟨_, _, _, _, _, rfl, (by assumption), (by assumption), (by assumption), (by rfl), ?_⟩ | refine ⟨rfl, ?_⟩ | (refine And.intro ?_ ?_; focus walk_at "num")))
abbrev s_alive : Stmt := topS 30
abbrev N_alive : List Str := ["_law_rows", "_law_good", "_law_state", "_law_alive_here", "_law_turn", "_law_entry_here"]
abbrev P_alive : List Str := ["_law_rows", "_law_good"]
theorem sc_alive : FnScope N_alive P_alive (defScope s_alive) := ⟨rfl, rfl, rfl, by decide +kernel, rfl, by decide +kernel, by decide +kernel⟩
theorem rd_sqG {b : Bool} {K : PySem.W.Frag} {tl : TE} {σ : L2.St} {H : Hp} {a : Addr} {xs : List V} {R : It → Hp → Prop} (ht : ∀ Q : VK, Q (.ref a) H → tl σ H Q) (h : SqK b K H a xs) (r : R (ItQ b K a) H) : iSeq K tl σ H R := by
  cases b
  · exact .r (ht _ ⟨a, rfl, ⟨xs, h⟩, r⟩)
  · exact .l (ht _ ⟨a, rfl, ⟨xs, h⟩, r⟩)
section
variable {P : Program} {w : World} {K : PySem.W.Frag} {mg : Str → Option Value} {base : Heap} {f C : Addr} {fd : FuncData}
def spAlv (K : PySem.W.Frag) : Sp := fun vs H Q _ => ∃ (q1 q2 q3 : Bool) (m : Nat) (a g : Addr) (zs : List (Addr × List (Option Nat))) (gs : List Nat), vs = [.ref a, .ref g] ∧ Tb q1 q2 K H a zs ∧ Wf (tb zs) m ∧ zs.length ≤ 100 ∧ m ≤ 1000 ∧ SqK q3 K H g (gsq gs) ∧ ∀ (L : Addr) (al : Nat → Bool) H', Same H H' → H L = none → H' L = some (.lst (bls zs.length al)) → (∀ s, s < zs.length → (al s = true ↔ Liv (tb zs) (inG gs) s)) → Q (.ref L) H'
theorem ok_alive (F : FnP K "_law_alive" s_alive f fd) (m_len : mg "len" = none) (m_range : mg "range" = none) : FnOk P w K mg base CX0 1 f fd P_alive (spAlv K) := by
  refine F.ok sc_alive (fun vs H Q E h => ?_) (fun cdv A outer s H vs Q E hr h => ?_)
  · obtain ⟨q1, q2, q3, m, a, g, zs, gs, rfl, _⟩ := h
    rfl
  · obtain ⟨q1b, q2, q3, m, a, g, zs, gs, rfl, hT, wf, lz, lm, hG, q⟩ := h
    refine ⟨_, PSs.nox (pss_cons (ps_set (i := 3) sc_alive.nd rfl (by first | exact .inl rfl | exact .inr rfl) (pe_lc (own := [("_law_state", 2)]) (g := (gName 2)) (tt := tYes) (by rfl) sc_alive.nd (pi_range1 (by rfl) m_range (pa_cons (pe_callB call_len_seq (by rfl) m_len PySem.boot_len (pa_cons (pv 0) pa_nil)) pa_nil)) (blkOk_by (own := [("_law_state", 2)]) (N := N_alive) (sc := defScope s_alive) (by decide +kernel)) (fun _ _ _ _ _ => (pg_name (i := 2) sc_alive.nd rfl (by first | exact .inl rfl | exact .inr rfl))) (fun _ _ _ _ _ => pts_nil) (fun _ _ _ _ _ => (pe_cmpR (op_in_seq_K (K := K) rfl) (pv 2) (pv 1) (by rfl)))))
      (pss_cons (ps_for PassesOwn.never rfl (pi_range1 (by rfl) m_range (pa_cons (pe_callB call_len_seq (by rfl) m_len PySem.boot_len (pa_cons (pv 0) pa_nil)) pa_nil)) (pg_name (i := 4) sc_alive.nd rfl (by first | exact .inl rfl | exact .inr rfl))
        (pss_one (ps_for PassesOwn.never rfl (pi_range1 (by rfl) m_range (pa_cons (pe_callB call_len_seq (by rfl) m_len PySem.boot_len (pa_cons (pv 0) pa_nil)) pa_nil)) (pg_name (i := 2) sc_alive.nd rfl (by first | exact .inl rfl | exact .inr rfl))
        (pss_one (ps_if (pt_cmpR op_gt (pe_callB call_len_seq (by rfl) m_len PySem.boot_len (pa_cons (pe_lc (own := [("_law_entry_here", 5)]) (g := (gName 5)) (by rfl) sc_alive.nd (pi_sq (pe_ix ix_seq (pv 0) (pv 2) (fun _ _ => rfl))) (blkOk_by (own := [("_law_entry_here", 5)]) (N := N_alive) (sc := defScope s_alive) (by decide +kernel)) (fun _ _ _ _ _ => (pg_name (i := 5) sc_alive.nd rfl (by first | exact .inl rfl | exact .inr rfl))) (fun _ _ _ _ _ => (pts_one (PW.pt (pw_and (pt_cmpR op_notN (pv 5) pe_non (nomark _)) (pw_and1 (pt_val (pe_ix (ix_list_K (K := K) rfl) (pv 3) (pv 5) (fun _ _ => rfl)))))))) (fun _ _ _ _ _ => (pv 5))) pa_nil)) pe_int (nomark _)) (pss_one (ps_asg pe_bl (pg_sub (pv 3) (pv 2) set_list))) pss_nil)))))
      (pss_one (ps_ret (pv 3))))), ?_⟩
    obtain ⟨n, hn⟩ : ∃ n, n = zs.length := ⟨_, rfl⟩
    obtain ⟨T, hT'⟩ : ∃ T, T = tb zs := ⟨_, rfl⟩
    have lT : T.length = n := by rw [hT', hn]; exact List.length_map ..
    rw [← hT'] at wf q
    rw [← hn] at lz q
    walk_at "go"
    refine ⟨a, _, rfl, sqk_or hT.sq, ?_⟩
    rw [List.length_map, ← hn]
    walk_at "go"
    intro A0 nA
    refine lc_gen (n := n) (fun k J => Same H J ∧ J A0 = some (.lst (bls k fun i => decide (i ∈ gs)))) ⟨same_new nA, upd_same⟩ ?_ ?_ ?_ ?_
    · intro k J hk _
      show k < ((n : Int)).toNat
      omega
    · intro J _
      show ((n : Int)).toNat ≤ n
      omega
    · rintro k J x J' hk ⟨s2, eA⟩ ⟨rfl, rfl⟩
      walk_at "go"
      refine ⟨g, _, rfl, sqk_or (Z.Same.sqK s2 hG), rfl, gsq_flat gs, ?_⟩
      rw [show (0 : Int) + (k : Int) = (k : Int) by omega, inV_gsq]
      refine ⟨_, eA, by rw [bls_len]; exact szC (by omega), Z.Same.mut s2 nA, ?_⟩
      unfold bls
      rw [upd_same, List.range_succ, List.map_append]
      rfl
    rintro J ⟨s2, eA⟩
    walk_at "go"
    refine ⟨a, _, rfl, sqk_or (hT.mono s2).sq, ?_⟩
    rw [List.length_map, ← hn]
    walk_at "go"
    refine for_gen (n := n) (fun r σ J => Same H J ∧ ∃ (al : Nat → Bool) (v2 v4 : Option V), J A0 = some (.lst (bls n al)) ∧ (∀ s, s < n → al s = true → Liv T (inG gs) s) ∧ (∀ s, s ∈ gs → al s = true) ∧ (r ≤ cnt al T.length ∨ ∀ s k e, nx T s k = some e → al e = true → al s = true) ∧ σ = [some (.ref a), some (.ref g), v2, some (.ref A0), v4, none]) ⟨s2, _, none, none, eA, fun s _ h => liv_good (show s ∈ gs from of_decide_eq_true h), fun s h => decide_eq_true h, .inl (Nat.zero_le _), rfl⟩ ?_ ?_ ?_ ?_
    · intro r σ J hr _
      show r < ((n : Int)).toNat
      omega
    · intro σ J _
      show ((n : Int)).toNat ≤ n
      omega
    · rintro r σ J x J' hr2 ⟨s3, al0, v2, v4, eA, snd, hgl, pr, rfl⟩ ⟨rfl, rfl⟩
      walk_at "go"
      refine ⟨a, _, rfl, sqk_or (hT.mono s3).sq, ?_⟩
      rw [List.length_map, ← hn]
      walk_at "go"
      refine for_gen (n := n) (fun j σ J => Same H J ∧ ∃ (al : Nat → Bool) (v2 v4 : Option V), J A0 = some (.lst (bls n al)) ∧ (∀ s, s < n → al s = true → Liv T (inG gs) s) ∧ (∀ s, al0 s = true → al s = true) ∧ ((∀ s k e, nx T s k = some e → al0 e = true → al0 s = true) → ∀ s, al s = al0 s) ∧ (∀ s, s < j → ∀ k e, nx T s k = some e → al0 e = true → al s = true) ∧ σ = [some (.ref a), some (.ref g), v2, some (.ref A0), v4, none]) ⟨s3, al0, _, _, eA, snd, fun _ h => h, fun _ _ => rfl, fun s hs => absurd hs (Nat.not_lt_zero _), rfl⟩ ?_ ?_ ?_ ?_
      · intro j σ J hj _
        show j < ((n : Int)).toNat
        omega
      · intro σ J _
        show ((n : Int)).toNat ≤ n
        omega
      · rintro j σ J x J2 hj ⟨s4, al, v2, v4, eA, snd, mo, cl, st, rfl⟩ ⟨rfl, rfl⟩
        obtain ⟨z, ez⟩ : ∃ z, zs[j]? = some z := ⟨_, List.getElem?_eq_getElem (by omega)⟩
        have hT4 := hT.mono s4
        have hz := hT4.at_ z (List.mem_of_getElem? ez)
        have mz : z.2 ∈ T := by rw [hT']; exact List.mem_map.mpr ⟨z, List.mem_of_getElem? ez, rfl⟩
        have lzr := wf.row _ mz
        have rx : ∀ i, i < m → z.2.getD i none = nx T j i := fun i hi => by rw [hT']; exact row_nx ez (by omega)
        rw [show (0 : Int) + (j : Int) = (j : Int) by omega]
        walk_at "go"
        refine rd_sqG (fun Q9 q9 => ?_) hz ?_
        · walk_at "go"
          exact ixv hT4.sq (atI_nat (v := .ref z.1) (by rw [List.getElem?_map, ez]; rfl)) q9
        intro B nB
        refine lc_flt (n := m) (fun i => eV (z.2.getD i none)) (fun i => elB al (z.2.getD i none)) (fun i => eV (z.2.getD i none)) (by omega) nB (fun i J3 hi s6 => itq_go (Z.Same.sqK s6 hz) (row_at (by omega))) (fun J3 s6 => itq_stop (Z.Same.sqK s6 hz) (by rw [List.length_map]; omega)) (fun i J3 x J4 hi s6 y => ?_) (fun i => rfl) (fun i J3 Q1 hi s6 q1 => ?_) (fun i J3 Q1 hi _ s6 q1 => ?_) (fun J3 s6 eB => ?_)
        · obtain ⟨rfl, ex⟩ := itq_yld (Z.Same.sqK s6 hz) y
          rw [row_at (by omega)] at ex
          cases ex
          exact ⟨Same.refl _, rfl⟩
        · rw [rx i hi] at q1 ⊢
          cases e2 : nx T j i with
          | none =>
            rw [e2] at q1
            walk_at "go"
            exact q1 _ (Same.refl _)
          | some e =>
            rw [e2] at q1
            have he := (nx_lt wf e2).1
            rw [lT] at he
            dsimp only [eV]
            walk_at "go"
            exact ⟨A0, _, _, _, rfl, rfl, SqL.of (s6 _ _ eA), bls_at he, _, rfl, q1 _ (Same.refl _)⟩
        · walk_at "go"
          exact q1 _ (Same.refl _)
        walk_at "go"
        refine ⟨B, _, rfl, .inl (SqL.of eB), ?_⟩
        have s7 := s4.trans s6
        have eA3 := s6 _ _ eA
        have some_live : 0 < (fltL (fun i => elB al (z.2.getD i none)) (fun i => eV (z.2.getD i none)) m).length → ∃ k e, nx T j k = some e ∧ al e = true := fun h => by
          unfold fltL at h
          rw [List.length_map] at h
          obtain ⟨i, hi⟩ := List.exists_mem_of_length_pos h
          obtain ⟨h1, h2⟩ := List.mem_filter.mp hi
          rw [rx i (List.mem_range.mp h1)] at h2
          cases e5 : nx T j i with
          | none => rw [e5] at h2; cases h2
          | some e => rw [e5] at h2; exact ⟨i, e, e5, h2⟩
        have live_some : ∀ k e, nx T j k = some e → al e = true → 0 < (fltL (fun i => elB al (z.2.getD i none)) (fun i => eV (z.2.getD i none)) m).length := fun k e h1 h2 => by
          unfold fltL
          rw [List.length_map]
          refine List.length_pos_of_mem (a := k) (List.mem_filter.mpr ⟨List.mem_range.mpr (nx_lt wf h1).2.1, ?_⟩)
          rw [rx k (nx_lt wf h1).2.1, h1]
          exact h2
        generalize (fltL (fun i => elB al (z.2.getD i none)) (fun i => eV (z.2.getD i none)) m).length = len at some_live live_some
        walk_at "go"
        refine ite2 (fun e => ?_) (fun e => ?_)
        · have lp : 0 < len := by have := of_decide_eq_true e; omega
          obtain ⟨k, e', h1, h2⟩ := some_live lp
          have he := (nx_lt wf h1).1
          rw [lT] at he
          walk_at "go"
          refine ⟨A0, _, _, j, rfl, rfl, eA3, by rw [bls_len]; exact ixN_nat hj, ?_⟩
          rw [bls_set]
          refine ⟨Z.Same.mut s7 nA, fun i => if i = j then true else al i, _, _, upd_same, fun s hs h => ?_, fun s h => ?_, fun c s => ?_, fun s hs k2 e2 h3 h4 => ?_, rfl⟩
          · by_cases c : s = j
            · rw [c]
              exact liv_step h1 (snd e' he h2)
            · simp only [c, if_false] at h
              exact snd s hs h
          · by_cases c : s = j
            · simp [c]
            · simp only [c, if_false]
              exact mo s h
          · by_cases d : s = j
            · subst d
              simp only [if_true]
              rw [cl c] at h2
              exact (c s k e' h1 h2).symm
            · simp only [d, if_false]
              exact cl c s
          · by_cases c : s = j
            · simp [c]
            · simp only [c, if_false]
              exact st s (by omega) k2 e2 h3 h4
        · have lp : ¬ 0 < len := fun z => e (decide_eq_true (by omega))
          refine ⟨s7, al, _, _, eA3, snd, mo, cl, fun s hs k2 e2 h3 h4 => ?_, rfl⟩
          by_cases c : s = j
          · subst c
            exact absurd (live_some k2 e2 h3 (mo e2 h4)) lp
          · exact st s (by omega) k2 e2 h3 h4
      · rintro σ J ⟨s4, al, v2, v4, eA, snd, mo, cl, st, rfl⟩
        exact ⟨s4, al, _, _, eA, snd, fun s h => mo s (hgl s h), round_end wf pr mo cl (by rw [lT]; exact st), rfl⟩
    · rintro σ J ⟨s3, al, v2, v4, eA, snd, hgl, pr, rfl⟩
      walk_at "go"
      refine q A0 al J s3 nA eA fun s hs => ⟨snd s hs, fun l => ?_⟩
      rcases pr with pr | cl
      · rw [lT] at pr
        exact cnt_all pr s hs
      · exact liv_closed (al := fun s => al s = true) hgl cl l
end
end Z
set_option pp.maxSteps 700
set_option Elab.async false
set_option linter.all false
set_option maxRecDepth 100000
set_option maxHeartbeats 4000000
open SX (S S_inj S_len S_cat)
namespace Mc
theorem mk_row {T : Tbl} {m : Nat} (wf : Wf T m) {cl c : Nat → Nat} {r : Nat} (h : ∀ s s', s < T.length → s' < T.length → (cl s = cl s' ↔ Eqt T m c r s s')) {s s' : Nat} (hs : s < T.length) (hs' : s' < T.length) : (T.getD s []).map (mkI cl) = (T.getD s' []).map (mkI cl) ↔ ∀ k, k < m → mt (Eqt T m c r) (nx T s k) (nx T s' k) := by
  have l1 := wf.row _ (getD_mem hs)
  have l2 := wf.row _ (getD_mem hs')
  have one : ∀ k, (mkI cl (nx T s k) = mkI cl (nx T s' k) ↔ mt (Eqt T m c r) (nx T s k) (nx T s' k)) := fun k => by
    cases e1 : nx T s k with
    | none =>
      cases e2 : nx T s' k with
      | none => exact ⟨fun _ => trivial, fun _ => rfl⟩
      | some b => exact ⟨fun z => (by have z : (-1 : Int) = (cl b : Int) := z; omega), fun z => z.elim⟩
    | some a =>
      cases e2 : nx T s' k with
      | none => exact ⟨fun z => (by have z : (cl a : Int) = -1 := z; omega), fun z => z.elim⟩
      | some b =>
        rw [show mt (Eqt T m c r) (some a) (some b) ↔ Eqt T m c r a b from Iff.rfl, ← h a b (nx_lt wf e1).1 (nx_lt wf e2).1]
        exact ⟨fun z => (by have z : (cl a : Int) = (cl b : Int) := z; omega), fun z => (by show (cl a : Int) = (cl b : Int); rw [z])⟩
  have get : ∀ {s : Nat}, s < T.length → ∀ k, k < m → ((T.getD s []).map (mkI cl))[k]? = some (mkI cl (nx T s k)) := fun {s} hs k hk => by
    have l := wf.row _ (getD_mem hs)
    rw [List.getElem?_map]
    unfold nx
    rw [List.getD_eq_getElem?_getD (l := T.getD s []), List.getElem?_eq_getElem (by omega)]
    rfl
  constructor
  · exact fun e k hk => (one k).mp (by
      have h1 := get hs k hk
      have h2 := get hs' k hk
      rw [e, h2] at h1
      injection h1 with h1
      exact h1.symm)
  · intro e
    refine List.ext_getElem? fun k => ?_
    by_cases hk : k < m
    · rw [get hs k hk, get hs' k hk, (one k).mpr (e k hk)]
    · rw [List.getElem?_eq_none (by rw [List.length_map]; omega), List.getElem?_eq_none (by rw [List.length_map]; omega)]
/-- the sign of a state -/
def sgn (T : Tbl) (cl : Nat → Nat) (s : Nat) : List Int := (cl s : Int) :: (T.getD s []).map (mkI cl)
theorem sgn_step {T : Tbl} {m : Nat} (wf : Wf T m) {cl c : Nat → Nat} {r : Nat} (h : ∀ s s', s < T.length → s' < T.length → (cl s = cl s' ↔ Eqt T m c r s s')) {s s' : Nat} (hs : s < T.length) (hs' : s' < T.length) : sgn T cl s = sgn T cl s' ↔ Eqt T m c (r + 1) s s' := by
  unfold sgn
  constructor
  · intro e
    injection e with e1 e2
    exact ⟨(h s s' hs hs').mp (by omega), (mk_row wf h hs hs').mp e2⟩
  · rintro ⟨e1, e2⟩
    rw [(h s s' hs hs').mpr e1, (mk_row wf h hs hs').mpr e2]
end Mc
namespace Z
open Mc
open PySem PySem.Spec PyProof.Rows L2
open C8 (pss_cut tCut)
local macro_rules | `(tactic| walk_at "num") => `(tactic| first | rfl | omega | decide | exact Nat.le_of_lt (small1000 (by simp)) | exact ⟨by omega, by omega⟩ | exact ⟨by omega, by omega, by omega⟩ | exact ⟨by decide, by decide, by decide⟩ | exact Or.inl ⟨by omega, by omega⟩ | exact Or.inr ⟨by omega, by omega⟩)
local macro_rules | `(tactic| walk_at "go") => `(tactic| repeat (first | refine ⟨_, rfl, ?_⟩ | refine ⟨_, _, rfl, rfl, ?_⟩ | refine ⟨_, _, rfl, ?_⟩ | (refine ⟨_, _, rfl, rfl, ?_, ?_⟩; focus walk_at "num") | refine Or.inl ⟨_, rfl, ?_⟩ | refine ⟨_, _, _, _, rfl, rfl, (by assumption), (by rfl), ?_⟩ | refine ⟨_, _, _, _, _, rfl, (by assumption), (by assumption), (by assumption), (by rfl), ?_⟩ | refine ⟨rfl, ?_⟩ | (refine And.intro ?_ ?_; focus walk_at "num")))
abbrev s_all_apart : Stmt := topS 35
abbrev N_all_apart : List Str := ["_law_rows", "_law_good", "_law_state", "_law_marks", "_law_turn", "_law_signs", "_law_sign", "_law_entry_here"]
abbrev P_all_apart : List Str := ["_law_rows", "_law_good"]
theorem sc_all_apart : FnScope N_all_apart P_all_apart (defScope s_all_apart) := ⟨rfl, rfl, rfl, by decide +kernel, rfl, by decide +kernel, by decide +kernel⟩
theorem u65 {A : Around} {k : Nat} (hr : Room k A) : A.units + 65 < cLine := by have := hr.un; omega
theorem mt_indexDK {X : Cx} (K : PySem.W.Frag) (h : X.K = K) (hu : X.A.units + 65 < cLine) : MtR X "list.index" (rIndexD K) := by subst h; exact mt_indexD hu
theorem pe_bmK {X : Cx} (K : PySem.W.Frag) (h : X.K = K) {o e : Expr} {es : List Expr} {to : TE} {t : TA} {name : Str} {apos cpos : Pos} {T id : String} {r : V → List V → Hp → VK → Prop} (pa : PlainAttrs T) (slot : Slot T name id) (hty : typeOf (.builtin id) = pure (.type "method_descriptor")) (hm : MtR X id r) (ho : PE X o to) (ha : PA X (e :: es) t)
    (hbase : attributeBase o name X.env (eval o X.env) = eval o X.env := by rfl)
    (hfew : ((backTo cpos (starEach (e :: es) X.env)).all (fun x => !x.1) && (backToKw cpos (keywordEach [] X.env)).all (fun x => x.1.isSome)
      && decide ((e :: es).length + ([] : List Keyword).length + (if ([] : List Keyword).isEmpty then 0 else 1) < 30)) = true := by rfl)
    (hline : (apos.endLine == cpos.line) = true := by rfl) (hs : starEach (e :: es) X.env = (false, eval e X.env) :: starEach es X.env := by rfl) (hplain : (backTo cpos (starEach es X.env)).any (·.1) = false := by rfl) :
    PE X (.Call (.Attribute o name apos) (e :: es) [] cpos) (tBM K T r to t) := by
  subst h
  exact pe_bm pa slot hty hm ho ha hbase hfew hline hs hplain
theorem dep_int : ∀ r : List Int, PyData.depthAll (r.map PyData.int) = 0
  | [] => rfl
  | _ :: r => by
    rw [List.map_cons, PyData.depthAll, dep_int r]
    rfl
theorem dpa_ims {K : PySem.W.Frag} {H : Hp} : ∀ {ms : List (Addr × List Int)}, (∀ z ∈ ms, SqL K H z.1 (z.2.map V.int)) → DpAll K H (ms.map fun z => V.ref z.1) ((ms.map (·.2)).map (intsD true))
  | [], _ => .nil
  | z :: ms, h => .cons (dp_ints (b := true) (h z List.mem_cons_self)) (dpa_ims fun y m => h y (List.mem_cons_of_mem _ m))
theorem lay_ims : ∀ T : List (List Int), PyData.canLayAll0 (T.map (intsD true)) = true
  | [] => rfl
  | n :: r => by
    rw [List.map_cons, PyData.canLayAll0, lay_ims r, SeqAt.canLay_of_shaped (shaped_ints true n)]
    rfl
theorem dep_ims : ∀ T : List (List Int), PyData.depthAll (T.map (intsD true)) ≤ 1
  | [] => Nat.zero_le _
  | n :: r => by
    rw [List.map_cons, PyData.depthAll]
    have h := dep_ims r
    have h2 : (intsD true n).depth = 1 := by
      show PyData.depthAll (n.map PyData.int) + 1 = 1
      rw [dep_int]
    omega
theorem shaped_ims (T : List (List Int)) : SeqAt.shaped (.list (T.map (intsD true))) = true := by
  have h := dep_ims T
  unfold SeqAt.shaped
  show (PyData.canLayAll0 (T.map (intsD true)) && decide (PyData.depthAll (T.map (intsD true)) + 1 ≤ 64)) = true
  rw [lay_ims, decide_eq_true (by omega)]
  rfl
theorem eqv_ints' (a b : List Int) : PyData.eqv (intsD true a) (intsD true b) = decide (a = b) := by
  show PyData.eqv (.list _) (.list _) = _
  rw [PyData.eqv, PySem.W.ked_eqvAll]
section
variable {P : Program} {w : World} {K : PySem.W.Frag} {mg : Str → Option Value} {base : Heap} {f C : Addr} {fd : FuncData}
def spAap (K : PySem.W.Frag) : Sp := fun vs H Q _ => ∃ (m : Nat) (r u : Addr) (zr : List (Addr × List (Option Nat))) (g : List Nat), vs = [.ref r, .ref u] ∧ Tb false false K H r zr ∧ H u = some (.tup (gsq g)) ∧ Wf (tb zr) m ∧ m ≤ 100 ∧ zr.length ≤ 100 ∧ (∀ i j, i < zr.length → j < zr.length → Leq (tb zr) (fun x => x ∈ g) i j → i = j) ∧ (∀ i, i < zr.length → Liv (tb zr) (fun x => x ∈ g) i) ∧ ∀ H', Same H H' → Q (.bl true) H'
theorem ok_all_apart (F : FnP K "_law_all_apart" s_all_apart f fd) (m_len : mg "len" = none) (m_range : mg "range" = none) (m_int : mg "int" = none) : FnOk P w K mg base CX0 1 f fd P_all_apart (spAap K) := by
  refine F.ok sc_all_apart (fun vs H Q E h => ?_) (fun cdv A outer s H vs Q E hr h => ?_)
  · obtain ⟨m, r, u, zr, g, rfl, _⟩ := h
    rfl
  · obtain ⟨m, r, u, zr, g, rfl, hR, hu, wf, lm, lz, ap, lv, q⟩ := h
    refine ⟨_, PSs.nox (pss_cons (ps_set (i := 3) sc_all_apart.nd rfl (by first | exact .inl rfl | exact .inr rfl) (pe_lc (own := [("_law_state", 2)]) (g := (gName 2)) (tt := tYes) (by rfl) sc_all_apart.nd (pi_range1 (by rfl) m_range (pa_cons (pe_callB call_len_seq (by rfl) m_len PySem.boot_len (pa_cons (pv 0) pa_nil)) pa_nil)) (blkOk_by (own := [("_law_state", 2)]) (N := N_all_apart) (sc := defScope s_all_apart) (by decide +kernel)) (fun _ _ _ _ _ => (pg_name (i := 2) sc_all_apart.nd rfl (by first | exact .inl rfl | exact .inr rfl))) (fun _ _ _ _ _ => pts_nil) (fun _ _ _ _ _ => (pe_callTy call_int1 (by rfl) m_int (by decide +kernel) (pa_cons (pe_cmpR (op_in_seq_K (K := K) rfl) (pv 2) (pv 1) (by rfl)) pa_nil)))))
      (pss_cons (ps_for PassesOwn.never rfl (pi_range1 (by rfl) m_range (pa_cons (pe_callB call_len_seq (by rfl) m_len PySem.boot_len (pa_cons (pv 0) pa_nil)) pa_nil)) (pg_name (i := 4) sc_all_apart.nd rfl (by first | exact .inl rfl | exact .inr rfl))
        (pss_cons (ps_set (i := 5) sc_all_apart.nd rfl (by first | exact .inl rfl | exact .inr rfl) (pe_lst pa_nil))
      (pss_cons (ps_for PassesOwn.never rfl (pi_range1 (by rfl) m_range (pa_cons (pe_callB call_len_seq (by rfl) m_len PySem.boot_len (pa_cons (pv 0) pa_nil)) pa_nil)) (pg_name (i := 2) sc_all_apart.nd rfl (by first | exact .inl rfl | exact .inr rfl))
        (pss_cons (ps_set (i := 6) sc_all_apart.nd rfl (by first | exact .inl rfl | exact .inr rfl) (pe_lst (pa_cons (pe_ix ix_list (pv 3) (pv 2) (fun _ _ => rfl)) pa_nil)))
      (pss_cons (ps_for PassesOwn.never rfl (pi_tup (pe_ix ix_tup (pv 0) (pv 2) (fun _ _ => rfl))) (pg_name (i := 7) sc_all_apart.nd rfl (by first | exact .inl rfl | exact .inr rfl))
        (pss_one (ps_if (pt_cmpR op_isN (pv 7) pe_non (nomark _)) (pss_one (ps_expr (pe_bm PySem.F.plainAttrs_list PySem.F.slot_list_append PySem.F.type_list_append mt_append (pv 6) (pa_cons (pe_un un_neg pe_int) pa_nil)))) (pss_one (ps_expr (pe_bm PySem.F.plainAttrs_list PySem.F.slot_list_append PySem.F.type_list_append mt_append (pv 6) (pa_cons (pe_ix ix_list (pv 3) (pv 7) (fun _ _ => rfl)) pa_nil)))))))
      (pss_one (ps_expr (pe_bm PySem.F.plainAttrs_list PySem.F.slot_list_append PySem.F.type_list_append mt_append (pv 5) (pa_cons (pv 6) pa_nil)))))))
      (pss_one (ps_set (i := 3) sc_all_apart.nd rfl (by first | exact .inl rfl | exact .inr rfl) (pe_lc (own := [("_law_sign", 6)]) (g := (gName 6)) (tt := tYes) (by rfl) sc_all_apart.nd (pi_list (pv 5)) (blkOk_by (own := [("_law_sign", 6)]) (N := N_all_apart) (sc := defScope s_all_apart) (by decide +kernel)) (fun _ _ _ _ _ => (pg_name (i := 6) sc_all_apart.nd rfl (by first | exact .inl rfl | exact .inr rfl))) (fun _ _ _ _ _ => pts_nil) (fun _ _ _ _ _ => (pe_bmK K rfl PySem.F.plainAttrs_list PySem.F.slot_list_index PySem.F.type_list_index (mt_indexDK K rfl (u65 hr)) (pv 5) (pa_cons (pv 6) pa_nil)))))))))
      (pss_one (ps_ret (pe_cmpR op_eq (pe_callB call_len_seq (by rfl) m_len PySem.boot_len (pa_cons (pe_lc (own := [("_law_state", 2)]) (g := (gName 2)) (by rfl) sc_all_apart.nd (pi_range1 (by rfl) m_range (pa_cons (pe_callB call_len_seq (by rfl) m_len PySem.boot_len (pa_cons (pv 0) pa_nil)) pa_nil)) (blkOk_by (own := [("_law_state", 2)]) (N := N_all_apart) (sc := defScope s_all_apart) (by decide +kernel)) (fun _ _ _ _ _ => (pg_name (i := 2) sc_all_apart.nd rfl (by first | exact .inl rfl | exact .inr rfl))) (fun _ _ _ _ _ => (pts_one (pt_cmpR op_ne (pe_ix (ix_list_K (K := K) rfl) (pv 3) (pv 2) (fun _ _ => rfl)) (pv 2) (nomark _)))) (fun _ _ _ _ _ => (pv 2))) pa_nil)) pe_int (nomark _)))))), ?_⟩
    have lT : (tb zr).length = zr.length := List.length_map ..
    have lA : (zr.map fun z => V.ref z.1).length = zr.length := List.length_map ..
    walk_at "go"
    refine ⟨r, _, rfl, .inr hR.sq, ?_⟩
    rw [lA]
    walk_at "go"
    intro A0 nA
    refine lc_flt (n := zr.length) (fun k => .int (0 + (k : Int))) (fun _ => true) (fun k => .int ((if k ∈ g then 1 else 0 : Nat) : Int)) (by omega) nA (fun k J hk s2 => ?_) (fun J s2 => ?_) (fun k J x J2 hk s2 y => ?_) (fun k => rfl) (fun k J Q1 _ _ q1 => q1 _ (Same.refl _)) (fun k J Q1 hk _ s2 q1 => ?_) (fun J s1 eA => ?_)
    · show k < ((zr.length : Int)).toNat
      omega
    · show ((zr.length : Int)).toNat ≤ zr.length
      omega
    · obtain ⟨rfl, rfl⟩ := y
      exact ⟨Same.refl _, rfl⟩
    · rw [show (0 : Int) + (k : Int) = (k : Int) by omega]
      have q1 := q1 _ (Same.refl _)
      walk_at "go"
      refine ⟨u, _, rfl, .inr (SqT.of (s2 _ _ hu)), rfl, gsq_flat g, ?_⟩
      rw [inV_gsq]
      refine .inr ⟨_, rfl, ?_⟩
      by_cases c : k ∈ g
      · rw [decide_eq_true c]
        rw [if_pos c] at q1
        exact q1
      · rw [decide_eq_false c]
        rw [if_neg c] at q1
        exact q1
    have eA : J A0 = some (.lst (nls zr.length fun k => if k ∈ g then 1 else 0)) := by
      rw [eA, fltL_all]
      rfl
    walk_at "go"
    refine ⟨r, _, rfl, .inr (Z.Same.sqK (b := false) s1 hR.sq), ?_⟩
    rw [lA]
    walk_at "go"
    obtain ⟨T, hT⟩ : ∃ T, T = tb zr := ⟨_, rfl⟩
    rw [← hT] at wf ap lv lT
    obtain ⟨c0, hc0⟩ : ∃ c0 : Nat → Nat, c0 = fun k => if k ∈ g then 1 else 0 := ⟨_, rfl⟩
    rw [← hc0] at eA
    refine for_gen (n := zr.length) (fun t σ J => Same H J ∧ ∃ (L : Addr) (cl : Nat → Nat) (v2 v4 v5 v6 v7 : Option V), J L = some (.lst (nls zr.length cl)) ∧ (∀ s s', s < T.length → s' < T.length → (cl s = cl s' ↔ Eqt T m c0 t s s')) ∧ (∀ s, s < T.length → 0 < t → cl s < T.length ∧ cl (cl s) = cl s) ∧ σ = [some (.ref r), some (.ref u), v2, some (.ref L), v4, v5, v6, v7]) ⟨s1, A0, c0, none, none, none, none, none, eA, fun s s' _ _ => Iff.rfl, fun s _ h => by omega, rfl⟩ ?_ ?_ ?_ ?_
    · intro t σ J hk _
      show t < ((zr.length : Int)).toNat
      omega
    · intro σ J _
      show ((zr.length : Int)).toNat ≤ zr.length
      omega
    · rintro t σ J x J' ht ⟨s2, L, cl, v2, v4, v5, v6, v7, eL, hcl, hfs, rfl⟩ ⟨rfl, rfl⟩
      walk_at "go"
      intro D nD
      have s3 := same_new (o := .lst []) nD
      have eD : (upd J' D (.lst [])) D = some (.lst (([] : List (Addr × List Int)).map fun z => V.ref z.1)) := upd_same
      have eL3 := s3 _ _ eL
      have LD : L ≠ D := ne_of_none eL nD
      have nDH := none_of s2 nD
      generalize upd J' D (.lst []) = J3 at s3 eD eL3
      have s4 := s2.trans s3
      walk_at "go"
      refine ⟨r, _, rfl, .inr (Z.Same.sqK (b := false) s4 hR.sq), ?_⟩
      rw [lA]
      walk_at "go"
      refine for_gen (n := zr.length) (fun k σ J => Same H J ∧ J L = some (.lst (nls zr.length cl)) ∧ ∃ (ms : List (Addr × List Int)) (v2 v6 v7 : Option V), J D = some (.lst (ms.map fun z => V.ref z.1)) ∧ (∀ z ∈ ms, J z.1 = some (.lst (z.2.map V.int)) ∧ z.1 ≠ D) ∧ ms.map (·.2) = (List.range k).map (sgn T cl) ∧ σ = [some (.ref r), some (.ref u), v2, some (.ref L), some (.int (0 + (t : Int))), some (.ref D), v6, v7]) ⟨s4, eL3, [], v2, v6, v7, eD, fun z h => absurd h (by simp), rfl, rfl⟩ ?_ ?_ ?_ ?_
      · intro k σ J hk _
        show k < ((zr.length : Int)).toNat
        omega
      · intro σ J _
        show ((zr.length : Int)).toNat ≤ zr.length
        omega
      · rintro k σ J x J2 hk ⟨s5, eL5, ms, v2, v6, v7, eD5, hms, ems, rfl⟩ ⟨rfl, rfl⟩
        have lm2 : ms.length = k := by
          have := congrArg List.length ems
          rwa [List.length_map, List.length_map, List.length_range] at this
        have ez : zr[k]? = some zr[k] := List.getElem?_eq_getElem hk
        have mz : (zr[k]).2 ∈ T := by rw [hT]; exact List.mem_map.mpr ⟨zr[k], List.getElem_mem hk, rfl⟩
        have lrow := wf.row _ mz
        have eT : T.getD k [] = (zr[k]).2 := by rw [hT, List.getD_eq_getElem?_getD]; unfold tb; rw [List.getElem?_map, ez]; rfl
        rw [show (0 : Int) + (k : Int) = (k : Int) by omega]
        walk_at "go"
        refine ⟨L, _, _, _, rfl, rfl, SqL.of eL5, nls_at hk, ?_⟩
        walk_at "go"
        intro B nB
        have s6 := same_new (o := .lst [.int (cl k : Int)]) nB
        have eB : (upd J2 B (.lst [.int (cl k : Int)])) B = some (.lst (((cl k : Int) :: ((zr[k]).2.take 0).map (mkI cl)).map V.int)) := upd_same
        have eL6 := s6 _ _ eL5
        have eD6 := s6 _ _ eD5
        have hm6 : ∀ z ∈ ms, (upd J2 B (.lst [.int (cl k : Int)])) z.1 = some (.lst (z.2.map V.int)) ∧ z.1 ≠ D ∧ z.1 ≠ B := fun z h => ⟨s6 _ _ (hms z h).1, (hms z h).2, ne_of_none (hms z h).1 nB⟩
        have LB : L ≠ B := ne_of_none eL5 nB
        have DB : D ≠ B := ne_of_none eD5 nB
        have nBH := none_of s5 nB
        generalize upd J2 B (.lst [.int (cl k : Int)]) = J6 at s6 eB eL6 eD6 hm6
        have s7 := s5.trans s6
        clear s6 hms eL5 eD5 nB
        walk_at "go"
        refine ⟨r, _, _, _, rfl, rfl, Z.Same.sqK (b := false) s7 hR.sq, atI_nat (v := .ref (zr[k]).1) (by rw [List.getElem?_map, ez]; rfl), ?_⟩
        have hrow := hR.at_ zr[k] (List.getElem_mem hk)
        walk_at "go"
        refine ⟨⟨_, Z.Same.sqK (b := false) s7 hrow⟩, ?_⟩
        refine for_gen (n := m) (fun j σ J => Same H J ∧ J L = some (.lst (nls zr.length cl)) ∧ J D = some (.lst (ms.map fun z => V.ref z.1)) ∧ (∀ z ∈ ms, J z.1 = some (.lst (z.2.map V.int))) ∧ J B = some (.lst (((cl k : Int) :: ((zr[k]).2.take j).map (mkI cl)).map V.int)) ∧ ∃ v7 : Option V, σ = [some (.ref r), some (.ref u), some (.int (k : Int)), some (.ref L), some (.int (0 + (t : Int))), some (.ref D), some (.ref B), v7]) ⟨s7, eL6, eD6, fun z h => (hm6 z h).1, eB, v7, rfl⟩ ?_ ?_ ?_ ?_
        · rintro j σ J hj ⟨s8, _⟩
          exact ⟨_, eV ((zr[k]).2.getD j none), Z.Same.sqK (b := false) s8 hrow, row_at (by omega)⟩
        · rintro σ J ⟨s8, _⟩
          exact ⟨_, Z.Same.sqK (b := false) s8 hrow, by rw [List.length_map]; omega⟩
        · rintro j σ J x J8 hj ⟨s8, eL8, eD8, hm8, eB8, v7, rfl⟩ ⟨rfl, ex⟩
          have ex := ex _ (Z.Same.sqK (b := false) s8 hrow)
          rw [row_at (by omega)] at ex
          cases ex
          have tk : (zr[k]).2.take (j + 1) = (zr[k]).2.take j ++ [(zr[k]).2.getD j none] := by
            rw [List.take_succ, List.getElem?_eq_getElem (by omega), List.getD_eq_getElem?_getD, List.getElem?_eq_getElem (by omega)]
            rfl
          have lt9 : ((cl k : Int) :: ((zr[k]).2.take j).map (mkI cl)).length = j + 1 := by
            rw [List.length_cons, List.length_map, List.length_take]
            omega
          have fin : Same H (upd J8 B (.lst (((cl k : Int) :: ((zr[k]).2.take j).map (mkI cl)).map V.int ++ [.int (mkI cl ((zr[k]).2.getD j none))]))) ∧ (upd J8 B (.lst (((cl k : Int) :: ((zr[k]).2.take j).map (mkI cl)).map V.int ++ [.int (mkI cl ((zr[k]).2.getD j none))]))) L = some (.lst (nls zr.length cl)) ∧ (upd J8 B (.lst (((cl k : Int) :: ((zr[k]).2.take j).map (mkI cl)).map V.int ++ [.int (mkI cl ((zr[k]).2.getD j none))]))) D = some (.lst (ms.map fun z => V.ref z.1)) ∧ (∀ z ∈ ms, (upd J8 B (.lst (((cl k : Int) :: ((zr[k]).2.take j).map (mkI cl)).map V.int ++ [.int (mkI cl ((zr[k]).2.getD j none))]))) z.1 = some (.lst (z.2.map V.int))) ∧ (upd J8 B (.lst (((cl k : Int) :: ((zr[k]).2.take j).map (mkI cl)).map V.int ++ [.int (mkI cl ((zr[k]).2.getD j none))]))) B = some (.lst (((cl k : Int) :: ((zr[k]).2.take (j + 1)).map (mkI cl)).map V.int)) :=
            ⟨Z.Same.mut s8 nBH, by rw [upd_ne LB]; exact eL8, by rw [upd_ne DB]; exact eD8, fun z h => by rw [upd_ne (hm6 z h).2.2]; exact hm8 z h, by rw [upd_same, tk]; simp⟩
          cases eo : (zr[k]).2.getD j none with
          | none =>
            rw [eo] at fin
            dsimp only [eV]
            walk_at "go"
            refine ⟨.inl ⟨rfl, _, SqL.of eB8⟩, ?_⟩
            walk_at "go"
            exact ⟨B, _, _, rfl, rfl, eB8, by rw [List.length_map, lt9]; exact szC (by omega), fin.1, fin.2.1, fin.2.2.1, fin.2.2.2.1, fin.2.2.2.2, _, rfl⟩
          | some e =>
            have he : e < T.length := by
              refine wf.ent _ mz e ?_
              rw [← eo, List.getD_eq_getElem?_getD, List.getElem?_eq_getElem (by omega)]
              exact List.getElem_mem _
            rw [eo] at fin
            dsimp only [eV]
            walk_at "go"
            refine ⟨.inl ⟨rfl, _, SqL.of eB8⟩, ?_⟩
            walk_at "go"
            refine ⟨L, _, _, _, rfl, rfl, SqL.of eL8, nls_at (by omega), ?_⟩
            walk_at "go"
            refine ⟨B, _, _, rfl, rfl, eB8, by rw [List.length_map, lt9]; exact szC (by omega), ?_⟩
            exact ⟨fin.1, fin.2.1, fin.2.2.1, fin.2.2.2.1, fin.2.2.2.2, _, rfl⟩
        · rintro σ J ⟨s8, eL8, eD8, hm8, eB8, v7, rfl⟩
          rw [List.take_of_length_le (by omega)] at eB8
          walk_at "go"
          refine ⟨.inl ⟨rfl, _, SqL.of eD8⟩, ?_⟩
          walk_at "go"
          refine ⟨D, _, _, rfl, rfl, eD8, by rw [List.length_map, lm2]; exact szC (by omega), ?_⟩
          refine ⟨Z.Same.mut s8 nDH, by rw [upd_ne LD]; exact eL8, ms ++ [(B, sgn T cl k)], _, _, _, by rw [upd_same, List.map_append]; rfl, fun z h => ?_, ?_, rfl⟩
          · rcases List.mem_append.mp h with h | h
            · exact ⟨by rw [upd_ne (hm6 z h).2.1]; exact hm8 z h, (hm6 z h).2.1⟩
            · rw [List.mem_singleton.mp h]
              refine ⟨?_, DB.symm⟩
              rw [upd_ne DB.symm, eB8]
              unfold sgn
              rw [eT]
          · rw [List.map_append, ems, List.range_succ, List.map_append]
            rfl
      rintro σ J ⟨s5, eL5, ms, v2, v6, v7, eD5, hms, ems, rfl⟩
      have lm2 : ms.length = zr.length := by
        have := congrArg List.length ems
        rwa [List.length_map, List.length_map, List.length_range] at this
      obtain ⟨fk, hfk⟩ : ∃ fk : Nat → List Int, fk = sgn T cl := ⟨_, rfl⟩
      rw [← hfk] at ems
      have mem : ∀ k, k < zr.length → fk k ∈ ms.map (·.2) := fun k hk => by rw [ems]; exact List.mem_map.mpr ⟨k, List.mem_range.mpr hk, rfl⟩
      have sqD : SqL K J D (ms.map fun z => V.ref z.1) := SqL.of eD5
      walk_at "go"
      refine ⟨⟨_, sqD⟩, ?_⟩
      intro D2 nD2
      refine lc_flt (n := zr.length) (fun k => .ref (ms.getD k (0, [])).1) (fun _ => true) (fun k => .int ((fst' (ms.map (·.2)) (fk k) : Nat) : Int)) (by omega) nD2 (fun k J hk s4 => ⟨_, .ref (ms.getD k (0, [])).1, s4.seq sqD, by rw [List.getElem?_map, List.getD_eq_getElem?_getD, List.getElem?_eq_getElem (by omega)]; rfl⟩) (fun J s4 => ⟨_, s4.seq sqD, by rw [List.length_map]; omega⟩) (fun k J x J2 hk s4 y => ?_) (fun k => rfl) (fun k J Q1 _ _ q1 => q1 _ (Same.refl _)) (fun k J Q1 hk _ s4 q1 => ?_) (fun J s4 eB => ?_)
      · obtain ⟨rfl, ex⟩ := y
        have ex := ex _ (s4.seq sqD)
        rw [List.getElem?_map, List.getElem?_eq_getElem (by omega)] at ex
        cases ex
        refine ⟨Same.refl _, ?_⟩
        rw [List.getD_eq_getElem?_getD, List.getElem?_eq_getElem (by omega)]
        rfl
      · have hk' : k < ms.length := by omega
        have ez : ms[k]? = some ms[k] := List.getElem?_eq_getElem hk'
        have e2 : (ms[k]).2 = fk k := by
          have : (ms.map (·.2))[k]? = ((List.range zr.length).map fk)[k]? := by rw [ems]
          rw [List.getElem?_map, List.getElem?_map, ez, List.getElem?_range hk] at this
          exact Option.some.inj this
        have hz := (hms ms[k] (List.getElem_mem hk')).1
        rw [show (ms.getD k (0, [])).1 = (ms[k]).1 by rw [List.getD_eq_getElem?_getD, ez]; rfl]
        have q1 := q1 _ (Same.refl _)
        have at9 := fst_at (mem k hk)
        walk_at "go"
        refine ⟨.inl ⟨rfl, _, s4.seq sqD⟩, ?_⟩
        walk_at "go"
        refine ⟨D, .ref (ms[k]).1, intsD true (ms[k]).2, (ms.map (·.2)).map (intsD true), _, intsD true (fk k), rfl, rfl, dp_sq (b := true) (s4.seq sqD) (dpa_ims fun z m => SqL.of (s4 _ _ (hms z m).1)), dp_ints (b := true) (SqL.of (s4 _ _ hz)), shaped_ims _, shaped_ints _ _, by rw [List.getElem?_map, at9]; rfl, by rw [eqv_ints', e2]; exact decide_eq_true rfl, fun j z' hj hz' => ?_, q1⟩
        rw [List.getElem?_map] at hz'
        cases c : (ms.map (·.2))[j]? with
        | none => rw [c] at hz'; cases hz'
        | some y =>
          rw [c] at hz'
          cases hz'
          rw [eqv_ints', e2]
          exact decide_eq_false (fst_no hj c)
      have eB : J D2 = some (.lst (nls zr.length fun k => fst' (ms.map (·.2)) (fk k))) := by
        rw [eB, fltL_all]
        rfl
      have step : ∀ s s', s < T.length → s' < T.length → (fst' (ms.map (·.2)) (fk s) = fst' (ms.map (·.2)) (fk s') ↔ Eqt T m c0 (t + 1) s s') := fun s s' h1 h2 => by
        rw [fst_iff (mem s (by omega)) (mem s' (by omega)), hfk]
        exact sgn_step wf hcl h1 h2
      walk_at "go"
      refine ⟨s5.trans s4, D2, _, _, _, _, _, _, eB, step, fun s h _ => ?_, rfl⟩
      have l9 : fst' (ms.map (·.2)) (fk s) < T.length := by
        have := fst_lt (mem s (by omega))
        rwa [List.length_map, lm2, ← lT] at this
      refine ⟨l9, ?_⟩
      have at9 := fst_at (mem s (by omega))
      have e9 : fk (fst' (ms.map (·.2)) (fk s)) = fk s := by
        rw [ems, List.getElem?_map, List.getElem?_range (by rw [← ems]; omega), ← ems] at at9
        exact Option.some.inj at9
      show fst' (ms.map (·.2)) (fk (fst' (ms.map (·.2)) (fk s))) = fst' (ms.map (·.2)) (fk s)
      rw [e9]
    rintro σ J ⟨s2, L, cl, v2, v4, v5, v6, v7, eL, hcl, hfs, rfl⟩
    have own : ∀ s, s < zr.length → cl s = s := fun s hs => by
      obtain ⟨h1, h2⟩ := hfs s (by omega) (by omega)
      have e := (hcl (cl s) s h1 (by omega)).mp h2
      refine ap _ _ (by omega) hs ?_
      refine (eqt_leq (c := c0) (m := m) wf (fun s hs => lv s (by omega)) (fun s s' _ _ => ?_) h1 (by omega)).mp fun t => ?_
      · rw [hc0]
        dsimp only
        by_cases a : s ∈ g
        · by_cases b : s' ∈ g
          · rw [if_pos a, if_pos b]
            exact ⟨fun _ => ⟨fun _ => b, fun _ => a⟩, fun _ => rfl⟩
          · rw [if_pos a, if_neg b]
            exact ⟨fun z => (by omega), fun z => absurd (z.mp a) b⟩
        · by_cases b : s' ∈ g
          · rw [if_neg a, if_pos b]
            exact ⟨fun z => (by omega), fun z => absurd (z.mpr b) a⟩
          · rw [if_neg a, if_neg b]
            exact ⟨fun _ => ⟨fun z => absurd z a, fun z => absurd z b⟩, fun _ => rfl⟩
      · exact eqt_stab wf h1 (by omega) (by rw [lT]; exact e) t
    walk_at "go"
    refine ⟨r, _, rfl, .inr (Z.Same.sqK (b := false) s2 hR.sq), ?_⟩
    rw [lA]
    walk_at "go"
    intro A0 nA
    refine lc_flt (n := zr.length) (fun k => .int (0 + (k : Int))) (fun _ => false) (fun k => .int (k : Int)) (by omega) nA (fun k J hk s3 => ?_) (fun J s3 => ?_) (fun k J x J2 hk s3 y => ?_) (fun k => rfl) (fun k J Q1 hk s3 q1 => ?_) (fun k J Q1 hk c s3 q1 => by cases c) (fun J s3 eA => ?_)
    · show k < ((zr.length : Int)).toNat
      omega
    · show ((zr.length : Int)).toNat ≤ zr.length
      omega
    · obtain ⟨rfl, rfl⟩ := y
      exact ⟨Same.refl _, rfl⟩
    · rw [show (0 : Int) + (k : Int) = (k : Int) by omega]
      have q1 := q1 _ (Same.refl _)
      walk_at "go"
      refine ⟨L, _, _, _, rfl, rfl, SqL.of (s3 _ _ eL), nls_at hk, ?_⟩
      rw [own k hk]
      walk_at "go"
      rw [decide_eq_true (p := V.int ((k : Nat) : Int) = V.int ((k : Nat) : Int)) rfl]
      exact q1
    have eA : J A0 = some (.lst []) := by
      rw [eA]
      unfold fltL
      rw [List.filter_eq_nil_iff.mpr (fun _ _ => Bool.false_ne_true)]
      rfl
    walk_at "go"
    refine ⟨A0, _, rfl, .inl (SqL.of eA), ?_⟩
    walk_at "go"
    exact q _ (s2.trans s3)
end
end Z
set_option pp.maxSteps 700
set_option Elab.async false
set_option linter.all false
set_option maxRecDepth 100000
set_option maxHeartbeats 4000000
open SX (S S_inj S_len S_cat)
namespace Z
open Mc
open PySem PySem.Spec PyProof.Rows L2
open C8 (pss_cut tCut)
local macro_rules | `(tactic| walk_at "num") => `(tactic| first | rfl | omega | decide | exact Nat.le_of_lt (small1000 (by simp)) | exact ⟨by omega, by omega⟩ | exact ⟨by omega, by omega, by omega⟩ | exact ⟨by decide, by decide, by decide⟩ | exact Or.inl ⟨by omega, by omega⟩ | exact Or.inr ⟨by omega, by omega⟩)
local macro_rules | `(tactic| walk_at "go") => `(tactic| repeat (first | refine ⟨_, rfl, ?_⟩ | refine ⟨_, _, rfl, rfl, ?_⟩ | refine ⟨_, _, rfl, ?_⟩ | (refine ⟨_, _, rfl, rfl, ?_, ?_⟩; focus walk_at "num") | refine Or.inl ⟨_, rfl, ?_⟩ | refine ⟨_, _, _, _, rfl, rfl, (by assumption), (by rfl), ?_⟩ | refine ⟨_, _, _, _, _, rfl, (by assumption), (by assumption), (by assumption), (by rfl), ?_⟩ | refine ⟨rfl, ?_⟩ | (refine And.intro ?_ ?_; focus walk_at "num")))
abbrev s_same_texts : Stmt := topS 31
abbrev N_same_texts : List Str := ["_law_one", "_law_other", "_law_many", "_law_pairs", "_law_at", "_law_turn", "_law_left", "_law_right", "_law_k", "_law_first", "_law_second_here"]
abbrev P_same_texts : List Str := ["_law_one", "_law_other", "_law_many"]
theorem sc_same_texts : FnScope N_same_texts P_same_texts (defScope s_same_texts) := ⟨rfl, rfl, rfl, by decide +kernel, rfl, by decide +kernel, by decide +kernel⟩
/-! ### pairs of states as data -/
def prR (p : PrO) : List (Option Nat) := [p.1, p.2]
theorem prR_inj {p q : PrO} (h : prR p = prR q) : p = q := by
  obtain ⟨a, b⟩ := p
  obtain ⟨c, d⟩ := q
  unfold prR at h
  injection h with h1 h2
  injection h2 with h2 _
  rw [show a = c from h1, show b = d from h2]
def fl (g : List Nat) (o : Option Nat) : Bool := match o with | none => false | some s => decide (s ∈ g)
theorem fl_iff {g : List Nat} {o : Option Nat} : fl g o = true ↔ og (inG g) o := by
  cases o with
  | none => exact ⟨fun h => (by cases h), fun ⟨t, h, _⟩ => (by cases h)⟩
  | some s => exact ⟨fun h => ⟨s, rfl, show s ∈ g from of_decide_eq_true h⟩, fun ⟨t, h, ht⟩ => by cases h; exact decide_eq_true (show s ∈ g from ht)⟩
theorem any_pr {ps : List PrO} {p : PrO} : (((ps.map prR).map (rowD false)).any fun z => PyData.eqv z (rowD false (prR p))) = decide (p ∈ ps) := by
  rw [List.map_map, List.any_map]
  refine beq_iff (p := p ∈ ps) (q := p ∈ ps) ?_ decide_eq_true_iff Iff.rfl
  rw [List.any_eq_true]
  constructor
  · rintro ⟨x, hx, h⟩
    have h : PyData.eqv (rowD false (prR x)) (rowD false (prR p)) = true := h
    rw [eqv_row] at h
    rw [← prR_inj (of_decide_eq_true h)]
    exact hx
  · intro h
    refine ⟨p, h, ?_⟩
    show PyData.eqv (rowD false (prR p)) (rowD false (prR p)) = true
    rw [eqv_row]
    exact decide_eq_true rfl
/-- the list of pairs -/
structure PrL (H J : Hp) (A : Addr) (zs : List (Addr × List (Option Nat))) (ps : List PrO) : Prop where
  same : Same H J
  nn : H A = none
  eq : J A = some (.lst (zs.map fun z => V.ref z.1))
  el : ∀ z ∈ zs, J z.1 = some (.tup (z.2.map eV))
  ps : zs.map (·.2) = ps.map prR
theorem PrL.len {H J : Hp} {A : Addr} {zs : List (Addr × List (Option Nat))} {ps : List PrO} (h : PrL H J A zs ps) : zs.length = ps.length := by
  have := congrArg List.length h.ps
  rwa [List.length_map, List.length_map] at this
theorem PrL.at_ {H J : Hp} {A : Addr} {zs : List (Addr × List (Option Nat))} {ps : List PrO} (h : PrL H J A zs ps) {i : Nat} {p : PrO} (e : ps[i]? = some p) : ∃ x, (zs.map fun z => V.ref z.1)[i]? = some (.ref x) ∧ J x = some (.tup [eV p.1, eV p.2]) := by
  have e2 : (zs.map (·.2))[i]? = some (prR p) := by rw [h.ps, List.getElem?_map, e]; rfl
  rw [List.getElem?_map] at e2
  cases c : zs[i]? with
  | none => rw [c] at e2; cases e2
  | some z =>
    rw [c] at e2
    have e3 : z.2 = prR p := Option.some.inj e2
    refine ⟨z.1, by rw [List.getElem?_map, c]; rfl, ?_⟩
    rw [h.el z (List.mem_of_getElem? c), e3]
    rfl
theorem PrL.mono {H J J' : Hp} {A : Addr} {zs : List (Addr × List (Option Nat))} {ps : List PrO} (s : Same J J') (h : PrL H J A zs ps) : PrL H J' A zs ps := ⟨h.same.trans s, h.nn, s _ _ h.eq, fun z m => s _ _ (h.el z m), h.ps⟩
theorem PrL.push {H J : Hp} {A x : Addr} {zs : List (Addr × List (Option Nat))} {ps : List PrO} {p : PrO} (h : PrL H J A zs ps) (e : J x = some (.tup [eV p.1, eV p.2])) : PrL H (upd J A (.lst ((zs.map fun z => V.ref z.1) ++ [.ref x]))) A (zs ++ [(x, prR p)]) (ps ++ [p]) := by
  have ne : ∀ y o, J y = some (.tup o) → y ≠ A := fun y o ey c => by
    rw [c, h.eq] at ey
    cases ey
  refine ⟨Z.Same.mut h.same h.nn, h.nn, by rw [upd_same, List.map_append]; rfl, fun z m => ?_, by rw [List.map_append, h.ps, List.map_append]; rfl⟩
  rcases List.mem_append.mp m with m | m
  · rw [upd_ne (ne _ _ (h.el z m))]
    exact h.el z m
  · rw [List.mem_singleton.mp m, upd_ne (ne _ _ e)]
    exact e
theorem PrL.dp {K : PySem.W.Frag} {H J : Hp} {A : Addr} {zs : List (Addr × List (Option Nat))} {ps : List PrO} (h : PrL H J A zs ps) : Dp K J (.ref A) (.list ((ps.map prR).map (rowD false))) := by
  have : Tb true false K J A zs := ⟨SqL.of h.eq, fun z m => SqT.of (h.el z m)⟩
  have d := this.dp
  rw [show tb zs = ps.map prR from h.ps] at d
  exact d
theorem ne_ite {b1 b2 : Bool} {A B : Prop} (h1 : b1 ≠ b2 → A) (h2 : b1 = b2 → B) : if (!decide (V.bl b1 = V.bl b2)) = true then A else B := by
  by_cases c : b1 = b2
  · subst c
    rw [decide_eq_true rfl]
    exact h2 rfl
  · rw [decide_eq_false (fun h => c (by injection h))]
    exact h1 c
theorem nin_ite {p : Prop} [Decidable p] {A B : Prop} (h1 : ¬ p → A) (h2 : p → B) : if (!decide p) = true then A else B := by
  by_cases c : p
  · rw [decide_eq_true c]
    exact h2 c
  · rw [decide_eq_false c]
    exact h1 c
section
variable {P : Program} {w : World} {K : PySem.W.Frag} {mg : Str → Option Value} {base : Heap} {f C : Addr} {fd : FuncData}
def spSam (K : PySem.W.Frag) : Sp := fun vs H Q _ => ∃ (q1 q2 q3 q4 q5 q6 : Bool) (m : Nat) (a b a1 g1 a2 g2 : Addr) (z1 z2 : List (Addr × List (Option Nat))) (s1 s2 : List Nat), vs = [.ref a, .ref b, .int (m : Int)] ∧ SqL K H a [.ref a1, .ref g1] ∧ SqL K H b [.ref a2, .ref g2] ∧ Tb q1 q2 K H a1 z1 ∧ Tb q3 q4 K H a2 z2 ∧ SqK q5 K H g1 (gsq s1) ∧ SqK q6 K H g2 (gsq s2) ∧ Wf (tb z1) m ∧ Wf (tb z2) m ∧ z1.length ≤ 20 ∧ z2.length ≤ 20 ∧ m ≤ 1000 ∧ ∀ H' (r : Bool), Same H H' → (r = true ↔ ∀ w, AccS (tb z1) (inG s1) w ↔ AccS (tb z2) (inG s2) w) → Q (.bl r) H'
theorem ok_same_texts (F : FnP K "_law_same_texts" s_same_texts f fd) (m_len : mg "len" = none) (m_range : mg "range" = none) : FnOk P w K mg base CX0 1 f fd P_same_texts (spSam K) := by
  refine F.ok sc_same_texts (fun vs H Q E h => ?_) (fun cdv A outer s H vs Q E hr h => ?_)
  · obtain ⟨q1, q2, q3, q4, q5, q6, m, a, b, a1, g1, a2, g2, z1, z2, s1, s2, rfl, _⟩ := h
    rfl
  · obtain ⟨q1, q2, q3, q4, q5, q6, m, a, b, a1, g1, a2, g2, z1, z2, s1, s2, rfl, hA, hB, hT1, hT2, hG1, hG2, wf1, wf2, l1, l2, lm, q⟩ := h
    refine ⟨_, PSs.nox (pss_cons (ps_set (i := 3) sc_same_texts.nd rfl (by first | exact .inl rfl | exact .inr rfl) (pe_lst (pa_cons (pe_tup (pa_cons pe_int (pa_cons pe_int pa_nil))) pa_nil)))
      (pss_cut (ps_if (pt_cmpR op_eq (pe_callB call_len_seq (by rfl) m_len PySem.boot_len (pa_cons (pe_ix ix_list (pv 0) pe_int (fun _ _ => rfl)) pa_nil)) pe_int (nomark _)) (pss_one (ps_set (i := 3) sc_same_texts.nd rfl (by first | exact .inl rfl | exact .inr rfl) (pe_lst (pa_cons (pe_tup (pa_cons pe_non (pa_cons pe_int pa_nil))) pa_nil)))) pss_nil)
      (pss_cut (ps_if (pt_cmpR op_eq (pe_callB call_len_seq (by rfl) m_len PySem.boot_len (pa_cons (pe_ix ix_list (pv 1) pe_int (fun _ _ => rfl)) pa_nil)) pe_int (nomark _)) (pss_one (ps_set (i := 3) sc_same_texts.nd rfl (by first | exact .inl rfl | exact .inr rfl) (pe_lst (pa_cons (pe_tup (pa_cons (pe_ix ix_tup (pe_ix ix_list (pv 3) pe_int (fun _ _ => rfl)) pe_int (fun _ _ => rfl)) (pa_cons pe_non pa_nil))) pa_nil)))) pss_nil)
      (pss_cons (ps_set (i := 4) sc_same_texts.nd rfl (by first | exact .inl rfl | exact .inr rfl) pe_int)
      (pss_cons (ps_for PassesOwn.never rfl (pi_range1 (by rfl) m_range (pa_cons pe_int pa_nil)) (pg_name (i := 5) sc_same_texts.nd rfl (by first | exact .inl rfl | exact .inr rfl))
        (pss_cons (ps_if (pt_cmpR op_eq (pv 4) (pe_callB call_len_seq (by rfl) m_len PySem.boot_len (pa_cons (pv 3) pa_nil)) (nomark _)) (pss_one (ps_ret pe_bl)) pss_nil)
      (pss_cons (ps_set (i := 6) sc_same_texts.nd rfl (by first | exact .inl rfl | exact .inr rfl) (pe_ix ix_tup (pe_ix ix_list (pv 3) (pv 4) (fun _ _ => rfl)) pe_int (fun _ _ => rfl)))
      (pss_cons (ps_set (i := 7) sc_same_texts.nd rfl (by first | exact .inl rfl | exact .inr rfl) (pe_ix ix_tup (pe_ix ix_list (pv 3) (pv 4) (fun _ _ => rfl)) pe_int (fun _ _ => rfl)))
      (pss_cut (ps_if (pt_cmpR op_ne (pe_and (pe_cmpR op_notN (pv 6) pe_non (nomark _)) (pe_one (pe_cmpR op_in_seq (pv 6) (pe_ix ix_list (pv 0) pe_int (fun _ _ => rfl)) (by rfl)))) (pe_and (pe_cmpR op_notN (pv 7) pe_non (nomark _)) (pe_one (pe_cmpR op_in_seq (pv 7) (pe_ix ix_list (pv 1) pe_int (fun _ _ => rfl)) (by rfl)))) (nomark _)) (pss_one (ps_ret pe_bl)) pss_nil)
      (pss_cons (ps_for PassesOwn.never rfl (pi_range1 (by rfl) m_range (pa_cons (pv 2) pa_nil)) (pg_name (i := 8) sc_same_texts.nd rfl (by first | exact .inl rfl | exact .inr rfl))
        (pss_cons (ps_set (i := 9) sc_same_texts.nd rfl (by first | exact .inl rfl | exact .inr rfl) pe_non)
      (pss_cons (ps_set (i := 10) sc_same_texts.nd rfl (by first | exact .inl rfl | exact .inr rfl) pe_non)
      (pss_cut (ps_if (pt_cmpR op_notN (pv 6) pe_non (nomark _)) (pss_one (ps_set (i := 9) sc_same_texts.nd rfl (by first | exact .inl rfl | exact .inr rfl) (pe_ix ix_seq (pe_ix ix_seq (pe_ix ix_list (pv 0) pe_int (fun _ _ => rfl)) (pv 6) (fun _ _ => rfl)) (pv 8) (fun _ _ => rfl)))) pss_nil)
      (pss_cut (ps_if (pt_cmpR op_notN (pv 7) pe_non (nomark _)) (pss_one (ps_set (i := 10) sc_same_texts.nd rfl (by first | exact .inl rfl | exact .inr rfl) (pe_ix ix_seq (pe_ix ix_seq (pe_ix ix_list (pv 1) pe_int (fun _ _ => rfl)) (pv 7) (fun _ _ => rfl)) (pv 8) (fun _ _ => rfl)))) pss_nil)
      (pss_one (ps_if (pt_cmpR (op_notInD (u65 hr)) (pe_tup (pa_cons (pv 9) (pa_cons (pv 10) pa_nil))) (pv 3) (by rfl)) (pss_one (ps_expr (pe_bm PySem.F.plainAttrs_list PySem.F.slot_list_append PySem.F.type_list_append mt_append (pv 3) (pa_cons (pe_tup (pa_cons (pv 9) (pa_cons (pv 10) pa_nil))) pa_nil)))) pss_nil)))))))
      (pss_one (ps_set (i := 4) sc_same_texts.nd rfl (by first | exact .inl rfl | exact .inr rfl) (pe_op op_add (pv 4) pe_int)))))))))
      (pss_one (ps_ret pe_bl))))))), ?_⟩
    have lT1 : (tb z1).length = z1.length := List.length_map ..
    have lT2 : (tb z2).length = z2.length := List.length_map ..
    have st1 : (z1.length = 0 → st (tb z1) = none) ∧ (z1.length ≠ 0 → st (tb z1) = some 0) := ⟨fun h => if_pos (by omega), fun h => if_neg (by omega)⟩
    have st2 : (z2.length = 0 → st (tb z2) = none) ∧ (z2.length ≠ 0 → st (tb z2) = some 0) := ⟨fun h => if_pos (by omega), fun h => if_neg (by omega)⟩
    have fresh : ∀ (J : Hp) (x A : Addr) (o1 o2 : Option Nat), Same H J → J x = none → (upd J x (.tup [eV o1, eV o2])) A = none → PrL H (upd (upd J x (.tup [eV o1, eV o2])) A (.lst [.ref x])) A [(x, [o1, o2])] [(o1, o2)] := fun J x A o1 o2 s nx nA => by
      have s1 := same_new (o := .tup [eV o1, eV o2]) nx
      have xA : x ≠ A := ne_of_none (upd_same (H := J) (a := x)) nA
      refine ⟨s.trans (s1.trans (same_new nA)), none_of (s.trans s1) nA, upd_same, fun z m => ?_, rfl⟩
      rw [List.mem_singleton.mp m, upd_ne xA]
      exact upd_same
    walk_at "go"
    intro x0 nx0
    refine ⟨by show 1 ≤ _; exact szl (by omega), ?_⟩
    intro A0 nA0
    have pr0 := fresh H x0 A0 (some 0) (some 0) (Same.refl _) nx0 nA0
    have pr0 : PrL H (upd (upd H x0 (.tup [V.int 0, V.int 0])) A0 (.lst [.ref x0])) A0 [(x0, [some 0, some 0])] [(some 0, some 0)] := pr0
    generalize upd (upd H x0 (.tup [V.int 0, V.int 0])) A0 (.lst [.ref x0]) = H1 at pr0
    refine ⟨fun σ' J => ∃ A zs, PrL H J A zs [(st (tb z1), some 0)] ∧ σ' = [some (.ref a), some (.ref b), some (.int (m : Int)), some (.ref A), none, none, none, none, none, none, none], ?_, ?_⟩
    · walk_at "go"
      refine ⟨a, _, _, .ref a1, rfl, rfl, pr0.same.seq hA, rfl, ?_⟩
      refine ⟨a1, _, rfl, sqk_or (hT1.mono pr0.same).sq, ?_⟩
      rw [List.length_map]
      walk_at "go"
      refine ite2 (fun c => ?_) (fun c => ?_)
      · have z0 : z1.length = 0 := by have := of_decide_eq_true c; injection this with this; omega
        walk_at "go"
        intro x1 nx1
        refine ⟨by show 1 ≤ _; exact szl (by omega), ?_⟩
        intro A1 nA1
        refine ⟨A1, [(x1, [none, some 0])], ?_, rfl⟩
        rw [st1.1 z0]
        exact fresh H1 x1 A1 none (some 0) pr0.same nx1 nA1
      · have z0 : z1.length ≠ 0 := fun z => c (decide_eq_true (by rw [z]; rfl))
        walk_at "go"
        refine ⟨A0, [(x0, [some 0, some 0])], ?_, rfl⟩
        rw [st1.2 z0]
        exact pr0
    rintro σ' H1 ⟨A0, zs0, pr0, rfl⟩
    refine ⟨fun σ' J => ∃ A zs, PrL H J A zs [(st (tb z1), st (tb z2))] ∧ σ' = [some (.ref a), some (.ref b), some (.int (m : Int)), some (.ref A), none, none, none, none, none, none, none], ?_, ?_⟩
    · walk_at "go"
      refine ⟨b, _, _, .ref a2, rfl, rfl, pr0.same.seq hB, rfl, ?_⟩
      refine ⟨a2, _, rfl, sqk_or (hT2.mono pr0.same).sq, ?_⟩
      rw [List.length_map]
      walk_at "go"
      refine ite2 (fun c => ?_) (fun c => ?_)
      · have z0 : z2.length = 0 := by have := of_decide_eq_true c; injection this with this; omega
        obtain ⟨x, ex, hx⟩ := pr0.at_ (i := 0) rfl
        walk_at "go"
        refine ⟨A0, _, _, _, rfl, rfl, SqL.of pr0.eq, atI_nat (j := 0) ex, ?_⟩
        refine ⟨x, _, _, _, rfl, rfl, SqT.of hx, rfl, ?_⟩
        walk_at "go"
        intro x1 nx1
        refine ⟨by show 1 ≤ _; exact szl (by omega), ?_⟩
        intro A1 nA1
        refine ⟨A1, [(x1, [st (tb z1), none])], ?_, rfl⟩
        rw [st2.1 z0]
        exact fresh H1 x1 A1 _ none pr0.same nx1 nA1
      · have z0 : z2.length ≠ 0 := fun z => c (decide_eq_true (by rw [z]; rfl))
        walk_at "go"
        refine ⟨A0, zs0, ?_, rfl⟩
        rw [st2.2 z0]
        exact pr0
    rintro σ' H1 ⟨A0, zs0, pr0, rfl⟩
    walk_at "go"
    have few : ∀ {ps : List PrO} {t k : Nat}, Bw (tb z1) (tb z2) (inG s1) (inG s2) m ps t k → ps.length ≤ 441 := fun {ps t k} bw => by
      have := bw.few wf1 wf2
      rw [lT1, lT2] at this
      exact Nat.le_trans this (Nat.mul_le_mul (show z1.length + 1 ≤ 21 by omega) (show z2.length + 1 ≤ 21 by omega))
    refine for_gen (n := 2000) (fun t σ J => ∃ (ps : List PrO) (zs : List (Addr × List (Option Nat))) (v5 v6 v7 v8 v9 v10 : Option V), PrL H J A0 zs ps ∧ Bw (tb z1) (tb z2) (inG s1) (inG s2) m ps t 0 ∧ t ≤ ps.length ∧ σ = [some (.ref a), some (.ref b), some (.int (m : Int)), some (.ref A0), some (.int (t : Int)), v5, v6, v7, v8, v9, v10]) ⟨_, _, none, none, none, none, none, none, pr0, Bw.begin_ _ _ _ _ _, Nat.zero_le _, rfl⟩ ?_ ?_ ?_ ?_
    · intro t σ J ht _
      show t < (2000 : Int).toNat
      exact ht
    · intro σ J _
      show (2000 : Int).toNat ≤ 2000
      decide
    · rintro t σ J x J' ht ⟨ps, zs, v5, v6, v7, v8, v9, v10, pr, bw, tl, rfl⟩ ⟨rfl, rfl⟩
      have lz := pr.len
      walk_at "go"
      refine ⟨A0, _, rfl, .inl (SqL.of pr.eq), ?_⟩
      rw [List.length_map, lz]
      walk_at "go"
      refine ite2 (fun c => ?_) (fun c => ?_)
      · have te : t = ps.length := by have := of_decide_eq_true c; injection this with this; omega
        subst te
        walk_at "go"
        exact q _ true pr.same ⟨fun _ => bw.same wf1 wf2, fun _ => rfl⟩
      have tl2 : t < ps.length := Nat.lt_of_le_of_ne tl fun z => c (decide_eq_true (by rw [z]))
      clear c
      obtain ⟨⟨o1, o2⟩, ep⟩ : ∃ p, ps[t]? = some p := ⟨_, List.getElem?_eq_getElem tl2⟩
      obtain ⟨x, ex, hx⟩ := pr.at_ ep
      obtain ⟨hp1, hp2⟩ := bw.lt wf1 wf2 (List.mem_of_getElem? ep)
      dsimp only at hx hp1 hp2
      walk_at "go"
      refine ⟨A0, _, _, _, rfl, rfl, SqL.of pr.eq, atI_nat ex, ?_⟩
      refine ⟨x, _, _, _, rfl, rfl, SqT.of hx, rfl, ?_⟩
      walk_at "go"
      refine ⟨A0, _, _, _, rfl, rfl, SqL.of pr.eq, atI_nat ex, ?_⟩
      refine ⟨x, _, _, _, rfl, rfl, SqT.of hx, rfl, ?_⟩
      refine ⟨fun σ' J2 => J2 = J' ∧ fl s1 o1 = fl s2 o2 ∧ σ' = [some (.ref a), some (.ref b), some (.int (m : Int)), some (.ref A0), some (.int (t : Int)), some (.int (0 + (t : Int))), some (eV o1), some (eV o2), v8, v9, v10], ?_, ?_⟩
      · have fin : fl s1 o1 ≠ fl s2 o2 → Q (.bl false) J' := fun ne => q _ false pr.same ⟨fun h => (by cases h), fun h => absurd h (bw.differ ep fun z => ne (by
          refine beq_iff (p := og (inG s1) o1) (q := og (inG s2) o2) fl_iff fl_iff z))⟩
        cases o1 with
        | none =>
          cases o2 with
          | none =>
            dsimp only [eV]
            walk_at "go"
            rfl
          | some b2 =>
            dsimp only [eV]
            walk_at "go"
            refine ⟨b, _, _, .ref g2, rfl, rfl, pr.same.seq hB, rfl, ?_⟩
            refine ⟨g2, _, rfl, sqk_or (Z.Same.sqK pr.same hG2), rfl, gsq_flat s2, ?_⟩
            rw [inV_gsq]
            walk_at "go"
            exact ne_ite (b1 := false) (b2 := decide (b2 ∈ s2)) (fun h => fin h) (fun h => ⟨rfl, h, rfl⟩)
        | some b1 =>
          cases o2 with
          | none =>
            dsimp only [eV]
            walk_at "go"
            refine ⟨a, _, _, .ref g1, rfl, rfl, pr.same.seq hA, rfl, ?_⟩
            refine ⟨g1, _, rfl, sqk_or (Z.Same.sqK pr.same hG1), rfl, gsq_flat s1, ?_⟩
            rw [inV_gsq]
            walk_at "go"
            exact ne_ite (b1 := decide (b1 ∈ s1)) (b2 := false) (fun h => fin h) (fun h => ⟨rfl, h, rfl⟩)
          | some b2 =>
            dsimp only [eV]
            walk_at "go"
            refine ⟨a, _, _, .ref g1, rfl, rfl, pr.same.seq hA, rfl, ?_⟩
            refine ⟨g1, _, rfl, sqk_or (Z.Same.sqK pr.same hG1), rfl, gsq_flat s1, ?_⟩
            rw [inV_gsq]
            walk_at "go"
            refine ⟨b, _, _, .ref g2, rfl, rfl, pr.same.seq hB, rfl, ?_⟩
            refine ⟨g2, _, rfl, sqk_or (Z.Same.sqK pr.same hG2), rfl, gsq_flat s2, ?_⟩
            rw [inV_gsq]
            walk_at "go"
            exact ne_ite (b1 := decide (b1 ∈ s1)) (b2 := decide (b2 ∈ s2)) (fun h => fin h) (fun h => ⟨rfl, h, rfl⟩)
      rintro σ' J2 ⟨rfl, ef, rfl⟩
      walk_at "go"
      refine for_gen (n := m) (fun k σ J => ∃ (ps : List PrO) (zs : List (Addr × List (Option Nat))) (v8 v9 v10 : Option V), PrL H J A0 zs ps ∧ Bw (tb z1) (tb z2) (inG s1) (inG s2) m ps t k ∧ ps[t]? = some (o1, o2) ∧ σ = [some (.ref a), some (.ref b), some (.int (m : Int)), some (.ref A0), some (.int (t : Int)), some (.int (0 + (t : Int))), some (eV o1), some (eV o2), v8, v9, v10]) ⟨ps, zs, v8, v9, v10, pr, bw, ep, rfl⟩ ?_ ?_ ?_ ?_
      · intro k σ J hk _
        show k < ((m : Int)).toNat
        omega
      · intro σ J _
        show ((m : Int)).toNat ≤ m
        omega
      · clear pr bw ep lz hx ex zs tl tl2
        clear ps
        rintro k σ J x J3 hk ⟨ps, zs, v8, v9, v10, pr, bw, ep, rfl⟩ ⟨rfl, rfl⟩
        rw [show (0 : Int) + (k : Int) = (k : Int) by omega]
        walk_at "go"
        refine ⟨fun σ' J2 => J2 = J3 ∧ σ' = [some (.ref a), some (.ref b), some (.int (m : Int)), some (.ref A0), some (.int (t : Int)), some (.int (0 + (t : Int))), some (eV o1), some (eV o2), some (.int (k : Int)), some (eV (o1.bind fun s => nx (tb z1) s k)), some .non], ?_, ?_⟩
        · cases o1 with
          | none =>
            dsimp only [eV]
            walk_at "go"
            rfl
          | some s =>
            have hs := hp1 s rfl
            rw [lT1] at hs
            dsimp only [eV]
            walk_at "go"
            obtain ⟨z, ez⟩ : ∃ z, z1[s]? = some z := ⟨_, List.getElem?_eq_getElem hs⟩
            have hTn := hT1.mono pr.same
            have mz : z.2 ∈ tb z1 := List.mem_map.mpr ⟨z, List.mem_of_getElem? ez, rfl⟩
            have lzr := wf1.row _ mz
            have rx : z.2.getD k none = nx (tb z1) s k := row_nx ez (by omega)
            refine ⟨a, _, _, .ref a1, rfl, rfl, pr.same.seq hA, rfl, ?_⟩
            walk_at "go"
            refine ixv hTn.sq (atI_nat (v := .ref z.1) (by rw [List.getElem?_map, ez]; rfl)) ?_
            walk_at "go"
            refine ixv (hTn.at_ z (List.mem_of_getElem? ez)) (atI_nat (row_at (by omega))) ?_
            rw [rx]
            exact ⟨rfl, rfl⟩
        rintro σ' J2 ⟨rfl, rfl⟩
        refine ⟨fun σ' J3 => J3 = J2 ∧ σ' = [some (.ref a), some (.ref b), some (.int (m : Int)), some (.ref A0), some (.int (t : Int)), some (.int (0 + (t : Int))), some (eV o1), some (eV o2), some (.int (k : Int)), some (eV (o1.bind fun s => nx (tb z1) s k)), some (eV (o2.bind fun s => nx (tb z2) s k))], ?_, ?_⟩
        · cases o2 with
          | none =>
            dsimp only [eV]
            walk_at "go"
            rfl
          | some s =>
            have hs := hp2 s rfl
            rw [lT2] at hs
            dsimp only [eV]
            walk_at "go"
            obtain ⟨z, ez⟩ : ∃ z, z2[s]? = some z := ⟨_, List.getElem?_eq_getElem hs⟩
            have hTn := hT2.mono pr.same
            have mz : z.2 ∈ tb z2 := List.mem_map.mpr ⟨z, List.mem_of_getElem? ez, rfl⟩
            have lzr := wf2.row _ mz
            have rx : z.2.getD k none = nx (tb z2) s k := row_nx ez (by omega)
            refine ⟨b, _, _, .ref a2, rfl, rfl, pr.same.seq hB, rfl, ?_⟩
            walk_at "go"
            refine ixv hTn.sq (atI_nat (v := .ref z.1) (by rw [List.getElem?_map, ez]; rfl)) ?_
            walk_at "go"
            refine ixv (hTn.at_ z (List.mem_of_getElem? ez)) (atI_nat (row_at (by omega))) ?_
            rw [rx]
            exact ⟨rfl, rfl⟩
        rintro σ' J3 ⟨rfl, rfl⟩
        obtain ⟨p', hp'⟩ : ∃ p' : PrO, p' = stp (tb z1) (tb z2) (o1, o2) k := ⟨_, rfl⟩
        have e1 : (o1.bind fun s => nx (tb z1) s k) = p'.1 := by rw [hp']; rfl
        have e2 : (o2.bind fun s => nx (tb z2) s k) = p'.2 := by rw [hp']; rfl
        rw [e1, e2]
        walk_at "go"
        intro x1 nx1
        have sx := same_new (o := .tup [eV p'.1, eV p'.2]) nx1
        have ex1 : (upd J3 x1 (.tup [eV p'.1, eV p'.2])) x1 = some (.tup [eV p'.1, eV p'.2]) := upd_same
        have pr2 := pr.mono sx
        generalize upd J3 x1 (.tup [eV p'.1, eV p'.2]) = J4 at sx ex1 pr2
        walk_at "go"
        refine ⟨rowD false (prR p'), _, dp_row (r := prR p') (SqT.of ex1), pr2.dp, shaped_row _ _, shaped_tb true false _, ?_⟩
        rw [any_pr]
        walk_at "go"
        refine nin_ite (fun c => ?_) (fun c => ?_)
        · rw [hp'] at c
          have lp := few bw
          walk_at "go"
          refine ⟨.inl ⟨rfl, _, SqL.of pr2.eq⟩, ?_⟩
          walk_at "go"
          intro x2 nx2
          have sx2 := same_new (o := .tup [eV p'.1, eV p'.2]) nx2
          have ex2 : (upd J4 x2 (.tup [eV p'.1, eV p'.2])) x2 = some (.tup [eV p'.1, eV p'.2]) := upd_same
          have pr3 := pr2.mono sx2
          generalize upd J4 x2 (.tup [eV p'.1, eV p'.2]) = J5 at sx2 ex2 pr3
          refine ⟨A0, _, _, rfl, rfl, pr3.eq, by rw [List.length_map, pr3.len]; exact szC (by omega), ?_⟩
          exact ⟨ps ++ [p'], _, _, _, _, pr3.push ex2, by rw [hp']; exact bw.new ep c, by rw [List.getElem?_append_left (List.getElem?_eq_some_iff.mp ep).1]; exact ep, rfl⟩
        · walk_at "go"
          rw [hp'] at c
          exact ⟨ps, zs, _, _, _, pr2, bw.old ep c, ep, rfl⟩
      · clear pr bw ep lz hx ex zs tl tl2
        clear ps
        rintro σ J ⟨ps, zs, v8, v9, v10, pr, bw, ep, rfl⟩
        have bw2 := bw.turn ep (by
          rw [← fl_iff, ← fl_iff]
          show fl s1 o1 = true ↔ fl s2 o2 = true
          rw [ef])
        walk_at "go"
        exact ⟨ps, zs, _, _, _, _, _, _, pr, bw2, (List.getElem?_eq_some_iff.mp ep).1, rfl⟩
    · rintro σ J ⟨ps, zs, v5, v6, v7, v8, v9, v10, pr, bw, tl, rfl⟩
      have := few bw
      omega
end
end Z
set_option pp.maxSteps 700
set_option Elab.async false
set_option linter.all false
set_option maxRecDepth 100000
set_option maxHeartbeats 4000000
open SX (S S_inj S_len S_cat)
namespace Z
open Mc
open PySem PySem.Spec PyProof.Rows L2
open C8 (pss_cut tCut)
local macro_rules | `(tactic| walk_at "num") => `(tactic| first | rfl | omega | decide | exact Nat.le_of_lt (small1000 (by simp)) | exact ⟨by omega, by omega⟩ | exact ⟨by omega, by omega, by omega⟩ | exact ⟨by decide, by decide, by decide⟩ | exact Or.inl ⟨by omega, by omega⟩ | exact Or.inr ⟨by omega, by omega⟩)
local macro_rules | `(tactic| walk_at "go") => `(tactic| repeat (first | refine ⟨_, rfl, ?_⟩ | refine ⟨_, _, rfl, rfl, ?_⟩ | refine ⟨_, _, rfl, ?_⟩ | (refine ⟨_, _, rfl, rfl, ?_, ?_⟩; focus walk_at "num") | refine Or.inl ⟨_, rfl, ?_⟩ | refine ⟨_, _, _, _, rfl, rfl, (by assumption), (by rfl), ?_⟩ | refine ⟨_, _, _, _, _, rfl, (by assumption), (by assumption), (by assumption), (by rfl), ?_⟩ | refine ⟨rfl, ?_⟩ | (refine And.intro ?_ ?_; focus walk_at "num")))
abbrev s_turned : Stmt := topS 37
abbrev N_turned : List Str := ["_law_entry_here", "_law_turned_here"]
abbrev P_turned : List Str := ["_law_entry_here", "_law_turned_here"]
theorem sc_turned : FnScope N_turned P_turned (defScope s_turned) := ⟨rfl, rfl, rfl, by decide +kernel, rfl, by decide +kernel, by decide +kernel⟩
abbrev s_second : Stmt := topS 36
abbrev N_second : List Str := ["_law_table_here", "_law_many", "_law_draws_here", "_law_place", "_law_size", "_law_double", "_law_rows", "_law_row", "_law_choice", "_law_line", "_law_entry_here", "_law_k", "_law_good", "_law_state", "_law_turned_here", "_law_found"]
abbrev P_second : List Str := ["_law_table_here", "_law_many", "_law_draws_here", "_law_place"]
theorem sc_second : FnScope N_second P_second (defScope s_second) := ⟨rfl, rfl, rfl, by decide +kernel, rfl, by decide +kernel, by decide +kernel⟩
theorem rng_set {n i : Nat} {f : Nat → V} {v : V} : ((List.range n).map f).set i v = (List.range n).map fun j => if j = i then v else f j := by
  apply List.ext_getElem
  · rw [List.length_set, List.length_map, List.length_map]
  · intro j h1 h2
    rw [List.length_map, List.length_range] at h2
    rw [List.getElem_set, List.getElem_map, List.getElem_map, List.getElem_range]
    by_cases c : i = j
    · subst c
      simp
    · rw [if_neg c, if_neg (fun e => c e.symm)]
section
variable {P : Program} {w : World} {K : PySem.W.Frag} {mg : Str → Option Value} {base : Heap} {f C : Addr} {fd : FuncData}
/-- turned -/
def spTrn (K : PySem.W.Frag) : Sp := fun vs H Q _ => ∃ (o : Option Nat) (l : Addr) (n : Nat), vs = [eV o, .ref l] ∧ SqL K H l ((List.range (n + 3)).map fun s => V.int ((tau n s : Nat) : Int)) ∧ (∀ e, o = some e → e < n + 3) ∧ Q (eV (o.map (tau n))) H
theorem ok_turned (F : FnP K "_law_turned" s_turned f fd) : FnOk P w K mg base CX0 1 f fd P_turned (spTrn K) := by
  refine F.ok sc_turned (fun vs H Q E h => ?_) (fun cdv A outer s H vs Q E hr h => ?_)
  · obtain ⟨o, l, n, rfl, _⟩ := h
    rfl
  · obtain ⟨o, l, n, rfl, hl, ho, q⟩ := h
    refine ⟨_, PSs.nox (pss_cons (ps_if (pt_cmpR op_isN (pv 0) pe_non (nomark _)) (pss_one (ps_ret pe_non)) pss_nil)
      (pss_one (ps_ret (pe_ix ix_list (pv 1) (pv 0) (fun _ _ => rfl))))), ?_⟩
    cases o with
    | none =>
      dsimp only [eV]
      walk_at "go"
      exact q
    | some e =>
      have he := ho e rfl
      dsimp only [eV]
      walk_at "go"
      exact ⟨l, _, _, _, rfl, rfl, hl, atI_nat (by rw [List.getElem?_map, List.getElem?_range he]; rfl), q⟩
def spSec (K : PySem.W.Frag) : Sp := fun vs H Q _ => ∃ (t A g dA p : Addr) (zs : List (Addr × List (Option Nat))) (gs : List Nat) (m n : Nat) (ds : List Int), vs = [.ref t, .int (m : Int), .ref dA, .ref p] ∧ H t = some (.lst [.ref A, .ref g]) ∧ TbR H A zs ∧ H g = some (.lst (gsq gs)) ∧ Wf (tb zs) m ∧ 0 < zs.length ∧ zs.length ≤ 6 ∧ m ≤ 4 ∧ gs.length ≤ 6 ∧ (∀ s ∈ gs, s < zs.length) ∧ Tk K dA p ds n H H ∧ t ≠ p ∧ A ≠ p ∧ g ≠ p ∧ (∀ z ∈ zs, z.1 ≠ p) ∧
  ∀ (b A' g' : Addr) (zs' : List (Addr × List (Option Nat))) (U : Tbl) (d : Nat) H', Tk K dA p ds n H H' → H' b = some (.lst [.ref A', .ref g']) → TbR H' A' zs' → tb zs' = trn zs.length U → Sec (tb zs) U m d → d < zs.length → H' g' = some (.lst (gsq (sgd zs.length d gs))) → Q (.ref b) H'
theorem ok_second (F : FnP K "_law_second" s_second f fd) (m_len : mg "len" = none) (m_range : mg "range" = none) (m_int : mg "int" = none) (c_take : Cal P w K mg base 1 "_law_take" (spTake K)) (c_turned : Cal P w K mg base 1 "_law_turned" (spTrn K)) : FnOk P w K mg base CX0 2 f fd P_second (spSec K) := by
  refine F.ok sc_second (fun vs H Q E h => ?_) (fun cdv A outer s H vs Q E hr h => ?_)
  · obtain ⟨t, A1, g, dA, p, zs, gs, m, n, ds, rfl, _⟩ := h
    rfl
  · obtain ⟨t, A1, g, dA, p, zs, gs, m, n, ds, rfl, ht0, hT0, hg0, wf, z0, lz, lm, lg, hgs, tk, tp, Ap, gp, zp, q⟩ := h
    refine ⟨_, PSs.nox (pss_cons (ps_set (i := 4) sc_second.nd rfl (by first | exact .inl rfl | exact .inr rfl) (pe_callB call_len_seq (by rfl) m_len PySem.boot_len (pa_cons (pe_ix ix_list (pv 0) pe_int (fun _ _ => rfl)) pa_nil)))
      (pss_cons (ps_set (i := 5) sc_second.nd rfl (by first | exact .inl rfl | exact .inr rfl) (pe_op op_mod (pe_callTy call_int1 (by rfl) m_int (by decide +kernel) (pa_cons (pe_cl c_take hr (by decide) (by rfl) (pa_cons (pv 2) (pa_cons (pv 3) pa_nil))) pa_nil)) (pv 4)))
      (pss_cons (ps_set (i := 6) sc_second.nd rfl (by first | exact .inl rfl | exact .inr rfl) (pe_lst pa_nil))
      (pss_cons (ps_for PassesOwn.never rfl (pi_list (pe_op op_cat (pe_ix ix_list (pv 0) pe_int (fun _ _ => rfl)) (pe_lst (pa_cons (pe_ix ix_list (pe_ix ix_list (pv 0) pe_int (fun _ _ => rfl)) (pv 5) (fun _ _ => rfl)) pa_nil)))) (pg_name (i := 7) sc_second.nd rfl (by first | exact .inl rfl | exact .inr rfl))
        (pss_cons (ps_set (i := 8) sc_second.nd rfl (by first | exact .inl rfl | exact .inr rfl) (pe_cl c_take hr (by decide) (by rfl) (pa_cons (pv 2) (pa_cons (pv 3) pa_nil))))
      (pss_cons (ps_set (i := 9) sc_second.nd rfl (by first | exact .inl rfl | exact .inr rfl) (pe_lst pa_nil))
      (pss_cons (ps_for PassesOwn.never rfl (pi_list (pv 7)) (pg_name (i := 10) sc_second.nd rfl (by first | exact .inl rfl | exact .inr rfl))
        (pss_one (ps_if (PW.pt (pw_and (pt_cmpR op_isN (pv 10) pe_non (nomark _)) (pw_and1 (pt_cmpR op_eq (pe_op op_mod (pe_callTy call_int1 (by rfl) m_int (by decide +kernel) (pa_cons (pv 8) pa_nil)) pe_int) pe_int (nomark _))))) (pss_one (ps_expr (pe_bm PySem.F.plainAttrs_list PySem.F.slot_list_append PySem.F.type_list_append mt_append (pv 9) (pa_cons (pe_op op_add (pv 4) pe_int) pa_nil)))) (pss_one (ps_if (PW.pt (pw_and (pt_cmpR op_notN (pv 10) pe_non (nomark _)) (pw_and (pt_cmpR op_eq (pv 10) (pv 5) (nomark _)) (pw_and1 (pt_cmpR op_gt (pe_op op_mod (pe_callTy call_int1 (by rfl) m_int (by decide +kernel) (pa_cons (pv 8) pa_nil)) pe_int) pe_int (nomark _)))))) (pss_one (ps_expr (pe_bm PySem.F.plainAttrs_list PySem.F.slot_list_append PySem.F.type_list_append mt_append (pv 9) (pa_cons (pv 4) pa_nil)))) (pss_one (ps_expr (pe_bm PySem.F.plainAttrs_list PySem.F.slot_list_append PySem.F.type_list_append mt_append (pv 9) (pa_cons (pv 10) pa_nil)))))))))
      (pss_one (ps_expr (pe_bm PySem.F.plainAttrs_list PySem.F.slot_list_append PySem.F.type_list_append mt_append (pv 6) (pa_cons (pv 9) pa_nil))))))))
      (pss_cons (ps_expr (pe_bm PySem.F.plainAttrs_list PySem.F.slot_list_append PySem.F.type_list_append mt_append (pv 6) (pa_cons (pe_lc (own := [("_law_k", 11)]) (g := (gName 11)) (tt := tYes) (by rfl) sc_second.nd (pi_range1 (by rfl) m_range (pa_cons (pv 1) pa_nil)) (blkOk_by (own := [("_law_k", 11)]) (N := N_second) (sc := defScope s_second) (by decide +kernel)) (fun _ _ _ _ _ => (pg_name (i := 11) sc_second.nd rfl (by first | exact .inl rfl | exact .inr rfl))) (fun _ _ _ _ _ => pts_nil) (fun _ _ _ _ _ => (pe_op op_add (pv 4) pe_int))) pa_nil)))
      (pss_cut (ps_expr (pe_bm PySem.F.plainAttrs_list PySem.F.slot_list_append PySem.F.type_list_append mt_append (pv 6) (pa_cons (pe_lc (own := [("_law_k", 11)]) (g := (gName 11)) (tt := tYes) (by rfl) sc_second.nd (pi_range1 (by rfl) m_range (pa_cons (pv 1) pa_nil)) (blkOk_by (own := [("_law_k", 11)]) (N := N_second) (sc := defScope s_second) (by decide +kernel)) (fun _ _ _ _ _ => (pg_name (i := 11) sc_second.nd rfl (by first | exact .inl rfl | exact .inr rfl))) (fun _ _ _ _ _ => pts_nil) (fun _ _ _ _ _ => (pe_op op_mod (pe_callTy call_int1 (by rfl) m_int (by decide +kernel) (pa_cons (pe_cl c_take hr (by decide) (by rfl) (pa_cons (pv 2) (pa_cons (pv 3) pa_nil))) pa_nil)) (pe_op op_add (pv 4) pe_int)))) pa_nil)))
      (pss_cut (ps_set (i := 12) sc_second.nd rfl (by first | exact .inl rfl | exact .inr rfl) (pe_op op_cat (pe_ix ix_list (pv 0) pe_int (fun _ _ => rfl)) (pe_lst (pa_cons (pe_op op_add (pv 4) pe_int) pa_nil))))
      (pss_cut (ps_if (pt_cmpR op_in_seq (pv 5) (pe_ix ix_list (pv 0) pe_int (fun _ _ => rfl)) (by rfl)) (pss_one (ps_expr (pe_bm PySem.F.plainAttrs_list PySem.F.slot_list_append PySem.F.type_list_append mt_append (pv 12) (pa_cons (pv 4) pa_nil)))) pss_nil)
      (pss_cons (ps_set (i := 14) sc_second.nd rfl (by first | exact .inl rfl | exact .inr rfl) (pe_op op_cat (pe_lst (pa_cons pe_int pa_nil)) (pe_lc (own := [("_law_state", 13)]) (g := (gName 13)) (tt := tYes) (by rfl) sc_second.nd (pi_range2 (by rfl) m_range (pa_cons pe_int (pa_cons (pe_op op_add (pv 4) pe_int) pa_nil))) (blkOk_by (own := [("_law_state", 13)]) (N := N_second) (sc := defScope s_second) (by decide +kernel)) (fun _ _ _ _ _ => (pg_name (i := 13) sc_second.nd rfl (by first | exact .inl rfl | exact .inr rfl))) (fun _ _ _ _ _ => pts_nil) (fun _ _ _ _ _ => (pe_op op_sub (pe_op op_add (pv 4) pe_int) (pv 13))))))
      (pss_cons (ps_setLc (i := 15) (own := [("_law_row", 7)]) (g := (gName 7)) (tt := tYes) (by rfl) sc_second.nd rfl rfl (sw_true rfl rfl rfl (by decide +kernel)) (pi_list (pv 6)) (blkOk_by (own := [("_law_row", 7)]) (N := N_second) (sc := defScope s_second) (by decide +kernel)) (fun _ _ _ _ _ => (pg_name (i := 7) sc_second.nd rfl (by first | exact .inl rfl | exact .inr rfl))) (fun _ _ _ _ _ => pts_nil) (fun _ _ _ _ _ => (pe_ix (ix_list_K (K := K) rfl) (pv 6) pe_int (fun _ _ => rfl))))
      (pss_cons (ps_for PassesOwn.never rfl (pi_range1 (by rfl) m_range (pa_cons (pe_op op_add (pv 4) pe_int) pa_nil)) (pg_name (i := 13) sc_second.nd rfl (by first | exact .inl rfl | exact .inr rfl))
        (pss_one (ps_asg (pe_lc (own := [("_law_entry_here", 10)]) (g := (gName 10)) (tt := tYes) (by rfl) sc_second.nd (pi_list (pe_ix ix_list (pv 6) (pv 13) (fun _ _ => rfl))) (blkOk_by (own := [("_law_entry_here", 10)]) (N := N_second) (sc := defScope s_second) (by decide +kernel)) (fun _ _ _ _ _ => (pg_name (i := 10) sc_second.nd rfl (by first | exact .inl rfl | exact .inr rfl))) (fun _ _ _ _ _ => pts_nil) (fun _ _ _ _ _ => (pe_cl c_turned hr (by decide) (by rfl) (pa_cons (pv 10) (pa_cons (pv 14) pa_nil))))) (pg_sub (pv 15) (pe_ix ix_list (pv 14) (pv 13) (fun _ _ => rfl)) set_list))))
      (pss_one (ps_ret (pe_lst (pa_cons (pv 15) (pa_cons (pe_lc (own := [("_law_state", 13)]) (g := (gName 13)) (tt := tYes) (by rfl) sc_second.nd (pi_list (pv 12)) (blkOk_by (own := [("_law_state", 13)]) (N := N_second) (sc := defScope s_second) (by decide +kernel)) (fun _ _ _ _ _ => (pg_name (i := 13) sc_second.nd rfl (by first | exact .inl rfl | exact .inr rfl))) (fun _ _ _ _ _ => pts_nil) (fun _ _ _ _ _ => (pe_ix (ix_list_K (K := K) rfl) (pv 14) (pv 13) (fun _ _ => rfl)))) pa_nil)))))))))))))))), ?_⟩
    have orig : ∀ {J : Hp}, Tk K dA p ds n H J → J t = some (.lst [.ref A1, .ref g]) ∧ TbR J A1 zs ∧ J g = some (.lst (gsq gs)) := fun {J} k => ⟨k.up ht0 tp, ⟨k.up hT0.sq Ap, fun z hz => k.up (hT0.at_ z hz) (zp z hz)⟩, k.up hg0 gp⟩
    obtain ⟨N, hN⟩ : ∃ N, N = zs.length := ⟨_, rfl⟩
    rw [← hN] at z0 lz q hgs
    have lT : (tb zs).length = N := by rw [hN]; exact List.length_map ..
    walk_at "go"
    refine ⟨t, _, _, .ref A1, rfl, rfl, SqL.of ht0, rfl, ?_⟩
    refine ⟨A1, _, rfl, .inl (SqL.of hT0.sq), ?_⟩
    rw [List.length_map, ← hN]
    walk_at "go"
    obtain ⟨mm, em⟩ := tk.pl
    refine ⟨dA, p, n, mm, ds, rfl, SqL.of tk.hA, tk.hd, em, tk.ne, fun r r0 r1 => ?_⟩
    obtain ⟨tk1, _⟩ := tk.next em
    generalize upd H p (.lst [.int ((mm + 1 : Nat) : Int)]) = H1 at tk1
    obtain ⟨d, ed, hd⟩ := modN r z0
    walk_at "go"
    dsimp only
    rw [ed]
    rw [show L2.start N_second [V.ref t, V.int (m : Int), V.ref dA, V.ref p] = [some (.ref t), some (.int (m : Int)), some (.ref dA), some (.ref p), none, none, none, none, none, none, none, none, none, none, none, none] from rfl]
    dsimp only [List.set]
    intro Ar nAr
    have sA := same_new (o := .lst []) nAr
    have eA : (upd H1 Ar (.lst [])) Ar = some (.lst (([] : List (Addr × List (Option Nat))).map fun z => V.ref z.1)) := upd_same
    have tk2 := tk1.more sA
    have nAH := tk1.nn nAr
    generalize upd H1 Ar (.lst []) = H2 at sA eA tk2
    have nep : ∀ {J : Hp} {x : Addr}, Tk K dA p ds n H J → J x = none → p ≠ x ∧ dA ≠ x := fun {J x} k h => ⟨fun e => (by obtain ⟨m, em⟩ := k.pl; rw [e, h] at em; cases em), fun e => (by have := k.hA; rw [e, h] at this; cases this)⟩
    obtain ⟨pA, dAr⟩ := nep tk1 nAr
    obtain ⟨zd, ezd⟩ : ∃ z, zs[d]? = some z := ⟨_, List.getElem?_eq_getElem (by omega)⟩
    clear sA nAr em tk1 ed r0 r1
    walk_at "go"
    refine ⟨t, _, _, .ref A1, rfl, rfl, SqL.of (orig tk2).1, rfl, ?_⟩
    walk_at "go"
    refine ⟨t, _, _, .ref A1, rfl, rfl, SqL.of (orig tk2).1, rfl, ?_⟩
    walk_at "go"
    refine ⟨A1, _, _, .ref zd.1, rfl, rfl, SqL.of (orig tk2).2.1.sq, atI_nat (by rw [List.getElem?_map, ezd]; rfl), ?_⟩
    walk_at "go"
    intro L0 nL0
    have s0 := same_new (o := .lst [.ref zd.1]) nL0
    have e0 : (upd H2 L0 (.lst [.ref zd.1])) L0 = some (.lst [.ref zd.1]) := upd_same
    have eA0 := s0 _ _ eA
    have tk3 := tk2.more s0
    generalize upd H2 L0 (.lst [.ref zd.1]) = H3 at s0 e0 eA0 tk3
    refine ⟨A1, L0, _, _, rfl, rfl, (orig tk3).2.1.sq, e0, by rw [List.length_map]; exact szl (by show zs.length + 1 ≤ 2000; omega), ?_⟩
    intro L1 nL1
    obtain ⟨ws, hws⟩ : ∃ ws : List (Addr × List (Option Nat)), ws = zs ++ [zd] := ⟨_, rfl⟩
    have lws : ws.length = N + 1 := by rw [hws, List.length_append, ← hN]; rfl
    have s1 := same_new (o := .lst ((zs.map fun z => V.ref z.1) ++ [.ref zd.1])) nL1
    have e1 : (upd H3 L1 (.lst ((zs.map fun z => V.ref z.1) ++ [.ref zd.1]))) L1 = some (.lst (ws.map fun z => V.ref z.1)) := by rw [upd_same, hws, List.map_append]; rfl
    have eA1 := s1 _ _ eA0
    have tk4 := tk3.more s1
    have nLH := tk3.nn nL1
    have pL := (nep tk3 nL1).1
    have AL : Ar ≠ L1 := ne_of_none eA0 nL1
    generalize upd H3 L1 (.lst ((zs.map fun z => V.ref z.1) ++ [.ref zd.1])) = H4 at s1 e1 eA1 tk4
    clear s0 s1 e0 eA0 tk3 nL1 nL0 eA tk2
    have wsz : ∀ z ∈ ws, z ∈ zs := fun z hz => by
      rw [hws] at hz
      rcases List.mem_append.mp hz with hz | hz
      · exact hz
      · rw [List.mem_singleton.mp hz]
        exact List.mem_of_getElem? ezd
    walk_at "go"
    refine ⟨⟨_, SqL.of e1⟩, ?_⟩
    refine for_gen (n := N + 1) (fun k σ J => Tk K dA p ds n H J ∧ ∃ (us : List (Addr × List (Option Nat))) (v7 v8 v9 v10 : Option V), J L1 = some (.lst (ws.map fun z => V.ref z.1)) ∧ TbR J Ar us ∧ (∀ u ∈ us, u.1 ≠ Ar ∧ u.1 ≠ p ∧ H u.1 = none) ∧ us.length = k ∧ (∀ (i : Nat) (z u : Addr × List (Option Nat)), ws[i]? = some z → us[i]? = some u → u.2.length = m ∧ (∀ j, j < m → Er N d (z.2.getD j none) (u.2.getD j none)) ∧ ∀ e, some e ∈ u.2 → e < N + 3) ∧ σ = [some (.ref t), some (.int (m : Int)), some (.ref dA), some (.ref p), some (.int (N : Int)), some (.int (d : Int)), some (.ref Ar), v7, v8, v9, v10, none, none, none, none, none]) ⟨tk4, [], none, none, none, none, e1, ⟨eA1, fun z h => absurd h (by simp)⟩, fun z h => absurd h (by simp), rfl, fun i z u _ h => (by cases h), rfl⟩ ?_ ?_ ?_ ?_
    · rintro k σ J hk ⟨tk5, us, v7, v8, v9, v10, eL, _⟩
      exact ⟨_, .ref (ws[k]'(by omega)).1, SqL.of eL, by rw [List.getElem?_map, List.getElem?_eq_getElem (by omega)]; rfl⟩
    · rintro σ J ⟨tk5, us, v7, v8, v9, v10, eL, _⟩
      exact ⟨_, SqL.of eL, by rw [List.length_map]; omega⟩
    · rintro k σ J x J' hk ⟨tk5, us, v7, v8, v9, v10, eL, tr, nu, lu, hu, rfl⟩ ⟨rfl, ex⟩
      have ex := ex _ (SqL.of eL)
      obtain ⟨z, ez⟩ : ∃ z, ws[k]? = some z := ⟨_, List.getElem?_eq_getElem (by omega)⟩
      rw [List.getElem?_map, ez] at ex
      cases ex
      have mz := wsz z (List.mem_of_getElem? ez)
      have mz2 : z.2 ∈ tb zs := List.mem_map.mpr ⟨z, mz, rfl⟩
      have lrow := wf.row _ mz2
      obtain ⟨m5, em5⟩ := tk5.pl
      walk_at "go"
      refine ⟨dA, p, n, m5, ds, rfl, SqL.of tk5.hA, tk5.hd, em5, tk5.ne, fun c c0 c1 => ?_⟩
      obtain ⟨tk6, sb6⟩ := tk5.next em5
      have eL6 := sb6 _ _ pL.symm eL
      have tr6 : TbR (upd J' p (.lst [.int ((m5 + 1 : Nat) : Int)])) Ar us := ⟨sb6 _ _ pA.symm tr.sq, fun u hm => sb6 _ _ (nu u hm).2.1 (tr.at_ u hm)⟩
      generalize upd J' p (.lst [.int ((m5 + 1 : Nat) : Int)]) = J6 at tk6 eL6 tr6
      clear sb6 em5 tk5 eL tr
      clear m5
      walk_at "go"
      intro Ln nLn
      have s7 := same_new (o := .lst []) nLn
      have eLn : (upd J6 Ln (.lst [])) Ln = some (.lst (([] : List (Option Nat)).map eV)) := upd_same
      have eL7 := s7 _ _ eL6
      have tr7 : TbR (upd J6 Ln (.lst [])) Ar us := ⟨s7 _ _ tr6.sq, fun u hm => s7 _ _ (tr6.at_ u hm)⟩
      have tk7 := tk6.more s7
      have nnH := tk6.nn nLn
      obtain ⟨pLn, dLn⟩ := nep tk6 nLn
      have ALn : Ar ≠ Ln := ne_of_none tr6.sq nLn
      have LLn : L1 ≠ Ln := ne_of_none eL6 nLn
      have uLn : ∀ u ∈ us, u.1 ≠ Ln := fun u hm => ne_of_none (tr6.at_ u hm) nLn
      generalize upd J6 Ln (.lst []) = J7 at s7 eLn eL7 tr7 tk7
      clear s7 eL6 tr6 tk6 nLn
      clear J6
      have hz := (orig tk7).2.1.at_ z mz
      walk_at "go"
      refine ⟨⟨_, SqL.of hz⟩, ?_⟩
      refine for_gen (n := m) (fun j σ J => Tk K dA p ds n H J ∧ ∃ (ln : List (Option Nat)) (v10 : Option V), J L1 = some (.lst (ws.map fun z => V.ref z.1)) ∧ TbR J Ar us ∧ J Ln = some (.lst (ln.map eV)) ∧ ln.length = j ∧ (∀ i, i < j → Er N d (z.2.getD i none) (ln.getD i none)) ∧ (∀ e, some e ∈ ln → e < N + 3) ∧ σ = [some (.ref t), some (.int (m : Int)), some (.ref dA), some (.ref p), some (.int (N : Int)), some (.int (d : Int)), some (.ref Ar), some (.ref z.1), some (.int c), some (.ref Ln), v10, none, none, none, none, none]) ⟨tk7, [], v10, eL7, tr7, eLn, rfl, fun i h => by omega, fun e h => absurd h (by simp), rfl⟩ ?_ ?_ ?_ ?_
      · rintro j σ J hj ⟨tk8, _⟩
        exact ⟨_, eV (z.2.getD j none), SqL.of ((orig tk8).2.1.at_ z mz), row_at (by omega)⟩
      · rintro σ J ⟨tk8, _⟩
        exact ⟨_, SqL.of ((orig tk8).2.1.at_ z mz), by rw [List.length_map]; omega⟩
      · rintro j σ J x J8 hj ⟨tk8, ln, v10, eL8, tr8, eLn8, ll, her, hent, rfl⟩ ⟨rfl, ex⟩
        have ex := ex _ (SqL.of ((orig tk8).2.1.at_ z mz))
        rw [row_at (by omega)] at ex
        cases ex
        have fin : ∀ o', Er N d (z.2.getD j none) o' → (∀ e, o' = some e → e < N + 3) → Tk K dA p ds n H (upd J8 Ln (.lst (ln.map eV ++ [eV o']))) ∧ ∃ (ln2 : List (Option Nat)) (v10' : Option V), (upd J8 Ln (.lst (ln.map eV ++ [eV o']))) L1 = some (.lst (ws.map fun z => V.ref z.1)) ∧ TbR (upd J8 Ln (.lst (ln.map eV ++ [eV o']))) Ar us ∧ (upd J8 Ln (.lst (ln.map eV ++ [eV o']))) Ln = some (.lst (ln2.map eV)) ∧ ln2.length = j + 1 ∧ (∀ i, i < j + 1 → Er N d (z.2.getD i none) (ln2.getD i none)) ∧ (∀ e, some e ∈ ln2 → e < N + 3) ∧ [some (.ref t), some (.int (m : Int)), some (.ref dA), some (.ref p), some (.int (N : Int)), some (.int (d : Int)), some (.ref Ar), some (.ref z.1), some (.int c), some (.ref Ln), some (eV (z.2.getD j none)), none, none, none, none, none] = [some (.ref t), some (.int (m : Int)), some (.ref dA), some (.ref p), some (.int (N : Int)), some (.int (d : Int)), some (.ref Ar), some (.ref z.1), some (.int c), some (.ref Ln), v10', none, none, none, none, none] := fun o' er' le' => by
          refine ⟨tk8.at_ nnH pLn dLn, ln ++ [o'], _, by rw [upd_ne LLn]; exact eL8, ⟨by rw [upd_ne ALn]; exact tr8.sq, fun u hm => by rw [upd_ne (uLn u hm)]; exact tr8.at_ u hm⟩, by rw [upd_same, List.map_append]; rfl, by rw [List.length_append, ll]; rfl, fun i hi => ?_, fun e he => ?_, rfl⟩
          · rcases Nat.lt_or_ge i j with c2 | c2
            · rw [List.getD_eq_getElem?_getD (l := ln ++ [o']), List.getElem?_append_left (by omega), ← List.getD_eq_getElem?_getD]
              exact her i c2
            · obtain rfl : i = j := by omega
              rw [List.getD_eq_getElem?_getD (l := ln ++ [o']), List.getElem?_append_right (by omega), ll, Nat.sub_self]
              exact er'
          · rcases List.mem_append.mp he with he | he
            · exact hent e he
            · exact le' e (List.mem_singleton.mp he).symm
        cases eo : z.2.getD j none with
        | none =>
          rw [eo] at fin
          dsimp only [eV]
          walk_at "go"
          refine ite2 (fun c2 => ?_) (fun c2 => ?_)
          · walk_at "go"
            refine ⟨.inl ⟨rfl, _, SqL.of eLn8⟩, ?_⟩
            walk_at "go"
            refine ⟨Ln, _, _, rfl, rfl, eLn8, by rw [List.length_map]; exact szC (by omega), ?_⟩
            exact fin (some (N + 1)) .dead (fun e h => by cases h; omega)
          · walk_at "go"
            refine ⟨.inl ⟨rfl, _, SqL.of eLn8⟩, ?_⟩
            walk_at "go"
            refine ⟨Ln, _, _, rfl, rfl, eLn8, by rw [List.length_map]; exact szC (by omega), ?_⟩
            exact fin none .own (fun e h => by cases h)
        | some e =>
          have he : e < N := by
            rw [← lT]
            refine wf.ent _ mz2 e ?_
            rw [← eo, List.getD_eq_getElem?_getD, List.getElem?_eq_getElem (by omega)]
            exact List.getElem_mem _
          rw [eo] at fin
          dsimp only [eV]
          walk_at "go"
          refine ite2 (fun c2 => ?_) (fun c2 => ?_)
          · have ee : e = d := by have := of_decide_eq_true c2; injection this with this; omega
            subst ee
            walk_at "go"
            refine ite2 (fun c3 => ?_) (fun c3 => ?_)
            · walk_at "go"
              refine ⟨.inl ⟨rfl, _, SqL.of eLn8⟩, ?_⟩
              walk_at "go"
              refine ⟨Ln, _, _, rfl, rfl, eLn8, by rw [List.length_map]; exact szC (by omega), ?_⟩
              exact fin (some N) .dbl (fun e h => by cases h; omega)
            · walk_at "go"
              refine ⟨.inl ⟨rfl, _, SqL.of eLn8⟩, ?_⟩
              walk_at "go"
              refine ⟨Ln, _, _, rfl, rfl, eLn8, by rw [List.length_map]; exact szC (by omega), ?_⟩
              exact fin (some e) .own (fun e h => by cases h; omega)
          · walk_at "go"
            refine ⟨.inl ⟨rfl, _, SqL.of eLn8⟩, ?_⟩
            walk_at "go"
            refine ⟨Ln, _, _, rfl, rfl, eLn8, by rw [List.length_map]; exact szC (by omega), ?_⟩
            exact fin (some e) .own (fun e h => by cases h; omega)
      · rintro σ J ⟨tk8, ln, v10, eL8, tr8, eLn8, ll, her, hent, rfl⟩
        walk_at "go"
        refine ⟨.inl ⟨rfl, _, SqL.of tr8.sq⟩, ?_⟩
        walk_at "go"
        refine ⟨Ar, _, _, rfl, rfl, tr8.sq, by rw [List.length_map, lu]; exact szC (by omega), ?_⟩
        refine ⟨tk8.at_ nAH pA dAr, us ++ [(Ln, ln)], _, _, _, _, by rw [upd_ne AL.symm]; exact eL8, ⟨by rw [upd_same, List.map_append]; rfl, fun u hm => ?_⟩, fun u hm => ?_, by rw [List.length_append, lu]; rfl, fun i z' u hz' hu' => ?_, rfl⟩
        · rcases List.mem_append.mp hm with hm | hm
          · rw [upd_ne (nu u hm).1]
            exact tr8.at_ u hm
          · rw [List.mem_singleton.mp hm, upd_ne ALn.symm]
            exact eLn8
        · rcases List.mem_append.mp hm with hm | hm
          · exact nu u hm
          · rw [List.mem_singleton.mp hm]
            exact ⟨ALn.symm, pLn.symm, nnH⟩
        · rcases Nat.lt_or_ge i k with c2 | c2
          · rw [List.getElem?_append_left (by omega)] at hu'
            exact hu i z' u hz' hu'
          · have ik : i = k := by
              have := (List.getElem?_eq_some_iff.mp hu').1
              rw [List.length_append, lu] at this
              have : i < k + 1 := this
              omega
            subst ik
            rw [List.getElem?_append_right (by omega), lu, Nat.sub_self] at hu'
            cases hu'
            rw [ez] at hz'
            cases hz'
            exact ⟨ll, her, hent⟩
    rintro σ J ⟨tk5, us, v7, v8, v9, v10, eL, tr, nu, lu, hu, rfl⟩
    clear eA1 e1 tk4
    walk_at "go"
    refine ⟨.inl ⟨rfl, _, SqL.of tr.sq⟩, ?_⟩
    walk_at "go"
    intro D nD
    refine lc_flt (n := m) (fun k => .int (0 + (k : Int))) (fun _ => true) (fun k => .int ((N : Int) + 1)) (by omega) nD (fun k J1 hk s2 => ?_) (fun J1 s2 => ?_) (fun k J1 x J2 hk s2 y => ?_) (fun k => rfl) (fun k J1 Q1 _ _ q1 => q1 _ (Same.refl _)) (fun k J1 Q1 hk _ s2 q1 => ?_) (fun J1 s1 eD => ?_)
    · show k < ((m : Int)).toNat
      omega
    · show ((m : Int)).toNat ≤ m
      omega
    · obtain ⟨rfl, rfl⟩ := y
      exact ⟨Same.refl _, rfl⟩
    · have q1 := q1 _ (Same.refl _)
      walk_at "go"
      exact q1
    have eD : J1 D = some (.lst ((List.replicate m (some (N + 1))).map eV)) := by
      rw [eD]
      congr 2
      unfold fltL
      rw [List.filter_eq_self.mpr (fun _ _ => rfl), List.map_const', List.map_replicate, List.length_range]
      rfl
    have AD : Ar ≠ D := ne_of_none tr.sq nD
    obtain ⟨pD, dD⟩ := nep tk5 nD
    have nDH := tk5.nn nD
    have tk6 := tk5.more s1
    have tr6 : TbR J1 Ar us := ⟨s1 _ _ tr.sq, fun u hm => s1 _ _ (tr.at_ u hm)⟩
    have uD : ∀ u ∈ us, u.1 ≠ D := fun u hm => ne_of_none (tr.at_ u hm) nD
    clear s1 tr tk5 nD eL
    walk_at "go"
    refine ⟨Ar, _, _, rfl, rfl, tr6.sq, by rw [List.length_map, lu]; exact szC (by omega), ?_⟩
    have tr7 : TbR (upd J1 Ar (.lst ((us.map fun z => V.ref z.1) ++ [.ref D]))) Ar (us ++ [(D, List.replicate m (some (N + 1)))]) := ⟨by rw [upd_same, List.map_append]; rfl, fun u hm => by
      rcases List.mem_append.mp hm with hm | hm
      · rw [upd_ne (nu u hm).1]
        exact tr6.at_ u hm
      · rw [List.mem_singleton.mp hm, upd_ne AD.symm]
        exact eD⟩
    have tk7 : Tk K dA p ds n H (upd J1 Ar (.lst ((us.map fun z => V.ref z.1) ++ [.ref D]))) := tk6.at_ nAH pA dAr
    generalize upd J1 Ar (.lst ((us.map fun z => V.ref z.1) ++ [.ref D])) = J3 at tr7 tk7
    clear tr6 tk6 eD
    have nu7 : ∀ u ∈ us ++ [(D, List.replicate m (some (N + 1)))], u.1 ≠ Ar ∧ u.1 ≠ p ∧ H u.1 = none := fun u hm => by
      rcases List.mem_append.mp hm with hm | hm
      · exact nu u hm
      · rw [List.mem_singleton.mp hm]
        exact ⟨AD.symm, pD.symm, nDH⟩
    obtain ⟨us7, hus7⟩ : ∃ us7, us7 = us ++ [(D, List.replicate m (some (N + 1)))] := ⟨_, rfl⟩
    rw [← hus7] at tr7 nu7
    have lu7 : us7.length = N + 2 := by rw [hus7, List.length_append, lu]; rfl
    have hu7 : ∀ (i : Nat) (u : Addr × List (Option Nat)), us7[i]? = some u → u.2.length = m ∧ (∀ s', prS N d i = some s' → ∀ j, j < m → Er N d (nx (tb zs) s' j) (u.2.getD j none)) ∧ (i = N + 1 → ∀ j, j < m → u.2.getD j none = some (N + 1)) ∧ ∀ e, some e ∈ u.2 → e < N + 3 := fun i u h => by
      rw [hus7] at h
      rcases Nat.lt_or_ge i (N + 1) with c | c
      · rw [List.getElem?_append_left (by omega)] at h
        obtain ⟨z, ez⟩ : ∃ z, ws[i]? = some z := ⟨_, List.getElem?_eq_getElem (by omega)⟩
        obtain ⟨a1, a2, a3⟩ := hu i z u ez h
        refine ⟨a1, fun s' hs j hj => ?_, fun e => by omega, a3⟩
        have lz2 := wf.row _ (List.mem_map.mpr ⟨z, wsz z (List.mem_of_getElem? ez), rfl⟩)
        have e2 : z.2.getD j none = nx (tb zs) s' j := by
          unfold prS at hs
          rcases Nat.lt_or_ge i N with c2 | c2
          · rw [if_pos c2] at hs
            cases hs
            refine row_nx ?_ (by omega)
            rw [hws, List.getElem?_append_left (by omega)] at ez
            exact ez
          · have : i = N := by omega
            subst this
            rw [if_neg (by omega), if_pos rfl] at hs
            cases hs
            rw [hws, List.getElem?_append_right (by omega), ← hN, Nat.sub_self] at ez
            cases ez
            exact row_nx ezd (by omega)
        rw [← e2]
        exact a2 j hj
      · have ei : i = N + 1 := by
          have := (List.getElem?_eq_some_iff.mp h).1
          rw [← hus7] at this
          omega
        rw [List.getElem?_append_right (by omega), lu, ei, Nat.sub_self] at h
        cases h
        refine ⟨List.length_replicate, fun s' hs => ?_, fun _ j hj => ?_, fun e he => ?_⟩
        · unfold prS at hs
          rw [if_neg (by omega), if_neg (by omega)] at hs
          cases hs
        · rw [List.getD_eq_getElem?_getD, List.getElem?_replicate, if_pos hj]
          rfl
        · have := List.eq_of_mem_replicate he
          injection this with this
          omega
    refine ⟨fun σ' J => Tk K dA p ds n H J ∧ ∃ (us : List (Addr × List (Option Nat))) (v7 v8 v9 v10 : Option V), TbR J Ar us ∧ (∀ u ∈ us, u.1 ≠ Ar ∧ u.1 ≠ p ∧ H u.1 = none) ∧ Sec (tb zs) (tb us) m d ∧ σ' = [some (.ref t), some (.int (m : Int)), some (.ref dA), some (.ref p), some (.int (N : Int)), some (.int (d : Int)), some (.ref Ar), v7, v8, v9, v10, none, none, none, none, none], ?_, ?_⟩
    · walk_at "go"
      refine ⟨.inl ⟨rfl, _, SqL.of tr7.sq⟩, ?_⟩
      walk_at "go"
      intro D2 nD2
      obtain ⟨pD2, dD2⟩ := nep tk7 nD2
      refine lc_gen (n := m) (fun i J2 => Tk K dA p ds n J3 J2 ∧ ∃ r : List (Option Nat), J2 D2 = some (.lst (r.map eV)) ∧ r.length = i ∧ ∀ e, some e ∈ r → e < N + 3) ⟨tk7.slf.more (same_new nD2), [], upd_same, rfl, fun e m => absurd m (by simp)⟩ ?_ ?_ ?_ ?_
      · intro i J2 hi _
        show i < ((m : Int)).toNat
        omega
      · intro J2 _
        show ((m : Int)).toNat ≤ m
        omega
      · rintro i J2 x J4 hi ⟨tk8, r', eD2, lr, hent⟩ ⟨rfl, rfl⟩
        obtain ⟨m5, em5⟩ := tk8.pl
        walk_at "go"
        refine ⟨dA, p, n, m5, ds, rfl, SqL.of tk8.hA, tk8.hd, em5, tk8.ne, fun c c0 c1 => ?_⟩
        obtain ⟨tk9, sb9⟩ := tk8.next em5
        have eD9 := sb9 _ _ pD2.symm eD2
        generalize upd J4 p (.lst [.int ((m5 + 1 : Nat) : Int)]) = J5 at tk9 eD9
        obtain ⟨c', ec', hc'⟩ := modN c (show 0 < N + 3 by omega)
        walk_at "go"
        dsimp only
        rw [show c % ((N : Int) + 3) = (c' : Int) from ec']
        refine ⟨_, eD9, by rw [List.length_map]; exact szC (by omega), tk9.at_ nD2 pD2 dD2, r' ++ [some c'], by rw [upd_same, List.map_append]; rfl, by rw [List.length_append, lr]; rfl, fun e he => ?_⟩
        rcases List.mem_append.mp he with he | he
        · exact hent e he
        · have := List.mem_singleton.mp he
          injection this with this
          omega
      rintro J2 ⟨tk8, r', eD2, lr, hent⟩
      have tr8 : TbR J2 Ar us7 := ⟨tk8.up tr7.sq pA.symm, fun u hm => tk8.up (tr7.at_ u hm) (nu7 u hm).2.1⟩
      have D2A : D2 ≠ Ar := fun e => by have := tr7.sq; rw [← e, nD2] at this; cases this
      have D2u : ∀ u ∈ us7, u.1 ≠ D2 := fun u hm => ne_of_none (tr7.at_ u hm) nD2
      have tk9 := tk7.tr tk8
      refine ⟨Ar, _, _, rfl, rfl, tr8.sq, by rw [List.length_map, lu7]; exact szC (by omega), ?_⟩
      refine ⟨tk9.at_ nAH pA dAr, us7 ++ [(D2, r')], _, _, _, _, ⟨by rw [upd_same, List.map_append]; rfl, fun u hm => ?_⟩, fun u hm => ?_, ?_, rfl⟩
      · rcases List.mem_append.mp hm with hm | hm
        · rw [upd_ne (nu7 u hm).1]
          exact tr8.at_ u hm
        · rw [List.mem_singleton.mp hm, upd_ne D2A]
          exact eD2
      · rcases List.mem_append.mp hm with hm | hm
        · exact nu7 u hm
        · rw [List.mem_singleton.mp hm]
          exact ⟨D2A, pD2.symm, tk7.nn nD2⟩
      · obtain ⟨us8, hus8⟩ : ∃ us8, us8 = us7 ++ [(D2, r')] := ⟨_, rfl⟩
        rw [← hus8]
        have lu8 : us8.length = N + 3 := by rw [hus8, List.length_append, lu7]; rfl
        have all8 : ∀ u ∈ us8, u.2.length = m ∧ ∀ e, some e ∈ u.2 → e < N + 3 := fun u hm => by
          rw [hus8] at hm
          rcases List.mem_append.mp hm with hm | hm
          · obtain ⟨i, hi, e⟩ := List.getElem_of_mem hm
            have := hu7 i u (by rw [List.getElem?_eq_getElem hi, e])
            exact ⟨this.1, this.2.2.2⟩
          · rw [List.mem_singleton.mp hm]
            exact ⟨lr, hent⟩
        have low : ∀ i, i < N + 2 → ∃ u, us8[i]? = some u ∧ us7[i]? = some u := fun i hi => by
          obtain ⟨u, e⟩ : ∃ u, us7[i]? = some u := ⟨_, List.getElem?_eq_getElem (by omega)⟩
          exact ⟨u, by rw [hus8, List.getElem?_append_left (by omega)]; exact e, e⟩
        have l8 : (tb us8).length = us8.length := List.length_map ..
        refine ⟨by rw [l8, lu8, lT], fun r hr => ?_, fun r hr e he => ?_, fun s' s2 hs j hj => ?_, fun j hj => ?_⟩
        · obtain ⟨u, hu, rfl⟩ := List.mem_map.mp hr
          exact (all8 u hu).1
        · obtain ⟨u, hu, rfl⟩ := List.mem_map.mp hr
          rw [lT]
          exact (all8 u hu).2 e he
        · rw [lT] at hs ⊢
          have ls : s' < N + 2 := by
            unfold prS at hs
            split at hs
            · omega
            · split at hs
              · omega
              · cases hs
          obtain ⟨u, e8, e7⟩ := low s' ls
          have h7 := hu7 s' u e7
          rw [← row_nx e8 (i := j) (by rw [h7.1]; exact hj)]
          exact h7.2.1 s2 hs j hj
        · rw [lT]
          obtain ⟨u, e8, e7⟩ := low (N + 1) (by omega)
          have h7 := hu7 (N + 1) u e7
          rw [← row_nx e8 (i := j) (by rw [h7.1]; exact hj)]
          exact h7.2.2.1 rfl j hj
    clear tr7 nu7 hu7 lu7 hus7 tk7 hu nu lu
    rintro σ' J ⟨tk5, us, v7, v8, v9, v10, tr, nu, sec, rfl⟩
    have lus : us.length = N + 3 := by
      have := sec.len
      rw [lT] at this
      rw [← this]
      exact (List.length_map ..).symm
    refine ⟨fun σ' J => Tk K dA p ds n H J ∧ TbR J Ar us ∧ ∃ Gd : Addr, J Gd = some (.lst (gsq (gs ++ [N + 2]))) ∧ H Gd = none ∧ p ≠ Gd ∧ dA ≠ Gd ∧ Ar ≠ Gd ∧ (∀ u ∈ us, u.1 ≠ Gd) ∧ σ' = [some (.ref t), some (.int (m : Int)), some (.ref dA), some (.ref p), some (.int (N : Int)), some (.int (d : Int)), some (.ref Ar), v7, v8, v9, v10, none, some (.ref Gd), none, none, none], ?_, ?_⟩
    · walk_at "go"
      refine ⟨t, _, _, .ref g, rfl, rfl, SqL.of (orig tk5).1, rfl, ?_⟩
      walk_at "go"
      intro L0 nL0
      have s0 := same_new (o := .lst [.int ((N : Int) + 2)]) nL0
      have e0 : (upd J L0 (.lst [.int ((N : Int) + 2)])) L0 = some (.lst [.int ((N : Int) + 2)]) := upd_same
      have tk6 := tk5.more s0
      have tr6 : TbR (upd J L0 (.lst [.int ((N : Int) + 2)])) Ar us := ⟨s0 _ _ tr.sq, fun u hm => s0 _ _ (tr.at_ u hm)⟩
      generalize upd J L0 (.lst [.int ((N : Int) + 2)]) = J1 at s0 e0 tk6 tr6
      refine ⟨g, L0, _, _, rfl, rfl, (orig tk6).2.2, e0, by unfold gsq; rw [List.length_map]; exact szl (by show gs.length + 1 ≤ 2000; omega), ?_⟩
      intro Gd nGd
      have s1 := same_new (o := .lst (gsq gs ++ [.int ((N : Int) + 2)])) nGd
      refine ⟨tk6.more s1, ⟨s1 _ _ tr6.sq, fun u hm => s1 _ _ (tr6.at_ u hm)⟩, Gd, ?_, tk6.nn nGd, (nep tk6 nGd).1, (nep tk6 nGd).2, ne_of_none tr6.sq nGd, fun u hm => ne_of_none (tr6.at_ u hm) nGd, rfl⟩
      rw [upd_same]
      unfold gsq
      rw [List.map_append]
      rfl
    clear tk5 tr
    rintro σ' J ⟨tk5, tr, Gd, eG, nGH, pG, dG, AG, uG, rfl⟩
    refine ⟨fun σ' J => Tk K dA p ds n H J ∧ TbR J Ar us ∧ J Gd = some (.lst (gsq (gs ++ [N + 2] ++ if d ∈ gs then [N] else []))) ∧ σ' = [some (.ref t), some (.int (m : Int)), some (.ref dA), some (.ref p), some (.int (N : Int)), some (.int (d : Int)), some (.ref Ar), v7, v8, v9, v10, none, some (.ref Gd), none, none, none], ?_, ?_⟩
    · walk_at "go"
      refine ⟨t, _, _, .ref g, rfl, rfl, SqL.of (orig tk5).1, rfl, ?_⟩
      refine ⟨g, _, rfl, .inl (SqL.of (orig tk5).2.2), rfl, gsq_flat gs, ?_⟩
      rw [inV_gsq]
      walk_at "go"
      refine ite2 (fun c => ?_) (fun c => ?_)
      · have c := of_decide_eq_true c
        rw [if_pos c]
        walk_at "go"
        refine ⟨.inl ⟨rfl, _, SqL.of eG⟩, ?_⟩
        walk_at "go"
        refine ⟨Gd, _, _, rfl, rfl, eG, by unfold gsq; rw [List.length_map, List.length_append]; exact szC (by show gs.length + 1 ≤ _; omega), ?_⟩
        refine ⟨tk5.at_ nGH pG dG, ⟨by rw [upd_ne AG]; exact tr.sq, fun u hm => by rw [upd_ne (uG u hm)]; exact tr.at_ u hm⟩, ?_, rfl⟩
        rw [upd_same]
        unfold gsq
        rw [List.map_append (l₁ := gs ++ [N + 2])]
        rfl
      · have c : ¬ d ∈ gs := fun z => c (decide_eq_true z)
        rw [if_neg c, List.append_nil]
        walk_at "go"
        rfl
    clear tk5 tr eG
    rintro σ' J ⟨tk5, tr, eG, rfl⟩
    obtain ⟨sg, hsg⟩ : ∃ sg : List Nat, sg = gs ++ [N + 2] ++ if d ∈ gs then [N] else [] := ⟨_, rfl⟩
    rw [← hsg] at eG
    have lsg : sg.length ≤ 10 ∧ ∀ s ∈ sg, s < N + 3 := by
      rw [hsg]
      constructor
      · rw [List.length_append, List.length_append]
        split
        · show gs.length + 1 + 1 ≤ 10
          omega
        · show gs.length + 1 + 0 ≤ 10
          omega
      · intro s hs
        rcases List.mem_append.mp hs with hs | hs
        · rcases List.mem_append.mp hs with hs | hs
          · have := hgs s hs
            omega
          · rw [List.mem_singleton.mp hs]
            omega
        · split at hs
          · rw [List.mem_singleton.mp hs]
            omega
          · cases hs
    walk_at "go"
    intro L0 nL0
    have s0 := same_new (o := .lst [.int 0]) nL0
    have e0 : (upd J L0 (.lst [.int 0])) L0 = some (.lst [.int 0]) := upd_same
    have tk6 := tk5.more s0
    have tr6 : TbR (upd J L0 (.lst [.int 0])) Ar us := ⟨s0 _ _ tr.sq, fun u hm => s0 _ _ (tr.at_ u hm)⟩
    have eG6 := s0 _ _ eG
    generalize upd J L0 (.lst [.int 0]) = J1 at s0 e0 tk6 tr6 eG6
    clear tk5 tr eG s0 nL0
    walk_at "go"
    intro L1 nL1
    refine lc_flt (n := N + 2) (fun k => .int (1 + (k : Int))) (fun _ => true) (fun k => .int ((N : Int) + 3 - (1 + (k : Int)))) (by omega) nL1 (fun k J2 hk s2 => ?_) (fun J2 s2 => ?_) (fun k J2 x J3 hk s2 y => ?_) (fun k => rfl) (fun k J2 Q1 _ _ q1 => q1 _ (Same.refl _)) (fun k J2 Q1 hk _ s2 q1 => ?_) (fun J2 s1 e1 => ?_)
    · show k < ((N : Int) + 3 - 1).toNat
      omega
    · show ((N : Int) + 3 - 1).toNat ≤ N + 2
      omega
    · obtain ⟨rfl, rfl⟩ := y
      exact ⟨Same.refl _, rfl⟩
    · have q1 := q1 _ (Same.refl _)
      walk_at "go"
      exact q1
    refine ⟨L0, L1, _, _, rfl, rfl, s1 _ _ e0, e1, szl (by show 1 + (fltL _ _ _).length ≤ 2000; have := flt_len (fun _ => true) (fun k => V.int ((N : Int) + 3 - (1 + (k : Int)))) (N + 2); omega), ?_⟩
    intro Tn nTn
    have s2 := same_new (o := .lst ([.int 0] ++ fltL (fun _ => true) (fun k => V.int ((N : Int) + 3 - (1 + (k : Int)))) (N + 2))) nTn
    have eT : (upd J2 Tn (.lst ([.int 0] ++ fltL (fun _ => true) (fun k => V.int ((N : Int) + 3 - (1 + (k : Int)))) (N + 2)))) Tn = some (.lst ((List.range (N + 3)).map fun s => V.int ((tau N s : Nat) : Int))) := by
      rw [upd_same]
      congr 2
      unfold fltL
      rw [List.filter_eq_self.mpr (fun _ _ => rfl), List.range_succ_eq_map (n := N + 2), List.map_cons, List.map_map]
      refine (fun (h : List.map (fun (k : Nat) => V.int ((N : Int) + 3 - (1 + (k : Int)))) (List.range (N + 2)) = List.map ((fun s => V.int ((tau N s : Nat) : Int)) ∘ Nat.succ) (List.range (N + 2))) => by rw [← h]; rfl) (List.map_congr_left fun k hk => ?_)
      have hk := List.mem_range.mp hk
      show V.int ((N : Int) + 3 - (1 + (k : Int))) = V.int ((tau N (k + 1) : Nat) : Int)
      unfold tau
      rw [if_neg (by omega)]
      congr 1
      omega
    have s3 := s1.trans s2
    have tk7 := tk6.more s3
    have tr7 : TbR (upd J2 Tn (.lst ([.int 0] ++ fltL (fun _ => true) (fun k => V.int ((N : Int) + 3 - (1 + (k : Int)))) (N + 2)))) Ar us := ⟨s3 _ _ tr6.sq, fun u hm => s3 _ _ (tr6.at_ u hm)⟩
    have eG7 := s3 _ _ eG6
    generalize upd J2 Tn (.lst ([.int 0] ++ fltL (fun _ => true) (fun k => V.int ((N : Int) + 3 - (1 + (k : Int)))) (N + 2))) = J3 at s2 s3 eT tk7 tr7 eG7
    clear s1 s2 s3 e0 e1 tk6 tr6 eG6 nL1 nTn
    obtain ⟨tfn, htfn⟩ : ∃ tfn, tfn = tau N := ⟨_, rfl⟩
    walk_at "go"
    have usx : ∀ i, i < N + 3 → (us.map fun z => V.ref z.1)[i]? = some (.ref (us.getD i (0, [])).1) := fun i hi => by
      rw [List.getElem?_map, List.getD_eq_getElem?_getD, List.getElem?_eq_getElem (by omega)]
      rfl
    refine ⟨⟨_, SqL.of tr7.sq⟩, ?_⟩
    intro Fo nFo
    refine lc_flt (n := N + 3) (fun k => .ref (us.getD k (0, [])).1) (fun _ => true) (fun k => .ref (us.getD 0 (0, [])).1) (by omega) nFo (fun k J2 hk s2 => ⟨_, _, s2.seq (SqL.of tr7.sq), usx k hk⟩) (fun J2 s2 => ⟨_, s2.seq (SqL.of tr7.sq), by rw [List.length_map]; omega⟩) (fun k J2 x J4 hk s2 y => ?_) (fun k => rfl) (fun k J2 Q1 _ _ q1 => q1 _ (Same.refl _)) (fun k J2 Q1 hk _ s2 q1 => ?_) (fun J4 s4 eF => ?_)
    · obtain ⟨rfl, ex⟩ := y
      have ex := ex _ (s2.seq (SqL.of tr7.sq))
      rw [usx k hk] at ex
      cases ex
      exact ⟨Same.refl _, rfl⟩
    · walk_at "go"
      exact ⟨Ar, _, _, _, rfl, rfl, s2.seq (SqL.of tr7.sq), atI_nat (j := 0) (usx 0 (by omega)), q1 _ (Same.refl _)⟩
    have eF : J4 Fo = some (.lst ((List.range (N + 3)).map fun _ => V.ref (us.getD 0 (0, [])).1)) := by
      rw [eF]
      unfold fltL
      rw [List.filter_eq_self.mpr (fun _ _ => rfl)]
    have tk8 := tk7.more s4
    have tr8 : TbR J4 Ar us := ⟨s4 _ _ tr7.sq, fun u hm => s4 _ _ (tr7.at_ u hm)⟩
    have eT8 := s4 _ _ eT
    have eG8 := s4 _ _ eG7
    have nFH := tk7.nn nFo
    obtain ⟨pF, dF⟩ := nep tk7 nFo
    have AF : Ar ≠ Fo := ne_of_none tr7.sq nFo
    have TF : Tn ≠ Fo := ne_of_none eT nFo
    have GF : Gd ≠ Fo := ne_of_none eG7 nFo
    have uF : ∀ u ∈ us, u.1 ≠ Fo := fun u hm => ne_of_none (tr7.at_ u hm) nFo
    clear tk7 tr7 eT eG7 nFo s4
    walk_at "go"
    obtain ⟨tro, htro⟩ : ∃ tro : Nat → List (Option Nat), tro = fun t => (us.getD (tau N t) (0, [])).2.map fun o => o.map (tau N) := ⟨_, rfl⟩
    refine for_gen (n := N + 3) (fun s σ J => Tk K dA p ds n H J ∧ TbR J Ar us ∧ J Tn = some (.lst ((List.range (N + 3)).map fun s => V.int ((tau N s : Nat) : Int))) ∧ J Gd = some (.lst (gsq sg)) ∧ ∃ (fa : Nat → Addr) (v10 v13 : Option V), J Fo = some (.lst ((List.range (N + 3)).map fun t => V.ref (fa t))) ∧ (∀ t, t < N + 3 → tau N t < s → J (fa t) = some (.lst ((tro t).map eV)) ∧ fa t ≠ Fo) ∧ σ = [some (.ref t), some (.int (m : Int)), some (.ref dA), some (.ref p), some (.int (N : Int)), some (.int (d : Int)), some (.ref Ar), v7, v8, v9, v10, none, some (.ref Gd), v13, some (.ref Tn), some (.ref Fo)]) ⟨tk8, tr8, eT8, eG8, fun _ => (us.getD 0 (0, [])).1, v10, none, eF, fun t _ h => by omega, rfl⟩ ?_ ?_ ?_ ?_
    · intro s σ J hs _
      show s < ((N : Int) + 3).toNat
      omega
    · intro σ J _
      show ((N : Int) + 3).toNat ≤ N + 3
      omega
    · clear tk8 tr8 eT8 eG8 eF
      rintro s σ J x J5 hs ⟨tk8, tr8, eT8, eG8, fa, v10, v13, eF, hfa, rfl⟩ ⟨rfl, rfl⟩
      rw [show (0 : Int) + (s : Int) = (s : Int) by omega]
      obtain ⟨u, eu⟩ : ∃ u, us[s]? = some u := ⟨_, List.getElem?_eq_getElem (by omega)⟩
      have mu := List.mem_of_getElem? eu
      have mu2 : u.2 ∈ tb us := List.mem_map.mpr ⟨u, mu, rfl⟩
      have lrow := sec.row _ mu2
      have hent := sec.ent _ mu2
      rw [lT] at hent
      have hrow := tr8.at_ u mu
      walk_at "go"
      refine ⟨Ar, _, _, .ref u.1, rfl, rfl, SqL.of tr8.sq, atI_nat (by rw [List.getElem?_map, eu]; rfl), ?_⟩
      walk_at "go"
      refine ⟨⟨_, SqL.of hrow⟩, ?_⟩
      intro D nD
      refine lc_flt (n := m) (fun i => eV (u.2.getD i none)) (fun _ => true) (fun i => eV ((u.2.getD i none).map (tau N))) (by omega) nD (fun i J3 hi s6 => ⟨_, _, s6.seq (SqL.of hrow), row_at (by omega)⟩) (fun J3 s6 => ⟨_, s6.seq (SqL.of hrow), by rw [List.length_map]; omega⟩) (fun i J3 x J4 hi s6 y => ?_) (fun i => rfl) (fun i J3 Q1 hi s6 q1 => q1 _ (Same.refl _)) (fun i J3 Q1 hi _ s6 q1 => ?_) (fun J3 s6 eD => ?_)
      · obtain ⟨rfl, ex⟩ := y
        have ex := ex _ (s6.seq (SqL.of hrow))
        rw [row_at (by omega)] at ex
        cases ex
        exact ⟨Same.refl _, rfl⟩
      · have q1 := q1 _ (Same.refl _)
        walk_at "go"
        refine ⟨u.2.getD i none, Tn, N, rfl, SqL.of (s6 _ _ eT8), fun e he => hent e ?_, q1⟩
        rw [← he, List.getD_eq_getElem?_getD, List.getElem?_eq_getElem (by omega)]
        exact List.getElem_mem _
      have eD : J3 D = some (.lst ((u.2.map fun o => o.map (tau N)).map eV)) := by
        rw [eD]
        congr 2
        unfold fltL
        rw [List.filter_eq_self.mpr (fun _ _ => rfl), List.map_map]
        refine List.ext_getElem? fun i => ?_
        rw [List.getElem?_map, List.getElem?_map]
        by_cases hi : i < m
        · rw [List.getElem?_range hi, List.getElem?_eq_getElem (by omega)]
          show some (eV ((u.2.getD i none).map (tau N))) = some (eV ((u.2[i]'(by omega)).map (tau N)))
          rw [List.getD_eq_getElem?_getD, List.getElem?_eq_getElem (by omega)]
          rfl
        · rw [List.getElem?_eq_none (by rw [List.length_range]; omega), List.getElem?_eq_none (by omega)]
          rfl
      have tk9 := tk8.more s6
      have tr9 : TbR J3 Ar us := ⟨s6 _ _ tr8.sq, fun u hm => s6 _ _ (tr8.at_ u hm)⟩
      have eT9 := s6 _ _ eT8
      have eG9 := s6 _ _ eG8
      have eF9 := s6 _ _ eF
      have FD : Fo ≠ D := ne_of_none eF nD
      walk_at "go"
      refine ⟨Tn, _, _, _, rfl, rfl, SqL.of eT9, atI_nat (by rw [List.getElem?_map, List.getElem?_range (by omega)]; rfl), ?_⟩
      walk_at "go"
      refine ⟨Fo, _, _, tau N s, rfl, rfl, eF9, by rw [List.length_map, List.length_range]; exact ixN_nat (tau_lt (by omega)), ?_⟩
      rw [rng_set]
      refine ⟨tk9.at_ nFH pF dF, ⟨by rw [upd_ne AF]; exact tr9.sq, fun u hm => by rw [upd_ne (uF u hm)]; exact tr9.at_ u hm⟩, by rw [upd_ne TF]; exact eT9, by rw [upd_ne GF]; exact eG9, fun j => if j = tau N s then D else fa j, _, _, ?_, fun t' ht' lt' => ?_, rfl⟩
      · rw [upd_same]
        congr 2
        refine List.map_congr_left fun j _ => ?_
        by_cases c : j = tau N s
        · simp only [if_pos c]
        · simp only [if_neg c]
      · by_cases c : t' = tau N s
        · simp only [if_pos c]
          refine ⟨?_, FD.symm⟩
          rw [upd_ne FD.symm, eD, htro, c]
          dsimp only
          rw [tau_tau (by omega), List.getD_eq_getElem?_getD, eu]
          rfl
        · simp only [if_neg c]
          have lt2 : tau N t' < s := by
            rcases Nat.lt_or_ge (tau N t') s with h | h
            · exact h
            · have : tau N t' = s := by omega
              exact absurd (by rw [← this, tau_tau ht']) c
          obtain ⟨h1, h2⟩ := hfa t' ht' lt2
          exact ⟨by rw [upd_ne h2]; exact s6 _ _ h1, h2⟩
    clear tk8 tr8 eT8 eG8 eF
    rintro σ J ⟨tk8, tr8, eT8, eG8, fa, v10, v13, eF, hfa, rfl⟩
    walk_at "go"
    refine ⟨⟨_, SqL.of eG8⟩, ?_⟩
    intro D nD
    have gx : ∀ i, i < sg.length → (gsq sg)[i]? = some (.int ((sg.getD i 0 : Nat) : Int)) := fun i hi => by
      unfold gsq
      rw [List.getElem?_map, List.getD_eq_getElem?_getD, List.getElem?_eq_getElem hi]
      rfl
    refine lc_flt (n := sg.length) (fun i => .int ((sg.getD i 0 : Nat) : Int)) (fun _ => true) (fun i => .int ((tau N (sg.getD i 0) : Nat) : Int)) (by omega) nD (fun i J3 hi s6 => ⟨_, _, s6.seq (SqL.of eG8), gx i hi⟩) (fun J3 s6 => ⟨_, s6.seq (SqL.of eG8), by unfold gsq; rw [List.length_map]; omega⟩) (fun i J3 x J4 hi s6 y => ?_) (fun i => rfl) (fun i J3 Q1 hi s6 q1 => q1 _ (Same.refl _)) (fun i J3 Q1 hi _ s6 q1 => ?_) (fun J3 s6 eD => ?_)
    · obtain ⟨rfl, ex⟩ := y
      have ex := ex _ (s6.seq (SqL.of eG8))
      rw [gx i hi] at ex
      cases ex
      exact ⟨Same.refl _, rfl⟩
    · have q1 := q1 _ (Same.refl _)
      have ls := lsg.2 (sg.getD i 0) (by rw [List.getD_eq_getElem?_getD, List.getElem?_eq_getElem hi]; exact List.getElem_mem _)
      walk_at "go"
      exact ⟨Tn, _, _, _, rfl, rfl, SqL.of (s6 _ _ eT8), atI_nat (by rw [List.getElem?_map, List.getElem?_range ls]; rfl), q1⟩
    have eD : J3 D = some (.lst (gsq (sgd N d gs))) := by
      rw [eD]
      congr 2
      unfold fltL sgd gsq
      rw [List.filter_eq_self.mpr (fun _ _ => rfl), ← hsg, List.map_map]
      refine List.ext_getElem? fun i => ?_
      rw [List.getElem?_map, List.getElem?_map]
      by_cases hi : i < sg.length
      · rw [List.getElem?_range hi, List.getElem?_eq_getElem hi]
        show some (V.int ((tau N (sg.getD i 0) : Nat) : Int)) = some (V.int ((tau N sg[i] : Nat) : Int))
        rw [List.getD_eq_getElem?_getD, List.getElem?_eq_getElem hi]
        rfl
      · rw [List.getElem?_eq_none (by rw [List.length_range]; omega), List.getElem?_eq_none (by omega)]
        rfl
    have tk9 := tk8.more s6
    have eF9 := s6 _ _ eF
    walk_at "go"
    intro B nB
    have s7 := same_new (o := .lst [.ref Fo, .ref D]) nB
    refine q B Fo D ((List.range (N + 3)).map fun t => (fa t, tro t)) (tb us) d _ (tk9.more s7) upd_same ⟨?_, fun z hz => ?_⟩ ?_ sec hd (s7 _ _ eD)
    · rw [s7 _ _ eF9, List.map_map]
      rfl
    · obtain ⟨t', ht', rfl⟩ := List.mem_map.mp hz
      have ht' := List.mem_range.mp ht'
      exact s7 _ _ (s6 _ _ (hfa t' ht' (tau_lt ht')).1)
    · unfold tb trn
      rw [List.map_map]
      refine List.map_congr_left fun t' ht' => ?_
      show tro t' = ((us.map (·.2)).getD (tau N t') []).map fun o => o.map (tau N)
      rw [htro, List.getD_eq_getElem?_getD (l := us.map (·.2)), List.getElem?_map]
      dsimp only
      rw [List.getD_eq_getElem?_getD]
      cases us[tau N t']? <;> rfl
end
end Z
set_option pp.maxSteps 700
set_option Elab.async false
set_option linter.all false
set_option maxRecDepth 100000
set_option maxHeartbeats 4000000
open SX (S S_inj S_len S_cat)
namespace Z
open Mc
open PySem PySem.Spec PyProof.Rows L2
open C8 (pss_cut tCut)
local macro_rules | `(tactic| walk_at "num") => `(tactic| first | rfl | omega | decide | exact Nat.le_of_lt (small1000 (by simp)) | exact ⟨by omega, by omega⟩ | exact ⟨by omega, by omega, by omega⟩ | exact ⟨by decide, by decide, by decide⟩ | exact Or.inl ⟨by omega, by omega⟩ | exact Or.inr ⟨by omega, by omega⟩)
local macro_rules | `(tactic| walk_at "go") => `(tactic| repeat (first | refine ⟨_, rfl, ?_⟩ | refine ⟨_, _, rfl, rfl, ?_⟩ | refine ⟨_, _, rfl, ?_⟩ | (refine ⟨_, _, rfl, rfl, ?_, ?_⟩; focus walk_at "num") | refine Or.inl ⟨_, rfl, ?_⟩ | refine ⟨_, _, _, _, rfl, rfl, (by assumption), (by rfl), ?_⟩ | refine ⟨_, _, _, _, _, rfl, (by assumption), (by assumption), (by assumption), (by rfl), ?_⟩ | refine ⟨rfl, ?_⟩ | (refine And.intro ?_ ?_; focus walk_at "num")))
abbrev s_ring_right : Stmt := topS 38
abbrev N_ring_right : List Str := ["_law_draws_here", "_law_signs", "_law_many", "_law_at", "_law_letters_here", "_law_size", "_law_rows", "_law_state", "_law_k", "_law_good", "_law_machine", "_law_due", "_law_row", "_law_text", "_law_step"]
abbrev P_ring_right : List Str := ["_law_draws_here"]
theorem sc_ring_right : FnScope N_ring_right P_ring_right (defScope s_ring_right) := ⟨rfl, rfl, rfl, by decide +kernel, rfl, by decide +kernel, by decide +kernel⟩
theorem slice_mid {a : List Nat} {i j : Nat} (h1 : i ≤ j) (h2 : j ≤ a.length) : Txt.slice (S a) (some (i : Int)) (some (j : Int)) = S ((a.drop i).take (j - i)) := by
  have hl : ((S a).length : Int) = (a.length : Int) := by rw [S_len]
  have e := beq_iff_eq.mp (PyProof.Rows.slice_closesL (x := S a) (i := (i : Int)) (j := (j : Int)) (by omega) (by omega) (by omega))
  refine e.trans (TL.ext_tl ?_)
  show (a.drop (i : Int).toNat).take ((j : Int) - (i : Int)).toNat = (a.drop i).take (j - i)
  rw [Int.toNat_natCast, show ((j : Int) - (i : Int)).toNat = j - i by omega]
theorem ne_iteR {b1 b2 : Bool} {A B : Prop} (h1 : b1 ≠ b2 → A) (h2 : b1 = b2 → B) : if (!decide (V.bl b1 = V.bl b2)) = true then A else B := by
  by_cases c : b1 = b2
  · subst c
    rw [decide_eq_true rfl]
    exact h2 rfl
  · rw [decide_eq_false (fun h => c (by injection h))]
    exact h1 c
theorem fives13 : fives 13 = true := by decide +kernel
theorem fives17 : fives 17 = true := by decide +kernel
theorem fives23 : fives 23 = true := by decide +kernel
theorem fives37 : fives 37 = true := by decide +kernel
section
variable {P : Program} {w : World} {K : PySem.W.Frag} {mg : Str → Option Value} {base : Heap} {f C : Addr} {fd : FuncData}
def spRgr (K : PySem.W.Frag) : Sp := fun vs H Q _ => ∃ (a : Addr) (ds : List Int), vs = [.ref a] ∧ SqL K H a (ds.map V.int) ∧ Dr 30 ds ∧ ∀ H', Same H H' → Q (.bl true) H'
theorem ok_ring_right (F : FnP K "_law_ring_right" s_ring_right f fd) (m_len : mg "len" = none) (m_range : mg "range" = none) (m_int : mg "int" = none) (m_tuple : mg "tuple" = none) (cls : Cls K C) (n_letters : NoAttr K C "letters") (n_rows : NoAttr K C "rows") (n_good : NoAttr K C "good") (k_Machine : Mak P w K mg base 4 "Machine" (spM3 C K)) (in_Machine : InO P w K mg base 2 C (spIn C K)) (me_after : Met P w K mg base 1 C "after" (spAfter C K)) : FnOk P w K mg base CX0 6 f fd P_ring_right (spRgr K) := by
  refine F.ok sc_ring_right (fun vs H Q E h => ?_) (fun cdv A outer s H vs Q E hr h => ?_)
  · obtain ⟨a, ds, rfl, _⟩ := h
    rfl
  · obtain ⟨a, ds, rfl, ha, hd, q⟩ := h
    refine ⟨_, PSs.nox (pss_cons (ps_set (i := 1) sc_ring_right.nd rfl (by first | exact .inl rfl | exact .inr rfl) pe_str)
      (pss_cons (ps_set (i := 2) sc_ring_right.nd rfl (by first | exact .inl rfl | exact .inr rfl) (pe_op op_add pe_int (pe_op op_mod (pe_callTy call_int1 (by rfl) m_int (by decide +kernel) (pa_cons (pe_ix ix_list (pv 0) pe_int (fun _ _ => rfl)) pa_nil)) pe_int)))
      (pss_cons (ps_set (i := 3) sc_ring_right.nd rfl (by first | exact .inl rfl | exact .inr rfl) (pe_op op_mod (pe_callTy call_int1 (by rfl) m_int (by decide +kernel) (pa_cons (pe_ix ix_list (pv 0) pe_int (fun _ _ => rfl)) pa_nil)) (pe_op op_sub (pe_callB call_len_str (by rfl) m_len PySem.boot_len (pa_cons (pv 1) pa_nil)) pe_int)))
      (pss_cons (ps_set (i := 4) sc_ring_right.nd rfl (by first | exact .inl rfl | exact .inr rfl) (pe_slice C8.sl_txt (pv 1) (po_some (pv 3)) (po_some (pe_op op_add (pv 3) (pv 2)))))
      (pss_cut (ps_if (pt_cmpR op_eq (pe_op op_mod (pe_callTy call_int1 (by rfl) m_int (by decide +kernel) (pa_cons (pe_ix ix_list (pv 0) pe_int (fun _ _ => rfl)) pa_nil)) pe_int) pe_int (nomark _)) (pss_one (ps_set (i := 4) sc_ring_right.nd rfl (by first | exact .inl rfl | exact .inr rfl) (pe_revS (pv 4)))) pss_nil)
      (pss_cons (ps_set (i := 5) sc_ring_right.nd rfl (by first | exact .inl rfl | exact .inr rfl) (pe_ix ix_list (pe_lst (pa_cons pe_int (pa_cons pe_int (pa_cons pe_int (pa_cons pe_int pa_nil))))) (pe_op op_mod (pe_callTy call_int1 (by rfl) m_int (by decide +kernel) (pa_cons (pe_ix ix_list (pv 0) pe_int (fun _ _ => rfl)) pa_nil)) pe_int) (fun _ _ => rfl)))
      (pss_cut (ps_set (i := 6) sc_ring_right.nd rfl (by first | exact .inl rfl | exact .inr rfl) (pe_lst pa_nil))
      (pss_cons (ps_for PassesOwn.never rfl (pi_range1 (by rfl) m_range (pa_cons (pv 5) pa_nil)) (pg_name (i := 7) sc_ring_right.nd rfl (by first | exact .inl rfl | exact .inr rfl))
        (pss_one (ps_expr (pe_bm PySem.F.plainAttrs_list PySem.F.slot_list_append PySem.F.type_list_append mt_append (pv 6) (pa_cons (pe_lc (own := [("_law_k", 8)]) (g := (gName 8)) (tt := tYes) (by rfl) sc_ring_right.nd (pi_range1 (by rfl) m_range (pa_cons (pv 2) pa_nil)) (blkOk_by (own := [("_law_k", 8)]) (N := N_ring_right) (sc := defScope s_ring_right) (by decide +kernel)) (fun _ _ _ _ _ => (pg_name (i := 8) sc_ring_right.nd rfl (by first | exact .inl rfl | exact .inr rfl))) (fun _ _ _ _ _ => pts_nil) (fun _ _ _ _ _ => (pe_op op_mod (pe_callTy call_int1 (by rfl) m_int (by decide +kernel) (pa_cons (pe_op op_add (pe_op op_add (pv 7) (pv 8)) pe_int) pa_nil)) (pv 5)))) pa_nil)))))
      (pss_cons (ps_set (i := 9) sc_ring_right.nd rfl (by first | exact .inl rfl | exact .inr rfl) (pe_lc (own := [("_law_k", 8)]) (g := (gName 8)) (tt := tYes) (by rfl) sc_ring_right.nd (pi_range2 (by rfl) m_range (pa_cons pe_int (pa_cons pe_int pa_nil))) (blkOk_by (own := [("_law_k", 8)]) (N := N_ring_right) (sc := defScope s_ring_right) (by decide +kernel)) (fun _ _ _ _ _ => (pg_name (i := 8) sc_ring_right.nd rfl (by first | exact .inl rfl | exact .inr rfl))) (fun _ _ _ _ _ => pts_nil) (fun _ _ _ _ _ => (pe_op op_mod (pe_callTy call_int1 (by rfl) m_int (by decide +kernel) (pa_cons (pe_ix (ix_list_K (K := K) rfl) (pv 0) (pv 8) (fun _ _ => rfl)) pa_nil)) (pv 5)))))
      (pss_cons (ps_set (i := 10) sc_ring_right.nd rfl (by first | exact .inl rfl | exact .inr rfl) (pe_mk k_Machine hr (by decide) (by rfl) (pa_cons (pv 4) (pa_cons (pv 6) (pa_cons (pe_op op_cat (pv 9) (pe_slice sl_list (pv 9) po_none (po_some pe_int))) pa_nil)))))
      (pss_cut (ps_set (i := 11) sc_ring_right.nd rfl (by first | exact .inl rfl | exact .inr rfl) (pe_callTy call_tuple_of (by rfl) m_tuple (by decide +kernel) (pa_cons (pe_lc (own := [("_law_state", 7)]) (g := (gName 7)) (by rfl) sc_ring_right.nd (pi_range1 (by rfl) m_range (pa_cons (pv 5) pa_nil)) (blkOk_by (own := [("_law_state", 7)]) (N := N_ring_right) (sc := defScope s_ring_right) (by decide +kernel)) (fun _ _ _ _ _ => (pg_name (i := 7) sc_ring_right.nd rfl (by first | exact .inl rfl | exact .inr rfl))) (fun _ _ _ _ _ => (pts_one (pt_cmpR (op_in_seq_K (K := K) rfl) (pv 7) (pv 9) (by rfl)))) (fun _ _ _ _ _ => (pv 7))) pa_nil)))
      (pss_cut (ps_if (PW.pt (pw_or (pt_cmpR op_ne (pe_fld (pv 10) rfl) (pv 4) (nomark _)) (pw_or (pt_cmpR (op_neD hr.units) (pe_fld (pv 10) rfl) (pe_callTy call_tuple_of (by rfl) m_tuple (by decide +kernel) (pa_cons (pe_lc (own := [("_law_row", 12)]) (g := (gName 12)) (tt := tYes) (by rfl) sc_ring_right.nd (pi_list (pv 6)) (blkOk_by (own := [("_law_row", 12)]) (N := N_ring_right) (sc := defScope s_ring_right) (by decide +kernel)) (fun _ _ _ _ _ => (pg_name (i := 12) sc_ring_right.nd rfl (by first | exact .inl rfl | exact .inr rfl))) (fun _ _ _ _ _ => pts_nil) (fun _ _ _ _ _ => (pe_callTy (call_tuple_of_K (K := K) rfl) (by rfl) m_tuple (by decide +kernel) (pa_cons (pv 12) pa_nil)))) pa_nil)) (nomark _)) (pw_or1 (pt_cmpR (op_neD hr.units) (pe_fld (pv 10) rfl) (pv 11) (nomark _)))))) (pss_one (ps_ret pe_bl)) pss_nil)
      (pss_cons (ps_set (i := 7) sc_ring_right.nd rfl (by first | exact .inl rfl | exact .inr rfl) pe_int)
      (pss_cons (ps_set (i := 13) sc_ring_right.nd rfl (by first | exact .inl rfl | exact .inr rfl) pe_str)
      (pss_cons (ps_for PassesOwn.never rfl (pi_range1 (by rfl) m_range (pa_cons pe_int pa_nil)) (pg_name (i := 8) sc_ring_right.nd rfl (by first | exact .inl rfl | exact .inr rfl))
        (pss_cons (ps_set (i := 14) sc_ring_right.nd rfl (by first | exact .inl rfl | exact .inr rfl) (pe_op op_mod (pe_callTy call_int1 (by rfl) m_int (by decide +kernel) (pa_cons (pe_op op_add (pe_ix ix_list (pv 0) (pe_op op_add pe_int (pe_op op_mod (pv 8) pe_int)) (fun _ _ => rfl)) (pv 8)) pa_nil)) (pv 2)))
      (pss_cons (ps_set (i := 13) sc_ring_right.nd rfl (by first | exact .inl rfl | exact .inr rfl) (pe_op op_add_str (pv 13) (pe_ix ix_str (pv 4) (pv 14) (fun _ _ => rfl))))
      (pss_cons (ps_set (i := 7) sc_ring_right.nd rfl (by first | exact .inl rfl | exact .inr rfl) (pe_op op_mod (pe_callTy call_int1 (by rfl) m_int (by decide +kernel) (pa_cons (pe_op op_add (pe_op op_add (pv 7) (pv 14)) pe_int) pa_nil)) (pv 5)))
      (pss_one (ps_if (PW.pt (pw_or (pt_cmpR op_ne (pe_me me_after (pv 10) hr (by decide) (pa_cons (pv 13) pa_nil)) (pv 7) (nomark _)) (pw_or1 (pt_cmpR op_ne (pe_cmpR (op_ownIn in_Machine hr (by decide)) (pv 13) (pv 10) (by rfl)) (pe_cmpR op_in_seq (pv 7) (pv 9) (by rfl)) (nomark _))))) (pss_one (ps_ret pe_bl)) pss_nil))))))
      (pss_one (ps_ret pe_bl))))))))))))))))), ?_⟩
    obtain ⟨sgl, esg, nds, lsg⟩ : ∃ sgl : List Nat, (Str.ofString "~!#$&'()*+,-./0123456789:;<=>?@ABCDEFGHIJKLMNOPQRSTUVWXYZ[]^_abcdefghijklmnopqrstuvwxyz{|} ") = S sgl ∧ sgl.Nodup ∧ sgl.length = 91 := ⟨(Str.ofString "~!#$&'()*+,-./0123456789:;<=>?@ABCDEFGHIJKLMNOPQRSTUVWXYZ[]^_abcdefghijklmnopqrstuvwxyz{|} ").cps.toList, rfl, by decide +kernel, by decide +kernel⟩
    have dget : ∀ i, i < 30 → ∃ r : Int, (ds.map V.int)[i]? = some (.int r) ∧ 0 ≤ r := fun i hi => by
      have hl : ds.length = 30 := hd.1
      refine ⟨ds[i]'(by omega), by rw [List.getElem?_map, List.getElem?_eq_getElem (by omega)]; rfl, ?_⟩
      exact (hd.2 _ (List.getElem_mem _)).1
    walk_at "go"
    rw [esg]
    obtain ⟨r0, e0, p0⟩ := dget 0 (by omega)
    obtain ⟨r1, e1, p1⟩ := dget 1 (by omega)
    obtain ⟨r2, e2, p2⟩ := dget 2 (by omega)
    obtain ⟨r3, e3, p3⟩ := dget 3 (by omega)
    obtain ⟨c0, ec0, hc0⟩ := modN r0 (show 0 < 12 by omega)
    obtain ⟨at0, eat, hat⟩ := modN r1 (show 0 < 80 by omega)
    refine ⟨a, _, _, _, rfl, rfl, ha, atI_nat (j := 0) e0, ?_⟩
    walk_at "go"
    refine ⟨a, _, _, _, rfl, rfl, ha, atI_nat (j := 1) e1, ?_⟩
    walk_at "go"
    refine ⟨by rw [S_len, lsg]; exact szl (by omega), ?_⟩
    rw [S_len, lsg]
    refine ⟨_, _, rfl, rfl, ?_⟩
    refine ⟨r1, 80, rfl, rfl, (show (0 : Int) < 80 by decide), ?_⟩
    dsimp only
    rw [show r0 % 12 = (c0 : Int) from ec0, show r1 % 80 = (at0 : Int) from eat]
    rw [show L2.start N_ring_right [V.ref a] = [some (.ref a), none, none, none, none, none, none, none, none, none, none, none, none, none, none] from rfl]
    dsimp only [List.set]
    obtain ⟨m, hm⟩ : ∃ m, m = 1 + c0 := ⟨_, rfl⟩
    rw [show (1 : Int) + (c0 : Int) = (m : Int) by omega]
    have ej : (at0 : Int) + (m : Int) = ((at0 + m : Nat) : Int) := by omega
    walk_at "go"
    refine ⟨by rw [S_len, lsg]; exact szl (by omega), ?_⟩
    dsimp only
    rw [ej, slice_mid (by omega) (by omega), Nat.add_sub_cancel_left]
    obtain ⟨l0, hl0⟩ : ∃ l0, l0 = (sgl.drop at0).take m := ⟨_, rfl⟩
    rw [← hl0]
    have nd0 : l0.Nodup := by rw [hl0]; exact (nds.sublist (List.drop_sublist _ _)).sublist (List.take_sublist _ _)
    have ll0 : l0.length = m := by rw [hl0, List.length_take, List.length_drop, lsg]; omega
    have m12 : m ≤ 12 := by omega
    have m0 : 0 < m := by omega
    clear hl0 ej eat ec0
    refine ⟨fun σ' J => J = H ∧ ∃ l : List Nat, l.Nodup ∧ l.length = m ∧ σ' = [some (.ref a), some (.str (S sgl)), some (.int (m : Int)), some (.int (at0 : Int)), some (.str (S l)), none, none, none, none, none, none, none, none, none, none], ?_, ?_⟩
    · walk_at "go"
      refine ⟨a, _, _, _, rfl, rfl, ha, atI_nat (j := 2) e2, ?_⟩
      walk_at "go"
      refine ite2 (fun c => ?_) (fun c => ?_)
      · walk_at "go"
        refine ⟨by rw [S_len, ll0]; exact szl (by omega), ?_⟩
        exact ⟨rfl, l0.reverse, List.pairwise_reverse.mpr (nd0.imp fun h => h.symm), by rw [List.length_reverse, ll0], rfl⟩
      · walk_at "go"
        exact ⟨l0, nd0, ll0, rfl⟩
    rintro σ' J ⟨rfl, l, nd, ll, rfl⟩
    walk_at "go"
    intro T0 nT0
    have s0 := same_new (o := .lst [.int 13, .int 17, .int 23, .int 37]) nT0
    have eT0 : (upd J T0 (.lst [.int 13, .int 17, .int 23, .int 37])) T0 = some (.lst [.int 13, .int 17, .int 23, .int 37]) := upd_same
    generalize upd J T0 (.lst [.int 13, .int 17, .int 23, .int 37]) = H1 at s0 eT0
    obtain ⟨c3, ec3, hc3⟩ := modN r3 (show 0 < 4 by omega)
    obtain ⟨sz, esz, fv, sz1, sz2⟩ : ∃ sz : Nat, ([.int 13, .int 17, .int 23, .int 37] : List V)[c3]? = some (.int (sz : Int)) ∧ fives sz = true ∧ 13 ≤ sz ∧ sz ≤ 37 := by
      obtain rfl | rfl | rfl | rfl : c3 = 0 ∨ c3 = 1 ∨ c3 = 2 ∨ c3 = 3 := by omega
      · exact ⟨13, rfl, fives13, by omega, by omega⟩
      · exact ⟨17, rfl, fives17, by omega, by omega⟩
      · exact ⟨23, rfl, fives23, by omega, by omega⟩
      · exact ⟨37, rfl, fives37, by omega, by omega⟩
    walk_at "go"
    refine ⟨a, _, _, _, rfl, rfl, s0.seq ha, atI_nat (j := 3) e3, ?_⟩
    walk_at "go"
    dsimp only
    rw [show r3 % 4 = (c3 : Int) from ec3]
    refine ⟨T0, _, _, _, rfl, rfl, SqL.of eT0, atI_nat esz, ?_⟩
    refine ⟨fun σ' J2 => Same J J2 ∧ ∃ Ar : Addr, J2 Ar = some (.lst []) ∧ J Ar = none ∧ σ' = [some (.ref a), some (.str (S sgl)), some (.int (m : Int)), some (.int (at0 : Int)), some (.str (S l)), some (.int (sz : Int)), some (.ref Ar), none, none, none, none, none, none, none, none], ?_, ?_⟩
    · walk_at "go"
      intro Ar nAr
      exact ⟨s0.trans (same_new nAr), Ar, upd_same, none_of s0 nAr, rfl⟩
    clear s0 eT0 nT0
    clear e0 e1 e2 e3 p0 p1 p2 p3 hc0 hat hc3 ec3
    rintro σ' J2 ⟨s1, Ar, eAr, nAr, rfl⟩
    have m1 : m < sz := by omega
    walk_at "go"
    refine for_gen (n := sz) (fun k σ J3 => Same J J3 ∧ ∃ (zs : List (Addr × List (Option Nat))) (v7 : Option V), TbR J3 Ar zs ∧ (∀ z ∈ zs, z.1 ≠ Ar) ∧ tb zs = (List.range k).map (fun i => (List.range m).map fun j => some ((i + j + 1) % sz)) ∧ σ = [some (.ref a), some (.str (S sgl)), some (.int (m : Int)), some (.int (at0 : Int)), some (.str (S l)), some (.int (sz : Int)), some (.ref Ar), v7, none, none, none, none, none, none, none]) ⟨s1, [], none, ⟨eAr, fun z h => absurd h (by simp)⟩, fun z h => absurd h (by simp), rfl, rfl⟩ ?_ ?_ ?_ ?_
    · intro k σ J3 hk _
      show k < ((sz : Int)).toNat
      omega
    · intro σ J3 _
      show ((sz : Int)).toNat ≤ sz
      omega
    · clear s1 eAr
      rintro k σ J3 x J4 hk ⟨s1, zs, v7, tr, nz, et, rfl⟩ ⟨rfl, rfl⟩
      rw [show (0 : Int) + (k : Int) = (k : Int) by omega]
      have lzk : zs.length = k := by
        have := congrArg List.length et
        unfold tb at this
        rwa [List.length_map, List.length_map, List.length_range] at this
      walk_at "go"
      refine ⟨.inl ⟨rfl, _, SqL.of tr.sq⟩, ?_⟩
      walk_at "go"
      intro D nD
      refine lc_flt (n := m) (fun j => .int (0 + (j : Int))) (fun _ => true) (fun j => eV (some ((k + j + 1) % sz))) (by omega) nD (fun j J5 hj s2 => ?_) (fun J5 s2 => ?_) (fun j J5 x J6 hj s2 y => ?_) (fun j => rfl) (fun j J5 Q1 _ _ q1 => q1 _ (Same.refl _)) (fun j J5 Q1 hj _ s2 q1 => ?_) (fun J5 s2 eD => ?_)
      · show j < ((m : Int)).toNat
        omega
      · show ((m : Int)).toNat ≤ m
        omega
      · obtain ⟨rfl, rfl⟩ := y
        exact ⟨Same.refl _, rfl⟩
      · have q1 := q1 _ (Same.refl _)
        have em : ((k : Int) + (0 + (j : Int)) + 1) % (sz : Int) = (((k + j + 1) % sz : Nat) : Int) := by
          rw [Int.natCast_emod]
          congr 1
          omega
        walk_at "go"
        dsimp only
        rw [em]
        exact q1
      have eD : J5 D = some (.lst (((List.range m).map fun j => some ((k + j + 1) % sz)).map eV)) := by
        rw [eD]
        unfold fltL
        rw [List.filter_eq_self.mpr (fun _ _ => rfl), List.map_map]
        rfl
      have AD : Ar ≠ D := ne_of_none tr.sq nD
      walk_at "go"
      refine ⟨Ar, _, _, rfl, rfl, s2 _ _ tr.sq, by rw [List.length_map, lzk]; exact szC (by omega), ?_⟩
      refine ⟨Z.Same.mut (s1.trans s2) nAr, zs ++ [(D, (List.range m).map fun j => some ((k + j + 1) % sz))], _, ⟨by rw [upd_same, List.map_append]; rfl, fun z h => ?_⟩, fun z h => ?_, ?_, rfl⟩
      · rcases List.mem_append.mp h with h | h
        · rw [upd_ne (nz z h)]
          exact s2 _ _ (tr.at_ z h)
        · rw [List.mem_singleton.mp h, upd_ne AD.symm]
          exact eD
      · rcases List.mem_append.mp h with h | h
        · exact nz z h
        · rw [List.mem_singleton.mp h]
          exact AD.symm
      · unfold tb at et ⊢
        rw [List.map_append, et, List.range_succ, List.map_append]
        rfl
    clear s1 eAr
    rintro σ J3 ⟨s1, zs, v7, tr, nz, et, rfl⟩
    have et : tb zs = rgT sz m := et
    have lzs : zs.length = sz := by
      have := congrArg List.length et
      unfold tb at this
      rwa [List.length_map, rgT_len] at this
    walk_at "go"
    intro D nD
    have gg : ∀ k, k < 4 → ∃ (r : Int) (g : Nat), (ds.map V.int)[4 + k]? = some (.int r) ∧ r % (sz : Int) = (g : Int) ∧ g < sz := fun k hk => by
      obtain ⟨r, e, _⟩ := dget (4 + k) (by omega)
      obtain ⟨g, eg, hg⟩ := modN r (show 0 < sz by omega)
      exact ⟨r, g, e, eg, hg⟩
    obtain ⟨gf, hgf⟩ : ∃ gf : Nat → Nat, ∀ k, k < 4 → ∃ r : Int, (ds.map V.int)[4 + k]? = some (.int r) ∧ r % (sz : Int) = (gf k : Int) ∧ gf k < sz := by
      refine ⟨fun k => if h : k < 4 then (gg k h).choose_spec.choose else 0, fun k hk => ?_⟩
      simp only [dif_pos hk]
      exact ⟨(gg k hk).choose, (gg k hk).choose_spec.choose_spec⟩
    refine lc_flt (n := 4) (fun k => .int (4 + (k : Int))) (fun _ => true) (fun k => .int ((gf k : Nat) : Int)) (by omega) nD (fun k J hk s2 => ?_) (fun J s2 => ?_) (fun k J x J2 hk s2 y => ?_) (fun k => rfl) (fun k J Q1 _ _ q1 => q1 _ (Same.refl _)) (fun k J Q1 hk _ s2 q1 => ?_) (fun J4 s4 eD => ?_)
    · show k < ((8 : Int) - 4).toNat
      exact hk
    · show ((8 : Int) - 4).toNat ≤ 4
      decide
    · obtain ⟨rfl, rfl⟩ := y
      exact ⟨Same.refl _, rfl⟩
    · have q1 := q1 _ (Same.refl _)
      obtain ⟨r, e, er, _⟩ := hgf k hk
      rw [show (4 : Int) + (k : Int) = ((4 + k : Nat) : Int) by omega]
      walk_at "go"
      refine ⟨a, _, _, _, rfl, rfl, (s1.trans s2).seq ha, atI_nat e, ?_⟩
      walk_at "go"
      dsimp only
      rw [er]
      exact q1
    have eD : J4 D = some (.lst (gsq [gf 0, gf 1, gf 2, gf 3])) := by
      rw [eD]
      rfl
    have tr4 : TbR J4 Ar zs := ⟨s4 _ _ tr.sq, fun z h => s4 _ _ (tr.at_ z h)⟩
    have s5 := s1.trans s4
    clear s1 s4 tr nD
    obtain ⟨g4, hg4⟩ : ∃ g4, g4 = [gf 0, gf 1, gf 2, gf 3] := ⟨_, rfl⟩
    obtain ⟨g6, hg6⟩ : ∃ g6, g6 = [gf 0, gf 1, gf 2, gf 3, gf 0, gf 1] := ⟨_, rfl⟩
    have mem46 : ∀ x, x ∈ g6 ↔ x ∈ g4 := fun x => by
      rw [hg4, hg6]
      simp only [List.mem_cons, List.not_mem_nil, or_false]
      constructor
      · rintro (h | h | h | h | h | h)
        · exact .inl h
        · exact .inr (.inl h)
        · exact .inr (.inr (.inl h))
        · exact .inr (.inr (.inr h))
        · exact .inl h
        · exact .inr (.inl h)
      · rintro (h | h | h | h)
        · exact .inl h
        · exact .inr (.inl h)
        · exact .inr (.inr (.inl h))
        · exact .inr (.inr (.inr (.inl h)))
    have lt4 : ∀ x ∈ g4, x < sz := fun x hx => by
      rw [hg4] at hx
      simp only [List.mem_cons, List.not_mem_nil, or_false] at hx
      have h0 := (hgf 0 (by omega)).choose_spec.2.2
      have h1 := (hgf 1 (by omega)).choose_spec.2.2
      have h2 := (hgf 2 (by omega)).choose_spec.2.2
      have h3 := (hgf 3 (by omega)).choose_spec.2.2
      rcases hx with rfl | rfl | rfl | rfl
      · exact h0
      · exact h1
      · exact h2
      · exact h3
    walk_at "go"
    refine ⟨D, _, rfl, SqL.of eD, ?_⟩
    intro D2 nD2
    have s6 := same_new (o := .lst (cutV (gsq [gf 0, gf 1, gf 2, gf 3]) none (some 2))) nD2
    have eD2 : (upd J4 D2 (.lst (cutV (gsq [gf 0, gf 1, gf 2, gf 3]) none (some 2)))) D2 = some (.lst (gsq [gf 0, gf 1])) := by
      rw [upd_same]
      rfl
    have eD6 := s6 _ _ eD
    have tr6 : TbR (upd J4 D2 (.lst (cutV (gsq [gf 0, gf 1, gf 2, gf 3]) none (some 2)))) Ar zs := ⟨s6 _ _ tr4.sq, fun z h => s6 _ _ (tr4.at_ z h)⟩
    generalize upd J4 D2 (.lst (cutV (gsq [gf 0, gf 1, gf 2, gf 3]) none (some 2))) = J6 at s6 eD2 eD6 tr6
    refine ⟨D, D2, _, _, rfl, rfl, eD6, eD2, szl (by show 6 ≤ 2000; omega), ?_⟩
    intro D3 nD3
    have s7 := same_new (o := .lst (gsq [gf 0, gf 1, gf 2, gf 3] ++ gsq [gf 0, gf 1])) nD3
    have eD3 : (upd J6 D3 (.lst (gsq [gf 0, gf 1, gf 2, gf 3] ++ gsq [gf 0, gf 1]))) D3 = some (.lst (gsq g6)) := by rw [upd_same, hg6]; rfl
    have eD7 := s7 _ _ eD6
    have tr7 : TbR (upd J6 D3 (.lst (gsq [gf 0, gf 1, gf 2, gf 3] ++ gsq [gf 0, gf 1]))) Ar zs := ⟨s7 _ _ tr6.sq, fun z h => s7 _ _ (tr6.at_ z h)⟩
    generalize upd J6 D3 (.lst (gsq [gf 0, gf 1, gf 2, gf 3] ++ gsq [gf 0, gf 1])) = J7 at s7 eD3 eD7 tr7
    rw [← hg4] at eD7
    have s8 := s5.trans (s6.trans s7)
    clear s5 s6 s7 eD eD6 eD2 tr4 tr6 nD2 nD3
    have wf : Wf (tb zs) m := by rw [et]; exact rgT_wf (by omega) m
    walk_at "go"
    refine ⟨true, true, Ar, l, _, zs, g6, rfl, nd, fun e => by rw [e] at ll; exact absurd ll (by show ¬ 0 = m; omega), by omega, ⟨SqL.of tr7.sq, fun z h => SqL.of (tr7.at_ z h)⟩, by rw [ll]; exact wf, by omega, ⟨.inr ⟨true, D3, rfl, SqL.of eD3⟩, fun s hs => by rw [lzs]; exact lt4 s ((mem46 s).mp hs)⟩, fun n R g' H8 s9 nn hM hN => ?_⟩
    rw [et, ll] at hN
    have g40 : gf 0 ∈ g4 := by rw [hg4]; exact List.mem_cons_self
    have ring := ring_nf (m := m) fv m0 m1 (gs := g4) (by rw [hg4]; exact Nat.le_refl 4) ⟨gf 0, g40, lt4 _ g40⟩
    obtain ⟨rfl, rfl⟩ := hN.uniq ring fun w => ⟨fun ⟨t, e, g⟩ => ⟨t, e, (mem46 t).mp g⟩, fun ⟨t, e, g⟩ => ⟨t, e, (mem46 t).mpr g⟩⟩
    have tr9 : TbR H8 Ar zs := ⟨s9 _ _ tr7.sq, fun z h => s9 _ _ (tr7.at_ z h)⟩
    have eD9 := s9 _ _ eD7
    have s10 := s8.trans s9
    clear s8 s9 tr7 eD7 eD3 hN nn ring
    refine ⟨fun σ' J2 => Same J J2 ∧ TbR J2 Ar zs ∧ J2 D = some (.lst (gsq g4)) ∧ McAt C K J2 n l (rgT sz m) ((List.range sz).filter fun s => decide (s ∈ g4)) ∧ ∃ du : Addr, J2 du = some (.tup (gsq ((List.range sz).filter fun s => decide (s ∈ g4)))) ∧ σ' = [some (.ref a), some (.str (S sgl)), some (.int (m : Int)), some (.int (at0 : Int)), some (.str (S l)), some (.int (sz : Int)), some (.ref Ar), v7, none, some (.ref D), some (.ref n), some (.ref du), none, none, none], ?_, ?_⟩
    · walk_at "go"
      intro B nB
      refine lc_flt (n := sz) (fun k => .int (0 + (k : Int))) (fun k => decide (k ∈ g4)) (fun k => .int (k : Int)) (by omega) nB (fun k J hk s2 => ?_) (fun J s2 => ?_) (fun k J x J2 hk s2 y => ?_) (fun k => rfl) (fun k J5 Q1 hk s2 q1 => ?_) (fun k J5 Q1 hk _ s2 q1 => ?_) (fun J5 s2 eB => ?_)
      · show k < ((sz : Int)).toNat
        omega
      · show ((sz : Int)).toNat ≤ sz
        omega
      · obtain ⟨rfl, rfl⟩ := y
        exact ⟨Same.refl _, rfl⟩
      · rw [show (0 : Int) + (k : Int) = (k : Int) by omega]
        have q1 := q1 _ (Same.refl _)
        walk_at "go"
        refine ⟨D, _, rfl, .inl (SqL.of (s2 _ _ eD9)), rfl, gsq_flat g4, ?_⟩
        rw [inV_gsq]
        walk_at "go"
        exact q1
      · have q1 := q1 _ (Same.refl _)
        rw [show (0 : Int) + (k : Int) = (k : Int) by omega]
        walk_at "go"
        exact q1
      walk_at "go"
      refine ⟨B, _, rfl, .inl ⟨SqL.of eB, fun du ndu => ?_⟩⟩
      have s3 := same_new (o := .tup (fltL (fun k => decide (k ∈ g4)) (fun k => V.int (k : Int)) sz)) ndu
      have s23 := s2.trans s3
      refine ⟨s10.trans s23, ⟨s23 _ _ tr9.sq, fun z h => s23 _ _ (tr9.at_ z h)⟩, s23 _ _ eD9, hM.mono s23, du, ?_, rfl⟩
      rw [upd_same]
      rfl
    clear s10 tr9 eD9 hM
    rintro σ' J2 ⟨s1, tr, eD, hM, du, edu, rfl⟩
    refine ⟨fun σ' J3 => Same J J3 ∧ J3 D = some (.lst (gsq g4)) ∧ McAt C K J3 n l (rgT sz m) ((List.range sz).filter fun s => decide (s ∈ g4)) ∧ σ' = [some (.ref a), some (.str (S sgl)), some (.int (m : Int)), some (.int (at0 : Int)), some (.str (S l)), some (.int (sz : Int)), some (.ref Ar), v7, none, some (.ref D), some (.ref n), some (.ref du), none, none, none], ?_, ?_⟩
    · obtain ⟨dx, rr, uu, zr, en, hR, eu, ezr⟩ := hM.ex
      walk_at "go"
      rw [decide_eq_true (p := V.str (S l) = V.str (S l)) rfl]
      walk_at "go"
      refine ⟨⟨_, SqL.of tr.sq⟩, ?_⟩
      intro B nB
      refine lc_rows (q := true) (c := false) (zs := zs) ⟨SqL.of tr.sq, fun z h => SqL.of (tr.at_ z h)⟩ (by omega) nB (fun x => rfl) (fun x r J4 Q1 s2 mr sq q1 => ?_) (fun J4 hs s2 eB eh hhs => ?_)
      · walk_at "go"
        exact ⟨x, _, rfl, .inl ⟨sq, q1⟩⟩
      walk_at "go"
      refine ⟨B, _, rfl, .inl ⟨SqL.of eB, fun tp ntp => ?_⟩⟩
      have s3 := same_new (o := .tup (hs.map fun z => V.ref z.1)) ntp
      have etp : (upd J4 tp (.tup (hs.map fun z => V.ref z.1))) tp = some (.tup (hs.map fun z => V.ref z.1)) := upd_same
      have hhs3 : ∀ z ∈ hs, (upd J4 tp (.tup (hs.map fun z => V.ref z.1))) z.1 = some (.tup (z.2.map eV)) := fun z h => s3 _ _ (hhs z h).1
      generalize upd J4 tp (.tup (hs.map fun z => V.ref z.1)) = J5 at s3 etp hhs3
      have s23 := s2.trans s3
      have tb2 : Tb false false K J5 tp hs := ⟨SqT.of etp, fun z h => SqT.of (hhs3 z h)⟩
      refine ⟨tbD false false (tb zr), tbD false false (tb hs), (hR.mono s23).dp, tb2.dp, shaped_tb _ _ _, shaped_tb _ _ _, ?_⟩
      rw [eqv_tb, eh, et, ← ezr, decide_eq_true rfl]
      have en5 := s23 _ _ en
      walk_at "go"
      refine ⟨natD false _, natD false _, dp_nat (SqT.of (s23 _ _ eu)), dp_nat (SqT.of (s23 _ _ edu)), shaped_nat _ _, shaped_nat _ _, ?_⟩
      rw [eqv_nat, decide_eq_true rfl]
      walk_at "go"
      exact ⟨s1.trans s23, s23 _ _ eD, hM.mono s23, rfl⟩
    clear s1 tr eD hM edu
    rintro σ' J3 ⟨s1, eD, hM, rfl⟩
    walk_at "go"
    obtain ⟨dx, rr, uu, zr, en, _⟩ := hM.ex
    have wfR : Wf (rgT sz m) l.length := by rw [ll]; exact rgT_wf (by omega) m
    have st0 : Mc.st (rgT sz m) = some 0 := if_neg (by rw [rgT_len]; omega)
    refine for_gen (n := 30) (fun k σ J4 => J4 = J3 ∧ ∃ (t : List Nat) (s : Nat) (v8 v14 : Option V), s < sz ∧ t.length = k ∧ rs (rgT sz m) (ixOf l) (some 0) t = some s ∧ σ = [some (.ref a), some (.str (S sgl)), some (.int (m : Int)), some (.int (at0 : Int)), some (.str (S l)), some (.int (sz : Int)), some (.ref Ar), some (.int (s : Int)), v8, some (.ref D), some (.ref n), some (.ref du), none, some (.str (S t)), v14]) ⟨rfl, [], 0, none, none, by omega, rfl, rfl, rfl⟩ ?_ ?_ ?_ ?_
    · intro k σ J4 hk _
      show k < ((30 : Int)).toNat
      exact hk
    · intro σ J4 _
      show ((30 : Int)).toNat ≤ 30
      decide
    · rintro k σ J4 x J5 hk ⟨rfl, t, s, v8, v14, hs, lt, ers, rfl⟩ ⟨rfl, rfl⟩
      rw [show (0 : Int) + (k : Int) = (k : Int) by omega]
      have ei : (8 : Int) + (k : Int) % 20 = ((8 + k % 20 : Nat) : Int) := by rw [Int.natCast_add, Int.natCast_emod]; rfl
      obtain ⟨r, er, _⟩ := dget (8 + k % 20) (by have := Nat.mod_lt k (show 0 < 20 by omega); omega)
      obtain ⟨p, ep, hp⟩ := modN (r + (k : Int)) m0
      obtain ⟨c, ec⟩ : ∃ c, l[p]? = some c := ⟨_, List.getElem?_eq_getElem (by omega)⟩
      walk_at "go"
      dsimp only
      rw [ei]
      refine ⟨a, _, _, _, rfl, rfl, s1.seq ha, atI_nat er, ?_⟩
      walk_at "go"
      dsimp only
      rw [ep]
      refine ⟨S l, _, c, rfl, rfl, by rw [S_len, ll]; exact szl (by omega), atI_nat (xs := (S l).cps.toList) (by simpa using ec), ?_⟩
      refine ⟨S t, S [c], rfl, rfl, by rw [S_len, S_len, lt]; exact szl (by show k + 1 ≤ 2000; omega), ?_⟩
      rw [S_cat]
      have ix : ixOf l c = some p := by
        cases e1 : ixOf l c with
        | none => exact absurd (List.mem_of_getElem? ec) (ixOf_none.mp e1)
        | some i => rw [nd_inj nd (ixOf_some e1) ec]
      obtain ⟨s', hs'⟩ : ∃ s', s' = (s + p + 1) % sz := ⟨_, rfl⟩
      have es' : rs (rgT sz m) (ixOf l) (some 0) (t ++ [c]) = some s' := by
        rw [rs_app, ers, rs_one, ix, hs']
        exact rgT_nx hs hp
      have ls' : s' < sz := by rw [hs']; exact Nat.mod_lt _ (by omega)
      have em : ((s : Int) + (p : Int) + 1) % (sz : Int) = (s' : Int) := by rw [hs', Int.natCast_emod]; rfl
      walk_at "go"
      dsimp only
      rw [em]
      walk_at "go"
      refine ⟨n, dx, _, rfl, en, rfl, ?_⟩
      walk_at "go"
      refine ⟨n, l, t ++ [c], _, _, rfl, hM, nd, wfR, ?_⟩
      rw [st0, es']
      dsimp only [eV]
      walk_at "go"
      rw [decide_eq_true (p := V.int ((s' : Nat) : Int) = V.int ((s' : Nat) : Int)) rfl]
      walk_at "go"
      refine ⟨n, dx, _, rfl, en, ?_⟩
      refine ⟨n, l, t ++ [c], _, _, rfl, hM, nd, wfR, ?_⟩
      rw [st0, es']
      walk_at "go"
      refine ⟨D, _, rfl, .inl (SqL.of eD), rfl, gsq_flat g4, ?_⟩
      rw [inV_gsq]
      have eb : accB ((List.range sz).filter fun s => decide (s ∈ g4)) (some s') = decide (s' ∈ g4) := by
        show decide (s' ∈ (List.range sz).filter fun s => decide (s ∈ g4)) = decide (s' ∈ g4)
        rw [decide_eq_decide, List.mem_filter, List.mem_range, decide_eq_true_iff]
        exact ⟨fun h => h.2, fun h => ⟨ls', h⟩⟩
      rw [eb]
      walk_at "go"
      refine ne_iteR (b1 := decide (s' ∈ g4)) (b2 := decide (s' ∈ g4)) (fun h => absurd rfl h) (fun _ => ?_)
      walk_at "go"
      exact ⟨t ++ [c], s', _, _, ls', by rw [List.length_append, lt]; rfl, es', rfl⟩
    · rintro σ J4 ⟨rfl, t, s, v8, v14, hs, lt, ers, rfl⟩
      walk_at "go"
      exact q _ s1
end
end Z
set_option pp.maxSteps 700
set_option Elab.async false
set_option linter.all false
set_option maxRecDepth 100000
set_option maxHeartbeats 4000000
open SX (S S_inj S_len S_cat)
namespace Z
open Mc
open PySem PySem.Spec PyProof.Rows L2
open C8 (pss_cut tCut)
local macro_rules | `(tactic| walk_at "num") => `(tactic| first | rfl | omega | decide | exact Nat.le_of_lt (small1000 (by simp)) | exact ⟨by omega, by omega⟩ | exact ⟨by omega, by omega, by omega⟩ | exact ⟨by decide, by decide, by decide⟩ | exact Or.inl ⟨by omega, by omega⟩ | exact Or.inr ⟨by omega, by omega⟩)
local macro_rules | `(tactic| walk_at "go") => `(tactic| repeat (first | refine ⟨_, rfl, ?_⟩ | refine ⟨_, _, rfl, rfl, ?_⟩ | refine ⟨_, _, rfl, ?_⟩ | (refine ⟨_, _, rfl, rfl, ?_, ?_⟩; focus walk_at "num") | refine Or.inl ⟨_, rfl, ?_⟩ | refine ⟨_, _, _, _, rfl, rfl, (by assumption), (by rfl), ?_⟩ | refine ⟨_, _, _, _, _, rfl, (by assumption), (by assumption), (by assumption), (by rfl), ?_⟩ | refine ⟨rfl, ?_⟩ | (refine And.intro ?_ ?_; focus walk_at "num")))
abbrev s_law : Stmt := topS 39
abbrev N_law : List Str := ["_law_script", "_law_draws_here", "_law_place", "_law_letters_here", "_law_many", "_law_table_here", "_law_machine", "_law_alive_here", "_law_other", "_law_twin", "_law_state", "_law_one", "_law_good", "_law_changed"]
abbrev P_law : List Str := ["_law_script"]
theorem sc_law : FnScope N_law P_law (defScope s_law) := ⟨rfl, rfl, rfl, by decide +kernel, rfl, by decide +kernel, by decide +kernel⟩
theorem bls_flat (n : Nat) (al : Nat → Bool) : (bls n al).all flatV = true := by
  rw [List.all_eq_true]
  intro v hv
  obtain ⟨i, _, rfl⟩ := List.mem_map.mp hv
  rfl
theorem inV_bls {n : Nat} {al : Nat → Bool} (h : ∀ s, s < n → al s = true) : inV (.bl false) (bls n al) = false := by
  unfold inV bls
  rw [List.any_eq_false]
  intro v hv
  obtain ⟨i, hi, rfl⟩ := List.mem_map.mp hv
  rw [h i (List.mem_range.mp hi)]
  decide
theorem flt_gs (gs : List Nat) (p : Nat → Bool) : fltL (fun k => p (gs.getD k 0)) (fun k => V.int ((gs.getD k 0 : Nat) : Int)) gs.length = gsq (gs.filter p) := by
  have e : (List.range gs.length).map (fun k => gs.getD k 0) = gs := by
    refine List.ext_getElem? fun i => ?_
    rw [List.getElem?_map]
    by_cases hi : i < gs.length
    · rw [List.getElem?_range hi, List.getElem?_eq_getElem hi]
      show some (gs.getD i 0) = _
      rw [List.getD_eq_getElem?_getD, List.getElem?_eq_getElem hi]
      rfl
    · rw [List.getElem?_eq_none (by rw [List.length_range]; omega), List.getElem?_eq_none (by omega)]
      rfl
  unfold fltL gsq
  conv => rhs; rw [← e]
  rw [List.filter_map, List.map_map]
  rfl
section
variable {P : Program} {w : World} {K : PySem.W.Frag} {mg : Str → Option Value} {base : Heap} {f C : Addr} {fd : FuncData}
def spLaw (K : PySem.W.Frag) : Sp := fun vs H Q _ => ∃ (s : Addr) (ns : List Int), vs = [.ref s] ∧ SqL K H s (ns.map V.int) ∧ ∀ H', Q (.bl true) H'
theorem ok_law (F : FnP K "law" s_law f fd) (m_len : mg "len" = none) (m_int : mg "int" = none) (cls : Cls K C) (n_letters : NoAttr K C "letters") (n_rows : NoAttr K C "rows") (n_good : NoAttr K C "good") (c_cell : Cal P w K mg base 1 "_law_cell" (spCell K)) (c_draws : Cal P w K mg base 1 "_law_draws" spDraws) (c_letters : Cal P w K mg base 2 "_law_letters" (spLet K)) (c_table : Cal P w K mg base 2 "_law_table" (spTab K)) (c_alive : Cal P w K mg base 1 "_law_alive" (spAlv K)) (c_same_texts : Cal P w K mg base 1 "_law_same_texts" (spSam K)) (c_kinds : Cal P w K mg base 2 "_law_kinds" (spKnd C K)) (c_met_in_order : Cal P w K mg base 1 "_law_met_in_order" (spMio K)) (c_all_apart : Cal P w K mg base 1 "_law_all_apart" (spAap K)) (c_second : Cal P w K mg base 2 "_law_second" (spSec K)) (c_ring_right : Cal P w K mg base 6 "_law_ring_right" (spRgr K)) (k_Machine : Mak P w K mg base 4 "Machine" (spM3 C K)) (e_Machine : Eqo P w K mg base 1 C (spEqL C K)) : FnOk P w K mg base CX0 7 f fd P_law (spLaw K) := by
  refine F.ok sc_law (fun vs H Q E h => ?_) (fun cdv A outer s H vs Q E hr h => ?_)
  · obtain ⟨s, ns, rfl, _⟩ := h
    rfl
  · obtain ⟨s, ns, rfl, hS, q⟩ := h
    refine ⟨_, PSs.nox (pss_cons (ps_set (i := 1) sc_law.nd rfl (by first | exact .inl rfl | exact .inr rfl) (pe_cl c_draws hr (by decide) (by rfl) (pa_cons (pe_cl c_cell hr (by decide) (by rfl) (pa_cons (pv 0) (pa_cons pe_int pa_nil))) (pa_cons pe_int pa_nil))))
      (pss_cons (ps_set (i := 2) sc_law.nd rfl (by first | exact .inl rfl | exact .inr rfl) (pe_lst (pa_cons pe_int pa_nil)))
      (pss_cons (ps_set (i := 3) sc_law.nd rfl (by first | exact .inl rfl | exact .inr rfl) (pe_cl c_letters hr (by decide) (by rfl) (pa_cons (pv 1) (pa_cons (pv 2) pa_nil))))
      (pss_cons (ps_set (i := 4) sc_law.nd rfl (by first | exact .inl rfl | exact .inr rfl) (pe_callB call_len_str (by rfl) m_len PySem.boot_len (pa_cons (pv 3) pa_nil)))
      (pss_cons (ps_set (i := 5) sc_law.nd rfl (by first | exact .inl rfl | exact .inr rfl) (pe_cl c_table hr (by decide) (by rfl) (pa_cons (pv 1) (pa_cons (pv 2) (pa_cons (pv 4) (pa_cons pe_int pa_nil))))))
      (pss_cons (ps_set (i := 6) sc_law.nd rfl (by first | exact .inl rfl | exact .inr rfl) (pe_mk k_Machine hr (by decide) (by rfl) (pa_cons (pv 3) (pa_cons (pe_ix ix_list (pv 5) pe_int (fun _ _ => rfl)) (pa_cons (pe_ix ix_list (pv 5) pe_int (fun _ _ => rfl)) pa_nil)))))
      (pss_cut (ps_if (PW.pt (pw_or (pt_not (pt_val (pe_cl c_kinds hr (by decide) (by rfl) (pa_cons (pv 6) (pa_cons (pv 4) pa_nil))))) (pw_or1 (pt_not (pt_val (pe_cl c_met_in_order hr (by decide) (by rfl) (pa_cons (pe_fld (pv 6) rfl) pa_nil))))))) (pss_one (ps_ret pe_bl)) pss_nil)
      (pss_cut (ps_if (PW.pt (pw_or (pt_cmpR op_in_seq pe_bl (pe_cl c_alive hr (by decide) (by rfl) (pa_cons (pe_fld (pv 6) rfl) (pa_cons (pe_fld (pv 6) rfl) pa_nil))) (by rfl)) (pw_or1 (pt_not (pt_val (pe_cl c_all_apart hr (by decide) (by rfl) (pa_cons (pe_fld (pv 6) rfl) (pa_cons (pe_fld (pv 6) rfl) pa_nil)))))))) (pss_one (ps_ret pe_bl)) pss_nil)
      (pss_cut (ps_if (pt_not (pt_val (pe_cl c_same_texts hr (by decide) (by rfl) (pa_cons (pv 5) (pa_cons (pe_lst (pa_cons (pe_fld (pv 6) rfl) (pa_cons (pe_fld (pv 6) rfl) pa_nil))) (pa_cons (pv 4) pa_nil)))))) (pss_one (ps_ret pe_bl)) pss_nil)
      (pss_cons (ps_set (i := 7) sc_law.nd rfl (by first | exact .inl rfl | exact .inr rfl) (pe_cl c_alive hr (by decide) (by rfl) (pa_cons (pe_ix ix_list (pv 5) pe_int (fun _ _ => rfl)) (pa_cons (pe_ix ix_list (pv 5) pe_int (fun _ _ => rfl)) pa_nil))))
      (pss_cut (ps_if (PW.pt (pw_and (pt_not (pt_val (pe_ix ix_list (pv 7) pe_int (fun _ _ => rfl)))) (pw_and1 (PW.pt (pw_or (pt_cmpR (op_neD hr.units) (pe_fld (pv 6) rfl) (pe_tup pa_nil) (nomark _)) (pw_or1 (pt_cmpR (op_neD hr.units) (pe_fld (pv 6) rfl) (pe_tup pa_nil) (nomark _)))))))) (pss_one (ps_ret pe_bl)) pss_nil)
      (pss_cons (ps_set (i := 8) sc_law.nd rfl (by first | exact .inl rfl | exact .inr rfl) (pe_cl c_second hr (by decide) (by rfl) (pa_cons (pv 5) (pa_cons (pv 4) (pa_cons (pe_cl c_draws hr (by decide) (by rfl) (pa_cons (pe_op op_add (pe_cl c_cell hr (by decide) (by rfl) (pa_cons (pv 0) (pa_cons pe_int pa_nil))) (pe_ix ix_list (pv 1) pe_int (fun _ _ => rfl))) (pa_cons pe_int pa_nil))) (pa_cons (pe_lst (pa_cons pe_int pa_nil)) pa_nil))))))
      (pss_cons (ps_set (i := 9) sc_law.nd rfl (by first | exact .inl rfl | exact .inr rfl) (pe_mk k_Machine hr (by decide) (by rfl) (pa_cons (pv 3) (pa_cons (pe_ix ix_list (pv 8) pe_int (fun _ _ => rfl)) (pa_cons (pe_ix ix_list (pv 8) pe_int (fun _ _ => rfl)) pa_nil)))))
      (pss_cut (ps_if (PW.pt (pw_or (pt_cmpR (op_neD hr.units) (pe_fld (pv 9) rfl) (pe_fld (pv 6) rfl) (nomark _)) (pw_or (pt_cmpR (op_neD hr.units) (pe_fld (pv 9) rfl) (pe_fld (pv 6) rfl) (nomark _)) (pw_or1 (pt_not (pt_cmpR (op_own e_Machine hr (by decide)) (pv 9) (pv 6) (nomark _))))))) (pss_one (ps_ret pe_bl)) pss_nil)
      (pss_cut (ps_if (pt_not (pt_val (pe_cl c_ring_right hr (by decide) (by rfl) (pa_cons (pe_cl c_draws hr (by decide) (by rfl) (pa_cons (pe_op op_add (pe_cl c_cell hr (by decide) (by rfl) (pa_cons (pv 0) (pa_cons pe_int pa_nil))) (pe_ix ix_list (pv 1) pe_int (fun _ _ => rfl))) (pa_cons pe_int pa_nil))) pa_nil)))) (pss_one (ps_ret pe_bl)) pss_nil)
      (pss_cons (ps_set (i := 10) sc_law.nd rfl (by first | exact .inl rfl | exact .inr rfl) (pe_op op_mod (pe_callTy call_int1 (by rfl) m_int (by decide +kernel) (pa_cons (pe_ix ix_list (pv 1) pe_int (fun _ _ => rfl)) pa_nil)) (pe_callB call_len_seq (by rfl) m_len PySem.boot_len (pa_cons (pe_ix ix_list (pv 5) pe_int (fun _ _ => rfl)) pa_nil))))
      (pss_cons (ps_setLc (i := 12) (own := [("_law_one", 11)]) (g := (gName 11)) (by rfl) sc_law.nd rfl rfl (sw_true rfl rfl rfl (by decide +kernel)) (pi_list (pe_ix ix_list (pv 5) pe_int (fun _ _ => rfl))) (blkOk_by (own := [("_law_one", 11)]) (N := N_law) (sc := defScope s_law) (by decide +kernel)) (fun _ _ _ _ _ => (pg_name (i := 11) sc_law.nd rfl (by first | exact .inl rfl | exact .inr rfl))) (fun _ _ _ _ _ => (pts_one (pt_cmpR op_ne (pv 11) (pv 10) (nomark _)))) (fun _ _ _ _ _ => (pv 11)))
      (pss_cut (ps_if (pt_cmpR op_eq (pe_callB call_len_seq (by rfl) m_len PySem.boot_len (pa_cons (pv 12) pa_nil)) (pe_callB call_len_seq (by rfl) m_len PySem.boot_len (pa_cons (pe_ix ix_list (pv 5) pe_int (fun _ _ => rfl)) pa_nil)) (nomark _)) (pss_one (ps_expr (pe_bm PySem.F.plainAttrs_list PySem.F.slot_list_append PySem.F.type_list_append mt_append (pv 12) (pa_cons (pv 10) pa_nil)))) pss_nil)
      (pss_cons (ps_set (i := 13) sc_law.nd rfl (by first | exact .inl rfl | exact .inr rfl) (pe_mk k_Machine hr (by decide) (by rfl) (pa_cons (pv 3) (pa_cons (pe_ix ix_list (pv 5) pe_int (fun _ _ => rfl)) (pa_cons (pv 12) pa_nil)))))
      (pss_one (ps_ret (pe_cmpR op_eq (pe_cmpR (op_own e_Machine hr (by decide)) (pv 13) (pv 6) (nomark _)) (pe_cl c_same_texts hr (by decide) (by rfl) (pa_cons (pv 5) (pa_cons (pe_lst (pa_cons (pe_ix ix_list (pv 5) pe_int (fun _ _ => rfl)) (pa_cons (pv 12) pa_nil))) (pa_cons (pv 4) pa_nil)))) (nomark _))))))))))))))))))))))), ?_⟩
    walk_at "go"
    refine ⟨s, ns, 0, rfl, hS, ?_⟩
    walk_at "go"
    intro a ds na hd
    have s1 := same_new (o := .lst (ds.map V.int)) na
    have ea : (upd H a (.lst (ds.map V.int))) a = some (.lst (ds.map V.int)) := upd_same
    generalize upd H a (.lst (ds.map V.int)) = H1 at s1 ea
    walk_at "go"
    intro p np
    have s2 := same_new (o := .lst [.int 2]) np
    have ep : (upd H1 p (.lst [.int 2])) p = some (.lst [.int ((2 : Nat) : Int)]) := upd_same
    have ea2 := s2 _ _ ea
    have ap : a ≠ p := ne_of_none ea np
    generalize hH2 : upd H1 p (.lst [.int 2]) = H2 at s2 ep ea2
    have tk : Tk K a p ds 60 H2 H2 := ⟨ea2, hd, ap, Z.Same.sb (Same.refl _), 2, ep⟩
    have up : ∀ {J : Hp}, Tk K a p ds 60 H2 J → Same H1 J := fun {J} k b o e => k.up (s2 _ _ e) (fun z => by rw [z, np] at e; cases e)
    walk_at "go"
    refine ⟨a, p, 60, ds, rfl, tk, fun l H3 tk3 nd l0 l4 _ => ?_⟩
    walk_at "go"
    refine ⟨by rw [S_len]; exact szl (by omega), ?_⟩
    rw [S_len]
    walk_at "go"
    refine ⟨a, p, 60, l.length, 6, ds, rfl, tk3.slf, by omega, by omega, by omega, fun t A1 g zs gs H4 tk4 et tr eg wf z0 z6 hgs lgs => ?_⟩
    have tk5 := tk3.tr tk4
    have sh := s1.trans (up tk5)
    have ea5 := up tk5 _ _ ea
    clear tk3 tk4 tk up ep ea2 s2 hH2 np ea s1 na
    walk_at "go"
    refine ⟨t, _, _, .ref A1, rfl, rfl, SqL.of et, rfl, ?_⟩
    walk_at "go"
    refine ⟨t, _, _, .ref g, rfl, rfl, SqL.of et, rfl, ?_⟩
    walk_at "go"
    refine ⟨true, true, A1, l, .ref g, zs, gs, rfl, nd, fun e => (by rw [e] at l0; exact absurd l0 (by decide)), by omega, ⟨SqL.of tr.sq, fun z h => SqL.of (tr.at_ z h)⟩, wf, by omega, ⟨.inr ⟨true, g, rfl, SqL.of eg⟩, hgs⟩, fun n R g' H5 s5 nn hM nf => ?_⟩
    obtain ⟨T, hT⟩ : ∃ T, T = tb zs := ⟨_, rfl⟩
    have lT : T.length = zs.length := by rw [hT]; exact List.length_map ..
    have hS5 := (sh.trans s5).seq hS
    have ea6 := s5 _ _ ea5
    have et5 := s5 _ _ et
    have tr5 : TbR H5 A1 zs := ⟨s5 _ _ tr.sq, fun z h => s5 _ _ (tr.at_ z h)⟩
    have eg5 := s5 _ _ eg
    obtain ⟨dx, rr, uu, zr, en, hR, eu, ezr⟩ := hM.ex
    subst ezr
    have wfR := nf.wf
    have lR : (tb zr).length = zr.length := List.length_map ..
    have lenR := nf.len
    rw [lR, show (tb zs).length = zs.length from List.length_map ..] at lenR
    clear s5 sh ea5 et tr eg hS
    refine ⟨fun σ' J => Same H5 J ∧ σ' = [some (.ref s), some (.ref a), some (.ref p), some (.str (S l)), some (.int (l.length : Int)), some (.ref t), some (.ref n), none, none, none, none, none, none, none], ?_, ?_⟩
    · walk_at "go"
      refine ⟨n, l, tb zr, g', rfl, hM, wfR.1, wfR.2, nf.asc, ?_⟩
      walk_at "go"
      refine ⟨l.length, rr, zr, rfl, hR, wfR.1, by omega, nf.ord, ?_⟩
      walk_at "go"
      exact And.intro (Same.refl _) rfl
    rintro σ' J ⟨sJ, rfl⟩
    have en6 := sJ _ _ en
    refine ⟨fun σ' J2 => Same J J2 ∧ σ' = [some (.ref s), some (.ref a), some (.ref p), some (.str (S l)), some (.int (l.length : Int)), some (.ref t), some (.ref n), none, none, none, none, none, none, none], ?_, ?_⟩
    · walk_at "go"
      refine ⟨false, false, false, l.length, rr, uu, zr, g', rfl, hR.mono sJ, wfR.1, by omega, by omega, SqT.of (sJ _ _ eu), fun L al J2 s2 nL eL hal => ?_⟩
      have en7 := s2 _ _ en6
      walk_at "go"
      refine ⟨L, _, rfl, .inl (SqL.of eL), rfl, bls_flat _ _, ?_⟩
      rw [inV_bls fun i hi => (hal i hi).mpr (nf.live (by rw [lR]; exact hi))]
      walk_at "go"
      refine ⟨l.length, rr, uu, zr, g', rfl, (hR.mono sJ).mono s2, s2 _ _ (sJ _ _ eu), wfR.1, by omega, by omega, fun i j hi hj => nf.apart (by rw [lR]; exact hi) (by rw [lR]; exact hj), fun i hi => nf.live (by rw [lR]; exact hi), fun J3 s3 => ?_⟩
      walk_at "go"
      exact And.intro (s2.trans s3) rfl
    clear en6
    rintro σ' J2 ⟨s2, rfl⟩
    have sJ2 := sJ.trans s2
    clear sJ s2
    clear J
    revert sJ2
    generalize J2 = J
    intro sJ
    have en6 := sJ _ _ en
    refine ⟨fun σ' J2 => Same J J2 ∧ σ' = [some (.ref s), some (.ref a), some (.ref p), some (.str (S l)), some (.int (l.length : Int)), some (.ref t), some (.ref n), none, none, none, none, none, none, none], ?_, ?_⟩
    · walk_at "go"
      intro B nB
      have s2 := same_new (o := .lst [.ref rr, .ref uu]) nB
      have eB : (upd J B (.lst [.ref rr, .ref uu])) B = some (.lst [.ref rr, .ref uu]) := upd_same
      generalize upd J B (.lst [.ref rr, .ref uu]) = J2 at s2 eB
      have sJ2 := sJ.trans s2
      walk_at "go"
      refine ⟨true, true, false, false, true, false, l.length, t, B, A1, g, rr, uu, zs, zr, gs, g', rfl, SqL.of (sJ2 _ _ et5), SqL.of eB, ⟨SqL.of (sJ2 _ _ tr5.sq), fun z h => SqL.of (sJ2 _ _ (tr5.at_ z h))⟩, hR.mono sJ2, SqL.of (sJ2 _ _ eg5), SqT.of (sJ2 _ _ eu), wf, wfR.1, by omega, by omega, by omega, fun J3 r s3 hr3 => ?_⟩
      have hr4 : r = true := hr3.mpr fun w => (nf.lang w).symm
      subst hr4
      walk_at "go"
      exact And.intro (s2.trans s3) rfl
    clear en6
    rintro σ' J2 ⟨s2, rfl⟩
    have sJ2 := sJ.trans s2
    clear sJ s2
    clear J
    revert sJ2
    generalize J2 = J
    intro sJ
    walk_at "go"
    refine ⟨t, _, _, .ref A1, rfl, rfl, SqL.of (sJ _ _ et5), rfl, ?_⟩
    walk_at "go"
    refine ⟨t, _, _, .ref g, rfl, rfl, SqL.of (sJ _ _ et5), rfl, ?_⟩
    walk_at "go"
    refine ⟨true, true, true, l.length, A1, g, zs, gs, rfl, ⟨SqL.of (sJ _ _ tr5.sq), fun z h => SqL.of (sJ _ _ (tr5.at_ z h))⟩, wf, by omega, by omega, SqL.of (sJ _ _ eg5), fun L al J2 s2 nL eL hal => ?_⟩
    have sJ2 := sJ.trans s2
    clear sJ s2 nL
    have en6 := sJ2 _ _ en
    refine ⟨fun σ' J3 => Same H5 J3 ∧ σ' = [some (.ref s), some (.ref a), some (.ref p), some (.str (S l)), some (.int (l.length : Int)), some (.ref t), some (.ref n), some (.ref L), none, none, none, none, none, none], ?_, ?_⟩
    · walk_at "go"
      refine ⟨L, _, _, .bl (al 0), rfl, rfl, SqL.of eL, bls_at (i := 0) (by omega), ?_⟩
      cases c : al 0 with
      | true =>
        walk_at "go"
        rfl
      | false =>
        have nl : ¬ Liv (tb zs) (inG gs) 0 := fun h => by rw [(hal 0 (by omega)).mpr h] at c; cases c
        have em : tb zr = [] ∧ g' = [] := by
          rcases nf with ⟨h1, h2, _⟩ | ⟨met, h⟩
          · exact ⟨h1, h2⟩
          · exact absurd (h.live 0 (List.mem_of_getElem? h.zero)).2 nl
        have emp : ∀ {J3 : Hp} {x : Addr}, J3 x = some (.tup []) → Dp K J3 (.ref x) (.tuple []) := fun {J3 x} e => dp_nat (b := false) (g := []) (SqT.of e)
        have sh0 : SeqAt.shaped (.tuple []) = true := shaped_nat false []
        walk_at "go"
        intro x0 nx0
        have s3 := same_new (o := .tup []) nx0
        have ex0 : (upd J2 x0 (.tup [])) x0 = some (.tup []) := upd_same
        generalize upd J2 x0 (.tup []) = J3 at s3 ex0
        have sJ3 := sJ2.trans s3
        have en7 := sJ3 _ _ en
        refine ⟨tbD false false (tb zr), .tuple [], (hR.mono sJ3).dp, emp ex0, shaped_tb _ _ _, sh0, ?_⟩
        rw [em.1, show PyData.eqv (tbD false false []) (.tuple []) = true from eqv_tb false false [] []]
        walk_at "go"
        intro x1 nx1
        have s4 := same_new (o := .tup []) nx1
        have ex1 : (upd J3 x1 (.tup [])) x1 = some (.tup []) := upd_same
        generalize upd J3 x1 (.tup []) = J4 at s4 ex1
        refine ⟨natD false g', .tuple [], dp_nat (SqT.of ((sJ3.trans s4) _ _ eu)), emp ex1, shaped_nat _ _, sh0, ?_⟩
        rw [em.2, show PyData.eqv (natD false []) (.tuple []) = true from eqv_nat false [] []]
        walk_at "go"
        exact And.intro (sJ3.trans s4) rfl
    clear en6 eL hal
    rintro σ' J3 ⟨sJ, rfl⟩
    have dget : ∀ i, i < 60 → ∃ r : Int, (ds.map V.int)[i]? = some (.int r) := fun i hi => by
      have hl : ds.length = 60 := hd.1
      exact ⟨ds[i]'(by omega), by rw [List.getElem?_map, List.getElem?_eq_getElem (by omega)]; rfl⟩
    obtain ⟨r0, e0⟩ := dget 0 (by omega)
    obtain ⟨r1, e1⟩ := dget 1 (by omega)
    obtain ⟨r2, e2⟩ := dget 2 (by omega)
    walk_at "go"
    refine ⟨s, ns, 1, rfl, sJ.seq hS5, ?_⟩
    walk_at "go"
    refine ⟨a, _, _, _, rfl, rfl, SqL.of (sJ _ _ ea6), atI_nat (j := 1) e1, ?_⟩
    walk_at "go"
    intro a2 ds2 na2 hd2
    have s2 := same_new (o := .lst (ds2.map V.int)) na2
    have ea2 : (upd J3 a2 (.lst (ds2.map V.int))) a2 = some (.lst (ds2.map V.int)) := upd_same
    generalize upd J3 a2 (.lst (ds2.map V.int)) = J4 at s2 ea2
    walk_at "go"
    intro p2 np2
    have s3 := same_new (o := .lst [.int 0]) np2
    have ep2 : (upd J4 p2 (.lst [.int 0])) p2 = some (.lst [.int ((0 : Nat) : Int)]) := upd_same
    have ea3 := s3 _ _ ea2
    have ap2 : a2 ≠ p2 := ne_of_none ea2 np2
    have s23 := s2.trans s3
    have sJ4 := sJ.trans s23
    have np : ∀ {x : Addr} {o : HO}, H5 x = some o → x ≠ p2 := fun {x o} e z => by
      have := (sJ.trans s2) _ _ e
      rw [z, np2] at this
      cases this
    generalize upd J4 p2 (.lst [.int 0]) = J5 at s3 ep2 ea3 s23 sJ4
    have tk : Tk K a2 p2 ds2 30 J5 J5 := ⟨ea3, hd2, ap2, Z.Same.sb (Same.refl _), 0, ep2⟩
    clear ea2
    walk_at "go"
    refine ⟨t, A1, g, a2, p2, zs, gs, l.length, 30, ds2, rfl, sJ4 _ _ et5, ⟨sJ4 _ _ tr5.sq, fun z h => sJ4 _ _ (tr5.at_ z h)⟩, sJ4 _ _ eg5, wf, z0, z6, by omega, by omega, hgs, tk, np et5, np tr5.sq, np eg5, fun z h => np (tr5.at_ z h), fun b A' g2 zs' U d J6 tk6 eb tr6 etr sec hdd eg6 => ?_⟩
    have s6 : Same H5 J6 := fun x o e => tk6.up (sJ4 _ _ e) (np e)
    clear np tk tk6 s23 sJ4 s3 s2 ep2 ea3 np2 na2 sJ
    have lT' : (tb zs).length = zs.length := List.length_map ..
    have lz' : zs'.length = zs.length + 3 := by
      have := congrArg List.length etr
      rw [trn_len] at this
      rw [← this]
      exact (List.length_map ..).symm
    walk_at "go"
    refine ⟨b, _, _, .ref A', rfl, rfl, SqL.of eb, rfl, ?_⟩
    walk_at "go"
    refine ⟨b, _, _, .ref g2, rfl, rfl, SqL.of eb, rfl, ?_⟩
    walk_at "go"
    refine ⟨true, true, A', l, .ref g2, zs', sgd zs.length d gs, rfl, nd, fun e => (by rw [e] at l0; exact absurd l0 (by decide)), by omega, ⟨SqL.of tr6.sq, fun z h => SqL.of (tr6.at_ z h)⟩, by rw [etr, ← lT']; exact trn_wf sec, by omega, ⟨.inr ⟨true, g2, rfl, SqL.of eg6⟩, fun x hx => ?_⟩, fun n2 R2 g3 H7 s7 _ hM2 nf2 => ?_⟩
    · rw [lz']
      obtain ⟨y, hy, rfl⟩ := List.mem_map.mp hx
      refine tau_lt ?_
      rcases List.mem_append.mp hy with hy | hy
      · rcases List.mem_append.mp hy with hy | hy
        · have := hgs y hy
          omega
        · rw [List.mem_singleton.mp hy]
          omega
      · split at hy
        · rw [List.mem_singleton.mp hy]
          omega
        · cases hy
    have sac : ∀ w, AccS (tb zs') (inG (sgd zs.length d gs)) w ↔ AccS (tb zs) (inG gs) w := fun w => by
      rw [etr, ← lT']
      exact sec_acc (by omega) (by omega) wf (fun x hx => by rw [lT']; exact hgs x hx) sec w
    obtain ⟨rfl, rfl⟩ := nf2.uniq nf sac
    have s7' := s6.trans s7
    clear sac nf2 eb tr6 eg6 etr sec hdd lz' s6 s7
    obtain ⟨dx2, rr2, uu2, zr2, en2, hR2, eu2, ezr2⟩ := hM2.ex
    have mkM : ∀ {J : Hp} {x : Addr}, McAt C K J x l (tb zr) g3 → McL C K J x l zs.length (AccS (tb zs) (inG gs)) := fun {J x} h => ⟨tb zr, g3, tb zs, inG gs, h, nf, by rw [lR]; exact lenR, fun w => Iff.rfl⟩
    refine ⟨fun σ' J => Same H5 J ∧ σ' = [some (.ref s), some (.ref a), some (.ref p), some (.str (S l)), some (.int (l.length : Int)), some (.ref t), some (.ref n), some (.ref L), some (.ref b), some (.ref n2), none, none, none, none], ?_, ?_⟩
    · have en6 := s7' _ _ en
      walk_at "go"
      refine ⟨tbD false false (tb zr2), tbD false false (tb zr), hR2.dp, (hR.mono s7').dp, shaped_tb _ _ _, shaped_tb _ _ _, ?_⟩
      rw [eqv_tb, ← ezr2, decide_eq_true rfl]
      walk_at "go"
      refine ⟨natD false g3, natD false g3, dp_nat (SqT.of eu2), dp_nat (SqT.of (s7' _ _ eu)), shaped_nat _ _, shaped_nat _ _, ?_⟩
      rw [eqv_nat, decide_eq_true rfl]
      walk_at "go"
      refine ⟨n2, n, dx2, dx, _, _, rfl, rfl, en2, en6, ?_⟩
      refine ⟨n2, n, l, l, zs.length, zs.length, _, _, rfl, mkM hM2, mkM (hM.mono s7'), fun bb hbb => ?_⟩
      have hb : bb = true := hbb.mpr ⟨rfl, fun w => Iff.rfl⟩
      subst hb
      refine ⟨true, rfl, ?_⟩
      walk_at "go"
      rfl
    clear hM2 en2 hR2 eu2 ezr2
    rintro σ' J ⟨sJ, rfl⟩
    refine ⟨fun σ' J => Same H5 J ∧ σ' = [some (.ref s), some (.ref a), some (.ref p), some (.str (S l)), some (.int (l.length : Int)), some (.ref t), some (.ref n), some (.ref L), some (.ref b), some (.ref n2), none, none, none, none], ?_, ?_⟩
    · walk_at "go"
      refine ⟨s, ns, 2, rfl, sJ.seq hS5, ?_⟩
      walk_at "go"
      refine ⟨a, _, _, _, rfl, rfl, SqL.of (sJ _ _ ea6), atI_nat (j := 2) e2, ?_⟩
      walk_at "go"
      intro a3 ds3 na3 hd3
      have s2 := same_new (o := .lst (ds3.map V.int)) na3
      have ea3 : (upd J a3 (.lst (ds3.map V.int))) a3 = some (.lst (ds3.map V.int)) := upd_same
      generalize upd J a3 (.lst (ds3.map V.int)) = J4 at s2 ea3
      walk_at "go"
      refine ⟨a3, ds3, rfl, SqL.of ea3, hd3, fun J5 s5 => ?_⟩
      walk_at "go"
      exact And.intro (sJ.trans (s2.trans s5)) rfl
    clear sJ
    clear J
    rintro σ' J ⟨sJ, rfl⟩
    have trJ : TbR J A1 zs := ⟨sJ _ _ tr5.sq, fun z h => sJ _ _ (tr5.at_ z h)⟩
    have egJ := sJ _ _ eg5
    have etJ := sJ _ _ et5
    obtain ⟨c0, ec0, hc0⟩ := modN r0 z0
    walk_at "go"
    refine ⟨a, _, _, _, rfl, rfl, SqL.of (sJ _ _ ea6), atI_nat (j := 0) e0, ?_⟩
    walk_at "go"
    refine ⟨t, _, _, .ref A1, rfl, rfl, SqL.of etJ, rfl, ?_⟩
    refine ⟨A1, _, rfl, .inl (SqL.of trJ.sq), ?_⟩
    rw [List.length_map]
    walk_at "go"
    dsimp only
    rw [ec0]
    refine ⟨t, _, _, .ref g, rfl, rfl, SqL.of etJ, rfl, ?_⟩
    walk_at "go"
    refine ⟨⟨_, SqL.of egJ⟩, ?_⟩
    intro D nD
    have gx : ∀ i, i < gs.length → (gsq gs)[i]? = some (.int ((gs.getD i 0 : Nat) : Int)) := fun i hi => by
      unfold gsq
      rw [List.getElem?_map, List.getD_eq_getElem?_getD, List.getElem?_eq_getElem hi]
      rfl
    refine lc_flt (n := gs.length) (fun i => .int ((gs.getD i 0 : Nat) : Int)) (fun i => !decide (gs.getD i 0 = c0)) (fun i => .int ((gs.getD i 0 : Nat) : Int)) (by omega) nD (fun i J3 hi s6 => ⟨_, _, s6.seq (SqL.of egJ), gx i hi⟩) (fun J3 s6 => ⟨_, s6.seq (SqL.of egJ), by unfold gsq; rw [List.length_map]; omega⟩) (fun i J3 x J4 hi s6 y => ?_) (fun i => rfl) (fun i J3 Q1 hi s6 q1 => ?_) (fun i J3 Q1 hi _ s6 q1 => ?_) (fun J3 s6 eD => ?_)
    · obtain ⟨rfl, ex⟩ := y
      have ex := ex _ (s6.seq (SqL.of egJ))
      rw [gx i hi] at ex
      cases ex
      exact ⟨Same.refl _, rfl⟩
    · have q1 := q1 _ (Same.refl _)
      have ed : decide (V.int ((gs.getD i 0 : Nat) : Int) = V.int (c0 : Int)) = decide (gs.getD i 0 = c0) := by
        rw [decide_eq_decide]
        exact ⟨fun h => by injection h with h; omega, fun h => by rw [h]⟩
      walk_at "go"
      rw [ed]
      exact q1
    · have q1 := q1 _ (Same.refl _)
      walk_at "go"
      exact q1
    obtain ⟨gf, hgf⟩ : ∃ gf, gf = gs.filter fun x => !decide (x = c0) := ⟨_, rfl⟩
    have eD : J3 D = some (.lst (gsq gf)) := by
      rw [eD, hgf]
      congr 2
      exact flt_gs gs fun x => !decide (x = c0)
    have lgf : gf.length ≤ gs.length := by rw [hgf]; exact List.length_filter_le _ _
    have mgf : ∀ x ∈ gf, x < zs.length := fun x hx => by
      rw [hgf] at hx
      exact hgs x (List.mem_filter.mp hx).1
    have sJ3 := sJ.trans s6
    have nDH := none_of sJ nD
    have np : ∀ {x : Addr} {o : HO}, H5 x = some o → x ≠ D := fun {x o} e => ne_of_none (sJ _ _ e) nD
    clear sJ s6 trJ egJ nD gx
    clear etJ
    refine ⟨fun σ' J2 => Same H5 J2 ∧ ∃ gs2 : List Nat, J2 D = some (.lst (gsq gs2)) ∧ gs2.length ≤ 7 ∧ (∀ x ∈ gs2, x < zs.length) ∧ σ' = [some (.ref s), some (.ref a), some (.ref p), some (.str (S l)), some (.int (l.length : Int)), some (.ref t), some (.ref n), some (.ref L), some (.ref b), some (.ref n2), some (.int (c0 : Int)), none, some (.ref D), none], ?_, ?_⟩
    · walk_at "go"
      refine ⟨D, _, rfl, .inl (SqL.of eD), ?_⟩
      walk_at "go"
      refine ⟨t, _, _, .ref g, rfl, rfl, SqL.of (sJ3 _ _ et5), rfl, ?_⟩
      refine ⟨g, _, rfl, .inl (SqL.of (sJ3 _ _ eg5)), ?_⟩
      walk_at "go"
      refine ite2 (fun c => ?_) (fun c => ?_)
      · walk_at "go"
        refine ⟨.inl ⟨rfl, _, SqL.of eD⟩, ?_⟩
        walk_at "go"
        refine ⟨D, _, _, rfl, rfl, eD, by unfold gsq; rw [List.length_map]; exact szC (by omega), ?_⟩
        refine ⟨Z.Same.mut sJ3 nDH, gf ++ [c0], by rw [upd_same]; unfold gsq; rw [List.map_append]; rfl, by rw [List.length_append]; show gf.length + 1 ≤ 7; omega, fun x hx => ?_, rfl⟩
        rcases List.mem_append.mp hx with hx | hx
        · exact mgf x hx
        · rw [List.mem_singleton.mp hx]
          exact hc0
      · walk_at "go"
        exact ⟨gf, eD, by omega, mgf, rfl⟩
    clear eD sJ3
    rintro σ' J ⟨sJ, gs2, eD, lg2, mg2, rfl⟩
    walk_at "go"
    refine ⟨t, _, _, .ref A1, rfl, rfl, SqL.of (sJ _ _ et5), rfl, ?_⟩
    walk_at "go"
    refine ⟨true, true, A1, l, .ref D, zs, gs2, rfl, nd, fun e => (by rw [e] at l0; exact absurd l0 (by decide)), by omega, ⟨SqL.of (sJ _ _ tr5.sq), fun z h => SqL.of (sJ _ _ (tr5.at_ z h))⟩, wf, by omega, ⟨.inr ⟨true, D, rfl, SqL.of eD⟩, mg2⟩, fun n3 R3 g4 J4 s4 _ hM3 nf3 => ?_⟩
    have m3 : McL C K J4 n3 l zs.length (AccS (tb zs) (inG gs2)) := ⟨R3, g4, tb zs, inG gs2, hM3, nf3, by have := nf3.len; rwa [lT'] at this, fun w => Iff.rfl⟩
    have sJ4 := sJ.trans s4
    have eD4 := s4 _ _ eD
    obtain ⟨dx3, rr3, uu3, zr3, en3, _⟩ := hM3.ex
    have en6 := sJ4 _ _ en
    walk_at "go"
    refine ⟨n3, n, dx3, dx, _, _, rfl, rfl, en3, en6, ?_⟩
    refine ⟨n3, n, l, l, zs.length, zs.length, _, _, rfl, m3, mkM (hM.mono sJ4), fun bb hbb => ?_⟩
    refine ⟨bb, rfl, ?_⟩
    walk_at "go"
    refine ⟨t, _, _, .ref A1, rfl, rfl, SqL.of (sJ4 _ _ et5), rfl, ?_⟩
    walk_at "go"
    intro B nB
    have s5 := same_new (o := .lst [.ref A1, .ref D]) nB
    have eB : (upd J4 B (.lst [.ref A1, .ref D])) B = some (.lst [.ref A1, .ref D]) := upd_same
    have sJ5 := sJ4.trans s5
    have eD5 := s5 _ _ eD4
    generalize upd J4 B (.lst [.ref A1, .ref D]) = J5 at s5 eB sJ5 eD5
    have tb5 : Tb true true K J5 A1 zs := ⟨SqL.of (sJ5 _ _ tr5.sq), fun z h => SqL.of (sJ5 _ _ (tr5.at_ z h))⟩
    walk_at "go"
    refine ⟨true, true, true, true, true, true, l.length, t, B, A1, g, A1, D, zs, zs, gs, gs2, rfl, SqL.of (sJ5 _ _ et5), SqL.of eB, tb5, tb5, SqL.of (sJ5 _ _ eg5), SqL.of eD5, wf, wf, by omega, by omega, by omega, fun J6 r s6 hr6 => ?_⟩
    have hbr : bb = r := beq_iff hbb hr6 ⟨fun h w => (h.2 w).symm, fun h => ⟨rfl, fun w => (h w).symm⟩⟩
    subst hbr
    walk_at "go"
    rw [decide_eq_true (p := V.bl bb = V.bl bb) rfl]
    exact q _
end
end Z
set_option pp.maxSteps 700
set_option Elab.async false
set_option linter.all false
set_option maxRecDepth 100000
set_option maxHeartbeats 4000000
set_option maxHeartbeats 0
namespace Z
open PySem PySem.Spec PyProof.Rows L2 Mc
def d_check_letters : He.DefD := ⟨("check_letters", none), "check_letters", "check_letters", defArgs s_check_letters, defBody s_check_letters, defScope s_check_letters, [], []⟩
def d_check_rows : He.DefD := ⟨("check_rows", none), "check_rows", "check_rows", defArgs s_check_rows, defBody s_check_rows, defScope s_check_rows, [], []⟩
def d_flags_of : He.DefD := ⟨("flags_of", none), "flags_of", "flags_of", defArgs s_flags_of, defBody s_flags_of, defScope s_flags_of, [], []⟩
def d_live_rows : He.DefD := ⟨("live_rows", none), "live_rows", "live_rows", defArgs s_live_rows, defBody s_live_rows, defScope s_live_rows, [], []⟩
def d_state_classes : He.DefD := ⟨("state_classes", none), "state_classes", "state_classes", defArgs s_state_classes, defBody s_state_classes, defScope s_state_classes, [], []⟩
def d_normal_table : He.DefD := ⟨("normal_table", none), "normal_table", "normal_table", defArgs s_normal_table, defBody s_normal_table, defScope s_normal_table, [], []⟩
def d_Machine___init__ : He.DefD := ⟨("Machine", some "__init__"), "__init__", "Machine.__init__", defArgs s_Machine___init__, defBody s_Machine___init__, defScope s_Machine___init__, [.non], []⟩
def d_Machine___contains__ : He.DefD := ⟨("Machine", some "__contains__"), "__contains__", "Machine.__contains__", defArgs s_Machine___contains__, defBody s_Machine___contains__, defScope s_Machine___contains__, [], []⟩
def d_Machine___eq__ : He.DefD := ⟨("Machine", some "__eq__"), "__eq__", "Machine.__eq__", defArgs s_Machine___eq__, defBody s_Machine___eq__, defScope s_Machine___eq__, [], []⟩
def d_Machine_after : He.DefD := ⟨("Machine", some "after"), "after", "Machine.after", defArgs s_Machine_after, defBody s_Machine_after, defScope s_Machine_after, [], []⟩
def d_cell : He.DefD := ⟨("_law_cell", none), "_law_cell", "_law_cell", defArgs s_cell, defBody s_cell, defScope s_cell, [], []⟩
def d_draws : He.DefD := ⟨("_law_draws", none), "_law_draws", "_law_draws", defArgs s_draws, defBody s_draws, defScope s_draws, [], []⟩
def d_take : He.DefD := ⟨("_law_take", none), "_law_take", "_law_take", defArgs s_take, defBody s_take, defScope s_take, [], []⟩
def d_letters : He.DefD := ⟨("_law_letters", none), "_law_letters", "_law_letters", defArgs s_letters, defBody s_letters, defScope s_letters, [], []⟩
def d_entry : He.DefD := ⟨("_law_entry", none), "_law_entry", "_law_entry", defArgs s_entry, defBody s_entry, defScope s_entry, [], []⟩
def d_table : He.DefD := ⟨("_law_table", none), "_law_table", "_law_table", defArgs s_table, defBody s_table, defScope s_table, [], []⟩
def d_alive : He.DefD := ⟨("_law_alive", none), "_law_alive", "_law_alive", defArgs s_alive, defBody s_alive, defScope s_alive, [], []⟩
def d_same_texts : He.DefD := ⟨("_law_same_texts", none), "_law_same_texts", "_law_same_texts", defArgs s_same_texts, defBody s_same_texts, defScope s_same_texts, [], []⟩
def d_is_number : He.DefD := ⟨("_law_is_number", none), "_law_is_number", "_law_is_number", defArgs s_is_number, defBody s_is_number, defScope s_is_number, [], []⟩
def d_kinds : He.DefD := ⟨("_law_kinds", none), "_law_kinds", "_law_kinds", defArgs s_kinds, defBody s_kinds, defScope s_kinds, [], []⟩
def d_met_in_order : He.DefD := ⟨("_law_met_in_order", none), "_law_met_in_order", "_law_met_in_order", defArgs s_met_in_order, defBody s_met_in_order, defScope s_met_in_order, [], []⟩
def d_all_apart : He.DefD := ⟨("_law_all_apart", none), "_law_all_apart", "_law_all_apart", defArgs s_all_apart, defBody s_all_apart, defScope s_all_apart, [], []⟩
def d_second : He.DefD := ⟨("_law_second", none), "_law_second", "_law_second", defArgs s_second, defBody s_second, defScope s_second, [], []⟩
def d_turned : He.DefD := ⟨("_law_turned", none), "_law_turned", "_law_turned", defArgs s_turned, defBody s_turned, defScope s_turned, [], []⟩
def d_ring_right : He.DefD := ⟨("_law_ring_right", none), "_law_ring_right", "_law_ring_right", defArgs s_ring_right, defBody s_ring_right, defScope s_ring_right, [], []⟩
def d_law : He.DefD := ⟨("law", none), "law", "law", defArgs s_law, defBody s_law, defScope s_law, [], []⟩
def fn : List He.DefD := [d_check_letters, d_check_rows, d_flags_of, d_live_rows, d_state_classes, d_normal_table, d_Machine___init__, d_Machine___contains__, d_Machine___eq__, d_Machine_after, d_cell, d_draws, d_take, d_letters, d_entry, d_table, d_alive, d_same_texts, d_is_number, d_kinds, d_met_in_order, d_all_apart, d_second, d_turned, d_ring_right, d_law]
def fa : List He.Fa := [.glo "check_letters", .glo "check_rows", .glo "flags_of", .glo "live_rows", .glo "state_classes", .glo "normal_table", .glo "_law_cell", .glo "_law_draws", .glo "_law_take", .glo "_law_letters", .glo "_law_entry", .glo "_law_table", .glo "_law_alive", .glo "_law_same_texts", .glo "_law_is_number", .glo "_law_kinds", .glo "_law_met_in_order", .glo "_law_all_apart", .glo "_law_second", .glo "_law_turned", .glo "_law_ring_right", .glo "law", .free "abs", .free "any", .free "bool", .free "enumerate", .free "int", .free "isinstance", .free "len", .free "list", .free "range", .free "tuple", .glo "Machine", .cls "Machine", .mkr "Machine", .noat "Machine" "letters", .noat "Machine" "rows", .noat "Machine" "good", .meth "Machine" "after"]
def loose : List Str := [("_wall" : Str), ("HouseError" : Str), ("BadLetters" : Str), ("BadRow" : Str), ("BadState" : Str), ("LettersDiffer" : Str), ("flags_of" : Str), ("live_rows" : Str), ("state_classes" : Str), ("normal_table" : Str), ("is_kept" : Str), ("is_good" : Str), ("pair_table" : Str), ("opposite_table" : Str), ("after_step" : Str), ("with_start" : Str), ("chain_table" : Str), ("check_letters" : Str), ("check_rows" : Str), ("Machine" : Str), ("_law_cell" : Str), ("_law_draws" : Str), ("_law_take" : Str), ("_law_letters" : Str), ("_law_entry" : Str), ("_law_table" : Str), ("_law_alive" : Str), ("_law_same_texts" : Str), ("_law_is_number" : Str), ("_law_kinds" : Str), ("_law_met_in_order" : Str), ("_law_all_apart" : Str), ("_law_second" : Str), ("_law_turned" : Str), ("_law_ring_right" : Str)]
def exL0 (K : PySem.W.Frag) : List Bool := [isB K (He.ga K "Machine"), spB K (He.ga K "Machine") "__eq__", spB K (He.ga K "Machine") "__contains__"]
def ex (K : PySem.W.Frag) : Bool := (exL0 K).all id
abbrev xns : List (PySem.W.Frag → SupV) := []
abbrev xvs : List SupV := []
abbrev R : PySem.W.OpenRow := PySem.W.OpenLaw.row PySem.Challenge.rw_signedpacts_k01_machine_normal_form
abbrev hk : PySem.W.Hook := hookY 5 fa fn xns xvs ex
def ob (s : PySem.W.SharedT) : He.AlD × (List SupV × Bool) := obY 5 fa fn xns ex (HandSHeadRun.getT s)
theorem ob_eq (s : PySem.W.SharedT) : ob s = hk.obs s.abs := obY_eq (HandSHeadRun.getT_eq s)
theorem run (w : World) : HandSHeadRun.RunEq R (PySem.W.view R.prog [39]) hk ob 8000 loose w := by
  intro os
  kernel_rfl
theorem facts {P : Program} {w : World} {K : PySem.W.Frag} {h : Heap} {mg : Str → Option Value} {f : Addr} (X : K.In h) (G : h.Ns mainGlobals mg) (hfa : mg ("law" : Str) = some (.ref f)) (c : He.SaysD fa fn K) (cx : ex K = true) :
    ∃ fd : FuncData, (∀ (s : Shared) (v : Value), BindsTo s fd ⟨[v], []⟩ [("_law_script", v)]) ∧ ∀ base : Heap, K.In base → base.Ns mainGlobals mg → FnOk P w K mg base CX0 7 f fd ["_law_script"] (spLaw K) := by
  obtain ⟨fd_check_letters, F_check_letters⟩ := c.def_ 0 (d := d_check_letters) rfl
  have F_check_letters : FnP K "check_letters" s_check_letters _ fd_check_letters := F_check_letters
  have g_check_letters := He.glo_ok X G (c.fact 0 (f := .glo "check_letters") rfl)
  have b_check_letters : Binds K fd_check_letters P_check_letters [] := F_check_letters.bindsN fun _ _ _ _ _ _ us hl => match us, hl with | [_], _ => rfl
  obtain ⟨fd_check_rows, F_check_rows⟩ := c.def_ 1 (d := d_check_rows) rfl
  have F_check_rows : FnP K "check_rows" s_check_rows _ fd_check_rows := F_check_rows
  have g_check_rows := He.glo_ok X G (c.fact 1 (f := .glo "check_rows") rfl)
  have b_check_rows : Binds K fd_check_rows P_check_rows [] := F_check_rows.bindsN fun _ _ _ _ _ _ us hl => match us, hl with | [_, _], _ => rfl
  obtain ⟨fd_flags_of, F_flags_of⟩ := c.def_ 2 (d := d_flags_of) rfl
  have F_flags_of : FnP K "flags_of" s_flags_of _ fd_flags_of := F_flags_of
  have g_flags_of := He.glo_ok X G (c.fact 2 (f := .glo "flags_of") rfl)
  have b_flags_of : Binds K fd_flags_of P_flags_of [] := F_flags_of.bindsN fun _ _ _ _ _ _ us hl => match us, hl with | [_, _], _ => rfl
  obtain ⟨fd_live_rows, F_live_rows⟩ := c.def_ 3 (d := d_live_rows) rfl
  have F_live_rows : FnP K "live_rows" s_live_rows _ fd_live_rows := F_live_rows
  have g_live_rows := He.glo_ok X G (c.fact 3 (f := .glo "live_rows") rfl)
  have b_live_rows : Binds K fd_live_rows P_live_rows [] := F_live_rows.bindsN fun _ _ _ _ _ _ us hl => match us, hl with | [_, _], _ => rfl
  obtain ⟨fd_state_classes, F_state_classes⟩ := c.def_ 4 (d := d_state_classes) rfl
  have F_state_classes : FnP K "state_classes" s_state_classes _ fd_state_classes := F_state_classes
  have g_state_classes := He.glo_ok X G (c.fact 4 (f := .glo "state_classes") rfl)
  have b_state_classes : Binds K fd_state_classes P_state_classes [] := F_state_classes.bindsN fun _ _ _ _ _ _ us hl => match us, hl with | [_, _], _ => rfl
  obtain ⟨fd_normal_table, F_normal_table⟩ := c.def_ 5 (d := d_normal_table) rfl
  have F_normal_table : FnP K "normal_table" s_normal_table _ fd_normal_table := F_normal_table
  have g_normal_table := He.glo_ok X G (c.fact 5 (f := .glo "normal_table") rfl)
  have b_normal_table : Binds K fd_normal_table P_normal_table [] := F_normal_table.bindsN fun _ _ _ _ _ _ us hl => match us, hl with | [_, _], _ => rfl
  obtain ⟨fd_Machine___init__, F_Machine___init__⟩ := c.def_ 6 (d := d_Machine___init__) rfl
  obtain ⟨fd_Machine___contains__, F_Machine___contains__⟩ := c.def_ 7 (d := d_Machine___contains__) rfl
  have F_Machine___contains__ : FnM K "__contains__" "Machine.__contains__" s_Machine___contains__ (He.ma K (He.ga K "Machine") "__contains__") fd_Machine___contains__ := F_Machine___contains__
  have b_Machine___contains__ : Binds K fd_Machine___contains__ P_Machine___contains__ [] := F_Machine___contains__.bindsN fun _ _ _ _ _ _ us hl => match us, hl with | [_, _], _ => rfl
  obtain ⟨fd_Machine___eq__, F_Machine___eq__⟩ := c.def_ 8 (d := d_Machine___eq__) rfl
  have F_Machine___eq__ : FnM K "__eq__" "Machine.__eq__" s_Machine___eq__ (He.ma K (He.ga K "Machine") "__eq__") fd_Machine___eq__ := F_Machine___eq__
  have b_Machine___eq__ : Binds K fd_Machine___eq__ P_Machine___eq__ [] := F_Machine___eq__.bindsN fun _ _ _ _ _ _ us hl => match us, hl with | [_, _], _ => rfl
  obtain ⟨fd_Machine_after, F_Machine_after⟩ := c.def_ 9 (d := d_Machine_after) rfl
  have F_Machine_after : FnM K "after" "Machine.after" s_Machine_after (He.ma K (He.ga K "Machine") "after") fd_Machine_after := F_Machine_after
  have b_Machine_after : Binds K fd_Machine_after P_Machine_after [] := F_Machine_after.bindsN fun _ _ _ _ _ _ us hl => match us, hl with | [_, _], _ => rfl
  obtain ⟨fd_cell, F_cell⟩ := c.def_ 10 (d := d_cell) rfl
  have F_cell : FnP K "_law_cell" s_cell _ fd_cell := F_cell
  have g_cell := He.glo_ok X G (c.fact 6 (f := .glo "_law_cell") rfl)
  have b_cell : Binds K fd_cell P_cell [] := F_cell.bindsN fun _ _ _ _ _ _ us hl => match us, hl with | [_, _], _ => rfl
  obtain ⟨fd_draws, F_draws⟩ := c.def_ 11 (d := d_draws) rfl
  have F_draws : FnP K "_law_draws" s_draws _ fd_draws := F_draws
  have g_draws := He.glo_ok X G (c.fact 7 (f := .glo "_law_draws") rfl)
  have b_draws : Binds K fd_draws P_draws [] := F_draws.bindsN fun _ _ _ _ _ _ us hl => match us, hl with | [_, _], _ => rfl
  obtain ⟨fd_take, F_take⟩ := c.def_ 12 (d := d_take) rfl
  have F_take : FnP K "_law_take" s_take _ fd_take := F_take
  have g_take := He.glo_ok X G (c.fact 8 (f := .glo "_law_take") rfl)
  have b_take : Binds K fd_take P_take [] := F_take.bindsN fun _ _ _ _ _ _ us hl => match us, hl with | [_, _], _ => rfl
  obtain ⟨fd_letters, F_letters⟩ := c.def_ 13 (d := d_letters) rfl
  have F_letters : FnP K "_law_letters" s_letters _ fd_letters := F_letters
  have g_letters := He.glo_ok X G (c.fact 9 (f := .glo "_law_letters") rfl)
  have b_letters : Binds K fd_letters P_letters [] := F_letters.bindsN fun _ _ _ _ _ _ us hl => match us, hl with | [_, _], _ => rfl
  obtain ⟨fd_entry, F_entry⟩ := c.def_ 14 (d := d_entry) rfl
  have F_entry : FnP K "_law_entry" s_entry _ fd_entry := F_entry
  have g_entry := He.glo_ok X G (c.fact 10 (f := .glo "_law_entry") rfl)
  have b_entry : Binds K fd_entry P_entry [] := F_entry.bindsN fun _ _ _ _ _ _ us hl => match us, hl with | [_, _], _ => rfl
  obtain ⟨fd_table, F_table⟩ := c.def_ 15 (d := d_table) rfl
  have F_table : FnP K "_law_table" s_table _ fd_table := F_table
  have g_table := He.glo_ok X G (c.fact 11 (f := .glo "_law_table") rfl)
  have b_table : Binds K fd_table P_table [] := F_table.bindsN fun _ _ _ _ _ _ us hl => match us, hl with | [_, _, _, _], _ => rfl
  obtain ⟨fd_alive, F_alive⟩ := c.def_ 16 (d := d_alive) rfl
  have F_alive : FnP K "_law_alive" s_alive _ fd_alive := F_alive
  have g_alive := He.glo_ok X G (c.fact 12 (f := .glo "_law_alive") rfl)
  have b_alive : Binds K fd_alive P_alive [] := F_alive.bindsN fun _ _ _ _ _ _ us hl => match us, hl with | [_, _], _ => rfl
  obtain ⟨fd_same_texts, F_same_texts⟩ := c.def_ 17 (d := d_same_texts) rfl
  have F_same_texts : FnP K "_law_same_texts" s_same_texts _ fd_same_texts := F_same_texts
  have g_same_texts := He.glo_ok X G (c.fact 13 (f := .glo "_law_same_texts") rfl)
  have b_same_texts : Binds K fd_same_texts P_same_texts [] := F_same_texts.bindsN fun _ _ _ _ _ _ us hl => match us, hl with | [_, _, _], _ => rfl
  obtain ⟨fd_is_number, F_is_number⟩ := c.def_ 18 (d := d_is_number) rfl
  have F_is_number : FnP K "_law_is_number" s_is_number _ fd_is_number := F_is_number
  have g_is_number := He.glo_ok X G (c.fact 14 (f := .glo "_law_is_number") rfl)
  have b_is_number : Binds K fd_is_number P_is_number [] := F_is_number.bindsN fun _ _ _ _ _ _ us hl => match us, hl with | [_], _ => rfl
  obtain ⟨fd_kinds, F_kinds⟩ := c.def_ 19 (d := d_kinds) rfl
  have F_kinds : FnP K "_law_kinds" s_kinds _ fd_kinds := F_kinds
  have g_kinds := He.glo_ok X G (c.fact 15 (f := .glo "_law_kinds") rfl)
  have b_kinds : Binds K fd_kinds P_kinds [] := F_kinds.bindsN fun _ _ _ _ _ _ us hl => match us, hl with | [_, _], _ => rfl
  obtain ⟨fd_met_in_order, F_met_in_order⟩ := c.def_ 20 (d := d_met_in_order) rfl
  have F_met_in_order : FnP K "_law_met_in_order" s_met_in_order _ fd_met_in_order := F_met_in_order
  have g_met_in_order := He.glo_ok X G (c.fact 16 (f := .glo "_law_met_in_order") rfl)
  have b_met_in_order : Binds K fd_met_in_order P_met_in_order [] := F_met_in_order.bindsN fun _ _ _ _ _ _ us hl => match us, hl with | [_], _ => rfl
  obtain ⟨fd_all_apart, F_all_apart⟩ := c.def_ 21 (d := d_all_apart) rfl
  have F_all_apart : FnP K "_law_all_apart" s_all_apart _ fd_all_apart := F_all_apart
  have g_all_apart := He.glo_ok X G (c.fact 17 (f := .glo "_law_all_apart") rfl)
  have b_all_apart : Binds K fd_all_apart P_all_apart [] := F_all_apart.bindsN fun _ _ _ _ _ _ us hl => match us, hl with | [_, _], _ => rfl
  obtain ⟨fd_second, F_second⟩ := c.def_ 22 (d := d_second) rfl
  have F_second : FnP K "_law_second" s_second _ fd_second := F_second
  have g_second := He.glo_ok X G (c.fact 18 (f := .glo "_law_second") rfl)
  have b_second : Binds K fd_second P_second [] := F_second.bindsN fun _ _ _ _ _ _ us hl => match us, hl with | [_, _, _, _], _ => rfl
  obtain ⟨fd_turned, F_turned⟩ := c.def_ 23 (d := d_turned) rfl
  have F_turned : FnP K "_law_turned" s_turned _ fd_turned := F_turned
  have g_turned := He.glo_ok X G (c.fact 19 (f := .glo "_law_turned") rfl)
  have b_turned : Binds K fd_turned P_turned [] := F_turned.bindsN fun _ _ _ _ _ _ us hl => match us, hl with | [_, _], _ => rfl
  obtain ⟨fd_ring_right, F_ring_right⟩ := c.def_ 24 (d := d_ring_right) rfl
  have F_ring_right : FnP K "_law_ring_right" s_ring_right _ fd_ring_right := F_ring_right
  have g_ring_right := He.glo_ok X G (c.fact 20 (f := .glo "_law_ring_right") rfl)
  have b_ring_right : Binds K fd_ring_right P_ring_right [] := F_ring_right.bindsN fun _ _ _ _ _ _ us hl => match us, hl with | [_], _ => rfl
  obtain ⟨fd_law, F_law⟩ := c.def_ 25 (d := d_law) rfl
  have F_law : FnP K "law" s_law _ fd_law := F_law
  have g_law := He.glo_ok X G (c.fact 21 (f := .glo "law") rfl)
  have m_abs := He.free_ok X G (c.fact 22 (f := .free "abs") rfl)
  have m_any := He.free_ok X G (c.fact 23 (f := .free "any") rfl)
  have m_bool := He.free_ok X G (c.fact 24 (f := .free "bool") rfl)
  have m_enumerate := He.free_ok X G (c.fact 25 (f := .free "enumerate") rfl)
  have m_int := He.free_ok X G (c.fact 26 (f := .free "int") rfl)
  have m_isinstance := He.free_ok X G (c.fact 27 (f := .free "isinstance") rfl)
  have m_len := He.free_ok X G (c.fact 28 (f := .free "len") rfl)
  have m_list := He.free_ok X G (c.fact 29 (f := .free "list") rfl)
  have m_range := He.free_ok X G (c.fact 30 (f := .free "range") rfl)
  have m_tuple := He.free_ok X G (c.fact 31 (f := .free "tuple") rfl)
  have g_Machine := He.glo_ok X G (c.fact 32 (f := .glo "Machine") rfl)
  have cls_Machine := He.cls_ok (c.fact 33 (f := .cls "Machine") rfl)
  have mk_Machine := He.mkr_ok (c.fact 34 (f := .mkr "Machine") rfl)
  have n_Machine_letters := He.noat_ok (c.fact 35 (f := .noat "Machine" "letters") rfl)
  have n_Machine_rows := He.noat_ok (c.fact 36 (f := .noat "Machine" "rows") rfl)
  have n_Machine_good := He.noat_ok (c.fact 37 (f := .noat "Machine" "good") rfl)
  have me_Machine_after := He.meth_ok (c.fact 38 (f := .meth "Machine" "after") rfl)
  have isC := isB_ok cls_Machine (all_at cx 0)
  obtain ⟨z1, z2, z3⟩ := spB_ok (all_at cx 1)
  obtain ⟨y1, y2, y3⟩ := spB_ok (all_at cx 2)
  have e := hfa.symm.trans g_law
  cases e
  have b := FunD.bindsA (ps := ["_law_script"]) F_law fun _ _ _ _ _ _ us hl => match us, hl with | [_], _ => rfl
  refine ⟨fd_law, fun s v => b s [v] rfl, fun base _ _ => ?_⟩
  have c_cell : Cal P w K mg base 1 "_law_cell" (spCell K) := cal_of F_cell g_cell b_cell (ok_cell F_cell m_len m_int)
  have c_draws : Cal P w K mg base 1 "_law_draws" spDraws := cal_of F_draws g_draws b_draws (ok_draws F_draws m_int m_abs m_range)
  have c_take : Cal P w K mg base 1 "_law_take" (spTake K) := cal_of F_take g_take b_take (ok_take F_take m_len)
  have c_check_letters : Cal P w K mg base 1 "check_letters" spCkL := cal_of F_check_letters g_check_letters b_check_letters (ok_check_letters F_check_letters m_enumerate)
  have c_check_rows : Cal P w K mg base 1 "check_rows" (spCkR K) := cal_of F_check_rows g_check_rows b_check_rows (ok_check_rows F_check_rows m_enumerate m_len)
  have c_flags_of : Cal P w K mg base 1 "flags_of" (spFlags K) := cal_of F_flags_of g_flags_of b_flags_of (ok_flags_of F_flags_of m_range)
  have c_live_rows : Cal P w K mg base 2 "live_rows" (spLive K) := cal_of F_live_rows g_live_rows b_live_rows (ok_live_rows F_live_rows m_len m_any m_enumerate c_flags_of)
  have c_state_classes : Cal P w K mg base 2 "state_classes" (spClasses K) := cal_of F_state_classes g_state_classes b_state_classes (ok_state_classes F_state_classes m_int m_tuple m_len m_enumerate c_flags_of)
  have c_normal_table : Cal P w K mg base 3 "normal_table" (spNorm K) := cal_of F_normal_table g_normal_table b_normal_table (ok_normal_table F_normal_table m_len m_tuple m_enumerate c_flags_of c_live_rows c_state_classes)
  have Fi : FnMq K "__init__" "Machine.__init__" s_Machine___init__ [.non] _ fd_Machine___init__ := F_Machine___init__
  have o_init := ok_minit (P := P) (w := w) (mg := mg) (base := base) F_Machine___init__ m_len m_list m_range cls_Machine n_Machine_letters n_Machine_rows n_Machine_good c_check_letters c_check_rows c_normal_table
  obtain ⟨d3, v3, b3⟩ := FunD.binds1 (ps := P_Machine___init__) Fi 3 0 (by simp) rfl fun T kV doc pm an cdv ct us its hu hi => match us, hu, its, hi with | [_, _, _], _, [_], _ => ⟨_, rfl, rfl⟩
  obtain ⟨d4, v4, b4⟩ := FunD.binds1 (ps := P_Machine___init__) Fi 4 1 (by simp) rfl fun T kV doc pm an cdv ct us its hu hi => match us, hu, its, hi with | [_, _, _, _], _, [_], _ => ⟨_, rfl, rfl⟩
  cases v4
  have k_Machine : Mak P w K mg base 4 "Machine" (spM3 (He.ga K "Machine") K) := ⟨_, _, _, _, _, mk_Machine, o_init, g_Machine, b4, m3_imp⟩
  have e_Machine : Eqo P w K mg base 1 (He.ga K "Machine") (spEqL (He.ga K "Machine") K) := ⟨_, _, _, (ok_eq F_Machine___eq__ isC m_isinstance g_Machine cls_Machine n_Machine_letters n_Machine_rows n_Machine_good).imp eqL_imp, z1, z2, b_Machine___eq__⟩
  have me_after : Met P w K mg base 1 (He.ga K "Machine") "after" (spAfter (He.ga K "Machine") K) := ⟨_, _, _, cls_Machine, me_Machine_after, ok_after F_Machine_after m_len cls_Machine n_Machine_letters n_Machine_rows, b_Machine_after⟩
  have in_Machine : InO P w K mg base 2 (He.ga K "Machine") (spIn (He.ga K "Machine") K) := ⟨_, _, _, ok_contains F_Machine___contains__ cls_Machine n_Machine_good me_after, y1, y2, b_Machine___contains__⟩
  have c_letters : Cal P w K mg base 2 "_law_letters" (spLet K) := cal_of F_letters g_letters b_letters (ok_letters F_letters m_int m_len m_range c_take)
  have c_entry : Cal P w K mg base 1 "_law_entry" spEnt := cal_of F_entry g_entry b_entry (ok_entry F_entry m_int)
  have c_table : Cal P w K mg base 2 "_law_table" (spTab K) := cal_of F_table g_table b_table (ok_table F_table m_int m_range c_take c_entry)
  have c_is_number : Cal P w K mg base 1 "_law_is_number" spIsN := cal_of F_is_number g_is_number b_is_number (ok_is_number F_is_number m_isinstance m_int m_bool)
  have c_kinds : Cal P w K mg base 2 "_law_kinds" (spKnd (He.ga K "Machine") K) := cal_of F_kinds g_kinds b_kinds (ok_kinds F_kinds m_isinstance m_tuple m_len cls_Machine n_Machine_rows n_Machine_good c_is_number)
  have c_met_in_order : Cal P w K mg base 1 "_law_met_in_order" (spMio K) := cal_of F_met_in_order g_met_in_order b_met_in_order (ok_met_in_order F_met_in_order m_len m_range)
  have c_alive : Cal P w K mg base 1 "_law_alive" (spAlv K) := cal_of F_alive g_alive b_alive (ok_alive F_alive m_len m_range)
  have c_all_apart : Cal P w K mg base 1 "_law_all_apart" (spAap K) := cal_of F_all_apart g_all_apart b_all_apart (ok_all_apart F_all_apart m_len m_range m_int)
  have c_same_texts : Cal P w K mg base 1 "_law_same_texts" (spSam K) := cal_of F_same_texts g_same_texts b_same_texts (ok_same_texts F_same_texts m_len m_range)
  have c_turned : Cal P w K mg base 1 "_law_turned" (spTrn K) := cal_of F_turned g_turned b_turned (ok_turned F_turned)
  have c_second : Cal P w K mg base 2 "_law_second" (spSec K) := cal_of F_second g_second b_second (ok_second F_second m_len m_range m_int c_take c_turned)
  have c_ring_right : Cal P w K mg base 6 "_law_ring_right" (spRgr K) := cal_of F_ring_right g_ring_right b_ring_right (ok_ring_right F_ring_right m_len m_range m_int m_tuple cls_Machine n_Machine_letters n_Machine_rows n_Machine_good k_Machine in_Machine me_after)
  exact ok_law F_law m_len m_int cls_Machine n_Machine_letters n_Machine_rows n_Machine_good c_cell c_draws c_letters c_table c_alive c_same_texts c_kinds c_met_in_order c_all_apart c_second c_ring_right k_Machine e_Machine
end Z
open PySem PySem.W PySem.Calls PyProof.Rows
theorem PySem.Challenge.cw_signedpacts_k01_machine_normal_form_holds : PySem.Challenge.rw_signedpacts_k01_machine_normal_form.Holds := by
  w_on; o_law
  refine HandSHeadRun.head_any (r := OpenLaw.row PySem.Challenge.rw_signedpacts_k01_machine_normal_form) (q := view (OpenLaw.row PySem.Challenge.rw_signedpacts_k01_machine_normal_form).prog [39]) (H := Z.hk) (ob := Z.ob) (M := 8000) (loose := Z.loose) (d := HandSHeadRun.topDef (OpenLaw.row PySem.Challenge.rw_signedpacts_k01_machine_normal_form).prog 39) (kwd := []) Z.ob_eq
    (by kernel_rfl) (fun s => by kernel_rfl) Z.run (by kernel_rfl) (by kernel_rfl) (by kernel_rfl) (by rfl) (by first | assumption | decide +kernel) (by decide +kernel) ⟨rfl, rfl, rfl, rfl, rfl, by decide +kernel⟩ ?hw ?hc
  case hw => w_witness2
  case hc =>
    refine L2.walk_ofE (l := PySem.Challenge.rw_signedpacts_k01_machine_normal_form) (n := 63) (k := 7) (x := "_law_script") (CX := L2.CX0) rfl (by decide) (by kernel_rfl) ⟨rfl, by decide, by decide⟩ ?F (fun _ _ _ _ z => z)
    intro w mg fa h Y G hmg0
    obtain ⟨K, KX, c, _, cx⟩ := Y
    have hmg : mg ("law" : PySem.Str) = some (.ref fa) := by
      have e : (HandSHeadRun.topDef (OpenLaw.row PySem.Challenge.rw_signedpacts_k01_machine_normal_form).prog 39).name = ("law" : PySem.Str) := by kernel_rfl
      rw [← e]
      exact hmg0
    obtain ⟨fd, hb, hF⟩ := Z.facts (P := (PySem.Challenge.rw_signedpacts_k01_machine_normal_form).prog) (w := w) KX G hmg c cx
    exact ⟨K, fd, Z.spLaw K, KX, hb, fun H a ns hl _ hS => ⟨a, ns, rfl, hS, fun _ => rfl⟩, hF⟩
