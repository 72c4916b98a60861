import PyProof.Rows.All
import Wide.All
import OpenK.AllK
import Wide.FinOn
import HandS.ForMost
import HandS.Zip
import HandS.TupMul
import HandS.Codes
import KE.GoesMore
import KE.GoesEnum
import HandS.Defaults
import HandS.IsInst
import HandS.Wide
import HandS.WideBits
import HandS.NoneIn
import HandS.OwnEq
import HandS.Star
import HandS.SetTxtIn
import HandS.Dict
import HandS.SetKeys
import HandS.TupLen
import KE.KeyNested
import PyProof.DictMoreH
import PyProof.DictRoadsH
import HandS.ExcInit
import HandS.ExcField
import HandS.ExcIs
import HandS.Nested
import HandS.ClsMeth
import HandS.HeadHook1
import KE.KSuper
import KE.KExcSuper
import HandS.WordsExc
import HandS.ExcInitHot
import KE.KExcIs
import HandS.HeadHook2
import HandS.Property
import HandS.NamedTupGet
import HandS.ExcCtx
import HandS.ExcOwn
import PyProof.StrOps2
import HandS.Strs
import OpenK.KMeth
import HandS.Replace
import HandS.Conv
import PyProof.StrLawsFirst
import HandS.Style
import PyProof.ListStr
import HandS.Head0
import HandS.Head1
import HandS.Head2
import HandS.HeadEnd
import PySem.Challenge.RW_signedpacts_k49_four_duties
set_option Elab.async false
set_option linter.all false
set_option maxRecDepth 100000
set_option maxHeartbeats 4000000
namespace Z
open PySem PySem.Spec PyProof.Rows L2
/-! ### zip over two sequences, each a list (true) or a tuple (false) -/
def SqK (b : Bool) (K : PySem.W.Frag) (H : Hp) (a : Addr) (xs : List V) : Prop := match b with
  | true => SqL K H a xs
  | false => SqT K H a xs
def ItK (b : Bool) (h : Heap) (it l : Addr) (i : Nat) : Prop := match b with
  | true => h.IsListIter it l i
  | false => h.IsTupleIter it l i
def IsK (b : Bool) (h : Heap) (l : Addr) (xs : Array Value) : Prop := match b with
  | true => h.IsList l xs
  | false => h.IsTuple l xs
theorem ItK.at' {b : Bool} {h h' : Heap} {it l : Addr} {i : Nat} (x : ItK b h it l i) (k : ∀ o, h.get? it = some o → h'.get? it = some o) : ItK b h' it l i := by
  cases b
  · exact Heap.IsTupleIter.at x k
  · exact Heap.IsListIter.at x k
theorem ItK.obj {b : Bool} {h : Heap} {it l : Addr} {i : Nat} (x : ItK b h it l i) : ∃ o, h.get? it = some o ∧ ∀ v, o.data ≠ .cell v := by
  cases b
  · obtain ⟨o, e, _, d⟩ := (show h.IsTupleIter it l i from x)
    exact ⟨o, e, fun v q => by rw [d] at q; cases q⟩
  · obtain ⟨o, e, _, d⟩ := (show h.IsListIter it l i from x)
    exact ⟨o, e, fun v q => by rw [d] at q; cases q⟩
theorem sqk_is {X : Cx} {pins : List (Addr × Obj)} {σ : L2.St} {H : Hp} {s : Shared} {b : Bool} {a : Addr} {xs : List V} (I : Inv X pins σ H s) (h : SqK b X.K H a xs) :
    ∃ its : List Value, Vals xs its ∧ IsK b s.heap a its.toArray ∧ a < s.heap.objs.size := by
  cases b
  · obtain ⟨its, r, p, _⟩ := I.tuple h
    obtain ⟨o, ho, _⟩ := id p
    exact ⟨its, r, p, Heap.lt_size ho⟩
  · obtain ⟨its, r, p, _⟩ := I.list h
    exact ⟨its, r, p.isList, p.lt⟩
theorem sqk_inj {X : Cx} {pins : List (Addr × Obj)} {σ : L2.St} {H : Hp} {s : Shared} {b : Bool} {a : Addr} {xs ys : List V} (I : Inv X pins σ H s) (h : SqK b X.K H a xs) (h' : SqK b X.K H a ys) : xs = ys := by
  cases b
  · exact I.tuple_inj h h'
  · exact I.list_inj h h'
theorem drawsK {prog : Program} {w : World} {A : Around} (b : Bool) (hh : A.handled = none) (it l : Addr) (hne : l ≠ it) (items : Array Value) :
    Draws prog w A it [it, l] items.size (fun i v => items[i]? = some v) (fun i h => ItK b h it l i ∧ IsK b h l items) := by
  cases b
  · exact Draws.tuple hh it l hne items
  · exact Draws.list hh it l hne items
def ItzM (p q : Bool) (K : PySem.W.Frag) (a b : Addr) : It :=
  ⟨fun i H => ∃ (xs ys : List V) (x y : V), SqK p K H a xs ∧ SqK q K H b ys ∧ xs[i]? = some x ∧ ys[i]? = some y,
   fun i H v H' => ∃ T x y, v = .ref T ∧ H T = none ∧ H' = upd H T (.tup [x, y]) ∧ (∀ xs, SqK p K H a xs → xs[i]? = some x) ∧ (∀ ys, SqK q K H b ys → ys[i]? = some y),
   fun i H => ∃ xs ys : List V, SqK p K H a xs ∧ SqK q K H b ys ∧ (xs.length ≤ i ∨ ys.length ≤ i) ∧ i ≤ xs.length ∧ i ≤ ys.length⟩
theorem zsep {z TI TO i1 i2 a b : Addr} (D : ZipApart z TI TO i1 i2 a b) : ZipSep2 z TI TO i1 i2 [i1, a] [i2, b] where
  TIz := D.TIz
  TOz := D.TOz
  TITO := D.TITO
  TIi1 := D.TIi1
  mem1 := List.mem_cons_self
  zf1 := fun h => by rcases List.mem_cons.mp h with e | h; exact D.i1z e.symm; exact D.l1z (List.mem_singleton.mp h).symm
  Tf1 := fun h => by rcases List.mem_cons.mp h with e | h; exact D.TOi1 e; exact D.l1TO (List.mem_singleton.mp h).symm
  TIi2 := D.TIi2
  mem2 := List.mem_cons_self
  zf2 := fun h => by rcases List.mem_cons.mp h with e | h; exact D.i2z e.symm; exact D.l2z (List.mem_singleton.mp h).symm
  Tf2 := fun h => by rcases List.mem_cons.mp h with e | h; exact D.TOi2 e; exact D.l2TO (List.mem_singleton.mp h).symm
  sep1_2 := fun h => by rcases List.mem_cons.mp h with e | h; exact D.i12 e; exact D.l2i1 (List.mem_singleton.mp h).symm
  sep2_1 := fun h => by rcases List.mem_cons.mp h with e | h; exact D.i12 e.symm; exact D.l1i2 (List.mem_singleton.mp h).symm
theorem five {c z TI TO i1 i2 : Addr} {Pr : Addr → Prop} (hc : c ∈ [z, TI, TO, i1, i2]) (a : Pr z) (b : Pr TI) (d : Pr TO) (e : Pr i1) (f : Pr i2) : Pr c := by
  have q : c = z ∨ c = TI ∨ c = TO ∨ c = i1 ∨ c = i2 := by simpa using hc
  rcases q with rfl | rfl | rfl | rfl | rfl <;> assumption
theorem turn_zipM {p q : Bool} {P : Program} {w : World} {K : PySem.W.Frag} {elts : List Expr} {kk : Nat} {tpos : Pos} {a b z TI TO i1 i2 : Addr} (D : ZipApart z TI TO i1 i2 a b) :
    Turn P w K (.Tuple elts kk tpos) (ItzM p q K a b) [z, TI, TO, i1, i2] z (fun i h => IsZip h z TI TO .none ∧ IsTupOf2 h TI (.ref i1) (.ref i2) ∧ (∃ x y, IsTupOf2 h TO x y) ∧ ItK p h i1 a i ∧ ItK q h i2 b i) where
  mem := by simp
  obj := fun i h st c hc => by
    obtain ⟨hz, hI, ⟨x, y, hO⟩, h1, h2⟩ := st
    exact five (Pr := fun c => ∃ o, h.get? c = some o ∧ ∀ v, o.data ≠ .cell v) hc ⟨_, hz, fun v q => nomatch q⟩ ⟨_, hI, fun v q => nomatch q⟩ ⟨_, hO, fun v q => nomatch q⟩ h1.obj h2.obj
  keep := fun i h h' st k => by
    obtain ⟨hz, hI, ⟨x, y, hO⟩, h1, h2⟩ := st
    exact ⟨k z (by simp) _ hz, k TI (by simp) _ hI, ⟨x, y, k TO (by simp) _ hO⟩, h1.at' (fun o e => k i1 (by simp) o e), h2.at' (fun o e => k i2 (by simp) o e)⟩
  item := by
    intro X hP hw hK hc i pins s σ H E I hf st hg
    subst hP hw hK
    obtain ⟨hz, hI, ⟨x0, y0, hO⟩, h1, h2⟩ := st
    obtain ⟨xs, ys, x, y, qx, qy, ex, ey⟩ := hg
    obtain ⟨us, rx, kx, _⟩ := sqk_is I qx
    obtain ⟨vs, ry, ky, _⟩ := sqk_is I qy
    obtain ⟨u, eu, ru⟩ := rx.get ex
    obtain ⟨v, ev, rv⟩ := ry.get ey
    have hzl : z < s.heap.objs.size := Heap.lt_size hz
    have lu : i < us.toArray.size := by simpa using (List.getElem?_eq_some_iff.mp eu).1
    have lv : i < vs.toArray.size := by simpa using (List.getElem?_eq_some_iff.mp ev).1
    have hh : X.A.in1.handled = none := I.ok.hd hc
    refine wpAny_pyNext_zipD2_item (zsep D) (drawsK p hh i1 a D.l1i1 us.toArray) (drawsK q hh i2 b D.l2i2 vs.toArray) hz hI hO ⟨h1, kx⟩ ⟨h2, ky⟩ lu lv fun m1 m2 g tk p1 p2 gz gO g1 g2 gT gs gk => ?_
    have e1 : m1 = u := by
      have t1 : us.toArray[i]? = some u := by simpa using eu
      exact Option.some.inj (p1.symm.trans t1)
    have e2 : m2 = v := by
      have t1 : vs.toArray[i]? = some v := by simpa using ev
      exact Option.some.inj (p2.symm.trans t1)
    subst e1 e2
    refine ⟨_, rfl, wpAny_letOwnedTupleGo_zip (s := { s with heap := g, toks := tk }) gz fun g' gz' sb => ?_⟩
    have gT' : g'.get? s.heap.objs.size = some { cls := .type "tuple", data := .seq #[m1, m2] } := (sb.2 _ (Nat.ne_of_gt hzl)).trans gT
    have nw : ObjOk X.prog X.w (upd H s.heap.objs.size (.tup [x, y])) g' s.heap.objs.size (.tup [x, y]) := ⟨by show 2 ≤ sizeLine; decide, [m1, m2], .cons ru (.cons rv .nil), ⟨_, gT', rfl, _, rfl⟩⟩
    have I1 : Inv X pins σ (upd H s.heap.objs.size (.tup [x, y])) { s with heap := g', toks := tk } :=
      I.turnedNew (t' := tk) (ch := [z, TI, TO, i1, i2]) (fun c o nb e => (sb.2 c (fun w => nb (by simp [w]))).trans (gk c o (fun w => nb (by simp [w])) (fun w => nb (by simp [w])) (fun w => nb (by simp [w])) (fun w => nb (by simp [w])) e)) hf (Nat.le_refl _) nw
    refine ⟨.ref s.heap.objs.size, _, I1, rfl, ⟨_, x, y, rfl, I.hok.fresh (Nat.le_refl _), rfl, fun l hl => by rw [sqk_inj I hl qx]; exact ex, fun l hl => by rw [sqk_inj I hl qy]; exact ey⟩, ⟨gz', ?_, ⟨m1, m2, ?_⟩, ?_, ?_⟩, fun c hcm => ?_⟩
    · exact (sb.2 _ D.TIz).trans (gk _ _ D.TIz D.TITO D.TIi1 D.TIi2 hI)
    · exact (sb.2 _ D.TOz).trans gO
    · exact ItK.at' g1.1 (fun o e => (sb.2 _ D.i1z).trans e)
    · exact ItK.at' g2.1 (fun o e => (sb.2 _ D.i2z).trans e)
    · have lt : c < s.heap.objs.size := by
        obtain ⟨o1, q1, _⟩ := h1.obj
        obtain ⟨o2, q2, _⟩ := h2.obj
        exact five (Pr := fun c => c < s.heap.objs.size) hcm hzl (Heap.lt_size hI) (Heap.lt_size hO) (Heap.lt_size q1) (Heap.lt_size q2)
      rw [upd_ne (Nat.ne_of_lt lt)]
      exact (hf c hcm).1
  done := by
    intro X hP hw hK hc i pins s σ H E I hf st hg
    subst hP hw hK
    obtain ⟨hz, hI, ⟨x0, y0, hO⟩, h1, h2⟩ := st
    obtain ⟨xs, ys, qx, qy, hend, le1, le2⟩ := hg
    obtain ⟨us, rx, kx, _⟩ := sqk_is I qx
    obtain ⟨vs, ry, ky, _⟩ := sqk_is I qy
    have l1 := rx.length
    have l2 := ry.length
    have n1 : us.toArray.size = us.length := by simp
    have n2 : vs.toArray.size = vs.length := by simp
    have hh : X.A.in1.handled = none := I.ok.hd hc
    refine wpAny_pyNext_zipD2_end (i := i) (zsep D) (drawsK p hh i1 a D.l1i1 us.toArray) (drawsK q hh i2 b D.l2i2 vs.toArray) hz hI hO ⟨h1, kx⟩ ⟨h2, ky⟩ (by omega) (by omega) (by omega) fun g tk gk => ?_
    exact ⟨rfl, I.turnedL (t' := tk) (ch := [z, TI, TO, i1, i2]) (fun c o nb e => gk c o (fun w => nb (by simp [w])) (fun w => nb (by simp [w])) (fun w => nb (by simp [w])) (fun w => nb (by simp [w])) e) hf⟩
  self := fun A i s Q E st h => wpAny_pyIter_zip st.1 h
def iZipM (K : PySem.W.Frag) (ta : TA) : TI := fun σ H R => ta σ H fun vs H1 => ∃ p q a b xs ys, vs = [.ref a, .ref b] ∧ SqK p K H1 a xs ∧ SqK q K H1 b ys ∧ R (ItzM p q K a b) H1
theorem begK {p : Bool} {h : Heap} {a : Addr} {xs : Array Value} (k : IsK p h a xs) : ∃ o Hp', Begins (.ref a) o Hp' ∧ Hp' h ∧ ∀ h' it, h'.get? it = some o → ItK p h' it a 0 := by
  cases p
  · exact ⟨_, _, begins_tuple a xs, k, fun h' it e => ⟨_, e, rfl, rfl⟩⟩
  · exact ⟨_, _, begins_list a xs, k, fun h' it e => ⟨_, e, rfl, rfl⟩⟩
theorem pi_zipM {X : Cx} {e e2 : Expr} {ta : TA} {p pos tpos : Pos} {elts : List Expr} {kk : Nat} (hg : Gl X "zip") (hm : X.mg "zip" = none) (ha : PA X [e, e2] ta)
    (hs : starEach [e, e2] X.env = (false, eval e X.env) :: starEach [e2] X.env := by rfl) (hpl : (backTo pos (starEach [e2] X.env)).any (·.1) = false := by rfl) :
    PI X (.Tuple elts kk tpos) (.Call (.Name "zip" p) [e, e2] [] pos) (iZipM X.K ta) := by
  constructor
  intro pins s σ H R I h
  refine Call_ (ld_blt I hg hm PyProof.Rows.boot_zip (PyProof.Rows.callWith_type1 (thn (ha.run pos pins s σ H _ I h) fun us s1 ⟨vs, H1, I1, r1, q1⟩ => ?_) hs hpl))
  obtain ⟨k1, k2, a, b, xs, ys, ex, qx, qy, q⟩ := q1
  subst ex
  obtain ⟨u, v, rfl, ru, rv⟩ := Vals.two r1
  cases ru
  cases rv
  obtain ⟨i1, _, p1, lt1⟩ := sqk_is I1 qx
  obtain ⟨i2, _, p2, lt2⟩ := sqk_is I1 qy
  obtain ⟨o1, G1, B1, g1, w1⟩ := begK p1
  obtain ⟨o2, G2, B2, g2, w2⟩ := begK p2
  refine zip_begins2 B1 B2 g1 g2 fun h' hz hI hO e1 e2 hsz hk => wpAny_pyIter_zip hz ?_
  have I2 : Inv X pins σ H1 { s1 with heap := h' } := I1.kept (t' := s1.toks) hk
  refine ⟨s1.heap.objs.size + 4, [s1.heap.objs.size + 4, s1.heap.objs.size + 2, s1.heap.objs.size + 3, s1.heap.objs.size, s1.heap.objs.size + 1], _, _, H1, rfl, I2, turn_zipM (PySem.W.ktu_apart s1.heap.objs.size a b lt1 lt2), ⟨hz, hI, ⟨_, _, hO⟩, w1 _ _ e1, w2 _ _ e2⟩, fun c hcm => ?_, q⟩
  have hle : s1.heap.objs.size ≤ c := five (Pr := fun c => s1.heap.objs.size ≤ c) hcm (Nat.le_add_right _ _) (Nat.le_add_right _ _) (Nat.le_add_right _ _) (Nat.le_refl _) (Nat.le_add_right _ _)
  exact I1.fpOk hle (I1.hok.fresh hle)
end Z
set_option Elab.async false
set_option linter.all false
set_option maxRecDepth 100000
set_option maxHeartbeats 4000000
namespace Z
open PySem PySem.Spec PyProof.Rows L2
/-! ### (v,) * k for 0 ≤ k -/
theorem tmul0 (l : Addr) (v : Value) (n : Nat) (dd : Option Addr) (sl : Array (Option Value)) (u : Tok) :
    Meets (Builtin.«tuple.__mul__» ⟨[.ref l, .int 0 u], []⟩) (fun _ R s => s.heap.get? l = some { cls := .type "tuple", dict := dd, data := .seq #[v] n, slots := sl } ∧
      R (.ok (.ret (Value.ref s.heap.objs.size))) { s with heap := s.heap.push { cls := Value.type "tuple", data := Data.seq #[] }, toks := s.toks }) :=
  .of_wp fun prog w A R s h => by
    obtain ⟨hp, g, d, tk, os⟩ := s
    obtain ⟨hl, h⟩ := h
    have f1 := AutoSeq1.idx_int
    wp_walk using AutoSeq1.wpAny_loadPart' hl
    exact ⟨_, rfl, h⟩
theorem tmul1 (l : Addr) (items : Array Value) (n : Nat) (dd : Option Addr) (sl : Array (Option Value)) (u : Tok) :
    Meets (Builtin.«tuple.__mul__» ⟨[.ref l, .int 1 u], []⟩) (fun _ R s => s.heap.get? l = some { cls := .type "tuple", dict := dd, data := .seq items n, slots := sl } ∧ R (.ok (.ret (Value.ref l))) s) :=
  .of_wp fun prog w A R s h => by
    obtain ⟨hp, g, d, tk, os⟩ := s
    obtain ⟨hl, h⟩ := h
    have f1 := AutoSeq1.idx_int
    wp_walk using AutoSeq1.wpAny_loadPart' hl
    exact ⟨_, rfl, h⟩
theorem same_new {H : Hp} {p : Addr} {o : HO} (h : H p = none) : Same H (upd H p o) := fun b x e => by
  rw [upd_ne (ne_of_none e h)]
  exact e
def rRepU : R2 := fun x y H Q => ∃ l k v, x = .ref l ∧ y = .int k ∧ H l = some (.tup [v]) ∧ 0 ≤ k ∧ k ≤ 1000 ∧ ∀ p H', Same H H' → H' p = some (.tup (List.replicate k.toNat v)) → Q (.ref p) H'
theorem op_repU {X : Cx} : OpR X (binaryOp .Mult) rRepU := by
  intro pins s σ H x y vv uu Q I rx ry h
  obtain ⟨l, k, v, rfl, rfl, hT, h0, h1, q⟩ := id h
  by_cases k2 : 2 ≤ k
  · refine op_repT pins s σ H _ _ vv uu Q I rx ry ⟨l, k, [v], rfl, rfl, .inl (.inl hT), by simp, k2, h1, by simp, fun p np => q p _ (same_new np) ?_⟩
    rw [upd_same]
    congr 2
    generalize k.toNat = m
    induction m with
    | zero => rfl
    | succ m ih => rw [List.replicate_succ, List.flatten_cons, ih, List.replicate_succ]; rfl
  · cases rx
    obtain ⟨t, rfl⟩ := ry
    obtain ⟨its, r, ⟨⟨cls, dd, data, sl⟩, ho, hc, n, hd⟩, hs⟩ := I.tuple (.inl (.inl hT) : SqT X.K H l [v])
    simp only at hc hd
    subst hc hd
    obtain ⟨u, rfl, ru⟩ := Vals.one r
    by_cases k1 : k = 1
    · subst k1
      refine wpAny_binaryOp_repeat_ref (T := "tuple") (U := "int") (by decide) ⟨_, ho, rfl⟩ (fun s' => typeIs_int s' 1 t) noFill_tuple_mul F.fills_int_mul F.slot_int_rmul repeat_tuple F.slot_int_index.lookup
        (call_meets F.slot_int_rmul (typeIs_int s 1 t) F.entry_int_rmul (F.args_int_rmul_2 _ _) (int_rmul_tuple 1 t l [u].toArray n dd sl)
          ⟨ho, rfl, ⟨_, ho, rfl⟩, call_meets F.slot_tuple_mul ⟨_, ho, rfl⟩ F.entry_tuple_mul (F.args_tuple_mul_2 _ _) (tmul1 l [u].toArray n dd sl t) ⟨ho, ?_⟩⟩)
      exact ⟨.ref l, H, I, rfl, q l H (Same.refl H) hT⟩
    · have k0 : k = 0 := by omega
      subst k0
      refine wpAny_binaryOp_repeat_ref (T := "tuple") (U := "int") (by decide) ⟨_, ho, rfl⟩ (fun s' => typeIs_int s' 0 t) noFill_tuple_mul F.fills_int_mul F.slot_int_rmul repeat_tuple F.slot_int_index.lookup
        (call_meets F.slot_int_rmul (typeIs_int s 0 t) F.entry_int_rmul (F.args_int_rmul_2 _ _) (int_rmul_tuple 0 t l [u].toArray n dd sl)
          ⟨ho, rfl, ⟨_, ho, rfl⟩, call_meets F.slot_tuple_mul ⟨_, ho, rfl⟩ F.entry_tuple_mul (F.args_tuple_mul_2 _ _) (tmul0 l u n dd sl t) ⟨ho, ?_⟩⟩)
      refine ⟨.ref s.heap.objs.size, _, I.laid (t' := s.toks) (o := .tup []) (fun b ob z => Heap.get?_push_of_some _ z) (Nat.le_refl _) ?_, rfl, q _ _ (same_new (I.hok.fresh (Nat.le_refl _))) upd_same⟩
      exact ⟨Nat.zero_le _, [], .nil, IsTup.new _ _⟩
/-! ### loops and comprehensions over any iterator -/
def forW (J : It) (g : TG) (tb : TS) (D : Ends) (σ : L2.St) (H : Hp) : Prop := ∃ W : Nat → Nat → L2.St → Hp → Prop, (∃ m, W 0 m σ H) ∧ ∀ i m σ H, W i m σ H →
  (J.stop i H ∧ D.nx σ H) ∨ (J.go i H ∧ ∃ N : L2.St → Hp → Prop, (∀ σ' H', N σ' H' → ∃ m', m' < m ∧ W (i + 1) m' σ' H') ∧ ∀ x H', J.yld i H x H' → g x σ H' fun σ2 H2 => tb { D with nx := N, ct := N, bk := D.nx } σ2 H2)
theorem for_gen {J : It} {n : Nat} {g : TG} {tb : TS} {D : Ends} {σ : L2.St} {H : Hp} (Pv : Nat → L2.St → Hp → Prop) (h0 : Pv 0 σ H) (hgo : ∀ i σ H, i < n → Pv i σ H → J.go i H) (hst : ∀ σ H, Pv n σ H → J.stop n H)
    (hs : ∀ i σ H x H', i < n → Pv i σ H → J.yld i H x H' → g x σ H' fun σ2 H2 => tb { D with nx := Pv (i + 1), ct := Pv (i + 1), bk := D.nx } σ2 H2) (hd : ∀ σ H, Pv n σ H → D.nx σ H) : forW J g tb D σ H := by
  refine ⟨fun i m σ H => m = n - i ∧ i ≤ n ∧ Pv i σ H, ⟨n, by omega, Nat.zero_le _, h0⟩, fun i m σ H w => ?_⟩
  obtain ⟨rfl, hi, p⟩ := w
  by_cases hlt : i < n
  · exact .inr ⟨hgo i σ H hlt p, Pv (i + 1), fun σ' H' z => ⟨n - (i + 1), by omega, rfl, hlt, z⟩, fun x H' y => hs i σ H x H' hlt p y⟩
  · have e : i = n := by omega
    subst e
    exact .inl ⟨hst σ H p, hd σ H p⟩
def lcW (J : It) (g : TG) (tt : TT) (te : TE) (vs : List Nat) (σ : L2.St) (D : Addr) (Qd : Hp → Prop) (H1 : Hp) : Prop := ∃ W : Nat → Nat → Hp → Prop, (∃ m, W 0 m (upd H1 D (.lst []))) ∧ ∀ i m H, W i m H →
  (J.stop i H ∧ Qd H) ∨ (J.go i H ∧ ∃ Nx : Hp → Prop, (∀ H', Nx H' → ∃ m', m' < m ∧ W (i + 1) m' H') ∧ ∀ x H', J.yld i H x H' → g x (wipe σ vs) H' fun σ2 H2 => wipe σ2 vs = wipe σ vs ∧ tt σ2 H2 fun b H3 =>
    if b = true then te σ2 H3 fun y H4 => ∃ acc, H4 D = some (.lst acc) ∧ acc.length < sizeLine ∧ Nx (upd H4 D (.lst (acc ++ [y]))) else Nx H3)
theorem lc_gen {J : It} {n : Nat} {g : TG} {tt : TT} {te : TE} {vs : List Nat} {σ : L2.St} {H1 : Hp} {D : Addr} {Qd : Hp → Prop} (Pv : Nat → Hp → Prop) (h0 : Pv 0 (upd H1 D (.lst []))) (hgo : ∀ i H, i < n → Pv i H → J.go i H) (hst : ∀ H, Pv n H → J.stop n H)
    (hs : ∀ i H x H', i < n → Pv i H → J.yld i H x H' → g x (wipe σ vs) H' fun σ2 H2 => wipe σ2 vs = wipe σ vs ∧ tt σ2 H2 fun b H3 =>
      if b = true then te σ2 H3 fun y H4 => ∃ acc, H4 D = some (.lst acc) ∧ acc.length < sizeLine ∧ Pv (i + 1) (upd H4 D (.lst (acc ++ [y]))) else Pv (i + 1) H3) (hd : ∀ H, Pv n H → Qd H) : lcW J g tt te vs σ D Qd H1 := by
  refine ⟨fun i m H => m = n - i ∧ i ≤ n ∧ Pv i H, ⟨n, by omega, Nat.zero_le _, h0⟩, fun i m H w => ?_⟩
  obtain ⟨rfl, hi, p⟩ := w
  by_cases hlt : i < n
  · exact .inr ⟨hgo i H hlt p, Pv (i + 1), fun H' z => ⟨n - (i + 1), by omega, rfl, hlt, z⟩, fun x H' y => hs i H x H' hlt p y⟩
  · have e : i = n := by omega
    subst e
    exact .inl ⟨hst H p, hd H p⟩
/-! ### a def of the module that may be called by its name -/
structure Cal (P : Program) (w : World) (K : PySem.W.Frag) (mg : Str → Option Value) (base : Heap) (k : Nat) (x : Str) (sp : Sp) : Prop where
  ex : ∃ (f : Addr) (fd : FuncData) (ps : List Str), FnOk P w K mg base CX0 k f fd ps sp ∧ mg x = some (.ref f) ∧ PySem.W.keepIn K (.ref f) = true ∧ Binds K fd ps []
section
variable {X : Cx} {k j : Nat} {x : Str} {sp : Sp} {p pos : Pos} {e : Expr} {es : List Expr} {t : TA}
theorem pe_cl (c : Cal X.prog X.w X.K X.mg X.base k x sp) (hr : Room j X.A) (hk : k ≤ j) (hg : Gl X x) (ha : PA X (e :: es) t)
    (hdb : (x == ("__debug__" : Str)) = false := by decide) (he : starEach (e :: es) X.env = (false, eval e X.env) :: starEach es X.env := by rfl) (hpl : (backTo pos (starEach es X.env)).any (·.1) = false := by rfl) : PE X (.Call (.Name x p) (e :: es) [] pos) (tCall sp [] E0 t) := by
  obtain ⟨f, fd, ps, F, hm, kp, b⟩ := c.ex
  exact pe_call F (hr.mono hk) hg hm kp b .nil pass0 ha hdb he hpl
end
structure CalK (P : Program) (w : World) (K : PySem.W.Frag) (mg : Str → Option Value) (base : Heap) (k : Nat) (x : Str) (n : Nat) (ks : List Str) (gV : List V → List V → List V) (sp : Sp) : Prop where
  ex : ∃ (f : Addr) (fd : FuncData) (ps : List Str) (g : List Value → List Value → List Value), FnOk P w K mg base CX0 k f fd ps sp ∧ mg x = some (.ref f) ∧ PySem.W.keepIn K (.ref f) = true ∧ KBn K fd ps n ks g gV
section
variable {X : Cx} {k j n : Nat} {x : Str} {sp : Sp} {ks : List Str} {gV : List V → List V → List V} {p pos : Pos} {e : Expr} {es : List Expr} {kws : List Keyword} {t tk : TA}
theorem pe_clK (c : CalK X.prog X.w X.K X.mg X.base k x n ks gV sp) (hr : Room j X.A) (hk : k ≤ j) (hg : Gl X x) (ha : PA X (e :: es) t) (hkw : PK X kws tk)
    (hall : (backToKw pos (keywordEach kws X.env)).all (·.1.isSome) = true := by rfl) (hks : (backToKw pos (keywordEach kws X.env)).filterMap (·.1) = ks := by rfl) (hdb : (x == ("__debug__" : Str)) = false := by decide)
    (he : starEach (e :: es) X.env = (false, eval e X.env) :: starEach es X.env := by rfl) (hpl : ((backTo pos (starEach (e :: es) X.env)).any (·.1) || (backToKw pos (keywordEach kws X.env)).any (·.1.isNone)) = false := by rfl) :
    PE X (.Call (.Name x p) (e :: es) kws pos) (tCallN n ks.length sp gV E0 t tk) := by
  obtain ⟨f, fd, ps, g, F, hm, kp, b⟩ := c.ex
  exact pe_callN F (hr.mono hk) hg hm kp b pass0 ha hkw hall hks hdb he hpl
end
/-! ### heaps -/
/-- all but p stands -/
def SB (p : Addr) (H H' : Hp) : Prop := ∀ b o, b ≠ p → H b = some o → H' b = some o
theorem Same.sb {p : Addr} {H H' : Hp} (s : Same H H') : SB p H H' := fun b o _ h => s b o h
theorem SB.trans {p : Addr} {H H1 H2 : Hp} (a : SB p H H1) (b : SB p H1 H2) : SB p H H2 := fun c o n h => b c o n (a c o n h)
theorem SB.upd {p : Addr} {H H' : Hp} {o : HO} (s : SB p H H') : SB p H (upd H' p o) := fun b u n h => by
  rw [upd_ne n]
  exact s b u n h
theorem SB.same {p : Addr} {H H' : Hp} (s : SB p H H') (n : H p = none) : Same H H' := fun b o h => s b o (ne_of_none h n) h
theorem Same.mut {p : Addr} {H H' : Hp} {o : HO} (s : Same H H') (n : H p = none) : Same H (L2.upd H' p o) := fun b u h => by
  rw [upd_ne (ne_of_none h n)]
  exact s b u h
theorem SB.sq {K : PySem.W.Frag} {p a : Addr} {H H' : Hp} {xs : List V} (s : SB p H H') (n : a ≠ p) (h : SqL K H a xs) : SqL K H' a xs := by
  rcases h with (h | ⟨o, h⟩) | h
  · exact .inl (.inl (s _ _ n h))
  · exact .inl (.inr ⟨o, s _ _ n h⟩)
  · exact .inr h
theorem Same.sqT {K : PySem.W.Frag} {a : Addr} {H H' : Hp} {xs : List V} (s : Same H H') (h : SqT K H a xs) : SqT K H' a xs := by
  rcases h with (h | ⟨o, h⟩) | h
  · exact .inl (.inl (s _ _ h))
  · exact .inl (.inr ⟨o, s _ _ h⟩)
  · exact .inr h
theorem Same.sqK {b : Bool} {K : PySem.W.Frag} {a : Addr} {H H' : Hp} {xs : List V} (s : Same H H') (h : SqK b K H a xs) : SqK b K H' a xs := by
  cases b
  · exact Z.Same.sqT s h
  · exact s.seq h
theorem at_map {α : Type} {f : α → V} {xs : List α} {i : Nat} {x : α} (h : xs[i]? = some x) : atI (xs.map f) (i : Int) = some (f x) := atI_nat (by rw [List.getElem?_map, h]; rfl)
theorem of_map {α : Type} {f : α → V} {xs : List α} {i : Nat} {v : V} (h : (xs.map f)[i]? = some v) : ∃ x, xs[i]? = some x ∧ v = f x := by
  rw [List.getElem?_map] at h
  cases e : xs[i]? with
  | none => rw [e] at h; cases h
  | some x => rw [e] at h; exact ⟨x, rfl, (Option.some.inj h).symm⟩
end Z
set_option Elab.async false
set_option linter.all false
set_option maxRecDepth 100000
set_option maxHeartbeats 4000000
namespace Z
open PySem PySem.Spec PyProof.Rows L2
/-! ### data -/
def sqD (b : Bool) (ds : List PyData) : PyData := match b with
  | true => .list ds
  | false => .tuple ds
def intsD (b : Bool) (ns : List Int) : PyData := sqD b (ns.map PyData.int)
def matD (b : Bool) (rs : List (List Int)) : PyData := sqD b (rs.map (intsD b))
theorem dp_sq {b : Bool} {K : PySem.W.Frag} {H : Hp} {a : Addr} {xs : List V} {ds : List PyData} (h : SqK b K H a xs) (d : DpAll K H xs ds) : Dp K H (.ref a) (sqD b ds) := by
  cases b
  · exact .tup h d
  · exact .lst h d
theorem dpa_ints {K : PySem.W.Frag} {H : Hp} : ∀ ns : List Int, DpAll K H (ns.map V.int) (ns.map PyData.int)
  | [] => .nil
  | n :: r => .cons (.int n) (dpa_ints r)
theorem dp_ints {b : Bool} {K : PySem.W.Frag} {H : Hp} {a : Addr} {ns : List Int} (h : SqK b K H a (ns.map V.int)) : Dp K H (.ref a) (intsD b ns) := dp_sq h (dpa_ints ns)
/-- a matrix: a list (or tuple) of lists (or tuples) of ints, at ps -/
def Mat (b : Bool) (K : PySem.W.Frag) (H : Hp) (a : Addr) (ps : List Addr) (rs : List (List Int)) : Prop := SqK b K H a (ps.map V.ref) ∧ ps.length = rs.length ∧ ∀ (i : Nat) (p : Addr) (r : List Int), ps[i]? = some p → rs[i]? = some r → SqK b K H p (r.map V.int)
theorem Mat.mono {b : Bool} {K : PySem.W.Frag} {H H' : Hp} {a : Addr} {ps : List Addr} {rs : List (List Int)} (s : Same H H') (m : Mat b K H a ps rs) : Mat b K H' a ps rs := ⟨Z.Same.sqK s m.1, m.2.1, fun i p r h1 h2 => Z.Same.sqK s (m.2.2 i p r h1 h2)⟩
theorem dpa_mat {b : Bool} {K : PySem.W.Frag} {H : Hp} : ∀ (ps : List Addr) (rs : List (List Int)), ps.length = rs.length → (∀ (i : Nat) (p : Addr) (r : List Int), ps[i]? = some p → rs[i]? = some r → SqK b K H p (r.map V.int)) → DpAll K H (ps.map V.ref) (rs.map (intsD b))
  | [], [], _, _ => .nil
  | p :: ps, r :: rs, hl, h => .cons (dp_ints (h 0 p r rfl rfl)) (dpa_mat ps rs (by simpa using hl) fun i q s h1 h2 => h (i + 1) q s h1 h2)
theorem Mat.dp {b : Bool} {K : PySem.W.Frag} {H : Hp} {a : Addr} {ps : List Addr} {rs : List (List Int)} (m : Mat b K H a ps rs) : Dp K H (.ref a) (matD b rs) := dp_sq m.1 (dpa_mat ps rs m.2.1 m.2.2)
theorem lay_ints : ∀ ns : List Int, PyData.canLayAll0 (ns.map PyData.int) = true
  | [] => rfl
  | n :: r => by
    rw [List.map_cons, PyData.canLayAll0, lay_ints r]
    rfl
theorem dep_ints : ∀ ns : List Int, PyData.depthAll (ns.map PyData.int) = 0
  | [] => rfl
  | n :: r => by
    rw [List.map_cons, PyData.depthAll, dep_ints r]
    rfl
theorem shaped_ints (b : Bool) (ns : List Int) : SeqAt.shaped (intsD b ns) = true := by
  unfold SeqAt.shaped intsD
  cases b
  · show (PyData.canLayAll0 (ns.map PyData.int) && decide (PyData.depthAll (ns.map PyData.int) + 1 ≤ 64)) = true
    rw [lay_ints, dep_ints]
    rfl
  · show (PyData.canLayAll0 (ns.map PyData.int) && decide (PyData.depthAll (ns.map PyData.int) + 1 ≤ 64)) = true
    rw [lay_ints, dep_ints]
    rfl
theorem lay_mat (b : Bool) : ∀ rs : List (List Int), PyData.canLayAll0 (rs.map (intsD b)) = true
  | [] => rfl
  | n :: r => by
    rw [List.map_cons, PyData.canLayAll0, lay_mat b r, SeqAt.canLay_of_shaped (shaped_ints b n)]
    rfl
theorem dep_mat (b : Bool) : ∀ rs : List (List Int), PyData.depthAll (rs.map (intsD b)) ≤ 1
  | [] => Nat.zero_le _
  | n :: r => by
    rw [List.map_cons, PyData.depthAll]
    have h := dep_mat b r
    have h2 : (intsD b n).depth = 1 := by
      cases b
      · show PyData.depthAll (n.map PyData.int) + 1 = 1
        rw [dep_ints]
      · show PyData.depthAll (n.map PyData.int) + 1 = 1
        rw [dep_ints]
    omega
theorem shaped_mat (b : Bool) (rs : List (List Int)) : SeqAt.shaped (matD b rs) = true := by
  have h := dep_mat b rs
  unfold SeqAt.shaped matD
  cases b
  · show (PyData.canLayAll0 (rs.map (intsD false)) && decide (PyData.depthAll (rs.map (intsD false)) + 1 ≤ 64)) = true
    rw [lay_mat, decide_eq_true (by omega)]
    rfl
  · show (PyData.canLayAll0 (rs.map (intsD true)) && decide (PyData.depthAll (rs.map (intsD true)) + 1 ≤ 64)) = true
    rw [lay_mat, decide_eq_true (by omega)]
    rfl
theorem same2 {K : PySem.W.Frag} {H : Hp} {x y : V} {d : PyData} {R : PyData → PyData → Prop} (hx : Dp K H x d) (hy : Dp K H y d) (hs : SeqAt.shaped d = true) (q : R d d) : ∃ d' e', Dp K H x d' ∧ Dp K H y e' ∧ SeqAt.shaped d' = true ∧ SeqAt.shaped e' = true ∧ R d' e' := ⟨d, d, hx, hy, hs, hs, q⟩
theorem eqv_same {d : PyData} (hs : SeqAt.shaped d = true) : PyData.eqv d d = true := SeqAt.eqv_refl d (SeqAt.canLay_of_shaped hs)
/-! ### a target that is one of two kinds -/
def gOr (t u : TG) : TG := fun v σ H Q => t v σ H Q ∨ u v σ H Q
theorem pg_or {X : Cx} {e : Expr} {t u : TG} (h1 : PG X e t) (h2 : PG X e u) : PG X e (gOr t u) := by
  refine ⟨fun pins s σ H v uu Q I r hw => ?_⟩
  rcases hw with h | h
  · exact h1.run pins s σ H v uu Q I r h
  · exact h2.run pins s σ H v uu Q I r h
/-! ### isinstance of built-in kinds -/
theorem isi {K : PySem.W.Frag} {H : Hp} {x : V} {T c : String} {b : Bool} {R : Bool → Prop} (t : TyOf K H x (.type T)) (h : kitB T c = some b) (q : R b) : ∃ (x' c' : V) (t' u' : Value) (b' : Bool), [x, .ty c] = [x', c'] ∧ ClsV c' u' ∧ TyX K H x' t' ∧ PySem.W.kitOne K t' u' = some b' ∧ R b' :=
  ⟨x, .ty c, .type T, .type c, b, rfl, .ty c, .base t, kit_ty h, q⟩
/-! ### rules by the written part itself (within a comprehension's block) -/
section
variable {X : Cx} {K : PySem.W.Frag}
theorem ix_list_K (h : X.K = K) : IxR X (rIxL K) := by subst h; exact ix_list
theorem ix_tup_K (h : X.K = K) : IxR X (rIxT K) := by subst h; exact ix_tup
theorem ix_seq_K (h : X.K = K) : IxR X (rIx K) := by subst h; exact ix_seq
theorem call_len_seq_K (h : X.K = K) : CallR X (.builtin "len") (fun xs H Q => ∃ p ys, xs = [.ref p] ∧ (SqL K H p ys ∨ SqT K H p ys) ∧ Q (.int ys.length) H) := by subst h; exact call_len_seq
theorem call_list_of_K (h : X.K = K) : CallR X (.type "list") (fun xs H Q => ∃ p ys, xs = [.ref p] ∧ (SqL K H p ys ∨ SqT K H p ys) ∧ ∀ l, H l = none → Q (.ref l) (upd H l (.lst ys))) := by subst h; exact call_list_of
theorem call_tuple_of_K (h : X.K = K) : CallR X (.type "tuple") (fun xs H Q => ∃ p ys, xs = [.ref p] ∧ ((SqL K H p ys ∧ ∀ l, H l = none → Q (.ref l) (upd H l (.tup ys))) ∨ (SqT K H p ys ∧ Q (.ref p) H))) := by subst h; exact call_tuple_of
theorem op_in_seq_K (h : X.K = K) : OpR X (compareOp .In) (rIn K false) := by subst h; exact op_in_seq
theorem op_notIn_seq_K (h : X.K = K) : OpR X (compareOp .NotIn) (rIn K true) := by subst h; exact op_notIn_seq
theorem op_eqD_K (h : X.K = K) (hu : X.A.units + 64 < cLine) : OpR X (compareOp .Eq) (rEqD K) := by subst h; exact op_eqD hu
theorem op_neD_K (h : X.K = K) (hu : X.A.units + 64 < cLine) : OpR X (compareOp .NotEq) (rNeD K) := by subst h; exact op_neD hu
theorem call_isi_K (h : X.K = K) : CallR X (.builtin "isinstance") (rIsi K) := by subst h; exact call_isi
end
/-! ### great products -/
theorem big_mul {i j : Int} (hi : i.natAbs < 2 ^ 4000) (hj : j.natAbs < 2 ^ 4000) : CMulX i j := mulx_ok hi hj (by decide)
/-! ### sums of multiples of rows -/
def combN (rs : List (List Int)) (fs : List Int) (w : Nat) : Nat → List Int
  | 0 => List.replicate w 0
  | n + 1 => List.zipWith (fun a b => a + fs.getD n 0 * b) (combN rs fs w n) (rs.getD n [])
theorem combN_len {rs : List (List Int)} {fs : List Int} {w : Nat} (h : ∀ r ∈ rs, r.length = w) : ∀ n, n ≤ rs.length → (combN rs fs w n).length = w
  | 0, _ => List.length_replicate
  | n + 1, hn => by
    rw [combN, List.length_zipWith, combN_len h n (by omega), List.getD_eq_getElem?_getD, List.getElem?_eq_getElem (by omega), Option.getD_some, h _ (List.getElem_mem _)]
    omega
theorem combN_at {rs : List (List Int)} {fs : List Int} {w i c : Nat} (hi : i < rs.length) (hf : i < fs.length) (c1 : c < (combN rs fs w i).length) (c2 : c < rs[i].length) : (combN rs fs w (i + 1))[c]? = some ((combN rs fs w i)[c] + fs[i] * rs[i][c]) := by
  have g1 : fs.getD i 0 = fs[i] := by rw [List.getD_eq_getElem?_getD, List.getElem?_eq_getElem hf]; rfl
  have g2 : rs.getD i [] = rs[i] := by rw [List.getD_eq_getElem?_getD, List.getElem?_eq_getElem hi]; rfl
  rw [combN, List.getElem?_zipWith, g1, g2, List.getElem?_eq_getElem c1, List.getElem?_eq_getElem c2]
end Z
set_option Elab.async false
set_option linter.all false
set_option maxRecDepth 100000
set_option maxHeartbeats 4000000
namespace Z
open PySem PySem.Spec PyProof.Rows L2
open C8 (pss_cut tCut)
local macro_rules | `(tactic| walk_at "num") => `(tactic| first | omega | decide | exact ⟨by omega, by omega⟩ | exact ⟨by omega, by omega, by omega⟩ | exact ⟨by decide, by decide, by decide⟩ | exact Or.inl ⟨by omega, by omega⟩ | exact Or.inr ⟨by omega, by omega⟩)
local macro_rules | `(tactic| walk_at "go") => `(tactic| repeat (first | refine ⟨_, rfl, ?_⟩ | refine ⟨_, _, rfl, rfl, ?_⟩ | refine ⟨_, _, rfl, rfl, (by walk_at "num"), ?_⟩ | refine Or.inl ⟨_, rfl, ?_⟩ | refine ⟨rfl, ?_⟩ | refine And.intro (by walk_at "num") ?_))
def topS (i : Nat) : Stmt := PySem.Challenge.pw_signedpacts_k49_four_duties.main.body.getD i (.Pass ⟨0, 0, 0, 0⟩)
abbrev s_cell : Stmt := topS 38
abbrev N_cell : List Str := ["_law_script", "_law_k"]
abbrev P_cell : List Str := ["_law_script", "_law_k"]
theorem sc_cell : FnScope N_cell P_cell (defScope s_cell) := ⟨rfl, rfl, rfl, by decide +kernel, rfl, by decide +kernel, by decide +kernel⟩
abbrev s_draws : Stmt := topS 39
abbrev N_draws : List Str := ["_law_cell_here", "_law_many", "_law_rest", "_law_large", "_law_seed", "_law_found", "_law_k"]
abbrev P_draws : List Str := ["_law_cell_here", "_law_many"]
theorem sc_draws : FnScope N_draws P_draws (defScope s_draws) := ⟨rfl, rfl, rfl, by decide +kernel, rfl, by decide +kernel, by decide +kernel⟩
abbrev s_take : Stmt := topS 40
abbrev N_take : List Str := ["_law_draws_here", "_law_place"]
abbrev P_take : List Str := ["_law_draws_here", "_law_place"]
theorem sc_take : FnScope N_take P_take (defScope s_take) := ⟨rfl, rfl, rfl, by decide +kernel, rfl, by decide +kernel, by decide +kernel⟩
abbrev FnP (K : PySem.W.Frag) (x : Str) (st : Stmt) (f : Addr) (fd : FuncData) : Prop := FunD K x x (defArgs st) (defBody st) (defScope st) [] [] f fd
section
variable {P : Program} {w : World} {K : PySem.W.Frag} {mg : Str → Option Value} {base : Heap} {f : Addr} {fd : FuncData}
theorem cal_of {k : Nat} {x : Str} {st : Stmt} {ps : List Str} {sp : Sp} (F : FnP K x st f fd) (g : mg x = some (.ref f)) (b : Binds K fd ps []) (h : FnOk P w K mg base CX0 k f fd ps sp) : Cal P w K mg base k x sp := ⟨f, fd, ps, h, g, F.kp, b⟩
/-! ### _law_cell -/
def spCell (K : PySem.W.Frag) : Sp := fun vs H Q _ => ∃ (a : Addr) (ns : List Int) (k : Nat), vs = [.ref a, .int (k : Int)] ∧ SqL K H a (ns.map V.int) ∧ Q (.int (ns.getD k 0)) H
theorem ok_cell (F : FnP K "_law_cell" s_cell f fd) (m_len : mg "len" = none) (m_int : mg "int" = none) : FnOk P w K mg base CX0 1 f fd P_cell (spCell K) := by
  refine F.ok sc_cell (fun vs H Q E h => ?_) (fun cdv A outer s H vs Q E hr h => ?_)
  · obtain ⟨a, ns, k, rfl, _⟩ := h
    rfl
  · obtain ⟨a, ns, k, rfl, hS, q⟩ := h
    refine ⟨_, PSs.nox (pss_cons (ps_if (pt_cmpR op_lt (pv 1) (pe_callB call_len_seq (by rfl) m_len PySem.boot_len (pa_cons (pv 0) pa_nil)) (nomark _)) (pss_one (ps_ret (pe_callTy call_int1 (by rfl) m_int (by decide +kernel) (pa_cons (pe_ix ix_list (pv 0) (pv 1) (fun _ _ => rfl)) pa_nil)))) pss_nil)
      (pss_one (ps_ret pe_int))), ?_⟩
    walk_at "go"
    refine ⟨a, _, rfl, .inl hS, ?_⟩
    walk_at "go"
    rw [List.length_map]
    refine ite2 (fun e => ?_) (fun e => ?_)
    · have hk : k < ns.length := by have := of_decide_eq_true e; omega
      walk_at "go"
      refine ⟨a, _, _, _, rfl, rfl, hS, at_map (List.getElem?_eq_getElem hk), ?_⟩
      walk_at "go"
      rw [List.getD_eq_getElem?_getD, List.getElem?_eq_getElem hk] at q
      exact q
    · have hk : ¬ k < ns.length := fun z => e (decide_eq_true (by omega))
      rw [List.getD_eq_getElem?_getD, List.getElem?_eq_none (by omega)] at q
      exact q
/-! ### _law_draws -/
def Dr (n : Nat) (ds : List Int) : Prop := ds.length = n ∧ ∀ d ∈ ds, 0 ≤ d ∧ d < 1000000
def spDraws : Sp := fun vs H Q _ => ∃ (c : Int) (n : Nat), vs = [.int c, .int (n : Int)] ∧ n ≤ 100000 ∧ ∀ p ds, H p = none → Dr n ds → Q (.ref p) (upd H p (.lst (ds.map V.int)))
theorem ok_draws (F : FnP K "_law_draws" s_draws f fd) (m_int : mg "int" = none) (m_abs : mg "abs" = none) (m_range : mg "range" = none) : FnOk P w K mg base CX0 1 f fd P_draws spDraws := by
  refine F.ok sc_draws (fun vs H Q E h => ?_) (fun cdv A outer s H vs Q E hr h => ?_)
  · obtain ⟨c, n, rfl, _⟩ := h
    rfl
  · obtain ⟨c, n, rfl, hn, q⟩ := h
    refine ⟨_, PSs.nox (pss_cons (ps_set (i := 2) sc_draws.nd rfl (by first | exact .inl rfl | exact .inr rfl) (pe_callB call_abs (by rfl) m_abs (by decide +kernel) (pa_cons (pe_callTy call_int1 (by rfl) m_int (by decide +kernel) (pa_cons (pv 0) pa_nil)) pa_nil)))
      (pss_cons (ps_set (i := 3) sc_draws.nd rfl (by first | exact .inl rfl | exact .inr rfl) (pe_cmpR op_ge (pv 2) (pe_op op_pow pe_int pe_int) (nomark _)))
      (pss_cons (ps_set (i := 4) sc_draws.nd rfl (by first | exact .inl rfl | exact .inr rfl) (pe_op op_mod (pe_callTy call_int1 (by rfl) m_int (by decide +kernel) (pa_cons (pv 2) pa_nil)) pe_int))
      (pss_cons (ps_set (i := 5) sc_draws.nd rfl (by first | exact .inl rfl | exact .inr rfl) (pe_lst pa_nil))
      (pss_cons (ps_for PassesOwn.never rfl (pi_range1 (by rfl) m_range (pa_cons (pv 1) pa_nil)) (pg_name (i := 6) sc_draws.nd rfl (by first | exact .inl rfl | exact .inr rfl))
        (pss_cons (ps_set (i := 4) sc_draws.nd rfl (by first | exact .inl rfl | exact .inr rfl) (pe_op op_mod (pe_callTy call_int1 (by rfl) m_int (by decide +kernel) (pa_cons (pe_op op_add (pe_op op_add (pe_op op_mul (pv 4) pe_int) (pe_op op_mul pe_int (pv 6))) pe_int) pa_nil)) pe_int))
      (pss_one (ps_if (PW.pt (pw_and (pt_val (pv 3)) (pw_and1 (pt_cmpR op_gt (pv 2) pe_int (nomark _))))) (pss_cons (ps_expr (pe_bm PySem.F.plainAttrs_list PySem.F.slot_list_append PySem.F.type_list_append mt_append (pv 5) (pa_cons (pe_op op_mod (pe_callTy call_int1 (by rfl) m_int (by decide +kernel) (pa_cons (pv 2) pa_nil)) pe_int) pa_nil)))
      (pss_one (ps_set (i := 2) sc_draws.nd rfl (by first | exact .inl rfl | exact .inr rfl) (pe_op op_fdiv (pv 2) pe_int)))) (pss_one (ps_expr (pe_bm PySem.F.plainAttrs_list PySem.F.slot_list_append PySem.F.type_list_append mt_append (pv 5) (pa_cons (pe_op op_mod (pe_callTy call_int1 (by rfl) m_int (by decide +kernel) (pa_cons (pe_op op_fdiv (pe_op op_mod (pe_callTy call_int1 (by rfl) m_int (by decide +kernel) (pa_cons (pe_op op_add (pe_op op_mul (pv 4) pe_int) (pe_op op_mul pe_int (pv 6))) pa_nil)) pe_int) pe_int) pa_nil)) pe_int) pa_nil))))))))
      (pss_one (ps_ret (pv 5)))))))), ?_⟩
    walk_at "go"
    intro p np
    walk_at "go"
    refine for_gen (n := n) (fun i σ H1 => ∃ (r : Int) (z : Int) (ds : List Int) (v : Option V), 0 ≤ r ∧ 0 ≤ z ∧ z < 2147483647 ∧ Dr i ds ∧ H1 = upd H p (.lst (ds.map V.int)) ∧
      σ = [some (.int c), some (.int (n : Int)), some (.int r), some (.bl (decide ((10 : Int) ^ 18 ≤ (if c < 0 then -c else c)))), some (.int z), some (.ref p), v]) ?_ ?_ ?_ ?_ ?_
    · refine ⟨_, _, [], none, ?_, ?_, ?_, ⟨rfl, fun d hd => nomatch hd⟩, rfl, rfl⟩
      · split <;> omega
      · omega
      · omega
    · intro i σ H1 hi _
      show i < (n : Int).toNat
      omega
    · intro σ H1 _
      show (n : Int).toNat ≤ n
      omega
    · rintro i σ H1 x H' hi ⟨r, z, ds, v, hr0, hz0, hz1, hd, rfl, rfl⟩ ⟨rfl, rfl⟩
      have hlen : (ds.map V.int).length < sizeLine := by
        rw [List.length_map, hd.1]
        exact Nat.lt_of_lt_of_le hi (Nat.le_trans hn (by decide))
      have fin : ∀ (r' z' d : Int) (u : Option V), 0 ≤ r' → 0 ≤ z' → z' < 2147483647 → 0 ≤ d → d < 1000000 → ∃ (r : Int) (z : Int) (es : List Int) (v : Option V), 0 ≤ r ∧ 0 ≤ z ∧ z < 2147483647 ∧ Dr (i + 1) es ∧ upd (upd H p (.lst (ds.map V.int))) p (.lst (ds.map V.int ++ [.int d])) = upd H p (.lst (es.map V.int)) ∧
          [some (.int c), some (.int (n : Int)), some (.int r'), some (.bl (decide ((10 : Int) ^ 18 ≤ (if c < 0 then -c else c)))), some (.int z'), some (.ref p), u] = [some (.int c), some (.int (n : Int)), some (.int r), some (.bl (decide ((10 : Int) ^ 18 ≤ (if c < 0 then -c else c)))), some (.int z), some (.ref p), v] := by
        intro r' z' d u a1 a2 a3 a4 a5
        refine ⟨r', z', ds ++ [d], u, a1, a2, a3, ⟨by rw [List.length_append, hd.1]; rfl, fun x hx => ?_⟩, ?_, rfl⟩
        · rcases List.mem_append.mp hx with h | h
          · exact hd.2 x h
          · rw [List.mem_singleton.mp h]
            exact ⟨a4, a5⟩
        · rw [upd_upd, List.map_append]
          rfl
      walk_at "go"
      refine ite2 (fun e => ?_) (fun e => ?_)
      · walk_at "go"
        refine ite2 (fun e2 => ?_) (fun e2 => ?_)
        · walk_at "go"
          refine ⟨.inl ⟨rfl, _, .inl (.inl upd_same)⟩, ?_⟩
          walk_at "go"
          refine ⟨_, _, _, rfl, rfl, upd_same, hlen, ?_⟩
          walk_at "go"
          exact fin _ _ _ _ (by omega) (by omega) (by omega) (by omega) (by omega)
        · walk_at "go"
          refine ⟨.inl ⟨rfl, _, .inl (.inl upd_same)⟩, ?_⟩
          walk_at "go"
          refine ⟨_, _, _, rfl, rfl, upd_same, hlen, ?_⟩
          walk_at "go"
          exact fin _ _ _ _ (by omega) (by omega) (by omega) (by omega) (by omega)
      · walk_at "go"
        refine ⟨.inl ⟨rfl, _, .inl (.inl upd_same)⟩, ?_⟩
        walk_at "go"
        refine ⟨_, _, _, rfl, rfl, upd_same, hlen, ?_⟩
        walk_at "go"
        exact fin _ _ _ _ (by omega) (by omega) (by omega) (by omega) (by omega)
    · rintro σ H1 ⟨r, z, ds, v, hr0, hz0, hz1, hd, rfl, rfl⟩
      walk_at "go"
      exact q p ds np hd
/-! ### _law_take -/
def spTake (K : PySem.W.Frag) : Sp := fun vs H Q _ => ∃ (a p : Addr) (n m : Nat) (ds : List Int), vs = [.ref a, .ref p] ∧ SqL K H a (ds.map V.int) ∧ Dr n ds ∧ H p = some (.lst [.int (m : Int)]) ∧ a ≠ p ∧ ∀ r : Int, 0 ≤ r → r < 1000000 → Q (.int r) (upd H p (.lst [.int ((m + 1 : Nat) : Int)]))
theorem ok_take (F : FnP K "_law_take" s_take f fd) (m_len : mg "len" = none) : FnOk P w K mg base CX0 1 f fd P_take (spTake K) := by
  refine F.ok sc_take (fun vs H Q E h => ?_) (fun cdv A outer s H vs Q E hr h => ?_)
  · obtain ⟨a, p, n, m, ds, rfl, _⟩ := h
    rfl
  · obtain ⟨a, p, n, m, ds, rfl, hS, hd, hp, ne, q⟩ := h
    refine ⟨_, PSs.nox (pss_cons (ps_asg (pe_op op_add (pe_ix ix_list (pv 1) pe_int (fun _ _ => rfl)) pe_int) (pg_sub (pv 1) pe_int set_list))
      (pss_cons (ps_if (pt_cmpR op_gt (pe_ix ix_list (pv 1) pe_int (fun _ _ => rfl)) (pe_callB call_len_seq (by rfl) m_len PySem.boot_len (pa_cons (pv 0) pa_nil)) (nomark _)) (pss_one (ps_ret pe_int)) pss_nil)
      (pss_one (ps_ret (pe_ix ix_list (pv 0) (pe_op op_sub (pe_ix ix_list (pv 1) pe_int (fun _ _ => rfl)) pe_int) (fun _ _ => rfl)))))), ?_⟩
    have sb : SB p H (upd H p (.lst [.int ((m + 1 : Nat) : Int)])) := SB.upd (Z.Same.sb (Same.refl H))
    have hS' := sb.sq ne hS
    walk_at "go"
    refine ⟨p, _, 0, _, rfl, rfl, SqL.of hp, rfl, ?_⟩
    walk_at "go"
    refine ⟨p, _, 0, 0, rfl, rfl, hp, rfl, ?_⟩
    show tSeq _ _ _ _ (upd H p (.lst [.int ((m : Int) + 1)]))
    rw [show ((m : Int) + 1) = ((m + 1 : Nat) : Int) by omega]
    walk_at "go"
    refine ⟨p, _, 0, _, rfl, rfl, SqL.of upd_same, rfl, ?_⟩
    walk_at "go"
    refine ⟨a, _, rfl, .inl hS', ?_⟩
    walk_at "go"
    rw [List.length_map]
    refine ite2 (fun e => ?_) (fun e => ?_)
    · exact q 0 (by omega) (by omega)
    · have hk : m < ds.length := by
        apply Decidable.byContradiction
        intro z
        exact e (decide_eq_true (by omega))
      walk_at "go"
      refine ⟨p, _, 0, _, rfl, rfl, SqL.of upd_same, rfl, ?_⟩
      walk_at "go"
      refine ⟨a, _, _, _, rfl, rfl, hS', at_of (by omega) (show (ds.map V.int)[m]? = some (.int ds[m]) by rw [List.getElem?_map, List.getElem?_eq_getElem hk]; rfl), ?_⟩
      have h1 := hd.2 ds[m] (List.getElem_mem hk)
      exact q _ h1.1 h1.2
end
end Z
set_option Elab.async false
set_option linter.all false
set_option maxRecDepth 100000
set_option maxHeartbeats 4000000
namespace Z
open PySem PySem.Spec PyProof.Rows L2
/-! ### own classes: making, methods, calls of instances, == -/
structure Mak (P : Program) (w : World) (K : PySem.W.Frag) (mg : Str → Option Value) (base : Heap) (k : Nat) (x : Str) (sp : Sp) : Prop where
  ex : ∃ (C f : Addr) (fd : FuncData) (ps : List Str) (si : Sp), Mk K C f ∧ FnOk P w K mg base CX0 k f fd ps si ∧ mg x = some (.ref C) ∧ Binds K fd ps [] ∧
    ∀ vs H Q E, sp vs H Q E → ∀ n dx, H n = none → H dx = none → dx ≠ n → si (.ref n :: vs) (upd (upd H dx (.own n)) n (.ins C dx [])) (fun v H2 => v = .non ∧ Q (.ref n) H2) E
structure Met (P : Program) (w : World) (K : PySem.W.Frag) (mg : Str → Option Value) (base : Heap) (k : Nat) (C : Addr) (m : Str) (sp : Sp) : Prop where
  ex : ∃ (f : Addr) (fd : FuncData) (ps : List Str), Cls K C ∧ Meth K C m f ∧ FnOk P w K mg base CX0 k f fd ps sp ∧ Binds K fd ps []
section
variable {X : Cx} {k j : Nat} {x m : Str} {sp : Sp} {C : Addr} {p pos apos : Pos} {e o : Expr} {es : List Expr} {t : TA} {ta : TE}
theorem pe_mk (c : Mak X.prog X.w X.K X.mg X.base k x sp) (hr : Room j X.A) (hk : k + 1 ≤ j) (hg : Gl X x) (ha : PA X (e :: es) t)
    (hdb : (x == ("__debug__" : Str)) = false := by decide) (he : starEach (e :: es) X.env = (false, eval e X.env) :: starEach es X.env := by rfl) (hpl : (backTo pos (starEach es X.env)).any (·.1) = false := by rfl) : PE X (.Call (.Name x p) (e :: es) [] pos) (tCall sp [] E0 t) := by
  obtain ⟨C, f, fd, ps, si, M, F, hm, b, imp⟩ := c.ex
  constructor
  intro pins s σ H Q I h
  refine wpAny_Call_Name_kw (ld_glob I hg hm ?_ hdb)
  refine PySem.W.callWith_K (h₀ := X.base) I.ok.mod.kin M.kp (thn (ha.run pos pins s σ H _ I h) fun us s1 ⟨vs, H1, I1, r, q⟩ => ⟨I1.kIn, ?_⟩) he hpl
  have q2 : sp vs H1 Q E0 := by
    have z : sp (vs ++ []) H1 Q E0 := q
    rw [List.append_nil] at z
    exact z
  refine run_make (dvs := []) M F (hr.mono hk) b .nil pass0 I1 r (fun n dx n1 n2 n3 => ?_)
  rw [List.append_nil]
  exact imp _ _ _ _ q2 n dx n1 n2 n3
theorem pe_me {pl : Sem Bool} (c : Met X.prog X.w X.K X.mg X.base k C m sp) (he : PE X o ta) (hr : Room j X.A) (hk : k ≤ j) (ha : PA X (e :: es) t)
    (hst : starEach (e :: es) X.env = (false, eval e X.env) :: starEach es X.env := by rfl) (hpl : (backTo pos (starEach es X.env)).any (·.1) = false := by rfl)
    (ht : eval (.Call (.Attribute o m apos) (e :: es) [] pos) X.env = (do
      let ov ← eval o X.env
      standAt apos.atName
      let (f, first) ← holding [ov] (getMethod ov m pl)
      callWith pos f first (backTo pos (starEach (e :: es) X.env)) (backToKw pos (keywordEach [] X.env))) := by rfl) : PE X (.Call (.Attribute o m apos) (e :: es) [] pos) (tMeth C m sp [] E0 ta t) := by
  obtain ⟨f, fd, ps, cl, me, F, b⟩ := c.ex
  exact pe_meth he cl me F (hr.mono hk) b .nil pass0 ha hst hpl ht
theorem pe_me0 {pl : Sem Bool} (c : Met X.prog X.w X.K X.mg X.base k C m sp) (he : PE X o ta) (hr : Room j X.A) (hk : k ≤ j)
    (ht : eval (.Call (.Attribute o m apos) [] [] pos) X.env = (do
      let ov ← eval o X.env
      standAt apos.atName
      let (f, first) ← holding [ov] (getMethod ov m pl)
      callWith pos f first (backTo pos (starEach [] X.env)) (backToKw pos (keywordEach [] X.env))) := by rfl) : PE X (.Call (.Attribute o m apos) [] [] pos) (tMeth C m sp [] E0 ta tNil) := by
  obtain ⟨f, fd, ps, cl, me, F, b⟩ := c.ex
  exact pe_meth0 he cl me F (hr.mono hk) b .nil pass0 ht
end
/-! ### f(e, ..), f an instance of C -/
structure Cob (P : Program) (w : World) (K : PySem.W.Frag) (mg : Str → Option Value) (base : Heap) (k : Nat) (C : Addr) (sp : Sp) : Prop where
  ex : ∃ g : Addr, StX.CallO K C g ∧ FnR P w K mg base CX0 k g sp
def tCo (C : Addr) (sp : Sp) (tf : TE) (t : TA) : TE := fun σ H Q => tf σ H fun y H1 => ∃ a, y = V.ref a ∧ t σ H1 fun vs H2 => (∃ dx fs, H2 a = some (.ins C dx fs)) ∧ sp (V.ref a :: vs) H2 Q E0
section
variable {X : Cx} {k j : Nat} {sp : Sp} {C : Addr} {pos : Pos} {e fe : Expr} {es : List Expr} {t : TA} {tf : TE}
theorem pe_co (c : Cob X.prog X.w X.K X.mg X.base k C sp) (hf : PE X fe tf) (hr : Room j X.A) (hk : k ≤ j) (ha : PA X (e :: es) t)
    (ht : eval (.Call fe (e :: es) [] pos) X.env = (do callWith pos (← eval fe X.env) [] (backTo pos (starEach (e :: es) X.env)) (backToKw pos (keywordEach [] X.env))) := by rfl)
    (he : starEach (e :: es) X.env = (false, eval e X.env) :: starEach es X.env := by rfl) (hpl : (backTo pos (starEach es X.env)).any (·.1) = false := by rfl) : PE X (.Call fe (e :: es) [] pos) (tCo C sp tf t) := by
  obtain ⟨g, co, F⟩ := c.ex
  constructor
  intro pins s σ H Q I h
  refine Call_ (thn (hf.run pins s σ H _ I h) fun u s1 ⟨y, H1, I1, ry, a, ey, q⟩ => ?_) ht
  subst ey
  obtain rfl : u = Value.ref a := ry
  refine StX.callO_with (thn (ha.run pos pins s1 σ H1 _ I1 q) fun us s2 ⟨vs, H2, I2, r, hi, q2⟩ => ?_) he hpl
  have hi2 : StX.InsC X H2 a C := .inr hi
  obtain ⟨ox, od, J, hd⟩ := StX.insC_at I2 hi2
  exact ⟨⟨C, ox, od, J, hd⟩, StX.run_callO co F (hr.mono hk) pass0 I2 hi2 r q2⟩
end
/-! ### a == b by the class's own __eq__ -/
structure Eqo (P : Program) (w : World) (K : PySem.W.Frag) (mg : Str → Option Value) (base : Heap) (k : Nat) (C : Addr) (sp : Sp) : Prop where
  ex : ∃ (f : Addr) (fd : FuncData) (ps : List Str), FnOk P w K mg base CX0 k f fd ps sp ∧ PySem.W.findIn K (.ref C) "__eq__" = some (some (.ref f)) ∧ PySem.W.isFn K (.ref f) = true ∧ Binds K fd ps []
def rOwn (C : Addr) (sp : Sp) : R2 := fun x y H Q => ∃ a b dx dy fs gs, x = .ref a ∧ y = .ref b ∧ H a = some (.ins C dx fs) ∧ H b = some (.ins C dy gs) ∧ sp [.ref a, .ref b] H (fun v H' => ∃ r, v = .bl r ∧ Q v H') E0
theorem op_own {X : Cx} {k j : Nat} {C : Addr} {sp : Sp} (c : Eqo X.prog X.w X.K X.mg X.base k C sp) (hr : Room j X.A) (hk : k ≤ j) : OpR X (compareOp .Eq) (rOwn C sp) := by
  intro pins s σ H x y v u Q I rx ry hq
  obtain ⟨f, fd, ps, F, hs, hf, hb⟩ := c.ex
  obtain ⟨a, b, dx, dy, fs, gs, rfl, rfl, ha, hb', q⟩ := hq
  cases rx
  cases ry
  obtain ⟨mA, J, _⟩ := ins_get I.hok ha
  obtain ⟨mB, J', _⟩ := ins_get I.hok hb'
  obtain ⟨od, J, _⟩ := J.look
  obtain ⟨od', J', _⟩ := J'.look
  obtain ⟨m, hF⟩ := I.fr
  show wpAny (model X.prog X.w) X.A (richCompare .Eq (Value.ref a) (Value.ref b)) (EP X pins σ Q) X.xe s
  refine PySem.W.cmp_K (op := .Eq) (tb := .ref C) (hr.mono hk).units0 hF I.ok.mod.kin J J'.type (by simp [PySem.W.notFirst]) hs hf ?_
  have r2 : Vals [V.ref a, V.ref b] [Value.ref a, Value.ref b] := .cons rfl (.cons rfl .nil)
  refine thn (run_fn (dvs := []) F (hr.mono hk) hb .nil pass0 I r2 q) fun r s' z => ?_
  obtain ⟨v, H', I', rv, b', rfl, q'⟩ := z
  cases rv
  exact ⟨.bl b', H', I', rfl, q'⟩
end Z
set_option linter.all false
set_option maxRecDepth 100000
set_option maxHeartbeats 4000000
namespace Z
open PySem PySem.Spec PyProof.Rows L2
/-! ### dicts whose keys are tuples of ints, texts, None, bools and such tuples; the values are ints -/
mutual
inductive NkV (H : Hp) : NestedKey → V → Prop
  | none : NkV H .none .non
  | bl (b : Bool) : NkV H (.num (if b = true then 1 else 0)) (.bl b)
  | int (i : Int) : NkV H (.num i) (.int i)
  | str (x : Str) : NkV H (.text x) (.str x)
  | tup {a : Addr} {ks : List NestedKey} {vs : List V} : H a = some (.tup vs) → NkA H ks vs → NkV H (.tup ks) (.ref a)
inductive NkA (H : Hp) : List NestedKey → List V → Prop
  | nil : NkA H [] []
  | cons {k : NestedKey} {v : V} {ks : List NestedKey} {vs : List V} : NkV H k v → NkA H ks vs → NkA H (k :: ks) (v :: vs)
end
mutual
theorem NkV.mono {H H' : Hp} (s : Same H H') : ∀ {k : NestedKey} {v : V}, NkV H k v → NkV H' k v
  | _, _, .none => .none
  | _, _, .bl b => .bl b
  | _, _, .int i => .int i
  | _, _, .str x => .str x
  | _, _, .tup e t => .tup (s _ _ e) (NkA.mono s t)
theorem NkA.mono {H H' : Hp} (s : Same H H') : ∀ {ks : List NestedKey} {vs : List V}, NkA H ks vs → NkA H' ks vs
  | _, _, .nil => .nil
  | _, _, .cons x t => .cons (NkV.mono s x) (NkA.mono s t)
end
mutual
theorem NkV.keepT {H H' : Hp} (s : ∀ c vs, H c = some (.tup vs) → H' c = some (.tup vs)) : ∀ {k : NestedKey} {v : V}, NkV H k v → NkV H' k v
  | _, _, .none => .none
  | _, _, .bl b => .bl b
  | _, _, .int i => .int i
  | _, _, .str x => .str x
  | _, _, .tup e t => .tup (s _ _ e) (NkA.keepT s t)
theorem NkA.keepT {H H' : Hp} (s : ∀ c vs, H c = some (.tup vs) → H' c = some (.tup vs)) : ∀ {ks : List NestedKey} {vs : List V}, NkA H ks vs → NkA H' ks vs
  | _, _, .nil => .nil
  | _, _, .cons x t => .cons (NkV.keepT s x) (NkA.keepT s t)
end
mutual
theorem NkV.is {P : Program} {w : World} {H : Hp} {h : Heap} (ok : HOk P w H h) : ∀ {k : NestedKey} {y : V} {u : Value}, NkV H k y → RelV y u → NestedIs h k u
  | _, _, u, .none, r => by
    cases (show u = Value.none from r)
    exact .none
  | _, _, u, .bl b, r => by
    cases (show u = Value.bool b from r)
    exact .bool rfl
  | _, _, u, .int i, r => by
    obtain ⟨t, rfl⟩ := (show ∃ t, u = Value.int i t from r)
    exact .int i t
  | _, _, u, .str x, r => by
    obtain ⟨t, rfl⟩ := (show ∃ t, u = Value.str x t from r)
    exact .text x t
  | _, _, u, @NkV.tup _ a ks vs e t, r => by
    cases (show u = Value.ref a from r)
    obtain ⟨_, its, rv, o, h1, h2, n, h3⟩ := (show ObjOk P w H h a (.tup vs) from ok a _ e)
    exact .tup h1 h2 h3 (by simpa using NkA.is ok t rv)
theorem NkA.is {P : Program} {w : World} {H : Hp} {h : Heap} (ok : HOk P w H h) : ∀ {ks : List NestedKey} {vs : List V} {us : List Value}, NkA H ks vs → Vals vs us → NestedAll h ks us
  | _, _, _, .nil, .nil => .nil
  | _, _, _, .cons x t, .cons r rs => .cons (NkV.is ok x r) (NkA.is ok t rs)
end
/-- the dict's own object -/
def DNo (P : Program) (w : World) (a : Addr) (kvs : List (NestedKey × Addr × Int)) : HO := .ext fun h => kvs.length ≤ sizeLine ∧ (a == sysModules) = false ∧ ∃ xs : List (NestedKey × Addr × Value),
  Paired (fun (p : NestedKey × Addr × Int) (q : NestedKey × Addr × Value) => p.1 = q.1 ∧ p.2.1 = q.2.1 ∧ ∃ t, q.2.2 = .int p.2.2 t) kvs xs ∧
  ∃ o es ep, h.get? a = some o ∧ o.ExactDict ∧ o.data = .dict es ep ∧ es.toList = xs.map (entryOfKey (nestedKind P w)) ∧ (xs.map (·.1)).Nodup
/-- a dict, its keys there -/
structure DN (P : Program) (w : World) (H : Hp) (a : Addr) (kvs : List (NestedKey × Addr × Int)) : Prop where
  at_ : H a = some (DNo P w a kvs)
  ks : ∀ x ∈ kvs, NkV H x.1 (.ref x.2.1) ∧ x.1.depth ≤ 8
theorem DN.mono {P : Program} {w : World} {H H' : Hp} {a : Addr} {kvs : List (NestedKey × Addr × Int)} (s : Same H H') (d : DN P w H a kvs) : DN P w H' a kvs := ⟨s _ _ d.at_, fun x m => ⟨(d.ks x m).1.mono s, (d.ks x m).2⟩⟩
abbrev Prn (p : NestedKey × Addr × Int) (q : NestedKey × Addr × Value) : Prop := p.1 = q.1 ∧ p.2.1 = q.2.1 ∧ ∃ t, q.2.2 = .int p.2.2 t
theorem dn_of {P : Program} {w : World} {H : Hp} {h : Heap} {a : Addr} {kvs : List (NestedKey × Addr × Int)} (ok : HOk P w H h) (d : DN P w H a kvs) : kvs.length ≤ sizeLine ∧ (a == sysModules) = false ∧ ∃ xs, Paired Prn kvs xs ∧ h.DictOfH (nestedKind P w) a xs := by
  obtain ⟨⟨z, y, xs, r, o, es, ep, h1, h2, h3, h4, h5⟩, _⟩ := (show ObjOk P w H h a (DNo P w a kvs) from ok a _ d.at_)
  refine ⟨z, y, xs, r, o, es, ep, h1, h2, h3, h4, ?_, h5⟩
  have all : ∀ {l : List (NestedKey × Addr × Int)} {m : List (NestedKey × Addr × Value)}, Paired Prn l m → (∀ x ∈ l, NkV H x.1 (.ref x.2.1) ∧ x.1.depth ≤ 8) → ∀ x ∈ m, (nestedKind P w).is h x.1 x.2.1 := by
    intro l m q
    induction q with
    | nil => intro _ x hx; exact nomatch hx
    | @cons p q ps qs hq t ih =>
      intro hk x hx
      rcases List.mem_cons.mp hx with e | hx
      · subst e
        obtain ⟨k1, k2⟩ := hk p List.mem_cons_self
        rw [← hq.1, ← hq.2.1]
        exact ⟨k1.is ok rfl, k2⟩
      · exact ih (fun y m => hk y (List.mem_cons_of_mem _ m)) x hx
  exact all r d.ks
theorem dno_ok {P : Program} {w : World} {H : Hp} {h : Heap} {a : Addr} {kvs : List (NestedKey × Addr × Int)} {xs : List (NestedKey × Addr × Value)} (z : kvs.length ≤ sizeLine) (y : (a == sysModules) = false) (r : Paired Prn kvs xs) (dd : h.DictOfH (nestedKind P w) a xs) : ObjOk P w H h a (DNo P w a kvs) := by
  obtain ⟨o, es, ep, h1, h2, h3, h4, _, h5⟩ := dd
  exact ⟨⟨z, y, xs, r, o, es, ep, h1, h2, h3, h4, h5⟩, ⟨o, h1⟩, fun g1 g2 ⟨z, y, xs, r, o, es, ep, h1, h2⟩ k => ⟨z, y, xs, r, o, es, ep, k o h1, h2⟩⟩
def atN (kvs : List (NestedKey × Addr × Int)) (k : NestedKey) : Option Int := (kvs.find? fun x => decide (x.1 = k)).map (·.2.2)
theorem atN_rel {k : NestedKey} : ∀ {kvs : List (NestedKey × Addr × Int)} {xs : List (NestedKey × Addr × Value)}, Paired Prn kvs xs → (atN kvs k = none → atKey xs k = none) ∧ ∀ i, atN kvs k = some i → ∃ p t, atKey xs k = some p ∧ p.2 = Value.int i t := by
  intro kvs xs q
  induction q with
  | nil => exact ⟨fun _ => rfl, fun i h => by cases h⟩
  | @cons p q ps qs hq t ih =>
    obtain ⟨e1, e2, tk, e3⟩ := hq
    by_cases c : p.1 = k
    · refine ⟨fun h => ?_, fun i h => ?_⟩
      · unfold atN at h
        rw [List.find?_cons, decide_eq_true c] at h
        cases h
      · unfold atN at h
        rw [List.find?_cons, decide_eq_true c] at h
        refine ⟨q.2, tk, ?_, ?_⟩
        · unfold atKey
          rw [List.find?_cons, decide_eq_true (e1 ▸ c)]
          rfl
        · rw [e3]
          injection h with h
          rw [show p.2.2 = i from h]
    · have c2 : ¬ q.1 = k := fun z => c (e1.trans z)
      have h1 : atN (p :: ps) k = atN ps k := by
        unfold atN
        rw [List.find?_cons, decide_eq_false c]
      have h2 : atKey (q :: qs) k = atKey qs k := by
        unfold atKey
        rw [List.find?_cons, decide_eq_false c2]
      rw [h1, h2]
      exact ih
theorem paired_snoc {α β : Type} {F : α → β → Prop} {x : α} {y : β} : ∀ {l : List α} {m : List β}, Paired F l m → F x y → Paired F (l ++ [x]) (m ++ [y])
  | _, _, .nil, h => .cons h .nil
  | _, _, .cons r t, h => .cons r (paired_snoc t h)
section
variable {X : Cx} {pins : List (Addr × Obj)} {σ : L2.St} {H : Hp} {s : Shared} {a : Addr} {u r : Value} {A : Around} {E : Value → Shared → Prop}
theorem isDN_at {kvs : List (NestedKey × Addr × Int)} (I : Inv X pins σ H s) (d : DN X.prog X.w H a kvs) :
    s.TypeIs (.ref a) "dict" ∧ (∀ b, Value.ref a = .ref b → ∃ ob, s.heap.get? b = some ob ∧ ob.dict = none) ∧ (a == sysModules) = false := by
  obtain ⟨_, hd, xs, _, dd⟩ := dn_of I.hok d
  refine ⟨dd.typeIs, fun b q => ?_, hd⟩
  cases q
  obtain ⟨ob, _, _, h1, h2, _⟩ := dd
  exact ⟨ob, h1, h2.2.1⟩
theorem dn_setd {kvs : List (NestedKey × Addr × Int)} {k : NestedKey} {b : Addr} {i : Int} {Q : Value → Shared → Prop} (hu : A.units + 9 < cLine) (I : Inv X pins σ H s) (d : DN X.prog X.w H a kvs) (hk : NkV H k (.ref b)) (hd8 : k.depth ≤ 8) (rd : RelV (.int i) r) (hl : kvs.length < sizeLine)
    (h1 : ∀ v, atN kvs k = some v → ∀ (w' : Value) (s' : Shared), Inv X pins σ H s' → RelV (.int v) w' → Q w' s') (h2 : atN kvs k = none → ∀ (w' : Value) (s' : Shared), Inv X pins σ (upd H a (DNo X.prog X.w a (kvs ++ [(k, b, i)]))) s' → RelV (.int i) w' → Q w' s') :
    wpAny (model X.prog X.w) A (call (.builtin "dict.setdefault") [.ref a, .ref b, r]) Q E s := by
  obtain ⟨z, hd, xs, rel, dd⟩ := dn_of I.hok d
  have hz : xs.length ≤ sizeLine := by rw [← Paired.length rel]; exact z
  obtain ⟨q1, q2⟩ := atN_rel (k := k) rel
  refine call_setdefault_heap (hsz := hz) (show (nestedKind X.prog X.w).room A.in1 from ?_) ⟨hk.is I.hok rfl, hd8⟩ hd dd (fun p hp => ?_) fun hn h' dd' hs => ?_
  · show A.in1.units + 8 < cLine
    rw [Around.in1_units]
    omega
  · cases e : atN kvs k with
    | none => rw [q1 e] at hp; cases hp
    | some v =>
      obtain ⟨p2, t, e1, e2⟩ := q2 v e
      rw [e1] at hp
      cases hp
      rw [e2]
      exact h1 v e _ _ (I.tok _) ⟨t, rfl⟩
  · cases e : atN kvs k with
    | some v =>
      obtain ⟨p2, t, e1, e2⟩ := q2 v e
      rw [e1] at hn
      cases hn
    | none =>
      rw [storedH_new hn] at dd'
      have he : ∃ q, h'.get? a = some q := let ⟨q, _, _, hq, _⟩ := dd'; ⟨q, hq⟩
      obtain ⟨t, rfl⟩ := (show ∃ t, r = Value.int i t from rd)
      exact h2 e _ _ (d_write (t' := _) I (by rw [d.at_]; exact True.intro) hs he (dno_ok (by rw [List.length_append]; exact hl) hd (paired_snoc rel ⟨rfl, rfl, t, rfl⟩) dd')) ⟨t, rfl⟩
theorem dno_new {P : Program} {w : World} {H : Hp} (h : Heap) (hb : sysModules < h.objs.size) : ObjOk P w H (h.push { cls := .type "dict", data := .dict #[] }) h.objs.size (DNo P w h.objs.size []) :=
  dno_ok (xs := []) (Nat.zero_le _) (beq_eq_false_iff_ne.mpr (Ne.symm (Nat.ne_of_lt hb))) .nil (Heap.DictOfH.new h)
end
/-- {}, to be such a dict -/
def tDNewN (P : Program) (w : World) : TE := fun _ H Q => ∀ p, H p = none → Q (.ref p) (upd H p (DNo P w p []))
theorem pe_dnewN {X : Cx} {P : Program} {w : World} {pos : Pos} (hP : X.prog = P) (hw : X.w = w) : PE X (.Dict [] [] pos) (tDNewN P w) := by
  subst hP hw
  exact ⟨fun pins s σ H Q I h => wpAny_Dict_empty ⟨.ref s.heap.objs.size, _, I.laid (a := s.heap.objs.size) (o := DNo X.prog X.w s.heap.objs.size []) (t' := s.toks) (fun _ _ q => Heap.get?_push_of_some _ q) (Nat.le_refl _) (dno_new s.heap I.big), rfl, h _ (I.hok.fresh (Nat.le_refl _))⟩⟩
theorem dn_new {P : Program} {w : World} {H : Hp} {p : Addr} : DN P w (upd H p (DNo P w p [])) p [] := ⟨upd_same, fun x m => absurd m (by simp)⟩
/-- len(d) -/
def rLenN (P : Program) (w : World) : List V → Hp → VK → Prop := fun xs H Q => ∃ (p : Addr) (kvs : List (NestedKey × Addr × Int)), xs = [.ref p] ∧ DN P w H p kvs ∧ Q (.int ((kvs.length : Nat) : Int)) H
theorem call_lenN {X : Cx} {P : Program} {w : World} (hP : X.prog = P) (hw : X.w = w) : CallR X (.builtin "len") (rLenN P w) := by
  subst hP hw
  intro pins s σ H xs us Q I r h
  obtain ⟨p, kvs, rfl, hp, q⟩ := h
  obtain ⟨u, rfl, rx⟩ := vals1 r
  obtain rfl : u = .ref p := rx
  obtain ⟨z, hd, ys, rel, dd⟩ := dn_of I.hok hp
  have hl : kvs.length = ys.length := Paired.length rel
  refine call_len_dictH hd dd (by rw [← hl]; rw [sizeLine_eq] at z; omega) ?_
  rw [← hl]
  exact ⟨.int ((kvs.length : Nat) : Int), H, I.tok _, ⟨_, rfl⟩, q⟩
/-- d.setdefault(y, z) -/
def tDSetdN (P : Program) (w : World) (td ty tx : TE) : TE := fun σ H Q => td σ H fun x H1 => ∃ a, x = .ref a ∧ (∃ kvs, DN P w H1 a kvs) ∧ ty σ H1 fun y H2 => tx σ H2 fun z H3 => ∃ (kvs : List (NestedKey × Addr × Int)) (k : NestedKey) (b : Addr) (i : Int), DN P w H3 a kvs ∧ y = .ref b ∧ z = .int i ∧ NkV H3 k (.ref b) ∧ k.depth ≤ 8 ∧ kvs.length < sizeLine ∧
  (∀ v, atN kvs k = some v → Q (.int v) H3) ∧ (atN kvs k = none → Q (.int i) (upd H3 a (DNo P w a (kvs ++ [(k, b, i)]))))
theorem pe_dsetdN {X : Cx} {P : Program} {w : World} {o e f : Expr} {td ty tx : TE} {apos cpos : Pos} (hu : X.A.units + 9 < cLine) (hP : X.prog = P) (hw : X.w = w) (ho : PE X o td) (he : PE X e ty) (hf : PE X f tx) (m : M2 X o "setdefault" apos e f cpos) : PE X (.Call (.Attribute o "setdefault" apos) [e, f] [] cpos) (tDSetdN P w td ty tx) := by
  subst hP hw
  refine ⟨fun pins s σ H Q I h => ?_⟩
  refine wpAny_Call_method m.base m.few m.line PySem.F.plainAttrs_dict PySem.F.slot_dict_setdefault PySem.F.type_dict_setdefault (thn (ho.run pins s σ H _ I h) fun u s1 ⟨x, H1, I1, rx, a, ex, ⟨kvs0, d⟩, q1⟩ => ?_)
  subst ex
  obtain rfl : u = Value.ref a := rx
  obtain ⟨t1, t2, _⟩ := isDN_at I1 d
  refine ⟨t1, t2, ?_⟩
  rw [m.trees]
  refine Calls.callWith_builtin rfl (Calls.evalArgs_plain (Calls.spliced_cons (thn (he.run pins s1 σ H1 _ I1 q1) fun iv s2 ⟨y, H2, I2, ry, q2⟩ =>
    Calls.spliced_cons (thn (hf.run pins s2 σ H2 _ I2 q2) fun fv s3 ⟨z, H3, I3, rz, kvs, k, b, i, ea, ey, ez, hk, h8, hl, q3, q4⟩ => Calls.spliced_nil ?_))))
  subst ey ez
  obtain rfl : iv = Value.ref b := ry
  exact dn_setd hu I3 ea hk h8 rz hl (fun v hv w' s4 I4 rw' => ⟨.int v, _, I4, rw', q3 v hv⟩) fun hn w' s4 I4 rw' => ⟨.int i, _, I4, rw', q4 hn⟩
theorem DN.put {P : Program} {w : World} {H : Hp} {a b : Addr} {kvs : List (NestedKey × Addr × Int)} {k : NestedKey} {i : Int} (d : DN P w H a kvs) (hk : NkV H k (.ref b)) (h8 : k.depth ≤ 8) : DN P w (upd H a (DNo P w a (kvs ++ [(k, b, i)]))) a (kvs ++ [(k, b, i)]) := by
  have key : ∀ {u : NestedKey} {v : V}, NkV H u v → NkV (upd H a (DNo P w a (kvs ++ [(k, b, i)]))) u v := by
    have ht : ∀ c vs, H c = some (.tup vs) → (upd H a (DNo P w a (kvs ++ [(k, b, i)]))) c = some (.tup vs) := fun c vs h => by
      rw [upd_ne (fun q => by rw [q, d.at_] at h; cases h)]
      exact h
    intro u v h
    exact NkV.keepT ht h
  refine ⟨upd_same, fun x m => ?_⟩
  rcases List.mem_append.mp m with m | m
  · exact ⟨key (d.ks x m).1, (d.ks x m).2⟩
  · rw [List.mem_singleton.mp m]
    exact ⟨key hk, h8⟩
end Z
set_option Elab.async false
set_option linter.all false
set_option maxRecDepth 100000
set_option maxHeartbeats 4000000
namespace Z
open PySem PySem.Spec PyProof.Rows L2 NdefX
/-! ### an own exception whose __init__ begins with super().__init__(..) -/
/-- what the written part says of it: the function f of the class C (cell cc, code c) -/
structure SupK (P : Program) (K : PySem.W.Frag) (C f c cc : Addr) (fd : FuncData) : Prop where
  lk : ∃ oc od osl, K.lookup f = some ⟨oc, od, .func fd, osl⟩
  code : ∃ (ccl : Value) (cdd : Option Addr) (vs : Array Value) (ccs : Array (Option Value)) (file : Str) (tf : Tok), K.lookup c = some ⟨ccl, cdd, .fields vs, ccs⟩ ∧ vs[2]? = some (.str file tf) ∧ ((P.main.file : Str) == file) = true
  cell : ∃ cl cld csl, K.lookup cc = some ⟨cl, cld, .cell (some (.ref C)), csl⟩
  top : (P.main.scope.names.lookup ("super" : Str)).isSome = false
  mro : PySem.W.mroIn K C (.ref C) = some true
  opq : PySem.W.nsIn K cStatics "thirdparty.any" = some none
  ini : PySem.W.ks_superIn K C C "__init__" = some (some (.builtin "ValueError.__init__"))
  sub : PySem.W.subIn K (.ref C) (.type "ValueError") = some true
  exi : PySem.W.excInitIn K C He.veBase "ValueError.__new__" = true
  oex : OexC K C
section
variable {CX : CXT} {P : Program} {w : World} {K : PySem.W.Frag} {mg : Str → Option Value} {base : Heap} {N ps : List Str} {F : NF} {f C a cc : Addr} {A : Around} {outer : List Env} {s0 s : Shared} {H0 H : Hp} {E : XK} {σ : L2.St}
/-- the bound __init__ called -/
theorem call_mw {X : Cx} {pins : List (Addr × Obj)} {u : Addr} {us : List Value} {Q : Value → Shared → Prop} {E : Value → Shared → Prop} {A : Around} (S : SupK X.prog X.K C f c cc fd) (I : Inv X ((u, PySem.W.kxs_mw "ValueError.__init__" a) :: pins) σ H s) (e : H a = some (exo a C none)) (hz : us.length ≤ sizeLine)
    (h : ∀ s', Inv X ((u, PySem.W.kxs_mw "ValueError.__init__" a) :: pins) σ H s' → Q .none s') : wpAny (model X.prog X.w) A (call (.ref u) us) Q E s := by
  have FB := F.excBase_ValueError
  obtain ⟨nm, N', qn, bs, bm, hdct, sn, sub, ab, col, dd, k0, k1, k2, k3, k5, hC, hT⟩ := PySem.W.excInit_of I.kIn S.exi
  have hu := (I.pin (u, PySem.W.kxs_mw "ValueError.__init__" a) (List.mem_append_right _ (List.mem_cons_self ..))).1
  obtain ⟨t1, he⟩ := exo_at I.hok e
  obtain ⟨hh, g, d, tk, os⟩ := s
  refine wpAny_call (codeAny_of_tree ?_)
  show wpAny _ A.in1 (callAny (.ref u) ⟨us, []⟩) _ _ _
  simp only [callAny]
  refine wpAny_bind (wpAny_load hu ?_)
  simp only [PySem.W.kxs_mw, show (Value.type "method-wrapper" == Value.type "method" || Value.type "method-wrapper" == Value.type "builtin_function_or_method" || Value.type "method-wrapper" == Value.type "method-wrapper") = true by decide, if_true]
  refine PySem.W.KFB.if_so (by decide) ?_
  refine wpAny_bind (PySem.W.check_bound_init FB.toExcCallFacts hC he rfl ?_)
  refine wpAny_bind (wpAny_pure (wpAny_pure ?_))
  refine ⟨plainId_quiet FB.init.plain _, codeAny_builtin FB.initEntry ?_⟩
  refine PySem.W.exc_init_tree (cls := .ref C) (t0 := t1) (dv := none) (c2 := .none) (c3 := .none) (b4 := .bool false) he hz fun h' k hx _ => ?_
  have J := I.write (t' := tk) (x := a) (e := a) (o := exo a C none) (by rw [e]; exact True.intro) (.inl rfl) k ⟨_, hx⟩ (exo_ok hx)
  have eu : upd H a (exo a C none) = H := by
    funext b
    by_cases hb : b = a
    · rw [hb, upd_same, e]
    · rw [upd_ne hb]
  rw [eu] at J
  exact h _ J
/-- super().__init__(e, ..), the first statement -/
theorem super_first {pl : Sem Bool} {fd : FuncData} {ar : Arg} {t : TA} {e : Expr} {es : List Expr} {p0 p1 p2 pos pos2 : Pos} {Qn : Hp → Prop} (S : SupK P K C f F.c cc fd) (hcl : F.cl = [(("__class__" : Str), cc)]) (hp : (fd.params.posonlyargs ++ fd.params.args).head? = some ar)
    (hks : F.scope.names.lookup ("super" : Str) = some .globalImplicit) (hkc : F.scope.names.lookup ("__class__" : Str) = some .free) (hka : F.scope.names.lookup ar.arg = some .local) (hk : F.scope.kind = .function) (m_super : mg "super" = none)
    (hN : N[0]? = some ar.arg) (ha : PA (ncx CX P w K mg base N F f A outer s0 H0 E) (e :: es) t) (I : Inv (ncx CX P w K mg base N F f A outer s0 H0 E) [] σ H s) (hs : σ[0]? = some (some (.ref a))) (hx : H a = some (exo a C none))
    (ht : t σ H fun vs H1 => vs.length ≤ 1000 ∧ H1 a = some (exo a C none) ∧ Qn H1)
    (hint : interactive (ncx CX P w K mg base N F f A outer s0 H0 E).env = false := by rfl) (hsw : swapsWith (.Call (.Attribute (.Call (.Name "super" p0) [] [] p1) "__init__" p2) (e :: es) [] pos) none pos2.line (ncx CX P w K mg base N F f A outer s0 H0 E).env = pure false := by rfl)
    (hev : eval (.Call (.Attribute (.Call (.Name "super" p0) [] [] p1) "__init__" p2) (e :: es) [] pos) (ncx CX P w K mg base N F f A outer s0 H0 E).env = (do
      let ov ← attributeBase (.Call (.Name "super" p0) [] [] p1) "__init__" (ncx CX P w K mg base N F f A outer s0 H0 E).env (eval (.Call (.Name "super" p0) [] [] p1) (ncx CX P w K mg base N F f A outer s0 H0 E).env)
      standAt p2.atName
      let (g, first) ← holding [ov] (getMethod ov "__init__" pl)
      callWith pos g first (backTo pos (starEach (e :: es) (ncx CX P w K mg base N F f A outer s0 H0 E).env)) []) := by rfl)
    (he : starEach (e :: es) (ncx CX P w K mg base N F f A outer s0 H0 E).env = (false, eval e (ncx CX P w K mg base N F f A outer s0 H0 E).env) :: starEach es (ncx CX P w K mg base N F f A outer s0 H0 E).env := by rfl) (hpl : (backTo pos (starEach es (ncx CX P w K mg base N F f A outer s0 H0 E).env)).any (·.1) = false := by rfl) :
    _root_.PySem.wpAt (model P w) (ncx CX P w K mg base N F f A outer s0 H0 E).A (.func F.body (ncx CX P w K mg base N F f A outer s0 H0 E).env) (exec (.Expr (.Call (.Attribute (.Call (.Name "super" p0) [] [] p1) "__init__" p2) (e :: es) [] pos) pos2) (ncx CX P w K mg base N F f A outer s0 H0 E).env)
      (fun fl s' => fl = .next ∧ ∃ H1, Inv (ncx CX P w K mg base N F f A outer s0 H0 E) [] σ H1 s' ∧ H1 a = some (exo a C none) ∧ Qn H1) (ncx CX P w K mg base N F f A outer s0 H0 E).xe s := by
  obtain ⟨oc, od, osl, lkf⟩ := S.lk
  obtain ⟨ccl, cdd, vs, ccs, file, tf, lkc, hvs, hfile⟩ := S.code
  obtain ⟨cl, cld, csl, lkcc⟩ := S.cell
  have KX : K.In s.heap := I.kIn
  obtain ⟨m, hn, hl⟩ := I.loc
  obtain ⟨u, ru, lu⟩ := hl 0 ar.arg (.ref a) hN hs (.inl hka)
  obtain rfl : u = .ref a := ru
  have hma : m ar.arg = some (.ref a) := by
    rcases lu with ⟨_, z⟩ | ⟨z, _⟩
    · exact z
    · rcases z with z | z
      · rw [show (ncx CX P w K mg base N F f A outer s0 H0 E).env.kindOf ar.arg = some .local from hka] at z; cases z
      · rw [show (ncx CX P w K mg base N F f A outer s0 H0 E).env.kindOf ar.arg = some .local from hka] at z; cases z
  obtain ⟨nm, q, NN, bs, bm, sn, sub, ab, col, dd, k0, k1, k2, k3, k5, hC, hbm⟩ := S.oex.cls
  obtain ⟨t1, hox⟩ := exo_at I.hok hx
  refine ks_wpAt_Expr_any (ks_wpAt_MethodCall ?_ hev) hint hsw
  refine ks_wpAt_super_base (env := (ncx CX P w K mg base N F f A outer s0 H0 E).env) (cc := F.c) hks hkc (by decide) rfl (KX _ _ lkf) rfl hp rfl (KX _ _ lkc) rfl hvs hfile S.top ?_
  obtain ⟨mb, h1, h2⟩ := I.mod.blt
  refine PySem.W.ks_loadName_global hk hks (Calls.loadGlobal_builtin (by rw [I.ok.glob]; exact I.mod.glob.keeps I.bk) m_super (by rw [I.ok.blt]; exact h1.keeps I.bk) ((h2 "super" (by decide)).trans (by decide +kernel)) ⟨rfl, ?_⟩)
  refine wpAny_loadName_free hk hkc (c := cc) (by show F.cl.lookup _ = _; rw [hcl]; rfl) ⟨_, KX _ _ lkcc, rfl⟩ ?_
  refine wpAny_loadName_local hk hka hn hma ?_
  refine ks_wpAny_isType_cls (KX _ _ hC) rfl ⟨rfl, ?_⟩
  obtain ⟨hh, g, d, tk, os⟩ := s
  refine ks_wpAny_call_super (KX _ _ hC) rfl hox rfl (fun c z => by cases z) (PySem.W.looks_mroIn KX S.mro) (fun h' eso kso => ?_)
  have I2 : Inv (ncx CX P w K mg base N F f A outer s0 H0 E) [] σ H ⟨h', g, d, tk, os⟩ := I.kept kso
  have KX2 : K.In h' := I2.kIn
  have hox2 := kso _ _ hox
  have IA : PySem.W.InstAt h' a _ C none := ⟨hox2, rfl, rfl, trivial⟩
  have hI : PySem.W.Looks (model P w) h' (isInstance (.ref a) (.type "ValueError")) true := IA.type.andThen (PySem.W.looks_subIn KX2 S.sub)
  have hm := S.ini
  cases hc : PySem.W.clsIn K C with
  | none =>
    unfold PySem.W.ks_superIn at hm
    rw [hc] at hm
    cases hm
  | some cd =>
    unfold PySem.W.ks_superIn at hm
    rw [hc] at hm
    refine PySem.W.kxs_getMethod PySem.W.kxs_ValueError eso (PySem.W.looks_opaque KX2 S.opq) (l₀ := cd.mro) ?_ rfl KX2 hm hI (PySem.W.ks_ne KX2 IA hc) (by decide) ?_
    · exact fun A Q E s k q => wpAny_bind ((PySem.W.looks_clsIn KX2 hc) A _ E s k (wpAny_pure q))
    · have I3 : Inv (ncx CX P w K mg base N F f A outer s0 H0 E) [(h'.objs.size, PySem.W.kxs_mw "ValueError.__init__" a)] σ H ⟨h'.push (PySem.W.kxs_mw "ValueError.__init__" a), g, d, tk + 1, os⟩ := ClX.pin_new I2 (fun b o e => Heap.get?_push_of_some _ e) (Nat.le_refl _) (Heap.get?_push_at rfl rfl) (fun v z => by cases z)
      rw [he]
      refine PySem.W.kxs_callWith (i := "ValueError.__init__") (x := a) (by show (false || (backTo pos (starEach es _)).any (·.1)) = false; rw [hpl]; rfl) ?_
      refine PySem.Calls.evalArgs_plain ?_
      have hrun := ha.run pos _ _ σ H _ I3 ht
      rw [he] at hrun
      refine thn hrun fun us s3 ⟨ws, H3, I4, r, q1, q2, q3⟩ => ?_
      refine ⟨ClX.pin_at I4, ?_⟩
      refine call_mw (X := ncx CX P w K mg base N F f A outer s0 H0 E) S I4 q2 (by show us.length ≤ sizeLine; rw [← r.length]; exact Nat.le_trans q1 (by decide)) fun s' I5 => ⟨rfl, H3, ClX.unpin I5, q2, q3⟩
theorem wpAt_to {M : Model} {A : Around} {c : Code} {α : Type} {m : Sem α} {Q Q' : α → Shared → Prop} {E : Value → Shared → Prop} {s : Shared} (h : _root_.PySem.wpAt M A c m Q E s) (hq : ∀ a s', Q a s' → Q' a s') : _root_.PySem.wpAt M A c m Q' E s := ks_wpAt_mono h hq fun _ _ z => z
/-- THE RULE: such an __init__, the rest of its body by its readings -/
theorem sup_ok {pl : Sem Bool} {fd : FuncData} {dV kV doc pm ct : Value} {an : Option Addr} {ar : Arg} {k : Nat} {sp : Sp} {txt : Str} {j : Nat} {p0 p1 p2 p3 pos pos2 : Pos} {rest : List Stmt} (hfd : fd = PySem.W.fnX F.name F.qual F.params F.body F.scope F.cl dV kV doc pm an (.ref F.c) ct)
    (S : SupK P K C f F.c cc fd) (hcd : PySem.W.codeIn K (.ref F.c) F.qual = true) (NS : NScope N ps ["__class__"] F.scope) (hcl : F.cl = [(("__class__" : Str), cc)]) (hp : (F.params.posonlyargs ++ F.params.args).head? = some ar) (hks : F.scope.names.lookup ("super" : Str) = some .globalImplicit) (m_super : mg "super" = none)
    (hN : N[0]? = some ar.arg) (hka : F.scope.names.lookup ar.arg = some .local)
    (hb : F.body = .Expr (.Call (.Attribute (.Call (.Name "super" p0) [] [] p1) "__init__" p2) [.Constant (.str txt) j p3] [] pos) pos2 :: rest)
    (len : ∀ vs H Q E, sp vs H Q E → vs.length = ps.length) (hself : ∀ vs H Q E, sp vs H Q E → ∃ a vs', vs = .ref a :: vs' ∧ H a = some (exo a C none))
    (hint : ∀ (A : Around) (outer : List Env) (s : Shared) (H : Hp) (E : XK), interactive (ncx CX P w K mg base N F f A outer s H E).env = false)
    (hsw : ∀ (A : Around) (outer : List Env) (s : Shared) (H : Hp) (E : XK), swapsWith (.Call (.Attribute (.Call (.Name "super" p0) [] [] p1) "__init__" p2) [.Constant (.str txt) j p3] [] pos) none pos2.line (ncx CX P w K mg base N F f A outer s H E).env = pure false)
    (hev : ∀ (A : Around) (outer : List Env) (s : Shared) (H : Hp) (E : XK), eval (.Call (.Attribute (.Call (.Name "super" p0) [] [] p1) "__init__" p2) [.Constant (.str txt) j p3] [] pos) (ncx CX P w K mg base N F f A outer s H E).env = (do
      let ov ← attributeBase (.Call (.Name "super" p0) [] [] p1) "__init__" (ncx CX P w K mg base N F f A outer s H E).env (eval (.Call (.Name "super" p0) [] [] p1) (ncx CX P w K mg base N F f A outer s H E).env)
      standAt p2.atName
      let (g, first) ← holding [ov] (getMethod ov "__init__" pl)
      callWith pos g first (backTo pos (starEach [.Constant (.str txt) j p3] (ncx CX P w K mg base N F f A outer s H E).env)) []))
    (hrest : ∀ (A : Around) (outer : List Env) (s : Shared) (H : Hp) (vs : List V) (Q : VK) (E : XK), sp vs H Q E → ∃ t, PSs (ncx CX P w K mg base N F f A outer s H E) rest t ∧ t { nx := fun _ H' => Q .non H', rt := Q } (startF N vs [some (.ref C)]) H) : FnOk P w K mg base CX (k + 1) f fd ps sp := by
  refine ⟨len, fun A outer s H args us vs Q E hr e0 hbn r hsp => ?_⟩
  have hl := len _ _ _ _ hsp
  have KX : K.In s.heap := e0.mod.kin.keeps fun b o e => (e0.bs b o e).1
  have lim : s.heap.NoLimit := e0.mod.nolimit.keeps fun b o e => (e0.bs b o e).1
  obtain ⟨oc, od, osl, lkf⟩ := S.lk
  obtain ⟨cl, cld, csl, lkcc⟩ := S.cell
  have CA : CellsAt F.cl ["__class__"] [some (.ref C)] s.heap H := by
    refine ⟨rfl, fun y c e => ?_, fun x y c e1 e2 => ?_, fun i y e => ?_⟩
    · rw [hcl] at e
      have ec : c = cc := by
        unfold List.lookup at e
        split at e
        · exact (Option.some.inj e).symm
        · cases e
      subst ec
      exact ⟨(e0.bs _ _ (e0.mod.kin _ _ lkcc)).2, _, _, KX _ _ lkcc, rfl⟩
    · rw [hcl] at e1 e2
      have k : ∀ z : Str, ([(("__class__" : Str), cc)] : List (Str × Addr)).lookup z = some c → z = "__class__" := fun z e => by
        unfold List.lookup at e
        split at e
        · next h => exact beq_iff_eq.mp h
        · cases e
      rw [k x e1, k y e2]
    · have ey : y = "__class__" := by
        cases i with
        | zero => exact (Option.some.inj e).symm
        | succ i => cases e
      subst ey
      refine ⟨cc, by rw [hcl]; rfl, fun v hv => ?_⟩
      have ei : i = 0 := by
        cases i with
        | zero => rfl
        | succ i => cases e
      subst ei
      obtain rfl : V.ref C = v := Option.some.inj (Option.some.inj hv)
      exact ⟨.ref C, rfl, _, KX _ _ lkcc, rfl⟩
  subst hfd
  refine ks_codeAny_call_defAt hr.depth (KX _ _ lkf) rfl lim (PySem.W.codeRec_of KX hcd) rfl hbn NS.nocell (fun ⟨n, _⟩ hy => NS.par n (List.of_mem_zip hy).1) (fun h₁ hns kp => ?_) NS.co NS.gen NS.kind
  show _root_.PySem.wpAt _ (ncx CX P w K mg base N F f A outer s H E).A (.func F.body (ncx CX P w K mg base N F f A outer s H E).env) (execs F.body (ncx CX P w K mg base N F f A outer s H E).env) _ (ncx CX P w K mg base N F f A outer s H E).xe _
  have I : Inv (ncx CX P w K mg base N F f A outer s H E) [] (startF N vs [some (.ref C)]) H { s with heap := h₁, toks := s.toks + (ps.zip us).length } := inv_startN NS hr.hd e0 hl r CA hns kp
  obtain ⟨a, vs', rfl, hx⟩ := hself _ _ _ _ hsp
  have hexe : execs F.body (ncx CX P w K mg base N F f A outer s H E).env = execs (.Expr (.Call (.Attribute (.Call (.Name "super" p0) [] [] p1) "__init__" p2) [.Constant (.str txt) j p3] [] pos) pos2 :: rest) (ncx CX P w K mg base N F f A outer s H E).env := by rw [hb]
  rw [hexe]
  refine ks_wpAt_execs_cons (wpAt_to (super_first (Qn := fun H1 => H1 = H) S hcl hp hks (NS.frk _ (List.mem_cons_self ..)) hka NS.kind m_super hN (pa_cons pe_str pa_nil) I rfl hx ⟨by simp, hx, rfl⟩ (hint A outer s H E) (hsw A outer s H E) (hev A outer s H E)) ?_)
  rintro fl s1 ⟨rfl, H1, I1, _, rfl⟩
  obtain ⟨t, ht, hq⟩ := hrest A outer s H1 _ Q E hsp
  refine wpAt_of_wpAny (wpAny_mono (ht.run [] _ _ H1 _ I1 hq) (fun fl s' hs => ?_) fun e s' hs => hs)
  have fin : ∀ {σ' : L2.St} {H' : Hp} {v : V} {u : Value}, Inv (ncx CX P w K mg base N F f A outer s H1 E) [] σ' H' s' → L2.RelV v u → Q v H' → CE outer P w H1 s Q u s' :=
    fun {σ' H' v u} J rv q => ⟨v, H', J.os, J.bare, J.base, J.hok, rv, q⟩
  cases fl with
  | ret u =>
    obtain ⟨v, σ', H', J, rv, q⟩ := hs
    exact fin J rv q
  | next =>
    obtain ⟨σ', H', J, q⟩ := hs
    exact fin (v := V.non) (u := Value.none) J rfl q
  | brk =>
    obtain ⟨_, _, _, q⟩ := hs
    exact False.elim q
  | cont =>
    obtain ⟨_, _, _, q⟩ := hs
    exact False.elim q
end
end Z
set_option Elab.async false
set_option linter.all false
set_option maxRecDepth 100000
set_option maxHeartbeats 4000000
namespace Z
open PySem PySem.Spec PyProof.Rows L2 NdefX
/-! ### class X(..): def __init__(self, v): super().__init__("text"); self.field = v -/
def spEx (C : Addr) (field : Str) : Sp := fun vs H Q _ => ∃ (a : Addr) (v : V), vs = [.ref a, v] ∧ H a = some (exo a C none) ∧ ∀ dx, H dx = none → dx ≠ a → Q .non (upd (upd H dx (exd dx [(field, v)])) a (exo a C (some dx)))
theorem exn_ok {P : Program} {w : World} {K : PySem.W.Frag} {mg : Str → Option Value} {base : Heap} {F : NF} {f C cc : Addr} {pl : Sem Bool} {fd : FuncData} {dV kV doc pm ct : Value} {an : Option Addr} {ar : Arg} {txt v field : Str} {j : Nat} {p0 p1 p2 p3 pos pos2 q1 q2 q3 q4 : Pos} (hfd : fd = PySem.W.fnX F.name F.qual F.params F.body F.scope F.cl dV kV doc pm an (.ref F.c) ct)
    (S : SupK P K C f F.c cc fd) (hcd : PySem.W.codeIn K (.ref F.c) F.qual = true) (NS : NScope ["self", v, "__class__"] ["self", v] ["__class__"] F.scope) (hcl : F.cl = [(("__class__" : Str), cc)]) (hp : (F.params.posonlyargs ++ F.params.args).head? = some ar) (har : ar.arg = "self") (hks : F.scope.names.lookup ("super" : Str) = some .globalImplicit) (m_super : mg "super" = none)
    (hno : PySem.W.findIn K (.ref C) field = some none) (hvd : (v == ("__debug__" : Str)) = false) (hvc : (v == ("__classdict__" : Str)) = false)
    (hb : F.body = [.Expr (.Call (.Attribute (.Call (.Name "super" p0) [] [] p1) "__init__" p2) [.Constant (.str txt) j p3] [] pos) pos2, .Assign [.Attribute (.Name "self" q1) field q2] (.Name v q3) q4])
    (hint : ∀ (A : Around) (outer : List Env) (s : Shared) (H : Hp) (E : XK), interactive (ncx CX0 P w K mg base ["self", v, "__class__"] F f A outer s H E).env = false)
    (hsw : ∀ (A : Around) (outer : List Env) (s : Shared) (H : Hp) (E : XK), swapsWith (.Call (.Attribute (.Call (.Name "super" p0) [] [] p1) "__init__" p2) [.Constant (.str txt) j p3] [] pos) none pos2.line (ncx CX0 P w K mg base ["self", v, "__class__"] F f A outer s H E).env = pure false)
    (hev : ∀ (A : Around) (outer : List Env) (s : Shared) (H : Hp) (E : XK), eval (.Call (.Attribute (.Call (.Name "super" p0) [] [] p1) "__init__" p2) [.Constant (.str txt) j p3] [] pos) (ncx CX0 P w K mg base ["self", v, "__class__"] F f A outer s H E).env = (do
      let ov ← attributeBase (.Call (.Name "super" p0) [] [] p1) "__init__" (ncx CX0 P w K mg base ["self", v, "__class__"] F f A outer s H E).env (eval (.Call (.Name "super" p0) [] [] p1) (ncx CX0 P w K mg base ["self", v, "__class__"] F f A outer s H E).env)
      standAt p2.atName
      let (g, first) ← holding [ov] (getMethod ov "__init__" pl)
      callWith pos g first (backTo pos (starEach [.Constant (.str txt) j p3] (ncx CX0 P w K mg base ["self", v, "__class__"] F f A outer s H E).env)) []))
    (hs2 : ∀ (A : Around) (outer : List Env) (s : Shared) (H : Hp) (E : XK), swapsWith (.Name v q3) (some (.Attribute (.Name "self" q1) field q2)) q4.line (ncx CX0 P w K mg base ["self", v, "__class__"] F f A outer s H E).env = pure false) : FnOk P w K mg base CX0 1 f fd ["self", v] (spEx C field) := by
  refine sup_ok (k := 0) (rest := [.Assign [.Attribute (.Name "self" q1) field q2] (.Name v q3) q4]) hfd S hcd NS hcl hp hks m_super (by rw [har]; rfl) (by rw [har]; exact NS.par _ (List.mem_cons_self ..)) hb (fun vs H Q E h => ?_) (fun vs H Q E h => ?_) hint hsw hev (fun A outer s H vs Q E h => ?_)
  · obtain ⟨a, y, rfl, _⟩ := h
    rfl
  · obtain ⟨a, y, rfl, hx, _⟩ := h
    exact ⟨a, [y], rfl, hx⟩
  · obtain ⟨a, y, rfl, hx, q⟩ := h
    refine ⟨_, pss_one (ps_ost (pe_var (i := 0) rfl (.inl (NS.par _ (List.mem_cons_self ..)))) (pe_var (i := 1) rfl (.inl (NS.par _ (List.mem_cons_of_mem _ (List.mem_cons_self ..)))) hvd hvc) (hs2 A outer s H E)), ?_⟩
    refine ⟨y, rfl, .ref a, rfl, a, C, rfl, S.oex, hno, .inl ⟨hx, fun dx n1 n2 => ?_⟩⟩
    exact q dx n1 n2
/-! ### raise X(e) -/
structure Exn (P : Program) (w : World) (K : PySem.W.Frag) (mg : Str → Option Value) (base : Heap) (x : Str) (C : Addr) (field : Str) : Prop where
  oex : OexC K C
  gl : mg x = some (.ref C)
  ini : ∃ fI fd ps, PySem.W.findIn K (.ref C) "__init__" = some (some (.ref fI)) ∧ PySem.W.typeIn K (.ref fI) = some (.type "function") ∧ FnOk P w K mg base CX0 1 fI fd ps (spEx C field) ∧ Binds K fd ps []
/-! ### C(e): the exception's object has no context -/
section
variable {X : Cx} {x : Str} {C g : Addr} {k : Nat} {fd : FuncData} {ps : List Str} {sp : Sp} {e : Expr} {ta : TA} {p pos : Pos}
/-- the two objects that type.__call__ lays -/
abbrev hp2 (h : Heap) (C : Addr) (us : List Value) : Heap :=
  (h.push (PySem.W.kdv_tup us)).push (PySem.HandSPX.excO C h.objs.size)
theorem hp2_keep {h : Heap} {us : List Value} (b : Addr) (o : Obj) (z : h.get? b = some o) :
    (hp2 h C us).get? b = some o := Heap.get?_push_of_some _ (Heap.get?_push_of_some _ z)
theorem hp2_at {h : Heap} {us : List Value} :
    (hp2 h C us).get? (h.objs.size + 1) = some (PySem.HandSPX.excO C h.objs.size) := by heap_get
theorem inv2 {pins : List (Addr × Obj)} {σ : L2.St} {H : Hp} {h : Heap} {gs : Array GenState} {dr : Drawn} {tk : Nat} {os : OsState} {us : List Value}
    (I : Inv X pins σ H ⟨h, gs, dr, tk, os⟩) :
    Inv X pins σ (upd H (h.objs.size + 1) (exo (h.objs.size + 1) C none)) ⟨hp2 h C us, gs, dr, tk, os⟩ :=
  I.laid (t' := tk) (a := h.objs.size + 1) (o := exo (h.objs.size + 1) C none) (h' := hp2 h C us)
    hp2_keep (Nat.le_succ _) (exo_ok hp2_at)
theorem pmkN (T : OexC X.K C)
    (iC : PySem.W.findIn X.K (.ref C) "__init__" = some (some (.ref g)))
    (tI : PySem.W.typeIn X.K (.ref g) = some (.type "function"))
    (F : FnOk X.prog X.w X.K X.mg X.base CX0 k g fd ps sp) (hr : Room (k + 1) X.A) (hb : Binds X.K fd ps [])
    (hg : Gl X x) (hm : X.mg x = some (.ref C)) (ha : PA X [e] ta)
    (hdb : (x == ("__debug__" : Str)) = false := by decide)
    (he : starEach [e] X.env = (false, eval e X.env) :: starEach [] X.env := by rfl)
    (hpl : (backTo pos (starEach [] X.env)).any (·.1) = false := by rfl) :
    L2N.PMk X (.Call (.Name x p) [e] [] pos) (tMkO C sp [] ta) := by
  intro pins s σ H Q I h
  obtain ⟨_, _, _, _, vm, _, _, _, _, _, _, _, _, _, _, atC, inM⟩ := T.cls
  refine wpAny_Call_Name_kw (ld_glob I hg hm ?_ hdb)
  refine PySem.W.callWith_K (h₀ := X.base) I.ok.mod.kin T.kC ?_ he hpl
  refine thn (ha.run pos pins s σ H _ I h) fun us s1 hh => ?_
  obtain ⟨vs, H1, J, r, few, q⟩ := hh
  refine ⟨J.kIn, ?_⟩
  obtain ⟨hp, gs, dr, tk, os⟩ := s1
  have q := q (hp.objs.size + 1) (J.hok.fresh (Nat.le_succ _))
  rw [List.append_nil] at q
  have J2 := inv2 (C := C) (us := us) J
  have r2 : Vals (V.ref (hp.objs.size + 1) :: vs) (Value.ref (hp.objs.size + 1) :: us) := .cons rfl r
  have len2 : (Value.ref (hp.objs.size + 1) :: us ++ []).length = ps.length := by
    rw [List.append_nil, ← r2.length]
    exact F.len _ _ _ _ q
  have b2 := hb _ (Value.ref (hp.objs.size + 1) :: us) J2.kIn len2
  rw [List.append_nil] at b2
  have few2 : us.length ≤ sizeLine := by
    have := Paired.length r
    rw [sizeLine_eq]
    omega
  have run := F.run _ X.stack _ _ _ _ _ _ _ (hr.make C us []) (J2.env0.make C us []) b2 r2 q
  refine wpAny_call (PySem.HandSPX.call_own PySem.F.excBase_ValueError (fun Y => PySem.HandSPX.refsVE_contains Y vm inM)
    (J.kIn _ _ atC) (PySem.W.looks_findIn J.kIn iC) (fun self => PySem.W.bind_fn J.kIn self tI) few2
    (codeAny_mono run fun res s' z => ?_))
  match res, z with
  | .error er, z => exact z.elim
  | .ok (.ret u), z =>
    obtain ⟨v, H2, eo, bare, un, ok2, rv, ev, d, fs, ea, ed, nd, q2⟩ := z
    subst ev
    obtain ⟨h2, g2, d2, t2, os'⟩ := s'
    obtain ⟨t0, G, J3, kG, ge, hoe, na⟩ := mk_end0 (d2 := d2) (t2 := t2) J (Nat.le_succ _) hp2_keep un ok2 eo bare ea ed nd
    refine ⟨rv, hp.objs.size + 1, _, _, ⟨G, g2, d2, t2, os'⟩, _, .ref C, some d, rfl, J3, kG, ge, hoe, ⟨rfl, rfl, fun ws ew => ?_⟩, rfl, rfl, na, rfl, bare, raises_own T.exC T.tyC, q2⟩
    cases ew
    rfl
end
section
variable {X : Cx} {x field : Str} {C : Addr} {j : Nat} {e : Expr} {ta : TA} {p pos pos2 : Pos} {W : WX}
theorem pmk_exn (c : Exn X.prog X.w X.K X.mg X.base x C field) (hr : Room j X.A) (hk : 2 ≤ j) (hg : Gl X x) (ha : PA X [e] ta) (hdb : (x == ("__debug__" : Str)) = false := by decide) (he : starEach [e] X.env = (false, eval e X.env) :: starEach [] X.env := by rfl) (hpl : (backTo pos (starEach [] X.env)).any (·.1) = false := by rfl) :
    L2N.PMk X (.Call (.Name x p) [e] [] pos) (tMkO C (spEx C field) [] ta) := by
  obtain ⟨fI, fd, ps, iC, tI, F1, b⟩ := c.ini
  exact pmkN (X := X) (pos := pos) (p := p) c.oex iC tI F1 (hr.mono hk) b hg c.gl ha hdb he hpl
/-- raise X(e) -/
theorem ps_exn (hc : X.calm = true) (tk : L2N.Takes X W) (c : Exn X.prog X.w X.K X.mg X.base x C field) (hr : Room j X.A) (hk : 2 ≤ j) (hg : Gl X x) (ha : PA X [e] ta) (hdb : (x == ("__debug__" : Str)) = false := by decide) (he : starEach [e] X.env = (false, eval e X.env) :: starEach [] X.env := by rfl) (hpl : (backTo pos (starEach [] X.env)).any (·.1) = false := by rfl) :
    PS X (.Raise (some (.Call (.Name x p) [e] [] pos)) none pos2) (fun _ σ H => tMkO C (spEx C field) [] ta σ H fun cls d H' => W cls d σ H') := L2N.ps_raise hc tk (pmk_exn c hr hk hg ha hdb he hpl)
end
/-- what is left to show of X(v) -/
theorem mkx_of {C : Addr} {field : Str} {v : V} {H1 : Hp} {Q : XK} (q : ∀ d, H1 d = none → Q (.ref C) (some d) (upd H1 d (.xd [(field, v)]))) :
    [v].length ≤ 1000 ∧ ∀ a, H1 a = none → spEx C field (.ref a :: ([v] ++ [])) (upd H1 a (exo a C none)) (fun v H2 => v = .non ∧ ∃ (d : Addr) (fs : List (Str × V)), H2 a = some (exo a C (some d)) ∧ H2 d = some (exd d fs) ∧ H1 d = none ∧ Q (.ref C) (some d) (upd (del H2 a) d (.xd fs))) (fun _ _ _ => False) := by
  refine ⟨by simp, fun a na => ⟨a, v, rfl, upd_same, fun dx n1 n2 => ⟨rfl, dx, [(field, v)], upd_same, ?_, ?_, ?_⟩⟩⟩
  · rw [upd_ne n2, upd_same]
  · rw [← n1, upd_ne n2]
  · have n3 : H1 dx = none := by rw [← n1, upd_ne n2]
    have e1 : upd (del (upd (upd (upd H1 a (exo a C none)) dx (exd dx [(field, v)])) a (exo a C (some dx))) a) dx (.xd [(field, v)]) = upd H1 dx (.xd [(field, v)]) := by
      funext b
      by_cases hb : b = dx
      · rw [hb, upd_same, upd_same]
      · rw [upd_ne hb, upd_ne hb]
        by_cases ha2 : b = a
        · rw [ha2, del_same, na]
        · rw [del_ne ha2, upd_ne ha2, upd_ne hb, upd_ne ha2]
    rw [e1]
    exact q dx n3
/-! ### calls that may raise -/
structure CalX (P : Program) (w : World) (K : PySem.W.Frag) (mg : Str → Option Value) (base : Heap) (k : Nat) (x : Str) (sp : Sp) : Prop where
  ex : ∃ (f : Addr) (fd : FuncData) (ps : List Str), FnOk P w K mg base (L2N.CX P w) k f fd ps sp ∧ mg x = some (.ref f) ∧ PySem.W.keepIn K (.ref f) = true ∧ Binds K fd ps []
structure MakX (P : Program) (w : World) (K : PySem.W.Frag) (mg : Str → Option Value) (base : Heap) (k : Nat) (x : Str) (C : Addr) (sp : Sp) : Prop where
  ex : ∃ (f : Addr) (fd : FuncData) (ps : List Str), Mk K C f ∧ FnOk P w K mg base (L2N.CX P w) k f fd ps sp ∧ mg x = some (.ref C) ∧ Binds K fd ps []
structure MetX (P : Program) (w : World) (K : PySem.W.Frag) (mg : Str → Option Value) (base : Heap) (k : Nat) (C : Addr) (m : Str) (sp : Sp) : Prop where
  ex : ∃ (f : Addr) (fd : FuncData) (ps : List Str), Cls K C ∧ Meth K C m f ∧ FnOk P w K mg base (L2N.CX P w) k f fd ps sp ∧ Binds K fd ps []
structure CobX (P : Program) (w : World) (K : PySem.W.Frag) (mg : Str → Option Value) (base : Heap) (k : Nat) (C : Addr) (sp : Sp) : Prop where
  ex : ∃ (g : Addr) (fd : FuncData) (ps : List Str), StX.CallO K C g ∧ FnOk P w K mg base (L2N.CX P w) k g fd ps sp ∧ Binds K fd ps []
/-- C(e, ..) by its __init__'s promise; what is raised at the slots -/
def tMkW (C : Addr) (sp : Sp) (E : L2.St → XK) (t : TA) : TE := fun σ H Q => t σ H fun vs H1 => ∀ n dx, H1 n = none → H1 dx = none → dx ≠ n → sp (.ref n :: vs) (upd (upd H1 dx (.own n)) n (.ins C dx [])) (fun v H2 => v = .non ∧ Q (.ref n) H2) (E σ)
def tCoW (C : Addr) (sp : Sp) (E : L2.St → XK) (tf : TE) (t : TA) : TE := fun σ H Q => tf σ H fun y H1 => ∃ a, y = V.ref a ∧ t σ H1 fun vs H2 => (∃ dx fs, H2 a = some (.ins C dx fs)) ∧ sp (V.ref a :: vs) H2 Q (E σ)
def tMeW (C : Addr) (m : Str) (sp : Sp) (E : L2.St → XK) (ta : TE) (t : TA) : TE := fun σ H Q => ta σ H fun x H1 => ∃ a dx fs, x = V.ref a ∧ H1 a = some (.ins C dx fs) ∧ List.lookup m fs = none ∧ t σ H1 fun vs H2 => sp (x :: vs) H2 Q (E σ)
section
variable {X : Cx} {k j : Nat} {x m : Str} {sp : Sp} {C : Addr} {p pos apos : Pos} {e o fe : Expr} {es : List Expr} {t : TA} {ta tf : TE} {W : WX} {E : L2.St → XK}
theorem passS0 {σ : L2.St} : PassesAt (L2N.CX X.prog X.w) X σ E0 := fun _ _ _ _ _ _ h => by
  obtain ⟨_, _, _, _, _, _, _, _, _, _, _, _, z⟩ := h
  exact z.elim
/-- any result of a promise, at the slots -/
theorem back_at {σ : L2.St} {H : Hp} {s : Shared} {pins : List (Addr × Obj)} {Q : VK} {E : XK} {CX : CXT} (hx : PassesAt CX X σ E) (I : Inv X pins σ H s) : ∀ (r : Result) (s' : Shared), CR CX X.stack X.prog X.w H s Q E r s' → match r with
    | .ok (.ret v) => EP X pins σ Q v s'
    | .ok _ => False
    | .error e => X.xe e s'
  | .error e, s', h => hx pins H s e s' I h
  | .ok (.ret u), s', h => I.after h
  | .ok .next, s', h => h
  | .ok .brk, s', h => h
  | .ok .cont, s', h => h
theorem pe_clE (c : CalX X.prog X.w X.K X.mg X.base k x sp) (hx : ∀ σ, PassesAt (L2N.CX X.prog X.w) X σ (E σ)) (hr : Room j X.A) (hk : k ≤ j) (hg : Gl X x) (ha : PA X (e :: es) t) (hdb : (x == ("__debug__" : Str)) = false := by decide) (he : starEach (e :: es) X.env = (false, eval e X.env) :: starEach es X.env := by rfl) (hpl : (backTo pos (starEach es X.env)).any (·.1) = false := by rfl) :
    PE X (.Call (.Name x p) (e :: es) [] pos) (tCallS sp E t) := by
  obtain ⟨f, fd, ps, F, hm, kp, b⟩ := c.ex
  exact pe_callS F (hr.mono hk) hg hm kp b hx ha hdb he hpl
theorem pe_mkE (c : MakX X.prog X.w X.K X.mg X.base k x C sp) (hx : ∀ σ, PassesAt (L2N.CX X.prog X.w) X σ (E σ)) (hr : Room j X.A) (hk : k + 1 ≤ j) (hg : Gl X x) (ha : PA X (e :: es) t) (hdb : (x == ("__debug__" : Str)) = false := by decide) (he : starEach (e :: es) X.env = (false, eval e X.env) :: starEach es X.env := by rfl) (hpl : (backTo pos (starEach es X.env)).any (·.1) = false := by rfl) :
    PE X (.Call (.Name x p) (e :: es) [] pos) (tMkW C sp E t) := by
  obtain ⟨f, fd, ps, M, F, hm, b⟩ := c.ex
  constructor
  intro pins s σ H Q I h
  refine wpAny_Call_Name_kw (ld_glob I hg hm ?_ hdb)
  refine PySem.W.callWith_K (h₀ := X.base) I.ok.mod.kin M.kp (thn (ha.run pos pins s σ H _ I h) fun us s1 z => ?_) he hpl
  obtain ⟨vs, H1, I1, rr, q⟩ := z
  refine ⟨I1.kIn, ?_⟩
  obtain ⟨n, hn⟩ : ∃ n, n = s1.heap.objs.size := ⟨_, rfl⟩
  have q1 := q (n + 1) n (I1.hok.fresh (by rw [hn]; exact Nat.le_succ _)) (I1.hok.fresh (by rw [hn]; exact Nat.le_refl _)) (Nat.ne_of_lt (Nat.lt_succ_self _))
  subst hn
  have J := Inv.made (C := C) I1
  have r3 : Vals (V.ref (s1.heap.objs.size + 1) :: vs) (Value.ref (s1.heap.objs.size + 1) :: us) := .cons rfl rr
  have b3 := b { s1 with heap := (s1.heap.push PySem.W.emptyDict).push (PySem.W.instObj C s1.heap.objs.size) } (Value.ref (s1.heap.objs.size + 1) :: us) J.kIn (by rw [List.append_nil, ← r3.length]; exact F.len _ _ _ _ q1)
  rw [List.append_nil] at b3
  have run := F.run _ X.stack _ _ _ _ _ _ _ ((hr.mono hk).make C us []) (J.env0.make C us []) b3 r3 q1
  refine wpAny_call (make_map (f := f) I1.kIn M.makes M.init (beq_iff_eq.mp M.fn) (codeAny_mono run fun r s' hq => ?_))
  have z := back_at (hx σ) J r s' hq
  match r, z with
  | .error e, z => exact z
  | .ok (.ret u), ⟨v, H', J', rv, ev, q3⟩ =>
    subst ev
    exact ⟨rv, V.ref (s1.heap.objs.size + 1), H', J', rfl, q3⟩
theorem run_atE {f : Addr} {fd : FuncData} {ps : List Str} {σ : L2.St} {H : Hp} {s : Shared} {pins : List (Addr × Obj)} {Q : VK} {us : List Value} {vs : List V} (F : FnOk X.prog X.w X.K X.mg X.base (L2N.CX X.prog X.w) k f fd ps sp) (b : Binds X.K fd ps []) (hx : PassesAt (L2N.CX X.prog X.w) X σ (E σ)) (hr : Room k X.A) (I : Inv X pins σ H s) (r : Vals vs us) (h : sp vs H Q (E σ)) :
    codeAny (model X.prog X.w) X.A (.call (.ref f) ⟨us, []⟩) (fun r s' => match r with | .ok (.ret v) => EP X pins σ Q v s' | .ok _ => False | .error e => X.xe e s') s := by
  have b3 := b s us I.kIn (by rw [List.append_nil, ← r.length]; exact F.len _ _ _ _ h)
  rw [List.append_nil] at b3
  exact codeAny_mono (F.run _ X.stack _ _ _ _ _ _ _ hr I.env0 b3 r h) (back_at hx I)
theorem pe_coE (c : CobX X.prog X.w X.K X.mg X.base k C sp) (hf : PE X fe tf) (hx : ∀ σ, PassesAt (L2N.CX X.prog X.w) X σ (E σ)) (hr : Room j X.A) (hk : k ≤ j) (ha : PA X (e :: es) t)
    (ht : eval (.Call fe (e :: es) [] pos) X.env = (do callWith pos (← eval fe X.env) [] (backTo pos (starEach (e :: es) X.env)) (backToKw pos (keywordEach [] X.env))) := by rfl)
    (he : starEach (e :: es) X.env = (false, eval e X.env) :: starEach es X.env := by rfl) (hpl : (backTo pos (starEach es X.env)).any (·.1) = false := by rfl) : PE X (.Call fe (e :: es) [] pos) (tCoW C sp E tf t) := by
  obtain ⟨g, fd, ps, co, F, b⟩ := c.ex
  constructor
  intro pins s σ H Q I h
  refine Call_ (thn (hf.run pins s σ H _ I h) fun u s1 ⟨y, H1, I1, ry, a, ey, q⟩ => ?_) ht
  subst ey
  obtain rfl : u = Value.ref a := ry
  refine StX.callO_with (thn (ha.run pos pins s1 σ H1 _ I1 q) fun us s2 z => ?_) he hpl
  obtain ⟨vs, H2, I2, r, hi, q2⟩ := z
  have hi2 : StX.InsC X H2 a C := .inr hi
  obtain ⟨ox, od, J, hd⟩ := StX.insC_at I2 hi2
  exact ⟨⟨C, ox, od, J, hd⟩, wpAny_call (PySem.W.kco_code I2.kIn J hd co.at_ co.fn co.fi (run_atE (vs := .ref a :: vs) (us := .ref a :: us) F b (hx σ) (hr.mono hk) I2 (.cons rfl r) q2))⟩
theorem pe_meE {pl : Sem Bool} (c : MetX X.prog X.w X.K X.mg X.base k C m sp) (ho : PE X o ta) (hx : ∀ σ, PassesAt (L2N.CX X.prog X.w) X σ (E σ)) (hr : Room j X.A) (hk : k ≤ j) (ha : PA X (e :: es) t)
    (hst : starEach (e :: es) X.env = (false, eval e X.env) :: starEach es X.env := by rfl) (hpl : (backTo pos (starEach es X.env)).any (·.1) = false := by rfl)
    (ht : eval (.Call (.Attribute o m apos) (e :: es) [] pos) X.env = (do
      let ov ← eval o X.env
      standAt apos.atName
      let (g, first) ← holding [ov] (getMethod ov m pl)
      callWith pos g first (backTo pos (starEach (e :: es) X.env)) (backToKw pos (keywordEach [] X.env))) := by rfl) : PE X (.Call (.Attribute o m apos) (e :: es) [] pos) (tMeW C m sp E ta t) := by
  obtain ⟨f, fd, ps, cl, me, F, b⟩ := c.ex
  constructor
  intro pins s σ H Q I h
  refine PySem.W.methodCall_KW (pl := pl) (thn (ho.run pins s σ H _ I h) fun u s1 z => ?_) ht
  obtain ⟨y, H1, I1, ry, a, dx, fs, ey, ea, l, q⟩ := z
  subst ey
  obtain rfl : u = Value.ref a := ry
  refine getmeth_ok I1 ea cl me l ?_
  refine PySem.W.callWith_K (first := [.ref a]) (h₀ := X.base) I.ok.mod.kin me.kp (thn (ha.run pos pins s1 σ H1 _ I1 q) fun us s2 z => ?_) hst hpl
  obtain ⟨vs, H2, I2, r, q2⟩ := z
  exact ⟨I2.kIn, wpAny_call (run_atE (vs := .ref a :: vs) (us := .ref a :: us) F b (hx σ) (hr.mono hk) I2 (.cons rfl r) q2)⟩
theorem takes_fn {P : Program} {w : World} {K : PySem.W.Frag} {mg : Str → Option Value} {base : Heap} {N : List Str} {qual : Str} {scope : Scope} {f : Addr} {cd : Value} {A : Around} {outer : List Env} {s : Shared} {H : Hp} {E : XK} : L2N.Takes (cxOf (L2N.CX P w) P w K mg base N qual scope f cd A outer s H E) (fun cls d _ H' => E cls d H') := L2N.takes_of rfl rfl rfl rfl
end
end Z
set_option Elab.async false
set_option linter.all false
set_option maxRecDepth 100000
set_option maxHeartbeats 4000000
namespace Z
open PySem PySem.Spec PyProof.Rows L2 L2H
/-! ### calls within an except suite -/
section
variable {P : Program} {w : World} {K : PySem.W.Frag} {mg : Str → Option Value} {base : Heap} {x qual : Str} {params : Arguments} {body : List Stmt} {scope : Scope} {dvs : List V} {kws : List (Str × V)} {f : Addr} {fd : FuncData}
theorem fund_okH {N ps : List Str} {k : Nat} {sp : Sp} (F : FunD K x qual params body scope dvs kws f fd) (S : FnScope N ps scope) (len : ∀ vs H Q E, sp vs H Q E → vs.length = ps.length)
    (hbody : ∀ (cdv : Value) (A : Around) (outer : List Env) (s : Shared) (H : Hp) (vs : List V) (Q : VK) (E : XK) (p : Addr × Obj), Hot1 A p → RoomH k (A.deeper (envOfC qual scope s.heap.objs.size f cdv)) → sp vs H Q E →
      ∃ t, PSs (cxH CX0 P w K mg base N qual scope f cdv A outer s H E p) body t ∧ t { nx := fun _ H' => Q .non H', rt := Q } (L2.start N vs) H) : FnH P w K mg base CX0 (k + 1) f fd ps sp := by
  obtain ⟨oc, od, dV, kV, doc, pm, an, cdv, ct, osl, rfl, lk, hcd, _, _⟩ := F.ex
  exact fn_ofH lk hcd S len (hbody cdv)
structure CalH (P : Program) (w : World) (K : PySem.W.Frag) (mg : Str → Option Value) (base : Heap) (k : Nat) (x : Str) (sp : Sp) : Prop where
  ex : ∃ (f : Addr) (fd : FuncData) (ps : List Str), FnH P w K mg base CX0 k f fd ps sp ∧ mg x = some (.ref f) ∧ PySem.W.keepIn K (.ref f) = true ∧ Binds K fd ps []
end
section
variable {X : Cx} {k j : Nat} {x : Str} {sp : Sp} {p pos : Pos} {e : Expr} {es : List Expr} {t : TA}
theorem pe_clH (c : CalH X.prog X.w X.K X.mg X.base k x sp) (hr : RoomH j X.A) (hk : k ≤ j) (hc : HotC X) (hg : Gl X x) (ha : PA X (e :: es) t) (hdb : (x == ("__debug__" : Str)) = false := by decide) (he : starEach (e :: es) X.env = (false, eval e X.env) :: starEach es X.env := by rfl) (hpl : (backTo pos (starEach es X.env)).any (·.1) = false := by rfl) :
    PE X (.Call (.Name x p) (e :: es) [] pos) (tCallS sp (fun _ => E0) t) := by
  obtain ⟨f, fd, ps, F, hm, kp, b⟩ := c.ex
  exact pe_callH F (hr.mono hk) hc hg hm kp b (fun σ _ _ _ _ _ _ h => h.elim) ha hdb he hpl
theorem hotC_suite {a : Addr} {cls : Value} {d : Option Addr} {oe : Obj} {pn : List (Addr × Obj)} (hz : L2N.Zn cls d oe) (hf : ∃ vs, oe.data = .fields vs) : HotC (X.suite a ((a, oe) :: pn)) := by
  obtain ⟨vs, e⟩ := hf
  exact ⟨(a, oe), ⟨rfl, vs, e, hz.2.2 vs e⟩, List.mem_cons_self⟩
theorem room_mark {v : Option Value} {A : Around} (r : Room j A) : RoomH j (A.mark v) := roomH_mark r v
theorem takes0N : L2N.Takes X (fun _ _ _ _ => False) := fun _ _ x => by
  obtain ⟨_, _, _, _, _, _, _, _, _, _, _, _, _, _, _, _, z⟩ := x
  exact z.elim
end
theorem hotC_fn {P : Program} {w : World} {K : PySem.W.Frag} {mg : Str → Option Value} {base : Heap} {CX : CXT} {N : List Str} {qual : Str} {scope : Scope} {f : Addr} {cd : Value} {A : Around} {outer : List Env} {s : Shared} {H : Hp} {E : XK} {p : Addr × Obj} (h : Hot1 A p) : HotC (cxH CX P w K mg base N qual scope f cd A outer s H E p) :=
  ⟨p, ⟨h.1, h.2⟩, List.mem_cons_self⟩
end Z
set_option Elab.async false
set_option linter.all false
set_option maxRecDepth 100000
set_option maxHeartbeats 4000000
namespace Z
open PySem PySem.Spec PyProof.Rows L2 NdefX
/-! ### what the head tells of such a class -/
def oexB (K : PySem.W.Frag) (C : Addr) : Bool := (match K.lookup C with
  | some ⟨.type t, _, .cls cd, sl⟩ => (match cd.mro, sl.toList with
    | .ref D :: bm, [_, _, _, _, some (.builtin n), _] => decide (t = "type") && (decide (D = C) && (decide (n = "ValueError.__new__") && (!cd.hasDel && (cd.hasDict && PySem.HandSPX.refsVE bm))))
    | _, _ => false)
  | _ => false) && (He.eqO (PySem.W.findIn K (.ref C) "__setattr__") (some (some (.builtin "object.__setattr__"))) && (decide (PySem.W.subIn K (.ref C) (.type "BaseException") = some true) && (decide (PySem.W.typeIn K (.ref C) = some (.type "type")) && PySem.W.keepIn K (.ref C))))
theorem oexB_ok {K : PySem.W.Frag} {C : Addr} (h : oexB K C = true) : OexC K C := by
  obtain ⟨h0, h⟩ := He.ba h
  obtain ⟨h1, h⟩ := He.ba h
  obtain ⟨h2, h⟩ := He.ba h
  obtain ⟨h3, h4⟩ := He.ba h
  refine ⟨?_, He.eqO_ok h1, of_decide_eq_true h2, of_decide_eq_true h3, h4⟩
  split at h0
  · next t dd cd sl lk =>
    split at h0
    · next D bm a0 a1 a2 a3 n a5 em es =>
      obtain ⟨g1, h0⟩ := He.ba h0
      obtain ⟨g2, h0⟩ := He.ba h0
      obtain ⟨g3, h0⟩ := He.ba h0
      obtain ⟨g4, h0⟩ := He.ba h0
      obtain ⟨g5, g6⟩ := He.ba h0
      have g1 := of_decide_eq_true g1
      have g2 := of_decide_eq_true g2
      have g3 := of_decide_eq_true g3
      subst g1 g2 g3
      obtain ⟨c1, c2, c3, c4, c5, c6, c7, c8, c9, c10, c11⟩ := cd
      have k3 : c3 = .ref D :: bm := em
      have k4 : c11 = false := by
        have z : (!c11) = true := g4
        cases c11
        · rfl
        · cases z
      have k5 : c6 = true := g5
      clear em g4 g5
      subst k3 k4 k5
      refine ⟨c1, c5, c4, c2, bm, c7, c8, c9, c10, dd, a0, a1, a2, a3, a5, ?_, g6⟩
      rw [lk]
      have : sl = #[a0, a1, a2, a3, some (.builtin "ValueError.__new__"), a5] := by
        apply Array.toList_inj.mp
        rw [es]
      rw [this]
    · cases h0
  · cases h0
def initFd (K : PySem.W.Frag) (C : Addr) : Option FuncData := match K.lookup (He.ma K C "__init__") with
  | some ⟨_, _, .func fd, _⟩ => some fd
  | _ => none
abbrev SupV : Type := Option (Str × Str × Arguments × FuncBody × Scope × Addr × List Str × Value × Addr)
def supObs (K : PySem.W.Frag) (x : Str) : SupV := (initFd K (He.ga K x)).map fun fd => (fd.name, fd.qualname, fd.params, fd.body, fd.scope, fd.globals, fd.closure.map (·.1), fd.defaults, fd.builtins)
def supVal (q : Str) (st : Stmt) : SupV := some ("__init__", q, defArgs st, .stmts (defBody st), defScope st, mainGlobals, ["__class__"], .none, builtinsNs)
def supB (fl : Str) (K : PySem.W.Frag) (C : Addr) (q : Str) : Bool := (match initFd K C with
  | some fd => (match fd.code, fd.closure with
    | .ref c, [(_, cc)] => PySem.W.codeIn K (.ref c) q && ((match K.lookup c with
      | some ⟨_, _, .fields vs, _⟩ => (match (vs[2]? : Option Value) with
        | some (.str file _) => fl == file
        | _ => false)
      | _ => false) && (match K.lookup cc with
      | some ⟨_, _, .cell (some (.ref D)), _⟩ => decide (D = C)
      | _ => false))
    | _, _ => false)
  | none => false) && (decide (PySem.W.mroIn K C (.ref C) = some true) && (He.eqO (PySem.W.nsIn K cStatics "thirdparty.any") (some none) && (He.eqO (PySem.W.ks_superIn K C C "__init__") (some (some (.builtin "ValueError.__init__"))) && (decide (PySem.W.subIn K (.ref C) (.type "ValueError") = some true) && (PySem.W.excInitIn K C He.veBase "ValueError.__new__" && oexB K C)))))
theorem sup_of {P : Program} {K : PySem.W.Frag} {x q fl : Str} {st : Stmt} (h1 : supObs K x = supVal q st) (h2 : supB fl K (He.ga K x) q = true) (hfl : ((P.main.file : Str) == fl) = true) (htop : (P.main.scope.names.lookup ("super" : Str)).isSome = false) :
    ∃ (c cc : Addr) (fd : FuncData) (kV doc pm ct : Value) (an : Option Addr), fd = PySem.W.fnX "__init__" q (defArgs st) (defBody st) (defScope st) [(("__class__" : Str), cc)] .none kV doc pm an (.ref c) ct ∧ SupK P K (He.ga K x) (He.ma K (He.ga K x) "__init__") c cc fd ∧ PySem.W.codeIn K (.ref c) q = true := by
  obtain ⟨g0, h2⟩ := He.ba h2
  obtain ⟨g1, h2⟩ := He.ba h2
  obtain ⟨g2, h2⟩ := He.ba h2
  obtain ⟨g3, h2⟩ := He.ba h2
  obtain ⟨g4, h2⟩ := He.ba h2
  obtain ⟨g5, g6⟩ := He.ba h2
  unfold supObs at h1
  cases e : initFd K (He.ga K x) with
  | none =>
    rw [e] at h1
    cases h1
  | some fd =>
    rw [e] at h1 g0
    have lk : ∃ oc od osl, K.lookup (He.ma K (He.ga K x) "__init__") = some ⟨oc, od, .func fd, osl⟩ := by
      unfold initFd at e
      split at e
      · next oc od fd' osl l =>
        cases e
        exact ⟨_, _, _, l⟩
      · cases e
    obtain ⟨n1, n2, n3, n4, n5, n6, n7, n8, n9, n10, n11, n12, n13, n14, n15⟩ := fd
    have h1 : (some (n1, n2, n3, n4, n5, n6, n7.map (·.1), n8, n15) : SupV) = supVal q st := h1
    unfold supVal at h1
    simp only [Option.some.injEq, Prod.mk.injEq] at h1
    obtain ⟨a1, a2, a3, a4, a5, a6, a7, a8, a9⟩ := h1
    subst a1 a2 a3 a4 a5 a6 a8 a9
    dsimp only at g0
    split at g0
    · next c y cc =>
      obtain ⟨b1, g0⟩ := He.ba g0
      obtain ⟨b2, b3⟩ := He.ba g0
      have ey : y = "__class__" := by
        have := a7
        simpa using this
      subst ey
      refine ⟨c, cc, _, _, _, _, _, _, rfl, ⟨lk, ?_, ?_, htop, of_decide_eq_true g1, He.eqO_ok g2, He.eqO_ok g3, of_decide_eq_true g4, g5, oexB_ok g6⟩, b1⟩
      · split at b2
        · next u1 u2 vs u3 l =>
          split at b2
          · next file tf ev =>
            refine ⟨_, _, vs, _, file, tf, l, ev, ?_⟩
            rw [beq_iff_eq.mp b2] at hfl
            exact hfl
          · cases b2
        · cases b2
      · split at b3
        · next u1 u2 D u3 l =>
          have := of_decide_eq_true b3
          subst this
          exact ⟨_, _, _, l⟩
        · cases b3
    · cases g0
end Z
set_option Elab.async false
set_option linter.all false
set_option maxRecDepth 100000
set_option maxHeartbeats 4000000
namespace Z
open PySem PySem.Spec PyProof.Rows L2 NdefX
/-! ### isinstance(e, c), e a caught error with a dict of its own -/
def rIsX (K : PySem.W.Frag) (a : Addr) (cls : Value) (d : Option Addr) : List V → Hp → VK → Prop := fun xs H Q => ∃ (D dd : Addr) (fs : List (Str × V)) (c : V) (cv : Value) (b : Bool), cls = .ref D ∧ d = some dd ∧ ExcC K D ∧ H dd = some (.xd fs) ∧ xs = [.ref a, c] ∧ (∀ u, RelV c u → u = cv) ∧ PySem.W.kitOne K (.ref D) cv = some b ∧ Q (.bl b) H
theorem call_isX {X : Cx} {a : Addr} {cls : Value} {d : Option Addr} {oe : Obj} {pn : List (Addr × Obj)} (hz : Zc cls d oe) (hf : ∃ vs, oe.data = .fields vs) : CallR (X.suite a ((a, oe) :: pn)) (.builtin "isinstance") (rIsX X.K a cls d) := by
  intro pins s σ H xs us Q I r h
  obtain ⟨D, dd, fs, c, cv, b, rfl, rfl, C, ed, rfl, hcv, e, q⟩ := h
  obtain ⟨u1, u2, rfl, r1, r2⟩ := vals2 r
  cases r1
  have ec := hcv _ r2
  subst ec
  obtain ⟨hget, _⟩ := I.pin (a, oe) (List.mem_append.mpr (.inl List.mem_cons_self))
  obtain ⟨vs, hv⟩ := hf
  have hx : ObjOk X.prog X.w H s.heap dd (.xd fs) := I.hok dd _ ed
  obtain ⟨mA, hns, hr⟩ := hx
  obtain ⟨od, ho, hl⟩ := lookIn_ns hns
  have J : PySem.W.InstAt s.heap a oe D (some od) := ⟨hget, hz.1, by unfold PySem.W.notCls; rw [hv] <;> rfl, by rw [hz.2]; exact ho⟩
  have hcl : (PySem.W.clsIn X.K D).isSome = true := by
    obtain ⟨cd, hc, _⟩ := PySem.W.any_some C.hd
    rw [hc]
    rfl
  exact PySem.W.kia_one (PySem.W.kitx_exc hcl C.hg C.hk C.hs C.ha C.hn C.ht C.hm) I.kIn J e (fun z => nomatch z) fun tk => ⟨.bl b, H, I.kept (t' := tk) fun _ _ z => z, rfl, q⟩
end Z
set_option Elab.async false
set_option linter.all false
set_option maxRecDepth 100000
set_option maxHeartbeats 4000000
namespace Z
open PySem PySem.Spec PyProof.Rows L2 NdefX
/-! ### the head with own exceptions: facts of defs and classes, one more Bool, the __init__s -/
def asX (g : Addr → Option Obj) (n : Nat) : List Addr := He.asD g n ++ [cStatics]
def hookX (n : Nat) (fa : List He.Fa) (fn : List He.DefD) (xs : List Str) (vs : List SupV) (ex : PySem.W.Frag → Bool) : PySem.W.Hook where
  α := He.AlD × (List SupV × Bool)
  obs := fun s => (He.obsD fa fn (He.frG s.heap.get? (asX s.heap.get? n)), xs.map (supObs (He.frG s.heap.get? (asX s.heap.get? n))), ex (He.frG s.heap.get? (asX s.heap.get? n)))
  val := fun _ => (He.valD fn, vs, true)
  says := fun _ h => ∃ K : PySem.W.Frag, K.In h ∧ He.SaysD fa fn K ∧ xs.map (supObs K) = vs ∧ ex K = true
  of := fun _ _ e => ⟨_, He.frG_in, congrArg (fun z : He.AlD × (List SupV × Bool) => z.1) e, congrArg (fun z : He.AlD × (List SupV × Bool) => z.2.1) e, congrArg (fun z : He.AlD × (List SupV × Bool) => z.2.2) e⟩
  keeps := fun _ _ _ ⟨K, hK, c⟩ k => ⟨K, PySem.W.Frag.In.keeps hK k, c⟩
def obX (n : Nat) (fa : List He.Fa) (fn : List He.DefD) (xs : List Str) (ex : PySem.W.Frag → Bool) (g : Addr → Option Obj) : He.AlD × (List SupV × Bool) := (He.obsD fa fn (He.frG g (asX g n)), xs.map (supObs (He.frG g (asX g n))), ex (He.frG g (asX g n)))
theorem obX_eq {n : Nat} {fa : List He.Fa} {fn : List He.DefD} {xs : List Str} {vs : List SupV} {ex : PySem.W.Frag → Bool} {g : Addr → Option Obj} {s : Shared} (h : ∀ a, g a = s.heap.get? a) : obX n fa fn xs ex g = (hookX n fa fn xs vs ex).obs s := by
  have e : g = s.heap.get? := funext h
  rw [e] <;> rfl
theorem sup_at {xs : List Str} {vs : List SupV} {K : PySem.W.Frag} (e : xs.map (supObs K) = vs) (i : Nat) {x : Str} {v : SupV} (h1 : xs[i]? = some x := by rfl) (h2 : vs[i]? = some v := by rfl) : supObs K x = v := by
  have := congrArg (fun z : List SupV => z[i]?) e
  simp only [List.getElem?_map, h1, h2] at this
  exact Option.some.inj this
def excB (K : PySem.W.Frag) (D : Addr) : Bool := He.eqO (PySem.W.findIn K (.ref D) "__getattribute__") (some (some (.builtin "BaseException.__getattribute__"))) && (He.eqO (PySem.W.findIn K (.ref D) "__getattr__") (some none) && (decide (PySem.W.subIn K (.ref D) (.type "BaseException") = some true) && (PySem.W.hasDictIn K D && (He.eqO (PySem.W.findIn K (.ref D) "__class__") (some (some (.builtin "object.__class__"))) && (He.eqO (PySem.W.specialIn K (.builtin "object.__class__") "__get__") (some (some (.builtin "getset_descriptor.__get__"))) && (decide (PySem.W.takesIn K (.builtin "object.__class__") = some true) && decide (PySem.W.mroIn K D (.type "object") = some true)))))))
theorem excB_ok {K : PySem.W.Frag} {D : Addr} (h : excB K D = true) : ExcC K D ∧ XfC K D := by
  obtain ⟨h1, h⟩ := He.ba h
  obtain ⟨h2, h⟩ := He.ba h
  obtain ⟨h3, h⟩ := He.ba h
  obtain ⟨h4, h⟩ := He.ba h
  obtain ⟨h5, h⟩ := He.ba h
  obtain ⟨h6, h⟩ := He.ba h
  obtain ⟨h7, h8⟩ := He.ba h
  exact ⟨⟨He.eqO_ok h1, He.eqO_ok h2, of_decide_eq_true h3, h4, He.eqO_ok h5, He.eqO_ok h6, of_decide_eq_true h7, of_decide_eq_true h8⟩, ⟨He.eqO_ok h1, He.eqO_ok h2, of_decide_eq_true h3, h4⟩⟩
/-- an own exception class with the field -/
def exnB (fl q field : Str) (K : PySem.W.Frag) (C : Addr) : Bool := supB fl K C q && (He.eqO (PySem.W.findIn K (.ref C) "__init__") (some (some (.ref (He.ma K C "__init__")))) && (decide (PySem.W.typeIn K (.ref (He.ma K C "__init__")) = some (.type "function")) && (He.eqO (PySem.W.findIn K (.ref C) field) (some none) && excB K C)))
structure ExnF (K : PySem.W.Frag) (C : Addr) (q field fl : Str) : Prop where
  sup : supB fl K C q = true
  ini : PySem.W.findIn K (.ref C) "__init__" = some (some (.ref (He.ma K C "__init__")))
  ty : PySem.W.typeIn K (.ref (He.ma K C "__init__")) = some (.type "function")
  no : PySem.W.findIn K (.ref C) field = some none
  ec : ExcC K C
  xf : XfC K C
theorem exnB_ok {fl q field : Str} {K : PySem.W.Frag} {C : Addr} (h : exnB fl q field K C = true) : ExnF K C q field fl := by
  obtain ⟨h1, h⟩ := He.ba h
  obtain ⟨h2, h⟩ := He.ba h
  obtain ⟨h3, h⟩ := He.ba h
  obtain ⟨h4, h5⟩ := He.ba h
  exact ⟨h1, He.eqO_ok h2, of_decide_eq_true h3, He.eqO_ok h4, (excB_ok h5).1, (excB_ok h5).2⟩
def exmB (K : PySem.W.Frag) (a b : Addr) : Bool := decide (PySem.W.exmOne K (.ref a) (.ref b) = some true)
def kitVB (K : PySem.W.Frag) (a : Addr) (v : Value) (b : Bool) : Bool := decide (PySem.W.kitOne K (.ref a) v = some b)
end Z
set_option Elab.async false
set_option linter.all false
set_option maxRecDepth 100000
set_option maxHeartbeats 4000000
namespace Z
open PySem PySem.Spec PyProof.Rows L2 NdefX
/-! ### the head with own exceptions and properties: further observations are any functions of the written part -/
def hookY (n : Nat) (fa : List He.Fa) (fn : List He.DefD) (xs : List (PySem.W.Frag → SupV)) (vs : List SupV) (ex : PySem.W.Frag → Bool) : PySem.W.Hook where
  α := He.AlD × (List SupV × Bool)
  obs := fun s => (He.obsD fa fn (He.frG s.heap.get? (asX s.heap.get? n)), xs.map (fun f => f (He.frG s.heap.get? (asX s.heap.get? n))), ex (He.frG s.heap.get? (asX s.heap.get? n)))
  val := fun _ => (He.valD fn, vs, true)
  says := fun _ h => ∃ K : PySem.W.Frag, K.In h ∧ He.SaysD fa fn K ∧ xs.map (fun f => f K) = vs ∧ ex K = true
  of := fun _ _ e => ⟨_, He.frG_in, congrArg (fun z : He.AlD × (List SupV × Bool) => z.1) e, congrArg (fun z : He.AlD × (List SupV × Bool) => z.2.1) e, congrArg (fun z : He.AlD × (List SupV × Bool) => z.2.2) e⟩
  keeps := fun _ _ _ ⟨K, hK, c⟩ k => ⟨K, PySem.W.Frag.In.keeps hK k, c⟩
def obY (n : Nat) (fa : List He.Fa) (fn : List He.DefD) (xs : List (PySem.W.Frag → SupV)) (ex : PySem.W.Frag → Bool) (g : Addr → Option Obj) : He.AlD × (List SupV × Bool) := (He.obsD fa fn (He.frG g (asX g n)), xs.map (fun f => f (He.frG g (asX g n))), ex (He.frG g (asX g n)))
theorem obY_eq {n : Nat} {fa : List He.Fa} {fn : List He.DefD} {xs : List (PySem.W.Frag → SupV)} {vs : List SupV} {ex : PySem.W.Frag → Bool} {g : Addr → Option Obj} {s : Shared} (h : ∀ a, g a = s.heap.get? a) : obY n fa fn xs ex g = (hookY n fa fn xs vs ex).obs s := by
  have e : g = s.heap.get? := funext h
  rw [e] <;> rfl
theorem y_at {xs : List (PySem.W.Frag → SupV)} {vs : List SupV} {K : PySem.W.Frag} (e : xs.map (fun f => f K) = vs) (i : Nat) {f : PySem.W.Frag → SupV} {v : SupV} (h1 : xs[i]? = some f := by rfl) (h2 : vs[i]? = some v := by rfl) : f K = v := by
  have := congrArg (fun z : List SupV => z[i]?) e
  simp only [List.getElem?_map, h1, h2] at this
  exact Option.some.inj this
def isB (K : PySem.W.Frag) (C : Addr) : Bool := He.eqO (PySem.W.findIn K (.ref C) "__class__") (some (some (.builtin "object.__class__"))) && (He.eqO (PySem.W.specialIn K (.builtin "object.__class__") "__get__") (some (some (.builtin "getset_descriptor.__get__"))) && (decide (PySem.W.takesIn K (.builtin "object.__class__") = some true) && (decide (PySem.W.mroIn K C (.type "object") = some true) && decide (PySem.W.kitOne K (.ref C) (.ref C) = some true))))
theorem isB_ok {K : PySem.W.Frag} {C : Addr} (cl : Cls K C) (h : isB K C = true) : C8.InsC K C := by
  obtain ⟨h1, h⟩ := He.ba h
  obtain ⟨h2, h⟩ := He.ba h
  obtain ⟨h3, h⟩ := He.ba h
  obtain ⟨h4, h5⟩ := He.ba h
  exact ⟨cl, He.eqO_ok h1, He.eqO_ok h2, of_decide_eq_true h3, of_decide_eq_true h4, of_decide_eq_true h5⟩
def spB (K : PySem.W.Frag) (C : Addr) (m : Str) : Bool := He.eqO (PySem.W.findIn K (.ref C) m) (some (some (.ref (He.ma K C m)))) && (PySem.W.isFn K (.ref (He.ma K C m)) && PySem.W.fnIn K (He.ma K C m))
theorem spB_ok {K : PySem.W.Frag} {C : Addr} {m : Str} (h : spB K C m = true) : PySem.W.findIn K (.ref C) m = some (some (.ref (He.ma K C m))) ∧ PySem.W.isFn K (.ref (He.ma K C m)) = true ∧ PySem.W.fnIn K (He.ma K C m) = true := by
  obtain ⟨h1, h⟩ := He.ba h
  obtain ⟨h2, h3⟩ := He.ba h
  exact ⟨He.eqO_ok h1, h2, h3⟩
theorem all_at {bs : List Bool} (h : bs.all id = true) (i : Nat) {b : Bool} (e : bs[i]? = some b := by rfl) : b = true := List.all_eq_true.mp h b (List.mem_of_getElem? e)
theorem fnr_ok {P : Program} {w : World} {K : PySem.W.Frag} {mg : Str → Option Value} {base : Heap} {k : Nat} {f : Addr} {fd : FuncData} {ps : List Str} {sp : Sp} (F : FnOk P w K mg base CX0 k f fd ps sp) (b : Binds K fd ps []) : FnR P w K mg base CX0 k f sp := (FnOk.raw (dvs := []) F b .nil).imp fun vs H Q E h => by
  show sp (vs ++ []) H Q E
  rw [List.append_nil]
  exact h
/-! a property's getter -/
def gtA (K : PySem.W.Frag) (C : Addr) (m : Str) : Addr := match PySem.W.recIn K (He.ma K C m) "property" with
  | some (.ref g :: _) => g
  | _ => 0
def fdAt (K : PySem.W.Frag) (g : Addr) : Option FuncData := match K.lookup g with
  | some ⟨_, _, .func fd, _⟩ => some fd
  | _ => none
def propObs (x m : Str) (K : PySem.W.Frag) : SupV := (fdAt K (gtA K (He.ga K x) m)).map fun fd => (fd.name, fd.qualname, fd.params, fd.body, fd.scope, fd.globals, fd.closure.map (·.1), fd.defaults, fd.builtins)
def propVal (m q : Str) (st : Stmt) : SupV := some (m, q, defArgs st, .stmts (defBody st), defScope st, mainGlobals, [], .none, builtinsNs)
def propB (K : PySem.W.Frag) (C : Addr) (m q : Str) : Bool := He.eqO (PySem.W.findIn K (.ref C) m) (some (some (.ref (He.ma K C m)))) && (He.eqO (PySem.W.specialIn K (.ref (He.ma K C m)) "__get__") (some (some (.builtin "property.__get__"))) && (decide (PySem.W.takesIn K (.ref (He.ma K C m)) = some true) && ((match PySem.W.recIn K (He.ma K C m) "property" with
  | some (.ref _ :: _) => true
  | _ => false) && (PySem.W.keepIn K (.ref (gtA K C m)) && (match fdAt K (gtA K C m) with
  | some fd => PySem.W.codeIn K fd.code q && (He.dflB K fd.defaults [] && He.kwdB K fd.kwdefaults [])
  | none => false)))))
theorem prop_of {K : PySem.W.Frag} {x m q : Str} {st : Stmt} (h1 : propObs x m K = propVal m q st) (h2 : propB K (He.ga K x) m q = true) : ∃ fd : FuncData, PropOf K (He.ga K x) m (He.ma K (He.ga K x) m) (gtA K (He.ga K x) m) ∧ FunD K m q (defArgs st) (defBody st) (defScope st) [] [] (gtA K (He.ga K x) m) fd := by
  obtain ⟨g0, h2⟩ := He.ba h2
  obtain ⟨g1, h2⟩ := He.ba h2
  obtain ⟨g2, h2⟩ := He.ba h2
  obtain ⟨g3, h2⟩ := He.ba h2
  obtain ⟨g4, g5⟩ := He.ba h2
  have P : PropOf K (He.ga K x) m (He.ma K (He.ga K x) m) (gtA K (He.ga K x) m) := by
    refine ⟨He.eqO_ok g0, He.eqO_ok g1, of_decide_eq_true g2, ?_⟩
    unfold gtA
    split at g3
    · next g rest e =>
      rw [e]
      exact ⟨rest, rfl⟩
    · cases g3
  unfold propObs at h1
  cases e : fdAt K (gtA K (He.ga K x) m) with
  | none =>
    rw [e] at h1
    cases h1
  | some fd =>
    rw [e] at h1 g5
    have lk : ∃ oc od osl, K.lookup (gtA K (He.ga K x) m) = some ⟨oc, od, .func fd, osl⟩ := by
      unfold fdAt at e
      split at e
      · next oc od fd' osl l =>
        cases e
        exact ⟨_, _, _, l⟩
      · cases e
    obtain ⟨oc, od, osl, lk⟩ := lk
    obtain ⟨n1, n2, n3, n4, n5, n6, n7, n8, n9, n10, n11, n12, n13, n14, n15⟩ := fd
    have h1 : (some (n1, n2, n3, n4, n5, n6, n7.map (·.1), n8, n15) : SupV) = propVal m q st := h1
    unfold propVal at h1
    simp only [Option.some.injEq, Prod.mk.injEq] at h1
    obtain ⟨a1, a2, a3, a4, a5, a6, a7, a8, a9⟩ := h1
    have a7 : n7 = [] := List.map_eq_nil_iff.mp a7
    subst a1 a2 a3 a4 a5 a6 a7 a8 a9
    obtain ⟨k1, k2⟩ := He.ba (show (PySem.W.codeIn K n13 n2 && (He.dflB K .none [] && He.kwdB K n9 [])) = true from g5)
    obtain ⟨k3, k4⟩ := He.ba k2
    exact ⟨_, P, ⟨oc, od, _, n9, n10, n11, n12, n13, n14, osl, rfl, lk, k1, He.dflB_ok k3, He.kwdB_ok k4⟩, g4⟩
end Z
set_option Elab.async false
set_option linter.all false
set_option maxRecDepth 100000
set_option maxHeartbeats 4000000
namespace Z
open PySem PySem.Spec PyProof.Rows L2
/-! ### comprehensions that give ints, over a list of ints and over a range -/
theorem lc_ofs {K : PySem.W.Frag} {J : It} {D : Addr} {n : Nat} {H0 : Hp} {i : Nat} {te : TE} {vs : List Nat} {σ : L2.St} {Qd : Hp → Prop} (g : Nat → Int) (xv : Nat → V) (hn : n ≤ 1000000) (nD : H0 D = none)
    (hgo : ∀ k H1, k < n → Same H0 H1 → J.go k H1) (hst : ∀ H1, Same H0 H1 → J.stop n H1) (hy : ∀ k H1 x H2, k < n → Same H0 H1 → J.yld k H1 x H2 → H2 = H1 ∧ x = xv k)
    (hw : ∀ k, wipe ((wipe σ vs).set i (some (xv k))) vs = wipe σ vs)
    (ht : ∀ k H1 (Q : VK), k < n → Same H0 H1 → (∀ H2, Same H1 H2 → Q (.int (g k)) H2) → te ((wipe σ vs).set i (some (xv k))) H1 Q)
    (hd : ∀ H1, Same H0 H1 → H1 D = some (.lst (((List.range n).map g).map V.int)) → Qd H1) : lcW J (gName i) tYes te vs σ D Qd H0 := by
  refine lc_gen (n := n) (fun k H1 => Same H0 H1 ∧ H1 D = some (.lst (((List.range k).map g).map V.int))) ⟨same_new nD, upd_same⟩ (fun k H1 hk p => hgo k H1 hk p.1) (fun H1 p => hst H1 p.1) ?_ (fun H1 p => hd H1 p.1 p.2)
  rintro k H1 x H2 hk ⟨s, e⟩ y
  obtain ⟨rfl, rfl⟩ := hy k H1 x H2 hk s y
  refine ⟨hw k, ?_⟩
  refine ht k _ _ hk s (fun H3 s3 => ⟨_, s3 _ _ e, ?_, Z.Same.mut (s.trans s3) nD, ?_⟩)
  · rw [List.length_map, List.length_map, List.length_range]
    exact Nat.lt_of_lt_of_le hk (Nat.le_trans hn (by decide))
  · rw [upd_same, List.range_succ, List.map_append, List.map_append]
    rfl
theorem lc_rng {K : PySem.W.Frag} {lo : Int} {D : Addr} {n : Nat} {H0 : Hp} {i : Nat} {te : TE} {vs : List Nat} {σ : L2.St} {Qd : Hp → Prop} (g : Nat → Int) (hn : n ≤ 1000000) (nD : H0 D = none) (hw : ∀ k : Nat, wipe ((wipe σ vs).set i (some (.int (lo + k)))) vs = wipe σ vs)
    (ht : ∀ (k : Nat) H1 (Q : VK), k < n → Same H0 H1 → (∀ H2, Same H1 H2 → Q (.int (g k)) H2) → te ((wipe σ vs).set i (some (.int (lo + k)))) H1 Q)
    (hd : ∀ H1, Same H0 H1 → H1 D = some (.lst (((List.range n).map g).map V.int)) → Qd H1) : lcW (Itr lo n) (gName i) tYes te vs σ D Qd H0 :=
  lc_ofs (K := K) g (fun k => .int (lo + k)) hn nD (fun k H1 hk _ => hk) (fun H1 _ => Nat.le_refl _) (fun k H1 x H2 _ _ y => y) hw ht hd
theorem lc_lst {K : PySem.W.Frag} {a D : Addr} {xs : List Int} {H0 : Hp} {i : Nat} {te : TE} {vs : List Nat} {σ : L2.St} {Qd : Hp → Prop} (hS : SqL K H0 a (xs.map V.int)) (g : Int → Int) (hn : xs.length ≤ 1000000) (nD : H0 D = none) (hw : ∀ x : Int, wipe ((wipe σ vs).set i (some (.int x))) vs = wipe σ vs)
    (ht : ∀ x H1 (Q : VK), x ∈ xs → Same H0 H1 → (∀ H2, Same H1 H2 → Q (.int (g x)) H2) → te ((wipe σ vs).set i (some (.int x))) H1 Q)
    (hd : ∀ H1, Same H0 H1 → H1 D = some (.lst ((xs.map g).map V.int)) → Qd H1) : lcW (Itl K a) (gName i) tYes te vs σ D Qd H0 := by
  have ex : ∀ k, k < xs.length → (xs.map V.int)[k]? = some (.int (xs.getD k 0)) := fun k hk => by
    rw [List.getElem?_map, List.getD_eq_getElem?_getD, List.getElem?_eq_getElem hk]
    rfl
  refine lc_ofs (K := K) (n := xs.length) (fun k => g (xs.getD k 0)) (fun k => .int (xs.getD k 0)) hn nD (fun k H1 hk s => ⟨_, _, s.seq hS, ex k hk⟩) (fun H1 s => ⟨_, s.seq hS, by rw [List.length_map]; exact Nat.le_refl _⟩) (fun k H1 x H2 hk s y => ⟨y.1, Option.some.inj ((y.2 _ (s.seq hS)).symm.trans (ex k hk))⟩) (fun k => hw _) (fun k H1 Q hk s q => ht _ H1 Q ?_ s q) (fun H1 s e => hd H1 s ?_)
  · rw [List.getD_eq_getElem?_getD, List.getElem?_eq_getElem hk]
    exact List.getElem_mem hk
  · rw [e]
    congr 2
    congr 1
    apply List.ext_getElem
    · rw [List.length_map, List.length_map, List.length_range]
    · intro k h1 h2
      rw [List.length_map] at h2
      rw [List.getElem_map, List.getElem_map, List.getElem_range, List.getD_eq_getElem?_getD, List.getElem?_eq_getElem h2]
      rfl
/-- for x in xs, ints -/
theorem for_lst {K : PySem.W.Frag} {a : Addr} {xs : List Int} {H0 H : Hp} {i : Nat} {tb : TS} {D : Ends} {σ : L2.St} (hS : SqL K H0 a (xs.map V.int)) (Pv : Nat → L2.St → Hp → Prop) (h0 : Pv 0 σ H) (hq : ∀ k σ H1, Pv k σ H1 → Same H0 H1)
    (hs : ∀ (k : Nat) (x : Int) (σ : L2.St) (H1 : Hp), xs[k]? = some x → Pv k σ H1 → tb { D with nx := Pv (k + 1), ct := Pv (k + 1), bk := D.nx } (σ.set i (some (.int x))) H1)
    (hd : ∀ σ H1, Pv xs.length σ H1 → D.nx σ H1) : forW (Itl K a) (gName i) tb D σ H := by
  have ex : ∀ k, k < xs.length → (xs.map V.int)[k]? = some (.int (xs.getD k 0)) := fun k hk => by
    rw [List.getElem?_map, List.getD_eq_getElem?_getD, List.getElem?_eq_getElem hk]
    rfl
  refine for_gen (n := xs.length) Pv h0 (fun k σ H1 hk p => ⟨_, _, (hq k σ H1 p).seq hS, ex k hk⟩) (fun σ H1 p => ⟨_, (hq _ σ H1 p).seq hS, by rw [List.length_map]; exact Nat.le_refl _⟩) ?_ hd
  intro k σ H1 x H2 hk p y
  obtain ⟨rfl, e⟩ := y
  have e2 := Option.some.inj ((e _ ((hq k σ _ p).seq hS)).symm.trans (ex k hk))
  subst e2
  refine hs k _ σ _ ?_ p
  rw [List.getD_eq_getElem?_getD, List.getElem?_eq_getElem hk]
  rfl
/-- for x in xs, any values -/
theorem for_vs {K : PySem.W.Frag} {a : Addr} {xs : List V} {H0 H : Hp} {i : Nat} {tb : TS} {D : Ends} {σ : L2.St} (hS : SqL K H0 a xs) (Pv : Nat → L2.St → Hp → Prop) (h0 : Pv 0 σ H) (hq : ∀ k σ H1, Pv k σ H1 → Same H0 H1)
    (hs : ∀ (k : Nat) (x : V) (σ : L2.St) (H1 : Hp), xs[k]? = some x → Pv k σ H1 → tb { D with nx := Pv (k + 1), ct := Pv (k + 1), bk := D.nx } (σ.set i (some x)) H1)
    (hd : ∀ σ H1, Pv xs.length σ H1 → D.nx σ H1) : forW (Itl K a) (gName i) tb D σ H := by
  refine for_gen (n := xs.length) Pv h0 (fun k σ H1 hk p => ⟨_, _, (hq k σ H1 p).seq hS, List.getElem?_eq_getElem hk⟩) (fun σ H1 p => ⟨_, (hq _ σ H1 p).seq hS, Nat.le_refl _⟩) ?_ hd
  intro k σ H1 x H2 hk p y
  obtain ⟨rfl, e⟩ := y
  exact hs k x σ _ (e _ ((hq k σ _ p).seq hS)) p
theorem pe_fld_K {X : Cx} {K : PySem.W.Frag} {e : Expr} {f : Str} {pos : Pos} {ta : TE} (h : X.K = K) (he : PE X e ta) (hb : attributeBase e f X.env (eval e X.env) = eval e X.env) : PE X (.Attribute e f pos) (tFld K ta f) := by
  subst h
  exact pe_fld he hb
/-! ### reads -/
theorem at_nat {xs : List Int} {i : Int} (h0 : 0 ≤ i) (h1 : i < xs.length) : atI (xs.map V.int) i = some (.int (xs.getD i.toNat 0)) := by
  have hk : i.toNat < xs.length := by omega
  rw [show i = ((i.toNat : Nat) : Int) by omega, List.getD_eq_getElem?_getD, Int.toNat_natCast, List.getElem?_eq_getElem hk]
  exact at_map (List.getElem?_eq_getElem hk)
theorem rd_at {K : PySem.W.Frag} {H : Hp} {a : Addr} {xs : List Int} {i : Int} {R : V → Prop} (h : SqL K H a (xs.map V.int)) (h0 : 0 ≤ i) (h1 : i < xs.length) (q : R (.int (xs.getD i.toNat 0))) : ∃ a' ys j v, V.ref a = .ref a' ∧ V.int i = .int j ∧ SqL K H a' ys ∧ atI ys j = some v ∧ R v := ⟨a, _, i, _, rfl, rfl, h, at_nat h0 h1, q⟩
theorem rd_atT {K : PySem.W.Frag} {H : Hp} {a : Addr} {xs : List Int} {i : Int} {R : V → Prop} (h : SqT K H a (xs.map V.int)) (h0 : 0 ≤ i) (h1 : i < xs.length) (q : R (.int (xs.getD i.toNat 0))) : ∃ a' ys j v, V.ref a = .ref a' ∧ V.int i = .int j ∧ SqT K H a' ys ∧ atI ys j = some v ∧ R v := ⟨a, _, i, _, rfl, rfl, h, at_nat h0 h1, q⟩
end Z
set_option Elab.async false
set_option linter.all false
set_option maxRecDepth 100000
set_option maxHeartbeats 4000000
namespace Z
open PySem PySem.Spec PyProof.Rows L2
/-! ### enumerate(x) of one argument: x a list, a tuple or a text -/
theorem enum_new1 {v : Value} {o : Obj} {G : Heap → Prop} (B : Begins v o G) :
    Meets (Builtin.«enumerate.__new__» ⟨[.type "enumerate", v], []⟩) (fun _ R s => G s.heap ∧
      R (.ok (.ret (.ref (s.heap.push o).objs.size))) { s with heap := (s.heap.push o).push { cls := .type "enumerate", data := .fields #[.none, .bool false, .ref s.heap.objs.size, rawInt 0, .none, .none] } }) :=
  .of_wp fun prog w A R s h => by
    obtain ⟨hp, gl, dd, tok, oo⟩ := s
    obtain ⟨g1, h⟩ := h
    have hsub := sub_enumerate
    have step : ∀ {A' : Around} {E : Value → Shared → Prop} {Q : Value → Shared → Prop}, Q (.ref hp.objs.size) ⟨hp.push o, gl, dd, tok, oo⟩ → wpAny (model prog w) A' (pyIter v) Q E ⟨hp, gl, dd, tok, oo⟩ := fun z => B.iter prog w _ _ ⟨hp, gl, dd, tok, oo⟩ _ g1 z
    wp_walk using step
    refine wpAny_stack_any fun _ => wpAny_pure ?_
    split
    · rename_i cc _ _ _ _ _
      cases (cc == Value.type "enumerate") <;>
        (wp_walk using step
         exact ⟨_, rfl, h⟩)
    · wp_walk using step
      exact ⟨_, rfl, h⟩
section
variable {prog : Program} {w : World} {A : Around} {E : Value → Shared → Prop} {s : Shared}
theorem enum_begins1 {v : Value} {o : Obj} {G : Heap → Prop} {Q : Value → Shared → Prop} (B : Begins v o G) (g : G s.heap)
    (h : ∀ h', IsEnum h' (s.heap.objs.size + 1) s.heap.objs.size 0 .none → h'.get? s.heap.objs.size = some o → (∀ b ob, s.heap.get? b = some ob → h'.get? b = some ob) → Q (.ref (s.heap.objs.size + 1)) { s with heap := h' }) :
    wpAny (model prog w) A (call (.type "enumerate") [v]) Q E s := by
  refine callType_new F.called_enumerate (by decide) (F.typeCall_enumerate_1 v) (F.newCall_enumerate_1 v) (fun ob => F.args_object_init_2 ob _) F.entry_enumerate_new (enum_new1 B) ⟨g, ?_⟩
  have sz : (s.heap.push o).objs.size = s.heap.objs.size + 1 := Heap.size_push ..
  show _ ∧ _
  rw [sz]
  have ie : IsEnum ((s.heap.push o).push { cls := .type "enumerate", data := .fields #[.none, .bool false, .ref s.heap.objs.size, rawInt 0, .none, .none] }) (s.heap.objs.size + 1) s.heap.objs.size 0 .none := by
    have z := Heap.get?_push_size (s.heap.push o) (o := { cls := .type "enumerate", data := .fields #[.none, .bool false, .ref s.heap.objs.size, rawInt 0, .none, .none] }) rfl
    rw [sz] at z
    exact z
  exact ⟨⟨_, ie, rfl⟩, h _ ie (Heap.get?_push_of_some _ (Heap.get?_push_size _ B.free)) fun b ob z => Heap.get?_push_of_some _ (Heap.get?_push_of_some _ z)⟩
end
/-- pairs of a turn's number and its item -/
def ItEM (p : Bool) (K : PySem.W.Frag) (a : Addr) : It :=
  ⟨fun i H => ∃ (xs : List V) (x : V), SqK p K H a xs ∧ xs[i]? = some x,
   fun i H v H' => ∃ T x, v = .ref T ∧ H T = none ∧ H' = upd H T (.tup [.int (i : Nat), x]) ∧ (∀ xs, SqK p K H a xs → xs[i]? = some x),
   fun i H => ∃ xs : List V, SqK p K H a xs ∧ xs.length = i⟩
def ItES (z : Str) : It :=
  ⟨fun i _ => i < z.cps.size,
   fun i H v H' => ∃ T c, v = .ref T ∧ H T = none ∧ H' = upd H T (.tup [.int (i : Nat), .str ⟨#[c]⟩]) ∧ z.cps[i]? = some c,
   fun i _ => z.cps.size = i⟩
theorem enum_item {X : Cx} {pins : List (Addr × Obj)} {σ : L2.St} {H : Hp} {s : Shared} {e it : Addr} {fp : List Addr} {n i : Nat} {Pi : Nat → Value → Prop} {Si : Nat → Heap → Prop} {old : Value} {elts : List Expr} {kk : Nat} {tpos : Pos} {E : Value → Shared → Prop}
    (I : Inv X pins σ H s) (hf : ∀ b ∈ [e, it], FpOk X pins H b) (D : Draws X.prog X.w X.A.in1 it fp n Pi Si) (he : IsEnum s.heap e it ((i : Nat) : Int) old) (st : Si i s.heap) (lt : i < n) (ne : e ≠ it) (ef : e ∉ fp)
    (x : V) (ru : ∀ v, Pi i v → L2.RelV x v) :
    wpAny (model X.prog X.w) X.A (pyNext (.ref e)) (fun r s1 => ∃ u, r = some u ∧ wpAny (model X.prog X.w) X.A (letOwnedTupleGo (.Tuple elts kk tpos) (.ref e) u) (fun _ s2 => ∃ T, u = .ref T ∧ H T = none ∧ Inv X pins σ (upd H T (.tup [.int (i : Nat), x])) s2 ∧ (∃ o, IsEnum s2.heap e it ((i + 1 : Nat) : Int) o) ∧ Si (i + 1) s2.heap ∧ ∀ b ∈ [e, it], upd H T (.tup [.int (i : Nat), x]) b = none) E s1) E s := by
  have el : e < s.heap.objs.size := Heap.lt_size he
  have il : it < s.heap.objs.size := by
    obtain ⟨_, z⟩ := D.live _ _ st
    exact Heap.lt_size z
  refine wpAny_pyNext_enum_itemC D he st lt ne ef fun v g tk pv go st' gT gs gk => ?_
  refine ⟨_, rfl, wpAny_letOwnedTupleGo_enum (s := { s with heap := g, toks := tk + 1 }) go fun g2 ge sb => ?_⟩
  have gT2 : g2.get? s.heap.objs.size = some { cls := .type "tuple", data := .seq #[.int i tk, v] } := (sb.2 _ (Nat.ne_of_gt el)).trans gT
  have nw : ObjOk X.prog X.w (upd H s.heap.objs.size (.tup [.int (i : Nat), x])) g2 s.heap.objs.size (.tup [.int (i : Nat), x]) := ⟨by show 2 ≤ sizeLine; decide, [.int i tk, v], .cons ⟨tk, rfl⟩ (.cons (ru v pv) .nil), ⟨_, gT2, rfl, _, rfl⟩⟩
  have I1 : Inv X pins σ (upd H s.heap.objs.size (.tup [.int (i : Nat), x])) { s with heap := g2, toks := tk + 1 } :=
    I.turnedNew (t' := tk + 1) (ch := [e, it]) (fun b ob nb z => (sb.2 b (fun w => nb (by simp [w]))).trans (gk b ob (fun w => nb (by simp [w])) (fun w => nb (by simp [w])) z)) hf (Nat.le_refl _) nw
  refine ⟨_, rfl, I.hok.fresh (Nat.le_refl _), I1, ⟨v, ?_⟩, D.frame _ _ _ st' fun b hb o z => (sb.2 b fun w => ef (w ▸ hb)).trans z, fun b hb => ?_⟩
  · rw [show ((i + 1 : Nat) : Int) = (i : Int) + 1 by omega]
    exact ge
  · have lb : b < s.heap.objs.size := by
      rcases (show b = e ∨ b = it by simpa using hb) with z | z
      · rw [z]
        exact el
      · rw [z]
        exact il
    rw [upd_ne (Nat.ne_of_lt lb)]
    exact (hf b hb).1
theorem enum_done {X : Cx} {pins : List (Addr × Obj)} {σ : L2.St} {H : Hp} {s : Shared} {e it : Addr} {fp : List Addr} {n : Nat} {Pi : Nat → Value → Prop} {Si : Nat → Heap → Prop} {old : Value} {c : Int} {E : Value → Shared → Prop}
    (I : Inv X pins σ H s) (hf : ∀ b ∈ [e, it], FpOk X pins H b) (D : Draws X.prog X.w X.A.in1 it fp n Pi Si) (he : IsEnum s.heap e it c old) (st : Si n s.heap) :
    wpAny (model X.prog X.w) X.A (pyNext (.ref e)) (fun r s1 => r = none ∧ Inv X pins σ H s1) E s := by
  obtain ⟨f0, f1, f2, f3, f4, f5⟩ := hf it (by simp)
  exact wpAny_pyNext_enum_endD D he st fun g gk => ⟨rfl, I.turned (t' := s.toks) (fun b o hb z => gk b o hb z) f0 f1 f3 f4 f5⟩
theorem turn_enumM {p : Bool} {P : Program} {w : World} {K : PySem.W.Frag} {elts : List Expr} {kk : Nat} {tpos : Pos} (a e it : Addr) (ea : e ≠ a) (ia : a ≠ it) :
    Turn P w K (.Tuple elts kk tpos) (ItEM p K a) [e, it] e (fun i h => (∃ old, IsEnum h e it ((i : Nat) : Int) old) ∧ ItK p h it a i ∧ e ≠ it) where
  mem := by simp
  obj := fun i h st b hb => by
    obtain ⟨⟨old, he⟩, hi, _⟩ := st
    rcases (show b = e ∨ b = it by simpa using hb) with z | z
    · rw [z]
      exact ⟨_, he, fun v q => nomatch q⟩
    · rw [z]
      exact hi.obj
  keep := fun i h h' st k => by
    obtain ⟨⟨old, he⟩, hi, ne⟩ := st
    exact ⟨⟨old, k e (by simp) _ he⟩, hi.at' (fun o z => k it (by simp) o z), ne⟩
  item := by
    intro X hP hw hK hc i pins s σ H E I hf st hg
    subst hP hw hK
    obtain ⟨⟨old, he⟩, hi, ne⟩ := st
    obtain ⟨xs, x, qx, ex⟩ := hg
    obtain ⟨us, rx, kx, _⟩ := sqk_is I qx
    obtain ⟨u, eu, ru⟩ := rx.get ex
    have lu : i < us.toArray.size := by simpa using (List.getElem?_eq_some_iff.mp eu).1
    have hh : X.A.in1.handled = none := I.ok.hd hc
    have key : ∀ v, us.toArray[i]? = some v → L2.RelV x v := fun v pv => by
      have t1 : us.toArray[i]? = some u := by simpa using eu
      have t2 : u = v := Option.some.inj (t1.symm.trans pv)
      exact t2 ▸ ru
    refine thn (enum_item (elts := elts) (kk := kk) (tpos := tpos) (E := E) I hf (drawsK p hh it a ia us.toArray) he ⟨hi, kx⟩ lu ne (by simp [ne, ea]) x key) fun r s1 hr => ?_
    obtain ⟨v, er, hv⟩ := hr
    refine ⟨v, er, thn hv fun _ s2 z => ?_⟩
    obtain ⟨T, eT, nT, I2, ie, si, fr⟩ := z
    subst eT
    exact ⟨.ref T, _, I2, rfl, ⟨T, x, rfl, nT, rfl, fun l hl => by rw [sqk_inj I hl qx]; exact ex⟩, ⟨ie, si.1, ne⟩, fr⟩
  done := by
    intro X hP hw hK hc i pins s σ H E I hf st hg
    subst hP hw hK
    obtain ⟨⟨old, he⟩, hi, ne⟩ := st
    obtain ⟨xs, qx, el⟩ := hg
    obtain ⟨us, rx, kx, _⟩ := sqk_is I qx
    have lx := rx.length
    have hh : X.A.in1.handled = none := I.ok.hd hc
    have hn : us.toArray.size = i := by
      rw [List.size_toArray]
      omega
    exact enum_done I hf (drawsK p hh it a ia us.toArray) he (by rw [hn]; exact ⟨hi, kx⟩)
  self := fun A i s Q E st h => by
    obtain ⟨⟨_, he⟩, _⟩ := st
    exact wpAny_pyIter_enum he h
def iEnumM (K : PySem.W.Frag) (ta : TA) : TI := fun σ H R => ta σ H fun vs H1 => ∃ p a xs, vs = [.ref a] ∧ SqK p K H1 a xs ∧ R (ItEM p K a) H1
theorem pi_enumM {X : Cx} {e : Expr} {ta : TA} {p pos tpos : Pos} {elts : List Expr} {kk : Nat} (hg : Gl X "enumerate") (hm : X.mg "enumerate" = none) (ha : PA X [e] ta) (hs : starEach [e] X.env = [(false, eval e X.env)] := by rfl) :
    PI X (.Tuple elts kk tpos) (.Call (.Name "enumerate" p) [e] [] pos) (iEnumM X.K ta) := by
  constructor
  intro pins s σ H R I h
  refine Call_ (ld_blt I hg hm PyProof.Rows.boot_enumerate (PyProof.Rows.callWith_type1 (thn (ha.run pos pins s σ H _ I h) fun us s1 ⟨vs, H1, I1, r1, q1⟩ => ?_) hs rfl))
  obtain ⟨k1, a, xs, ex, qx, q⟩ := q1
  subst ex
  cases r1 with
  | cons r rr =>
    cases rr
    cases r
    obtain ⟨i1, _, p1, lt1⟩ := sqk_is I1 qx
    obtain ⟨o1, G1, B1, g1, w1⟩ := begK p1
    refine enum_begins1 B1 g1 fun h' he e1 hk => wpAny_pyIter_enum he ?_
    have I2 : Inv X pins σ H1 { s1 with heap := h' } := I1.kept (t' := s1.toks) hk
    refine ⟨s1.heap.objs.size + 1, [s1.heap.objs.size + 1, s1.heap.objs.size], _, _, H1, rfl, I2, turn_enumM a (s1.heap.objs.size + 1) s1.heap.objs.size (Nat.ne_of_gt (Nat.lt_succ_of_lt lt1)) (Nat.ne_of_lt lt1), ⟨⟨.none, he⟩, w1 _ _ e1, Nat.succ_ne_self _⟩, fun b hb => ?_, q⟩
    have lb : s1.heap.objs.size ≤ b := by
      rcases (show b = s1.heap.objs.size + 1 ∨ b = s1.heap.objs.size by simpa using hb) with z | z
      · rw [z]
        exact Nat.le_add_right _ _
      · rw [z]
        exact Nat.le_refl _
    exact I1.fpOk lb (I1.hok.fresh lb)
/-! over a text -/
theorem drawsS {prog : Program} {w : World} {A : Around} (hh : A.handled = none) (it : Addr) (z : Str) (t : Tok) :
    Draws prog w A it [it] z.cps.size (fun i v => ∃ c u, z.cps[i]? = some c ∧ v = .str ⟨#[c]⟩ u) (fun i h => h.IsStrIter it (strIterType z) z t i) := by
  unfold strIterType
  cases z.cps.all (· < 128)
  · exact Draws.strWide hh it z t
  · exact Draws.strAscii hh it z t
theorem turn_enumS {P : Program} {w : World} {K : PySem.W.Frag} {elts : List Expr} {kk : Nat} {tpos : Pos} (z : Str) (t : Tok) (e it : Addr) :
    Turn P w K (.Tuple elts kk tpos) (ItES z) [e, it] e (fun i h => (∃ old, IsEnum h e it ((i : Nat) : Int) old) ∧ h.IsStrIter it (strIterType z) z t i ∧ e ≠ it) where
  mem := by simp
  obj := fun i h st b hb => by
    obtain ⟨⟨old, he⟩, ⟨o, eo, _, d⟩, _⟩ := st
    rcases (show b = e ∨ b = it by simpa using hb) with y | y
    · rw [y]
      exact ⟨_, he, fun v q => nomatch q⟩
    · rw [y]
      exact ⟨o, eo, fun v q => by rw [d] at q; cases q⟩
  keep := fun i h h' st k => by
    obtain ⟨⟨old, he⟩, ⟨o, eo, r⟩, ne⟩ := st
    exact ⟨⟨old, k e (by simp) _ he⟩, ⟨o, k it (by simp) o eo, r⟩, ne⟩
  item := by
    intro X hP hw hK hc i pins s σ H E I hf st hg
    subst hP hw hK
    obtain ⟨⟨old, he⟩, hi, ne⟩ := st
    have lt : i < z.cps.size := hg
    have hh : X.A.in1.handled = none := I.ok.hd hc
    have ec : z.cps[i]? = some z.cps[i] := Array.getElem?_eq_getElem lt
    refine thn (enum_item (elts := elts) (kk := kk) (tpos := tpos) (E := E) I hf (drawsS hh it z t) he hi lt ne (by simp [ne]) (.str ⟨#[z.cps[i]]⟩) (fun v pv => ?_)) fun r s1 hr => ?_
    · obtain ⟨c, u, e1, e2⟩ := pv
      rw [ec] at e1
      cases e1
      subst e2
      exact ⟨u, rfl⟩
    obtain ⟨v, er, hv⟩ := hr
    refine ⟨v, er, thn hv fun _ s2 y => ?_⟩
    obtain ⟨T, eT, nT, I2, ie, si, fr⟩ := y
    subst eT
    exact ⟨.ref T, _, I2, rfl, ⟨T, _, rfl, nT, rfl, ec⟩, ⟨ie, si, ne⟩, fr⟩
  done := by
    intro X hP hw hK hc i pins s σ H E I hf st hg
    subst hP hw hK
    obtain ⟨⟨old, he⟩, hi, ne⟩ := st
    have el : z.cps.size = i := hg
    have hh : X.A.in1.handled = none := I.ok.hd hc
    exact enum_done I hf (drawsS hh it z t) he (by rw [el]; exact hi)
  self := fun A i s Q E st h => by
    obtain ⟨⟨_, he⟩, _⟩ := st
    exact wpAny_pyIter_enum he h
def iEnumS (ta : TA) : TI := fun σ H R => ta σ H fun vs H1 => ∃ z, vs = [.str z] ∧ R (ItES z) H1
theorem pi_enumS {X : Cx} {e : Expr} {ta : TA} {p pos tpos : Pos} {elts : List Expr} {kk : Nat} (hg : Gl X "enumerate") (hm : X.mg "enumerate" = none) (ha : PA X [e] ta) (hs : starEach [e] X.env = [(false, eval e X.env)] := by rfl) :
    PI X (.Tuple elts kk tpos) (.Call (.Name "enumerate" p) [e] [] pos) (iEnumS ta) := by
  constructor
  intro pins s σ H R I h
  refine Call_ (ld_blt I hg hm PyProof.Rows.boot_enumerate (PyProof.Rows.callWith_type1 (thn (ha.run pos pins s σ H _ I h) fun us s1 ⟨vs, H1, I1, r1, q1⟩ => ?_) hs rfl))
  obtain ⟨z, ex, q⟩ := q1
  subst ex
  cases r1 with
  | cons r rr =>
    cases rr
    obtain ⟨t, rfl⟩ := r
    refine enum_begins1 (begins_text z t) trivial fun h' he e1 hk => wpAny_pyIter_enum he ?_
    have I2 : Inv X pins σ H1 { s1 with heap := h' } := I1.kept (t' := s1.toks) hk
    refine ⟨s1.heap.objs.size + 1, [s1.heap.objs.size + 1, s1.heap.objs.size], _, _, H1, rfl, I2, turn_enumS z t (s1.heap.objs.size + 1) s1.heap.objs.size, ⟨⟨.none, he⟩, ⟨_, e1, rfl, rfl⟩, Nat.succ_ne_self _⟩, fun b hb => ?_, q⟩
    have lb : s1.heap.objs.size ≤ b := by
      rcases (show b = s1.heap.objs.size + 1 ∨ b = s1.heap.objs.size by simpa using hb) with y | y
      · rw [y]
        exact Nat.le_add_right _ _
      · rw [y]
        exact Nat.le_refl _
    exact I1.fpOk lb (I1.hok.fresh lb)
end Z
set_option Elab.async false
set_option linter.all false
set_option maxRecDepth 100000
set_option maxHeartbeats 4000000
namespace Z
open PySem PySem.Spec PyProof.Rows L2
/-! ### walks over a list (true) or a tuple (false) -/
inductive SeqOr (A B : Prop) : Prop
  | l : A → SeqOr A B
  | r : B → SeqOr A B
def iSeq (K : PySem.W.Frag) (tl : TE) : TI := fun σ H R => SeqOr (iList K tl σ H R) (iTup K tl σ H R)
theorem pi_sq {X : Cx} {tg l : Expr} {tl : TE} (he : PE X l tl) : PI X tg l (iSeq X.K tl) := by
  constructor
  intro pins s σ H R I h
  rcases h with h | h
  · exact (pi_list he).run pins s σ H R I h
  · exact (pi_tup he).run pins s σ H R I h
theorem pi_sq_K {X : Cx} {K : PySem.W.Frag} {tg l : Expr} {tl : TE} (h : X.K = K) (he : PE X l tl) : PI X tg l (iSeq K tl) := by
  subst h
  exact pi_sq he
theorem pi_list_K {X : Cx} {K : PySem.W.Frag} {tg l : Expr} {tl : TE} (h : X.K = K) (he : PE X l tl) : PI X tg l (iList K tl) := by
  subst h
  exact pi_list he
theorem pi_tup_K {X : Cx} {K : PySem.W.Frag} {tg l : Expr} {tl : TE} (h : X.K = K) (he : PE X l tl) : PI X tg l (iTup K tl) := by
  subst h
  exact pi_tup he
def ItQ (b : Bool) (K : PySem.W.Frag) (a : Addr) : It := match b with
  | true => Itl K a
  | false => Itt K a
theorem itq_go {b : Bool} {K : PySem.W.Frag} {H : Hp} {a : Addr} {xs : List V} {i : Nat} {x : V} (h : SqK b K H a xs) (e : xs[i]? = some x) : (ItQ b K a).go i H := by
  cases b <;> exact ⟨_, _, h, e⟩
theorem itq_stop {b : Bool} {K : PySem.W.Frag} {H : Hp} {a : Addr} {xs : List V} {i : Nat} (h : SqK b K H a xs) (e : xs.length ≤ i) : (ItQ b K a).stop i H := by
  cases b <;> exact ⟨_, h, e⟩
theorem itq_yld {b : Bool} {K : PySem.W.Frag} {H H' : Hp} {a : Addr} {xs : List V} {i : Nat} {x : V} (h : SqK b K H a xs) (y : (ItQ b K a).yld i H x H') : H' = H ∧ xs[i]? = some x := by
  cases b <;> exact ⟨y.1, y.2 _ h⟩
theorem rd_sq {b : Bool} {K : PySem.W.Frag} {σ : L2.St} {H : Hp} {i : Nat} {a : Addr} {xs : List V} {R : It → Hp → Prop} (e : σ[i]? = some (some (.ref a))) (h : SqK b K H a xs) (r : R (ItQ b K a) H) : iSeq K (tVar i) σ H R := by
  cases b
  · exact .r ⟨_, e, a, rfl, ⟨xs, h⟩, r⟩
  · exact .l ⟨_, e, a, rfl, ⟨xs, h⟩, r⟩
theorem lc_sq {b : Bool} {K : PySem.W.Frag} {a D : Addr} {xs : List Int} {H0 : Hp} {i : Nat} {te : TE} {vs : List Nat} {σ : L2.St} {Qd : Hp → Prop} (hS : SqK b K H0 a (xs.map V.int)) (g : Int → Int) (hn : xs.length ≤ 1000000) (nD : H0 D = none) (hw : ∀ x : Int, wipe ((wipe σ vs).set i (some (.int x))) vs = wipe σ vs)
    (ht : ∀ x H1 (Q : VK), x ∈ xs → Same H0 H1 → (∀ H2, Same H1 H2 → Q (.int (g x)) H2) → te ((wipe σ vs).set i (some (.int x))) H1 Q)
    (hd : ∀ H1, Same H0 H1 → H1 D = some (.lst ((xs.map g).map V.int)) → Qd H1) : lcW (ItQ b K a) (gName i) tYes te vs σ D Qd H0 := by
  have ex : ∀ k, k < xs.length → (xs.map V.int)[k]? = some (.int (xs.getD k 0)) := fun k hk => by
    rw [List.getElem?_map, List.getD_eq_getElem?_getD, List.getElem?_eq_getElem hk]
    rfl
  refine lc_ofs (K := K) (n := xs.length) (fun k => g (xs.getD k 0)) (fun k => .int (xs.getD k 0)) hn nD (fun k H1 hk s => itq_go (Z.Same.sqK s hS) (ex k hk)) (fun H1 s => itq_stop (Z.Same.sqK s hS) (by rw [List.length_map]; exact Nat.le_refl _)) (fun k H1 x H2 hk s y => ?_) (fun k => hw _) (fun k H1 Q hk s q => ht _ H1 Q ?_ s q) (fun H1 s e => hd H1 s ?_)
  · obtain ⟨e1, e2⟩ := itq_yld (Z.Same.sqK s hS) y
    exact ⟨e1, Option.some.inj (e2.symm.trans (ex k hk))⟩
  · rw [List.getD_eq_getElem?_getD, List.getElem?_eq_getElem hk]
    exact List.getElem_mem hk
  · rw [e]
    congr 2
    congr 1
    apply List.ext_getElem
    · rw [List.length_map, List.length_map, List.length_range]
    · intro k h1 h2
      rw [List.length_map] at h2
      rw [List.getElem_map, List.getElem_map, List.getElem_range, List.getD_eq_getElem?_getD, List.getElem?_eq_getElem h2]
      rfl
/-- for x in xs, any values -/
theorem for_sq {b : Bool} {K : PySem.W.Frag} {a : Addr} {xs : List V} {H0 H : Hp} {i : Nat} {tb : TS} {D : Ends} {σ : L2.St} (hS : SqK b K H0 a xs) (Pv : Nat → L2.St → Hp → Prop) (h0 : Pv 0 σ H) (hq : ∀ k σ H1, Pv k σ H1 → Same H0 H1)
    (hs : ∀ (k : Nat) (x : V) (σ : L2.St) (H1 : Hp), xs[k]? = some x → Pv k σ H1 → tb { D with nx := Pv (k + 1), ct := Pv (k + 1), bk := D.nx } (σ.set i (some x)) H1)
    (hd : ∀ σ H1, Pv xs.length σ H1 → D.nx σ H1) : forW (ItQ b K a) (gName i) tb D σ H := by
  refine for_gen (n := xs.length) Pv h0 (fun k σ H1 hk p => itq_go (Z.Same.sqK (hq k σ H1 p) hS) (List.getElem?_eq_getElem hk)) (fun σ H1 p => itq_stop (Z.Same.sqK (hq _ σ H1 p) hS) (Nat.le_refl _)) ?_ hd
  intro k σ H1 x H2 hk p y
  obtain ⟨rfl, e⟩ := itq_yld (Z.Same.sqK (hq k σ H1 p) hS) y
  exact hs k x σ _ e p
/-- for i, x in enumerate(xs) -/
theorem for_enum {b : Bool} {K : PySem.W.Frag} {a : Addr} {xs : List V} {H0 H : Hp} {i j : Nat} {tb : TS} {D : Ends} {σ : L2.St} (hS : SqK b K H0 a xs) (Pv : Nat → L2.St → Hp → Prop) (h0 : Pv 0 σ H) (hq : ∀ k σ H1, Pv k σ H1 → Same H0 H1)
    (hs : ∀ (k : Nat) (x : V) (σ : L2.St) (H1 H2 : Hp), xs[k]? = some x → Pv k σ H1 → Same H1 H2 → tb { D with nx := Pv (k + 1), ct := Pv (k + 1), bk := D.nx } ((σ.set i (some (.int (k : Nat)))).set j (some x)) H2)
    (hd : ∀ σ H1, Pv xs.length σ H1 → D.nx σ H1) : forW (ItEM b K a) (gTup K 2 (gCons (gName i) (gCons (gName j) gNil))) tb D σ H := by
  refine for_gen (n := xs.length) Pv h0 (fun k σ H1 hk p => ⟨xs, _, Z.Same.sqK (hq k σ H1 p) hS, List.getElem?_eq_getElem hk⟩) (fun σ H1 p => ⟨xs, Z.Same.sqK (hq _ σ H1 p) hS, rfl⟩) ?_ hd
  intro k σ H1 x H2 hk p y
  obtain ⟨T, z, rfl, nT, rfl, e⟩ := y
  exact ⟨T, _, rfl, SqT.of upd_same, rfl, _, _, rfl, _, _, rfl, rfl, hs k z σ H1 _ (e _ (Z.Same.sqK (hq k σ H1 p) hS)) p (same_new nT)⟩
/-- for i, c in enumerate(text) -/
theorem for_enumS {K : PySem.W.Frag} {z : Str} {H : Hp} {i j : Nat} {tb : TS} {D : Ends} {σ : L2.St} (Pv : Nat → L2.St → Hp → Prop) (h0 : Pv 0 σ H)
    (hs : ∀ (k : Nat) (c : Nat) (σ : L2.St) (H1 H2 : Hp), z.cps[k]? = some c → Pv k σ H1 → Same H1 H2 → tb { D with nx := Pv (k + 1), ct := Pv (k + 1), bk := D.nx } ((σ.set i (some (.int (k : Nat)))).set j (some (.str ⟨#[c]⟩))) H2)
    (hd : ∀ σ H1, Pv z.cps.size σ H1 → D.nx σ H1) : forW (ItES z) (gTup K 2 (gCons (gName i) (gCons (gName j) gNil))) tb D σ H := by
  refine for_gen (n := z.cps.size) Pv h0 (fun k σ H1 hk p => hk) (fun σ H1 p => rfl) ?_ hd
  intro k σ H1 x H2 hk p y
  obtain ⟨T, c, rfl, nT, rfl, e⟩ := y
  exact ⟨T, _, rfl, SqT.of upd_same, rfl, _, _, rfl, _, _, rfl, rfl, hs k c σ H1 _ e p (same_new nT)⟩
/-! ### built-ins within a comprehension's block -/
theorem cr_min_K {X : Cx} {K : PySem.W.Frag} (h : X.K = K) (hc : X.calm = true) : CallR X (.builtin "min") (rMin K) := by
  subst h
  exact cr_min hc
theorem cr_max_K {X : Cx} {K : PySem.W.Frag} (h : X.K = K) (hc : X.calm = true) : CallR X (.builtin "max") (rMax K) := by
  subst h
  exact cr_max hc
theorem cr_sum_K {X : Cx} {K : PySem.W.Frag} (h : X.K = K) (hc : X.calm = true) : CallR X (.builtin "sum") (rSum K) := by
  subst h
  exact cr_sum hc
theorem cr_all_K {X : Cx} {K : PySem.W.Frag} (h : X.K = K) (hc : X.calm = true) : CallR X (.builtin "all") (rAll K) := by
  subst h
  exact cr_all hc
theorem cr_any_K {X : Cx} {K : PySem.W.Frag} (h : X.K = K) (hc : X.calm = true) : CallR X (.builtin "any") (rAny K) := by
  subst h
  exact cr_any hc
/-! ### comprehensions with a test, any values -/
def fltL (kb : Nat → Bool) (g : Nat → V) (n : Nat) : List V := ((List.range n).filter kb).map g
theorem flt_succ (kb : Nat → Bool) (g : Nat → V) (n : Nat) : fltL kb g (n + 1) = fltL kb g n ++ (if kb n then [g n] else []) := by
  unfold fltL
  rw [List.range_succ, List.filter_append, List.map_append]
  cases e : kb n <;> simp [e]
theorem flt_len (kb : Nat → Bool) (g : Nat → V) (n : Nat) : (fltL kb g n).length ≤ n := by
  unfold fltL
  rw [List.length_map]
  exact Nat.le_trans (List.length_filter_le ..) (by rw [List.length_range]; exact Nat.le_refl _)
theorem lc_flt {J : It} {D : Addr} {n : Nat} {H0 : Hp} {i : Nat} {tt : TT} {te : TE} {vs : List Nat} {σ : L2.St} {Qd : Hp → Prop} (xv : Nat → V) (kb : Nat → Bool) (g : Nat → V) (hn : n ≤ 1000000) (nD : H0 D = none)
    (hgo : ∀ k H1, k < n → Same H0 H1 → J.go k H1) (hst : ∀ H1, Same H0 H1 → J.stop n H1) (hy : ∀ k H1 x H2, k < n → Same H0 H1 → J.yld k H1 x H2 → Same H1 H2 ∧ x = xv k)
    (hw : ∀ k, wipe ((wipe σ vs).set i (some (xv k))) vs = wipe σ vs)
    (hb : ∀ k H1 (Q : Bool → Hp → Prop), k < n → Same H0 H1 → (∀ H2, Same H1 H2 → Q (kb k) H2) → tt ((wipe σ vs).set i (some (xv k))) H1 Q)
    (ht : ∀ k H1 (Q : VK), k < n → kb k = true → Same H0 H1 → (∀ H2, Same H1 H2 → Q (g k) H2) → te ((wipe σ vs).set i (some (xv k))) H1 Q)
    (hd : ∀ H1, Same H0 H1 → H1 D = some (.lst (fltL kb g n)) → Qd H1) : lcW J (gName i) tt te vs σ D Qd H0 := by
  refine lc_gen (n := n) (fun k H1 => Same H0 H1 ∧ H1 D = some (.lst (fltL kb g k))) ⟨same_new nD, upd_same⟩ (fun k H1 hk p => hgo k H1 hk p.1) (fun H1 p => hst H1 p.1) ?_ (fun H1 p => hd H1 p.1 p.2)
  rintro k H1 x H2 hk ⟨s, e⟩ y
  obtain ⟨s2, rfl⟩ := hy k H1 x H2 hk s y
  refine ⟨hw k, ?_⟩
  refine hb k _ _ hk (s.trans s2) (fun H3 s3 => ?_)
  cases eb : kb k
  · rw [if_neg (by decide)]
    refine ⟨s.trans (s2.trans s3), ?_⟩
    rw [flt_succ, eb]
    simpa using s3 _ _ (s2 _ _ e)
  · rw [if_pos rfl]
    refine ht k _ _ hk eb (s.trans (s2.trans s3)) (fun H4 s4 => ⟨_, s4 _ _ (s3 _ _ (s2 _ _ e)), ?_, Z.Same.mut (s.trans (s2.trans (s3.trans s4))) nD, ?_⟩)
    · exact Nat.lt_of_le_of_lt (flt_len kb g k) (Nat.lt_of_lt_of_le hk (Nat.le_trans hn (by decide)))
    · rw [upd_same, flt_succ, eb]
      rfl
end Z
set_option Elab.async false
set_option linter.all false
set_option maxRecDepth 100000
set_option maxHeartbeats 4000000
namespace Z
open PySem PySem.Spec PyProof.Rows L2
/-! ### o.f as one of several targets -/
theorem asg_attr {M : Model} {A : Around} {E : Value → Shared → Prop} {s : Shared} {o : Expr} {attr : Str} {pos : Pos} {env : Env} {v : Value} {Q : Unit → Shared → Prop}
    (h : wpAny M A (eval o env) (fun ov s2 => wpAny M A (setAttr ov attr v) (fun _ => Q ()) E s2) E s) : wpAny M A (assign (.Attribute o attr pos) env v) Q E s := fun Γ p hΓ => by
  simp only [assign_Attribute, Sem.wp_bind', Sem.wp_holding, Sem.wp_cmd_standAt, Sem.wp_release, Sem.wp_pure']
  exact Sem.wp_mono M Γ _ (fun ov _ s2 h2 => h2 Γ _ hΓ) (fun _ _ _ z => z) _ _ (h Γ _ hΓ)
def gFld (K : PySem.W.Frag) (ta : TE) (f : Str) : TG := fun v σ H Q => ta σ H fun x H1 => ∃ a C dx fs, x = .ref a ∧ H1 a = some (.ins C dx fs) ∧ Cls K C ∧ NoAttr K C f ∧ fs.length < 1000 ∧ Q σ (upd H1 a (.ins C dx (putF f v fs)))
theorem pg_fld {X : Cx} {o : Expr} {f : Str} {pos : Pos} {ta : TE} (ha : PE X o ta) : PG X (.Attribute o f pos) (gFld X.K ta f) := by
  constructor
  intro pins s σ H v u Q I r h
  refine asg_attr (thn (ha.run pins s σ H _ I h) fun ov s1 ⟨x, H1, I1, rx, a, C, dx, fs, ex, ea, c, n, l, q⟩ => ?_)
  subst ex
  obtain rfl : ov = Value.ref a := rx
  exact setattr_ok I1 ea c n l r fun s2 I2 => ⟨σ, _, I2, q⟩
/-! ### a if c else b as a test -/
def tIfT (tc ta tb : TT) : TT := fun σ H Q => tc σ H fun k H1 => if k = true then ta σ H1 Q else tb σ H1 Q
theorem pt_ifExp {X : Cx} {c a b : Expr} {pos : Pos} {tc ta tb : TT} (hc : PT X c tc) (ha : PT X a ta) (hb : PT X b tb) : PT X (.IfExp c a b pos) (tIfT tc ta tb) := by
  constructor
  intro pins s σ H Q I h
  refine PyProof.Rows.isTrue_IfExp (thn (hc.run pins s σ H _ I h) fun d s1 ⟨H1, I1, q1⟩ => ?_)
  cases d with
  | true => exact ha.run pins s1 σ H1 Q I1 q1
  | false => exact hb.run pins s1 σ H1 Q I1 q1
end Z
set_option Elab.async false
set_option linter.all false
set_option maxRecDepth 100000
set_option maxHeartbeats 4000000
namespace Z
open PySem PySem.Spec PyProof PyProof.Rows L2 F
/-! ### len(x), x an instance of a class with __len__ -/
structure LenO (P : Program) (w : World) (K : PySem.W.Frag) (mg : Str → Option Value) (base : Heap) (k : Nat) (C : Addr) (sp : Sp) : Prop where
  ex : ∃ (f : Addr) (fd : FuncData) (ps : List Str), FnOk P w K mg base CX0 k f fd ps sp ∧ PySem.W.findIn K (.ref C) "__len__" = some (some (.ref f)) ∧ PySem.W.isFn K (.ref f) = true ∧ Binds K fd ps []
def rLenO (C : Addr) (sp : Sp) : List V → Hp → VK → Prop := fun xs H Q => ∃ a dx fs, xs = [.ref a] ∧ H a = some (.ins C dx fs) ∧ sp [.ref a] H (fun v H' => ∃ n : Int, v = .int n ∧ 0 ≤ n ∧ n < 2 ^ 63 ∧ Q (.int n) H') E0
theorem call_lenO {X : Cx} {k j : Nat} {C : Addr} {sp : Sp} (c : LenO X.prog X.w X.K X.mg X.base k C sp) (hr : Room j X.A) (hk : k + 1 ≤ j) : CallR X (.builtin "len") (rLenO C sp) := by
  intro pins s σ H xs us Q I r h
  obtain ⟨f, fd, ps, F, hs, hf, hb⟩ := c.ex
  obtain ⟨a, dx, fs, rfl, ha, q⟩ := h
  obtain ⟨u, rfl, ru⟩ := vals1 r
  obtain rfl : u = Value.ref a := ru
  obtain ⟨mA, J, _⟩ := ins_get I.hok ha
  obtain ⟨od, J, _⟩ := J.look
  refine Calls.call_function_entry kind_len plain_len entry_len (args_len1 _) ?_
  unfold Builtin.«len»
  refine wpAny_bind (m := oneArg "len" _) (wpAny_pure ?_)
  have e0 : Env0 X.prog X.w X.K X.mg X.base X.A.in1 X.stack s H := by
    have e := I.env0
    exact ⟨e.frames, e.mod, e.bs, e.bsz, e.funs, e.frf, e.hok, e.bare⟩
  refine wpAny_bind (m := callSpecial? (.ref a) (PySem.Str.ofString "__len__")) (PySem.W.special_fn (name := "__len__") (args := []) I.kIn J hs (beq_iff_eq.mp hf) ?_)
  have hl := F.len _ _ _ _ q
  refine wpAny_call (codeAny_mono (F.run X.A.in1 X.stack s H ⟨[.ref a], []⟩ [.ref a] [.ref a] _ E0 (hr.mono hk).in1 e0 (by
    have := hb s [.ref a] I.kIn (by simpa using hl)
    simpa using this) (.cons rfl .nil) q) fun r s' hq => ?_)
  cases r with
  | error e => exact pass0 pins σ H s e s' I hq
  | ok fl =>
    cases fl with
    | next => exact False.elim hq
    | brk => exact False.elim hq
    | cont => exact False.elim hq
    | ret u =>
      obtain ⟨v, H1, I1, rv, n, rfl, h0, h1, q1⟩ := I.after hq
      obtain ⟨t, rfl⟩ := rv
      refine wpAny_bind (wpAny_holding (wpAny_pure ?_))
      refine wpAny_bind (wpAny_letGo ?_)
      show wpAny _ _ (if n < 0 then _ else _) _ _ _
      rw [if_neg (by omega)]
      show wpAny _ _ (if n ≥ 2 ^ 63 then _ else _) _ _ _
      rw [if_neg (by omega)]
      exact wpAny_bind (wpAny_mkInt (wpAny_pure ⟨_, rfl, .int n, H1, I1.tok _, ⟨_, rfl⟩, q1⟩))
end Z
set_option Elab.async false
set_option linter.all false
set_option maxRecDepth 100000
set_option maxHeartbeats 4000000
namespace L2N
open PySem PySem.Spec PyProof.Rows L2
/-! ### several clauses `except c as n` -/
/-- a clause: its class, the slot of its name, its suite's reading -/
abbrev Cl := Value × Nat × (Addr → Value → Option Addr → TS)
def wManyA (K : PySem.W.Frag) (Wout : WX) (D : Ends) : List Cl → WX
  | [] => Wout
  | h :: r => wAs K h.1 h.2.1 h.2.2 (wManyA K Wout D r) D
inductive HdsA (X : Cx) : List ExceptHandler → List Cl → Prop
  | nil : HdsA X [] []
  | cons {x n : Str} {c : Value} {i : Nat} {ts : Addr → Value → Option Addr → TS} {b₀ : Stmt} {suite : List Stmt} {np pos' : Pos} {hds : List ExceptHandler} {l : List Cl} (hi : X.N[i]? = some n) (hln : X.env.kindOf n = some .local) (hc : Names X x c)
      (hsu : ∀ (a : Addr) (oe : Obj) (cls : Value) (d : Option Addr) (pn : List (Addr × Obj)), Zn cls d oe → (∃ vs, oe.data = .fields vs) → PSs (X.suite a ((a, oe) :: pn)) (b₀ :: suite) (ts a cls d)) (r : HdsA X hds l) :
      HdsA X (.ExceptHandler (some (.Name x np)) (some n) (b₀ :: suite) pos' :: hds) ((c, i, ts) :: l)
section
variable {X : Cx} {body : List Stmt} {h₀ : ExceptHandler} {hds : List ExceptHandler} {l : List Cl} {pos : Pos} {tb : WX → TS} {Wout : WX}
theorem ps_try_manyA (hs : X.stack = X.env :: X.outer) (hf : X.env.frame = some X.env.locals) (hN : X.N.Nodup) (tk : Takes X Wout)
    (hb : ∀ (W : WX) (pn : List (Addr × Obj)) (xe : Value → Shared → Prop), Takes (X.tr pn xe) W → PassesOwn (model X.prog X.w) X.A X.env xe → PSs (X.tr pn xe) body (tb W))
    (hh : HdsA X (h₀ :: hds) l) : PS X (.Try body (h₀ :: hds) [] [] pos) (fun D σ H => tb (wManyA X.K Wout D l) D σ H) := by
  refine ⟨fun pins s σ H D I h => ?_⟩
  have ok := I.ok
  have hfr : X.A.frames = some (X.env :: X.outer) := by rw [ok.frames, hs]
  have calm : ∀ (f : Flow) (s1 : Shared) , SP (X.tr (X.pn ++ pins) (fun e s₁ => wpAny (model X.prog X.w) X.A (noteFrame e X.env) (fun _ s₂ => wpAny (model X.prog X.w) X.A (setFlight e none) (fun _ s₃ =>
      wpAny (model X.prog X.w) X.A (handleBy e X.env (h₀ :: hds)) (SP X pins D) X.xe s₃) X.xe s₂) X.xe s₁)) [] D f s1 → SP X pins D f s1 := fun f s1 hsp => by
    cases f with
    | next =>
      obtain ⟨σ', H', J', q⟩ := hsp
      exact ⟨σ', H', J'.ofTry ok, q⟩
    | brk =>
      obtain ⟨σ', H', J', q⟩ := hsp
      exact ⟨σ', H', J'.ofTry ok, q⟩
    | cont =>
      obtain ⟨σ', H', J', q⟩ := hsp
      exact ⟨σ', H', J'.ofTry ok, q⟩
    | ret u =>
      obtain ⟨v, σ', H', J', r, q⟩ := hsp
      exact ⟨v, σ', H', J'.ofTry ok, r, q⟩
  refine wpAny_Try_except ?_
  refine wpAny_mono ((hb (wManyA X.K Wout D l) (X.pn ++ pins) (fun e s₁ => wpAny (model X.prog X.w) X.A (noteFrame e X.env) (fun _ s₂ => wpAny (model X.prog X.w) X.A (setFlight e none) (fun _ s₃ =>
    wpAny (model X.prog X.w) X.A (handleBy e X.env (h₀ :: hds)) (SP X pins D) X.xe s₃) X.xe s₂) X.xe s₁) (fun u s' xx => ?_) PassesOwn.looking).run [] s σ H D (I.toTry _) h) (fun f s1 hsp => ?_) (fun e s1 he => he)
  · obtain ⟨a, B, sI, pins', σ', H', cls, d, rfl, J', nb, up, sky, na, os, ag, w⟩ := xx
    have J : Inv X pins σ' H' sI := J'.ofTry ok
    have sky' : Sky B (X.env :: X.outer) a (Zn cls d) X.env.locals s'.heap := by rw [← hs]; exact sky
    show wpAny (model X.prog X.w) X.A (noteFrame (.ref a) X.env) _ _ _
    refine Sky.land Zn.steady hfr hf sky' fun h3 fl3 up3 => ?_
    have J3 : Inv X pins σ' H' { s' with heap := h3 } := J.landed nb fl3.1 (up.trans up3) os ag
    obtain ⟨oe3, vs3, he3, hz3, hd3⟩ := fl3.there
    have nfr : a ∉ frs (X.env :: X.outer) := fun hm => by
      obtain ⟨_, o', e', hnf⟩ := fl3.2.2.1.mem hm
      rw [he3] at e'
      cases e'
      exact hnf _ hd3
    have nL : a ≠ X.env.locals := fun z => nfr (List.mem_filterMap.mpr ⟨X.env, List.mem_cons_self, by rw [hf, z]⟩)
    have nF : a ∉ X.fs := fun hm => by
      obtain ⟨e, he, q⟩ := List.mem_filterMap.mp hm
      exact nfr (List.mem_filterMap.mpr ⟨e, List.mem_cons_of_mem _ he, q⟩)
    have S3 := J3.suite he3 hd3 na nL nF
    have go : ∀ {hds' : List ExceptHandler} {l' : List Cl}, HdsA X hds' l' → wManyA X.K Wout D l' cls d σ' H' →
        wpAny (model X.prog X.w) X.A (handleBy (.ref a) X.env hds') (SP X pins D) X.xe { s' with heap := h3 } := by
      intro hds' l' hk
      induction hk with
      | nil =>
        intro w
        refine wpAny_handleBy_nil ?_
        obtain ⟨k1, k2, k3, oe, vs, T, oT, ts', he, hz, hd, h1, hr⟩ := id fl3
        unfold PySem.passOn
        refine wpAny_bind (wpAny_field he hd h1 ?_)
        rw [if_neg (show ¬ ((Value.ref T == Value.none) = true) from by simp)]
        have fin : wpAny (model X.prog X.w) X.A (setFlight (.ref a) X.env.frame) (fun _ s4 => wpAny (model X.prog X.w) X.A (throw (.ref a) : Sem Flow) (SP X pins D) X.xe s4) X.xe { s' with heap := h3 } := by
          rw [hf]
          refine HandSPX.setFlight_upZ fl3 fun h4 hh4 up4 => wpAny_throw (tk _ _ ?_)
          exact ⟨a, B, sI, pins, σ', H', cls, d, rfl, J, nb, (up.trans up3).trans up4, .inr (.inr (by rw [hs]; exact hh4)), na, os, ag, w⟩
        first
          | exact wpAny_bind (wpAny_pure (wpAny_bind fin))
          | exact wpAny_bind fin
      | @cons x n c i ts b₀ suite np pos' hds2 l2 hi hln hc hsu r ih =>
        intro w
        obtain ⟨b, hb1, hyes, hno⟩ := w
        have hloc : Loc X.env.scope n := .inl hln
        refine wpAny_handleBy_cons (codeAny_handlers_test ?_) (by intro q; cases q)
        have LT : PySem.W.Looks (model X.prog X.w) h3 (typeOf (.ref a)) cls := fun A Q E s k q => wpAny_typeOf_ref (k _ _ he3) (by rw [hz3.1]; exact q)
        have LM := PySem.W.exm_one (M := model X.prog X.w) (J3.kIn) LT hb1
        have test : ∀ {Q : Value → Shared → Prop} {E : Value → Shared → Prop}, Q c { s' with heap := h3 } → wpAny (model X.prog X.w) (X.A.mark (some (.ref a))) (eval (.Name x np) X.env) Q E { s' with heap := h3 } := fun {Q E} q => by
          obtain ⟨hg, hdbg, hm | ⟨hm, hv, hnn⟩⟩ := hc
          · exact ld_glob (X := X.suite a ((a, oe3) :: (X.pn ++ pins))) S3 hg hm q hdbg
          · exact ld_blt (X := X.suite a ((a, oe3) :: (X.pn ++ pins))) S3 hg hm hv q hnn hdbg
        refine test (LM.here ?_)
        cases b with
        | true =>
          refine codeAny_handlers_suite_as ?_
          refine HandSPX.lands_againZ fl3 fun h4 fl4 up4 => ?_
          have J4 : Inv X pins σ' H' { s' with heap := h4 } := J.landed nb fl4.1 ((up.trans up3).trans up4) os ag
          obtain ⟨oe4, vs4, he4, hz4, hd4⟩ := fl4.there
          have S4 := J4.suite he4 hd4 na nL nF
          refine store_ok (X := X.suite a ((a, oe4) :: (X.pn ++ pins))) (v := .ref a) S4 hN hi hloc rfl (fun s5 S5 => ?_) (.inr hln)
          refine wpAny_mono ((hsu a oe4 cls d (X.pn ++ pins) hz4 ⟨_, hd4⟩).run [] s5 _ H' _ S5 (hyes rfl a na)) (fun f s6 hsp => ?_) (fun _ _ z => False.elim z)
          have end_ : ∀ {σ6 : L2.St} {H6 : Hp} {Q : Shared → Prop}, Inv (X.suite a ((a, oe4) :: (X.pn ++ pins))) [] σ6 H6 s6 → (∀ s7, Inv X pins (σ6.set i none) H6 s7 → Q s7) →
              wpAny (model X.prog X.w) X.A (do bindName X.env n .none; unbindBehindTheSuite X.env n pos') (fun _ s7 => Q s7) X.xe s6 := fun {σ6 H6 Q} S6 hq => gone_ok (S6.unsuite ok) hN hi hln hq
          cases f with
          | next =>
            obtain ⟨σ6, H6, S6, q6⟩ := hsp
            exact end_ S6 fun s7 J7 => ⟨_, _, J7, q6⟩
          | brk =>
            obtain ⟨σ6, H6, S6, q6⟩ := hsp
            exact end_ S6 fun s7 J7 => ⟨_, _, J7, q6⟩
          | cont =>
            obtain ⟨σ6, H6, S6, q6⟩ := hsp
            exact end_ S6 fun s7 J7 => ⟨_, _, J7, q6⟩
          | ret u =>
            obtain ⟨v6, σ6, H6, S6, r6, q6⟩ := hsp
            exact end_ S6 fun s7 J7 => ⟨_, _, _, J7, r6, q6⟩
        | false =>
          show wpAny _ X.A (handleBy (.ref a) X.env hds2) _ _ _
          exact ih (hno rfl)
    exact go hh w
  · cases f with
    | next => exact wpAny_execs_nil (calm .next s1 hsp)
    | brk => exact calm .brk s1 hsp
    | cont => exact calm .cont s1 hsp
    | ret u => exact calm (.ret u) s1 hsp
end
end L2N
set_option Elab.async false
set_option linter.all false
set_option maxRecDepth 100000
set_option maxHeartbeats 4000000
namespace Z
open PySem PySem.Spec PyProof.Rows L2
/-! ### f(e, .., k = v), what is raised at the slots -/
structure CalKX (P : Program) (w : World) (K : PySem.W.Frag) (mg : Str → Option Value) (base : Heap) (k : Nat) (x : Str) (n : Nat) (ks : List Str) (gV : List V → List V → List V) (sp : Sp) : Prop where
  ex : ∃ (f : Addr) (fd : FuncData) (ps : List Str) (g : List Value → List Value → List Value), FnOk P w K mg base (L2N.CX P w) k f fd ps sp ∧ mg x = some (.ref f) ∧ PySem.W.keepIn K (.ref f) = true ∧ KBn K fd ps n ks g gV
def tClKW (n m : Nat) (sp : Sp) (gV : List V → List V → List V) (E : L2.St → XK) (t tk : TA) : TE := fun σ H Q => t σ H fun vs H1 => tk σ H1 fun zs H2 => vs.length = n ∧ zs.length = m ∧ sp (gV vs zs) H2 Q (E σ)
section
variable {X : Cx} {k j n : Nat} {x : Str} {sp : Sp} {ks : List Str} {gV : List V → List V → List V} {p pos : Pos} {e : Expr} {es : List Expr} {kws : List Keyword} {t tk : TA} {E : L2.St → XK}
theorem pe_clKE (c : CalKX X.prog X.w X.K X.mg X.base k x n ks gV sp) (hx : ∀ σ, PassesAt (L2N.CX X.prog X.w) X σ (E σ)) (hr : Room j X.A) (hk : k ≤ j) (hg : Gl X x) (ha : PA X (e :: es) t) (hkw : PK X kws tk)
    (hall : (backToKw pos (keywordEach kws X.env)).all (·.1.isSome) = true := by rfl) (hks : (backToKw pos (keywordEach kws X.env)).filterMap (·.1) = ks := by rfl) (hdb : (x == ("__debug__" : Str)) = false := by decide)
    (he : starEach (e :: es) X.env = (false, eval e X.env) :: starEach es X.env := by rfl) (hpl : ((backTo pos (starEach (e :: es) X.env)).any (·.1) || (backToKw pos (keywordEach kws X.env)).any (·.1.isNone)) = false := by rfl) :
    PE X (.Call (.Name x p) (e :: es) kws pos) (tClKW n ks.length sp gV E t tk) := by
  obtain ⟨f, fd, ps, g, F, hm, kp, hb⟩ := c.ex
  refine ⟨fun pins s σ H Q I h => ?_⟩
  refine wpAny_Call_Name_kw (ld_glob I hg hm ?_ hdb)
  refine PySem.W.callWith_KW (h₀ := X.base) I.ok.mod.kin kp hall (thn (ha.run pos pins s σ H _ I h) fun us s1 ⟨vs, H1, I1, r, q⟩ => ?_) hpl he
  refine thn (hkw.run pos pins s1 σ H1 _ I1 q) fun ws s2 ⟨zs, H2, I2, rz, l1, l2, q2⟩ => ⟨I2.kIn, ?_⟩
  rw [hks]
  have r2 := hb.rel r rz
  refine wpAny_call (codeAny_mono (F.run X.A X.stack s2 H2 ⟨us, ks.zip ws⟩ (g us ws) (gV vs zs) Q (E σ) (hr.mono hk) I2.env0 (hb.to s2 us ws I2.kIn (by rw [← r.length]; exact l1) (by rw [← rz.length]; exact l2)) r2 q2) fun r s' hq => ?_)
  exact back_at (hx σ) I2 r s' hq
end
end Z
set_option Elab.async false
set_option linter.all false
set_option maxRecDepth 100000
set_option maxHeartbeats 4000000
namespace Z
open PySem PySem.Spec PyProof.Rows L2
/-! ### raise X(), X an own class without own __init__ -/
structure Exn0 (K : PySem.W.Frag) (mg : Str → Option Value) (x : Str) (C : Addr) : Prop where
  ex : PySem.W.excIn K C He.veBase "ValueError.__new__" = true
  kp : PySem.W.keepIn K (.ref C) = true
  sub : PySem.W.subIn K (.ref C) (.type "BaseException") = some true
  ty : PySem.W.typeIn K (.ref C) = some (.type "type")
  gl : mg x = some (.ref C)
theorem pmk_ex0 {X : Cx} {x : Str} {C : Addr} {p pos : Pos} (c : Exn0 X.K X.mg x C) (hg : Gl X x) (hdb : (x == ("__debug__" : Str)) = false := by decide) :
    L2N.PMk X (.Call (.Name x p) [] [] pos) (fun _ H Q => Q (.ref C) none H) := by
  intro pins s σ H Q I h
  refine wpAny_Call_Name_kw (ld_glob I hg c.gl ?_ hdb)
  refine PySem.W.callWith_K0 I.kIn c.kp ?_
  obtain ⟨bm, N, nm, qn, bs, hdct, sn, sub, ab, col, dd, k0, k1, k2, k3, k5, mN, hC, hN, hni, T⟩ := exc_obj I.kIn c.ex
  refine wpAny_call_exc_subT PySem.F.excBase_ValueError T hC hN hni (fun h' e hm => ?_) (by decide)
  exact L2N.mk_of I hm (raises_own c.sub c.ty) h (I.hok.gone hm.new)
theorem ps_ex0 {X : Cx} {x : Str} {C : Addr} {p pos pos2 : Pos} {W : WX} (hc : X.calm = true) (tk : L2N.Takes X W) (c : Exn0 X.K X.mg x C) (hg : Gl X x) (hdb : (x == ("__debug__" : Str)) = false := by decide) :
    PS X (.Raise (some (.Call (.Name x p) [] [] pos)) none pos2) (fun _ σ H => W (.ref C) none σ H) := L2N.ps_raise hc tk (pmk_ex0 c hg hdb)
/-! ### isinstance(e, c), e a caught error without a dict -/
def rIs0 (K : PySem.W.Frag) (a : Addr) (cls : Value) (d : Option Addr) : List V → Hp → VK → Prop := fun xs H Q => ∃ (D : Addr) (c : V) (cv : Value) (b : Bool), cls = .ref D ∧ d = none ∧ ExcC K D ∧ xs = [.ref a, c] ∧ (∀ u, RelV c u → u = cv) ∧ PySem.W.kitOne K (.ref D) cv = some b ∧ Q (.bl b) H
theorem call_is0 {X : Cx} {a : Addr} {cls : Value} {d : Option Addr} {oe : Obj} {pn : List (Addr × Obj)} (hz : Zc cls d oe) (hf : ∃ vs, oe.data = .fields vs) : CallR (X.suite a ((a, oe) :: pn)) (.builtin "isinstance") (rIs0 X.K a cls d) := by
  intro pins s σ H xs us Q I r h
  obtain ⟨D, c, cv, b, rfl, rfl, C, rfl, hcv, e, q⟩ := h
  exact call_isE C hz hf pins s σ H _ us Q I r ⟨c, cv, b, rfl, hcv, e, q⟩
end Z
set_option Elab.async false
set_option linter.all false
set_option maxRecDepth 100000
set_option maxHeartbeats 4000000
namespace Z
open PySem PySem.Spec PyProof.Rows L2
open SX (S S_inj S_len S_cat)
/-! ### a text times an int -/
def rRepS : R2 := fun x y H Q => ∃ (l : List Nat) (k : Int), x = .str (S l) ∧ y = .int k ∧ -100000 ≤ k ∧ k ≤ 100000 ∧ l.length ≤ 10 ∧ Q (.str (S (List.replicate k.toNat l).flatten)) H
theorem op_repS {X : Cx} : OpR X (binaryOp .Mult) rRepS := by
  intro pins s σ H x y v u Q I rx ry h
  obtain ⟨l, k, rfl, rfl, h0, h1, hl, q⟩ := h
  obtain ⟨t, rfl⟩ := rx
  obtain ⟨t2, rfl⟩ := ry
  have el : (S l).length = l.length := S_len l
  have hm : l.length * k.toNat ≤ 10 * 100000 := Nat.mul_le_mul hl (by omega)
  refine PySem.P.mul_str ?_ ?_ ?_ ?_
  · rw [decide_eq_false (by omega), decide_eq_false (by omega)]
    rfl
  · intro h2 _ h3
    have : (k : Int) * ((2 ^ 63 - 1) / k) ≤ 2 ^ 63 - 1 := Int.mul_ediv_self_le (by omega)
    have h4 : (100000 : Int) ≤ (2 ^ 63 - 1) / k := by
      rw [Int.le_ediv_iff_mul_le (by omega)]
      omega
    rw [el] at h3
    omega
  · intro _ _
    rw [el]
    have hs : sizeLine = 16777216 := sizeLine_eq
    exact decide_eq_false (by omega)
  · have fr : ∀ (n : Nat) (acc : List Nat), List.foldl (fun x1 x2 => x1 ++ x2) acc.toArray (List.replicate n l.toArray) = (acc ++ (List.replicate n l).flatten).toArray := by
      intro n
      induction n with
      | zero => intro acc; simp
      | succ n ih =>
        intro acc
        have e : acc.toArray ++ l.toArray = (acc ++ l).toArray := by simp
        rw [List.replicate_succ, List.foldl_cons, e, ih, List.replicate_succ, List.flatten_cons, List.append_assoc]
    have fr0 := fr k.toNat []
    rw [List.nil_append] at fr0
    have e0 : (⟨List.foldl (fun x1 x2 => x1 ++ x2) #[] (List.replicate k.toNat (S l).cps)⟩ : Str) = S (List.replicate k.toNat l).flatten := congrArg Str.mk fr0
    have hz : (List.replicate k.toNat l).flatten.length ≤ 10 * 100000 := by
      rw [List.length_flatten, List.map_replicate, List.sum_replicate_nat]
      rw [Nat.mul_comm]
      exact hm
    by_cases c1 : k < 1
    · rw [if_pos c1]
      have : k.toNat = 0 := by omega
      rw [this] at q
      refine ⟨by decide, ?_⟩
      exact ⟨.str _, H, I.tok _, ⟨_, rfl⟩, q⟩
    · rw [if_neg c1]
      by_cases c2 : (k == 1 || (S l).length == 0) = true
      · rw [if_pos c2]
        have e2 : (List.replicate k.toNat l).flatten = l := by
          rw [Bool.or_eq_true, beq_iff_eq, beq_iff_eq, el] at c2
          rcases c2 with c2 | c2
          · rw [c2]
            simp
          · have : l = [] := List.length_eq_zero_iff.mp c2
            rw [this]
            simp
        rw [e2] at q
        exact ⟨.str _, H, I, ⟨_, rfl⟩, q⟩
      · rw [if_neg c2, e0]
        refine ⟨by rw [S_len]; exact Nat.le_trans hz (by decide), ?_⟩
        exact ⟨.str _, H, I.tok _, ⟨_, rfl⟩, q⟩
def rRepN : R2 := fun x y H Q => ∃ k : Int, x = .str "n" ∧ y = .int k ∧ -100000 ≤ k ∧ k ≤ 100000 ∧ Q (.str (S (List.replicate k.toNat 110))) H
theorem op_repN {X : Cx} : OpR X (binaryOp .Mult) rRepN := by
  intro pins s σ H x y v u Q I rx ry h
  obtain ⟨k, rfl, rfl, h0, h1, q⟩ := h
  have e : ∀ n : Nat, (List.replicate n [110]).flatten = List.replicate n 110 := by
    intro n
    induction n with
    | zero => rfl
    | succ n ih =>
      rw [List.replicate_succ, List.flatten_cons, ih, List.replicate_succ]
      rfl
  refine op_repS pins s σ H _ _ v u Q I rx ry ⟨[110], k, congrArg V.str (by decide +kernel), rfl, h0, h1, by decide, ?_⟩
  rw [e]
  exact q
end Z
set_option linter.all false
set_option maxRecDepth 100000
namespace Z
open PySem PySem.Spec PyProof.Rows L2
theorem none_of {H J : Hp} {p : Addr} (s : Same H J) (n : J p = none) : H p = none := by
  cases e : H p with
  | none => rfl
  | some o =>
    have := s p o e
    rw [n] at this
    cases this
theorem szC {n : Nat} (h : n ≤ 10000000) : n < sizeLine := Nat.lt_of_le_of_lt h (by decide)
theorem ixN_nat {n j : Nat} (h : j < n) : ixN n (j : Int) = some j := by
  unfold ixN
  rw [if_pos (by omega)]
  first
    | (rw [if_pos (by omega)]; congr 1)
    | simp [h]
theorem sqk_or {q : Bool} {K : PySem.W.Frag} {H : Hp} {a : Addr} {xs : List V} (h : SqK q K H a xs) : SqL K H a xs ∨ SqT K H a xs := by
  cases q
  · exact .inr h
  · exact .inl h
theorem nd_inj {l : List Nat} (nd : l.Nodup) {i j c : Nat} (hi : l[i]? = some c) (hj : l[j]? = some c) : i = j := by
  obtain ⟨h1, e1⟩ := List.getElem?_eq_some_iff.mp hi
  exact (List.getElem?_inj h1 nd).mp (hi.trans hj.symm)
theorem relv_ref {a : Addr} : L2.RelV (.ref a) (.ref a) := rfl
end Z
set_option Elab.async false
set_option linter.all false
set_option maxRecDepth 100000
set_option maxHeartbeats 4000000
namespace Z
open PySem PySem.Spec PyProof.Rows L2
open SX (S S_inj S_len S_cat)
theorem relv_str {x : Str} {t : Tok} : L2.RelV (.str x) (.str x t) := ⟨t, rfl⟩
theorem szl {n : Nat} (h : n ≤ 2000) : n ≤ sizeLine := Nat.le_trans h (by decide)
theorem szlt {n : Nat} (h : n ≤ 2000) : n < sizeLine := Nat.lt_of_le_of_lt h (by decide)
/-! ### draws and their place -/
structure Tk (K : PySem.W.Frag) (a p : Addr) (ds : List Int) (n : Nat) (H0 H1 : Hp) : Prop where
  hA : H1 a = some (.lst (ds.map V.int))
  hd : Dr n ds
  ne : a ≠ p
  sb : SB p H0 H1
  pl : ∃ m : Nat, H1 p = some (.lst [.int (m : Int)])
section
variable {K : PySem.W.Frag} {a p : Addr} {ds : List Int} {n m : Nat} {H0 H1 H2 : Hp}
theorem Tk.more (t : Tk K a p ds n H0 H1) (s : Same H1 H2) : Tk K a p ds n H0 H2 := by
  obtain ⟨m, e⟩ := t.pl
  exact ⟨s _ _ t.hA, t.hd, t.ne, t.sb.trans (Z.Same.sb s), m, s _ _ e⟩
theorem Tk.next (t : Tk K a p ds n H0 H1) (e : H1 p = some (.lst [.int (m : Int)])) : Tk K a p ds n H0 (upd H1 p (.lst [.int ((m + 1 : Nat) : Int)])) ∧ SB p H1 (upd H1 p (.lst [.int ((m + 1 : Nat) : Int)])) := by
  have sb : SB p H1 (upd H1 p (.lst [.int ((m + 1 : Nat) : Int)])) := SB.upd (Z.Same.sb (Same.refl H1))
  exact ⟨⟨sb _ _ t.ne t.hA, t.hd, t.ne, t.sb.trans sb, m + 1, upd_same⟩, sb⟩
theorem Tk.slf (t : Tk K a p ds n H0 H1) : Tk K a p ds n H1 H1 := ⟨t.hA, t.hd, t.ne, Z.Same.sb (Same.refl _), t.pl⟩
theorem Tk.tr (t : Tk K a p ds n H0 H1) (u : Tk K a p ds n H1 H2) : Tk K a p ds n H0 H2 := ⟨u.hA, u.hd, u.ne, t.sb.trans u.sb, u.pl⟩
theorem Tk.nn {q : Addr} (t : Tk K a p ds n H0 H1) (h : H1 q = none) : H0 q = none := by
  cases e : H0 q with
  | none => rfl
  | some o =>
    have pq : q ≠ p := fun z => by
      obtain ⟨m, em⟩ := t.pl
      rw [z, em] at h
      cases h
    rw [t.sb _ _ pq e] at h
    cases h
theorem Tk.at_ {q : Addr} {o : HO} (t : Tk K a p ds n H0 H1) (h : H0 q = none) (hp : p ≠ q) (ha : a ≠ q) : Tk K a p ds n H0 (upd H1 q o) := by
  obtain ⟨m, em⟩ := t.pl
  refine ⟨by rw [upd_ne ha]; exact t.hA, t.hd, t.ne, fun b u n1 n2 => ?_, m, by rw [upd_ne hp]; exact em⟩
  have bq : b ≠ q := fun z => by rw [z, h] at n2; cases n2
  rw [upd_ne bq]
  exact t.sb _ _ n1 n2
/-- an object other than the place lives on -/
theorem Tk.up (t : Tk K a p ds n H0 H1) {b : Addr} {o : HO} (e : H0 b = some o) (h : b ≠ p) : H1 b = some o := t.sb _ _ h e
end
theorem at_0 {α : Type} {x : α} {xs : List α} : atI (x :: xs) 0 = some x := show atI _ ((0 : Nat) : Int) = _ from atI_nat rfl
theorem at_1 {α : Type} {x y : α} {xs : List α} : atI (x :: y :: xs) 1 = some y := show atI _ ((1 : Nat) : Int) = _ from atI_nat rfl
theorem at_2 {α : Type} {x y z : α} {xs : List α} : atI (x :: y :: z :: xs) 2 = some z := show atI _ ((2 : Nat) : Int) = _ from atI_nat rfl
theorem at_3 {α : Type} {x y z u : α} {xs : List α} : atI (x :: y :: z :: u :: xs) 3 = some u := show atI _ ((3 : Nat) : Int) = _ from atI_nat rfl
theorem sum_one : ∀ l : List Nat, (l.map fun _ => 1).sum = l.length
  | [] => rfl
  | _ :: r => by
    rw [List.map_cons, List.sum_cons, sum_one r, List.length_cons]
    omega
theorem join_one : ∀ l : List Nat, TL.joinL [] (l.map fun c => [c]) = l
  | [] => rfl
  | [c] => rfl
  | c :: d :: r => by
    have ih := join_one (d :: r)
    show [c] ++ ([] ++ TL.joinL [] ((d :: r).map fun c => [c])) = _
    rw [ih]
    rfl
theorem ixv {b : Bool} {K : PySem.W.Frag} {H : Hp} {a : Addr} {xs : List V} {i : Int} {v : V} {Q : VK} (hS : SqK b K H a xs) (e : atI xs i = some v) (q : Q v H) : rIx K (.ref a) (.int i) H Q := by
  cases b
  · exact .inr (.inl ⟨a, _, _, _, rfl, rfl, hS, e, q⟩)
  · exact .inl ⟨a, _, _, _, rfl, rfl, hS, e, q⟩
theorem sgn_at (z : Str) (r : Int) (h : 0 < z.length) : ∃ c, atI z.cps.toList (r % (z.length : Int)) = some c := by
  have h1 := Int.emod_nonneg r (show (z.length : Int) ≠ 0 by omega)
  have h2 := Int.emod_lt_of_pos r (show 0 < (z.length : Int) by omega)
  obtain ⟨j, hj⟩ : ∃ j : Nat, r % (z.length : Int) = (j : Int) := ⟨(r % (z.length : Int)).toNat, by omega⟩
  rw [hj] at h2 ⊢
  have hl : j < z.cps.toList.length := by
    show j < z.cps.size
    have : z.length = z.cps.size := rfl
    omega
  exact ⟨z.cps.toList[j], atI_nat (List.getElem?_eq_getElem hl)⟩
theorem modN (r : Int) {n : Nat} (h : 0 < n) : ∃ c : Nat, r % (n : Int) = (c : Int) ∧ c < n := by
  have h1 := Int.emod_nonneg r (show (n : Int) ≠ 0 by omega)
  have h2 := Int.emod_lt_of_pos r (show 0 < (n : Int) by omega)
  exact ⟨(r % (n : Int)).toNat, by omega, by omega⟩
end Z
set_option Elab.async false
set_option linter.all false
set_option maxRecDepth 100000
set_option maxHeartbeats 4000000
namespace Z
open PySem PySem.Spec PyProof PyProof.Rows L2 F
/-! ### x in y, y an instance of a class with __contains__ -/
structure InO (P : Program) (w : World) (K : PySem.W.Frag) (mg : Str → Option Value) (base : Heap) (k : Nat) (C : Addr) (sp : Sp) : Prop where
  ex : ∃ (f : Addr) (fd : FuncData) (ps : List Str), FnOk P w K mg base CX0 k f fd ps sp ∧ PySem.W.findIn K (.ref C) "__contains__" = some (some (.ref f)) ∧ PySem.W.isFn K (.ref f) = true ∧ Binds K fd ps []
def rInO (C : Addr) (sp : Sp) : R2 := fun x y H Q => ∃ b dy gs, y = .ref b ∧ H b = some (.ins C dy gs) ∧ sp [.ref b, x] H (fun v H' => ∃ r, v = .bl r ∧ Q (.bl r) H') E0
theorem op_ownIn {X : Cx} {k j : Nat} {C : Addr} {sp : Sp} (c : InO X.prog X.w X.K X.mg X.base k C sp) (hr : Room j X.A) (hk : k ≤ j) : OpR X (compareOp .In) (rInO C sp) := by
  intro pins s σ H x y v u Q I rx ry hq
  obtain ⟨f, fd, ps, F, hs, hf, hb⟩ := c.ex
  obtain ⟨b, dy, gs, rfl, hb', q⟩ := hq
  cases ry
  obtain ⟨mB, J, _⟩ := ins_get I.hok hb'
  obtain ⟨od, J, _⟩ := J.look
  obtain ⟨m, hF⟩ := I.fr
  refine PySem.W.in_K hF I.ok.mod.kin J hs hf ?_
  have r2 : Vals [V.ref b, x] [Value.ref b, v] := .cons rfl (.cons rx .nil)
  refine thn (run_fn (dvs := []) F (hr.mono hk) hb .nil pass0 I r2 q) fun r s' z => ?_
  obtain ⟨v', H', I', rv, b', rfl, q'⟩ := z
  cases rv
  exact wpAny_truthy_bool ⟨.bl b', H', I', rfl, q'⟩
/-! ### making with defaults -/
structure MakD (P : Program) (w : World) (K : PySem.W.Frag) (mg : Str → Option Value) (base : Heap) (k : Nat) (x : Str) (dvs : List V) (sp : Sp) : Prop where
  ex : ∃ (C f : Addr) (fd : FuncData) (ps : List Str) (si : Sp) (ds : List Value), Mk K C f ∧ FnOk P w K mg base CX0 k f fd ps si ∧ mg x = some (.ref C) ∧ Vals dvs ds ∧ Binds K fd ps ds ∧
    ∀ vs H Q E, sp vs H Q E → ∀ n dx, H n = none → H dx = none → dx ≠ n → si (.ref n :: (vs ++ dvs)) (upd (upd H dx (.own n)) n (.ins C dx [])) (fun v H2 => v = .non ∧ Q (.ref n) H2) E
theorem pe_mkD {X : Cx} {k j : Nat} {x : Str} {sp : Sp} {dvs : List V} {p pos : Pos} {e : Expr} {es : List Expr} {t : TA} (c : MakD X.prog X.w X.K X.mg X.base k x dvs sp) (hr : Room j X.A) (hk : k + 1 ≤ j) (hg : Gl X x) (ha : PA X (e :: es) t)
    (hdb : (x == ("__debug__" : Str)) = false := by decide) (he : starEach (e :: es) X.env = (false, eval e X.env) :: starEach es X.env := by rfl) (hpl : (backTo pos (starEach es X.env)).any (·.1) = false := by rfl) : PE X (.Call (.Name x p) (e :: es) [] pos) (tCall sp [] E0 t) := by
  obtain ⟨C, f, fd, ps, si, ds, M, F, hm, rv, b, imp⟩ := c.ex
  constructor
  intro pins s σ H Q I h
  refine wpAny_Call_Name_kw (ld_glob I hg hm ?_ hdb)
  refine PySem.W.callWith_K (h₀ := X.base) I.ok.mod.kin M.kp (thn (ha.run pos pins s σ H _ I h) fun us s1 ⟨vs, H1, I1, r, q⟩ => ⟨I1.kIn, ?_⟩) he hpl
  have q2 : sp vs H1 Q E0 := by
    have z : sp (vs ++ []) H1 Q E0 := q
    rw [List.append_nil] at z
    exact z
  exact run_make (dvs := dvs) M F (hr.mono hk) b rv pass0 I1 r (fun n dx n1 n2 n3 => imp _ _ _ _ q2 n dx n1 n2 n3)
end Z
set_option linter.all false
set_option maxRecDepth 100000
namespace Mc
/-! ### tables and their runs -/
abbrev Tbl := List (List (Option Nat))
def nx (T : Tbl) (s k : Nat) : Option Nat := (T.getD s []).getD k none
def rn (T : Tbl) : Option Nat → List Nat → Option Nat
  | o, [] => o
  | none, _ :: _ => none
  | some s, k :: w => rn T (nx T s k) w
structure Wf (T : Tbl) (m : Nat) : Prop where
  row : ∀ r ∈ T, r.length = m
  ent : ∀ r ∈ T, ∀ e, some e ∈ r → e < T.length
def Acc (T : Tbl) (G : Nat → Prop) (s : Nat) (w : List Nat) : Prop := ∃ t, rn T (some s) w = some t ∧ G t
def Liv (T : Tbl) (G : Nat → Prop) (s : Nat) : Prop := ∃ w, Acc T G s w
def Leq (T : Tbl) (G : Nat → Prop) (s t : Nat) : Prop := ∀ w, Acc T G s w ↔ Acc T G t w
theorem rn_none (T : Tbl) : ∀ w, rn T none w = none
  | [] => rfl
  | _ :: _ => rfl
theorem rn_app (T : Tbl) : ∀ (u : List Nat) (o : Option Nat) (v : List Nat), rn T o (u ++ v) = rn T (rn T o u) v
  | [], _, _ => rfl
  | _ :: _, none, v => (rn_none T v).symm
  | k :: u, some s, v => rn_app T u (nx T s k) v
theorem nx_mem {T : Tbl} {s k e : Nat} (h : nx T s k = some e) : ∃ r, T[s]? = some r ∧ r[k]? = some (some e) := by
  unfold nx at h
  cases hT : T[s]? with
  | none =>
    rw [List.getD_eq_getElem?_getD, List.getD_eq_getElem?_getD, hT] at h
    simp at h
  | some r =>
    rw [List.getD_eq_getElem?_getD, List.getD_eq_getElem?_getD, hT] at h
    cases hr : r[k]? with
    | none =>
      simp [hr] at h
    | some o =>
      simp [hr] at h
      exact ⟨r, rfl, by rw [hr, h]⟩
theorem nx_at {T : Tbl} {s k : Nat} {r : List (Option Nat)} {o : Option Nat} (h : T[s]? = some r) (h2 : r[k]? = some o) : nx T s k = o := by
  unfold nx
  rw [List.getD_eq_getElem?_getD, List.getD_eq_getElem?_getD, h]
  show (r[k]?).getD none = o
  rw [h2]
  rfl
theorem nx_lt {T : Tbl} {m s k e : Nat} (wf : Wf T m) (h : nx T s k = some e) : e < T.length ∧ k < m ∧ s < T.length := by
  obtain ⟨r, h1, h2⟩ := nx_mem h
  have mr := List.mem_of_getElem? h1
  refine ⟨wf.ent r mr e (List.mem_of_getElem? h2), ?_, (List.getElem?_eq_some_iff.mp h1).1⟩
  rw [← wf.row r mr]
  exact (List.getElem?_eq_some_iff.mp h2).1
theorem acc_cons {T : Tbl} {G : Nat → Prop} {s k : Nat} {w : List Nat} : Acc T G s (k :: w) ↔ ∃ e, nx T s k = some e ∧ Acc T G e w := by
  constructor
  · rintro ⟨t, h, g⟩
    have h : rn T (nx T s k) w = some t := h
    cases e : nx T s k with
    | none => rw [e, rn_none] at h; cases h
    | some e' => exact ⟨e', rfl, t, by rw [e] at h; exact h, g⟩
  · rintro ⟨e, h, t, h2, g⟩
    exact ⟨t, by show rn T (nx T s k) w = some t; rw [h]; exact h2, g⟩
theorem acc_nil {T : Tbl} {G : Nat → Prop} {s : Nat} : Acc T G s [] ↔ G s := ⟨fun ⟨t, h, g⟩ => by cases h; exact g, fun g => ⟨s, rfl, g⟩⟩
theorem Leq.refl {T : Tbl} {G : Nat → Prop} (s : Nat) : Leq T G s s := fun _ => Iff.rfl
theorem Leq.symm {T : Tbl} {G : Nat → Prop} {s t : Nat} (h : Leq T G s t) : Leq T G t s := fun w => (h w).symm
theorem Leq.trans {T : Tbl} {G : Nat → Prop} {s t u : Nat} (h : Leq T G s t) (k : Leq T G t u) : Leq T G s u := fun w => (h w).trans (k w)
theorem Leq.good {T : Tbl} {G : Nat → Prop} {s t : Nat} (h : Leq T G s t) : G s ↔ G t := by
  have := h []
  rwa [acc_nil, acc_nil] at this
theorem Leq.liv {T : Tbl} {G : Nat → Prop} {s t : Nat} (h : Leq T G s t) (l : Liv T G s) : Liv T G t := let ⟨w, a⟩ := l; ⟨w, (h w).mp a⟩
theorem Leq.step {T : Tbl} {G : Nat → Prop} {s t k e : Nat} (h : Leq T G s t) (n : nx T s k = some e) (l : Liv T G e) : ∃ e', nx T t k = some e' ∧ Leq T G e e' := by
  obtain ⟨w, a⟩ := l
  obtain ⟨e', h1, _⟩ := acc_cons.mp ((h (k :: w)).mp (acc_cons.mpr ⟨e, n, a⟩))
  refine ⟨e', h1, fun v => ⟨fun b => ?_, fun b => ?_⟩⟩
  · obtain ⟨e2, h2, b2⟩ := acc_cons.mp ((h (k :: v)).mp (acc_cons.mpr ⟨e, n, b⟩))
    rw [h1] at h2
    cases h2
    exact b2
  · obtain ⟨e2, h2, b2⟩ := acc_cons.mp ((h (k :: v)).mpr (acc_cons.mpr ⟨e', h1, b⟩))
    rw [n] at h2
    cases h2
    exact b2
theorem liv_back {T : Tbl} {G : Nat → Prop} {s t : Nat} {w : List Nat} (h : rn T (some s) w = some t) (l : Liv T G t) : Liv T G s := by
  obtain ⟨v, u, a, g⟩ := l
  exact ⟨w ++ v, u, by rw [rn_app, h]; exact a, g⟩
theorem liv_good {T : Tbl} {G : Nat → Prop} {s : Nat} (h : G s) : Liv T G s := ⟨[], acc_nil.mpr h⟩
theorem liv_step {T : Tbl} {G : Nat → Prop} {s k e : Nat} (h : nx T s k = some e) (l : Liv T G e) : Liv T G s := let ⟨w, a⟩ := l; ⟨k :: w, acc_cons.mpr ⟨e, h, a⟩⟩
/-- closed flags that hold the good states hold the live ones -/
theorem liv_closed {T : Tbl} {G : Nat → Prop} {al : Nat → Prop} (g : ∀ s, G s → al s) (c : ∀ s k e, nx T s k = some e → al e → al s) {s : Nat} (l : Liv T G s) : al s := by
  obtain ⟨w, a⟩ := l
  induction w generalizing s with
  | nil => exact g s (acc_nil.mp a)
  | cons k w ih =>
    obtain ⟨e, h, b⟩ := acc_cons.mp a
    exact c s k e h (ih b)
/-! ### the normal form -/
structure NfOf (T : Tbl) (G : Nat → Prop) (m : Nat) (R : Tbl) (g : List Nat) (met : List Nat) : Prop where
  zero : met[0]? = some 0
  len : R.length = met.length
  row : ∀ r ∈ R, r.length = m
  live : ∀ s ∈ met, s < T.length ∧ Liv T G s
  ap : ∀ (i j s t : Nat), met[i]? = some s → met[j]? = some t → Leq T G s t → i = j
  no : ∀ (i s k : Nat), met[i]? = some s → nx R i k = none → ∀ e, nx T s k = some e → ¬ Liv T G e
  yes : ∀ (i s k j : Nat), met[i]? = some s → nx R i k = some j → ∃ e t, nx T s k = some e ∧ met[j]? = some t ∧ Leq T G e t
  good : ∀ i : Nat, i ∈ g ↔ ∃ s, met[i]? = some s ∧ G s
  asc : g.Pairwise (· < ·)
  ord : ∀ j : Nat, 0 < j → j < met.length → ∃ i k : Nat, i < j ∧ nx R i k = some j ∧ ∀ (i' k' j' : Nat), (i' < i ∨ i' = i ∧ k' < k) → nx R i' k' = some j' → j' < j
def Nf (T : Tbl) (G : Nat → Prop) (m : Nat) (R : Tbl) (g : List Nat) : Prop := (R = [] ∧ g = [] ∧ (T = [] ∨ ¬ Liv T G 0)) ∨ ∃ met, NfOf T G m R g met
theorem NfOf.sim {T : Tbl} {G : Nat → Prop} {m : Nat} {R : Tbl} {g met : List Nat} (h : NfOf T G m R g met) : ∀ (w : List Nat) (i s t0 : Nat), met[i]? = some t0 → Leq T G s t0 → (rn R (some i) w = none → ∀ t, rn T (some s) w = some t → ¬ Liv T G t) ∧ ∀ j, rn R (some i) w = some j → ∃ t t1, rn T (some s) w = some t ∧ met[j]? = some t1 ∧ Leq T G t t1 := by
  intro w
  induction w with
  | nil =>
    intro i s t0 hi l
    exact ⟨fun z => (by cases z), fun j z => by cases z; exact ⟨s, t0, rfl, hi, l⟩⟩
  | cons k w ih =>
    intro i s t0 hi l
    cases e : nx R i k with
    | none =>
      refine ⟨fun _ t ht lt => ?_, fun j z => ?_⟩
      · have ht : rn T (nx T s k) w = some t := ht
        cases e2 : nx T s k with
        | none => rw [e2, rn_none] at ht; cases ht
        | some e' =>
          rw [e2] at ht
          have le := liv_back ht lt
          obtain ⟨e3, h3, l3⟩ := l.step e2 le
          exact h.no i t0 k hi e e3 h3 (l3.liv le)
      · have z : rn R (nx R i k) w = some j := z
        rw [e, rn_none] at z
        cases z
    | some j =>
      obtain ⟨e1, t1, h1, h2, l1⟩ := h.yes i t0 k j hi e
      have lv1 : Liv T G e1 := l1.symm.liv (h.live t1 (List.mem_of_getElem? h2)).2
      obtain ⟨e2, h3, l3⟩ := l.symm.step h1 lv1
      obtain ⟨a, b⟩ := ih j e2 t1 h2 (l3.symm.trans l1)
      refine ⟨fun z t ht => a (by have z : rn R (nx R i k) w = none := z; rw [e] at z; exact z) t (by have ht : rn T (nx T s k) w = some t := ht; rw [h3] at ht; exact ht), fun j' z => ?_⟩
      obtain ⟨t, t2, c1, c2, c3⟩ := b j' (by have z : rn R (nx R i k) w = some j' := z; rw [e] at z; exact z)
      exact ⟨t, t2, by show rn T (nx T s k) w = some t; rw [h3]; exact c1, c2, c3⟩
def st (T : Tbl) : Option Nat := if T.length = 0 then none else some 0
theorem Nf.read {T : Tbl} {G : Nat → Prop} {m : Nat} {R : Tbl} {g : List Nat} (h : Nf T G m R g) (w : List Nat) : (rn R (st R) w = none → ∀ t, rn T (st T) w = some t → ¬ Liv T G t) ∧ ∀ j, rn R (st R) w = some j → ∃ t, rn T (st T) w = some t ∧ Liv T G t ∧ (j ∈ g ↔ G t) := by
  rcases h with ⟨rfl, rfl, h⟩ | ⟨met, h⟩
  · have e : rn [] (st []) w = none := rn_none [] w
    rw [e]
    refine ⟨fun _ t ht lt => ?_, fun j z => (by cases z)⟩
    rcases h with rfl | h
    · rw [e] at ht; cases ht
    · unfold st at ht
      split at ht
      · rw [rn_none] at ht; cases ht
      · exact h (liv_back ht lt)
  · have hm : 0 < met.length := (List.getElem?_eq_some_iff.mp h.zero).1
    have hT := (h.live 0 (List.mem_of_getElem? h.zero)).1
    have e1 : st R = some 0 := if_neg (by rw [h.len]; omega)
    have e2 : st T = some 0 := if_neg (by omega)
    rw [e1, e2]
    obtain ⟨a, b⟩ := h.sim w 0 0 0 h.zero (Leq.refl 0)
    refine ⟨a, fun j z => ?_⟩
    obtain ⟨t, t1, c1, c2, c3⟩ := b j z
    refine ⟨t, c1, c3.symm.liv (h.live t1 (List.mem_of_getElem? c2)).2, (h.good j).trans ⟨fun ⟨s, q1, q2⟩ => ?_, fun q => ⟨t1, c2, c3.good.mp q⟩⟩⟩
    rw [c2] at q1
    cases q1
    exact c3.good.mpr q2
/-! ### texts: some characters are no letters -/
def rs (T : Tbl) (ix : Nat → Option Nat) : Option Nat → List Nat → Option Nat
  | o, [] => o
  | none, _ :: _ => none
  | some s, c :: w => match ix c with
    | none => none
    | some k => rs T ix (nx T s k) w
theorem rs_none (T : Tbl) (ix : Nat → Option Nat) : ∀ w, rs T ix none w = none
  | [] => rfl
  | _ :: _ => rfl
theorem rs_known (ix : Nat → Option Nat) : ∀ (w : List Nat), (∃ ks : List Nat, (∀ T o, rs T ix o w = rn T o ks) ∧ ∀ c ∈ w, ix c ≠ none) ∨ ((∀ T o, rs T ix o w = none) ∧ ∃ c ∈ w, ix c = none)
  | [] => .inl ⟨[], fun T o => by cases o <;> rfl, fun c m => absurd m (by simp)⟩
  | c :: w => by
    cases e : ix c with
    | none =>
      refine .inr ⟨fun T o => ?_, c, List.mem_cons_self, e⟩
      cases o with
      | none => rfl
      | some s => show (match ix c with | none => none | some k => rs T ix (nx T s k) w) = none; rw [e]
    | some k =>
      have step : ∀ T s, rs T ix (some s) (c :: w) = rs T ix (nx T s k) w := fun T s => by
        show (match ix c with | none => none | some k => rs T ix (nx T s k) w) = _
        rw [e]
      rcases rs_known ix w with ⟨ks, h, h2⟩ | ⟨h, d, hd, h2⟩
      · refine .inl ⟨k :: ks, fun T o => ?_, fun d m => ?_⟩
        · cases o with
          | none => rfl
          | some s => rw [step, h]; rfl
        · rcases List.mem_cons.mp m with rfl | m
          · rw [e]; exact fun z => by cases z
          · exact h2 d m
      · refine .inr ⟨fun T o => ?_, d, List.mem_cons_of_mem _ hd, h2⟩
        cases o with
        | none => rfl
        | some s => rw [step, h]
theorem Nf.text {T : Tbl} {G : Nat → Prop} {m : Nat} {R : Tbl} {g : List Nat} (h : Nf T G m R g) (ix : Nat → Option Nat) (w : List Nat) : (rs R ix (st R) w = none → ∀ t, rs T ix (st T) w = some t → ¬ Liv T G t) ∧ ∀ j, rs R ix (st R) w = some j → ∃ t, rs T ix (st T) w = some t ∧ Liv T G t ∧ (j ∈ g ↔ G t) := by
  rcases rs_known ix w with ⟨ks, e, _⟩ | ⟨e, _⟩
  · rw [e, e]
    exact h.read ks
  · rw [e, e]
    exact ⟨fun _ t z => (by cases z), fun j z => (by cases z)⟩
/-! ### first occurrences -/
section
variable {α β : Type} [DecidableEq α] [DecidableEq β]
def isF (f : Nat → α) (s : Nat) : Bool := (List.range s).all fun t => decide (f t ≠ f s)
def cf (f : Nat → α) (n : Nat) : Nat := ((List.range n).filter (isF f)).length
theorem isF_iff {f : Nat → α} {s : Nat} : isF f s = true ↔ ∀ t, t < s → f t ≠ f s := by
  unfold isF
  rw [List.all_eq_true]
  exact ⟨fun h t ht => of_decide_eq_true (h t (List.mem_range.mpr ht)), fun h t ht => decide_eq_true (h t (List.mem_range.mp ht))⟩
theorem cf_succ (f : Nat → α) (n : Nat) : cf f (n + 1) = cf f n + if isF f n then 1 else 0 := by
  unfold cf
  rw [List.range_succ, List.filter_append, List.length_append]
  congr 1
  cases e : isF f n <;> simp [e]
theorem cf_le (f : Nat → α) (n : Nat) : cf f n ≤ n := by
  have := List.length_filter_le (isF f) (List.range n)
  rwa [List.length_range] at this
theorem cf_pos (f : Nat → α) {n : Nat} (h : 0 < n) : 0 < cf f n := by
  cases n with
  | zero => exact absurd h (Nat.lt_irrefl _)
  | succ n =>
    clear h
    induction n with
    | zero => rw [cf_succ, show isF f 0 = true from rfl]; exact Nat.succ_pos _
    | succ n ih => rw [cf_succ]; omega
theorem first_ex (f : Nat → α) : ∀ s, ∃ t, t ≤ s ∧ f t = f s ∧ isF f t = true := by
  intro s
  induction s using Nat.strongRecOn with
  | _ s ih =>
    cases e : isF f s with
    | true => exact ⟨s, Nat.le_refl _, rfl, e⟩
    | false =>
      have : ∃ t, t < s ∧ f t = f s := by
        refine Classical.byContradiction fun c => ?_
        have : isF f s = true := isF_iff.mpr fun t ht q => c ⟨t, ht, q⟩
        rw [e] at this
        cases this
      obtain ⟨t, ht, q⟩ := this
      obtain ⟨u, hu, q2, q3⟩ := ih t ht
      exact ⟨u, by omega, q2.trans q, q3⟩
/-- a finer map has at least as many values; as many only if it is not finer -/
theorem cf_mono {f : Nat → α} {g : Nat → β} {n : Nat} (h : ∀ s t, s < n → t < n → g s = g t → f s = f t) : cf f n ≤ cf g n := by
  induction n with
  | zero => exact Nat.le_refl _
  | succ n ih =>
    have h1 := ih fun s t hs ht => h s t (by omega) (by omega)
    rw [cf_succ, cf_succ]
    cases e : isF f n with
    | false => simp; omega
    | true =>
      have : isF g n = true := isF_iff.mpr fun t ht q => isF_iff.mp e t ht (h t n (by omega) (by omega) q)
      rw [this]
      omega
theorem cf_eq {f : Nat → α} {g : Nat → β} {n : Nat} (h : ∀ s t, s < n → t < n → g s = g t → f s = f t) (e : cf g n = cf f n) : ∀ s t, s < n → t < n → f s = f t → g s = g t := by
  have sub : ∀ s, s < n → isF f s = true → isF g s = true := fun s hs hf => isF_iff.mpr fun t ht q => isF_iff.mp hf t ht (h t s (by omega) hs q)
  have all : ∀ k, k ≤ n → (cf g k = cf f k → ∀ s, s < k → isF g s = true → isF f s = true) ∧ cf f k ≤ cf g k := by
    intro k
    induction k with
    | zero => exact fun _ => ⟨fun _ s hs => absurd hs (Nat.not_lt_zero _), Nat.le_refl _⟩
    | succ k ih =>
      intro hk
      obtain ⟨i1, i2⟩ := ih (by omega)
      have sk := sub k (by omega)
      rw [cf_succ, cf_succ]
      cases ef : isF f k with
      | true =>
        rw [sk ef]
        refine ⟨fun q s hs hg => ?_, by simp; omega⟩
        by_cases c : s = k
        · subst c; exact ef
        · exact i1 (by simp at q; omega) s (by omega) hg
      | false =>
        cases eg : isF g k with
        | true => exact ⟨fun q => by simp at q; omega, by simp; omega⟩
        | false =>
          refine ⟨fun q s hs hg => ?_, by simp; omega⟩
          by_cases c : s = k
          · subst c; rw [eg] at hg; cases hg
          · exact i1 (by simp at q; omega) s (by omega) hg
  have back := (all n (Nat.le_refl n)).1 e
  intro s t hs ht q
  obtain ⟨s1, a1, a2, a3⟩ := first_ex g s
  obtain ⟨t1, b1, b2, b3⟩ := first_ex g t
  have fs := back s1 (by omega) a3
  have ft := back t1 (by omega) b3
  have e1 : f s1 = f t1 := (h s1 s (by omega) hs a2).trans (q.trans (h t1 t (by omega) ht b2).symm)
  have : s1 = t1 := by
    rcases Nat.lt_trichotomy s1 t1 with c | c | c
    · exact absurd e1 (isF_iff.mp ft s1 c)
    · exact c
    · exact absurd e1.symm (isF_iff.mp fs t1 c)
  rw [← a2, this, b2]
end
/-! ### classes of states -/
/-- what a row tells about the classes -/
def mk (T : Tbl) (m : Nat) (cl : Nat → Nat) (s : Nat) : Nat × List (Option Nat) := (cl s, (List.range m).map fun k => (nx T s k).map cl)
theorem mk_fst {T : Tbl} {m : Nat} {cl : Nat → Nat} {s t : Nat} (h : mk T m cl s = mk T m cl t) : cl s = cl t := congrArg (·.1) h
theorem mk_snd {T : Tbl} {m : Nat} {cl : Nat → Nat} {s t k : Nat} (h : mk T m cl s = mk T m cl t) (hk : k < m) : (nx T s k).map cl = (nx T t k).map cl := by
  have e := congrArg (fun z : Nat × List (Option Nat) => z.2[k]?) h
  unfold mk at e
  dsimp only at e
  rw [List.getElem?_map, List.getElem?_map, List.getElem?_range hk] at e
  injection e
theorem mk_mk {T : Tbl} {m : Nat} {cl : Nat → Nat} {s t : Nat} (h : cl s = cl t) (h2 : ∀ k, k < m → (nx T s k).map cl = (nx T t k).map cl) : mk T m cl s = mk T m cl t := by
  unfold mk
  rw [h]
  congr 1
  exact List.map_congr_left fun k hk => h2 k (List.mem_range.mp hk)
/-- states with the same language have the same class -/
def Crs (T : Tbl) (G : Nat → Prop) (cl : Nat → Nat) : Prop := ∀ s t, s < T.length → t < T.length → Leq T G s t → cl s = cl t
theorem Crs.next {T : Tbl} {G : Nat → Prop} {m : Nat} {cl : Nat → Nat} (wf : Wf T m) (lv : ∀ s k e, nx T s k = some e → Liv T G e) (h : Crs T G cl) {s t : Nat} (hs : s < T.length) (ht : t < T.length) (l : Leq T G s t) : mk T m cl s = mk T m cl t := by
  refine mk_mk (h s t hs ht l) fun k hk => ?_
  cases e : nx T s k with
  | some a =>
    obtain ⟨b, e2, l2⟩ := l.step e (lv _ _ _ e)
    rw [e2]
    show some (cl a) = some (cl b)
    rw [h a b (nx_lt wf e).1 (nx_lt wf e2).1 l2]
  | none =>
    cases e2 : nx T t k with
    | none => rfl
    | some b =>
      obtain ⟨a, e3, _⟩ := l.symm.step e2 (lv _ _ _ e2)
      rw [e] at e3
      cases e3
/-- stable classes tell the languages apart -/
theorem stable_leq {T : Tbl} {G : Nat → Prop} {m : Nat} {cl : Nat → Nat} (wf : Wf T m) (g : ∀ s t, s < T.length → t < T.length → cl s = cl t → (G s ↔ G t)) (st : ∀ s t, s < T.length → t < T.length → cl s = cl t → mk T m cl s = mk T m cl t) : ∀ s t, s < T.length → t < T.length → cl s = cl t → Leq T G s t := by
  have key : ∀ w s t, s < T.length → t < T.length → cl s = cl t → Acc T G s w → Acc T G t w := by
    intro w
    induction w with
    | nil => exact fun s t hs ht e a => acc_nil.mpr ((g s t hs ht e).mp (acc_nil.mp a))
    | cons k w ih =>
      intro s t hs ht e a
      obtain ⟨x, h1, a⟩ := acc_cons.mp a
      obtain ⟨x1, x2, x3⟩ := nx_lt wf h1
      have q := mk_snd (st s t hs ht e) x2
      rw [h1] at q
      cases h2 : nx T t k with
      | none => rw [h2] at q; cases q
      | some y =>
        rw [h2] at q
        have q : some (cl x) = some (cl y) := q
        injection q with q
        exact acc_cons.mpr ⟨y, h2, ih x y x1 (nx_lt wf h2).1 q a⟩
  exact fun s t hs ht e w => ⟨key w s t hs ht e, key w t s ht hs e.symm⟩
/-! ### flags -/
def cnt (al : Nat → Bool) (n : Nat) : Nat := ((List.range n).filter al).length
theorem cnt_succ (al : Nat → Bool) (n : Nat) : cnt al (n + 1) = cnt al n + if al n then 1 else 0 := by
  unfold cnt
  rw [List.range_succ, List.filter_append, List.length_append]
  congr 1
  cases e : al n <;> simp [e]
theorem cnt_le (al : Nat → Bool) (n : Nat) : cnt al n ≤ n := by
  have := List.length_filter_le al (List.range n)
  rwa [List.length_range] at this
theorem cnt_mono {al bl : Nat → Bool} : ∀ {n : Nat}, (∀ s, s < n → al s = true → bl s = true) → cnt al n ≤ cnt bl n
  | 0, _ => Nat.le_refl _
  | n + 1, h => by
    have := cnt_mono (n := n) fun s hs => h s (by omega)
    rw [cnt_succ, cnt_succ]
    cases e : al n with
    | false => simp; omega
    | true => rw [h n (by omega) e]; simp; omega
theorem cnt_lt {al bl : Nat → Bool} : ∀ {n x : Nat}, (∀ s, s < n → al s = true → bl s = true) → x < n → al x = false → bl x = true → cnt al n < cnt bl n
  | 0, x, _, hx, _, _ => absurd hx (Nat.not_lt_zero _)
  | n + 1, x, h, hx, h1, h2 => by
    rw [cnt_succ, cnt_succ]
    by_cases c : x = n
    · subst c
      have := cnt_mono (n := x) fun s hs => h s (by omega)
      rw [h1, h2]
      simp
      omega
    · have := cnt_lt (n := n) (x := x) (fun s hs => h s (by omega)) (by omega) h1 h2
      cases e : al n with
      | false => simp; omega
      | true => rw [h n (by omega) e]; simp; omega
/-! ### the rows that are kept -/
structure Kpt (T : Tbl) (G : Nat → Prop) (m : Nat) (T' : Tbl) : Prop where
  len : T'.length = T.length
  wf : Wf T' m
  nx : ∀ s k e, nx T' s k = some e ↔ nx T s k = some e ∧ Liv T G e
theorem Kpt.acc {T T' : Tbl} {G : Nat → Prop} {m : Nat} (h : Kpt T G m T') : ∀ w s, Acc T' G s w ↔ Acc T G s w
  | [], s => by rw [acc_nil, acc_nil]
  | k :: w, s => by
    rw [acc_cons, acc_cons]
    constructor
    · rintro ⟨e, h1, a⟩
      exact ⟨e, ((h.nx s k e).mp h1).1, (h.acc w e).mp a⟩
    · rintro ⟨e, h1, a⟩
      exact ⟨e, (h.nx s k e).mpr ⟨h1, w, a⟩, (h.acc w e).mpr a⟩
theorem Kpt.liv {T T' : Tbl} {G : Nat → Prop} {m : Nat} (h : Kpt T G m T') (s : Nat) : Liv T' G s ↔ Liv T G s := ⟨fun ⟨w, a⟩ => ⟨w, (h.acc w s).mp a⟩, fun ⟨w, a⟩ => ⟨w, (h.acc w s).mpr a⟩⟩
theorem Kpt.leq {T T' : Tbl} {G : Nat → Prop} {m : Nat} (h : Kpt T G m T') (s t : Nat) : Leq T' G s t ↔ Leq T G s t := by
  constructor
  · intro l w
    rw [← h.acc, ← h.acc]
    exact l w
  · intro l w
    rw [h.acc, h.acc]
    exact l w
theorem Kpt.lv {T T' : Tbl} {G : Nat → Prop} {m : Nat} (h : Kpt T G m T') (s k e : Nat) (z : Mc.nx T' s k = some e) : Liv T' G e := (h.liv e).mpr ((h.nx s k e).mp z).2
theorem Kpt.nf {T T' : Tbl} {G : Nat → Prop} {m : Nat} {R : Tbl} {g met : List Nat} (h : Kpt T G m T') (n : NfOf T' G m R g met) : NfOf T G m R g met where
  zero := n.zero
  len := n.len
  row := n.row
  live := fun s hs => ⟨by rw [← h.len]; exact (n.live s hs).1, (h.liv s).mp (n.live s hs).2⟩
  ap := fun i j s t h1 h2 l => n.ap i j s t h1 h2 ((h.leq s t).mpr l)
  no := fun i s k h1 h2 e h3 h4 => n.no i s k h1 h2 e ((h.nx s k e).mpr ⟨h3, h4⟩) ((h.liv e).mpr h4)
  yes := fun i s k j h1 h2 => let ⟨e, t, h3, h4, h5⟩ := n.yes i s k j h1 h2; ⟨e, t, ((h.nx s k e).mp h3).1, h4, (h.leq e t).mp h5⟩
  good := n.good
  asc := n.asc
  ord := n.ord
def kp (al : Nat → Bool) : Option Nat → Option Nat
  | none => none
  | some e => if al e = true then some e else none
def kpT (al : Nat → Bool) (T : Tbl) : Tbl := T.map fun r => r.map (kp al)
theorem nx_kp (al : Nat → Bool) (T : Tbl) (s k : Nat) : nx (kpT al T) s k = kp al (nx T s k) := by
  unfold nx kpT
  rw [List.getD_eq_getElem?_getD, List.getD_eq_getElem?_getD, List.getD_eq_getElem?_getD, List.getD_eq_getElem?_getD, List.getElem?_map]
  cases T[s]? with
  | none => rfl
  | some r =>
    show ((r.map (kp al))[k]?).getD none = kp al ((r[k]?).getD none)
    rw [List.getElem?_map]
    cases r[k]? <;> rfl
theorem kp_some {al : Nat → Bool} {o : Option Nat} {e : Nat} : kp al o = some e ↔ o = some e ∧ al e = true := by
  cases o with
  | none => exact ⟨fun z => (by cases z), fun z => (by cases z.1)⟩
  | some x =>
    show (if al x = true then some x else none) = some e ↔ _
    constructor
    · intro z
      by_cases c : al x = true
      · rw [if_pos c] at z
        cases z
        exact ⟨rfl, c⟩
      · rw [if_neg c] at z
        cases z
    · rintro ⟨z, c⟩
      cases z
      rw [if_pos c]
theorem kpt_of {T : Tbl} {G : Nat → Prop} {m : Nat} {al : Nat → Bool} (wf : Wf T m) (h : ∀ s, s < T.length → (al s = true ↔ Liv T G s)) : Kpt T G m (kpT al T) where
  len := List.length_map ..
  wf := ⟨fun r hr => by
    obtain ⟨r0, h0, rfl⟩ := List.mem_map.mp hr
    rw [List.length_map]
    exact wf.row r0 h0, fun r hr e he => by
    obtain ⟨r0, h0, rfl⟩ := List.mem_map.mp hr
    obtain ⟨o, ho, h1⟩ := List.mem_map.mp he
    have := (kp_some.mp h1).1
    subst this
    unfold kpT
    rw [List.length_map]
    exact wf.ent r0 h0 e ho⟩
  nx := fun s k e => by
    rw [nx_kp, kp_some]
    constructor
    · rintro ⟨h1, h2⟩
      exact ⟨h1, (h e (nx_lt wf h1).1).mp h2⟩
    · rintro ⟨h1, h2⟩
      exact ⟨h1, (h e (nx_lt wf h1).1).mpr h2⟩
theorem nd_len : ∀ {n : Nat} {l : List Nat}, l.Nodup → (∀ x ∈ l, x < n) → l.length ≤ n := by
  intro n
  induction n with
  | zero =>
    intro l _ h
    cases l with
    | nil => exact Nat.le_refl _
    | cons x r => exact absurd (h x List.mem_cons_self) (Nat.not_lt_zero _)
  | succ n ih =>
    intro l nd h
    have z := ih (l := l.erase n) (nd.erase _) (fun x hx => by
      have h1 := h x (List.mem_of_mem_erase hx)
      have h2 : x ≠ n := fun e => nd.not_mem_erase (e ▸ hx)
      omega)
    by_cases c : n ∈ l
    · rw [List.length_erase_of_mem c] at z
      omega
    · rw [List.erase_of_not_mem c] at z
      omega
/-! ### the walk that numbers the states -/
theorem nx_grow {R : Tbl} {L : List (Option Nat)} {o : Option Nat} {i k : Nat} : nx (R ++ [L ++ [o]]) i k = if i = R.length ∧ k = L.length then o else nx (R ++ [L]) i k := by
  unfold nx
  simp only [List.getD_eq_getElem?_getD]
  by_cases c : i < R.length
  · rw [if_neg (by omega), List.getElem?_append_left c, List.getElem?_append_left c]
  · rw [List.getElem?_append_right (by omega), List.getElem?_append_right (by omega)]
    by_cases d : i = R.length
    · subst d
      rw [Nat.sub_self]
      show ((L ++ [o])[k]?).getD none = if R.length = R.length ∧ k = L.length then o else (L[k]?).getD none
      by_cases e : k < L.length
      · rw [if_neg (by omega), List.getElem?_append_left e]
      · rw [List.getElem?_append_right (by omega)]
        by_cases f : k = L.length
        · subst f
          rw [if_pos ⟨rfl, rfl⟩, Nat.sub_self]
          rfl
        · rw [if_neg (by omega), List.getElem?_eq_none (by simp; omega), List.getElem?_eq_none (by omega)]
    · rw [if_neg (by omega)]
      obtain ⟨x, hx⟩ : ∃ x, i - R.length = x + 1 := ⟨i - R.length - 1, by omega⟩
      rw [hx]
      rfl
theorem nx_close {A : Tbl} {i k : Nat} : nx (A ++ [[]]) i k = nx A i k := by
  unfold nx
  simp only [List.getD_eq_getElem?_getD]
  by_cases c : i < A.length
  · rw [List.getElem?_append_left c]
  · rw [List.getElem?_append_right (by omega), List.getElem?_eq_none (show A.length ≤ i by omega)]
    cases h : i - A.length with
    | zero => rfl
    | succ x => rfl
structure Bf (T : Tbl) (G : Nat → Prop) (m : Nat) (met : List Nat) (R : Tbl) (L : List (Option Nat)) : Prop where
  zero : met[0]? = some 0
  live : ∀ s ∈ met, s < T.length ∧ Liv T G s
  ap : ∀ (i j s t : Nat), met[i]? = some s → met[j]? = some t → Leq T G s t → i = j
  row : ∀ r ∈ R, r.length = m
  len : L.length ≤ m
  le : R.length ≤ met.length
  no : ∀ (i s k : Nat), (i < R.length ∧ k < m ∨ i = R.length ∧ k < L.length) → met[i]? = some s → nx (R ++ [L]) i k = none → nx T s k = none
  yes : ∀ (i s k j : Nat), met[i]? = some s → nx (R ++ [L]) i k = some j → ∃ e t, nx T s k = some e ∧ met[j]? = some t ∧ Leq T G e t
  bd : ∀ (i k j : Nat), nx (R ++ [L]) i k = some j → j < met.length
  ord : ∀ j : Nat, 0 < j → j < met.length → ∃ i k : Nat, i < j ∧ nx (R ++ [L]) i k = some j ∧ ∀ (i' k' j' : Nat), (i' < i ∨ i' = i ∧ k' < k) → nx (R ++ [L]) i' k' = some j' → j' < j
theorem nx_out {R : Tbl} {L : List (Option Nat)} {i k j : Nat} (h : nx (R ++ [L]) i k = some j) : i < R.length ∨ i = R.length ∧ k < L.length := by
  obtain ⟨r, h1, h2⟩ := nx_mem h
  have hi := (List.getElem?_eq_some_iff.mp h1).1
  rw [List.length_append] at hi
  have hi : i < R.length + 1 := hi
  by_cases c : i < R.length
  · exact .inl c
  · have e : i = R.length := by omega
    subst e
    rw [List.getElem?_append_right (Nat.le_refl _), Nat.sub_self] at h1
    cases h1
    exact .inr ⟨rfl, (List.getElem?_eq_some_iff.mp h2).1⟩
/-- one more entry: none, or an old number, or the next one -/
theorem Bf.put {T : Tbl} {G : Nat → Prop} {m : Nat} {met more : List Nat} {R : Tbl} {L : List (Option Nat)} {o : Option Nat} {s : Nat} (h : Bf T G m met R L) (hs : met[R.length]? = some s) (hL : L.length < m)
    (hm : more = [] ∨ ∃ e, more = [e] ∧ o = some met.length ∧ e < T.length ∧ Liv T G e ∧ ∀ t ∈ met, ¬ Leq T G e t)
    (ho : (o = none ∧ nx T s L.length = none) ∨ ∃ j e t, o = some j ∧ nx T s L.length = some e ∧ (met ++ more)[j]? = some t ∧ Leq T G e t) : Bf T G m (met ++ more) R (L ++ [o]) := by
  have ml : R.length < met.length := (List.getElem?_eq_some_iff.mp hs).1
  have up : ∀ {i t : Nat}, met[i]? = some t → (met ++ more)[i]? = some t := fun {i t} hi => by
    rw [List.getElem?_append_left (List.getElem?_eq_some_iff.mp hi).1]
    exact hi
  have dn : ∀ {i t : Nat}, (met ++ more)[i]? = some t → met[i]? = some t ∨ (i = met.length ∧ more = [t]) := fun {i t} hi => by
    by_cases c : i < met.length
    · rw [List.getElem?_append_left c] at hi
      exact .inl hi
    · rw [List.getElem?_append_right (by omega)] at hi
      rcases hm with rfl | ⟨e, rfl, _⟩
      · simp at hi
      · have c2 : i - met.length = 0 := by
          have := (List.getElem?_eq_some_iff.mp hi).1
          simp at this
          omega
        rw [c2] at hi
        cases hi
        exact .inr ⟨by omega, rfl⟩
  have low : ∀ {i t : Nat}, (met ++ more)[i]? = some t → i < met.length → met[i]? = some t := fun {i t} hi hl => by
    rw [List.getElem?_append_left hl] at hi
    exact hi
  refine ⟨up h.zero, fun t ht => ?_, fun i j a b ha hb l => ?_, h.row, by rw [List.length_append]; exact hL, Nat.le_trans h.le (by rw [List.length_append]; omega), fun i a k hc ha hn => ?_, fun i a k j ha hy => ?_, fun i k j hy => ?_, fun j j0 jl => ?_⟩
  · rcases List.mem_append.mp ht with ht | ht
    · exact h.live t ht
    · rcases hm with rfl | ⟨e, rfl, _, e1, e2, _⟩
      · exact absurd ht (by simp)
      · rw [List.mem_singleton.mp ht]
        exact ⟨e1, e2⟩
  · rcases dn ha with ha1 | ⟨rfl, ma⟩
    · rcases dn hb with hb1 | ⟨rfl, mb⟩
      · exact h.ap i j a b ha1 hb1 l
      · rcases hm with rfl | ⟨e, rfl, _, _, _, no⟩
        · cases mb
        · cases mb
          exact absurd l.symm (no a (List.mem_of_getElem? ha1))
    · rcases dn hb with hb1 | ⟨rfl, mb⟩
      · rcases hm with rfl | ⟨e, rfl, _, _, _, no⟩
        · cases ma
        · cases ma
          exact absurd l (no b (List.mem_of_getElem? hb1))
      · rfl
  · rw [nx_grow] at hn
    by_cases c : i = R.length ∧ k = L.length
    · rw [if_pos c] at hn
      rcases ho with ⟨_, h2⟩ | ⟨j, e, t, h1, _⟩
      · rw [c.1] at ha
        have := low ha ml
        rw [hs] at this
        cases this
        rw [c.2]
        exact h2
      · rw [h1] at hn; cases hn
    · rw [if_neg c] at hn
      rw [List.length_append] at hc
      have hc : i < R.length ∧ k < m ∨ i = R.length ∧ k < L.length + 1 := hc
      exact h.no i a k (by omega) (low ha (by omega)) hn
  · rw [nx_grow] at hy
    by_cases c : i = R.length ∧ k = L.length
    · rw [if_pos c] at hy
      rcases ho with ⟨h1, _⟩ | ⟨j', e, t, h1, h2, h3, h4⟩
      · rw [h1] at hy; cases hy
      · rw [h1] at hy
        cases hy
        rw [c.1] at ha
        have := low ha ml
        rw [hs] at this
        cases this
        rw [c.2]
        exact ⟨e, t, h2, h3, h4⟩
    · rw [if_neg c] at hy
      have hi := nx_out hy
      obtain ⟨e, t, h1, h2, h3⟩ := h.yes i a k j (low ha (by omega)) hy
      exact ⟨e, t, h1, up h2, h3⟩
  · rw [nx_grow] at hy
    rw [List.length_append]
    by_cases c : i = R.length ∧ k = L.length
    · rw [if_pos c] at hy
      rcases ho with ⟨h1, _⟩ | ⟨j', e, t, h1, h2, h3, h4⟩
      · rw [h1] at hy; cases hy
      · rw [h1] at hy
        cases hy
        have := (List.getElem?_eq_some_iff.mp h3).1
        rwa [List.length_append] at this
    · rw [if_neg c] at hy
      have := h.bd i k j hy
      omega
  · by_cases c : j < met.length
    · obtain ⟨i, k, h1, h2, h3⟩ := h.ord j j0 c
      have hi := nx_out h2
      refine ⟨i, k, h1, ?_, fun i' k' j' hb hy => ?_⟩
      · rw [nx_grow, if_neg (by omega)]
        exact h2
      · rw [nx_grow, if_neg (by omega)] at hy
        exact h3 i' k' j' hb hy
    · rcases hm with rfl | ⟨e, rfl, ho2, _⟩
      · rw [List.append_nil] at jl
        exact absurd jl c
      · have hj : j = met.length := by
          rw [List.length_append] at jl
          have jl : j < met.length + 1 := jl
          omega
        subst hj
        refine ⟨R.length, L.length, ml, by rw [nx_grow, if_pos ⟨rfl, rfl⟩]; exact ho2, fun i' k' j' hb hy => ?_⟩
        rw [nx_grow, if_neg (by omega)] at hy
        exact h.bd i' k' j' hy
theorem Bf.close {T : Tbl} {G : Nat → Prop} {m : Nat} {met : List Nat} {R : Tbl} {L : List (Option Nat)} (h : Bf T G m met R L) (hR : R.length < met.length) (hL : L.length = m) : Bf T G m met (R ++ [L]) [] := by
  refine ⟨h.zero, h.live, h.ap, fun r hr => ?_, Nat.zero_le _, by rw [List.length_append]; exact hR, fun i s k hc hs hn => ?_, fun i s k j hs hy => ?_, fun i k j hy => ?_, fun j j0 jl => ?_⟩
  · rcases List.mem_append.mp hr with hr | hr
    · exact h.row r hr
    · rw [List.mem_singleton.mp hr]
      exact hL
  · rw [nx_close] at hn
    rw [List.length_append] at hc
    have hc : i < R.length + 1 ∧ k < m ∨ i = R.length + 1 ∧ k < 0 := hc
    exact h.no i s k (by omega) hs hn
  · rw [nx_close] at hy
    exact h.yes i s k j hs hy
  · rw [nx_close] at hy
    exact h.bd i k j hy
  · obtain ⟨i, k, h1, h2, h3⟩ := h.ord j j0 jl
    exact ⟨i, k, h1, by rw [nx_close]; exact h2, fun i' k' j' hb hy => h3 i' k' j' hb (by rw [nx_close] at hy; exact hy)⟩
theorem Bf.start {T : Tbl} {G : Nat → Prop} {m : Nat} (h : 0 < T.length) (l : Liv T G 0) : Bf T G m [0] [] [] := by
  have e : ∀ i k, nx ([] ++ [[]]) i k = none := fun i k => by
    rw [nx_close]
    rfl
  refine ⟨rfl, fun s hs => by rw [List.mem_singleton.mp hs]; exact ⟨h, l⟩, fun i j s t hi hj _ => ?_, fun r hr => absurd hr (by simp), Nat.zero_le _, Nat.zero_le _, fun i s k hc _ _ => ?_, fun i s k j _ hy => ?_, fun i k j hy => ?_, fun j j0 jl => ?_⟩
  · have h1 := (List.getElem?_eq_some_iff.mp hi).1
    have h2 := (List.getElem?_eq_some_iff.mp hj).1
    have h1 : i < 1 := h1
    have h2 : j < 1 := h2
    omega
  · have hc : i < 0 ∧ k < m ∨ i = 0 ∧ k < 0 := hc
    omega
  · rw [e] at hy; cases hy
  · rw [e] at hy; cases hy
  · have jl : j < 1 := jl
    omega
theorem Bf.nodup {T : Tbl} {G : Nat → Prop} {m : Nat} {met : List Nat} {R : Tbl} {L : List (Option Nat)} (h : Bf T G m met R L) : met.length ≤ T.length := by
  have nd : met.Nodup := by
    rw [List.Nodup, List.pairwise_iff_getElem]
    intro i j hi hj hij e
    have h1 := List.getElem?_eq_getElem hi
    have h2 := List.getElem?_eq_getElem hj
    have := h.ap i j _ _ h1 h2 (by rw [e]; exact Leq.refl _)
    omega
  exact nd_len nd fun x hx => (h.live x hx).1
theorem Bf.nf {T : Tbl} {G : Nat → Prop} {m : Nat} {met : List Nat} {R : Tbl} {g : List Nat} (wf : Wf T m) (h : Bf T G m met R []) (hR : R.length = met.length) (hg : ∀ i : Nat, i ∈ g ↔ ∃ s, met[i]? = some s ∧ G s) (asc : g.Pairwise (· < ·)) : NfOf T G m R g met where
  zero := h.zero
  len := hR
  row := h.row
  live := h.live
  ap := h.ap
  no := fun i s k hs hn e he _ => by
    have hi := (List.getElem?_eq_some_iff.mp hs).1
    have := h.no i s k (.inl ⟨by omega, (nx_lt wf he).2.1⟩) hs (by rw [nx_close]; exact hn)
    rw [this] at he
    cases he
  yes := fun i s k j hs hy => h.yes i s k j hs (by rw [nx_close]; exact hy)
  good := hg
  asc := asc
  ord := fun j j0 jl => by
    obtain ⟨i, k, h1, h2, h3⟩ := h.ord j j0 jl
    rw [nx_close] at h2
    exact ⟨i, k, h1, h2, fun i' k' j' hb hy => h3 i' k' j' hb (by rw [nx_close]; exact hy)⟩
/-! ### letters -/
def ixOf : List Nat → Nat → Option Nat
  | [], _ => none
  | x :: l, c => if x = c then some 0 else (ixOf l c).map (· + 1)
theorem ixOf_some : ∀ {l : List Nat} {c i : Nat}, ixOf l c = some i → l[i]? = some c
  | [], _, _, h => by cases h
  | x :: l, c, i, h => by
    unfold ixOf at h
    by_cases e : x = c
    · rw [if_pos e] at h
      cases h
      rw [e]
      rfl
    · rw [if_neg e] at h
      obtain ⟨j, hj, rfl⟩ := Option.map_eq_some_iff.mp h
      show l[j]? = some c
      exact ixOf_some hj
theorem ixOf_none : ∀ {l : List Nat} {c : Nat}, ixOf l c = none ↔ c ∉ l
  | [], _ => ⟨fun _ h => (by cases h), fun _ => rfl⟩
  | x :: l, c => by
    unfold ixOf
    by_cases e : x = c
    · rw [if_pos e]
      exact ⟨fun h => (by cases h), fun h => absurd (by rw [e]; exact List.mem_cons_self) h⟩
    · rw [if_neg e, Option.map_eq_none_iff, ixOf_none]
      exact ⟨fun h m => (List.mem_cons.mp m).elim (fun z => e z.symm) h, fun h m => h (List.mem_cons_of_mem _ m)⟩
theorem rs_app (T : Tbl) (ix : Nat → Option Nat) : ∀ (u : List Nat) (o : Option Nat) (v : List Nat), rs T ix o (u ++ v) = rs T ix (rs T ix o u) v
  | [], _, _ => rfl
  | _ :: _, none, v => (rs_none T ix v).symm
  | c :: u, some s, v => by
    show (match ix c with | none => none | some k => rs T ix (nx T s k) (u ++ v)) = rs T ix (match ix c with | none => none | some k => rs T ix (nx T s k) u) v
    cases ix c with
    | none => exact (rs_none T ix v).symm
    | some k => exact rs_app T ix u (nx T s k) v
theorem rs_one {T : Tbl} {ix : Nat → Option Nat} {s c : Nat} : rs T ix (some s) [c] = match ix c with | none => none | some k => nx T s k := by
  show (match ix c with | none => none | some k => rs T ix (nx T s k) []) = _
  cases ix c with
  | none => rfl
  | some k =>
    show rs T ix (nx T s k) [] = nx T s k
    cases nx T s k <;> rfl
theorem Nf.wf {T : Tbl} {G : Nat → Prop} {m : Nat} {R : Tbl} {g : List Nat} (h : Nf T G m R g) : Wf R m ∧ ∀ j ∈ g, j < R.length := by
  rcases h with ⟨rfl, rfl, _⟩ | ⟨met, h⟩
  · exact ⟨⟨fun r m => absurd m (by simp), fun r m => absurd m (by simp)⟩, fun j m => absurd m (by simp)⟩
  · refine ⟨⟨h.row, fun r hr e he => ?_⟩, fun j hj => ?_⟩
    · obtain ⟨i, hi, rfl⟩ := List.getElem_of_mem hr
      obtain ⟨k, hk, ek⟩ := List.getElem_of_mem he
      have hm : i < met.length := by rw [← h.len]; exact hi
      obtain ⟨_, t, _, h2, _⟩ := h.yes i met[i] k e (List.getElem?_eq_getElem hm) (nx_at (List.getElem?_eq_getElem hi) (by rw [List.getElem?_eq_getElem hk, ek]))
      rw [h.len]
      exact (List.getElem?_eq_some_iff.mp h2).1
    · obtain ⟨s, hs, _⟩ := (h.good j).mp hj
      rw [h.len]
      exact (List.getElem?_eq_some_iff.mp hs).1
theorem cnt_all {al : Nat → Bool} : ∀ {n : Nat}, n ≤ cnt al n → ∀ s, s < n → al s = true
  | 0, _, s, hs => absurd hs (Nat.not_lt_zero _)
  | n + 1, h, s, hs => by
    rw [cnt_succ] at h
    have le := cnt_le al n
    cases e : al n with
    | false =>
      rw [e] at h
      simp at h
      omega
    | true =>
      by_cases c : s = n
      · rw [c]; exact e
      · rw [e] at h
        simp at h
        exact cnt_all (by omega) s (by omega)
/-- one round over all states -/
theorem round_end {T : Tbl} {m r : Nat} {a0 al : Nat → Bool} (wf : Wf T m) (h0 : r ≤ cnt a0 T.length ∨ ∀ s k e, nx T s k = some e → a0 e = true → a0 s = true) (mo : ∀ s, a0 s = true → al s = true) (cl : (∀ s k e, nx T s k = some e → a0 e = true → a0 s = true) → ∀ s, al s = a0 s)
    (st : ∀ s, s < T.length → ∀ k e, nx T s k = some e → a0 e = true → al s = true) : r + 1 ≤ cnt al T.length ∨ ∀ s k e, nx T s k = some e → al e = true → al s = true := by
  by_cases c : ∀ s k e, nx T s k = some e → a0 e = true → a0 s = true
  · right
    intro s k e h1 h2
    rw [cl c] at h2 ⊢
    exact c s k e h1 h2
  · have h1 := h0.resolve_right c
    by_cases d : ∃ x, x < T.length ∧ a0 x = false ∧ al x = true
    · obtain ⟨x, hx, e1, e2⟩ := d
      have := cnt_lt (n := T.length) (fun s _ => mo s) hx e1 e2
      left
      omega
    · refine absurd (fun s k e h2 h3 => ?_) c
      have hs := (nx_lt wf h2).2.2
      cases e4 : a0 s with
      | true => rfl
      | false => exact absurd ⟨s, hs, e4, st s hs k e h2 h3⟩ d
end Mc
set_option Elab.async false
set_option linter.all false
set_option maxRecDepth 100000
namespace Z
open PySem PySem.Spec PyProof.Rows L2 Mc
def eV : Option Nat → V
  | none => .non
  | some k => .int (k : Int)
/-- a table: a list (or tuple) of lists (or tuples) -/
structure Tb (q q2 : Bool) (K : PySem.W.Frag) (H : Hp) (a : Addr) (zs : List (Addr × List (Option Nat))) : Prop where
  sq : SqK q K H a (zs.map fun z => V.ref z.1)
  at_ : ∀ z ∈ zs, SqK q2 K H z.1 (z.2.map eV)
theorem Tb.mono {q q2 : Bool} {K : PySem.W.Frag} {H H' : Hp} {a : Addr} {zs : List (Addr × List (Option Nat))} (s : Same H H') (h : Tb q q2 K H a zs) : Tb q q2 K H' a zs := ⟨Z.Same.sqK s h.sq, fun z m => Z.Same.sqK s (h.at_ z m)⟩
def tb (zs : List (Addr × List (Option Nat))) : Tbl := zs.map (·.2)
def gsq (gs : List Nat) : List V := gs.map fun (g : Nat) => .int (g : Int)
/-! ### tables as data -/
def eD : Option Nat → PyData
  | none => .none
  | some k => .int (k : Int)
def rowD (b : Bool) (r : List (Option Nat)) : PyData := sqD b (r.map eD)
def tbD (b b2 : Bool) (T : Tbl) : PyData := sqD b (T.map (rowD b2))
theorem dpa_row {K : PySem.W.Frag} {H : Hp} : ∀ r : List (Option Nat), DpAll K H (r.map eV) (r.map eD)
  | [] => .nil
  | none :: r => .cons .non (dpa_row r)
  | some k :: r => .cons (.int _) (dpa_row r)
theorem dp_row {b : Bool} {K : PySem.W.Frag} {H : Hp} {a : Addr} {r : List (Option Nat)} (h : SqK b K H a (r.map eV)) : Dp K H (.ref a) (rowD b r) := dp_sq h (dpa_row r)
theorem dpa_tb {b : Bool} {K : PySem.W.Frag} {H : Hp} : ∀ {zs : List (Addr × List (Option Nat))}, (∀ z ∈ zs, SqK b K H z.1 (z.2.map eV)) → DpAll K H (zs.map fun z => V.ref z.1) ((tb zs).map (rowD b))
  | [], _ => .nil
  | z :: zs, h => .cons (dp_row (h z List.mem_cons_self)) (dpa_tb fun y m => h y (List.mem_cons_of_mem _ m))
theorem Tb.dp {q q2 : Bool} {K : PySem.W.Frag} {H : Hp} {a : Addr} {zs : List (Addr × List (Option Nat))} (h : Tb q q2 K H a zs) : Dp K H (.ref a) (tbD q q2 (tb zs)) := dp_sq h.sq (dpa_tb h.at_)
theorem lay_row : ∀ r : List (Option Nat), PyData.canLayAll0 (r.map eD) = true
  | [] => rfl
  | none :: r => by
    rw [List.map_cons, PyData.canLayAll0, lay_row r]
    rfl
  | some _ :: r => by
    rw [List.map_cons, PyData.canLayAll0, lay_row r]
    rfl
theorem dep_row : ∀ r : List (Option Nat), PyData.depthAll (r.map eD) = 0
  | [] => rfl
  | none :: r => by
    rw [List.map_cons, PyData.depthAll, dep_row r]
    rfl
  | some _ :: r => by
    rw [List.map_cons, PyData.depthAll, dep_row r]
    rfl
theorem shaped_row (b : Bool) (r : List (Option Nat)) : SeqAt.shaped (rowD b r) = true := by
  unfold SeqAt.shaped rowD
  cases b
  · show (PyData.canLayAll0 (r.map eD) && decide (PyData.depthAll (r.map eD) + 1 ≤ 64)) = true
    rw [lay_row, dep_row]
    rfl
  · show (PyData.canLayAll0 (r.map eD) && decide (PyData.depthAll (r.map eD) + 1 ≤ 64)) = true
    rw [lay_row, dep_row]
    rfl
theorem lay_tb (b : Bool) : ∀ T : Tbl, PyData.canLayAll0 (T.map (rowD b)) = true
  | [] => rfl
  | n :: r => by
    rw [List.map_cons, PyData.canLayAll0, lay_tb b r, SeqAt.canLay_of_shaped (shaped_row b n)]
    rfl
theorem dep_tb (b : Bool) : ∀ T : Tbl, PyData.depthAll (T.map (rowD b)) ≤ 1
  | [] => Nat.zero_le _
  | n :: r => by
    rw [List.map_cons, PyData.depthAll]
    have h := dep_tb b r
    have h2 : (rowD b n).depth = 1 := by
      cases b
      · show PyData.depthAll (n.map eD) + 1 = 1
        rw [dep_row]
      · show PyData.depthAll (n.map eD) + 1 = 1
        rw [dep_row]
    omega
theorem shaped_tb (b b2 : Bool) (T : Tbl) : SeqAt.shaped (tbD b b2 T) = true := by
  have h := dep_tb b2 T
  unfold SeqAt.shaped tbD
  cases b
  · show (PyData.canLayAll0 (T.map (rowD b2)) && decide (PyData.depthAll (T.map (rowD b2)) + 1 ≤ 64)) = true
    rw [lay_tb, decide_eq_true (by omega)]
    rfl
  · show (PyData.canLayAll0 (T.map (rowD b2)) && decide (PyData.depthAll (T.map (rowD b2)) + 1 ≤ 64)) = true
    rw [lay_tb, decide_eq_true (by omega)]
    rfl
theorem eqv_e (a b : Option Nat) : PyData.eqv (eD a) (eD b) = decide (a = b) := by
  cases a <;> cases b
  · rfl
  · rfl
  · rfl
  · rename_i x y
    show PyData.eqv (.int (x : Int)) (.int (y : Int)) = _
    rw [PyData.eqv]
    by_cases h : x = y
    · subst h
      simp
    · have h2 : ¬ (x : Int) = (y : Int) := by omega
      have h3 : ¬ (some x = some y) := fun z => h (by injection z)
      rw [decide_eq_false h3]
      simp [h2]
theorem eqvAll_row : ∀ r s : List (Option Nat), PyData.eqvAll (r.map eD) (s.map eD) = decide (r = s)
  | [], [] => rfl
  | [], _ :: _ => rfl
  | _ :: _, [] => rfl
  | a :: r, b :: s => by
    rw [List.map_cons, List.map_cons, PyData.eqvAll, eqv_e, eqvAll_row r s]
    by_cases h1 : a = b
    · by_cases h2 : r = s
      · simp [h1, h2]
      · simp [h1, h2]
    · simp [h1]
theorem eqv_row (b : Bool) (r s : List (Option Nat)) : PyData.eqv (rowD b r) (rowD b s) = decide (r = s) := by
  cases b
  · show PyData.eqv (.tuple _) (.tuple _) = _
    rw [PyData.eqv, eqvAll_row]
  · show PyData.eqv (.list _) (.list _) = _
    rw [PyData.eqv, eqvAll_row]
theorem eqvAll_tb (b : Bool) : ∀ T U : Tbl, PyData.eqvAll (T.map (rowD b)) (U.map (rowD b)) = decide (T = U)
  | [], [] => rfl
  | [], _ :: _ => rfl
  | _ :: _, [] => rfl
  | a :: r, c :: s => by
    rw [List.map_cons, List.map_cons, PyData.eqvAll, eqv_row, eqvAll_tb b r s]
    by_cases h1 : a = c
    · by_cases h2 : r = s
      · simp [h1, h2]
      · simp [h1, h2]
    · simp [h1]
theorem eqv_tb (b b2 : Bool) (T U : Tbl) : PyData.eqv (tbD b b2 T) (tbD b b2 U) = decide (T = U) := by
  cases b
  · show PyData.eqv (.tuple _) (.tuple _) = _
    rw [PyData.eqv, eqvAll_tb]
  · show PyData.eqv (.list _) (.list _) = _
    rw [PyData.eqv, eqvAll_tb]
/-! ### lists of numbers as data -/
def natD (b : Bool) (g : List Nat) : PyData := intsD b (g.map fun (x : Nat) => (x : Int))
theorem gsq_ints (g : List Nat) : gsq g = (g.map fun (x : Nat) => (x : Int)).map V.int := by
  unfold gsq
  rw [List.map_map]
  rfl
theorem dp_nat {b : Bool} {K : PySem.W.Frag} {H : Hp} {a : Addr} {g : List Nat} (h : SqK b K H a (gsq g)) : Dp K H (.ref a) (natD b g) := by
  rw [gsq_ints] at h
  exact dp_ints h
theorem shaped_nat (b : Bool) (g : List Nat) : SeqAt.shaped (natD b g) = true := shaped_ints _ _
theorem natI_inj : ∀ {g h : List Nat}, (g.map fun (x : Nat) => (x : Int)) = (h.map fun (x : Nat) => (x : Int)) → g = h
  | [], [], _ => rfl
  | [], _ :: _, e => by cases e
  | _ :: _, [], e => by cases e
  | a :: g, b :: h, e => by
    rw [List.map_cons, List.map_cons] at e
    injection e with e1 e2
    rw [show a = b by omega, natI_inj e2]
theorem eqv_nat (b : Bool) (g h : List Nat) : PyData.eqv (natD b g) (natD b h) = decide (g = h) := by
  have key : PyData.eqv (natD b g) (natD b h) = decide ((g.map fun (x : Nat) => (x : Int)) = (h.map fun (x : Nat) => (x : Int))) := by
    cases b
    · show PyData.eqv (.tuple _) (.tuple _) = _
      rw [PyData.eqv, PySem.W.ked_eqvAll]
    · show PyData.eqv (.list _) (.list _) = _
      rw [PyData.eqv, PySem.W.ked_eqvAll]
  rw [key]
  exact decide_eq_decide.mpr ⟨natI_inj, fun e => by rw [e]⟩
end Z
set_option pp.maxSteps 700
set_option Elab.async false
set_option linter.all false
set_option maxRecDepth 100000
set_option maxHeartbeats 4000000
open SX (S S_inj S_len S_cat)
namespace Z
open Mc
open PySem PySem.Spec PyProof.Rows L2
open C8 (pss_cut tCut)
local macro_rules | `(tactic| walk_at "num") => `(tactic| first | rfl | omega | decide | exact Nat.le_of_lt (small1000 (by simp)) | exact ⟨by omega, by omega⟩ | exact ⟨by omega, by omega, by omega⟩ | exact ⟨by decide, by decide, by decide⟩ | exact Or.inl ⟨by omega, by omega⟩ | exact Or.inr ⟨by omega, by omega⟩)
local macro_rules | `(tactic| walk_at "go") => `(tactic| repeat (first | refine ⟨_, rfl, ?_⟩ | refine ⟨_, _, rfl, rfl, ?_⟩ | refine ⟨_, _, rfl, ?_⟩ | (refine ⟨_, _, rfl, rfl, ?_, ?_⟩; focus walk_at "num") | refine Or.inl ⟨_, rfl, ?_⟩ | refine ⟨_, _, _, _, rfl, rfl, (by assumption), (by rfl), ?_⟩ | refine ⟨_, _, _, _, _, rfl, (by assumption), (by assumption), (by assumption), (by rfl), ?_⟩ | refine ⟨rfl, ?_⟩ | (refine And.intro ?_ ?_; focus walk_at "num")))
abbrev s_check_letters : Stmt := topS 22
abbrev N_check_letters : List Str := ["letters", "index", "letter"]
abbrev P_check_letters : List Str := ["letters"]
theorem sc_check_letters : FnScope N_check_letters P_check_letters (defScope s_check_letters) := ⟨rfl, rfl, rfl, by decide +kernel, rfl, by decide +kernel, by decide +kernel⟩
abbrev s_check_rows : Stmt := topS 23
abbrev N_check_rows : List Str := ["many", "rows", "state", "row", "entry"]
abbrev P_check_rows : List Str := ["many", "rows"]
theorem sc_check_rows : FnScope N_check_rows P_check_rows (defScope s_check_rows) := ⟨rfl, rfl, rfl, by decide +kernel, rfl, by decide +kernel, by decide +kernel⟩
abbrev s_flags_of : Stmt := topS 10
abbrev N_flags_of : List Str := ["many", "states", "state", "found"]
abbrev P_flags_of : List Str := ["many", "states"]
theorem sc_flags_of : FnScope N_flags_of P_flags_of (defScope s_flags_of) := ⟨rfl, rfl, rfl, by decide +kernel, rfl, by decide +kernel, by decide +kernel⟩
theorem set_flag {n g : Nat} {gs : List Nat} : ((List.range n).map fun i => V.bl (decide (i ∈ gs))).set g (V.bl true) = (List.range n).map fun i => V.bl (decide (i ∈ gs ++ [g])) := by
  apply List.ext_getElem
  · rw [List.length_set, List.length_map, List.length_map]
  · intro i h1 h2
    rw [List.length_map, List.length_range] at h2
    rw [List.getElem_set, List.getElem_map, List.getElem_map, List.getElem_range]
    by_cases c : g = i
    · rw [if_pos c, decide_eq_true (by rw [c]; exact List.mem_append_right _ List.mem_cons_self)]
    · rw [if_neg c]
      congr 1
      refine decide_eq_decide.mpr ⟨fun m => List.mem_append_left _ m, fun m => ?_⟩
      rcases List.mem_append.mp m with m | m
      · exact m
      · exact absurd (List.mem_singleton.mp m).symm c
section
variable {P : Program} {w : World} {K : PySem.W.Frag} {mg : Str → Option Value} {base : Heap} {f : Addr} {fd : FuncData}
def spCkL : Sp := fun vs H Q _ => ∃ l : List Nat, vs = [.str (S l)] ∧ l.Nodup ∧ l ≠ [] ∧ l.length ≤ 100000 ∧ ∀ H', Same H H' → Q .non H'
theorem ok_check_letters (F : FnP K "check_letters" s_check_letters f fd) (m_enumerate : mg "enumerate" = none) : FnOk P w K mg base CX0 1 f fd P_check_letters spCkL := by
  refine F.ok sc_check_letters (fun vs H Q E h => ?_) (fun cdv A outer s H vs Q E hr h => ?_)
  · obtain ⟨l, rfl, _⟩ := h
    rfl
  · obtain ⟨l, rfl, nd, ne, ll, q⟩ := h
    refine ⟨_, PSs.nox (pss_cons (ps_for PassesOwn.never rfl (pi_enumS (by rfl) m_enumerate (pa_cons (pv 0) pa_nil)) (pg_tup rfl (pgs_cons (pg_name (i := 1) sc_check_letters.nd rfl (by first | exact .inl rfl | exact .inr rfl)) (pgs_cons (pg_name (i := 2) sc_check_letters.nd rfl (by first | exact .inl rfl | exact .inr rfl)) pgs_nil)))
        (pss_one (ps_if (pt_cmpR op_in_sign (pv 2) (pe_slice C8.sl_txt (pv 0) po_none (po_some (pv 1))) (by rfl)) (pss_one ps_never) pss_nil)))
      (pss_one (ps_if (pt_cmpR op_eq (pv 0) pe_str (nomark _)) (pss_one ps_never) pss_nil))), ?_⟩
    walk_at "go"
    refine for_enumS (K := K) (fun k σ H1 => Same H H1 ∧ ∃ v1 v2 : Option V, σ = [some (.str (S l)), v1, v2]) ⟨Same.refl _, none, none, rfl⟩ ?_ ?_
    · rintro k c σ H1 H2 ec ⟨s1, v1, v2, rfl⟩ s2
      have ec : l[k]? = some c := by simpa using ec
      have hk := (List.getElem?_eq_some_iff.mp ec).1
      walk_at "go"
      refine ⟨by rw [S_len]; exact Nat.le_trans ll (by decide), ?_⟩
      rw [SX.slice_to (by omega), Int.toNat_natCast]
      walk_at "go"
      have no : c ∉ (S (l.take k)).cps.toList := by
        show c ∉ l.take k
        intro hm
        obtain ⟨j, hj, e⟩ := List.getElem_of_mem hm
        rw [List.length_take] at hj
        rw [List.getElem_take] at e
        have h2 := List.getElem?_eq_getElem (show j < l.length by omega)
        rw [e] at h2
        have := nd_inj nd h2 ec
        omega
      rw [decide_eq_false no]
      walk_at "go"
      exact ⟨s1.trans s2, _, _, rfl⟩
    · rintro σ H1 ⟨s1, v1, v2, rfl⟩
      walk_at "go"
      rw [decide_eq_false (show ¬ V.str (S l) = V.str (Str.ofString "") from fun z => by injection z with z; exact ne (S_inj (z.trans (show Str.ofString "" = S [] from rfl))))]
      exact q H1 s1
def spCkR (K : PySem.W.Frag) : Sp := fun vs H Q _ => ∃ (q q2 : Bool) (m : Nat) (a : Addr) (zs : List (Addr × List (Option Nat))), vs = [.int (m : Int), .ref a] ∧ Tb q q2 K H a zs ∧ Wf (tb zs) m ∧ ∀ H', Same H H' → Q .non H'
theorem ok_check_rows (F : FnP K "check_rows" s_check_rows f fd) (m_enumerate : mg "enumerate" = none) (m_len : mg "len" = none) : FnOk P w K mg base CX0 1 f fd P_check_rows (spCkR K) := by
  refine F.ok sc_check_rows (fun vs H Q E h => ?_) (fun cdv A outer s H vs Q E hr h => ?_)
  · obtain ⟨q, q2, m, a, zs, rfl, _⟩ := h
    rfl
  · obtain ⟨q, q2, m, a, zs, rfl, hT, wf, qq⟩ := h
    refine ⟨_, PSs.nox (pss_one (ps_for PassesOwn.never rfl (pi_enumM (by rfl) m_enumerate (pa_cons (pv 1) pa_nil)) (pg_tup rfl (pgs_cons (pg_name (i := 2) sc_check_rows.nd rfl (by first | exact .inl rfl | exact .inr rfl)) (pgs_cons (pg_name (i := 3) sc_check_rows.nd rfl (by first | exact .inl rfl | exact .inr rfl)) pgs_nil)))
        (pss_cons (ps_if (pt_cmpR op_ne (pe_callB call_len_seq (by rfl) m_len PySem.boot_len (pa_cons (pv 3) pa_nil)) (pv 0) (nomark _)) (pss_one ps_never) pss_nil)
      (pss_one (ps_for PassesOwn.never rfl (pi_sq (pv 3)) (pg_name (i := 4) sc_check_rows.nd rfl (by first | exact .inl rfl | exact .inr rfl))
        (pss_one (ps_if (PW.pt (pw_and (pt_cmpR op_notN (pv 4) pe_non (nomark _)) (pw_and1 (pt_not (pt_chain op_le op_lt pe_int (pv 4) (pe_callB call_len_seq (by rfl) m_len PySem.boot_len (pa_cons (pv 1) pa_nil))))))) (pss_one ps_never) pss_nil))))))), ?_⟩
    walk_at "go"
    refine ⟨q, _, _, rfl, hT.sq, ?_⟩
    refine for_enum hT.sq (fun k σ H1 => Same H H1 ∧ ∃ v2 v3 v4 : Option V, σ = [some (.int (m : Int)), some (.ref a), v2, v3, v4]) ⟨Same.refl _, none, none, none, rfl⟩ (fun k σ H1 p => p.1) ?_ ?_
    · rintro k x σ H1 H2 ex ⟨s1, v2, v3, v4, rfl⟩ s2
      rw [List.getElem?_map] at ex
      obtain ⟨z, ez, rfl⟩ := Option.map_eq_some_iff.mp ex
      have hT2 := hT.mono (s1.trans s2)
      have zm := List.mem_of_getElem? ez
      have hz := hT2.at_ z zm
      have mz : z.2 ∈ tb zs := List.mem_map.mpr ⟨z, zm, rfl⟩
      have lz := wf.row _ mz
      walk_at "go"
      refine ⟨z.1, _, rfl, sqk_or hz, ?_⟩
      rw [List.length_map, lz]
      walk_at "go"
      rw [decide_eq_true rfl]
      walk_at "go"
      refine rd_sq (b := q2) rfl hz ?_
      refine for_gen (n := m) (fun i σ J => Same H J ∧ ∃ v4 : Option V, σ = [some (.int (m : Int)), some (.ref a), some (.int (k : Int)), some (.ref z.1), v4]) ⟨s1.trans s2, v4, rfl⟩ ?_ ?_ ?_ ?_
      · rintro i σ J hi ⟨s3, _⟩
        exact itq_go (Z.Same.sqK s3 ((hT.at_ z zm))) (x := eV (z.2.getD i none)) (by rw [List.getElem?_map, List.getD_eq_getElem?_getD, List.getElem?_eq_getElem (by omega)]; rfl)
      · rintro σ J ⟨s3, _⟩
        exact itq_stop (Z.Same.sqK s3 ((hT.at_ z zm))) (by rw [List.length_map]; omega)
      · rintro i σ J x J' hi ⟨s3, v4, rfl⟩ y
        obtain ⟨rfl, ex⟩ := itq_yld (Z.Same.sqK s3 ((hT.at_ z zm))) y
        have hi2 : i < z.2.length := by omega
        rw [List.getElem?_map, List.getElem?_eq_getElem hi2] at ex
        cases ex
        have me : z.2[i] ∈ z.2 := List.getElem_mem hi2
        have ent := wf.ent _ mz
        generalize z.2[i] = e at me
        cases e with
        | none =>
          walk_at "go"
          exact ⟨_, rfl⟩
        | some e =>
          have lt : e < zs.length := by simpa [tb] using ent e me
          dsimp only [eV]
          walk_at "go"
          refine ⟨a, _, rfl, sqk_or (Z.Same.sqK s3 hT.sq), ?_⟩
          rw [List.length_map]
          walk_at "go"
          rw [decide_eq_true (show (e : Int) < (zs.length : Int) by omega)]
          walk_at "go"
          exact ⟨_, rfl⟩
      · rintro σ J ⟨s3, v4, rfl⟩
        exact ⟨s3, _, _, _, rfl⟩
    · rintro σ H1 ⟨s1, v2, v3, v4, rfl⟩
      exact qq H1 s1
def spFlags (K : PySem.W.Frag) : Sp := fun vs H Q _ => ∃ (q : Bool) (n : Nat) (a : Addr) (gs : List Nat), vs = [.int (n : Int), .ref a] ∧ SqK q K H a (gsq gs) ∧ (∀ g ∈ gs, g < n) ∧ n ≤ 1000000 ∧ ∀ (L : Addr) H', Same H H' → H L = none → H' L = some (.lst ((List.range n).map fun i => V.bl (decide (i ∈ gs)))) → Q (.ref L) H'
theorem ok_flags_of (F : FnP K "flags_of" s_flags_of f fd) (m_range : mg "range" = none) : FnOk P w K mg base CX0 1 f fd P_flags_of (spFlags K) := by
  refine F.ok sc_flags_of (fun vs H Q E h => ?_) (fun cdv A outer s H vs Q E hr h => ?_)
  · obtain ⟨q, n, a, gs, rfl, _⟩ := h
    rfl
  · obtain ⟨q, n, a, gs, rfl, hS, hg, hn, qq⟩ := h
    refine ⟨_, PSs.nox (pss_cons (ps_setLc (i := 3) (own := [("state", 2)]) (g := (gName 2)) (tt := tYes) (by rfl) sc_flags_of.nd rfl rfl (sw_true rfl rfl rfl (by decide +kernel)) (pi_range1 (by rfl) m_range (pa_cons (pv 0) pa_nil)) (blkOk_by (own := [("state", 2)]) (N := N_flags_of) (sc := defScope s_flags_of) (by decide +kernel)) (fun _ _ _ _ _ => (pg_name (i := 2) sc_flags_of.nd rfl (by first | exact .inl rfl | exact .inr rfl))) (fun _ _ _ _ _ => pts_nil) (fun _ _ _ _ _ => pe_bl))
      (pss_cons (ps_for PassesOwn.never rfl (pi_sq (pv 1)) (pg_name (i := 2) sc_flags_of.nd rfl (by first | exact .inl rfl | exact .inr rfl))
        (pss_one (ps_asg pe_bl (pg_sub (pv 3) (pv 2) set_list))))
      (pss_one (ps_ret (pv 3))))), ?_⟩
    walk_at "go"
    intro L nL
    refine lc_gen (n := n) (fun k J => Same H J ∧ J L = some (.lst ((List.range k).map fun _ => V.bl false))) ⟨same_new nL, upd_same⟩ ?_ ?_ ?_ ?_
    · intro k J hk _
      show k < ((n : Int)).toNat
      omega
    · intro J _
      show ((n : Int)).toNat ≤ n
      omega
    · rintro k J x J' hk ⟨s1, eL⟩ ⟨rfl, rfl⟩
      walk_at "go"
      refine ⟨_, eL, by rw [List.length_map, List.length_range]; exact szC (by omega), Z.Same.mut s1 nL, ?_⟩
      rw [upd_same, List.range_succ, List.map_append]
      rfl
    rintro J ⟨s1, eL⟩
    walk_at "go"
    have lg : (gsq gs).length = gs.length := List.length_map ..
    refine rd_sq (b := q) rfl (Z.Same.sqK s1 hS) ?_
    refine for_gen (n := gs.length) (fun k σ J => Same H J ∧ J L = some (.lst ((List.range n).map fun i => V.bl (decide (i ∈ gs.take k)))) ∧ ∃ v2 : Option V, σ = [some (.int (n : Int)), some (.ref a), v2, some (.ref L)]) ⟨s1, by rw [eL]; simp, none, rfl⟩ ?_ ?_ ?_ ?_
    · rintro k σ J hk ⟨s2, _⟩
      exact itq_go (Z.Same.sqK s2 hS) (x := .int ((gs[k] : Nat) : Int)) (by unfold gsq; rw [List.getElem?_map, List.getElem?_eq_getElem hk]; rfl)
    · rintro σ J ⟨s2, _⟩
      exact itq_stop (Z.Same.sqK s2 hS) (by omega)
    · rintro k σ J x J' hk ⟨s2, eL, v2, rfl⟩ y
      obtain ⟨rfl, ex⟩ := itq_yld (Z.Same.sqK s2 hS) y
      unfold gsq at ex
      rw [List.getElem?_map, List.getElem?_eq_getElem hk] at ex
      cases ex
      have hgk := hg _ (List.getElem_mem hk)
      have tk : gs.take (k + 1) = gs.take k ++ [gs[k]] := by
        rw [List.take_succ, List.getElem?_eq_getElem hk]
        rfl
      generalize gs[k] = g at hgk tk
      walk_at "go"
      refine ⟨L, _, _, g, rfl, rfl, eL, by rw [List.length_map, List.length_range]; exact ixN_nat hgk, ?_⟩
      refine ⟨Z.Same.mut s2 nL, ?_, _, rfl⟩
      rw [upd_same, tk, set_flag]
    · rintro σ J ⟨s2, eL, v2, rfl⟩
      rw [List.take_length] at eL
      walk_at "go"
      exact qq L J s2 nL eL
end
end Z
set_option pp.maxSteps 700
set_option Elab.async false
set_option linter.all false
set_option maxRecDepth 100000
set_option maxHeartbeats 4000000
open SX (S S_inj S_len S_cat)
namespace Z
open Mc
open PySem PySem.Spec PyProof.Rows L2
open C8 (pss_cut tCut)
local macro_rules | `(tactic| walk_at "num") => `(tactic| first | rfl | omega | decide | exact Nat.le_of_lt (small1000 (by simp)) | exact ⟨by omega, by omega⟩ | exact ⟨by omega, by omega, by omega⟩ | exact ⟨by decide, by decide, by decide⟩ | exact Or.inl ⟨by omega, by omega⟩ | exact Or.inr ⟨by omega, by omega⟩)
local macro_rules | `(tactic| walk_at "go") => `(tactic| repeat (first | refine ⟨_, rfl, ?_⟩ | refine ⟨_, _, rfl, rfl, ?_⟩ | refine ⟨_, _, rfl, ?_⟩ | (refine ⟨_, _, rfl, rfl, ?_, ?_⟩; focus walk_at "num") | refine Or.inl ⟨_, rfl, ?_⟩ | refine ⟨_, _, _, _, rfl, rfl, (by assumption), (by rfl), ?_⟩ | refine ⟨_, _, _, _, _, rfl, (by assumption), (by assumption), (by assumption), (by rfl), ?_⟩ | refine ⟨rfl, ?_⟩ | (refine And.intro ?_ ?_; focus walk_at "num")))
abbrev s_live_rows : Stmt := topS 11
abbrev N_live_rows : List Str := ["rows", "good", "flag", "alive", "changed", "state", "row", "entry", "kept"]
abbrev P_live_rows : List Str := ["rows", "good"]
theorem sc_live_rows : FnScope N_live_rows P_live_rows (defScope s_live_rows) := ⟨rfl, rfl, rfl, by decide +kernel, rfl, by decide +kernel, by decide +kernel⟩
def bls (n : Nat) (al : Nat → Bool) : List V := (List.range n).map fun i => V.bl (al i)
theorem row_at {r : List (Option Nat)} {i : Nat} (h : i < r.length) : (r.map eV)[i]? = some (eV (r.getD i none)) := by
  rw [List.getElem?_map, List.getD_eq_getElem?_getD, List.getElem?_eq_getElem h]
  rfl
theorem row_nx {zs : List (Addr × List (Option Nat))} {k i : Nat} {z : Addr × List (Option Nat)} (h : zs[k]? = some z) (hi : i < z.2.length) : z.2.getD i none = nx (tb zs) k i :=
  (nx_at (by unfold tb; rw [List.getElem?_map, h]; rfl) (by rw [List.getD_eq_getElem?_getD, List.getElem?_eq_getElem hi]; rfl)).symm
def elB (al : Nat → Bool) : Option Nat → Bool
  | none => false
  | some e => al e
theorem bls_at {n i : Nat} {al : Nat → Bool} (h : i < n) : atI (bls n al) (i : Int) = some (.bl (al i)) := atI_nat (by unfold bls; rw [List.getElem?_map, List.getElem?_range h]; rfl)
theorem bls_set {n i : Nat} {al : Nat → Bool} : (bls n al).set i (V.bl true) = bls n fun j => if j = i then true else al j := by
  unfold bls
  apply List.ext_getElem
  · rw [List.length_set, List.length_map, List.length_map]
  · intro j h1 h2
    rw [List.length_map, List.length_range] at h2
    rw [List.getElem_set, List.getElem_map, List.getElem_map, List.getElem_range]
    by_cases c : i = j
    · subst c
      simp
    · have c2 : ¬ j = i := fun z => c z.symm
      simp [c, c2]
theorem bls_len (n : Nat) (al : Nat → Bool) : (bls n al).length = n := by unfold bls; rw [List.length_map, List.length_range]
theorem fltL_all {n : Nat} {g : Nat → V} : fltL (fun _ => true) g n = (List.range n).map g := by
  unfold fltL
  rw [List.filter_eq_self.mpr fun _ _ => rfl]
theorem row_range {β : Type} {r : List (Option Nat)} {f : Option Nat → β} : ((List.range r.length).map fun i => f (r.getD i none)) = r.map f := by
  apply List.ext_getElem
  · rw [List.length_map, List.length_map, List.length_range]
  · intro i h1 h2
    rw [List.length_map] at h2
    rw [List.getElem_map, List.getElem_map, List.getElem_range, List.getD_eq_getElem?_getD, List.getElem?_eq_getElem h2]
    rfl
theorem ne_of_none' {H : Hp} {B L : Addr} {o : HO} (s4 : H L = some o) (n : H B = none) : B ≠ L := fun e => by
  rw [e, s4] at n
  cases n
section
variable {P : Program} {w : World} {K : PySem.W.Frag} {mg : Str → Option Value} {base : Heap} {f : Addr} {fd : FuncData}
def inG (gs : List Nat) : Nat → Prop := fun s => s ∈ gs
def spLive (K : PySem.W.Frag) : Sp := fun vs H Q _ => ∃ (q q2 q3 : Bool) (m : Nat) (a g : Addr) (zs : List (Addr × List (Option Nat))) (gs : List Nat), vs = [.ref a, .ref g] ∧ Tb q q2 K H a zs ∧ Wf (tb zs) m ∧ m ≤ 1000 ∧ zs.length ≤ 1000000 ∧ SqK q3 K H g (gsq gs) ∧ (∀ s ∈ gs, s < zs.length) ∧
  ∀ (L : Addr) (zk : List (Addr × List (Option Nat))) H', Same H H' → H L = none → Tb true true K H' L zk → ((zk = [] ∧ (zs = [] ∨ ¬ Liv (tb zs) (inG gs) 0)) ∨ (0 < zs.length ∧ Liv (tb zs) (inG gs) 0 ∧ Kpt (tb zs) (inG gs) m (tb zk))) → Q (.ref L) H'
theorem ok_live_rows (F : FnP K "live_rows" s_live_rows f fd) (m_len : mg "len" = none) (m_any : mg "any" = none) (m_enumerate : mg "enumerate" = none) (c_flags_of : Cal P w K mg base 1 "flags_of" (spFlags K)) : FnOk P w K mg base CX0 2 f fd P_live_rows (spLive K) := by
  refine F.ok sc_live_rows (fun vs H Q E h => ?_) (fun cdv A outer s H vs Q E hr h => ?_)
  · obtain ⟨q, q2, q3, m, a, g, zs, gs, rfl, _⟩ := h
    rfl
  · obtain ⟨q, q2, q3, m, a, g, zs, gs, rfl, hT, wf, hm, hn, hG, hgs, qq⟩ := h
    refine ⟨_, PSs.nox (pss_cons (ps_set (i := 3) sc_live_rows.nd rfl (by first | exact .inl rfl | exact .inr rfl) (pe_lc (own := [("flag", 2)]) (g := (gName 2)) (tt := tYes) (by rfl) sc_live_rows.nd (pi_list (pe_cl c_flags_of hr (by decide) (by rfl) (pa_cons (pe_callB call_len_seq (by rfl) m_len PySem.boot_len (pa_cons (pv 0) pa_nil)) (pa_cons (pv 1) pa_nil)))) (blkOk_by (own := [("flag", 2)]) (N := N_live_rows) (sc := defScope s_live_rows) (by decide +kernel)) (fun _ _ _ _ _ => (pg_name (i := 2) sc_live_rows.nd rfl (by first | exact .inl rfl | exact .inr rfl))) (fun _ _ _ _ _ => pts_nil) (fun _ _ _ _ _ => (pv 2))))
      (pss_cons (ps_set (i := 4) sc_live_rows.nd rfl (by first | exact .inl rfl | exact .inr rfl) pe_bl)
      (pss_cut (ps_while PassesOwn.never (pt_val (pv 4))
        (pss_cons (ps_set (i := 4) sc_live_rows.nd rfl (by first | exact .inl rfl | exact .inr rfl) pe_bl)
      (pss_one (ps_for PassesOwn.never rfl (pi_enumM (by rfl) m_enumerate (pa_cons (pv 0) pa_nil)) (pg_tup rfl (pgs_cons (pg_name (i := 5) sc_live_rows.nd rfl (by first | exact .inl rfl | exact .inr rfl)) (pgs_cons (pg_name (i := 6) sc_live_rows.nd rfl (by first | exact .inl rfl | exact .inr rfl)) pgs_nil)))
        (pss_one (ps_if (PW.pt (pw_and (pt_not (pt_val (pe_ix ix_list (pv 3) (pv 5) (fun _ _ => rfl)))) (pw_and1 (pt_val (pe_callB (cr_any rfl) (by rfl) m_any (by decide +kernel) (pa_cons (pe_lc (own := [("entry", 7)]) (g := (gName 7)) (tt := tYes) (by rfl) sc_live_rows.nd (pi_sq (pv 6)) (blkOk_by (own := [("entry", 7)]) (N := N_live_rows) (sc := defScope s_live_rows) (by decide +kernel)) (fun _ _ _ _ _ => (pg_name (i := 7) sc_live_rows.nd rfl (by first | exact .inl rfl | exact .inr rfl))) (fun _ _ _ _ _ => pts_nil) (fun _ _ _ _ _ => (pe_and (pe_cmpR op_notN (pv 7) pe_non (nomark _)) (pe_one (pe_ix (ix_list_K (K := K) rfl) (pv 3) (pv 7) (fun _ _ => rfl)))))) pa_nil)))))) (pss_cons (ps_asg pe_bl (pg_sub (pv 3) (pv 5) set_list))
      (pss_one (ps_set (i := 4) sc_live_rows.nd rfl (by first | exact .inl rfl | exact .inr rfl) pe_bl))) pss_nil))))))
      (pss_cons (ps_setLc (i := 8) (own := [("row", 6)]) (g := (gName 6)) (tt := tYes) (by rfl) sc_live_rows.nd rfl rfl (sw_true rfl rfl rfl (by decide +kernel)) (pi_sq (pv 0)) (blkOk_by (own := [("row", 6)]) (N := N_live_rows) (sc := defScope s_live_rows) (by decide +kernel)) (fun _ _ _ _ _ => (pg_name (i := 6) sc_live_rows.nd rfl (by first | exact .inl rfl | exact .inr rfl))) (fun _ _ _ _ _ => pts_nil) (fun _ _ _ _ _ => (pe_lc (own := [("entry", 7)]) (g := (gName 7)) (tt := tYes) (by rfl) sc_live_rows.nd (pi_sq_K (K := K) rfl (pv 6)) (blkOk_by (own := [("entry", 7)]) (N := N_live_rows) (sc := relS _ (defScope s_live_rows)) (by decide +kernel)) (fun _ _ _ _ _ => (pg_name (i := 7) sc_live_rows.nd rfl (by first | exact .inl rfl | exact .inr rfl))) (fun _ _ _ _ _ => pts_nil) (fun _ _ _ _ _ => (pe_ifExp (PW.pt (pw_and (pt_cmpR op_notN (pv 7) pe_non (nomark _)) (pw_and1 (pt_val (pe_ix (ix_list_K (K := K) rfl) (pv 3) (pv 7) (fun _ _ => rfl)))))) (pv 7) pe_non)))))
      (pss_one (ps_ret (pe_ifExp (PW.pt (pw_and (pt_cmpR op_gt (pe_callB call_len_seq (by rfl) m_len PySem.boot_len (pa_cons (pv 0) pa_nil)) pe_int (nomark _)) (pw_and1 (pt_val (pe_ix ix_list (pv 3) pe_int (fun _ _ => rfl)))))) (pv 8) (pe_lst pa_nil)))))))), ?_⟩
    walk_at "go"
    refine ⟨a, _, rfl, sqk_or hT.sq, ?_⟩
    rw [List.length_map]
    walk_at "go"
    refine ⟨q3, zs.length, g, gs, rfl, hG, hgs, by omega, fun L0 H1 s1 nL0 eL0 => ?_⟩
    walk_at "go"
    refine ⟨⟨_, SqL.of eL0⟩, fun A0 nA0 => ?_⟩
    refine lc_gen (n := zs.length) (fun k J => Same H1 J ∧ J A0 = some (.lst (bls k fun i => decide (i ∈ gs)))) ⟨same_new nA0, upd_same⟩ ?_ ?_ ?_ ?_
    · rintro k J hk ⟨s2, _⟩
      exact ⟨_, .bl (decide (k ∈ gs)), SqL.of (s2 _ _ eL0), by rw [List.getElem?_map, List.getElem?_range hk]; rfl⟩
    · rintro J ⟨s2, _⟩
      exact ⟨_, SqL.of (s2 _ _ eL0), by rw [List.length_map, List.length_range]; exact Nat.le_refl _⟩
    · rintro k J x J' hk ⟨s2, eA⟩ ⟨rfl, e⟩
      have hx := e _ (SqL.of (s2 _ _ eL0))
      rw [List.getElem?_map, List.getElem?_range hk] at hx
      cases hx
      walk_at "go"
      refine ⟨_, eA, by unfold bls; rw [List.length_map, List.length_range]; exact szC (by omega), Z.Same.mut s2 nA0, ?_⟩
      unfold bls
      rw [upd_same, List.range_succ, List.map_append]
      rfl
    rintro J ⟨s2, eA⟩
    have nA := none_of s1 nA0
    have sJ := s1.trans s2
    clear eL0 nA0 s1 s2
    walk_at "go"
    obtain ⟨n, hn'⟩ : ∃ n, n = zs.length := ⟨_, rfl⟩
    obtain ⟨T, hT'⟩ : ∃ T, T = tb zs := ⟨_, rfl⟩
    have lT : T.length = n := by rw [hT', hn']; exact List.length_map ..
    rw [← hT'] at wf qq
    rw [← hn'] at hn hgs qq eA
    refine ⟨fun σ' J => Same H J ∧ ∃ (al : Nat → Bool) (v5 v6 : Option V), J A0 = some (.lst (bls n al)) ∧ (∀ s, s < n → (al s = true ↔ Liv T (inG gs) s)) ∧ σ' = [some (.ref a), some (.ref g), none, some (.ref A0), some (.bl false), v5, v6, none, none], ?_, ?_⟩
    · refine ⟨fun μ σ J => Same H J ∧ ∃ (al : Nat → Bool) (ch : Bool) (v5 v6 : Option V), J A0 = some (.lst (bls n al)) ∧ (∀ s, s < n → al s = true → Liv T (inG gs) s) ∧ (∀ s, s ∈ gs → al s = true) ∧ (ch = false → ∀ s k e, nx T s k = some e → al e = true → al s = true) ∧ μ = (if ch = true then n - cnt al n + 1 else 0) ∧ σ = [some (.ref a), some (.ref g), none, some (.ref A0), some (.bl ch), v5, v6, none, none], ⟨_, sJ, fun i => decide (i ∈ gs), true, none, none, eA, fun s _ e => liv_good (show s ∈ gs from of_decide_eq_true e), fun s e => decide_eq_true e, fun z => (by cases z), rfl, rfl⟩, ?_⟩
      rintro μ σ J ⟨s3, al, ch, v5, v6, eA, snd, hgl, cl, rfl, rfl⟩
      walk_at "go"
      cases ch
      · rw [if_neg Bool.false_ne_true]
        refine ⟨s3, al, v5, v6, eA, fun s hs => ⟨snd s hs, fun l => ?_⟩, rfl⟩
        exact liv_closed (al := fun s => al s = true) hgl (cl rfl) l
      rw [if_pos rfl]
      refine ⟨fun σ' J' => Same H J' ∧ ∃ (al' : Nat → Bool) (ch' : Bool) (v5 v6 : Option V), J' A0 = some (.lst (bls n al')) ∧ (∀ s, s < n → al' s = true → Liv T (inG gs) s) ∧ (∀ s, s ∈ gs → al' s = true) ∧ (ch' = false → ∀ s k e, nx T s k = some e → al' e = true → al' s = true) ∧ (ch' = true → cnt al n < cnt al' n) ∧ σ' = [some (.ref a), some (.ref g), none, some (.ref A0), some (.bl ch'), v5, v6, none, none], ?_, ?_⟩
      · rintro σ' J' ⟨s4, al', ch', v5, v6, eA', snd', hgl', cl', up, rfl⟩
        refine ⟨_, ?_, s4, al', ch', v5, v6, eA', snd', hgl', cl', rfl, rfl⟩
        cases ch'
        · rw [if_neg Bool.false_ne_true, if_pos rfl]
          exact Nat.succ_pos _
        · rw [if_pos rfl, if_pos rfl]
          have := up rfl
          have := cnt_le al' n
          omega
      walk_at "go"
      refine ⟨q, _, _, rfl, Z.Same.sqK s3 hT.sq, ?_⟩
      refine for_enum hT.sq (fun k σ J => Same H J ∧ ∃ (al' : Nat → Bool) (ch' : Bool) (v5 v6 : Option V), J A0 = some (.lst (bls n al')) ∧ (∀ s, s < n → al' s = true → Liv T (inG gs) s) ∧ (∀ s, al s = true → al' s = true) ∧ (ch' = false → (∀ s, al' s = al s) ∧ ∀ s, s < k → ∀ k e, nx T s k = some e → al e = true → al s = true) ∧ (ch' = true → cnt al n < cnt al' n) ∧ σ = [some (.ref a), some (.ref g), none, some (.ref A0), some (.bl ch'), v5, v6, none, none]) ⟨s3, al, false, v5, v6, eA, snd, fun _ h => h, fun _ => ⟨fun _ => rfl, fun s hs => absurd hs (Nat.not_lt_zero _)⟩, fun z => (by cases z), rfl⟩ (fun k σ J p => p.1) ?_ ?_
      · rintro k x σ J J2 ex ⟨s4, al', ch', v5, v6, eA', snd', mo, un, up, rfl⟩ s5
        rw [List.getElem?_map] at ex
        obtain ⟨z, ez, rfl⟩ := Option.map_eq_some_iff.mp ex
        have hk : k < n := by rw [hn']; exact (List.getElem?_eq_some_iff.mp ez).1
        have hz := (hT.mono (s4.trans s5)).at_ z (List.mem_of_getElem? ez)
        have mz : z.2 ∈ T := by rw [hT']; exact List.mem_map.mpr ⟨z, List.mem_of_getElem? ez, rfl⟩
        have lz := wf.row _ mz
        have rx : ∀ i, i < m → z.2.getD i none = nx T k i := fun i hi => by rw [hT']; exact row_nx ez (by omega)
        have eA2 := s5 _ _ eA'
        walk_at "go"
        refine ⟨A0, _, _, _, rfl, rfl, SqL.of eA2, bls_at hk, ?_⟩
        cases e1 : al' k
        · walk_at "go"
          refine rd_sq (b := q2) rfl hz ?_
          intro B nB
          refine lc_flt (n := m) (fun i => eV (z.2.getD i none)) (fun _ => true) (fun i => .bl (elB al' (z.2.getD i none))) (by omega) nB (fun i J3 hi s6 => itq_go (Z.Same.sqK s6 hz) (row_at (by omega))) (fun J3 s6 => itq_stop (Z.Same.sqK s6 hz) (by rw [List.length_map]; omega)) (fun i J3 x J4 hi s6 y => ?_) (fun i => rfl) (fun i J3 Q1 hi s6 q1 => ?_) (fun i J3 Q1 hi _ s6 q1 => ?_) (fun J3 s6 eB => ?_)
          · obtain ⟨rfl, ex⟩ := itq_yld (Z.Same.sqK s6 hz) y
            rw [row_at (by omega)] at ex
            cases ex
            exact ⟨Same.refl _, rfl⟩
          · exact q1 _ (Same.refl _)
          · rw [rx i hi] at q1 ⊢
            cases e2 : nx T k i with
            | none =>
              rw [e2] at q1
              walk_at "go"
              exact q1 _ (Same.refl _)
            | some e =>
              rw [e2] at q1
              have he := (nx_lt wf e2).1
              rw [lT] at he
              dsimp only [eV]
              walk_at "go"
              exact ⟨A0, _, _, _, rfl, rfl, SqL.of (s6 _ _ eA2), bls_at he, q1 _ (Same.refl _)⟩
          rw [fltL_all] at eB
          walk_at "go"
          refine ⟨B, (List.range m).map fun i => elB al' (z.2.getD i none), rfl, SqL.of (by rw [eB, List.map_map]; rfl), ?_⟩
          have s7 := s4.trans (s5.trans s6)
          have eA3 := s6 _ _ eA2
          have hany : ∀ k1 e, nx T k k1 = some e → al' e = true → ((List.range m).map fun i => elB al' (z.2.getD i none)).any id = true := fun k1 e he hl => by
            have hk1 := (nx_lt wf he).2.1
            refine List.any_eq_true.mpr ⟨elB al' (z.2.getD k1 none), List.mem_map.mpr ⟨k1, List.mem_range.mpr hk1, rfl⟩, ?_⟩
            rw [rx k1 hk1, he]
            exact hl
          cases e3 : ((List.range m).map fun i => elB al' (z.2.getD i none)).any id
          · walk_at "go"
            refine ⟨al', ch', _, _, eA3, snd', mo, fun zz => ⟨(un zz).1, fun s hs k1 e he hl => ?_⟩, up, rfl⟩
            by_cases c : s = k
            · subst c
              rw [← (un zz).1 e] at hl
              rw [hany k1 e he hl] at e3
              cases e3
            · exact (un zz).2 s (by omega) k1 e he hl
          · walk_at "go"
            refine ⟨A0, _, _, k, rfl, rfl, eA3, by rw [bls_len]; exact ixN_nat hk, ?_⟩
            rw [bls_set]
            walk_at "go"
            have alk : al k = false := by
              cases e4 : al k with
              | false => rfl
              | true => rw [mo k e4] at e1; cases e1
            refine ⟨Z.Same.mut s7 nA, fun j => if j = k then true else al' j, true, _, _, upd_same, fun s hs h => ?_, fun s h => ?_, fun zz => (by cases zz), fun _ => cnt_lt (x := k) (fun s hs h => ?_) hk alk (by simp), rfl⟩
            · by_cases c : s = k
              · subst c
                obtain ⟨b, hb, hb2⟩ := List.any_eq_true.mp e3
                obtain ⟨i, hi, rfl⟩ := List.mem_map.mp hb
                rw [rx i (List.mem_range.mp hi)] at hb2
                cases e5 : nx T s i with
                | none => rw [e5] at hb2; cases hb2
                | some e =>
                  rw [e5] at hb2
                  exact liv_step e5 (snd' e (by rw [← lT]; exact (nx_lt wf e5).1) hb2)
              · simp only [c, if_false] at h
                exact snd' s hs h
            · by_cases c : s = k
              · simp [c]
              · simp only [c, if_false]
                exact mo s h
            · by_cases c : s = k
              · simp [c]
              · simp only [c, if_false]
                exact mo s h
        · walk_at "go"
          refine ite2 (fun e => absurd e (show ¬ ((!true) = true) from Bool.false_ne_true)) (fun _ => ?_)
          refine ite2 (fun e => absurd e Bool.false_ne_true) (fun _ => ?_)
          refine ⟨s4.trans s5, al', ch', _, _, eA2, snd', mo, fun zz => ⟨(un zz).1, fun s hs k1 e he hl => ?_⟩, up, rfl⟩
          by_cases c : s = k
          · subst c
            rw [← (un zz).1 s]
            exact e1
          · exact (un zz).2 s (by omega) k1 e he hl
      · rintro σ J ⟨s4, al', ch', v5, v6, eA', snd', mo, un, up, rfl⟩
        rw [List.length_map, ← hn'] at un
        refine ⟨s4, al', ch', v5, v6, eA', snd', fun s hs => mo s (hgl s hs), fun z s k e he hl => ?_, up, rfl⟩
        obtain ⟨u1, u2⟩ := un z
        rw [u1] at hl ⊢
        exact u2 s (by rw [← lT]; exact (nx_lt wf he).2.2) k e he hl
    rintro σ' J ⟨s3, al, v5, v6, eA, hal, rfl⟩
    walk_at "go"
    refine rd_sq (b := q) rfl (hT.mono s3).sq ?_
    intro L nL
    refine lc_gen (n := n) (fun k J' => Same J J' ∧ ∃ zk : List (Addr × List (Option Nat)), J' L = some (.lst (zk.map fun z => V.ref z.1)) ∧ (∀ z ∈ zk, J' z.1 = some (.lst (z.2.map eV)) ∧ z.1 ≠ L) ∧ tb zk = kpT al (T.take k)) ⟨same_new nL, [], upd_same, fun z hz => absurd hz (by simp), rfl⟩ ?_ ?_ ?_ ?_
    · rintro k J' hk ⟨s4, _⟩
      have hk2 : k < zs.length := by omega
      exact itq_go (Z.Same.sqK (s3.trans s4) hT.sq) (x := .ref zs[k].1) (by rw [List.getElem?_map, List.getElem?_eq_getElem hk2]; rfl)
    · rintro J' ⟨s4, _⟩
      exact itq_stop (Z.Same.sqK (s3.trans s4) hT.sq) (by rw [List.length_map]; omega)
    · rintro k J' x J2 hk ⟨s4, zk, eL, hz, ek⟩ y
      obtain ⟨rfl, ex⟩ := itq_yld (Z.Same.sqK (s3.trans s4) hT.sq) y
      have hk2 : k < zs.length := by omega
      rw [List.getElem?_map, List.getElem?_eq_getElem hk2] at ex
      cases ex
      have zk2 := (hT.mono (s3.trans s4)).at_ _ (List.getElem_mem hk2)
      have mz : zs[k].2 ∈ T := by rw [hT']; exact List.mem_map.mpr ⟨_, List.getElem_mem hk2, rfl⟩
      have tk : T.take (k + 1) = T.take k ++ [zs[k].2] := by
        rw [hT']
        unfold tb
        rw [List.take_succ, List.getElem?_map, List.getElem?_eq_getElem hk2]
        rfl
      have lz := wf.row _ mz
      have ent := wf.ent _ mz
      generalize zs[k] = z at zk2 mz tk lz ent
      have eA2 := s4 _ _ eA
      walk_at "go"
      refine rd_sq (b := q2) rfl zk2 ?_
      intro B nB
      refine lc_flt (n := m) (fun i => eV (z.2.getD i none)) (fun _ => true) (fun i => eV (kp al (z.2.getD i none))) (by omega) nB (fun i J3 hi s6 => itq_go (Z.Same.sqK s6 zk2) (row_at (by omega))) (fun J3 s6 => itq_stop (Z.Same.sqK s6 zk2) (by rw [List.length_map]; omega)) (fun i J3 x J4 hi s6 y => ?_) (fun i => rfl) (fun i J3 Q1 hi s6 q1 => ?_) (fun i J3 Q1 hi _ s6 q1 => ?_) (fun J3 s6 eB => ?_)
      · obtain ⟨rfl, ex⟩ := itq_yld (Z.Same.sqK s6 zk2) y
        rw [row_at (by omega)] at ex
        cases ex
        exact ⟨Same.refl _, rfl⟩
      · exact q1 _ (Same.refl _)
      · have me : z.2.getD i none ∈ z.2 := by
          rw [List.getD_eq_getElem?_getD, List.getElem?_eq_getElem (show i < z.2.length by omega)]
          exact List.getElem_mem _
        generalize z.2.getD i none = o at me q1
        cases o with
        | none =>
          walk_at "go"
          exact q1 _ (Same.refl _)
        | some e =>
          have he := ent e me
          rw [lT] at he
          dsimp only [eV]
          walk_at "go"
          refine ⟨A0, _, _, _, rfl, rfl, SqL.of (s6 _ _ eA2), bls_at he, ?_⟩
          have ee : kp al (some e) = if al e = true then some e else none := rfl
          rw [ee] at q1
          cases e1 : al e
          · rw [e1, if_neg Bool.false_ne_true] at q1
            walk_at "go"
            exact q1 _ (Same.refl _)
          · rw [e1, if_pos rfl] at q1
            walk_at "go"
            exact q1 _ (Same.refl _)
      have nBL : B ≠ L := ne_of_none' (s4 := eL) nB
      rw [fltL_all, ← lz, row_range (f := fun o => eV (kp al o))] at eB
      have ezk : zk.length ≤ 1000000 := by
        have := congrArg List.length ek
        unfold tb kpT at this
        rw [List.length_map, List.length_map, List.length_take] at this
        omega
      refine ⟨_, s6 _ _ eL, by rw [List.length_map]; exact szC (by omega), Z.Same.mut (s4.trans s6) nL, zk ++ [(B, z.2.map (kp al))], by rw [upd_same, List.map_append]; rfl, fun y hy => ?_, ?_⟩
      · rcases List.mem_append.mp hy with hy | hy
        · obtain ⟨h1, h2⟩ := hz y hy
          exact ⟨by rw [upd_ne h2]; exact s6 _ _ h1, h2⟩
        · rw [List.mem_singleton.mp hy]
          refine ⟨?_, nBL⟩
          rw [upd_ne nBL, eB, List.map_map]
          rfl
      · unfold tb at ek ⊢
        rw [List.map_append, ek, tk]
        unfold kpT
        rw [List.map_append]
        rfl
    rintro J' ⟨s4, zk, eL, hz, ek⟩
    rw [List.take_of_length_le (by omega)] at ek
    have hTk : Tb true true K J' L zk := ⟨SqL.of eL, fun z m => SqL.of (hz z m).1⟩
    have nLH := none_of s3 nL
    have s3' := s3.trans s4
    walk_at "go"
    refine ⟨a, _, rfl, sqk_or (Z.Same.sqK s3' hT.sq), ?_⟩
    rw [List.length_map, ← hn']
    walk_at "go"
    have nil : ∀ (zs0 : zs = [] ∨ ¬ Liv T (inG gs) 0) (B : Addr), J' B = none → Q (.ref B) (upd J' B (.lst [])) := fun zs0 B nB =>
      qq B [] _ (s3'.trans (same_new nB)) (none_of s3' nB) ⟨SqL.of upd_same, fun z m => absurd m (by simp)⟩ (.inl ⟨rfl, zs0⟩)
    by_cases n0 : n = 0
    · rw [decide_eq_false (show ¬ (0 : Int) < (n : Int) by omega)]
      walk_at "go"
      exact nil (.inl (List.length_eq_zero_iff.mp (by omega)))
    · have n1 : 0 < n := by omega
      rw [decide_eq_true (show (0 : Int) < (n : Int) by omega)]
      walk_at "go"
      refine ⟨A0, _, _, _, rfl, rfl, SqL.of (s4 _ _ eA), bls_at (i := 0) n1, ?_⟩
      cases e1 : al 0
      · walk_at "go"
        exact nil (.inr fun l => by rw [(hal 0 n1).mpr l] at e1; cases e1)
      · walk_at "go"
        refine qq L zk J' s3' nLH hTk (.inr ⟨n1, (hal 0 n1).mp e1, ?_⟩)
        rw [ek]
        exact kpt_of wf (by rw [lT]; exact hal)
end
end Z
set_option pp.maxSteps 700
set_option Elab.async false
set_option linter.all false
set_option maxRecDepth 100000
set_option maxHeartbeats 4000000
open SX (S S_inj S_len S_cat)
namespace Z
open Mc
open PySem PySem.Spec PyProof.Rows L2
open C8 (pss_cut tCut)
local macro_rules | `(tactic| walk_at "num") => `(tactic| first | rfl | omega | decide | exact Nat.le_of_lt (small1000 (by simp)) | exact ⟨by omega, by omega⟩ | exact ⟨by omega, by omega, by omega⟩ | exact ⟨by decide, by decide, by decide⟩ | exact Or.inl ⟨by omega, by omega⟩ | exact Or.inr ⟨by omega, by omega⟩)
local macro_rules | `(tactic| walk_at "go") => `(tactic| repeat (first | refine ⟨_, rfl, ?_⟩ | refine ⟨_, _, rfl, rfl, ?_⟩ | refine ⟨_, _, rfl, ?_⟩ | (refine ⟨_, _, rfl, rfl, ?_, ?_⟩; focus walk_at "num") | refine Or.inl ⟨_, rfl, ?_⟩ | refine ⟨_, _, _, _, rfl, rfl, (by assumption), (by rfl), ?_⟩ | refine ⟨_, _, _, _, _, rfl, (by assumption), (by assumption), (by assumption), (by rfl), ?_⟩ | refine ⟨rfl, ?_⟩ | (refine And.intro ?_ ?_; focus walk_at "num")))
abbrev s_state_classes : Stmt := topS 12
abbrev N_state_classes : List Str := ["rows", "good", "flag", "classes", "many", "numbers", "finer", "state", "row", "entry", "mark"]
abbrev P_state_classes : List Str := ["rows", "good"]
theorem sc_state_classes : FnScope N_state_classes P_state_classes (defScope s_state_classes) := ⟨rfl, rfl, rfl, by decide +kernel, rfl, by decide +kernel, by decide +kernel⟩
def nls (n : Nat) (f : Nat → Nat) : List V := (List.range n).map fun i => V.int ((f i : Nat) : Int)
def lk : Option Nat → NestedKey
  | none => .none
  | some c => .num (c : Int)
def nk (p : Nat × List (Option Nat)) : NestedKey := .tup (.num ((p.1 : Nat) : Int) :: p.2.map lk)
theorem lk_inj : ∀ {a b : Option Nat}, lk a = lk b → a = b
  | none, none, _ => rfl
  | some _, none, h => by cases h
  | none, some _, h => by cases h
  | some a, some b, h => by
    have h : NestedKey.num (a : Int) = NestedKey.num (b : Int) := h
    injection h with h
    rw [show a = b by omega]
theorem lks_inj : ∀ {a b : List (Option Nat)}, a.map lk = b.map lk → a = b
  | [], [], _ => rfl
  | [], _ :: _, h => by cases h
  | _ :: _, [], h => by cases h
  | x :: a, y :: b, h => by
    rw [List.map_cons, List.map_cons] at h
    injection h with h1 h2
    rw [lk_inj h1, lks_inj h2]
theorem nk_inj {p q : Nat × List (Option Nat)} (h : nk p = nk q) : p = q := by
  unfold nk at h
  injection h with h
  injection h with h1 h2
  injection h1 with h1
  exact Prod.ext (by omega) (lks_inj h2)
theorem lks_depth : ∀ l : List (Option Nat), NestedKey.depthAll (l.map lk) ≤ 1
  | [] => by decide
  | x :: l => by
    have := lks_depth l
    cases x <;> simp only [List.map_cons, NestedKey.depthAll, lk, NestedKey.depth] <;> omega
theorem nk_depth (p : Nat × List (Option Nat)) : (nk p).depth ≤ 8 := by
  have := lks_depth p.2
  unfold nk
  simp only [NestedKey.depth, NestedKey.depthAll]
  omega
theorem atN_some {kvs : List (NestedKey × Addr × Int)} {k : NestedKey} {v : Int} (h : atN kvs k = some v) : ∃ x ∈ kvs, x.1 = k ∧ x.2.2 = v := by
  unfold atN at h
  obtain ⟨x, hx, e⟩ := Option.map_eq_some_iff.mp h
  exact ⟨x, List.mem_of_find?_eq_some hx, of_decide_eq_true (List.find?_some (p := fun x : NestedKey × Addr × Int => decide (x.1 = k)) hx), e⟩
theorem atN_none {kvs : List (NestedKey × Addr × Int)} {k : NestedKey} (h : atN kvs k = none) : ∀ x ∈ kvs, x.1 ≠ k := fun x hx e => by
  unfold atN at h
  rw [Option.map_eq_none_iff] at h
  have := List.find?_eq_none.mp h x hx
  rw [decide_eq_true e] at this
  exact this rfl
/-- marks are numbered as they are met -/
structure Num (f : Nat → Nat × List (Option Nat)) (k : Nat) (kvs : List (NestedKey × Addr × Int)) (fn : Nat → Nat) : Prop where
  len : kvs.length = cf f k
  val : ∀ (i : Nat) x, kvs[i]? = some x → x.2.2 = (i : Int)
  at_ : ∀ s, s < k → ∃ x, kvs[fn s]? = some x ∧ x.1 = nk (f s)
  one : ∀ (i j : Nat) x y, kvs[i]? = some x → kvs[j]? = some y → x.1 = y.1 → i = j
  src : ∀ x ∈ kvs, ∃ s, s < k ∧ x.1 = nk (f s)
theorem Num.eq {f : Nat → Nat × List (Option Nat)} {k : Nat} {kvs : List (NestedKey × Addr × Int)} {fn : Nat → Nat} (h : Num f k kvs fn) {s t : Nat} (hs : s < k) (ht : t < k) : fn s = fn t ↔ f s = f t := by
  obtain ⟨x, hx, ex⟩ := h.at_ s hs
  obtain ⟨y, hy, ey⟩ := h.at_ t ht
  constructor
  · intro e
    rw [e, hy] at hx
    cases hx
    exact nk_inj (ex.symm.trans ey)
  · intro e
    exact h.one _ _ x y hx hy (by rw [ex, ey, e])
theorem Num.cf {f : Nat → Nat × List (Option Nat)} {k : Nat} {kvs : List (NestedKey × Addr × Int)} {fn : Nat → Nat} (h : Num f k kvs fn) : Mc.cf fn k = Mc.cf f k :=
  Nat.le_antisymm (cf_mono fun _ _ hs ht e => (h.eq hs ht).mpr e) (cf_mono fun _ _ hs ht e => (h.eq hs ht).mp e)
theorem Num.old {f : Nat → Nat × List (Option Nat)} {k : Nat} {kvs : List (NestedKey × Addr × Int)} {fn : Nat → Nat} (h : Num f k kvs fn) {v : Int} (e : atN kvs (nk (f k)) = some v) : ∃ i : Nat, v = (i : Int) ∧ Num f (k + 1) kvs fun s => if s = k then i else fn s := by
  obtain ⟨x, hx, e1, e2⟩ := atN_some e
  obtain ⟨i, hi, rfl⟩ := List.getElem_of_mem hx
  have gi := List.getElem?_eq_getElem hi
  have hv := h.val i _ gi
  refine ⟨i, by rw [← e2, hv], ?_, h.val, fun s hs => ?_, h.one, fun x hx => ?_⟩
  · obtain ⟨s, hs, es⟩ := h.src _ hx
    have nf : isF f k = false := by
      cases c : isF f k with
      | false => rfl
      | true => exact absurd (nk_inj (es.symm.trans e1)) (isF_iff.mp c s hs)
    rw [cf_succ, nf]
    exact h.len
  · by_cases c : s = k
    · subst c
      exact ⟨_, by rw [if_pos rfl]; exact gi, e1⟩
    · rw [if_neg c]
      exact h.at_ s (by omega)
  · obtain ⟨s, hs, es⟩ := h.src x hx
    exact ⟨s, by omega, es⟩
theorem Num.new {f : Nat → Nat × List (Option Nat)} {k : Nat} {kvs : List (NestedKey × Addr × Int)} {fn : Nat → Nat} (h : Num f k kvs fn) (e : atN kvs (nk (f k)) = none) (b : Addr) : Num f (k + 1) (kvs ++ [(nk (f k), b, (kvs.length : Int))]) fun s => if s = k then kvs.length else fn s := by
  have no := atN_none e
  have get : ∀ (i : Nat) x, (kvs ++ [(nk (f k), b, (kvs.length : Int))])[i]? = some x → kvs[i]? = some x ∨ i = kvs.length ∧ x = (nk (f k), b, (kvs.length : Int)) := fun i x hx => by
    by_cases c : i < kvs.length
    · rw [List.getElem?_append_left c] at hx
      exact .inl hx
    · rw [List.getElem?_append_right (by omega)] at hx
      have c2 : i - kvs.length = 0 := by
        have := (List.getElem?_eq_some_iff.mp hx).1
        simp at this
        omega
      rw [c2] at hx
      cases hx
      exact .inr ⟨by omega, rfl⟩
  refine ⟨?_, fun i x hx => ?_, fun s hs => ?_, fun i j x y hx hy exy => ?_, fun x hx => ?_⟩
  · have nf : isF f k = true := isF_iff.mpr fun t ht q => by
      obtain ⟨x, hx, ex⟩ := h.at_ t ht
      exact no x (List.mem_of_getElem? hx) (by rw [ex, q])
    rw [cf_succ, nf, List.length_append, h.len]
    rfl
  · rcases get i x hx with hx | ⟨rfl, rfl⟩
    · exact h.val i x hx
    · rfl
  · by_cases c : s = k
    · subst c
      exact ⟨_, by rw [if_pos rfl, List.getElem?_append_right (Nat.le_refl _), Nat.sub_self]; rfl, rfl⟩
    · rw [if_neg c]
      obtain ⟨x, hx, ex⟩ := h.at_ s (by omega)
      exact ⟨x, by rw [List.getElem?_append_left (List.getElem?_eq_some_iff.mp hx).1]; exact hx, ex⟩
  · rcases get i x hx with hx | ⟨rfl, rfl⟩
    · rcases get j y hy with hy | ⟨rfl, rfl⟩
      · exact h.one i j x y hx hy exy
      · exact absurd exy (no x (List.mem_of_getElem? hx))
    · rcases get j y hy with hy | ⟨rfl, rfl⟩
      · exact absurd exy.symm (no y (List.mem_of_getElem? hy))
      · rfl
  · rcases List.mem_append.mp hx with hx | hx
    · obtain ⟨s, hs, es⟩ := h.src x hx
      exact ⟨s, by omega, es⟩
    · rw [List.mem_singleton.mp hx]
      exact ⟨k, by omega, rfl⟩
theorem num_nil (f : Nat → Nat × List (Option Nat)) : Num f 0 [] fun _ => 0 := ⟨rfl, fun i x h => by simp at h, fun s hs => absurd hs (Nat.not_lt_zero _), fun i j x y h => by simp at h, fun x m => absurd m (by simp)⟩
theorem nls_len (n : Nat) (f : Nat → Nat) : (nls n f).length = n := by unfold nls; rw [List.length_map, List.length_range]
theorem nls_at {n i : Nat} {f : Nat → Nat} (h : i < n) : atI (nls n f) (i : Int) = some (.int ((f i : Nat) : Int)) := atI_nat (by unfold nls; rw [List.getElem?_map, List.getElem?_range h]; rfl)
theorem nls_snoc {k v : Nat} {f : Nat → Nat} : nls k f ++ [V.int (v : Int)] = nls (k + 1) fun s => if s = k then v else f s := by
  unfold nls
  rw [List.range_succ, List.map_append]
  congr 1
  · exact List.map_congr_left fun s hs => by simp [Nat.ne_of_lt (List.mem_range.mp hs)]
  · simp
theorem nka_lks {H : Hp} : ∀ {l : List (Option Nat)}, NkA H (l.map lk) (l.map eV)
  | [] => .nil
  | none :: l => .cons .none nka_lks
  | some c :: l => .cons (.int _) nka_lks
theorem DN.upd_lst {P : Program} {w : World} {H : Hp} {a b : Addr} {kvs : List (NestedKey × Addr × Int)} {xs ys : List V} (d : DN P w H a kvs) (e : H b = some (.lst xs)) : DN P w (upd H b (.lst ys)) a kvs := by
  have ht : ∀ c vs, H c = some (.tup vs) → (upd H b (.lst ys)) c = some (.tup vs) := fun c vs h => by
    rw [upd_ne (fun q => by rw [q, e] at h; cases h)]
    exact h
  refine ⟨?_, fun x m => ⟨NkV.keepT ht (d.ks x m).1, (d.ks x m).2⟩⟩
  rw [upd_ne (fun q => by have := d.at_; rw [q, e] at this; unfold DNo at this; cases this)]
  exact d.at_
section
variable {P : Program} {w : World} {K : PySem.W.Frag} {mg : Str → Option Value} {base : Heap} {f : Addr} {fd : FuncData}
def spClasses (K : PySem.W.Frag) : Sp := fun vs H Q _ => ∃ (q q2 q3 : Bool) (m : Nat) (a g : Addr) (zs : List (Addr × List (Option Nat))) (gs : List Nat), vs = [.ref a, .ref g] ∧ Tb q q2 K H a zs ∧ Wf (tb zs) m ∧ m ≤ 1000 ∧ 0 < zs.length ∧ zs.length ≤ 1000000 ∧ SqK q3 K H g (gsq gs) ∧ (∀ s ∈ gs, s < zs.length) ∧ (∀ s k e, nx (tb zs) s k = some e → Liv (tb zs) (inG gs) e) ∧
  ∀ (L : Addr) (fc : Nat → Nat) H', Same H H' → H L = none → H' L = some (.lst (nls zs.length fc)) → (∀ s t, s < zs.length → t < zs.length → (fc s = fc t ↔ Leq (tb zs) (inG gs) s t)) → Q (.ref L) H'
theorem ok_state_classes (F : FnP K "state_classes" s_state_classes f fd) (m_int : mg "int" = none) (m_tuple : mg "tuple" = none) (m_len : mg "len" = none) (m_enumerate : mg "enumerate" = none) (c_flags_of : Cal P w K mg base 1 "flags_of" (spFlags K)) : FnOk P w K mg base CX0 2 f fd P_state_classes (spClasses K) := by
  refine F.ok sc_state_classes (fun vs H Q E h => ?_) (fun cdv A outer s H vs Q E hr h => ?_)
  · obtain ⟨q, q2, q3, m, a, g, zs, gs, rfl, _⟩ := h
    rfl
  · obtain ⟨q, q2, q3, m, a, g, zs, gs, rfl, hT, wf, hm, hn0, hn, hG, hgs, lv, qq⟩ := h
    refine ⟨_, PSs.nox (pss_cons (ps_set (i := 3) sc_state_classes.nd rfl (by first | exact .inl rfl | exact .inr rfl) (pe_lc (own := [("flag", 2)]) (g := (gName 2)) (tt := tYes) (by rfl) sc_state_classes.nd (pi_list (pe_cl c_flags_of hr (by decide) (by rfl) (pa_cons (pe_callB call_len_seq (by rfl) m_len PySem.boot_len (pa_cons (pv 0) pa_nil)) (pa_cons (pv 1) pa_nil)))) (blkOk_by (own := [("flag", 2)]) (N := N_state_classes) (sc := defScope s_state_classes) (by decide +kernel)) (fun _ _ _ _ _ => (pg_name (i := 2) sc_state_classes.nd rfl (by first | exact .inl rfl | exact .inr rfl))) (fun _ _ _ _ _ => pts_nil) (fun _ _ _ _ _ => (pe_callTy call_int1 (by rfl) m_int (by decide +kernel) (pa_cons (pv 2) pa_nil)))))
      (pss_cons (ps_set (i := 4) sc_state_classes.nd rfl (by first | exact .inl rfl | exact .inr rfl) pe_int)
      (pss_one (ps_while PassesOwn.never (pt_val pe_bl)
        (pss_cons (ps_set (i := 5) sc_state_classes.nd rfl (by first | exact .inl rfl | exact .inr rfl) (pe_dnewN (P := P) (w := w) rfl rfl))
      (pss_cons (ps_set (i := 6) sc_state_classes.nd rfl (by first | exact .inl rfl | exact .inr rfl) (pe_lst pa_nil))
      (pss_cons (ps_for PassesOwn.never rfl (pi_enumM (by rfl) m_enumerate (pa_cons (pv 0) pa_nil)) (pg_tup rfl (pgs_cons (pg_name (i := 7) sc_state_classes.nd rfl (by first | exact .inl rfl | exact .inr rfl)) (pgs_cons (pg_name (i := 8) sc_state_classes.nd rfl (by first | exact .inl rfl | exact .inr rfl)) pgs_nil)))
        (pss_cons (ps_set (i := 10) sc_state_classes.nd rfl (by first | exact .inl rfl | exact .inr rfl) (pe_callTy call_tuple_of (by rfl) m_tuple (by decide +kernel) (pa_cons (pe_op op_cat (pe_lst (pa_cons (pe_ix ix_list (pv 3) (pv 7) (fun _ _ => rfl)) pa_nil)) (pe_lc (own := [("entry", 9)]) (g := (gName 9)) (tt := tYes) (by rfl) sc_state_classes.nd (pi_sq (pv 8)) (blkOk_by (own := [("entry", 9)]) (N := N_state_classes) (sc := defScope s_state_classes) (by decide +kernel)) (fun _ _ _ _ _ => (pg_name (i := 9) sc_state_classes.nd rfl (by first | exact .inl rfl | exact .inr rfl))) (fun _ _ _ _ _ => pts_nil) (fun _ _ _ _ _ => (pe_ifExp (pt_cmpR op_isN (pv 9) pe_non (nomark _)) pe_non (pe_ix (ix_list_K (K := K) rfl) (pv 3) (pv 9) (fun _ _ => rfl)))))) pa_nil)))
      (pss_one (ps_expr (pe_bm PySem.F.plainAttrs_list PySem.F.slot_list_append PySem.F.type_list_append mt_append (pv 6) (pa_cons (pe_dsetdN (P := P) (w := w) (Nat.lt_of_le_of_lt (Nat.add_le_add_left (by decide) _) hr.units) rfl rfl (pv 5) (pv 10) (pe_callB (call_lenN (P := P) (w := w) rfl rfl) (by rfl) m_len PySem.boot_len (pa_cons (pv 5) pa_nil)) ⟨rfl, rfl, rfl, rfl⟩) pa_nil))))))
      (pss_cons (ps_if (pt_cmpR op_eq (pe_callB (call_lenN (P := P) (w := w) rfl rfl) (by rfl) m_len PySem.boot_len (pa_cons (pv 5) pa_nil)) (pv 4) (nomark _)) (pss_one (ps_ret (pv 6))) pss_nil)
      (pss_cons (ps_set (i := 3) sc_state_classes.nd rfl (by first | exact .inl rfl | exact .inr rfl) (pv 6))
      (pss_one (ps_set (i := 4) sc_state_classes.nd rfl (by first | exact .inl rfl | exact .inr rfl) (pe_callB (call_lenN (P := P) (w := w) rfl rfl) (by rfl) m_len PySem.boot_len (pa_cons (pv 5) pa_nil))))))))))))), ?_⟩
    walk_at "go"
    refine ⟨a, _, rfl, sqk_or hT.sq, ?_⟩
    rw [List.length_map]
    walk_at "go"
    refine ⟨q3, zs.length, g, gs, rfl, hG, hgs, by omega, fun L0 H1 s1 nL0 eL0 => ?_⟩
    walk_at "go"
    refine ⟨⟨_, SqL.of eL0⟩, fun A0 nA0 => ?_⟩
    refine lc_gen (n := zs.length) (fun k J => Same H1 J ∧ J A0 = some (.lst (nls k fun i => if i ∈ gs then 1 else 0))) ⟨same_new nA0, upd_same⟩ ?_ ?_ ?_ ?_
    · rintro k J hk ⟨s2, _⟩
      exact ⟨_, .bl (decide (k ∈ gs)), SqL.of (s2 _ _ eL0), by rw [List.getElem?_map, List.getElem?_range hk]; rfl⟩
    · rintro J ⟨s2, _⟩
      exact ⟨_, SqL.of (s2 _ _ eL0), by rw [List.length_map, List.length_range]; exact Nat.le_refl _⟩
    · rintro k J x J' hk ⟨s2, eA⟩ ⟨rfl, e⟩
      have hx := e _ (SqL.of (s2 _ _ eL0))
      rw [List.getElem?_map, List.getElem?_range hk] at hx
      cases hx
      walk_at "go"
      have two : ∀ v : Nat, (if k ∈ gs then 1 else 0) = v → ∃ acc, J' A0 = some (.lst acc) ∧ acc.length < sizeLine ∧ Same H1 (upd J' A0 (.lst (acc ++ [V.int (v : Int)]))) ∧ (upd J' A0 (.lst (acc ++ [V.int (v : Int)]))) A0 = some (.lst (nls (k + 1) fun i => if i ∈ gs then 1 else 0)) := fun v hv => by
        refine ⟨_, eA, by rw [nls_len]; exact szC (by omega), Z.Same.mut s2 nA0, ?_⟩
        rw [upd_same, nls_snoc]
        congr 3
        funext i
        by_cases c : i = k
        · rw [if_pos c, c, hv]
        · rw [if_neg c]
      refine .inr ⟨_, rfl, ?_⟩
      by_cases c : k ∈ gs
      · rw [decide_eq_true c]
        exact two 1 (if_pos c)
      · rw [decide_eq_false c]
        exact two 0 (if_neg c)
    rintro J ⟨s2, eA⟩
    have nA := none_of s1 nA0
    have sJ := s1.trans s2
    clear eL0 nA0 s1 s2
    walk_at "go"
    obtain ⟨n, hn'⟩ : ∃ n, n = zs.length := ⟨_, rfl⟩
    obtain ⟨T, hT'⟩ : ∃ T, T = tb zs := ⟨_, rfl⟩
    have lT : T.length = n := by rw [hT', hn']; exact List.length_map ..
    rw [← hT'] at wf qq lv
    rw [← hn'] at hn hn0 hgs qq eA
    refine ⟨fun μ σ J => Same H J ∧ ∃ (Cl : Addr) (cl : Nat → Nat) (mn : Nat) (v5 v6 v7 v8 v10 : Option V), J Cl = some (.lst (nls n cl)) ∧ Crs T (inG gs) cl ∧ (∀ s t, s < n → t < n → cl s = cl t → (inG gs s ↔ inG gs t)) ∧ (mn = 0 ∨ mn = cf cl n) ∧ mn ≤ n ∧ μ = n - mn ∧ σ = [some (.ref a), some (.ref g), none, some (.ref Cl), some (.int (mn : Int)), v5, v6, v7, v8, none, v10], ⟨_, sJ, A0, _, 0, none, none, none, none, none, eA, fun s t hs ht l => ?_, fun s t hs ht e => ?_, .inl rfl, Nat.zero_le _, rfl, rfl⟩, ?_⟩
    · have := l.good
      unfold inG at this
      show (if s ∈ gs then (1 : Nat) else 0) = if t ∈ gs then 1 else 0
      by_cases c : s ∈ gs
      · rw [if_pos c, if_pos (this.mp c)]
      · rw [if_neg c, if_neg (fun z => c (this.mpr z))]
    · unfold inG
      have e : (if s ∈ gs then (1 : Nat) else 0) = if t ∈ gs then 1 else 0 := e
      by_cases c : s ∈ gs
      · by_cases d : t ∈ gs
        · exact ⟨fun _ => d, fun _ => c⟩
        · rw [if_pos c, if_neg d] at e; cases e
      · by_cases d : t ∈ gs
        · rw [if_neg c, if_pos d] at e; cases e
        · exact ⟨fun z => absurd z c, fun z => absurd z d⟩
    rintro μ σ J ⟨s3, Cl, cl, mn, v5, v6, v7, v8, v10, eC, crs, fl, hm0, mnn, rfl, rfl⟩
    walk_at "go"
    refine ite2 (fun _ => ?_) (fun e => absurd rfl e)
    refine ⟨fun σ' J' => Same H J' ∧ ∃ (Cl : Addr) (cl : Nat → Nat) (mn' : Nat) (v5 v6 v7 v8 v10 : Option V), J' Cl = some (.lst (nls n cl)) ∧ Crs T (inG gs) cl ∧ (∀ s t, s < n → t < n → cl s = cl t → (inG gs s ↔ inG gs t)) ∧ mn' = cf cl n ∧ mn' ≤ n ∧ mn < mn' ∧ σ' = [some (.ref a), some (.ref g), none, some (.ref Cl), some (.int (mn' : Int)), v5, v6, v7, v8, none, v10], ?_, ?_⟩
    · rintro σ' J' ⟨s4, Cl', cl', mn', v5, v6, v7, v8, v10, e1, e2, e3, e4, e5, e6, rfl⟩
      exact ⟨_, by omega, s4, Cl', cl', mn', v5, v6, v7, v8, v10, e1, e2, e3, .inr e4, e5, rfl, rfl⟩
    walk_at "go"
    intro D nD
    have sD := same_new (o := DNo P w D []) nD
    have hD : DN P w (upd J D (DNo P w D [])) D [] := dn_new
    generalize upd J D (DNo P w D []) = J1 at sD hD
    walk_at "go"
    intro Fn nFn
    have sF := same_new (o := .lst []) nFn
    have eF : (upd J1 Fn (.lst [])) Fn = some (.lst (nls 0 fun _ => 0)) := upd_same
    have hD1 := hD.mono sF
    generalize upd J1 Fn (.lst []) = J2 at sF eF hD1
    have nFnJ := none_of sD nFn
    have s32 := sD.trans sF
    walk_at "go"
    refine ⟨q, _, _, rfl, Z.Same.sqK (s3.trans s32) hT.sq, ?_⟩
    refine for_enum hT.sq (fun k σ J2 => Same H J2 ∧ Same J J2 ∧ (∃ kvs fn, DN P w J2 D kvs ∧ J2 Fn = some (.lst (nls k fn)) ∧ Num (mk T m cl) k kvs fn) ∧ ∃ v7 v8 v10 : Option V, σ = [some (.ref a), some (.ref g), none, some (.ref Cl), some (.int (mn : Int)), some (.ref D), some (.ref Fn), v7, v8, none, v10]) ⟨s3.trans s32, s32, ⟨_, _, hD1, eF, num_nil _⟩, _, _, _, rfl⟩ (fun k σ J p => p.1) ?_ ?_
    · rintro k x σ J3 J4 ex ⟨s4, sJ4, ⟨kvs, fn, hD, eF, num⟩, v7, v8, v10, rfl⟩ s5
      rw [List.getElem?_map] at ex
      obtain ⟨z, ez, rfl⟩ := Option.map_eq_some_iff.mp ex
      have hk : k < n := by rw [hn']; exact (List.getElem?_eq_some_iff.mp ez).1
      have hz := (hT.mono (s4.trans s5)).at_ z (List.mem_of_getElem? ez)
      have mz : z.2 ∈ T := by rw [hT']; exact List.mem_map.mpr ⟨z, List.mem_of_getElem? ez, rfl⟩
      have lz := wf.row _ mz
      have rx : ∀ i, i < m → z.2.getD i none = nx T k i := fun i hi => by rw [hT']; exact row_nx ez (by omega)
      have eC4 := (sJ4.trans s5) _ _ eC
      have hD4 := hD.mono s5
      have eF4 := s5 _ _ eF
      walk_at "go"
      refine ⟨Cl, _, _, _, rfl, rfl, SqL.of eC4, nls_at hk, ?_⟩
      walk_at "go"
      intro l1 nl1
      generalize eH_ : upd J4 l1 _ = J5
      have s6 : Same J4 J5 := by rw [← eH_]; exact same_new nl1
      have el1 : J5 l1 = some (.lst [.int ((cl k : Nat) : Int)]) := by rw [← eH_]; exact upd_same
      clear eH_
      walk_at "go"
      refine rd_sq (b := q2) rfl (Z.Same.sqK s6 hz) ?_
      intro B nB
      refine lc_flt (n := m) (fun i => eV (z.2.getD i none)) (fun _ => true) (fun i => eV ((z.2.getD i none).map cl)) (by omega) nB (fun i J6 hi s7 => itq_go (Z.Same.sqK (s6.trans s7) hz) (row_at (by omega))) (fun J6 s7 => itq_stop (Z.Same.sqK (s6.trans s7) hz) (by rw [List.length_map]; omega)) (fun i J6 x J7 hi s7 y => ?_) (fun i => rfl) (fun i J6 Q1 hi s7 q1 => ?_) (fun i J6 Q1 hi _ s7 q1 => ?_) (fun J6 s7 eB => ?_)
      · obtain ⟨rfl, ex⟩ := itq_yld (Z.Same.sqK (s6.trans s7) hz) y
        rw [row_at (by omega)] at ex
        cases ex
        exact ⟨Same.refl _, rfl⟩
      · exact q1 _ (Same.refl _)
      · rw [rx i hi] at q1 ⊢
        cases e2 : nx T k i with
        | none =>
          rw [e2] at q1
          walk_at "go"
          exact q1 _ (Same.refl _)
        | some e =>
          rw [e2] at q1
          have he := (nx_lt wf e2).1
          rw [lT] at he
          dsimp only [eV]
          walk_at "go"
          exact ⟨Cl, _, _, _, rfl, rfl, SqL.of ((s6.trans s7) _ _ eC4), nls_at he, q1 _ (Same.refl _)⟩
      have em : fltL (fun _ => true) (fun i => eV ((z.2.getD i none).map cl)) m = (mk T m cl k).2.map eV := by
        rw [fltL_all]
        unfold mk
        dsimp only
        rw [List.map_map]
        exact List.map_congr_left fun i hi => by rw [rx i (List.mem_range.mp hi)]; rfl
      rw [em] at eB
      have lmk : ((mk T m cl k).2.map eV).length = m := by unfold mk; simp
      walk_at "go"
      refine ⟨l1, B, _, _, rfl, rfl, s7 _ _ el1, eB, by rw [lmk]; exact Nat.le_trans (show 1 + m ≤ 2000 by omega) (by decide), fun l2 nl2 => ?_⟩
      have s8 := same_new (o := .lst ([.int ((cl k : Nat) : Int)] ++ (mk T m cl k).2.map eV)) nl2
      have el2 : (upd J6 l2 (.lst ([.int ((cl k : Nat) : Int)] ++ (mk T m cl k).2.map eV))) l2 = some (.lst ([.int ((cl k : Nat) : Int)] ++ (mk T m cl k).2.map eV)) := upd_same
      generalize upd J6 l2 (.lst ([.int ((cl k : Nat) : Int)] ++ (mk T m cl k).2.map eV)) = J7 at s8 el2
      walk_at "go"
      refine ⟨l2, _, rfl, .inl ⟨SqL.of el2, fun t nt => ?_⟩⟩
      have s9 := same_new (o := .tup ([.int ((cl k : Nat) : Int)] ++ (mk T m cl k).2.map eV)) nt
      have et : (upd J7 t (.tup ([.int ((cl k : Nat) : Int)] ++ (mk T m cl k).2.map eV))) t = some (.tup ([.int ((cl k : Nat) : Int)] ++ (mk T m cl k).2.map eV)) := upd_same
      generalize upd J7 t (.tup ([.int ((cl k : Nat) : Int)] ++ (mk T m cl k).2.map eV)) = J8 at s9 et
      have s48 := s6.trans (s7.trans (s8.trans s9))
      have hD8 := hD4.mono s48
      have eF8 := s48 _ _ eF4
      have hN : NkV J8 (nk (mk T m cl k)) (.ref t) := .tup et (.cons (.int _) nka_lks)
      clear s6 s7 s8 s9 el1 eB el2
      walk_at "go"
      refine ⟨.inl ⟨rfl, _, SqL.of eF8⟩, ?_⟩
      walk_at "go"
      refine ⟨D, kvs, rfl, hD8, ?_⟩
      have lkv : kvs.length ≤ 1000000 := by
        rw [num.len]
        exact Nat.le_trans (cf_le _ _) (by omega)
      have sJ8 := sJ4.trans (s5.trans s48)
      have sH8 := s4.trans (s5.trans s48)
      have nDH := none_of s3 nD
      have nFnH := none_of s3 nFnJ
      refine ⟨kvs, nk (mk T m cl k), t, _, hD8, rfl, rfl, hN, nk_depth _, Nat.lt_of_le_of_lt lkv (by decide), fun v hv => ?_, fun hv => ?_⟩
      · obtain ⟨i, rfl, num2⟩ := num.old hv
        walk_at "go"
        refine ⟨Fn, _, _, rfl, rfl, eF8, by rw [nls_len]; exact szC (by omega), ?_⟩
        rw [nls_snoc]
        exact ⟨Z.Same.mut sH8 nFnH, Z.Same.mut sJ8 nFnJ, ⟨kvs, _, hD8.upd_lst eF8, upd_same, num2⟩, _, _, _, rfl⟩
      · have num2 := num.new hv t
        have hD9 := hD8.put (i := (kvs.length : Int)) hN (nk_depth _)
        have eF9 : (upd J8 D (DNo P w D (kvs ++ [(nk (mk T m cl k), t, (kvs.length : Int))]))) Fn = some (.lst (nls k fn)) := by
          rw [upd_ne (fun e => by have := hD8.at_; rw [← e, eF8] at this; unfold DNo at this; cases this)]
          exact eF8
        have sJ9 : Same J (upd J8 D (DNo P w D (kvs ++ [(nk (mk T m cl k), t, (kvs.length : Int))]))) := Z.Same.mut sJ8 nD
        have sH9 : Same H (upd J8 D (DNo P w D (kvs ++ [(nk (mk T m cl k), t, (kvs.length : Int))]))) := Z.Same.mut sH8 nDH
        generalize upd J8 D (DNo P w D (kvs ++ [(nk (mk T m cl k), t, (kvs.length : Int))])) = J9 at hD9 eF9 sJ9 sH9
        walk_at "go"
        refine ⟨Fn, _, _, rfl, rfl, eF9, by rw [nls_len]; exact szC (by omega), ?_⟩
        rw [nls_snoc]
        exact ⟨Z.Same.mut sH9 nFnH, Z.Same.mut sJ9 nFnJ, ⟨_, _, hD9.upd_lst eF9, upd_same, num2⟩, _, _, _, rfl⟩
    · rintro σ J3 ⟨s4, sJ3, ⟨kvs, fn, hD, eF, num⟩, v7, v8, v10, rfl⟩
      rw [List.length_map, ← hn'] at eF num
      walk_at "go"
      refine ⟨D, kvs, rfl, hD, ?_⟩
      walk_at "go"
      have e1 := num.cf
      have e2 := num.len
      have np : 0 < kvs.length := by rw [e2]; exact cf_pos _ hn0
      have rfn : ∀ s t, s < n → t < n → fn s = fn t → cl s = cl t := fun s t hs ht e => mk_fst ((num.eq hs ht).mp e)
      by_cases c : kvs.length = mn
      · rw [decide_eq_true (show V.int (kvs.length : Int) = V.int (mn : Int) by rw [c])]
        walk_at "go"
        have em : mn = Mc.cf cl n := by
          rcases hm0 with z | z
          · omega
          · exact z
        have back := cf_eq (f := cl) (g := fn) rfn (by rw [e1, ← e2, c, em])
        have key : ∀ s t, s < n → t < n → (fn s = fn t ↔ Leq T (inG gs) s t) := fun s t hs ht => by
          constructor
          · intro e
            refine stable_leq (cl := cl) wf (by rw [lT]; exact fl) (by rw [lT]; exact fun s t hs ht e => (num.eq hs ht).mp (back s t hs ht e)) s t (by rw [lT]; exact hs) (by rw [lT]; exact ht) (rfn s t hs ht e)
          · intro l
            exact back s t hs ht (crs s t (by rw [lT]; exact hs) (by rw [lT]; exact ht) l)
        exact qq Fn fn J3 s4 (none_of s3 nFnJ) eF key
      · rw [decide_eq_false (show ¬ V.int (kvs.length : Int) = V.int (mn : Int) from fun z => by injection z with z; omega)]
        walk_at "go"
        refine ⟨D, kvs, rfl, hD, ?_⟩
        refine ⟨s4, Fn, fn, kvs.length, _, _, _, _, _, eF, fun s t hs ht l => ?_, fun s t hs ht e => fl s t hs ht (rfn s t hs ht e), by rw [e1, e2], by rw [e2]; exact cf_le _ _, ?_, rfl⟩
        · rw [lT] at hs ht
          exact (num.eq hs ht).mpr (crs.next wf lv (by rw [lT]; exact hs) (by rw [lT]; exact ht) l)
        · rcases hm0 with z | z
          · omega
          · have := cf_mono (f := cl) (g := fn) rfn
            rw [e1, ← e2, ← z] at this
            omega
end
end Z
set_option pp.maxSteps 700
set_option Elab.async false
set_option linter.all false
set_option maxRecDepth 100000
set_option maxHeartbeats 4000000
open SX (S S_inj S_len S_cat)
namespace Z
open Mc
open PySem PySem.Spec PyProof.Rows L2
open C8 (pss_cut tCut)
local macro_rules | `(tactic| walk_at "num") => `(tactic| first | rfl | omega | decide | exact Nat.le_of_lt (small1000 (by simp)) | exact ⟨by omega, by omega⟩ | exact ⟨by omega, by omega, by omega⟩ | exact ⟨by decide, by decide, by decide⟩ | exact Or.inl ⟨by omega, by omega⟩ | exact Or.inr ⟨by omega, by omega⟩)
local macro_rules | `(tactic| walk_at "go") => `(tactic| repeat (first | refine ⟨_, rfl, ?_⟩ | refine ⟨_, _, rfl, rfl, ?_⟩ | refine ⟨_, _, rfl, ?_⟩ | (refine ⟨_, _, rfl, rfl, ?_, ?_⟩; focus walk_at "num") | refine Or.inl ⟨_, rfl, ?_⟩ | refine ⟨_, _, _, _, rfl, rfl, (by assumption), (by rfl), ?_⟩ | refine ⟨_, _, _, _, _, rfl, (by assumption), (by assumption), (by assumption), (by rfl), ?_⟩ | refine ⟨rfl, ?_⟩ | (refine And.intro ?_ ?_; focus walk_at "num")))
abbrev s_normal_table : Stmt := topS 13
abbrev N_normal_table : List Str := ["rows", "good", "flags", "classes", "numbers", "met", "result", "line", "entry", "at", "state"]
abbrev P_normal_table : List Str := ["rows", "good"]
theorem sc_normal_table : FnScope N_normal_table P_normal_table (defScope s_normal_table) := ⟨rfl, rfl, rfl, by decide +kernel, rfl, by decide +kernel, by decide +kernel⟩
/-- the numbers of the classes met -/
structure Nmb (kvs : List (L2.Key × V)) (fc : Nat → Nat) (met : List Nat) : Prop where
  len : kvs.length ≤ met.length
  at_ : ∀ (j s : Nat), met[j]? = some s → valV kvs (.inl ((fc s : Nat) : Int)) = some (.int ((j : Nat) : Int))
  no : ∀ c : Nat, (∀ s ∈ met, fc s ≠ c) → valV kvs (.inl (c : Int)) = none
theorem Nmb.put {kvs : List (L2.Key × V)} {fc : Nat → Nat} {met : List Nat} (h : Nmb kvs fc met) {e : Nat} (he : ∀ s ∈ met, fc s ≠ fc e) : Nmb (putK kvs (.inl ((fc e : Nat) : Int)) (.int ((met.length : Nat) : Int))) fc (met ++ [e]) := by
  refine ⟨?_, fun j s hj => ?_, fun c hc => ?_⟩
  · have := length_putK kvs (.inl ((fc e : Nat) : Int)) (.int ((met.length : Nat) : Int))
    rw [List.length_append]
    have := h.len
    show _ ≤ met.length + 1
    omega
  · rw [valV_put]
    by_cases c : j < met.length
    · rw [List.getElem?_append_left c] at hj
      rw [if_neg (fun z => he s (List.mem_of_getElem? hj) (by injection z with z; omega))]
      exact h.at_ j s hj
    · rw [List.getElem?_append_right (by omega)] at hj
      have c2 : j - met.length = 0 := by
        have := (List.getElem?_eq_some_iff.mp hj).1
        simp at this
        omega
      rw [c2] at hj
      cases hj
      rw [if_pos rfl, show j = met.length by omega]
  · rw [valV_put, if_neg (fun z => hc e (List.mem_append_right _ List.mem_cons_self) (by injection z with z; omega))]
    exact h.no c fun s hs => hc s (List.mem_append_left _ hs)
section
variable {P : Program} {w : World} {K : PySem.W.Frag} {mg : Str → Option Value} {base : Heap} {f : Addr} {fd : FuncData}
def spNorm (K : PySem.W.Frag) : Sp := fun vs H Q _ => ∃ (q q2 q3 : Bool) (m : Nat) (a g : Addr) (zs : List (Addr × List (Option Nat))) (gs : List Nat), vs = [.ref a, .ref g] ∧ Tb q q2 K H a zs ∧ Wf (tb zs) m ∧ m ≤ 1000 ∧ zs.length ≤ 1000000 ∧ SqK q3 K H g (gsq gs) ∧ (∀ s ∈ gs, s < zs.length) ∧
  ∀ (t r u : Addr) (zr : List (Addr × List (Option Nat))) (g' : List Nat) H', Same H H' → H' t = some (.tup [.ref r, .ref u]) → Tb false false K H' r zr → H' u = some (.tup (gsq g')) → Nf (tb zs) (inG gs) m (tb zr) g' → Q (.ref t) H'
theorem ok_normal_table (F : FnP K "normal_table" s_normal_table f fd) (m_len : mg "len" = none) (m_tuple : mg "tuple" = none) (m_enumerate : mg "enumerate" = none) (c_flags_of : Cal P w K mg base 1 "flags_of" (spFlags K)) (c_live_rows : Cal P w K mg base 2 "live_rows" (spLive K)) (c_state_classes : Cal P w K mg base 2 "state_classes" (spClasses K)) : FnOk P w K mg base CX0 3 f fd P_normal_table (spNorm K) := by
  refine F.ok sc_normal_table (fun vs H Q E h => ?_) (fun cdv A outer s H vs Q E hr h => ?_)
  · obtain ⟨q, q2, q3, m, a, g, zs, gs, rfl, _⟩ := h
    rfl
  · obtain ⟨q, q2, q3, m, a, g, zs, gs, rfl, hT, wf, hm, hn, hG, hgs, qq⟩ := h
    refine ⟨_, PSs.nox (pss_cons (ps_set (i := 2) sc_normal_table.nd rfl (by first | exact .inl rfl | exact .inr rfl) (pe_cl c_flags_of hr (by decide) (by rfl) (pa_cons (pe_callB call_len_seq (by rfl) m_len PySem.boot_len (pa_cons (pv 0) pa_nil)) (pa_cons (pv 1) pa_nil))))
      (pss_cons (ps_set (i := 0) sc_normal_table.nd rfl (by first | exact .inl rfl | exact .inr rfl) (pe_cl c_live_rows hr (by decide) (by rfl) (pa_cons (pv 0) (pa_cons (pv 1) pa_nil))))
      (pss_cons (ps_if (pt_cmpR op_eq (pe_callB call_len_seq (by rfl) m_len PySem.boot_len (pa_cons (pv 0) pa_nil)) pe_int (nomark _)) (pss_one (ps_ret (pe_tup (pa_cons (pe_tup pa_nil) (pa_cons (pe_tup pa_nil) pa_nil))))) pss_nil)
      (pss_cons (ps_set (i := 3) sc_normal_table.nd rfl (by first | exact .inl rfl | exact .inr rfl) (pe_cl c_state_classes hr (by decide) (by rfl) (pa_cons (pv 0) (pa_cons (pv 1) pa_nil))))
      (pss_cons (ps_set (i := 4) sc_normal_table.nd rfl (by first | exact .inl rfl | exact .inr rfl) (pe_disp (pps_cons (pe_ix ix_list (pv 3) pe_int (fun _ _ => rfl)) pe_int pps_nil) rfl rfl (by simp) (by decide)))
      (pss_cons (ps_set (i := 5) sc_normal_table.nd rfl (by first | exact .inl rfl | exact .inr rfl) (pe_lst (pa_cons pe_int pa_nil)))
      (pss_cons (ps_set (i := 6) sc_normal_table.nd rfl (by first | exact .inl rfl | exact .inr rfl) (pe_lst pa_nil))
      (pss_cut (ps_while PassesOwn.never (pt_cmpR op_lt (pe_callB call_len_seq (by rfl) m_len PySem.boot_len (pa_cons (pv 6) pa_nil)) (pe_callB call_len_seq (by rfl) m_len PySem.boot_len (pa_cons (pv 5) pa_nil)) (nomark _))
        (pss_cons (ps_set (i := 7) sc_normal_table.nd rfl (by first | exact .inl rfl | exact .inr rfl) (pe_lst pa_nil))
      (pss_cut (ps_for PassesOwn.never rfl (pi_list (pe_ix ix_list (pv 0) (pe_ix ix_list (pv 5) (pe_callB call_len_seq (by rfl) m_len PySem.boot_len (pa_cons (pv 6) pa_nil)) (fun _ _ => rfl)) (fun _ _ => rfl))) (pg_name (i := 8) sc_normal_table.nd rfl (by first | exact .inl rfl | exact .inr rfl))
        (pss_cons (ps_if (pt_cmpR op_isN (pv 8) pe_non (nomark _)) (pss_cons (ps_expr (pe_bm PySem.F.plainAttrs_list PySem.F.slot_list_append PySem.F.type_list_append mt_append (pv 7) (pa_cons pe_non pa_nil)))
      (pss_one ps_continue)) pss_nil)
      (pss_cut (ps_if (pt_cmp (pc_dnotin (hu_of hr) (pe_ix ix_list (pv 3) (pv 8) (fun _ _ => rfl)) (pv 4)) (by rfl)) (pss_cons (ps_dput (hu_of hr) (pv 4) (pe_ix ix_list (pv 3) (pv 8) (fun _ _ => rfl)) (pe_callB call_len_seq (by rfl) m_len PySem.boot_len (pa_cons (pv 5) pa_nil)) rfl)
      (pss_one (ps_expr (pe_bm PySem.F.plainAttrs_list PySem.F.slot_list_append PySem.F.type_list_append mt_append (pv 5) (pa_cons (pv 8) pa_nil))))) pss_nil)
      (pss_one (ps_expr (pe_bm PySem.F.plainAttrs_list PySem.F.slot_list_append PySem.F.type_list_append mt_append (pv 7) (pa_cons (pe_dget (hu_of hr) (pv 4) (pe_ix ix_list (pv 3) (pv 8) (fun _ _ => rfl)) (fun _ _ => rfl)) pa_nil)))))))
      (pss_one (ps_expr (pe_bm PySem.F.plainAttrs_list PySem.F.slot_list_append PySem.F.type_list_append mt_append (pv 6) (pa_cons (pe_callTy call_tuple_of (by rfl) m_tuple (by decide +kernel) (pa_cons (pv 7) pa_nil)) pa_nil)))))))
      (pss_one (ps_ret (pe_tup (pa_cons (pe_callTy call_tuple_of (by rfl) m_tuple (by decide +kernel) (pa_cons (pv 6) pa_nil)) (pa_cons (pe_callTy call_tuple_of (by rfl) m_tuple (by decide +kernel) (pa_cons (pe_lc (own := [("at", 9), ("state", 10)]) (g := (gTup K 2 (gCons (gName 9) (gCons (gName 10) gNil)))) (by rfl) sc_normal_table.nd (pi_enumM (by rfl) m_enumerate (pa_cons (pv 5) pa_nil)) (blkOk_by (own := [("at", 9), ("state", 10)]) (N := N_normal_table) (sc := defScope s_normal_table) (by decide +kernel)) (fun _ _ _ _ _ => (pg_tup rfl (pgs_cons (pg_name (i := 9) sc_normal_table.nd rfl (by first | exact .inl rfl | exact .inr rfl)) (pgs_cons (pg_name (i := 10) sc_normal_table.nd rfl (by first | exact .inl rfl | exact .inr rfl)) pgs_nil)))) (fun _ _ _ _ _ => (pts_one (pt_val (pe_ix (ix_list_K (K := K) rfl) (pv 2) (pv 10) (fun _ _ => rfl))))) (fun _ _ _ _ _ => (pv 9))) pa_nil)) pa_nil))))))))))))), ?_⟩
    walk_at "go"
    refine ⟨a, _, rfl, sqk_or hT.sq, ?_⟩
    rw [List.length_map]
    walk_at "go"
    refine ⟨q3, zs.length, g, gs, rfl, hG, hgs, by omega, fun L0 H1 s1 nL0 eL0 => ?_⟩
    walk_at "go"
    refine ⟨q, q2, q3, m, a, g, zs, gs, rfl, hT.mono s1, wf, hm, hn, Z.Same.sqK s1 hG, hgs, fun L zk H2 s2 nL hK hk => ?_⟩
    walk_at "go"
    refine ⟨L, _, rfl, sqk_or hK.sq, ?_⟩
    rw [List.length_map]
    walk_at "go"
    have nLH := none_of s1 nL
    rcases hk with ⟨rfl, h0⟩ | ⟨n0, l0, kpt⟩
    · rw [decide_eq_true (show V.int (([] : List (Addr × List (Option Nat))).length : Int) = V.int 0 from rfl)]
      walk_at "go"
      intro r nr
      generalize eH_ : upd H2 r _ = H3
      have s3 : Same H2 H3 := by rw [← eH_]; exact same_new nr
      have er : H3 r = some (.tup []) := by rw [← eH_]; exact upd_same
      clear eH_
      walk_at "go"
      intro u nu
      generalize eH_ : upd H3 u _ = H4
      have s4 : Same H3 H4 := by rw [← eH_]; exact same_new nu
      have eu : H4 u = some (.tup []) := by rw [← eH_]; exact upd_same
      clear eH_
      walk_at "go"
      intro t nt
      generalize eH_ : upd H4 t _ = H5
      have s5 : Same H4 H5 := by rw [← eH_]; exact same_new nt
      have et : H5 t = some (.tup [.ref r, .ref u]) := by rw [← eH_]; exact upd_same
      clear eH_
      exact qq t r u [] [] H5 (s1.trans (s2.trans (s3.trans (s4.trans s5)))) et ⟨SqT.of ((s4.trans s5) _ _ er), fun z m => absurd m (by simp)⟩ (s5 _ _ eu) (.inl ⟨rfl, rfl, h0.imp (fun e => by rw [e]; rfl) id⟩)
    have lK : zk.length = zs.length := by
      have := kpt.len
      unfold tb at this
      rwa [List.length_map, List.length_map] at this
    rw [decide_eq_false (show ¬ V.int (zk.length : Int) = V.int 0 from fun z => by injection z with z; omega)]
    walk_at "go"
    have s12 := s1.trans s2
    have hG2 := Z.Same.sqK s12 hG
    refine ⟨true, true, q3, m, L, g, zk, gs, rfl, hK, kpt.wf, hm, by omega, by omega, hG2, by rw [lK]; exact hgs, ?_⟩
    obtain ⟨T, hT'⟩ : ∃ T, T = tb zk := ⟨_, rfl⟩
    have lT : T.length = zs.length := by rw [hT', kpt.len]; exact List.length_map ..
    rw [← hT'] at kpt ⊢
    refine ⟨kpt.lv, fun L3 fc H3 s3 nL3 eFc hfc => ?_⟩
    rw [lK] at hfc eFc
    obtain ⟨n, hn'⟩ : ∃ n, n = zs.length := ⟨_, rfl⟩
    rw [← hn'] at hfc eFc hn n0 lT lK hgs eL0
    have eL03 := (s2.trans s3) _ _ eL0
    have hK3 := hK.mono s3
    have sH3 := s12.trans s3
    have l0' := (kpt.liv 0).mpr l0
    intro Nu nNu
    have sN := same_new (o := .dK []) nNu
    walk_at "go"
    refine ⟨L3, _, _, _, rfl, rfl, SqL.of (sN _ _ eFc), nls_at (i := 0) n0, ?_⟩
    walk_at "go"
    refine ⟨upd_same, [(.inl ((fc 0 : Nat) : Int), .int 0)], rfl, (by show 1 ≤ 15; decide), ?_⟩
    have s35 : Same H3 (upd (upd H3 Nu (.dK [])) Nu (.dK (mergeK [] [(.inl ((fc 0 : Nat) : Int), .int 0)]))) := Z.Same.mut sN nNu
    have eNu : (upd (upd H3 Nu (.dK [])) Nu (.dK (mergeK [] [(.inl ((fc 0 : Nat) : Int), .int 0)]))) Nu = some (.dK [(.inl ((fc 0 : Nat) : Int), .int 0)]) := upd_same
    have nm0 : Nmb [(.inl ((fc 0 : Nat) : Int), .int 0)] fc [0] := by
      refine ⟨Nat.le_refl _, fun j s hj => ?_, fun c hc => ?_⟩
      · have h1 := (List.getElem?_eq_some_iff.mp hj).1
        have h1 : j < 1 := h1
        have : j = 0 := by omega
        subst this
        cases hj
        exact valV_pos rfl
      · rw [valV_neg (fun z => hc 0 List.mem_cons_self (by injection z with z; omega))]
        rfl
    generalize upd (upd H3 Nu (.dK [])) Nu (.dK (mergeK [] [(.inl ((fc 0 : Nat) : Int), .int 0)])) = H5 at s35 eNu
    clear sN
    walk_at "go"
    intro Me nMe
    have s6 := same_new (o := .lst [.int 0]) nMe
    have eMe : (upd H5 Me (.lst [.int 0])) Me = some (.lst (gsq [0])) := upd_same
    generalize upd H5 Me (.lst [.int 0]) = H6 at s6 eMe
    walk_at "go"
    intro Re nRe
    have s7 := same_new (o := .lst []) nRe
    have eRe : (upd H6 Re (.lst [])) Re = some (.lst (([] : List (Addr × List (Option Nat))).map fun z => V.ref z.1)) := upd_same
    have eNu7 := (s6.trans s7) _ _ eNu
    have eMe7 := s7 _ _ eMe
    generalize upd H6 Re (.lst []) = H7 at s7 eRe eNu7 eMe7
    have s37 := s35.trans (s6.trans s7)
    have nMe3 := none_of s35 nMe
    have nRe3 := none_of (s35.trans s6) nRe
    have MR : Me ≠ Re := fun e => by rw [e, nRe] at eMe; cases eMe
    clear s6 s7 eNu eMe s35 nMe nRe
    rw [show L2.start N_normal_table [V.ref a, V.ref g] = [some (.ref a), some (.ref g), none, none, none, none, none, none, none, none, none] from rfl]
    dsimp only [List.set]
    have bf0 : Bf T (inG gs) m [0] [] [] := Bf.start (by rw [lT]; exact n0) l0'
    refine ⟨fun σ' J => Same H3 J ∧ ∃ (met : List Nat) (zr : List (Addr × List (Option Nat))) (v7 v8 : Option V), J Me = some (.lst (gsq met)) ∧ J Re = some (.lst (zr.map fun z => V.ref z.1)) ∧ (∀ z ∈ zr, J z.1 = some (.tup (z.2.map eV))) ∧ Bf T (inG gs) m met (tb zr) [] ∧ zr.length = met.length ∧ σ' = [some (.ref L), some (.ref g), some (.ref L0), some (.ref L3), some (.ref Nu), some (.ref Me), some (.ref Re), v7, v8, none, none], ?_, ?_⟩
    · refine ⟨fun μ σ J => Same H3 J ∧ ∃ (met : List Nat) (zr : List (Addr × List (Option Nat))) (kvs : List (L2.Key × V)) (v7 v8 : Option V), J Me = some (.lst (gsq met)) ∧ J Re = some (.lst (zr.map fun z => V.ref z.1)) ∧ J Nu = some (.dK kvs) ∧ Nmb kvs fc met ∧ (∀ z ∈ zr, J z.1 = some (.tup (z.2.map eV))) ∧ Bf T (inG gs) m met (tb zr) [] ∧ μ = n - zr.length ∧ σ = [some (.ref L), some (.ref g), some (.ref L0), some (.ref L3), some (.ref Nu), some (.ref Me), some (.ref Re), v7, v8, none, none], ⟨_, s37, [0], [], _, none, none, eMe7, eRe, eNu7, nm0, fun z m => absurd m (by simp), bf0, rfl, rfl⟩, ?_⟩
      rintro μ σ J ⟨s4, met, zr, kvs, v7, v8, eM, eR, eN, nm, hz, bf, rfl, rfl⟩
      have lzr : (tb zr).length = zr.length := List.length_map ..
      have bfl := bf.le
      have bfn := bf.nodup
      rw [lzr] at bfl
      rw [lT] at bfn
      walk_at "go"
      refine ⟨Re, _, rfl, .inl (SqL.of eR), ?_⟩
      rw [List.length_map]
      walk_at "go"
      refine ⟨Me, _, rfl, .inl (SqL.of eM), ?_⟩
      rw [show (gsq met).length = met.length from List.length_map ..]
      walk_at "go"
      refine ite2 (fun e => ?_) (fun e => ?_)
      · have lt : zr.length < met.length := by have := of_decide_eq_true e; omega
        refine ⟨fun σ' J' => Same H3 J' ∧ ∃ (met : List Nat) (zr' : List (Addr × List (Option Nat))) (kvs : List (L2.Key × V)) (v7 v8 : Option V), J' Me = some (.lst (gsq met)) ∧ J' Re = some (.lst (zr'.map fun z => V.ref z.1)) ∧ J' Nu = some (.dK kvs) ∧ Nmb kvs fc met ∧ (∀ z ∈ zr', J' z.1 = some (.tup (z.2.map eV))) ∧ Bf T (inG gs) m met (tb zr') [] ∧ zr'.length = zr.length + 1 ∧ σ' = [some (.ref L), some (.ref g), some (.ref L0), some (.ref L3), some (.ref Nu), some (.ref Me), some (.ref Re), v7, v8, none, none], ?_, ?_⟩
        · rintro σ' J' ⟨s5, met', zr', kvs', v7, v8, e1, e2, e3, e4, e5, e6, e7, rfl⟩
          exact ⟨_, by omega, s5, met', zr', kvs', v7, v8, e1, e2, e3, e4, e5, e6, rfl, rfl⟩
        obtain ⟨s0, hs0⟩ : ∃ s0, met[zr.length]? = some s0 := ⟨_, List.getElem?_eq_getElem lt⟩
        have s0n := (bf.live s0 (List.mem_of_getElem? hs0)).1
        rw [lT] at s0n
        obtain ⟨z0, hz0⟩ : ∃ z0, zk[s0]? = some z0 := ⟨_, List.getElem?_eq_getElem (by omega)⟩
        have mz0 : z0.2 ∈ T := by rw [hT']; exact List.mem_map.mpr ⟨z0, List.mem_of_getElem? hz0, rfl⟩
        have lz0 := kpt.wf.row _ mz0
        have rx : ∀ i, i < m → z0.2.getD i none = nx T s0 i := fun i hi => by rw [hT']; exact row_nx hz0 (by omega)
        walk_at "go"
        intro Li nLi
        have s5 := same_new (o := .lst []) nLi
        have eLi : (upd J Li (.lst [])) Li = some (.lst (([] : List (Option Nat)).map eV)) := upd_same
        have LM : Li ≠ Me := ne_of_none' (s4 := eM) nLi
        have LR : Li ≠ Re := ne_of_none' (s4 := eR) nLi
        have LN : Li ≠ Nu := ne_of_none' (s4 := eN) nLi
        have MN : Me ≠ Nu := fun e => by rw [e, eN] at eM; cases eM
        have RN : Re ≠ Nu := fun e => by rw [e, eN] at eR; cases eR
        have nLi3 := none_of s4 nLi
        have hLz : ∀ z ∈ zr, z.1 ≠ Li := fun z hm e => by have := hz z hm; rw [e, nLi] at this; cases this
        have hMz : ∀ z ∈ zr, z.1 ≠ Me := fun z hm e => by have := hz z hm; rw [e, eM] at this; cases this
        have hRz : ∀ z ∈ zr, z.1 ≠ Re := fun z hm e => by have := hz z hm; rw [e, eR] at this; cases this
        have hNz : ∀ z ∈ zr, z.1 ≠ Nu := fun z hm e => by have := hz z hm; rw [e, eN] at this; cases this
        refine ⟨fun σ' J' => Same H3 J' ∧ ∃ (met : List Nat) (kvs : List (L2.Key × V)) (Ln : List (Option Nat)) (v8 : Option V), J' Me = some (.lst (gsq met)) ∧ J' Re = some (.lst (zr.map fun z => V.ref z.1)) ∧ J' Nu = some (.dK kvs) ∧ Nmb kvs fc met ∧ (∀ z ∈ zr, J' z.1 = some (.tup (z.2.map eV))) ∧ J' Li = some (.lst (Ln.map eV)) ∧ Ln.length = m ∧ Bf T (inG gs) m met (tb zr) Ln ∧ zr.length < met.length ∧ σ' = [some (.ref L), some (.ref g), some (.ref L0), some (.ref L3), some (.ref Nu), some (.ref Me), some (.ref Re), some (.ref Li), v8, none, none], ?_, ?_⟩
        · walk_at "go"
          refine ⟨Re, _, rfl, .inl (SqL.of (s5 _ _ eR)), ?_⟩
          rw [List.length_map]
          walk_at "go"
          refine ⟨Me, _, _, _, rfl, rfl, SqL.of (s5 _ _ eM), atI_nat (v := .int ((s0 : Nat) : Int)) (by unfold gsq; rw [List.getElem?_map, hs0]; rfl), ?_⟩
          walk_at "go"
          have hK5 := hK3.mono (s4.trans s5)
          refine ⟨L, _, _, _, rfl, rfl, hK5.sq, atI_nat (v := .ref z0.1) (by rw [List.getElem?_map, hz0]; rfl), ?_⟩
          walk_at "go"
          refine ⟨⟨_, hK5.at_ z0 (List.mem_of_getElem? hz0)⟩, ?_⟩
          refine for_gen (n := m) (fun k σ J => Same H3 J ∧ ∃ (met : List Nat) (kvs : List (L2.Key × V)) (Ln : List (Option Nat)) (v8 : Option V), J Me = some (.lst (gsq met)) ∧ J Re = some (.lst (zr.map fun z => V.ref z.1)) ∧ J Nu = some (.dK kvs) ∧ Nmb kvs fc met ∧ (∀ z ∈ zr, J z.1 = some (.tup (z.2.map eV))) ∧ J Li = some (.lst (Ln.map eV)) ∧ Ln.length = k ∧ Bf T (inG gs) m met (tb zr) Ln ∧ met[zr.length]? = some s0 ∧ σ = [some (.ref L), some (.ref g), some (.ref L0), some (.ref L3), some (.ref Nu), some (.ref Me), some (.ref Re), some (.ref Li), v8, none, none]) ⟨s4.trans s5, met, kvs, [], v8, s5 _ _ eM, s5 _ _ eR, s5 _ _ eN, nm, fun z hm => s5 _ _ (hz z hm), eLi, rfl, bf, hs0, rfl⟩ ?_ ?_ ?_ ?_
          · rintro k σ J hk ⟨s6, _⟩
            exact ⟨_, eV (z0.2.getD k none), (hK3.mono s6).at_ z0 (List.mem_of_getElem? hz0), row_at (by omega)⟩
          · rintro σ J ⟨s6, _⟩
            exact ⟨_, (hK3.mono s6).at_ z0 (List.mem_of_getElem? hz0), by rw [List.length_map]; omega⟩
          · rintro k σ J6 x J7 hk ⟨s6, met, kvs, Ln, v8, eM, eR, eN, nm, hz, eLi, lL, bf, hs0, rfl⟩ ⟨rfl, e⟩
            have hx := e _ ((hK3.mono s6).at_ z0 (List.mem_of_getElem? hz0))
            rw [row_at (by omega), rx k hk] at hx
            cases hx
            have hs0' : met[(tb zr).length]? = some s0 := by rw [show (tb zr).length = zr.length from List.length_map ..]; exact hs0
            have bfn := bf.nodup
            rw [lT] at bfn
            cases eo : nx T s0 k with
            | none =>
              walk_at "go"
              refine ⟨.inl ⟨rfl, _, SqL.of eLi⟩, ?_⟩
              walk_at "go"
              refine ⟨Li, _, _, rfl, rfl, eLi, by rw [List.length_map]; exact szC (by omega), ?_⟩
              have bf2 := bf.put (more := []) (o := none) hs0' (by omega) (.inl rfl) (.inl ⟨rfl, by rw [lL]; exact eo⟩)
              rw [List.append_nil] at bf2
              exact ⟨Z.Same.mut s6 nLi3, met, kvs, Ln ++ [none], _, by rw [upd_ne LM.symm]; exact eM, by rw [upd_ne LR.symm]; exact eR, by rw [upd_ne LN.symm]; exact eN, nm, fun z hm => by rw [upd_ne (hLz z hm)]; exact hz z hm, by rw [upd_same, List.map_append]; rfl, by rw [List.length_append, lL]; rfl, bf2, hs0, rfl⟩
            | some e =>
              dsimp only [eV]
              have he := (nx_lt kpt.wf eo).1
              rw [lT] at he
              have lvE := kpt.lv _ _ _ eo
              walk_at "go"
              refine ite2 (fun h => absurd (of_decide_eq_true h) (fun z => by cases z)) (fun _ => ?_)
              refine ⟨fun σ' J' => Same H3 J' ∧ ∃ (more : List Nat) (kvs2 : List (L2.Key × V)) (j t : Nat), J' Me = some (.lst (gsq (met ++ more))) ∧ J' Re = some (.lst (zr.map fun z => V.ref z.1)) ∧ J' Nu = some (.dK kvs2) ∧ Nmb kvs2 fc (met ++ more) ∧ (∀ z ∈ zr, J' z.1 = some (.tup (z.2.map eV))) ∧ J' Li = some (.lst (Ln.map eV)) ∧ (met ++ more)[j]? = some t ∧ t < n ∧ fc t = fc e ∧ (more = [] ∨ ∃ e', more = [e'] ∧ some j = some met.length ∧ e' < T.length ∧ Liv T (inG gs) e' ∧ ∀ t ∈ met, ¬ Leq T (inG gs) e' t) ∧ σ' = [some (.ref L), some (.ref g), some (.ref L0), some (.ref L3), some (.ref Nu), some (.ref Me), some (.ref Re), some (.ref Li), some (.int (e : Int)), none, none], ?_, ?_⟩
              · walk_at "go"
                refine ⟨L3, _, _, _, rfl, rfl, SqL.of (s6 _ _ eFc), nls_at he, ?_⟩
                walk_at "go"
                refine ⟨Nu, _, rfl, DGet.k (k := .inl ((fc e : Nat) : Int)) eN, ?_⟩
                by_cases hx : ∃ j t : Nat, met[j]? = some t ∧ fc t = fc e
                · obtain ⟨j, t, hj, ht⟩ := hx
                  have hv := nm.at_ j t hj
                  rw [ht] at hv
                  rw [hv]
                  walk_at "go"
                  have tn := (bf.live t (List.mem_of_getElem? hj)).1
                  rw [lT] at tn
                  exact ⟨[], kvs, j, t, by rw [List.append_nil]; exact eM, eR, eN, by rw [List.append_nil]; exact nm, hz, eLi, by rw [List.append_nil]; exact hj, tn, ht, .inl rfl, rfl⟩
                · have ne : ∀ t ∈ met, fc t ≠ fc e := fun t ht q => by
                    obtain ⟨j, hj, rfl⟩ := List.getElem_of_mem ht
                    exact hx ⟨j, _, List.getElem?_eq_getElem hj, q⟩
                  rw [nm.no (fc e) ne]
                  walk_at "go"
                  refine ⟨Me, _, rfl, .inl (SqL.of eM), ?_⟩
                  rw [show (gsq met).length = met.length from List.length_map ..]
                  walk_at "go"
                  refine ⟨L3, _, _, _, rfl, rfl, SqL.of (s6 _ _ eFc), nls_at he, ?_⟩
                  walk_at "go"
                  have nml := nm.len
                  refine ⟨Nu, _, rfl, DPut.k (k := .inl ((fc e : Nat) : Int)) eN (szC (by omega)), ?_⟩
                  have s7 : Same H3 (upd J7 Nu (.dK (putK kvs (.inl ((fc e : Nat) : Int)) (.int ((met.length : Nat) : Int))))) := Z.Same.mut s6 nNu
                  have eM7 : (upd J7 Nu (.dK (putK kvs (.inl ((fc e : Nat) : Int)) (.int ((met.length : Nat) : Int))))) Me = some (.lst (gsq met)) := by rw [upd_ne MN]; exact eM
                  have eR7 : (upd J7 Nu (.dK (putK kvs (.inl ((fc e : Nat) : Int)) (.int ((met.length : Nat) : Int))))) Re = some (.lst (zr.map fun z => V.ref z.1)) := by rw [upd_ne RN]; exact eR
                  have eN7 : (upd J7 Nu (.dK (putK kvs (.inl ((fc e : Nat) : Int)) (.int ((met.length : Nat) : Int))))) Nu = some (.dK (putK kvs (.inl ((fc e : Nat) : Int)) (.int ((met.length : Nat) : Int)))) := upd_same
                  have eL7 : (upd J7 Nu (.dK (putK kvs (.inl ((fc e : Nat) : Int)) (.int ((met.length : Nat) : Int))))) Li = some (.lst (Ln.map eV)) := by rw [upd_ne LN]; exact eLi
                  have hz7 : ∀ z ∈ zr, (upd J7 Nu (.dK (putK kvs (.inl ((fc e : Nat) : Int)) (.int ((met.length : Nat) : Int))))) z.1 = some (.tup (z.2.map eV)) := fun z hm => by rw [upd_ne (hNz z hm)]; exact hz z hm
                  generalize upd J7 Nu (.dK (putK kvs (.inl ((fc e : Nat) : Int)) (.int ((met.length : Nat) : Int)))) = J9 at s7 eM7 eR7 eN7 eL7 hz7
                  walk_at "go"
                  refine ⟨.inl ⟨rfl, _, SqL.of eM7⟩, ?_⟩
                  walk_at "go"
                  refine ⟨Me, _, _, rfl, rfl, eM7, by rw [show (gsq met).length = met.length from List.length_map ..]; exact szC (by omega), ?_⟩
                  refine ⟨Z.Same.mut s7 nMe3, [e], _, met.length, e, by rw [upd_same]; unfold gsq; rw [List.map_append]; rfl, by rw [upd_ne MR.symm]; exact eR7, by rw [upd_ne MN.symm]; exact eN7, nm.put ne, fun z hm => by rw [upd_ne (hMz z hm)]; exact hz7 z hm, by rw [upd_ne LM]; exact eL7, by rw [List.getElem?_append_right (Nat.le_refl _), Nat.sub_self]; rfl, he, rfl, .inr ⟨e, rfl, rfl, by rw [lT]; exact he, lvE, fun t ht l => ?_⟩, rfl⟩
                  have tn := (bf.live t ht).1
                  rw [lT] at tn
                  exact ne t ht ((hfc e t he tn).mpr l).symm
              rintro σ' J7 ⟨s7, more, kvs2, j, t, eM7, eR7, eN7, nm7, hz7, eL7, hj, tn, ht, hmo, rfl⟩
              walk_at "go"
              refine ⟨.inl ⟨rfl, _, SqL.of eL7⟩, ?_⟩
              walk_at "go"
              refine ⟨L3, _, _, _, rfl, rfl, SqL.of (s7 _ _ eFc), nls_at he, ?_⟩
              walk_at "go"
              have hv := nm7.at_ j t hj
              rw [ht] at hv
              refine ⟨Nu, _, rfl, (by have := DGet.k (k := .inl ((fc e : Nat) : Int)) eN7; rw [hv] at this; exact this), ?_⟩
              walk_at "go"
              refine ⟨Li, _, _, rfl, rfl, eL7, by rw [List.length_map]; exact szC (by omega), ?_⟩
              have bf2 := bf.put (more := more) (o := some j) hs0' (by omega) hmo (.inr ⟨j, e, t, rfl, by rw [lL]; exact eo, hj, (hfc e t he tn).mp ht.symm⟩)
              exact ⟨Z.Same.mut s7 nLi3, met ++ more, kvs2, Ln ++ [some j], _, by rw [upd_ne LM.symm]; exact eM7, by rw [upd_ne LR.symm]; exact eR7, by rw [upd_ne LN.symm]; exact eN7, nm7, fun z hm => by rw [upd_ne (hLz z hm)]; exact hz7 z hm, by rw [upd_same, List.map_append]; rfl, by rw [List.length_append, lL]; rfl, bf2, by rw [List.getElem?_append_left (List.getElem?_eq_some_iff.mp hs0).1]; exact hs0, rfl⟩
          · rintro σ J ⟨s6, met, kvs, Ln, v8, eM, eR, eN, nm, hz, eLi, lL, bf, hs0, rfl⟩
            exact ⟨s6, met, kvs, Ln, v8, eM, eR, eN, nm, hz, eLi, lL, bf, (List.getElem?_eq_some_iff.mp hs0).1, rfl⟩
        rintro σ' J6 ⟨s6, met, kvs, Ln, v8, eM, eR, eN, nm, hz, eLi, lL, bf, lt, rfl⟩
        walk_at "go"
        refine ⟨.inl ⟨rfl, _, SqL.of eR⟩, ?_⟩
        walk_at "go"
        refine ⟨Li, _, rfl, .inl ⟨SqL.of eLi, fun t nt => ?_⟩⟩
        have st_ := same_new (o := .tup (Ln.map eV)) nt
        have et : (upd J6 t (.tup (Ln.map eV))) t = some (.tup (Ln.map eV)) := upd_same
        have tR : t ≠ Re := ne_of_none' (s4 := eR) nt
        generalize upd J6 t (.tup (Ln.map eV)) = J7 at st_ et
        walk_at "go"
        refine ⟨Re, _, _, rfl, rfl, st_ _ _ eR, by rw [List.length_map]; exact szC (by omega), ?_⟩
        have bf2 := bf.close (by rw [show (tb zr).length = zr.length from List.length_map ..]; exact lt) lL
        refine ⟨Z.Same.mut (s6.trans st_) nRe3, met, zr ++ [(t, Ln)], kvs, _, _, by rw [upd_ne MR]; exact st_ _ _ eM, by rw [upd_same, List.map_append]; rfl, by rw [upd_ne RN.symm]; exact st_ _ _ eN, nm, fun z hm => ?_, by unfold tb at bf2 ⊢; rw [List.map_append]; exact bf2, by rw [List.length_append]; rfl, rfl⟩
        rcases List.mem_append.mp hm with hm | hm
        · rw [upd_ne (hRz z hm)]
          exact st_ _ _ (hz z hm)
        · rw [List.mem_singleton.mp hm, upd_ne tR]
          exact et
      · have lt : ¬ zr.length < met.length := fun z => e (decide_eq_true (by omega))
        exact ⟨s4, met, zr, _, _, eM, eR, hz, bf, by omega, rfl⟩
    rintro σ' J ⟨s4, met, zr, v7, v8, eM, eR, hz, bf, lz, rfl⟩
    have bfn := bf.nodup
    rw [lT] at bfn
    walk_at "go"
    refine ⟨Re, _, rfl, .inl ⟨SqL.of eR, fun r nr => ?_⟩⟩
    have sr := same_new (o := .tup (zr.map fun z => V.ref z.1)) nr
    have er : (upd J r (.tup (zr.map fun z => V.ref z.1))) r = some (.tup (zr.map fun z => V.ref z.1)) := upd_same
    generalize upd J r (.tup (zr.map fun z => V.ref z.1)) = J1 at sr er
    have eM1 := sr _ _ eM
    have eL01 := (s4.trans sr) _ _ eL03
    walk_at "go"
    refine ⟨true, _, _, rfl, SqL.of eM1, ?_⟩
    intro D nD
    refine lc_gen (n := met.length) (fun k J => Same J1 J ∧ J D = some (.lst (gsq ((List.range k).filter fun i => decide (met.getD i 0 ∈ gs))))) ⟨same_new nD, upd_same⟩ ?_ ?_ ?_ ?_
    · rintro k J hk ⟨s5, _⟩
      exact ⟨gsq met, .int ((met[k] : Nat) : Int), SqL.of (s5 _ _ eM1), by unfold gsq; rw [List.getElem?_map, List.getElem?_eq_getElem hk]; rfl⟩
    · rintro J ⟨s5, _⟩
      exact ⟨gsq met, SqL.of (s5 _ _ eM1), List.length_map ..⟩
    · rintro k J x J' hk ⟨s5, eD⟩ ⟨Tt, z, rfl, nT, rfl, e⟩
      have hx := e _ (SqL.of (s5 _ _ eM1))
      unfold gsq at hx
      rw [List.getElem?_map, List.getElem?_eq_getElem hk] at hx
      cases hx
      have ln : met[k] < n := by have := (bf.live _ (List.getElem_mem hk)).1; omega
      have sT := same_new (o := .tup [.int ((k : Nat) : Int), .int ((met[k] : Nat) : Int)]) nT
      have eg : met.getD k 0 = met[k] := by rw [List.getD_eq_getElem?_getD, List.getElem?_eq_getElem hk]; rfl
      refine ⟨Tt, _, rfl, SqT.of upd_same, rfl, _, _, rfl, _, _, rfl, rfl, ?_⟩
      walk_at "go"
      refine ⟨L0, _, _, _, rfl, rfl, SqL.of ((s5.trans sT) _ _ eL01), atI_nat (v := .bl (decide (met[k] ∈ gs))) (by rw [List.getElem?_map, List.getElem?_range ln]; rfl), ?_⟩
      have fs : (List.range (k + 1)).filter (fun i => decide (met.getD i 0 ∈ gs)) = (List.range k).filter (fun i => decide (met.getD i 0 ∈ gs)) ++ if met[k] ∈ gs then [k] else [] := by
        rw [List.range_succ, List.filter_append]
        congr 1
        by_cases c : met[k] ∈ gs
        · rw [if_pos c]
          simp only [List.filter_cons, List.filter_nil, eg, c, decide_true, if_true]
        · rw [if_neg c]
          simp only [List.filter_cons, List.filter_nil, eg, c, decide_false, if_false, Bool.false_eq_true]
      have lD : (gsq ((List.range k).filter fun i => decide (met.getD i 0 ∈ gs))).length ≤ 1000000 := by
        have h1 := List.length_filter_le (fun i => decide (met.getD i 0 ∈ gs)) (List.range k)
        rw [List.length_range] at h1
        rw [show (gsq ((List.range k).filter fun i => decide (met.getD i 0 ∈ gs))).length = _ from List.length_map ..]
        omega
      by_cases c : met[k] ∈ gs
      · rw [decide_eq_true c]
        walk_at "go"
        refine ⟨_, sT _ _ eD, szC (by omega), Z.Same.mut (s5.trans sT) nD, ?_⟩
        rw [upd_same, fs, if_pos c]
        unfold gsq
        rw [List.map_append]
        rfl
      · rw [decide_eq_false c]
        walk_at "go"
        refine ⟨s5.trans sT, ?_⟩
        rw [fs, if_neg c, List.append_nil]
        exact sT _ _ eD
    rintro J ⟨s5, eD⟩
    walk_at "go"
    refine ⟨D, _, rfl, .inl ⟨SqL.of eD, fun u nu => ?_⟩⟩
    have su := same_new (o := .tup (gsq ((List.range met.length).filter fun i => decide (met.getD i 0 ∈ gs)))) nu
    have eu : (upd J u (.tup (gsq ((List.range met.length).filter fun i => decide (met.getD i 0 ∈ gs))))) u = some (.tup (gsq ((List.range met.length).filter fun i => decide (met.getD i 0 ∈ gs)))) := upd_same
    generalize upd J u (.tup (gsq ((List.range met.length).filter fun i => decide (met.getD i 0 ∈ gs)))) = J8 at su eu
    walk_at "go"
    intro t nt
    have st_ := same_new (o := .tup [.ref r, .ref u]) nt
    have s18 := s5.trans (su.trans st_)
    have nf : NfOf T (inG gs) m (tb zr) ((List.range met.length).filter fun i => decide (met.getD i 0 ∈ gs)) met := bf.nf kpt.wf (by rw [show (tb zr).length = zr.length from List.length_map ..]; exact lz) (fun i => by
      rw [List.mem_filter, List.mem_range, decide_eq_true_iff]
      constructor
      · rintro ⟨hi, hg⟩
        refine ⟨met[i], List.getElem?_eq_getElem hi, ?_⟩
        rw [List.getD_eq_getElem?_getD, List.getElem?_eq_getElem hi] at hg
        exact hg
      · rintro ⟨s, hs, hg⟩
        refine ⟨(List.getElem?_eq_some_iff.mp hs).1, ?_⟩
        rw [List.getD_eq_getElem?_getD, hs]
        exact hg) (List.Pairwise.filter _ List.pairwise_lt_range)
    exact qq t r u zr _ _ (sH3.trans (s4.trans (sr.trans s18))) upd_same ⟨SqT.of (s18 _ _ er), fun z hm => SqT.of ((sr.trans s18) _ _ (hz z hm))⟩ (st_ _ _ eu) (.inr ⟨met, kpt.nf nf⟩)
end
end Z
set_option pp.maxSteps 700
set_option Elab.async false
set_option linter.all false
set_option maxRecDepth 100000
set_option maxHeartbeats 4000000
open SX (S S_inj S_len S_cat)
namespace Z
open Mc
open PySem PySem.Spec PyProof.Rows L2
open C8 (pss_cut tCut)
local macro_rules | `(tactic| walk_at "num") => `(tactic| first | rfl | omega | decide | exact Nat.le_of_lt (small1000 (by simp)) | exact ⟨by omega, by omega⟩ | exact ⟨by omega, by omega, by omega⟩ | exact ⟨by decide, by decide, by decide⟩ | exact Or.inl ⟨by omega, by omega⟩ | exact Or.inr ⟨by omega, by omega⟩)
local macro_rules | `(tactic| walk_at "go") => `(tactic| repeat (first | refine ⟨_, rfl, ?_⟩ | refine ⟨_, _, rfl, rfl, ?_⟩ | refine ⟨_, _, rfl, ?_⟩ | (refine ⟨_, _, rfl, rfl, ?_, ?_⟩; focus walk_at "num") | refine Or.inl ⟨_, rfl, ?_⟩ | refine ⟨_, _, _, _, rfl, rfl, (by assumption), (by rfl), ?_⟩ | refine ⟨_, _, _, _, _, rfl, (by assumption), (by assumption), (by assumption), (by rfl), ?_⟩ | refine ⟨rfl, ?_⟩ | (refine And.intro ?_ ?_; focus walk_at "num")))
abbrev s_Machine___init__ : Stmt := inClass (topS 24) 0
abbrev N_Machine___init__ : List Str := ["self", "letters", "rows", "good", "ends", "state"]
abbrev P_Machine___init__ : List Str := ["self", "letters", "rows", "good"]
theorem sc_Machine___init__ : FnScope N_Machine___init__ P_Machine___init__ (defScope s_Machine___init__) := ⟨rfl, rfl, rfl, by decide +kernel, rfl, by decide +kernel, by decide +kernel⟩
abbrev s_Machine_after : Stmt := inClass (topS 24) 9
abbrev N_Machine_after : List Str := ["self", "text", "state", "letter"]
abbrev P_Machine_after : List Str := ["self", "text"]
theorem sc_Machine_after : FnScope N_Machine_after P_Machine_after (defScope s_Machine_after) := ⟨rfl, rfl, rfl, by decide +kernel, rfl, by decide +kernel, by decide +kernel⟩
abbrev s_Machine___contains__ : Stmt := inClass (topS 24) 7
abbrev N_Machine___contains__ : List Str := ["self", "text", "state"]
abbrev P_Machine___contains__ : List Str := ["self", "text"]
theorem sc_Machine___contains__ : FnScope N_Machine___contains__ P_Machine___contains__ (defScope s_Machine___contains__) := ⟨rfl, rfl, rfl, by decide +kernel, rfl, by decide +kernel, by decide +kernel⟩
abbrev s_Machine___eq__ : Stmt := inClass (topS 24) 8
abbrev N_Machine___eq__ : List Str := ["self", "other"]
abbrev P_Machine___eq__ : List Str := ["self", "other"]
theorem sc_Machine___eq__ : FnScope N_Machine___eq__ P_Machine___eq__ (defScope s_Machine___eq__) := ⟨rfl, rfl, rfl, by decide +kernel, rfl, by decide +kernel, by decide +kernel⟩
abbrev FnM (K : PySem.W.Frag) (x q : Str) (st : Stmt) (f : Addr) (fd : FuncData) : Prop := FunD K x q (defArgs st) (defBody st) (defScope st) [] [] f fd
abbrev FnMq (K : PySem.W.Frag) (x q : Str) (st : Stmt) (dvs : List V) (f : Addr) (fd : FuncData) : Prop := FunD K x q (defArgs st) (defBody st) (defScope st) dvs [] f fd
def mF (l : List Nat) (r u : Addr) : List (Str × V) := [("letters", .str (S l)), ("rows", .ref r), ("good", .ref u)]
structure McAt (C : Addr) (K : PySem.W.Frag) (H : Hp) (n : Addr) (l : List Nat) (R : Tbl) (g : List Nat) : Prop where
  ex : ∃ (dx r u : Addr) (zr : List (Addr × List (Option Nat))), H n = some (.ins C dx (mF l r u)) ∧ Tb false false K H r zr ∧ H u = some (.tup (gsq g)) ∧ R = tb zr
theorem McAt.mono {C : Addr} {K : PySem.W.Frag} {H H' : Hp} {n : Addr} {l : List Nat} {R : Tbl} {g : List Nat} (s : Same H H') (h : McAt C K H n l R g) : McAt C K H' n l R g := by
  obtain ⟨dx, r, u, zr, h1, h2, h3, h4⟩ := h.ex
  exact ⟨dx, r, u, zr, s _ _ h1, h2.mono s, s _ _ h3, h4⟩
theorem rgV_nat (n : Nat) : rgV 0 (n : Int) = gsq (List.range n) := by
  unfold rgV gsq
  simp
theorem SB.sqK {q : Bool} {K : PySem.W.Frag} {p a C dx : Addr} {fs : List (Str × V)} {H H' : Hp} {xs : List V} (s : SB p H H') (hp : H p = some (.ins C dx fs)) (h : SqK q K H a xs) : SqK q K H' a xs := by
  cases q
  · rcases h with (h | ⟨o, h⟩) | h
    · exact .inl (.inl (s _ _ (fun e => by rw [e, hp] at h; cases h) h))
    · exact .inl (.inr ⟨o, s _ _ (fun e => by rw [e, hp] at h; cases h) h⟩)
    · exact .inr h
  · rcases h with (h | ⟨o, h⟩) | h
    · exact .inl (.inl (s _ _ (fun e => by rw [e, hp] at h; cases h) h))
    · exact .inl (.inr ⟨o, s _ _ (fun e => by rw [e, hp] at h; cases h) h⟩)
    · exact .inr h
theorem Tb.sb {q q2 : Bool} {K : PySem.W.Frag} {p C dx : Addr} {fs : List (Str × V)} {H H' : Hp} {a : Addr} {zs : List (Addr × List (Option Nat))} (s : SB p H H') (hp : H p = some (.ins C dx fs)) (h : Tb q q2 K H a zs) : Tb q q2 K H' a zs := ⟨SB.sqK s hp h.sq, fun z m => SB.sqK s hp (h.at_ z m)⟩
section
variable {P : Program} {w : World} {K : PySem.W.Frag} {mg : Str → Option Value} {base : Heap} {f C : Addr} {fd : FuncData}
def GoodV (K : PySem.W.Frag) (H : Hp) (n : Nat) (gv : V) (gs : List Nat) : Prop := ((gv = .non ∧ gs = List.range n) ∨ ∃ (q3 : Bool) (g : Addr), gv = .ref g ∧ SqK q3 K H g (gsq gs)) ∧ ∀ s ∈ gs, s < n
def spMIni (C : Addr) (K : PySem.W.Frag) : Sp := fun vs H Q _ => ∃ (q q2 : Bool) (n dx a : Addr) (l : List Nat) (gv : V) (zs : List (Addr × List (Option Nat))) (gs : List Nat), vs = [.ref n, .str (S l), .ref a, gv] ∧ H n = some (.ins C dx []) ∧ l.Nodup ∧ l ≠ [] ∧ l.length ≤ 1000 ∧ Tb q q2 K H a zs ∧ Wf (tb zs) l.length ∧ zs.length ≤ 1000000 ∧ GoodV K H zs.length gv gs ∧
  ∀ (r u : Addr) (zr : List (Addr × List (Option Nat))) (g' : List Nat) H', SB n H H' → H' n = some (.ins C dx (mF l r u)) → Tb false false K H' r zr → H' u = some (.tup (gsq g')) → Nf (tb zs) (inG gs) l.length (tb zr) g' → Q .non H'
theorem ok_minit (F : FnMq K "__init__" "Machine.__init__" s_Machine___init__ [.non] f fd) (m_len : mg "len" = none) (m_list : mg "list" = none) (m_range : mg "range" = none) (cls : Cls K C) (n_letters : NoAttr K C "letters") (n_rows : NoAttr K C "rows") (n_good : NoAttr K C "good") (c_check_letters : Cal P w K mg base 1 "check_letters" spCkL) (c_check_rows : Cal P w K mg base 1 "check_rows" (spCkR K)) (c_normal_table : Cal P w K mg base 3 "normal_table" (spNorm K)) : FnOk P w K mg base CX0 4 f fd P_Machine___init__ (spMIni C K) := by
  refine F.ok sc_Machine___init__ (fun vs H Q E h => ?_) (fun cdv A outer s H vs Q E hr h => ?_)
  · obtain ⟨q, q2, n, dx, a, l, gv, zs, gs, rfl, _⟩ := h
    rfl
  · obtain ⟨q, q2, n, dx, a, l, gv, zs, gs, rfl, hn, nd, ne, ll, hT, wf, lz, hg, qq⟩ := h
    refine ⟨_, PSs.nox (pss_cons (ps_expr (pe_cl c_check_letters hr (by decide) (by rfl) (pa_cons (pv 1) pa_nil)))
      (pss_cons (ps_expr (pe_cl c_check_rows hr (by decide) (by rfl) (pa_cons (pe_callB call_len_str (by rfl) m_len PySem.boot_len (pa_cons (pv 1) pa_nil)) (pa_cons (pv 2) pa_nil))))
      (pss_cut (ps_set (i := 4) sc_Machine___init__.nd rfl (by first | exact .inl rfl | exact .inr rfl) (pe_ifExp (pt_cmpR op_isN (pv 3) pe_non (nomark _)) (pe_listRg rfl (by rfl) m_list (prg_1 (by rfl) m_range (pe_callB call_len_seq (by rfl) m_len PySem.boot_len (pa_cons (pv 2) pa_nil)))) (pv 3)))
      (pss_cons (ps_for PassesOwn.never rfl (pi_sq (pv 4)) (pg_name (i := 5) sc_Machine___init__.nd rfl (by first | exact .inl rfl | exact .inr rfl))
        (pss_one (ps_if (pt_not (pt_chain op_le op_lt pe_int (pv 5) (pe_callB call_len_seq (by rfl) m_len PySem.boot_len (pa_cons (pv 2) pa_nil)))) (pss_one ps_never) pss_nil)))
      (pss_cons (ps_fld (pv 0) (pv 1) rfl)
      (pss_one (ps_asg (pe_cl c_normal_table hr (by decide) (by rfl) (pa_cons (pv 2) (pa_cons (pv 4) pa_nil))) (pg_tup rfl (pgs_cons (pg_fld (pv 0)) (pgs_cons (pg_fld (pv 0)) pgs_nil)))))))))), ?_⟩
    walk_at "go"
    intro H1 s1
    walk_at "go"
    refine ⟨by rw [S_len]; exact Nat.le_trans ll (by decide), ?_⟩
    rw [S_len]
    walk_at "go"
    refine ⟨q, q2, l.length, a, zs, rfl, hT.mono s1, wf, fun H2 s2 => ?_⟩
    have s12 := s1.trans s2
    walk_at "go"
    refine ⟨fun σ' J => Same H J ∧ ∃ (q3 : Bool) (e : Addr), SqK q3 K J e (gsq gs) ∧ σ' = [some (.ref n), some (.str (S l)), some (.ref a), some gv, some (.ref e), none], ?_, ?_⟩
    · obtain ⟨hg1, hg2⟩ := hg
      walk_at "go"
      rcases hg1 with ⟨rfl, rfl⟩ | ⟨q3, g, rfl, hG⟩
      · walk_at "go"
        refine ⟨a, _, rfl, sqk_or (Z.Same.sqK s12 hT.sq), ?_⟩
        rw [List.length_map]
        walk_at "go"
        intro e ne'
        rw [rgV_nat]
        exact ⟨s12.trans (same_new ne'), true, e, SqL.of upd_same, rfl⟩
      · walk_at "go"
        exact ⟨q3, g, Z.Same.sqK s12 hG, rfl⟩
    obtain ⟨hg1, hg2⟩ := hg
    clear hg1
    rintro σ' J ⟨s3, q3, e, hE, rfl⟩
    walk_at "go"
    refine rd_sq (b := q3) rfl hE ?_
    refine for_gen (n := gs.length) (fun k σ J' => J' = J ∧ ∃ v5 : Option V, σ = [some (.ref n), some (.str (S l)), some (.ref a), some gv, some (.ref e), v5]) ⟨rfl, none, rfl⟩ ?_ ?_ ?_ ?_
    · rintro k σ J' hk ⟨rfl, _⟩
      exact itq_go hE (x := .int ((gs[k] : Nat) : Int)) (by unfold gsq; rw [List.getElem?_map, List.getElem?_eq_getElem hk]; rfl)
    · rintro σ J' ⟨rfl, _⟩
      exact itq_stop hE (by rw [show (gsq gs).length = gs.length from List.length_map ..]; exact Nat.le_refl _)
    · rintro k σ J' x J2 hk ⟨rfl, v5, rfl⟩ y
      obtain ⟨rfl, ex⟩ := itq_yld hE y
      unfold gsq at ex
      rw [List.getElem?_map, List.getElem?_eq_getElem hk] at ex
      cases ex
      have hgk := hg2 _ (List.getElem_mem hk)
      walk_at "go"
      refine ⟨a, _, rfl, sqk_or (Z.Same.sqK s3 hT.sq), ?_⟩
      rw [List.length_map]
      walk_at "go"
      rw [decide_eq_true (show ((gs[k] : Nat) : Int) < (zs.length : Int) by omega)]
      walk_at "go"
      exact ⟨_, rfl⟩
    rintro σ J' ⟨rfl, v5, rfl⟩
    have hn3 := s3 _ _ hn
    walk_at "go"
    refine ⟨n, C, dx, _, rfl, hn3, cls, n_letters, by decide, ?_⟩
    have sb4 : SB n J' (upd J' n (.ins C dx (putF (Str.ofString "letters") (V.str (S l)) []))) := SB.upd (Z.Same.sb (Same.refl _))
    have hn4 : (upd J' n (.ins C dx (putF (Str.ofString "letters") (V.str (S l)) []))) n = some (.ins C dx [("letters", .str (S l))]) := upd_same
    have hT4 := (hT.mono s3).sb sb4 hn3
    have hE4 := SB.sqK sb4 hn3 hE
    generalize upd J' n (.ins C dx (putF (Str.ofString "letters") (V.str (S l)) [])) = H4 at sb4 hn4 hT4 hE4
    walk_at "go"
    refine ⟨q, q2, q3, l.length, a, e, zs, gs, rfl, hT4, wf, ll, lz, hE4, hg2, fun t r u zr g' H5 s5 et hR eu nf => ?_⟩
    have hn5 := s5 _ _ hn4
    refine ⟨t, _, rfl, SqT.of et, rfl, _, _, rfl, _, rfl, n, C, dx, _, rfl, hn5, cls, n_rows, (show (1 : Nat) < 1000 by decide), ?_⟩
    refine ⟨_, _, rfl, _, rfl, n, C, dx, _, rfl, upd_same, cls, n_good, (show (2 : Nat) < 1000 by decide), rfl, ?_⟩
    have sb6 : SB n H5 (upd (upd H5 n (.ins C dx (putF (Str.ofString "rows") (V.ref r) [("letters", .str (S l))]))) n (.ins C dx (putF (Str.ofString "good") (V.ref u) (putF (Str.ofString "rows") (V.ref r) [("letters", .str (S l))])))) := SB.upd (SB.upd (Z.Same.sb (Same.refl _)))
    refine qq r u zr g' _ ((Z.Same.sb s3).trans (sb4.trans ((Z.Same.sb s5).trans sb6))) upd_same (hR.sb sb6 hn5) (sb6 _ _ (fun e => by rw [e, hn5] at eu; cases eu) eu) nf
theorem occ_one {l : List Nat} {c i : Nat} (nd : l.Nodup) (h : l[i]? = some c) : ∃ rest, Builtin.Str.occurrences (S l) ⟨#[c]⟩ 0 (S l).length 1 = i :: rest := by
  have at_iff : ∀ j, PySem.StrLaws.At (S l) ⟨#[c]⟩ (S l).length j ↔ l[j]? = some c := fun j => by
    have e := PySem.StrLaws.subAt_eq (S l) ⟨#[c]⟩ j
    constructor
    · rintro ⟨_, h2⟩
      rw [e] at h2
      exact PySem.StrLaws.take1_drop.mp h2
    · intro h2
      refine ⟨?_, by rw [e]; exact PySem.StrLaws.take1_drop.mpr h2⟩
      rw [S_len]
      exact (List.getElem?_eq_some_iff.mp h2).1
  rcases PySem.StrLaws.occ_head (S l) ⟨#[c]⟩ 1 (Nat.le_refl _) with ⟨_, no⟩ | ⟨j, rest, e, hj, _⟩
  · exact absurd ((at_iff i).mpr h) (no i)
  · have := nd_inj nd ((at_iff j).mp hj) h
    subst this
    exact ⟨rest, e⟩
def spAfter (C : Addr) (K : PySem.W.Frag) : Sp := fun vs H Q _ => ∃ (n : Addr) (l t : List Nat) (R : Tbl) (g : List Nat), vs = [.ref n, .str (S t)] ∧ McAt C K H n l R g ∧ l.Nodup ∧ Wf R l.length ∧ Q (eV (rs R (ixOf l) (Mc.st R) t)) H
theorem ok_after (F : FnM K "after" "Machine.after" s_Machine_after f fd) (m_len : mg "len" = none) (cls : Cls K C) (n_letters : NoAttr K C "letters") (n_rows : NoAttr K C "rows") : FnOk P w K mg base CX0 1 f fd P_Machine_after (spAfter C K) := by
  refine F.ok sc_Machine_after (fun vs H Q E h => ?_) (fun cdv A outer s H vs Q E hr h => ?_)
  · obtain ⟨n, l, t, R, g, rfl, _⟩ := h
    rfl
  · obtain ⟨n, l, t, R, g, rfl, ⟨dx, r, u, zr, hn, hR, hu, rfl⟩, nd, wf, q⟩ := h
    refine ⟨_, PSs.nox (pss_cut (ps_set (i := 2) sc_Machine_after.nd rfl (by first | exact .inl rfl | exact .inr rfl) (pe_ifExp (pt_cmpR op_gt (pe_callB call_len_seq (by rfl) m_len PySem.boot_len (pa_cons (pe_fld (pv 0) rfl) pa_nil)) pe_int (nomark _)) pe_int pe_non))
      (pss_cons (ps_for PassesOwn.never rfl (pi_str (pv 1)) (pg_name (i := 3) sc_Machine_after.nd rfl (by first | exact .inl rfl | exact .inr rfl))
        (pss_cons (ps_if (PW.pt (pw_or (pt_cmpR op_isN (pv 2) pe_non (nomark _)) (pw_or1 (pt_cmpR op_notIn_sign (pv 3) (pe_fld (pv 0) rfl) (by rfl))))) (pss_one (ps_ret pe_non)) pss_nil)
      (pss_one (ps_set (i := 2) sc_Machine_after.nd rfl (by first | exact .inl rfl | exact .inr rfl) (pe_ix ix_tup (pe_ix ix_tup (pe_fld (pv 0) rfl) (pv 2) (fun _ _ => rfl)) (pe_bm PySem.F.plainAttrs_str PySem.F.slot_str_index PySem.F.type_str_index mt_sindex (pe_fld (pv 0) rfl) (pa_cons (pv 3) pa_nil)) (fun _ _ => rfl))))))
      (pss_one (ps_ret (pv 2))))), ?_⟩
    have lR : (tb zr).length = zr.length := List.length_map ..
    refine ⟨fun σ' J => J = H ∧ σ' = [some (.ref n), some (.str (S t)), some (eV (Mc.st (tb zr))), none], ?_, ?_⟩
    · walk_at "go"
      refine ⟨r, _, rfl, .inr hR.sq, ?_⟩
      rw [List.length_map]
      unfold Mc.st
      rw [lR]
      walk_at "go"
      by_cases c : zr.length = 0
      · rw [if_pos c, decide_eq_false (show ¬ (0 : Int) < (zr.length : Int) by omega)]
        walk_at "go"
        rfl
      · rw [if_neg c, decide_eq_true (show (0 : Int) < (zr.length : Int) by omega)]
        walk_at "go"
        rfl
    rintro σ' J ⟨rfl, rfl⟩
    walk_at "go"
    refine for_gen (n := t.length) (fun k σ J' => J' = J ∧ ∃ (o : Option Nat) (v3 : Option V), o = rs (tb zr) (ixOf l) (Mc.st (tb zr)) (t.take k) ∧ (∀ j, o = some j → j < zr.length) ∧ σ = [some (.ref n), some (.str (S t)), some (eV o), v3]) ⟨rfl, Mc.st (tb zr), none, by cases Mc.st (tb zr) <;> rfl, fun j hj => ?_, rfl⟩ ?_ ?_ ?_ ?_
    · unfold Mc.st at hj
      split at hj
      · cases hj
      · cases hj
        omega
    · rintro k σ J' hk ⟨rfl, _⟩
      show k < (S t).cps.size
      simpa using hk
    · rintro σ J' ⟨rfl, _⟩
      show (S t).cps.size ≤ t.length
      simp
    · rintro k σ J' x J2 hk ⟨rfl, o, v3, ho, hj, rfl⟩ ⟨rfl, c, ec, rfl⟩
      have ec : t[k]? = some c := by simpa using ec
      have tk : t.take (k + 1) = t.take k ++ [c] := by rw [List.take_succ, ec]; rfl
      have tt : t = t.take (k + 1) ++ t.drop (k + 1) := (List.take_append_drop _ _).symm
      walk_at "go"
      cases o with
      | none =>
        dsimp only [eV]
        walk_at "go"
        refine ite2 (fun _ => ?_) (fun e => absurd (decide_eq_true rfl) e)
        refine ite2 (fun _ => ?_) (fun e => absurd rfl e)
        have e1 : rs (tb zr) (ixOf l) (Mc.st (tb zr)) t = none := by
          conv => lhs; rw [← List.take_append_drop k t]
          rw [rs_app, ← ho, rs_none]
        rw [e1] at q
        exact q
      | some s0 =>
        have hs := hj s0 rfl
        dsimp only [eV]
        walk_at "go"
        refine ite2 (fun e => ?_) (fun e => ?_)
        · have nc : c ∉ l := by simpa using e
          have e1 : rs (tb zr) (ixOf l) (Mc.st (tb zr)) t = none := by
            conv => lhs; rw [tt]
            rw [rs_app, tk, rs_app, ← ho, rs_one, ixOf_none.mpr nc]
            exact rs_none _ _ _
          rw [e1] at q
          exact q
        · have hc : c ∈ l := by simpa using e
          obtain ⟨i, hi⟩ : ∃ i, ixOf l c = some i := by
            cases e1 : ixOf l c with
            | none => exact absurd hc (ixOf_none.mp e1)
            | some i => exact ⟨i, rfl⟩
          have li := ixOf_some hi
          have il := (List.getElem?_eq_some_iff.mp li).1
          obtain ⟨rest, ho2⟩ := occ_one nd li
          obtain ⟨z, hz⟩ : ∃ z, zr[s0]? = some z := ⟨_, List.getElem?_eq_getElem hs⟩
          have mz : z.2 ∈ tb zr := List.mem_map.mpr ⟨z, List.mem_of_getElem? hz, rfl⟩
          have lz := wf.row _ mz
          have rx := row_nx hz (i := i) (by omega)
          have hrow := hR.at_ z (List.mem_of_getElem? hz)
          walk_at "go"
          refine ⟨r, _, _, _, rfl, rfl, hR.sq, atI_nat (v := .ref z.1) (by rw [List.getElem?_map, hz]; rfl), ?_⟩
          walk_at "go"
          refine ⟨_, _, i, rest, rfl, rfl, ho2, ?_⟩
          refine ⟨z.1, _, _, _, rfl, rfl, hrow, atI_nat (row_at (by omega)), ?_⟩
          refine ⟨rfl, nx (tb zr) s0 i, _, ?_, fun j hj => ?_, by rw [rx]; rfl⟩
          · rw [tk, rs_app, ← ho, rs_one, hi]
          · rw [← lR]
            exact (nx_lt wf hj).1
    · rintro σ J' ⟨rfl, o, v3, ho, hj, rfl⟩
      rw [List.take_length] at ho
      walk_at "go"
      rw [ho]
      exact q
theorem gsq_flat : ∀ g : List Nat, (gsq g).all flatV = true
  | [] => rfl
  | _ :: g => gsq_flat g
theorem inV_gsq (j : Nat) : ∀ g : List Nat, inV (.int (j : Int)) (gsq g) = decide (j ∈ g)
  | [] => rfl
  | x :: g => by
    have e := inV_gsq j g
    show (((x : Int)) == (j : Int) || inV (.int (j : Int)) (gsq g)) = _
    rw [e]
    by_cases c : x = j
    · subst c
      simp
    · have c1 : ((x : Int) == (j : Int)) = false := beq_eq_false_iff_ne.mpr (by omega)
      rw [c1, Bool.false_or]
      refine decide_eq_decide.mpr ⟨fun h => List.mem_cons_of_mem _ h, fun h => ?_⟩
      rcases List.mem_cons.mp h with h | h
      · exact absurd h.symm c
      · exact h
def accB (g : List Nat) : Option Nat → Bool
  | none => false
  | some j => decide (j ∈ g)
def spIn (C : Addr) (K : PySem.W.Frag) : Sp := fun vs H Q _ => ∃ (n : Addr) (l t : List Nat) (R : Tbl) (g : List Nat), vs = [.ref n, .str (S t)] ∧ McAt C K H n l R g ∧ l.Nodup ∧ Wf R l.length ∧ Q (.bl (accB g (rs R (ixOf l) (Mc.st R) t))) H
theorem ok_contains (F : FnM K "__contains__" "Machine.__contains__" s_Machine___contains__ f fd) (cls : Cls K C) (n_good : NoAttr K C "good") (me_after : Met P w K mg base 1 C "after" (spAfter C K)) : FnOk P w K mg base CX0 2 f fd P_Machine___contains__ (spIn C K) := by
  refine F.ok sc_Machine___contains__ (fun vs H Q E h => ?_) (fun cdv A outer s H vs Q E hr h => ?_)
  · obtain ⟨n, l, t, R, g, rfl, _⟩ := h
    rfl
  · obtain ⟨n, l, t, R, g, rfl, hM, nd, wf, q⟩ := h
    obtain ⟨dx, r, u, zr, hn, hR, hu, hRe⟩ := id hM.ex
    refine ⟨_, PSs.nox (pss_cons (ps_set (i := 2) sc_Machine___contains__.nd rfl (by first | exact .inl rfl | exact .inr rfl) (pe_me me_after (pv 0) hr (by decide) (pa_cons (pv 1) pa_nil)))
      (pss_one (ps_ret (pe_and (pe_cmpR op_notN (pv 2) pe_non (nomark _)) (pe_one (pe_cmpR op_in_seq (pv 2) (pe_fld (pv 0) rfl) (by rfl))))))), ?_⟩
    walk_at "go"
    refine ⟨n, dx, _, rfl, hn, rfl, ?_⟩
    walk_at "go"
    refine ⟨n, l, t, R, g, rfl, hM, nd, wf, ?_⟩
    cases e : rs R (ixOf l) (Mc.st R) t with
    | none =>
      rw [e] at q
      walk_at "go"
      exact q
    | some j =>
      rw [e] at q
      dsimp only [eV]
      walk_at "go"
      refine ⟨u, _, rfl, .inr (SqT.of hu), rfl, gsq_flat g, ?_⟩
      rw [inV_gsq]
      exact q
def spEqM (C : Addr) (K : PySem.W.Frag) : Sp := fun vs H Q _ => ∃ (n m : Addr) (l l' : List Nat) (R R' : Tbl) (g g' : List Nat), vs = [.ref n, .ref m] ∧ McAt C K H n l R g ∧ McAt C K H m l' R' g' ∧ Q (.bl (decide (l = l' ∧ R = R' ∧ g = g'))) H
theorem ok_eq (F : FnM K "__eq__" "Machine.__eq__" s_Machine___eq__ f fd) (isC : C8.InsC K C) (m_isinstance : mg "isinstance" = none) (g_Machine : mg "Machine" = some (.ref C)) (cls : Cls K C) (n_letters : NoAttr K C "letters") (n_rows : NoAttr K C "rows") (n_good : NoAttr K C "good") : FnOk P w K mg base CX0 1 f fd P_Machine___eq__ (spEqM C K) := by
  refine F.ok sc_Machine___eq__ (fun vs H Q E h => ?_) (fun cdv A outer s H vs Q E hr h => ?_)
  · obtain ⟨n, m, l, l', R, R', g, g', rfl, _⟩ := h
    rfl
  · obtain ⟨n, m, l, l', R, R', g, g', rfl, ⟨dx, r, u, zr, hn, hR, hu, rfl⟩, ⟨dy, r', u', zr', hn', hR', hu', rfl⟩, q⟩ := h
    refine ⟨_, PSs.nox (pss_one (ps_ret (pe_and (pe_callB (C8.call_isC isC) (by rfl) m_isinstance (by decide +kernel) (pa_cons (pv 1) (pa_cons (pe_glob (by rfl) g_Machine relv_ref) pa_nil))) (pe_and (pe_cmpR op_eq (pe_fld (pv 0) rfl) (pe_fld (pv 1) rfl) (nomark _)) (pe_and (pe_cmpR (op_eqD hr.units) (pe_fld (pv 0) rfl) (pe_fld (pv 1) rfl) (nomark _)) (pe_one (pe_cmpR (op_eqD hr.units) (pe_fld (pv 0) rfl) (pe_fld (pv 1) rfl) (nomark _)))))))), ?_⟩
    walk_at "go"
    refine ⟨m, dy, _, rfl, hn', ?_⟩
    walk_at "go"
    by_cases h1 : l = l'
    · subst h1
      rw [decide_eq_true rfl, if_pos rfl]
      walk_at "go"
      refine ⟨_, _, hR.dp, hR'.dp, shaped_tb _ _ _, shaped_tb _ _ _, ?_⟩
      rw [eqv_tb]
      by_cases h2 : tb zr = tb zr'
      · rw [decide_eq_true h2]
        walk_at "go"
        refine ⟨_, _, dp_nat (b := false) (SqT.of hu), dp_nat (b := false) (SqT.of hu'), shaped_nat _ _, shaped_nat _ _, ?_⟩
        rw [eqv_nat]
        rw [show decide (l = l ∧ tb zr = tb zr' ∧ g = g') = decide (g = g') from decide_eq_decide.mpr ⟨fun h => h.2.2, fun h => ⟨rfl, h2, h⟩⟩] at q
        exact q
      · rw [decide_eq_false h2]
        walk_at "go"
        rw [decide_eq_false (fun z => h2 z.2.1)] at q
        exact q
    · rw [decide_eq_false (fun z => h1 (by injection z with z; exact S_inj z)), if_neg (by decide)]
      rw [decide_eq_false (fun z => h1 z.1)] at q
      exact q
end
end Z
set_option linter.all false
set_option maxRecDepth 100000
namespace Mc
/-! ### the normal form is determined by the accepted texts -/
structure Ab (m : Nat) (R : Tbl) (X : Nat → List Nat → Prop) : Prop where
  zero : 0 < R.length
  row : ∀ r ∈ R, r.length = m
  inj : ∀ i j, i < R.length → j < R.length → (∀ w, X i w ↔ X j w) → i = j
  live : ∀ i, i < R.length → ∃ w, X i w
  no : ∀ i k, i < R.length → nx R i k = none → ∀ w, ¬ X i (k :: w)
  yes : ∀ i k j, nx R i k = some j → j < R.length ∧ ∀ w, X j w ↔ X i (k :: w)
  ord : ∀ j : Nat, 0 < j → j < R.length → ∃ i k : Nat, i < j ∧ nx R i k = some j ∧ ∀ (i' k' j' : Nat), (i' < i ∨ i' = i ∧ k' < k) → nx R i' k' = some j' → j' < j
theorem Ab.step {m : Nat} {R R' : Tbl} {X X' : Nat → List Nat → Prop} (h : Ab m R X) (h' : Ab m R' X') {i k j : Nat} (hi' : i < R'.length) (e : ∀ w, X i w ↔ X' i w) (hj : nx R i k = some j) : ∃ j', nx R' i k = some j' ∧ ∀ w, X j w ↔ X' j' w := by
  obtain ⟨lj, ej⟩ := h.yes i k j hj
  cases c : nx R' i k with
  | none =>
    obtain ⟨w, xw⟩ := h.live j lj
    exact absurd ((e _).mp ((ej w).mp xw)) (h'.no i k hi' c w)
  | some j' =>
    exact ⟨j', rfl, fun w => (ej w).trans ((e _).trans ((h'.yes i k j' c).2 w).symm)⟩
theorem Ab.grow {m : Nat} {R R' : Tbl} {X X' : Nat → List Nat → Prop} (h : Ab m R X) (h' : Ab m R' X') {n : Nat} (n0 : 0 < n) (ih : ∀ i, i < n → (i < R.length ↔ i < R'.length) ∧ (i < R.length → ∀ w, X i w ↔ X' i w)) (hn : n < R.length) : n < R'.length ∧ ∀ w, X n w ↔ X' n w := by
  obtain ⟨i, k, hi, e1, mi⟩ := h.ord n n0 hn
  have li : i < R.length := by omega
  have li' := (ih i hi).1.mp li
  obtain ⟨j', e2, q⟩ := h.step h' li' ((ih i hi).2 li) e1
  have lj' := (h'.yes i k j' e2).1
  have key : j' = n := by
    rcases Nat.lt_trichotomy j' n with c | c | c
    · have a := ih j' c
      have := h.inj j' n (a.1.mpr lj') hn fun w => ((a.2 (a.1.mpr lj')) w).trans (q w).symm
      omega
    · exact c
    · obtain ⟨i2, k2, hi2, e3, mi2⟩ := h'.ord n n0 (by omega)
      have nl : ¬ (i < i2 ∨ i = i2 ∧ k < k2) := fun z => by have := mi2 i k j' z e2; omega
      have ne : ¬ (i = i2 ∧ k = k2) := fun ⟨a, b⟩ => by subst a b; rw [e2] at e3; injection e3; omega
      have l2 : i2 < i ∨ i2 = i ∧ k2 < k := by omega
      have li2' : i2 < R'.length := by omega
      have li2 := (ih i2 hi2).1.mpr li2'
      obtain ⟨j3, e4, q4⟩ := h'.step h li2 (fun w => ((ih i2 hi2).2 li2 w).symm) e3
      have lt := mi i2 k2 j3 l2 e4
      have lj3 := (h.yes i2 k2 j3 e4).1
      have := h'.inj j3 n ((ih j3 lt).1.mp lj3) (by omega) fun w => ((ih j3 lt).2 lj3 w).symm.trans (q4 w).symm
      omega
  subst key
  exact ⟨lj', q⟩
theorem Ab.all {m : Nat} {R R' : Tbl} {X X' : Nat → List Nat → Prop} (h : Ab m R X) (h' : Ab m R' X') (e : ∀ w, X 0 w ↔ X' 0 w) : ∀ n i, i < n → (i < R.length ↔ i < R'.length) ∧ (i < R.length → ∀ w, X i w ↔ X' i w) := by
  intro n
  induction n with
  | zero => exact fun i hi => absurd hi (Nat.not_lt_zero _)
  | succ n ih =>
    intro i hi
    by_cases c : i < n
    · exact ih i c
    · have : i = n := by omega
      subst this
      by_cases c0 : i = 0
      · subst c0
        exact ⟨⟨fun _ => h'.zero, fun _ => h.zero⟩, fun _ => e⟩
      · have ih' : ∀ j, j < i → (j < R'.length ↔ j < R.length) ∧ (j < R'.length → ∀ w, X' j w ↔ X j w) := fun j hj => ⟨(ih j hj).1.symm, fun l w => ((ih j hj).2 ((ih j hj).1.mpr l) w).symm⟩
        exact ⟨⟨fun l => (h.grow h' (by omega) ih l).1, fun l => (h'.grow h (by omega) ih' l).1⟩, fun l => (h.grow h' (by omega) ih l).2⟩
theorem tbl_ext {m : Nat} {R R' : Tbl} (l : R.length = R'.length) (h : ∀ r ∈ R, r.length = m) (h' : ∀ r ∈ R', r.length = m) (e : ∀ i k, i < R.length → nx R i k = nx R' i k) : R = R' := by
  apply List.ext_getElem l
  intro i h1 h2
  have a := h _ (List.getElem_mem h1)
  have b := h' _ (List.getElem_mem h2)
  apply List.ext_getElem (a.trans b.symm)
  intro k k1 k2
  have := e i k h1
  rw [nx_at (List.getElem?_eq_getElem h1) (List.getElem?_eq_getElem k1), nx_at (List.getElem?_eq_getElem h2) (List.getElem?_eq_getElem k2)] at this
  exact this
theorem Ab.uniq {m : Nat} {R R' : Tbl} {X X' : Nat → List Nat → Prop} (h : Ab m R X) (h' : Ab m R' X') (e : ∀ w, X 0 w ↔ X' 0 w) : R = R' ∧ ∀ i, i < R.length → ∀ w, X i w ↔ X' i w := by
  have al := h.all h' e
  have l : R.length = R'.length := by
    rcases Nat.lt_trichotomy R.length R'.length with c | c | c
    · have := (al (R.length + 1) R.length (by omega)).1.mpr c
      omega
    · exact c
    · have := (al (R'.length + 1) R'.length (by omega)).1.mp c
      omega
  have x : ∀ i, i < R.length → ∀ w, X i w ↔ X' i w := fun i hi => (al (i + 1) i (by omega)).2 hi
  refine ⟨tbl_ext l h.row h'.row fun i k hi => ?_, x⟩
  have hi' : i < R'.length := by omega
  cases c : nx R i k with
  | none =>
    cases c' : nx R' i k with
    | none => rfl
    | some j =>
      obtain ⟨j', e2, _⟩ := h'.step h hi (fun w => (x i hi w).symm) c'
      rw [c] at e2
      cases e2
  | some j =>
    obtain ⟨j', e2, q⟩ := h.step h' hi' (x i hi) c
    have lj := (h.yes i k j c).1
    have lj' := (h'.yes i k j' e2).1
    rw [e2, h'.inj j j' (by omega) lj' fun w => (x j lj w).symm.trans (q w)]
theorem NfOf.ab {T : Tbl} {G : Nat → Prop} {m : Nat} {R : Tbl} {g met : List Nat} (h : NfOf T G m R g met) : Ab m R fun i w => ∃ s, met[i]? = some s ∧ Acc T G s w := by
  have ex : ∀ i, i < R.length → ∃ s, met[i]? = some s := fun i hi => ⟨_, List.getElem?_eq_getElem (by rw [← h.len]; exact hi)⟩
  refine ⟨by rw [h.len]; exact (List.getElem?_eq_some_iff.mp h.zero).1, h.row, fun i j hi hj e => ?_, fun i hi => ?_, fun i k hi n w => ?_, fun i k j hj => ?_, by rw [h.len]; exact h.ord⟩
  · obtain ⟨s, es⟩ := ex i hi
    obtain ⟨t, et⟩ := ex j hj
    refine h.ap i j s t es et fun w => ⟨fun a => ?_, fun a => ?_⟩
    · obtain ⟨t', e1, a'⟩ := (e w).mp ⟨s, es, a⟩
      rw [et] at e1
      cases e1
      exact a'
    · obtain ⟨t', e1, a'⟩ := (e w).mpr ⟨t, et, a⟩
      rw [es] at e1
      cases e1
      exact a'
  · obtain ⟨s, es⟩ := ex i hi
    obtain ⟨w, a⟩ := (h.live s (List.mem_of_getElem? es)).2
    exact ⟨w, s, es, a⟩
  · rintro ⟨s, es, a⟩
    obtain ⟨e, h1, b⟩ := acc_cons.mp a
    exact h.no i s k es n e h1 ⟨w, b⟩
  · obtain ⟨r, h1, h2⟩ := nx_mem hj
    obtain ⟨s, es⟩ := ex i (List.getElem?_eq_some_iff.mp h1).1
    obtain ⟨e, t, h3, h4, h5⟩ := h.yes i s k j es hj
    refine ⟨by rw [h.len]; exact (List.getElem?_eq_some_iff.mp h4).1, fun w => ⟨?_, ?_⟩⟩
    · rintro ⟨t', e1, a⟩
      rw [h4] at e1
      cases e1
      exact ⟨s, es, acc_cons.mpr ⟨e, h3, (h5 w).mpr a⟩⟩
    · rintro ⟨s', e1, a⟩
      rw [es] at e1
      cases e1
      obtain ⟨e', h6, b⟩ := acc_cons.mp a
      rw [h3] at h6
      cases h6
      exact ⟨t, h4, (h5 w).mp b⟩
theorem asc_ext : ∀ {l m : List Nat}, l.Pairwise (· < ·) → m.Pairwise (· < ·) → (∀ x, x ∈ l ↔ x ∈ m) → l = m
  | [], [], _, _, _ => rfl
  | [], y :: m, _, _, h => absurd ((h y).mpr List.mem_cons_self) (by simp)
  | x :: l, [], _, _, h => absurd ((h x).mp List.mem_cons_self) (by simp)
  | x :: l, y :: m, p, q, h => by
    obtain ⟨p1, p2⟩ := List.pairwise_cons.mp p
    obtain ⟨q1, q2⟩ := List.pairwise_cons.mp q
    have e : x = y := by
      rcases List.mem_cons.mp ((h x).mp List.mem_cons_self) with a | a
      · exact a
      · rcases List.mem_cons.mp ((h y).mpr List.mem_cons_self) with b | b
        · exact b.symm
        · have := q1 x a
          have := p1 y b
          omega
    subst e
    rw [asc_ext p2 q2 fun z => ⟨fun m1 => ?_, fun m1 => ?_⟩]
    · rcases List.mem_cons.mp ((h z).mp (List.mem_cons_of_mem _ m1)) with a | a
      · have := p1 z m1
        omega
      · exact a
    · rcases List.mem_cons.mp ((h z).mpr (List.mem_cons_of_mem _ m1)) with a | a
      · have := q1 z m1
        omega
      · exact a
def AccS (T : Tbl) (G : Nat → Prop) (w : List Nat) : Prop := ∃ t, rn T (st T) w = some t ∧ G t
theorem NfOf.pos {T : Tbl} {G : Nat → Prop} {m : Nat} {R : Tbl} {g met : List Nat} (h : NfOf T G m R g met) : st T = some 0 := if_neg (by have := (h.live 0 (List.mem_of_getElem? h.zero)).1; omega)
theorem NfOf.accS {T : Tbl} {G : Nat → Prop} {m : Nat} {R : Tbl} {g met : List Nat} (h : NfOf T G m R g met) (w : List Nat) : (∃ s, met[0]? = some s ∧ Acc T G s w) ↔ AccS T G w := by
  unfold AccS
  rw [h.pos]
  constructor
  · rintro ⟨s, e, a⟩
    rw [h.zero] at e
    cases e
    exact a
  · exact fun a => ⟨0, h.zero, a⟩
theorem Nf.uniq {T T' : Tbl} {G G' : Nat → Prop} {m : Nat} {R R' : Tbl} {g g' : List Nat} (h : Nf T G m R g) (h' : Nf T' G' m R' g') (e : ∀ w, AccS T G w ↔ AccS T' G' w) : R = R' ∧ g = g' := by
  have no : ∀ {T : Tbl} {G : Nat → Prop}, (T = [] ∨ ¬ Liv T G 0) → ∀ w, ¬ AccS T G w := by
    rintro T G h w ⟨t, h1, h2⟩
    rcases h with rfl | h
    · rw [show st [] = none from rfl, rn_none] at h1
      cases h1
    · unfold st at h1
      split at h1
      · rw [rn_none] at h1; cases h1
      · exact h ⟨w, t, h1, h2⟩
  have ex : ∀ {T : Tbl} {G : Nat → Prop} {R : Tbl} {g met : List Nat}, NfOf T G m R g met → ∃ w, AccS T G w := fun n => by
    obtain ⟨w, a⟩ := (n.live 0 (List.mem_of_getElem? n.zero)).2
    exact ⟨w, (n.accS w).mp ⟨0, n.zero, a⟩⟩
  rcases h with ⟨r1, r2, h⟩ | ⟨met, h⟩
  · rcases h' with ⟨r3, r4, h'⟩ | ⟨met', h'⟩
    · rw [r1, r2, r3, r4]
      exact ⟨rfl, rfl⟩
    · obtain ⟨w, a⟩ := ex h'
      exact absurd ((e w).mpr a) (no h w)
  · rcases h' with ⟨r3, r4, h'⟩ | ⟨met', h'⟩
    · obtain ⟨w, a⟩ := ex h
      exact absurd ((e w).mp a) (no h' w)
    · obtain ⟨eR, x⟩ := h.ab.uniq h'.ab fun w => (h.accS w).trans ((e w).trans (h'.accS w).symm)
      refine ⟨eR, asc_ext h.asc h'.asc fun i => (h.good i).trans (Iff.trans ?_ (h'.good i).symm)⟩
      have lm : met.length = met'.length := by rw [← h.len, ← h'.len, eR]
      by_cases c : i < R.length
      · have := x i c []
        simp only [acc_nil] at this
        exact this
      · constructor
        · rintro ⟨s, e1, _⟩
          have := (List.getElem?_eq_some_iff.mp e1).1
          rw [← h.len] at this
          exact absurd this c
        · rintro ⟨s, e1, _⟩
          have := (List.getElem?_eq_some_iff.mp e1).1
          rw [← h'.len, ← eR] at this
          exact absurd this c
end Mc
set_option linter.all false
set_option maxRecDepth 100000
namespace Mc
/-! ### languages: sets of texts, a text as its letters' numbers -/
abbrev Lg := List Nat → Prop
/-- the numbers of a text's letters, none if one is no letter -/
def idx (ix : Nat → Option Nat) : List Nat → Option (List Nat)
  | [] => some []
  | c :: w => match ix c, idx ix w with
    | some k, some v => some (k :: v)
    | _, _ => none
theorem rs_idx (T : Tbl) (ix : Nat → Option Nat) : ∀ (w : List Nat) (o : Option Nat), rs T ix o w = match idx ix w with | none => none | some v => rn T o v
  | [], o => by cases o <;> rfl
  | c :: w, none => by
    rw [rs_none]
    cases idx ix (c :: w) with
    | none => rfl
    | some v => exact (rn_none T v).symm
  | c :: w, some s => by
    show (match ix c with | none => none | some k => rs T ix (nx T s k) w) = _
    unfold idx
    cases h : ix c with
    | none => rfl
    | some k =>
      show rs T ix (nx T s k) w = _
      rw [rs_idx T ix w]
      cases idx ix w <;> rfl
theorem idx_app (ix : Nat → Option Nat) : ∀ (u v : List Nat), idx ix (u ++ v) = match idx ix u, idx ix v with | some a, some b => some (a ++ b) | _, _ => none
  | [], v => by
    show idx ix v = _
    cases idx ix v <;> rfl
  | c :: u, v => by
    show (match ix c, idx ix (u ++ v) with | some k, some v => some (k :: v) | _, _ => none) = match (match ix c, idx ix u with | some k, some v => some (k :: v) | _, _ => none), idx ix v with | some a, some b => some (a ++ b) | _, _ => none
    rw [idx_app ix u v]
    cases ix c <;> cases idx ix u <;> cases idx ix v <;> rfl
theorem idx_len {ix : Nat → Option Nat} : ∀ {u v : List Nat}, idx ix u = some v → v.length = u.length
  | [], v, h => by cases h; rfl
  | c :: u, v, h => by
    unfold idx at h
    cases h1 : ix c with
    | none => rw [h1] at h; cases h
    | some k =>
      cases h2 : idx ix u with
      | none => rw [h1, h2] at h; cases h
      | some v' =>
        rw [h1, h2] at h
        cases h
        rw [List.length_cons, List.length_cons, idx_len h2]
/-- the texts of a language -/
def Txl (ix : Nat → Option Nat) (L : Lg) (tx : List Nat) : Prop := ∃ v, idx ix tx = some v ∧ L v
theorem txl_rs {T : Tbl} {G : Nat → Prop} {ix : Nat → Option Nat} {tx : List Nat} : Txl ix (AccS T G) tx ↔ ∃ t, rs T ix (st T) tx = some t ∧ G t := by
  unfold Txl AccS
  rw [rs_idx]
  cases idx ix tx with
  | none => exact ⟨fun ⟨v, h, _⟩ => (by cases h), fun ⟨t, h, _⟩ => (by cases h)⟩
  | some v =>
    constructor
    · rintro ⟨v', h, h2⟩
      cases h
      exact h2
    · exact fun h => ⟨v, rfl, h⟩
theorem Txl.congr {ix : Nat → Option Nat} {L L' : Lg} {tx : List Nat} (h : ∀ w, L w ↔ L' w) : Txl ix L tx ↔ Txl ix L' tx := ⟨fun ⟨v, a, b⟩ => ⟨v, a, (h v).mp b⟩, fun ⟨v, a, b⟩ => ⟨v, a, (h v).mpr b⟩⟩
/-! ### the normal form and its language -/
theorem Nf.lang {T : Tbl} {G : Nat → Prop} {m : Nat} {R : Tbl} {g : List Nat} (h : Nf T G m R g) (w : List Nat) : AccS R (fun j => j ∈ g) w ↔ AccS T G w := by
  obtain ⟨h1, h2⟩ := h.read w
  constructor
  · rintro ⟨j, e, hj⟩
    obtain ⟨t, e2, _, h3⟩ := h2 j e
    exact ⟨t, e2, h3.mp hj⟩
  · rintro ⟨t, e, ht⟩
    cases e2 : rn R (st R) w with
    | none => exact absurd (liv_good ht) (h1 e2 t e)
    | some j =>
      obtain ⟨t', e3, _, h3⟩ := h2 j e2
      rw [e] at e3
      cases e3
      exact ⟨j, e2, h3.mpr ht⟩
/-- every state of the normal form can reach a good one -/
theorem Nf.live {T : Tbl} {G : Nat → Prop} {m : Nat} {R : Tbl} {g : List Nat} (h : Nf T G m R g) {j : Nat} (hj : j < R.length) : Liv R (fun j => j ∈ g) j := by
  rcases h with ⟨rfl, _, _⟩ | ⟨met, h⟩
  · exact absurd hj (Nat.not_lt_zero _)
  · obtain ⟨w, s, es, a⟩ := h.ab.live j hj
    obtain ⟨t, e1, e2⟩ := a
    obtain ⟨b1, b2⟩ := h.sim w j s s es (Leq.refl s)
    cases e : rn R (some j) w with
    | none => exact absurd (liv_good e2) (b1 e t e1)
    | some i =>
      obtain ⟨t', t1, e3, e4, e5⟩ := b2 i e
      rw [e1] at e3
      cases e3
      exact ⟨w, i, e, (h.good i).mpr ⟨t1, e4, e5.good.mp e2⟩⟩
/-! ### beginnings -/
def BeL (L : Lg) : Lg := fun w => ∃ v, L (w ++ v)
theorem rn_some {T : Tbl} {o : Option Nat} {u v : List Nat} {t : Nat} (h : rn T o (u ++ v) = some t) : ∃ s, rn T o u = some s ∧ rn T (some s) v = some t := by
  rw [rn_app] at h
  cases e : rn T o u with
  | none => rw [e, rn_none] at h; cases h
  | some s => exact ⟨s, rfl, by rw [e] at h; exact h⟩
theorem bel_iff {T : Tbl} {G : Nat → Prop} {w : List Nat} : BeL (AccS T G) w ↔ ∃ t, rn T (st T) w = some t ∧ Liv T G t := by
  constructor
  · rintro ⟨v, t, e, g⟩
    obtain ⟨s, e1, e2⟩ := rn_some e
    exact ⟨s, e1, v, t, e2, g⟩
  · rintro ⟨s, e1, v, t, e2, g⟩
    exact ⟨v, t, by rw [rn_app, e1]; exact e2, g⟩
theorem bel_bel {L : Lg} {w : List Nat} : BeL (BeL L) w ↔ BeL L w := by
  constructor
  · rintro ⟨v, u, h⟩
    exact ⟨v ++ u, by rw [← List.append_assoc]; exact h⟩
  · rintro ⟨v, h⟩
    exact ⟨v, [], by rw [List.append_nil]; exact h⟩
theorem BeL.congr {L L' : Lg} (h : ∀ w, L w ↔ L' w) (w : List Nat) : BeL L w ↔ BeL L' w := ⟨fun ⟨v, a⟩ => ⟨v, (h _).mp a⟩, fun ⟨v, a⟩ => ⟨v, (h _).mpr a⟩⟩
theorem rn_lt {T : Tbl} {m : Nat} (wf : Wf T m) : ∀ {w : List Nat} {o : Option Nat} {t : Nat}, (∀ j, o = some j → j < T.length) → rn T o w = some t → t < T.length
  | [], o, t, h, e => h t (by cases o <;> exact e)
  | k :: w, none, t, h, e => by cases e
  | k :: w, some s, t, h, e => rn_lt wf (fun j hj => (nx_lt wf hj).1) (show rn T (nx T s k) w = some t from e)
theorem st_lt' (T : Tbl) : ∀ j, st T = some j → j < T.length := fun j h => by
  unfold st at h
  split at h
  · cases h
  · cases h
    omega
/-! ### endless ways -/
def LaL (L : Lg) : Prop := ∃ B : List Nat → Prop, B [] ∧ ∀ u, B u → L u ∧ ∃ k, B (u ++ [k])
def UnL (L : Lg) : Lg := fun w => ∀ u, u <+: w → LaL fun v => L (u ++ v)
def La (T : Tbl) (G : Nat → Prop) (s : Nat) : Prop := ∃ A : Nat → Prop, A s ∧ ∀ x, A x → G x ∧ ∃ k e, nx T x k = some e ∧ A e
theorem La.out {T : Tbl} {G : Nat → Prop} {s : Nat} (h : La T G s) : G s ∧ ∃ k e, nx T s k = some e ∧ La T G e := by
  obtain ⟨A, a, h⟩ := h
  obtain ⟨g, k, e, n, b⟩ := h s a
  exact ⟨g, k, e, n, A, b, h⟩
theorem LaL.congr {L L' : Lg} (h : ∀ w, L w ↔ L' w) : LaL L ↔ LaL L' := ⟨fun ⟨B, a, b⟩ => ⟨B, a, fun u hu => ⟨(h u).mp (b u hu).1, (b u hu).2⟩⟩, fun ⟨B, a, b⟩ => ⟨B, a, fun u hu => ⟨(h u).mpr (b u hu).1, (b u hu).2⟩⟩⟩
theorem UnL.congr {L L' : Lg} (h : ∀ w, L w ↔ L' w) (w : List Nat) : UnL L w ↔ UnL L' w := ⟨fun a u hu => (LaL.congr fun v => h _).mp (a u hu), fun a u hu => (LaL.congr fun v => h _).mpr (a u hu)⟩
theorem rn_snoc {T : Tbl} {o : Option Nat} {u : List Nat} {k t : Nat} (h : rn T o u = some t) : rn T o (u ++ [k]) = nx T t k := by
  rw [rn_app, h]
  show rn T (nx T t k) [] = nx T t k
  cases nx T t k <;> rfl
theorem la_lal {T : Tbl} {G : Nat → Prop} {s : Nat} : La T G s ↔ LaL fun v => Acc T G s v := by
  constructor
  · intro h
    refine ⟨fun u => ∃ t, rn T (some s) u = some t ∧ La T G t, ⟨s, rfl, h⟩, ?_⟩
    rintro u ⟨t, e, l⟩
    obtain ⟨g, k, e', n, l'⟩ := l.out
    exact ⟨⟨t, e, g⟩, k, e', by rw [rn_snoc e]; exact n, l'⟩
  · rintro ⟨B, b0, h⟩
    refine ⟨fun t => ∃ u, B u ∧ rn T (some s) u = some t, ⟨[], b0, rfl⟩, ?_⟩
    rintro t ⟨u, bu, e⟩
    obtain ⟨⟨t', e', g⟩, k, bk⟩ := h u bu
    rw [e] at e'
    cases e'
    obtain ⟨⟨t2, e2, _⟩, _⟩ := h _ bk
    have e3 := e2
    rw [rn_snoc e] at e3
    exact ⟨g, k, t2, e3, _, bk, e2⟩
theorem lal_at {T : Tbl} {G : Nat → Prop} {u : List Nat} : (LaL fun v => AccS T G (u ++ v)) ↔ ∃ t, rn T (st T) u = some t ∧ La T G t := by
  cases e : rn T (st T) u with
  | none =>
    constructor
    · rintro ⟨B, b0, h⟩
      obtain ⟨⟨t, h1, _⟩, _⟩ := h [] b0
      rw [rn_app, e, rn_none] at h1
      cases h1
    · rintro ⟨t, h, _⟩
      cases h
  | some s =>
    have key : ∀ v, AccS T G (u ++ v) ↔ Acc T G s v := fun v => by
      unfold AccS Acc
      rw [rn_app, e]
    constructor
    · intro h
      exact ⟨s, rfl, la_lal.mpr ((LaL.congr key).mp h)⟩
    · rintro ⟨t, h, l⟩
      cases h
      exact (LaL.congr key).mpr (la_lal.mp l)
theorem unl_iff {T : Tbl} {G : Nat → Prop} {w : List Nat} : UnL (AccS T G) w ↔ ∀ u, u <+: w → ∃ t, rn T (st T) u = some t ∧ La T G t :=
  ⟨fun h u hu => lal_at.mp (h u hu), fun h u hu => lal_at.mpr (h u hu)⟩
theorem pre_cases {u v x : List Nat} (h : x <+: u ++ v) : x <+: u ∨ ∃ y, y <+: v ∧ x = u ++ y := by
  obtain ⟨z, e⟩ := h
  rcases List.append_eq_append_iff.mp e with ⟨a, e1, e2⟩ | ⟨a, e1, e2⟩
  · exact .inl ⟨a, e1.symm⟩
  · exact .inr ⟨a, ⟨z, e2.symm⟩, e1⟩
theorem unl_unl {L : Lg} {w : List Nat} : UnL (UnL L) w ↔ UnL L w := by
  constructor
  · intro h u hu
    obtain ⟨B, b0, hb⟩ := h u hu
    have := (hb [] b0).1 u (by rw [List.append_nil]; exact List.prefix_refl u)
    exact this
  · intro h u hu
    obtain ⟨B, b0, hb⟩ := h u hu
    refine ⟨fun v => ∀ y, y <+: v → B y, fun y hy => ?_, fun v hv => ⟨fun x hx => ?_, ?_⟩⟩
    · rw [List.prefix_nil.mp hy]
      exact b0
    · rcases pre_cases hx with hx | ⟨y, hy, rfl⟩
      · exact h x (hx.trans hu)
      · refine ⟨fun z => B (y ++ z), by show B (y ++ []); rw [List.append_nil]; exact hv y hy, fun z hz => ?_⟩
        obtain ⟨a, k, b⟩ := hb _ hz
        exact ⟨by show L (u ++ y ++ z); rw [List.append_assoc]; exact a, k, by show B (y ++ (z ++ [k])); rw [← List.append_assoc]; exact b⟩
    · obtain ⟨_, k, b⟩ := hb v (hv v (List.prefix_refl v))
      refine ⟨k, fun y hy => ?_⟩
      rcases pre_cases hy with hy | ⟨z, hz, rfl⟩
      · exact hv y hy
      · rcases List.prefix_cons_iff.mp hz with rfl | ⟨t, rfl, ht⟩
        · rw [List.append_nil]
          exact hv v (List.prefix_refl v)
        · rw [List.prefix_nil.mp ht]
          exact b
/-- the rows that lead to lasting states alone -/
theorem kept_acc {T T' : Tbl} {A : Nat → Prop} (h0 : 0 < T.length) (hl : T'.length = T.length) (a0 : A 0) (hn : ∀ s k e, nx T' s k = some e ↔ nx T s k = some e ∧ A e) (w : List Nat) : (∃ t, rn T' (st T') w = some t) ↔ ∀ u, u <+: w → ∃ t, rn T (st T) u = some t ∧ A t := by
  have e1 : st T = some 0 := if_neg (by omega)
  have e2 : st T' = some 0 := if_neg (by omega)
  rw [e1, e2]
  have key : ∀ (w : List Nat) (s : Nat), A s → ((∃ t, rn T' (some s) w = some t) ↔ ∀ u, u <+: w → ∃ t, rn T (some s) u = some t ∧ A t) := by
    intro w
    induction w with
    | nil =>
      intro s hs
      exact ⟨fun _ u hu => by rw [List.prefix_nil.mp hu]; exact ⟨s, rfl, hs⟩, fun _ => ⟨s, rfl⟩⟩
    | cons k w ih =>
      intro s hs
      constructor
      · rintro ⟨t, e⟩ u hu
        rcases List.prefix_cons_iff.mp hu with rfl | ⟨v, rfl, hv⟩
        · exact ⟨s, rfl, hs⟩
        · have e : rn T' (nx T' s k) w = some t := e
          cases c : nx T' s k with
          | none => rw [c, rn_none] at e; cases e
          | some e' =>
            obtain ⟨c1, c2⟩ := (hn s k e').mp c
            rw [c] at e
            obtain ⟨t', h1, h2⟩ := (ih e' c2).mp ⟨t, e⟩ v hv
            exact ⟨t', by show rn T (nx T s k) v = some t'; rw [c1]; exact h1, h2⟩
      · intro h
        obtain ⟨e', h1, h2⟩ := h [k] ⟨w, rfl⟩
        have h1 : rn T (nx T s k) [] = some e' := h1
        have c1 : nx T s k = some e' := by cases c : nx T s k <;> rw [c] at h1 <;> exact h1
        obtain ⟨t, e⟩ := (ih e' h2).mpr fun v hv => by
          obtain ⟨t, h3, h4⟩ := h (k :: v) (List.prefix_cons_iff.mpr (.inr ⟨v, rfl, hv⟩))
          exact ⟨t, by have h3 : rn T (nx T s k) v = some t := h3; rw [c1] at h3; exact h3, h4⟩
        exact ⟨t, by show rn T' (nx T' s k) w = some t; rw [(hn s k e').mpr ⟨c1, h2⟩]; exact e⟩
  exact key w 0 a0
end Mc
namespace Mc
structure Kpa (T : Tbl) (A : Nat → Prop) (m : Nat) (T' : Tbl) : Prop where
  len : T'.length = T.length
  wf : Wf T' m
  nx : ∀ s k e, nx T' s k = some e ↔ nx T s k = some e ∧ A e
theorem kpa_of {T : Tbl} {A : Nat → Prop} {m : Nat} {al : Nat → Bool} (wf : Wf T m) (h : ∀ s, s < T.length → (al s = true ↔ A s)) : Kpa T A m (kpT al T) where
  len := List.length_map ..
  wf := ⟨fun r hr => by
    obtain ⟨r0, h0, rfl⟩ := List.mem_map.mp hr
    rw [List.length_map]
    exact wf.row r0 h0, fun r hr e he => by
    obtain ⟨r0, h0, rfl⟩ := List.mem_map.mp hr
    obtain ⟨o, ho, h1⟩ := List.mem_map.mp he
    have := (kp_some.mp h1).1
    subst this
    unfold kpT
    rw [List.length_map]
    exact wf.ent r0 h0 e ho⟩
  nx := fun s k e => by
    rw [nx_kp, kp_some]
    constructor
    · rintro ⟨h1, h2⟩
      exact ⟨h1, (h e (nx_lt wf h1).1).mp h2⟩
    · rintro ⟨h1, h2⟩
      exact ⟨h1, (h e (nx_lt wf h1).1).mpr h2⟩
/-- the language of the kept rows, all states good -/
theorem Kpa.acc {T T' : Tbl} {A : Nat → Prop} {m : Nat} (h : Kpa T A m T') (h0 : 0 < T.length) (a0 : A 0) (w : List Nat) : AccS T' (fun j => j ∈ List.range T'.length) w ↔ ∀ u, u <+: w → ∃ t, rn T (st T) u = some t ∧ A t := by
  rw [← kept_acc h0 h.len a0 h.nx]
  constructor
  · rintro ⟨t, e, _⟩
    exact ⟨t, e⟩
  · rintro ⟨t, e⟩
    exact ⟨t, e, List.mem_range.mpr (rn_lt h.wf (st_lt' T') e)⟩
theorem unl_empty {T : Tbl} {G : Nat → Prop} (h : T = [] ∨ ¬ La T G 0) (w : List Nat) : ¬ UnL (AccS T G) w := by
  rw [unl_iff]
  intro z
  obtain ⟨t, e, l⟩ := z [] ⟨w, rfl⟩
  rcases h with rfl | h
  · cases e
  · unfold st at e
    split at e
    · cases e
    · cases e
      exact h l
end Mc
namespace Mc
theorem Nf.len {T : Tbl} {G : Nat → Prop} {m : Nat} {R : Tbl} {g : List Nat} (h : Nf T G m R g) : R.length ≤ T.length := by
  rcases h with ⟨rfl, _, _⟩ | ⟨met, h⟩
  · exact Nat.zero_le _
  · rw [h.len]
    have nd : met.Nodup := by
      rw [List.Nodup, List.pairwise_iff_getElem]
      intro i j hi hj hij e
      have h1 := List.getElem?_eq_getElem hi
      have h2 := List.getElem?_eq_getElem hj
      have := h.ap i j _ _ h1 h2 (by rw [e]; exact Leq.refl _)
      omega
    exact nd_len nd fun x hx => (h.live x hx).1
end Mc
namespace Mc
/-- one round over all states that takes out the ones that cannot go on -/
theorem round_out {T : Tbl} {m r : Nat} {a0 al : Nat → Bool} (wf : Wf T m) (h0 : r ≤ cnt (fun s => !a0 s) T.length ∨ ∀ s, s < T.length → a0 s = true → ∃ k e, nx T s k = some e ∧ a0 e = true) (mo : ∀ s, al s = true → a0 s = true) (cl : (∀ s, s < T.length → a0 s = true → ∃ k e, nx T s k = some e ∧ a0 e = true) → ∀ s, al s = a0 s)
    (st : ∀ s, s < T.length → al s = true → ∃ k e, nx T s k = some e ∧ a0 e = true) : r + 1 ≤ cnt (fun s => !al s) T.length ∨ ∀ s, s < T.length → al s = true → ∃ k e, nx T s k = some e ∧ al e = true := by
  by_cases c : ∀ s, s < T.length → a0 s = true → ∃ k e, nx T s k = some e ∧ a0 e = true
  · right
    intro s hs h2
    rw [cl c] at h2
    obtain ⟨k, e, h3, h4⟩ := c s hs h2
    exact ⟨k, e, h3, by rw [cl c]; exact h4⟩
  · have h1 := h0.resolve_right c
    by_cases d : ∃ x, x < T.length ∧ a0 x = true ∧ al x = false
    · obtain ⟨x, hx, e1, e2⟩ := d
      have := cnt_lt (al := fun s => !a0 s) (bl := fun s => !al s) (n := T.length) (fun s _ h => by
        cases e : al s with
        | false => rfl
        | true =>
          have h : (!a0 s) = true := h
          rw [mo s e] at h
          cases h) hx (show (!a0 x) = false by rw [e1]; rfl) (show (!al x) = true by rw [e2]; rfl)
      left
      omega
    · refine absurd (fun s hs h2 => ?_) c
      cases e4 : al s with
      | true => exact st s hs e4
      | false => exact absurd ⟨s, hs, h2, e4⟩ d
end Mc
namespace Mc
theorem kept_sub {T T' : Tbl} (h : ∀ s k e, nx T' s k = some e → nx T s k = some e) : ∀ (w : List Nat) (o : Option Nat) (t : Nat), rn T' o w = some t → rn T o w = some t
  | [], o, t, e => by cases o <;> exact e
  | k :: w, none, t, e => by cases e
  | k :: w, some s, t, e => by
    have e : rn T' (nx T' s k) w = some t := e
    show rn T (nx T s k) w = some t
    cases c : nx T' s k with
    | none => rw [c, rn_none] at e; cases e
    | some e' =>
      rw [c] at e
      rw [h s k e' c]
      exact kept_sub h w (some e') t e
/-- the same, the lasting states good -/
theorem Kpa.acc2 {T T' : Tbl} {A G' : Nat → Prop} {m : Nat} (h : Kpa T A m T') (h0 : 0 < T.length) (a0 : A 0) (hg : ∀ j, G' j ↔ j < T.length ∧ A j) (w : List Nat) : AccS T' G' w ↔ ∀ u, u <+: w → ∃ t, rn T (st T) u = some t ∧ A t := by
  have e0 : st T' = st T := by rw [show st T = some 0 from if_neg (by omega), show st T' = some 0 from if_neg (by have := h.len; omega)]
  rw [← h.acc h0 a0]
  constructor
  · rintro ⟨t, e, g⟩
    exact ⟨t, e, List.mem_range.mpr (rn_lt h.wf (st_lt' T') e)⟩
  · intro z
    obtain ⟨t, e, g⟩ := z
    have z2 := (h.acc h0 a0 w).mp ⟨t, e, g⟩ w (List.prefix_refl w)
    obtain ⟨t2, e2, a⟩ := z2
    have e3 := kept_sub (fun s k e h1 => ((h.nx s k e).mp h1).1) w _ _ e
    rw [e0, e2] at e3
    cases e3
    exact ⟨t, e, (hg t).mpr ⟨by have := rn_lt h.wf (st_lt' T') e; rw [h.len] at this; exact this, a⟩⟩
end Mc
set_option Elab.async false
set_option linter.all false
set_option maxRecDepth 100000
set_option maxHeartbeats 4000000
namespace Z
open Mc PySem PySem.Spec PyProof.Rows L2
/-- the rows of a table, each copied (c: into lists, else into tuples) -/
def rwO (c : Bool) (r : List (Option Nat)) : HO := if c then .lst (r.map eV) else .tup (r.map eV)
theorem lc_rows {K : PySem.W.Frag} {q c : Bool} {a D : Addr} {zs : List (Addr × List (Option Nat))} {H0 : Hp} {i : Nat} {te : TE} {vs : List Nat} {σ : L2.St} {Qd : Hp → Prop} (hT : Tb true q K H0 a zs) (hn : zs.length ≤ 1000000) (nD : H0 D = none) (hw : ∀ x : Addr, wipe ((wipe σ vs).set i (some (.ref x))) vs = wipe σ vs)
    (ht : ∀ (x : Addr) (r : List (Option Nat)) J (Q : VK), Same H0 J → r ∈ tb zs → SqK q K J x (r.map eV) → (∀ l, J l = none → Q (.ref l) (upd J l (rwO c r))) → te ((wipe σ vs).set i (some (.ref x))) J Q)
    (hd : ∀ J (hs : List (Addr × List (Option Nat))), Same H0 J → J D = some (.lst (hs.map fun z => V.ref z.1)) → tb hs = tb zs → (∀ z ∈ hs, J z.1 = some (rwO c z.2) ∧ H0 z.1 = none ∧ z.1 ≠ D) → Qd J) : lcW (Itl K a) (gName i) tYes te vs σ D Qd H0 := by
  have hS : SqL K H0 a (zs.map fun z => V.ref z.1) := hT.sq
  have ex : ∀ k (hk : k < zs.length), (zs.map fun z => V.ref z.1)[k]? = some (V.ref (zs[k]).1) := fun k hk => by
    rw [List.getElem?_map, List.getElem?_eq_getElem hk]
    rfl
  refine lc_gen (n := zs.length) (fun k J => Same H0 J ∧ ∃ hs : List (Addr × List (Option Nat)), J D = some (.lst (hs.map fun z => V.ref z.1)) ∧ hs.length = k ∧ tb hs = (tb zs).take k ∧ ∀ z ∈ hs, J z.1 = some (rwO c z.2) ∧ H0 z.1 = none ∧ z.1 ≠ D) ⟨same_new nD, [], upd_same, rfl, rfl, fun z h => absurd h (by simp)⟩ (fun k J hk p => ⟨_, _, p.1.seq hS, ex k hk⟩) (fun J p => ⟨_, p.1.seq hS, by rw [List.length_map]; exact Nat.le_refl _⟩) ?_ ?_
  · rintro k J x J' hk ⟨s1, hs, eD, ll, et, fr⟩ ⟨rfl, y⟩
    have y := y _ (s1.seq hS)
    rw [ex k hk] at y
    cases y
    refine ⟨hw _, ?_⟩
    dsimp only [tYes]
    rw [if_pos rfl]
    have mk : (zs[k]).2 ∈ tb zs := List.mem_map.mpr ⟨_, List.getElem_mem hk, rfl⟩
    refine ht _ (zs[k]).2 J' _ s1 mk (Z.Same.sqK s1 (hT.at_ _ (List.getElem_mem hk))) fun l nl => ?_
    have lD : D ≠ l := ne_of_none eD nl
    have nlH : H0 l = none := none_of s1 nl
    refine ⟨_, by rw [upd_ne lD]; exact eD, by rw [List.length_map, ll]; exact Nat.lt_of_lt_of_le (show k < 2000000 by omega) (by decide), Z.Same.mut (s1.trans (same_new nl)) nD, hs ++ [(l, (zs[k]).2)], by rw [upd_same, List.map_append]; rfl, by rw [List.length_append, ll]; rfl, ?_, fun z h => ?_⟩
    · unfold tb at et ⊢
      rw [List.map_append, et, List.take_succ, List.getElem?_map, List.getElem?_eq_getElem hk]
      rfl
    · rcases List.mem_append.mp h with h | h
      · obtain ⟨f1, f2, f3⟩ := fr z h
        exact ⟨by rw [upd_ne f3, upd_ne (ne_of_none f1 nl)]; exact f1, f2, f3⟩
      · rw [List.mem_singleton.mp h]
        exact ⟨by rw [upd_ne lD.symm, upd_same], nlH, lD.symm⟩
  · rintro J ⟨s1, hs, eD, ll, et, fr⟩
    refine hd J hs s1 eD ?_ fr
    rw [et, List.take_of_length_le (by unfold tb; rw [List.length_map]; exact Nat.le_refl _)]
/-- a store to a list leaves the machines as they are -/
theorem McAt.lst {C : Addr} {K : PySem.W.Frag} {H : Hp} {n p : Addr} {l : List Nat} {R : Tbl} {g : List Nat} {xs : List V} {o : HO} (hp : H p = some (.lst xs)) (h : McAt C K H n l R g) : McAt C K (upd H p o) n l R g := by
  have tk : ∀ {a : Addr} {ys : List V}, SqK false K H a ys → SqK false K (upd H p o) a ys := fun {a ys} h => by
    rcases h with (h | ⟨o', h⟩) | h
    · exact .inl (.inl (by rw [upd_ne (fun e => by rw [e, hp] at h; cases h)]; exact h))
    · exact .inl (.inr ⟨o', by rw [upd_ne (fun e => by rw [e, hp] at h; cases h)]; exact h⟩)
    · exact .inr h
  obtain ⟨dx, r, u, zr, h1, h2, h3, h4⟩ := h.ex
  refine ⟨dx, r, u, zr, ?_, ⟨tk h2.sq, fun z m => tk (h2.at_ z m)⟩, ?_, h4⟩
  · rw [upd_ne (fun e => by rw [e, hp] at h1; cases h1)]
    exact h1
  · rw [upd_ne (fun e => by rw [e, hp] at h3; cases h3)]
    exact h3
theorem cut_gsq (gs : List Nat) (lo hi : Option Int) : ∃ g2 : List Nat, cutV (gsq gs) lo hi = gsq g2 ∧ (∀ s ∈ g2, s ∈ gs) ∧ g2.length ≤ gs.length := by
  unfold cutV gsq
  rw [List.length_map, ← List.map_drop, ← List.map_take]
  exact ⟨_, rfl, fun s h => List.mem_of_mem_drop (List.mem_of_mem_take h), by rw [List.length_take, List.length_drop]; omega⟩
end Z
set_option pp.maxSteps 700
set_option Elab.async false
set_option linter.all false
set_option maxRecDepth 100000
set_option maxHeartbeats 4000000
open SX (S S_inj S_len S_cat)
namespace Z
open Mc
open PySem PySem.Spec PyProof.Rows L2
open C8 (pss_cut tCut)
local macro_rules | `(tactic| walk_at "num") => `(tactic| first | rfl | omega | decide | exact Nat.le_of_lt (small1000 (by simp)) | exact ⟨by omega, by omega⟩ | exact ⟨by omega, by omega, by omega⟩ | exact ⟨by decide, by decide, by decide⟩ | exact Or.inl ⟨by omega, by omega⟩ | exact Or.inr ⟨by omega, by omega⟩)
local macro_rules | `(tactic| walk_at "go") => `(tactic| repeat (first | refine ⟨_, rfl, ?_⟩ | refine ⟨_, _, rfl, rfl, ?_⟩ | refine ⟨_, _, rfl, ?_⟩ | (refine ⟨_, _, rfl, rfl, ?_, ?_⟩; focus walk_at "num") | refine Or.inl ⟨_, rfl, ?_⟩ | refine ⟨_, _, _, _, rfl, rfl, (by assumption), (by rfl), ?_⟩ | refine ⟨_, _, _, _, _, rfl, (by assumption), (by assumption), (by assumption), (by rfl), ?_⟩ | refine ⟨rfl, ?_⟩ | (refine And.intro ?_ ?_; focus walk_at "num")))
section
variable {P : Program} {w : World} {K : PySem.W.Frag} {mg : Str → Option Value} {base : Heap} {f C : Addr} {fd : FuncData}
def spM3 (C : Addr) (K : PySem.W.Frag) : Sp := fun vs H Q _ => ∃ (q q2 : Bool) (a : Addr) (l : List Nat) (gv : V) (zs : List (Addr × List (Option Nat))) (gs : List Nat), vs = [.str (S l), .ref a, gv] ∧ l.Nodup ∧ l ≠ [] ∧ l.length ≤ 1000 ∧ Tb q q2 K H a zs ∧ Wf (tb zs) l.length ∧ zs.length ≤ 1000000 ∧ GoodV K H zs.length gv gs ∧
  ∀ (n : Addr) (R : Tbl) (g' : List Nat) H', Same H H' → H n = none → McAt C K H' n l R g' → Nf (tb zs) (inG gs) l.length R g' → Q (.ref n) H'
def spM2 (C : Addr) (K : PySem.W.Frag) : Sp := fun vs H Q _ => ∃ (q q2 : Bool) (a : Addr) (l : List Nat) (zs : List (Addr × List (Option Nat))), vs = [.str (S l), .ref a] ∧ l.Nodup ∧ l ≠ [] ∧ l.length ≤ 1000 ∧ Tb q q2 K H a zs ∧ Wf (tb zs) l.length ∧ zs.length ≤ 1000000 ∧
  ∀ (n : Addr) (R : Tbl) (g' : List Nat) H', Same H H' → H n = none → McAt C K H' n l R g' → Nf (tb zs) (inG (List.range zs.length)) l.length R g' → Q (.ref n) H'
theorem GoodV.mono {H H' : Hp} {n : Nat} {gv : V} {gs : List Nat} (s : Same H H') (h : GoodV K H n gv gs) : GoodV K H' n gv gs := by
  obtain ⟨h1, h2⟩ := h
  refine ⟨?_, h2⟩
  rcases h1 with h1 | ⟨q3, g, e, hg⟩
  · exact .inl h1
  · exact .inr ⟨q3, g, e, Z.Same.sqK s hg⟩
theorem m3_imp : ∀ vs H Q E, spM3 C K vs H Q E → ∀ n dx, H n = none → H dx = none → dx ≠ n → spMIni C K (.ref n :: vs) (upd (upd H dx (.own n)) n (.ins C dx [])) (fun v H2 => v = .non ∧ Q (.ref n) H2) E := by
  rintro vs H Q E ⟨q, q2, a, l, gv, zs, gs, rfl, nd, ne, ll, hT, wf, lz, hg, qq⟩ n dx n1 n2 n3
  have sm : Same H (upd (upd H dx (.own n)) n (.ins C dx [])) := Z.Same.mut (same_new n2) n1
  refine ⟨q, q2, n, dx, a, l, gv, zs, gs, rfl, upd_same, nd, ne, ll, hT.mono sm, wf, lz, hg.mono sm, fun r u zr g' H' sb en hR eu nf => ⟨rfl, ?_⟩⟩
  exact qq n (tb zr) g' H' (fun c o e => sb c o (fun z => by rw [z, n1] at e; cases e) (sm c o e)) n1 ⟨dx, r, u, zr, en, hR, eu, rfl⟩ nf
theorem m2_imp : ∀ vs H Q E, spM2 C K vs H Q E → ∀ n dx, H n = none → H dx = none → dx ≠ n → spMIni C K (.ref n :: (vs ++ [.non])) (upd (upd H dx (.own n)) n (.ins C dx [])) (fun v H2 => v = .non ∧ Q (.ref n) H2) E := by
  rintro vs H Q E ⟨q, q2, a, l, zs, rfl, nd, ne, ll, hT, wf, lz, qq⟩ n dx n1 n2 n3
  exact m3_imp _ H Q E ⟨q, q2, a, l, .non, zs, List.range zs.length, rfl, nd, ne, ll, hT, wf, lz, ⟨.inl ⟨rfl, rfl⟩, fun s h => List.mem_range.mp h⟩, qq⟩ n dx n1 n2 n3
/-! ### machines by their languages -/
structure McL (C : Addr) (K : PySem.W.Frag) (H : Hp) (n : Addr) (l : List Nat) (sz : Nat) (L : Lg) : Prop where
  ex : ∃ (R : Tbl) (g : List Nat) (T : Tbl) (G : Nat → Prop), McAt C K H n l R g ∧ Nf T G l.length R g ∧ R.length ≤ sz ∧ ∀ w, AccS T G w ↔ L w
theorem McL.mono {H H' : Hp} {n : Addr} {l : List Nat} {sz : Nat} {L : Lg} (s : Same H H') (h : McL C K H n l sz L) : McL C K H' n l sz L := by
  obtain ⟨R, g, T, G, h1, h2, hz, h3⟩ := h.ex
  exact ⟨R, g, T, G, h1.mono s, h2, hz, h3⟩
theorem McL.congr {H : Hp} {n : Addr} {l : List Nat} {sz : Nat} {L L' : Lg} (e : ∀ w, L w ↔ L' w) (h : McL C K H n l sz L) : McL C K H n l sz L' := by
  obtain ⟨R, g, T, G, h1, h2, hz, h3⟩ := h.ex
  exact ⟨R, g, T, G, h1, h2, hz, fun w => (h3 w).trans (e w)⟩
theorem McL.at_ {H : Hp} {n : Addr} {l : List Nat} {sz : Nat} {L : Lg} (h : McL C K H n l sz L) : ∃ (R : Tbl) (g : List Nat), McAt C K H n l R g ∧ R.length ≤ sz ∧ Wf R l.length ∧ (∀ j ∈ g, j < R.length) ∧ (∀ j, j < R.length → Liv R (inG g) j) ∧ ∀ w, AccS R (inG g) w ↔ L w := by
  obtain ⟨R, g, T, G, h1, h2, hz, h3⟩ := h.ex
  exact ⟨R, g, h1, hz, h2.wf.1, h2.wf.2, fun j hj => h2.live hj, fun w => (h2.lang w).trans (h3 w)⟩
theorem McL.same {H : Hp} {n n' : Addr} {l : List Nat} {sz sz' : Nat} {L L' : Lg} (h : McL C K H n l sz L) (h' : McL C K H n' l sz' L') (e : ∀ w, L w ↔ L' w) : ∃ (R : Tbl) (g : List Nat), McAt C K H n l R g ∧ McAt C K H n' l R g := by
  obtain ⟨R, g, T, G, h1, h2, hz, h3⟩ := h.ex
  obtain ⟨R', g', T', G', h1', h2', hz', h3'⟩ := h'.ex
  obtain ⟨rfl, rfl⟩ := h2.uniq h2' fun w => (h3 w).trans ((e w).trans (h3' w).symm)
  exact ⟨R, g, h1, h1'⟩
theorem McL.ins {H : Hp} {n : Addr} {l : List Nat} {sz : Nat} {L : Lg} (h : McL C K H n l sz L) : ∃ dx r u, H n = some (.ins C dx (mF l r u)) := by
  obtain ⟨R, g, T, G, h1, h2, hz, h3⟩ := h.ex
  obtain ⟨dx, r, u, zr, e, _⟩ := h1.ex
  exact ⟨dx, r, u, e⟩
def spL3 (C : Addr) (K : PySem.W.Frag) : Sp := fun vs H Q _ => ∃ (q q2 : Bool) (a : Addr) (l : List Nat) (gv : V) (zs : List (Addr × List (Option Nat))) (gs : List Nat), vs = [.str (S l), .ref a, gv] ∧ l.Nodup ∧ l ≠ [] ∧ l.length ≤ 1000 ∧ Tb q q2 K H a zs ∧ Wf (tb zs) l.length ∧ zs.length ≤ 1000000 ∧ GoodV K H zs.length gv gs ∧
  ∀ (n : Addr) H', Same H H' → H n = none → McL C K H' n l zs.length (AccS (tb zs) (inG gs)) → Q (.ref n) H'
def spL2 (C : Addr) (K : PySem.W.Frag) : Sp := fun vs H Q _ => ∃ (q q2 : Bool) (a : Addr) (l : List Nat) (zs : List (Addr × List (Option Nat))), vs = [.str (S l), .ref a] ∧ l.Nodup ∧ l ≠ [] ∧ l.length ≤ 1000 ∧ Tb q q2 K H a zs ∧ Wf (tb zs) l.length ∧ zs.length ≤ 1000000 ∧
  ∀ (n : Addr) H', Same H H' → H n = none → McL C K H' n l zs.length (AccS (tb zs) (inG (List.range zs.length))) → Q (.ref n) H'
theorem l3_imp : ∀ vs H Q E, spL3 C K vs H Q E → ∀ n dx, H n = none → H dx = none → dx ≠ n → spMIni C K (.ref n :: vs) (upd (upd H dx (.own n)) n (.ins C dx [])) (fun v H2 => v = .non ∧ Q (.ref n) H2) E := by
  rintro vs H Q E ⟨q, q2, a, l, gv, zs, gs, e, nd, ne, ll, hT, wf, lz, hg, qq⟩
  exact m3_imp vs H Q E ⟨q, q2, a, l, gv, zs, gs, e, nd, ne, ll, hT, wf, lz, hg, fun n R g' H' s nn hM nf => qq n H' s nn ⟨R, g', _, _, hM, nf, by have := nf.len; unfold tb at this; rwa [List.length_map] at this, fun _ => Iff.rfl⟩⟩
theorem l2_imp : ∀ vs H Q E, spL2 C K vs H Q E → ∀ n dx, H n = none → H dx = none → dx ≠ n → spMIni C K (.ref n :: (vs ++ [.non])) (upd (upd H dx (.own n)) n (.ins C dx [])) (fun v H2 => v = .non ∧ Q (.ref n) H2) E := by
  rintro vs H Q E ⟨q, q2, a, l, zs, e, nd, ne, ll, hT, wf, lz, qq⟩
  exact m2_imp vs H Q E ⟨q, q2, a, l, zs, e, nd, ne, ll, hT, wf, lz, fun n R g' H' s nn hM nf => qq n H' s nn ⟨R, g', _, _, hM, nf, by have := nf.len; unfold tb at this; rwa [List.length_map] at this, fun _ => Iff.rfl⟩⟩
theorem accB_iff {g : List Nat} {o : Option Nat} : accB g o = true ↔ ∃ t, o = some t ∧ t ∈ g := by
  cases o with
  | none => exact ⟨fun h => (by cases h), fun ⟨t, h, _⟩ => (by cases h)⟩
  | some j => exact ⟨fun h => ⟨j, rfl, of_decide_eq_true h⟩, fun ⟨t, h, ht⟩ => by cases h; exact decide_eq_true ht⟩
def spInL (C : Addr) (K : PySem.W.Frag) : Sp := fun vs H Q _ => ∃ (n : Addr) (l t : List Nat) (sz : Nat) (L : Lg), vs = [.ref n, .str (S t)] ∧ McL C K H n l sz L ∧ l.Nodup ∧ ∀ b : Bool, (b = true ↔ Txl (ixOf l) L t) → Q (.bl b) H
theorem inL_imp : ∀ vs H Q E, spInL C K vs H Q E → spIn C K vs H Q E := by
  rintro vs H Q E ⟨n, l, t, sz, L, rfl, hM, nd, q⟩
  obtain ⟨R, g, h1, _, h2, h3, _, h4⟩ := hM.at_
  refine ⟨n, l, t, R, g, rfl, h1, nd, h2, q _ ?_⟩
  rw [accB_iff, ← Txl.congr h4, txl_rs]
  exact Iff.rfl
def spEqL (C : Addr) (K : PySem.W.Frag) : Sp := fun vs H Q _ => ∃ (n m : Addr) (l l' : List Nat) (sz sz' : Nat) (L L' : Lg), vs = [.ref n, .ref m] ∧ McL C K H n l sz L ∧ McL C K H m l' sz' L' ∧ ∀ b : Bool, (b = true ↔ (l = l' ∧ ∀ w, L w ↔ L' w)) → Q (.bl b) H
theorem eqL_imp : ∀ vs H Q E, spEqL C K vs H Q E → spEqM C K vs H Q E := by
  rintro vs H Q E ⟨n, m, l, l', sz, sz', L, L', rfl, hM, hN, q⟩
  obtain ⟨R, g, T, G, h1, h2, hz, h3⟩ := hM.ex
  obtain ⟨R', g', T', G', h1', h2', hz', h3'⟩ := hN.ex
  refine ⟨n, m, l, l', R, R', g, g', rfl, h1, h1', q _ ?_⟩
  rw [decide_eq_true_iff]
  constructor
  · rintro ⟨rfl, rfl, rfl⟩
    exact ⟨rfl, fun w => (h3 w).symm.trans ((h2.lang w).symm.trans ((h2'.lang w).trans (h3' w)))⟩
  · rintro ⟨rfl, e⟩
    exact ⟨rfl, h2.uniq h2' fun w => (h3 w).trans ((e w).trans (h3' w).symm)⟩
theorem beq_iff {a b : Bool} {p q : Prop} (ha : a = true ↔ p) (hb : b = true ↔ q) (h : p ↔ q) : a = b := by
  cases a <;> cases b
  · rfl
  · exact absurd (ha.mpr (h.mpr (hb.mp rfl))) Bool.false_ne_true
  · exact absurd (hb.mpr (h.mp (ha.mp rfl))) Bool.false_ne_true
  · rfl
end
end Z
set_option Elab.async false
set_option linter.all false
set_option maxRecDepth 100000
set_option maxHeartbeats 4000000
namespace Z
open PySem PySem.Spec PyProof.Rows L2
/-! ### list(x), x a text -/
def rListS : List V → Hp → VK → Prop := fun xs H Q => ∃ z : Str, xs = [.str z] ∧ z.length ≤ sizeLine ∧ ∀ q, H q = none → Q (.ref q) (upd H q (.lst (z.cps.toList.map fun c => V.str ⟨#[c]⟩)))
theorem call_listS {X : Cx} (hc : X.calm = true) : CallR X (.type "list") rListS := by
  intro pins s σ H xs us Q I r h
  obtain ⟨z, e, hz, q⟩ := h
  subst e
  obtain ⟨u, eu, rx⟩ := vals1 r
  subst eu
  obtain ⟨t, rfl⟩ := rx
  have hn : z.cps.size ≤ sizeLine := hz
  refine PySem.call_list_str (I.ok.hd hc) z t (fun h' tk acc' c' hkeep hS hacc => ?_) hn
  refine ⟨.ref s.heap.objs.size, upd H s.heap.objs.size (.lst (z.cps.toList.map fun c => V.str ⟨#[c]⟩)), I.laid hkeep (Nat.le_refl _) (show ObjOk X.prog X.w _ _ _ (.lst (z.cps.toList.map fun c => V.str ⟨#[c]⟩)) from ⟨?_, acc'.toList, c', ?_, ?_⟩), rfl, q _ (I.hok.fresh (Nat.le_refl _))⟩
  · rw [List.length_map, Array.length_toList]
    exact hn
  · have el : acc'.toList.length = acc'.size := by simp
    refine vals_of_at (by rw [List.length_map, el, hacc.1, Array.length_toList]) fun j x w h1 h2 => ?_
    obtain ⟨c, u, e1, rfl⟩ := hacc.2 j w (by rw [← Array.getElem?_toList]; exact h2)
    rw [List.getElem?_map, Array.getElem?_toList, e1] at h1
    cases h1
    exact ⟨u, rfl⟩
  · exact hS
end Z
set_option linter.all false
set_option maxRecDepth 100000
namespace Mc
def og (G : Nat → Prop) (o : Option Nat) : Prop := ∃ t, o = some t ∧ G t
/-! ### the four duties: 0 never, 1 only_after, 2 answered, 3 at_most -/
def entD (md a b t s x : Nat) : Option Nat := match md with
  | 0 => if x = a then none else some 0
  | 1 => if s = 0 then (if x = a then none else some (if x = b then 1 else 0)) else some 1
  | 2 => some (if s = 0 then (if x = a then 1 else 0) else (if x = a ∨ x ≠ b then 1 else 0))
  | _ => if x = a then (if s < t then some (s + 1) else none) else some s
def szD (md t : Nat) : Nat := match md with | 0 => 1 | 1 => 2 | 2 => 2 | _ => t + 1
def dtT (md : Nat) (l : List Nat) (a b t : Nat) : Tbl := (List.range (szD md t)).map fun s => l.map (entD md a b t s)
def dtG (md t : Nat) : List Nat := if md = 2 then [0] else List.range (szD md t)
theorem dtT_len (md : Nat) (l : List Nat) (a b t : Nat) : (dtT md l a b t).length = szD md t := by unfold dtT; rw [List.length_map, List.length_range]
theorem szD_pos (md t : Nat) : 0 < szD md t := by unfold szD; split <;> omega
theorem entD_lt {md a b t s x e : Nat} (hs : s < szD md t) (h : entD md a b t s x = some e) : e < szD md t := by
  match md with
  | 0 =>
    have hs : s < 1 := hs
    have h : (if x = a then none else some 0) = some e := h
    show e < 1
    split at h
    · cases h
    · cases h
      omega
  | 1 =>
    have h : (if s = 0 then (if x = a then none else some (if x = b then 1 else 0)) else some 1) = some e := h
    show e < 2
    split at h
    · split at h
      · cases h
      · cases h
        split <;> omega
    · cases h
      omega
  | 2 =>
    have h : some (if s = 0 then (if x = a then 1 else 0) else (if x = a ∨ x ≠ b then 1 else 0)) = some e := h
    show e < 2
    cases h
    split <;> split <;> omega
  | n + 3 =>
    have hs : s < t + 1 := hs
    have h : (if x = a then (if s < t then some (s + 1) else none) else some s) = some e := h
    show e < t + 1
    split at h
    · split at h
      · cases h
        omega
      · cases h
    · cases h
      exact hs
theorem mg0 {t : Nat} : 0 ∈ dtG 0 t := List.mem_range.mpr (Nat.lt_succ_self 0)
theorem mg10 {t : Nat} : 0 ∈ dtG 1 t := List.mem_range.mpr (show 0 < 2 by decide)
theorem mg11 {t : Nat} : 1 ∈ dtG 1 t := List.mem_range.mpr (show 1 < 2 by decide)
theorem mg20 {t : Nat} : 0 ∈ dtG 2 t := List.mem_singleton.mpr rfl
theorem mg21 {t : Nat} : 1 ∉ dtG 2 t := fun h => absurd (List.mem_singleton.mp h) (by decide)
theorem dtT_wf (md : Nat) (l : List Nat) (a b t : Nat) : Wf (dtT md l a b t) l.length := by
  refine ⟨fun r hr => ?_, fun r hr e he => ?_⟩
  · obtain ⟨s, _, rfl⟩ := List.mem_map.mp hr
    exact List.length_map ..
  · obtain ⟨s, hs, rfl⟩ := List.mem_map.mp hr
    obtain ⟨x, _, h⟩ := List.mem_map.mp he
    rw [dtT_len]
    exact entD_lt (List.mem_range.mp hs) h
theorem dtG_lt {md t s : Nat} (h : s ∈ dtG md t) : s < szD md t := by
  unfold dtG at h
  split at h
  · rw [List.mem_singleton.mp h]
    exact szD_pos _ _
  · exact List.mem_range.mp h
theorem dtT_nx {md : Nat} {l : List Nat} {a b t s k x : Nat} (hs : s < szD md t) (hk : l[k]? = some x) : nx (dtT md l a b t) s k = entD md a b t s x :=
  nx_at (r := l.map (entD md a b t s)) (by unfold dtT; rw [List.getElem?_map, List.getElem?_range hs]; rfl) (by rw [List.getElem?_map, hk]; rfl)
def runD (md a b t : Nat) : Option Nat → List Nat → Option Nat
  | o, [] => o
  | none, _ :: _ => none
  | some s, x :: r => runD md a b t (entD md a b t s x) r
theorem runD_none (md a b t : Nat) : ∀ r, runD md a b t none r = none
  | [] => rfl
  | _ :: _ => rfl
theorem rs_dtT {md : Nat} {l : List Nat} {a b t : Nat} : ∀ {tx : List Nat} {s : Nat}, s < szD md t → (∀ c ∈ tx, c ∈ l) → rs (dtT md l a b t) (ixOf l) (some s) tx = runD md a b t (some s) tx
  | [], s, hs, h => rfl
  | x :: r, s, hs, h => by
    have hx := h x List.mem_cons_self
    have e1 : rs (dtT md l a b t) (ixOf l) (some s) (x :: r) = rs (dtT md l a b t) (ixOf l) (rs (dtT md l a b t) (ixOf l) (some s) [x]) r := by
      rw [← rs_app]
      rfl
    obtain ⟨k, ek⟩ : ∃ k, ixOf l x = some k := by
      cases e : ixOf l x with
      | none => exact absurd hx (ixOf_none.mp e)
      | some k => exact ⟨k, rfl⟩
    rw [e1, rs_one, ek]
    show rs _ _ (nx (dtT md l a b t) s k) r = runD md a b t (entD md a b t s x) r
    rw [dtT_nx hs (ixOf_some ek)]
    cases e2 : entD md a b t s x with
    | none => rw [rs_none, runD_none]
    | some e => exact rs_dtT (entD_lt hs e2) fun c hc => h c (List.mem_cons_of_mem _ hc)
/-! ### the scans -/
/-- each a has a b somewhere before it -/
def Bef (a b : Nat) (tx : List Nat) : Prop := ∀ k : Nat, tx[k]? = some a → b ∈ tx.take k
/-- each a has a b somewhere behind it -/
def Beh (a b : Nat) (tx : List Nat) : Prop := ∀ k : Nat, tx[k]? = some a → b ∈ tx.drop (k + 1)
def DueD (md a b t : Nat) (tx : List Nat) : Prop := match md with
  | 0 => a ∉ tx
  | 1 => Bef a b tx
  | 2 => Beh a b tx
  | _ => tx.count a ≤ t
theorem beh_cons {a b x : Nat} {r : List Nat} : Beh a b (x :: r) ↔ (x = a → b ∈ r) ∧ Beh a b r := by
  constructor
  · intro h
    refine ⟨fun e => ?_, fun k hk => ?_⟩
    · have := h 0 (by rw [e]; rfl)
      exact this
    · exact h (k + 1) hk
  · rintro ⟨h1, h2⟩ k hk
    cases k with
    | zero =>
      injection hk with hk
      exact h1 hk
    | succ k => exact h2 k hk
theorem run0 {a b t : Nat} : ∀ tx : List Nat, og (fun s => s ∈ dtG 0 t) (runD 0 a b t (some 0) tx) ↔ a ∉ tx
  | [] => ⟨fun _ => List.not_mem_nil, fun _ => ⟨0, rfl, mg0⟩⟩
  | x :: r => by
    show og _ (runD 0 a b t (if x = a then none else some 0) r) ↔ _
    by_cases c : x = a
    · rw [if_pos c, runD_none]
      exact ⟨fun ⟨t, e, _⟩ => (by cases e), fun h => absurd (by rw [c]; exact List.mem_cons_self) h⟩
    · rw [if_neg c, run0 r]
      exact ⟨fun h m => by
        rcases List.mem_cons.mp m with m | m
        · exact c m.symm
        · exact h m, fun h m => h (List.mem_cons_of_mem _ m)⟩
theorem run1one {a b t : Nat} : ∀ tx : List Nat, runD 1 a b t (some 1) tx = some 1
  | [] => rfl
  | x :: r => by
    show runD 1 a b t (some 1) r = some 1
    exact run1one r
theorem run1 {a b t : Nat} : ∀ tx : List Nat, og (fun s => s ∈ dtG 1 t) (runD 1 a b t (some 0) tx) ↔ Bef a b tx
  | [] => ⟨fun _ k h => (by cases h), fun _ => ⟨0, rfl, mg10⟩⟩
  | x :: r => by
    show og _ (runD 1 a b t (if x = a then none else some (if x = b then 1 else 0)) r) ↔ _
    by_cases c : x = a
    · rw [if_pos c, runD_none]
      refine ⟨fun ⟨t, e, _⟩ => (by cases e), fun h => ?_⟩
      have := h 0 (by rw [c]; rfl)
      cases this
    · rw [if_neg c]
      by_cases d : x = b
      · rw [if_pos d, run1one]
        refine ⟨fun _ k hk => ?_, fun _ => ⟨1, rfl, mg11⟩⟩
        cases k with
        | zero =>
          injection hk with hk
          exact absurd hk c
        | succ k =>
          show b ∈ x :: r.take k
          rw [d]
          exact List.mem_cons_self
      · rw [if_neg d, run1 r]
        constructor
        · intro h k hk
          cases k with
          | zero =>
            injection hk with hk
            exact absurd hk c
          | succ k => exact List.mem_cons_of_mem _ (h k hk)
        · intro h k hk
          have : b ∈ x :: r.take k := h (k + 1) hk
          rcases List.mem_cons.mp this with m | m
          · exact absurd m.symm d
          · exact m
theorem run2 {a b t : Nat} : ∀ tx : List Nat, (og (fun s => s ∈ dtG 2 t) (runD 2 a b t (some 0) tx) ↔ Beh a b tx) ∧ (og (fun s => s ∈ dtG 2 t) (runD 2 a b t (some 1) tx) ↔ b ∈ tx ∧ Beh a b tx)
  | [] => ⟨⟨fun _ k h => (by cases h), fun _ => ⟨0, rfl, mg20⟩⟩, ⟨fun ⟨s, e, h⟩ => (by cases e; exact absurd h mg21), fun ⟨h, _⟩ => (by cases h)⟩⟩
  | x :: r => by
    obtain ⟨h0, h1⟩ := run2 (a := a) (b := b) (t := t) r
    constructor
    · show og _ (runD 2 a b t (some (if x = a then 1 else 0)) r) ↔ _
      rw [beh_cons]
      by_cases c : x = a
      · rw [if_pos c, h1]
        exact ⟨fun ⟨p, q⟩ => ⟨fun _ => p, q⟩, fun ⟨p, q⟩ => ⟨p c, q⟩⟩
      · rw [if_neg c, h0]
        exact ⟨fun p => ⟨fun e => absurd e c, p⟩, fun ⟨_, q⟩ => q⟩
    · show og _ (runD 2 a b t (some (if x = a ∨ x ≠ b then 1 else 0)) r) ↔ _
      rw [beh_cons, List.mem_cons]
      by_cases c : x = a
      · rw [if_pos (.inl c), h1]
        exact ⟨fun ⟨p, q⟩ => ⟨.inr p, fun _ => p, q⟩, fun ⟨_, p, q⟩ => ⟨p c, q⟩⟩
      · by_cases d : x = b
        · rw [if_neg (fun h => h.elim c fun e => e d), h0]
          exact ⟨fun p => ⟨.inl d.symm, fun e => absurd e c, p⟩, fun ⟨_, _, q⟩ => q⟩
        · rw [if_pos (.inr d), h1]
          exact ⟨fun ⟨p, q⟩ => ⟨.inr p, fun e => absurd e c, q⟩, fun ⟨p, _, q⟩ => ⟨p.elim (fun e => absurd e.symm d) id, q⟩⟩
theorem run3 {a b t : Nat} : ∀ (tx : List Nat) (s : Nat), s ≤ t → (og (fun s => s ∈ dtG 3 t) (runD 3 a b t (some s) tx) ↔ s + tx.count a ≤ t)
  | [], s, hs => ⟨fun _ => hs, fun _ => ⟨s, rfl, List.mem_range.mpr (Nat.lt_succ_of_le hs)⟩⟩
  | x :: r, s, hs => by
    show og _ (runD 3 a b t (if x = a then (if s < t then some (s + 1) else none) else some s) r) ↔ _
    by_cases c : x = a
    · subst c
      rw [if_pos rfl, List.count_cons_self]
      by_cases d : s < t
      · rw [if_pos d, run3 r (s + 1) d]
        constructor <;> intro h <;> omega
      · rw [if_neg d, runD_none]
        exact ⟨fun ⟨t, e, _⟩ => (by cases e), fun h => absurd h (by omega)⟩
    · rw [if_neg c, List.count_cons_of_ne (fun e => c e), run3 r s hs]
theorem due_acc {md : Nat} {l : List Nat} {a b t : Nat} (h4 : md < 4) {tx : List Nat} (h : ∀ c ∈ tx, c ∈ l) : Txl (ixOf l) (AccS (dtT md l a b t) fun s => s ∈ dtG md t) tx ↔ DueD md a b t tx := by
  have e0 : st (dtT md l a b t) = some 0 := if_neg (by rw [dtT_len]; have := szD_pos md t; omega)
  rw [txl_rs, e0, rs_dtT (szD_pos md t) h]
  show og (fun s => s ∈ dtG md t) (runD md a b t (some 0) tx) ↔ _
  obtain rfl | rfl | rfl | rfl : md = 0 ∨ md = 1 ∨ md = 2 ∨ md = 3 := by omega
  · exact run0 tx
  · exact run1 tx
  · exact (run2 tx).1
  · rw [run3 tx 0 (Nat.zero_le _), Nat.zero_add]
    exact Iff.rfl
end Mc
set_option linter.all false
set_option maxRecDepth 100000
namespace Mc
/-- the entries typed by the law, ahead of the None -/
def entR (md a b s x : Nat) : Option Nat := match md with
  | 0 => some s
  | 1 => some (if x = b then (if s < 1 then 1 else s) else s)
  | 2 => if x = a then some 1 else some (if x = b then 0 else s)
  | _ => if x = a then some (s + 1) else some s
def tabR (md : Nat) (l : List Nat) (a b t : Nat) : Tbl := (List.range (szD md t)).map fun s => l.map (entR md a b s)
theorem set_none {md a b t i : Nat} {l : List Nat} {j : Nat} (h0 : entD md a b t i a = none) (h : ∀ x ∈ l, x ≠ a → entR md a b i x = entD md a b t i x) (nd : l.Nodup) (hj : l[j]? = some a) : (l.map (entR md a b i)).set j none = l.map (entD md a b t i) := by
  refine List.ext_getElem? fun k => ?_
  by_cases c : k = j
  · subst c
    have hk := (List.getElem?_eq_some_iff.mp hj).1
    rw [List.getElem?_set_self (by rw [List.length_map]; exact hk), List.getElem?_map, hj]
    show _ = some (entD md a b t i a)
    rw [h0]
  · rw [List.getElem?_set_ne (fun e => c e.symm), List.getElem?_map, List.getElem?_map]
    cases e : l[k]? with
    | none => rfl
    | some x =>
      have xa : x ≠ a := fun z => by
        subst z
        have h1 := (List.getElem?_eq_some_iff.mp e).1
        exact c ((List.getElem?_inj h1 nd).mp (e.trans hj.symm))
      show some (entR md a b i x) = some (entD md a b t i x)
      rw [h x (List.mem_of_getElem? e) xa]
theorem tab2 (l : List Nat) (a b t : Nat) : tabR 2 l a b t = dtT 2 l a b t := by
  unfold tabR dtT
  refine List.map_congr_left fun s hs => List.map_congr_left fun x _ => ?_
  have hs : s < 2 := List.mem_range.mp hs
  show (if x = a then some 1 else some (if x = b then 0 else s)) = some (if s = 0 then (if x = a then 1 else 0) else (if x = a ∨ x ≠ b then 1 else 0))
  obtain rfl | rfl : s = 0 ∨ s = 1 := by omega
  · by_cases c : x = a
    · simp [c]
    · simp [c]
  · by_cases c : x = a
    · simp [c]
    · by_cases d : x = b
      · have d2 : ¬ b = a := fun h => c (d.trans h)
        simp [c, d, d2]
      · simp [c, d]
theorem tab_set {md : Nat} (h4 : md < 4) (h2 : md ≠ 2) {l : List Nat} {a b t i j : Nat} (hi : i = if md = 3 then t else 0) (nd : l.Nodup) (hj : l[j]? = some a) : (tabR md l a b t).set i ((l.map (entR md a b i)).set j none) = dtT md l a b t := by
  have key : ∀ s, s < szD md t → (if s = i then (l.map (entR md a b i)).set j none else l.map (entR md a b s)) = l.map (entD md a b t s) := fun s hs => by
    obtain rfl | rfl | rfl : md = 0 ∨ md = 1 ∨ md = 3 := by omega
    · rw [if_neg (by decide)] at hi
      have hs : s < 1 := hs
      rw [if_pos (by omega), show s = i by omega]
      refine set_none (if_pos rfl) (fun x _ c => ?_) nd hj
      show some i = if x = a then none else some 0
      rw [if_neg c, hi]
    · rw [if_neg (by decide)] at hi
      have hs : s < 2 := hs
      by_cases c : s = i
      · rw [if_pos c, c]
        subst hi
        refine set_none (if_pos rfl) (fun x _ c => ?_) nd hj
        show some _ = if x = a then none else some (if x = b then 1 else 0)
        rw [if_neg c]
        rfl
      · rw [if_neg c]
        have e : s = 1 := by omega
        subst e
        refine List.map_congr_left fun x _ => ?_
        show some (if x = b then 1 else 1) = some 1
        split <;> rfl
    · rw [if_pos rfl] at hi
      have hs : s < t + 1 := hs
      by_cases c : s = i
      · rw [if_pos c, c]
        subst hi
        refine set_none ?_ (fun x _ c => ?_) nd hj
        · show (if a = a then (if i < i then some (i + 1) else none) else some i) = none
          rw [if_pos rfl, if_neg (by omega)]
        · show (if x = a then some (i + 1) else some i) = if x = a then (if i < i then some (i + 1) else none) else some i
          rw [if_neg c, if_neg c]
      · rw [if_neg c]
        refine List.map_congr_left fun x _ => ?_
        show (if x = a then some (s + 1) else some s) = if x = a then (if s < t then some (s + 1) else none) else some s
        rw [if_pos (show s < t by omega)]
  have hi2 : i < szD md t := by
    rw [hi]
    split
    · rename_i c
      subst c
      exact Nat.lt_succ_self t
    · exact szD_pos _ _
  refine List.ext_getElem? fun s => ?_
  unfold tabR dtT
  rw [List.getElem?_map]
  by_cases hs : s < szD md t
  · rw [List.getElem?_range hs]
    have k := key s hs
    by_cases c : s = i
    · subst c
      rw [if_pos rfl] at k
      rw [List.getElem?_set_self (by rw [List.length_map, List.length_range]; exact hs), k]
      rfl
    · rw [if_neg c] at k
      rw [List.getElem?_set_ne (fun e => c e.symm), List.getElem?_map, List.getElem?_range hs]
      exact congrArg some k
  · rw [List.getElem?_eq_none (by rw [List.length_set, List.length_map, List.length_range]; omega), List.getElem?_eq_none (l := List.range _) (by rw [List.length_range]; omega)]
    rfl
end Mc
set_option pp.maxSteps 700
set_option Elab.async false
set_option linter.all false
set_option maxRecDepth 100000
set_option maxHeartbeats 4000000
open SX (S S_inj S_len S_cat)
namespace Z
open Mc
open PySem PySem.Spec PyProof.Rows L2
open C8 (pss_cut tCut)
local macro_rules | `(tactic| walk_at "num") => `(tactic| first | rfl | omega | decide | exact Nat.le_of_lt (small1000 (by simp)) | exact ⟨by omega, by omega⟩ | exact ⟨by omega, by omega, by omega⟩ | exact ⟨by decide, by decide, by decide⟩ | exact Or.inl ⟨by omega, by omega⟩ | exact Or.inr ⟨by omega, by omega⟩)
local macro_rules | `(tactic| walk_at "go") => `(tactic| repeat (first | refine ⟨_, rfl, ?_⟩ | refine ⟨_, _, rfl, rfl, ?_⟩ | refine ⟨_, _, rfl, ?_⟩ | (refine ⟨_, _, rfl, rfl, ?_, ?_⟩; focus walk_at "num") | refine Or.inl ⟨_, rfl, ?_⟩ | refine ⟨_, _, _, _, rfl, rfl, (by assumption), (by rfl), ?_⟩ | refine ⟨_, _, _, _, _, rfl, (by assumption), (by assumption), (by assumption), (by rfl), ?_⟩ | refine ⟨rfl, ?_⟩ | (refine And.intro ?_ ?_; focus walk_at "num")))
abbrev s_is_mark : Stmt := topS 27
abbrev N_is_mark : List Str := ["text"]
abbrev P_is_mark : List Str := ["text"]
theorem sc_is_mark : FnScope N_is_mark P_is_mark (defScope s_is_mark) := ⟨rfl, rfl, rfl, by decide +kernel, rfl, by decide +kernel, by decide +kernel⟩
abbrev s_check_mark : Stmt := topS 28
abbrev N_check_mark : List Str := ["mark"]
abbrev P_check_mark : List Str := ["mark"]
theorem sc_check_mark : FnScope N_check_mark P_check_mark (defScope s_check_mark) := ⟨rfl, rfl, rfl, by decide +kernel, rfl, by decide +kernel, by decide +kernel⟩
abbrev s_check_marks : Stmt := topS 29
abbrev N_check_marks : List Str := ["letters", "letter"]
abbrev P_check_marks : List Str := ["letters"]
theorem sc_check_marks : FnScope N_check_marks P_check_marks (defScope s_check_marks) := ⟨rfl, rfl, rfl, by decide +kernel, rfl, by decide +kernel, by decide +kernel⟩
abbrev s_check_names : Stmt := topS 32
abbrev N_check_names : List Str := ["letters", "marks", "mark"]
abbrev P_check_names : List Str := ["letters", "marks"]
theorem sc_check_names : FnScope N_check_names P_check_names (defScope s_check_names) := ⟨rfl, rfl, rfl, by decide +kernel, rfl, by decide +kernel, by decide +kernel⟩
/-- the marks -/
def MKL : List Nat := (Str.ofString "ABCDEFGHIJKLMNOPQRSTUVWXYZ").cps.toList
/-- what may be raised -/
inductive Er9 | L (l : List Nat) | M (t : List Nat) | C (v : Int)
def Er9.cls (CL CM CC : Addr) : Er9 → Addr | .L _ => CL | .M _ => CM | .C _ => CC
def Er9.fld : Er9 → List (Str × V) | .L l => [("letters", .str (S l))] | .M t => [("mark", .str (S t))] | .C v => [("value", .int v)]
def ErE (CL CM CC : Addr) (e : Er9) (E : XK) (H : Hp) : Prop := ∀ H' d, Same H H' → H' d = none → E (.ref (e.cls CL CM CC)) (some d) (upd H' d (.xd e.fld))
def okL (l : List Nat) : Bool := decide l.Nodup && decide (l ≠ [])
def badL (l : List Nat) : Option Er9 := if okL l = true then none else some (.L l)
def badM (l : List Nat) : Option Er9 := (l.find? fun c => !decide (c ∈ MKL)).map fun c => .M [c]
def okN (l t : List Nat) : Bool := decide (t.length = 1) && t.all fun c => decide (c ∈ l)
def badN (l : List Nat) (ms : List (List Nat)) : Option Er9 := (ms.find? fun t => !okN l t).map .M
def ckO (l : List Nat) (ms : List (List Nat)) : Option Er9 := match badL l with | some e => some e | none => match badM l with | some e => some e | none => badN l ms
def isMk (t : List Nat) : Bool := decide (t.length = 1) && t.all fun c => decide (c ∈ MKL)
section
variable {P : Program} {w : World} {K : PySem.W.Frag} {mg : Str → Option Value} {base : Heap} {f C CL CM CC : Addr} {fd : FuncData}
/-- it is done (d), or it raises -/
def OutE (CL CM CC : Addr) (o : Option Er9) (d : Prop) (E : XK) (H : Hp) : Prop := (o = none → d) ∧ ∀ e, o = some e → ErE CL CM CC e E H
def spCkX (CL CM CC : Addr) : Sp := fun vs H Q E => ∃ l : List Nat, vs = [.str (S l)] ∧ l.length ≤ 1000 ∧ OutE CL CM CC (badL l) (∀ H', Same H H' → Q .non H') E H
theorem ok_check_lettersX (F : FnP K "check_letters" s_check_letters f fd) (m_enumerate : mg "enumerate" = none) (x_BadLetters : Exn P w K mg base "BadLetters" CL "letters") : FnOk P w K mg base (L2N.CX P w) 3 f fd P_check_letters (spCkX CL CM CC) := by
  refine F.ok sc_check_letters (fun vs H Q E h => ?_) (fun cdv A outer s H vs Q E hr h => ?_)
  · obtain ⟨l, rfl, _⟩ := h
    rfl
  · obtain ⟨l, rfl, ll, q1, q2⟩ := h
    have tk := takes_fn (P := P) (w := w) (K := K) (mg := mg) (base := base) (N := N_check_letters) (qual := "check_letters") (scope := defScope s_check_letters) (f := f) (cd := cdv) (A := A) (outer := outer) (s := s) (H := H) (E := E)
    refine ⟨_, (pss_cons (ps_for (passes_of rfl) rfl (pi_enumS (by rfl) m_enumerate (pa_cons (pv 0) pa_nil)) (pg_tup rfl (pgs_cons (pg_name (i := 1) sc_check_letters.nd rfl (by first | exact .inl rfl | exact .inr rfl)) (pgs_cons (pg_name (i := 2) sc_check_letters.nd rfl (by first | exact .inl rfl | exact .inr rfl)) pgs_nil)))
        (pss_one (ps_if (pt_cmpR op_in_sign (pv 2) (pe_slice C8.sl_txt (pv 0) po_none (po_some (pv 1))) (by rfl)) (pss_one (ps_exn rfl tk x_BadLetters hr (by decide) (by rfl) (pa_cons (pv 0) pa_nil))) pss_nil)))
      (pss_one (ps_if (pt_cmpR op_eq (pv 0) pe_str (nomark _)) (pss_one (ps_exn rfl tk x_BadLetters hr (by decide) (by rfl) (pa_cons (pv 0) pa_nil))) pss_nil))), ?_⟩
    walk_at "go"
    refine for_enumS (K := K) (fun k σ H1 => Same H H1 ∧ (l.take k).Nodup ∧ ∃ v1 v2 : Option V, σ = [some (.str (S l)), v1, v2]) ⟨Same.refl _, List.nodup_nil, none, none, rfl⟩ ?_ ?_
    · rintro k c σ H1 H2 ec ⟨s1, nd, v1, v2, rfl⟩ s2
      have ec : l[k]? = some c := by simpa using ec
      have hk := (List.getElem?_eq_some_iff.mp ec).1
      walk_at "go"
      refine ⟨by rw [S_len]; exact Nat.le_trans ll (by decide), ?_⟩
      rw [SX.slice_to (by omega), Int.toNat_natCast]
      walk_at "go"
      by_cases c1 : c ∈ l.take k
      · rw [decide_eq_true (show c ∈ (S (l.take k)).cps.toList from c1)]
        walk_at "go"
        have nn : ¬ l.Nodup := fun h => by
          obtain ⟨j, hj, e⟩ := List.getElem_of_mem c1
          rw [List.length_take] at hj
          rw [List.getElem_take] at e
          have h2 := List.getElem?_eq_getElem (show j < l.length by omega)
          rw [e] at h2
          have := nd_inj h h2 ec
          omega
        have e1 : badL l = some (.L l) := by
          unfold badL okL
          rw [decide_eq_false nn]
          rfl
        exact mkx_of fun d nd => q2 _ e1 _ d (s1.trans s2) nd
      · rw [decide_eq_false (show ¬ c ∈ (S (l.take k)).cps.toList from c1)]
        walk_at "go"
        refine ⟨s1.trans s2, ?_, _, _, rfl⟩
        rw [List.take_succ, ec]
        refine List.nodup_append.mpr ⟨nd, List.nodup_cons.mpr ⟨List.not_mem_nil, List.nodup_nil⟩, fun a ha b hb => ?_⟩
        rw [List.mem_singleton.mp hb]
        rintro rfl
        exact c1 ha
    · rintro σ H1 ⟨s1, nd, v1, v2, rfl⟩
      rw [List.take_of_length_le (by simp)] at nd
      walk_at "go"
      by_cases c1 : l = []
      · subst c1
        rw [decide_eq_true (show V.str (S []) = V.str (Str.ofString "") from rfl)]
        walk_at "go"
        exact (mkx_of fun d nd => (show E (.ref CL) (some d) (upd H1 d (.xd [("letters", .str (S []))])) from q2 (.L []) rfl _ d s1 nd)).2
      · rw [decide_eq_false (show ¬ V.str (S l) = V.str (Str.ofString "") from fun z => by injection z with z; exact c1 (S_inj (z.trans (show Str.ofString "" = S [] from rfl))))]
        walk_at "go"
        refine q1 ?_ _ s1
        unfold badL okL
        rw [decide_eq_true nd, decide_eq_true c1]
        rfl
def spIsM : Sp := fun vs H Q _ => ∃ t : List Nat, vs = [.str (S t)] ∧ t.length ≤ 10000 ∧ ∀ b : Bool, b = isMk t → Q (.bl b) H
theorem ok_is_mark (F : FnP K "is_mark" s_is_mark f fd) (m_len : mg "len" = none) (tok_MARKS : Tok) (g_MARKS : mg "MARKS" = some (.str "ABCDEFGHIJKLMNOPQRSTUVWXYZ" tok_MARKS)) : FnOk P w K mg base CX0 1 f fd P_is_mark spIsM := by
  refine F.ok sc_is_mark (fun vs H Q E h => ?_) (fun cdv A outer s H vs Q E hr h => ?_)
  · obtain ⟨t, rfl, _⟩ := h
    rfl
  · obtain ⟨t, rfl, lt, q⟩ := h
    refine ⟨_, PSs.nox (pss_one (ps_ret (pe_and (pe_cmpR op_eq (pe_callB call_len_str (by rfl) m_len PySem.boot_len (pa_cons (pv 0) pa_nil)) pe_int (nomark _)) (pe_one (pe_cmpR op_in_sign (pv 0) (pe_glob (by rfl) g_MARKS (relv_str (x := "ABCDEFGHIJKLMNOPQRSTUVWXYZ"))) (by rfl)))))), ?_⟩
    walk_at "go"
    refine ⟨by rw [S_len]; exact Nat.le_trans lt (by decide), ?_⟩
    rw [S_len]
    refine ⟨rfl, _, rfl, ?_⟩
    by_cases c1 : t.length = 1
    · rw [decide_eq_true (show V.int (t.length : Int) = V.int 1 by rw [c1]; rfl)]
      match t, c1 with
      | [c], _ =>
        walk_at "go"
        refine q _ ?_
        unfold isMk
        rw [List.all_cons, List.all_nil, Bool.and_true]
        exact (Bool.true_and _).symm
    · rw [decide_eq_false (show ¬ V.int (t.length : Int) = V.int 1 from fun h => by injection h with h; omega)]
      walk_at "go"
      refine q _ ?_
      unfold isMk
      rw [decide_eq_false c1]
      rfl
def spChM (CL CM CC : Addr) : Sp := fun vs H Q E => ∃ t : List Nat, vs = [.str (S t)] ∧ t.length ≤ 10000 ∧ OutE CL CM CC (if isMk t = true then none else some (.M t)) (Q .non H) E H
theorem ok_check_mark (F : FnP K "check_mark" s_check_mark f fd) (c_is_mark : Cal P w K mg base 1 "is_mark" spIsM) (x_BadMark : Exn P w K mg base "BadMark" CM "mark") : FnOk P w K mg base (L2N.CX P w) 3 f fd P_check_mark (spChM CL CM CC) := by
  refine F.ok sc_check_mark (fun vs H Q E h => ?_) (fun cdv A outer s H vs Q E hr h => ?_)
  · obtain ⟨t, rfl, _⟩ := h
    rfl
  · obtain ⟨t, rfl, lt, q1, q2⟩ := h
    have tk := takes_fn (P := P) (w := w) (K := K) (mg := mg) (base := base) (N := N_check_mark) (qual := "check_mark") (scope := defScope s_check_mark) (f := f) (cd := cdv) (A := A) (outer := outer) (s := s) (H := H) (E := E)
    refine ⟨_, (pss_one (ps_if (pt_not (pt_val (pe_cl c_is_mark hr (by decide) (by rfl) (pa_cons (pv 0) pa_nil)))) (pss_one (ps_exn rfl tk x_BadMark hr (by decide) (by rfl) (pa_cons (pv 0) pa_nil))) pss_nil)), ?_⟩
    walk_at "go"
    intro b hb
    subst hb
    cases c : isMk t with
    | true =>
      rw [c] at q1
      walk_at "go"
      exact q1 rfl
    | false =>
      rw [c] at q2
      walk_at "go"
      exact mkx_of fun d nd => (show E (.ref CM) (some d) (upd H d (.xd [("mark", .str (S t))])) from q2 (.M t) rfl _ d (Same.refl _) nd)
def spChMs (CL CM CC : Addr) : Sp := fun vs H Q E => ∃ l : List Nat, vs = [.str (S l)] ∧ OutE CL CM CC (badM l) (∀ H', Same H H' → Q .non H') E H
theorem ok_check_marks (F : FnP K "check_marks" s_check_marks f fd) (c_check_mark : CalX P w K mg base 3 "check_mark" (spChM CL CM CC)) : FnOk P w K mg base (L2N.CX P w) 4 f fd P_check_marks (spChMs CL CM CC) := by
  refine F.ok sc_check_marks (fun vs H Q E h => ?_) (fun cdv A outer s H vs Q E hr h => ?_)
  · obtain ⟨l, rfl, _⟩ := h
    rfl
  · obtain ⟨l, rfl, q1, q2⟩ := h
    have tk := takes_fn (P := P) (w := w) (K := K) (mg := mg) (base := base) (N := N_check_marks) (qual := "check_marks") (scope := defScope s_check_marks) (f := f) (cd := cdv) (A := A) (outer := outer) (s := s) (H := H) (E := E)
    refine ⟨_, (pss_one (ps_for (passes_of rfl) rfl (pi_str (pv 0)) (pg_name (i := 1) sc_check_marks.nd rfl (by first | exact .inl rfl | exact .inr rfl))
        (pss_one (ps_expr (pe_clE c_check_mark (fun σ => L2N.passAt tk σ) hr (by decide) (by rfl) (pa_cons (pv 1) pa_nil)))))), ?_⟩
    walk_at "go"
    refine for_gen (n := l.length) (fun k σ J => Same H J ∧ (∀ c ∈ l.take k, c ∈ MKL) ∧ ∃ v1 : Option V, σ = [some (.str (S l)), v1]) ⟨Same.refl _, fun c h => absurd h (by simp), none, rfl⟩ ?_ ?_ ?_ ?_
    · rintro k σ J hk _
      show k < (S l).cps.size
      simpa using hk
    · rintro σ J _
      show (S l).cps.size ≤ l.length
      simp
    · rintro k σ J x J2 hk ⟨s1, ok, v1, rfl⟩ ⟨rfl, c, ec, rfl⟩
      have ec : l[k]? = some c := by simpa using ec
      walk_at "go"
      refine ⟨(show 1 ≤ 10000 by decide), fun e1 => ?_, fun e he H' d s2 nd => ?_⟩
      · have hc : c ∈ MKL := by
          by_cases hc : c ∈ MKL
          · exact hc
          · unfold isMk at e1
            rw [List.all_cons, decide_eq_false hc] at e1
            cases e1
        walk_at "go"
        refine ⟨fun x hx => ?_, _, rfl⟩
        rw [List.take_succ, ec] at hx
        rcases List.mem_append.mp hx with hx | hx
        · exact ok x hx
        · rw [List.mem_singleton.mp hx]
          exact hc
      · have hc : ¬ c ∈ MKL := fun hc => by
          unfold isMk at he
          rw [List.all_cons, decide_eq_true hc] at he
          cases he
        have he : some (Er9.M [c]) = some e := by
          unfold isMk at he
          rw [List.all_cons, decide_eq_false hc] at he
          exact he
        cases he
        have e1 : badM l = some (.M [c]) := by
          unfold badM
          have : (l.find? fun c => !decide (c ∈ MKL)) = some c := by
            rw [← List.take_append_drop k l, List.find?_append]
            have n1 : (l.take k).find? (fun c => !decide (c ∈ MKL)) = none := List.find?_eq_none.mpr fun x hx => by
              rw [decide_eq_true (ok x hx)]
              decide
            rw [n1, Option.none_or, List.drop_eq_getElem_cons (by omega), List.find?_cons]
            have e9 : l[k]'(by omega) = c := by
              have := List.getElem?_eq_getElem (l := l) (i := k) (by omega)
              rw [ec] at this
              exact (Option.some.inj this).symm
            rw [e9, decide_eq_false hc]
            rfl
          rw [this]
          rfl
        exact q2 _ e1 H' d (s1.trans s2) nd
    · rintro σ J ⟨s1, ok, v1, rfl⟩
      rw [List.take_of_length_le (Nat.le_refl _)] at ok
      walk_at "go"
      refine q1 ?_ _ s1
      unfold badM
      rw [List.find?_eq_none.mpr fun x hx => by rw [decide_eq_true (ok x hx)]; decide]
      rfl
def spCkNm (CL CM CC : Addr) (K : PySem.W.Frag) : Sp := fun vs H Q E => ∃ (l : List Nat) (m : Addr) (ms : List (List Nat)), vs = [.str (S l), .ref m] ∧ l.length ≤ 1000 ∧ SqL K H m (ms.map fun t => V.str (S t)) ∧ (∀ t ∈ ms, t.length ≤ 1000) ∧ OutE CL CM CC (ckO l ms) (∀ H', Same H H' → Q .non H') E H
theorem ok_check_names (F : FnP K "check_names" s_check_names f fd) (m_len : mg "len" = none) (x_check_letters : CalX P w K mg base 3 "check_letters" (spCkX CL CM CC)) (c_check_marks : CalX P w K mg base 4 "check_marks" (spChMs CL CM CC)) (x_BadMark : Exn P w K mg base "BadMark" CM "mark") : FnOk P w K mg base (L2N.CX P w) 5 f fd P_check_names (spCkNm CL CM CC K) := by
  have c_check_letters := x_check_letters
  refine F.ok sc_check_names (fun vs H Q E h => ?_) (fun cdv A outer s H vs Q E hr h => ?_)
  · obtain ⟨l, m, ms, rfl, _⟩ := h
    rfl
  · obtain ⟨l, m, ms, rfl, ll, hm, lm, q1, q2⟩ := h
    have tk := takes_fn (P := P) (w := w) (K := K) (mg := mg) (base := base) (N := N_check_names) (qual := "check_names") (scope := defScope s_check_names) (f := f) (cd := cdv) (A := A) (outer := outer) (s := s) (H := H) (E := E)
    refine ⟨_, (pss_cons (ps_expr (pe_clE c_check_letters (fun σ => L2N.passAt tk σ) hr (by decide) (by rfl) (pa_cons (pv 0) pa_nil)))
      (pss_cons (ps_expr (pe_clE c_check_marks (fun σ => L2N.passAt tk σ) hr (by decide) (by rfl) (pa_cons (pv 0) pa_nil)))
      (pss_one (ps_for (passes_of rfl) rfl (pi_list (pv 1)) (pg_name (i := 2) sc_check_names.nd rfl (by first | exact .inl rfl | exact .inr rfl))
        (pss_one (ps_if (PW.pt (pw_or (pt_cmpR op_ne (pe_callB call_len_str (by rfl) m_len PySem.boot_len (pa_cons (pv 2) pa_nil)) pe_int (nomark _)) (pw_or1 (pt_cmpR op_notIn_sign (pv 2) (pv 0) (by rfl))))) (pss_one (ps_exn rfl tk x_BadMark hr (by decide) (by rfl) (pa_cons (pv 2) pa_nil))) pss_nil)))))), ?_⟩
    walk_at "go"
    refine ⟨fun e1 H1 s1 => ?_, fun e he H' d s1 nd => q2 e (by unfold ckO; rw [he]) H' d s1 nd⟩
    walk_at "go"
    refine ⟨fun e2 H2 s2 => ?_, fun e he H' d s2 nd => q2 e (by unfold ckO; rw [e1]; dsimp only; rw [he]) H' d (s1.trans s2) nd⟩
    have eck : ckO l ms = badN l ms := by unfold ckO; rw [e1]; dsimp only; rw [e2]
    rw [eck] at q1 q2
    have s12 := s1.trans s2
    clear s1 s2 e1 e2
    walk_at "go"
    refine ⟨⟨_, s12.seq hm⟩, ?_⟩
    refine for_gen (n := ms.length) (fun k σ J => Same H J ∧ (∀ t ∈ ms.take k, okN l t = true) ∧ ∃ v2 : Option V, σ = [some (.str (S l)), some (.ref m), v2]) ⟨s12, fun c h => absurd h (by simp), none, rfl⟩ ?_ ?_ ?_ ?_
    · rintro k σ J hk ⟨s1, _⟩
      exact ⟨_, _, s1.seq hm, by rw [List.getElem?_map, List.getElem?_eq_getElem hk]; rfl⟩
    · rintro σ J ⟨s1, _⟩
      exact ⟨_, s1.seq hm, by rw [List.length_map]; exact Nat.le_refl _⟩
    · rintro k σ J x J2 hk ⟨s1, ok, v2, rfl⟩ ⟨rfl, ex⟩
      have ex := ex _ (s1.seq hm)
      rw [List.getElem?_map, List.getElem?_eq_getElem hk] at ex
      cases ex
      obtain ⟨t, ht⟩ : ∃ t, t = ms[k] := ⟨_, rfl⟩
      have lt := lm _ (List.getElem_mem hk)
      rw [← ht] at lt ⊢
      have bad : okN l t = false → badN l ms = some (.M t) := fun c => by
        unfold badN
        have : (ms.find? fun t => !okN l t) = some t := by
          rw [← List.take_append_drop k ms, List.find?_append]
          have n1 : (ms.take k).find? (fun t => !okN l t) = none := List.find?_eq_none.mpr fun x hx => by
            rw [ok x hx]
            decide
          rw [n1, Option.none_or, List.drop_eq_getElem_cons (by omega), List.find?_cons, ← ht, c]
          rfl
        rw [this]
        rfl
      have more : okN l t = true → ∀ x ∈ ms.take (k + 1), okN l x = true := fun c x hx => by
        rw [List.take_succ, List.getElem?_eq_getElem hk, ← ht] at hx
        rcases List.mem_append.mp hx with hx | hx
        · exact ok x hx
        · rw [List.mem_singleton.mp hx]
          exact c
      walk_at "go"
      refine ⟨by rw [S_len]; exact Nat.le_trans lt (by decide), ?_⟩
      rw [S_len]
      refine ⟨rfl, _, rfl, ?_⟩
      by_cases c1 : t.length = 1
      · rw [decide_eq_true (show V.int (t.length : Int) = V.int 1 by rw [c1]; rfl)]
        match t, c1 with
        | [c], _ =>
          walk_at "go"
          by_cases c2 : c ∈ l
          · have okc : okN l [c] = true := by
              unfold okN
              rw [List.all_cons, List.all_nil, decide_eq_true c2]
              rfl
            rw [decide_eq_true (show c ∈ (S l).cps.toList from c2)]
            walk_at "go"
            exact ⟨more okc, _, rfl⟩
          · have okc : okN l [c] = false := by
              unfold okN
              rw [List.all_cons, List.all_nil, decide_eq_false c2]
              rfl
            rw [decide_eq_false (show ¬ c ∈ (S l).cps.toList from c2)]
            walk_at "go"
            exact (mkx_of fun d nd => (show E (.ref CM) (some d) (upd J2 d (.xd [("mark", .str (S [c]))])) from q2 _ (bad okc) _ d s1 nd)).2
      · have okc : okN l t = false := by
          unfold okN
          rw [decide_eq_false c1]
          rfl
        rw [decide_eq_false (show ¬ V.int (t.length : Int) = V.int 1 from fun h => by injection h with h; omega)]
        walk_at "go"
        exact mkx_of fun d nd => q2 _ (bad okc) _ d s1 nd
    · rintro σ J ⟨s1, ok, v1, rfl⟩
      rw [List.take_of_length_le (Nat.le_refl _)] at ok
      walk_at "go"
      refine q1 ?_ _ s1
      unfold badN
      rw [List.find?_eq_none.mpr fun x hx => by rw [ok x hx]; decide]
      rfl
end
end Z
set_option pp.maxSteps 700
set_option Elab.async false
set_option linter.all false
set_option maxRecDepth 100000
set_option maxHeartbeats 4000000
open SX (S S_inj S_len S_cat)
namespace Z
open Mc
open PySem PySem.Spec PyProof.Rows L2
open C8 (pss_cut tCut)
local macro_rules | `(tactic| walk_at "num") => `(tactic| first | rfl | omega | decide | exact Nat.le_of_lt (small1000 (by simp)) | exact ⟨by omega, by omega⟩ | exact ⟨by omega, by omega, by omega⟩ | exact ⟨by decide, by decide, by decide⟩ | exact Or.inl ⟨by omega, by omega⟩ | exact Or.inr ⟨by omega, by omega⟩)
local macro_rules | `(tactic| walk_at "go") => `(tactic| repeat (first | refine ⟨_, rfl, ?_⟩ | refine ⟨_, _, rfl, rfl, ?_⟩ | refine ⟨_, _, rfl, ?_⟩ | (refine ⟨_, _, rfl, rfl, ?_, ?_⟩; focus walk_at "num") | refine Or.inl ⟨_, rfl, ?_⟩ | refine ⟨_, _, _, _, rfl, rfl, (by assumption), (by rfl), ?_⟩ | refine ⟨_, _, _, _, _, rfl, (by assumption), (by assumption), (by assumption), (by rfl), ?_⟩ | refine ⟨rfl, ?_⟩ | (refine And.intro ?_ ?_; focus walk_at "num")))
abbrev s_never : Stmt := topS 33
abbrev N_never : List Str := ["letters", "mark", "letter"]
abbrev P_never : List Str := ["letters", "mark"]
theorem sc_never : FnScope N_never P_never (defScope s_never) := ⟨rfl, rfl, rfl, by decide +kernel, rfl, by decide +kernel, by decide +kernel⟩
abbrev s_only_after : Stmt := topS 34
abbrev N_only_after : List Str := ["letters", "mark", "earlier", "letter", "closed"]
abbrev P_only_after : List Str := ["letters", "mark", "earlier"]
theorem sc_only_after : FnScope N_only_after P_only_after (defScope s_only_after) := ⟨rfl, rfl, rfl, by decide +kernel, rfl, by decide +kernel, by decide +kernel⟩
abbrev s_answered : Stmt := topS 35
abbrev N_answered : List Str := ["letters", "mark", "answer", "letter", "calm", "waiting"]
abbrev P_answered : List Str := ["letters", "mark", "answer"]
theorem sc_answered : FnScope N_answered P_answered (defScope s_answered) := ⟨rfl, rfl, rfl, by decide +kernel, rfl, by decide +kernel, by decide +kernel⟩
abbrev s_at_most : Stmt := topS 36
abbrev N_at_most : List Str := ["letters", "mark", "times", "rows", "state", "more", "letter"]
abbrev P_at_most : List Str := ["letters", "mark", "times"]
theorem sc_at_most : FnScope N_at_most P_at_most (defScope s_at_most) := ⟨rfl, rfl, rfl, by decide +kernel, rfl, by decide +kernel, by decide +kernel⟩
theorem dS (c a : Nat) : decide (V.str (S [c]) = V.str (S [a])) = decide (c = a) := by
  rw [decide_eq_decide]
  refine ⟨fun h => ?_, fun h => by rw [h]⟩
  injection h with h
  have := S_inj h
  injection this
structure TbR (H : Hp) (A : Addr) (zs : List (Addr × List (Option Nat))) : Prop where
  sq : H A = some (.lst (zs.map fun z => V.ref z.1))
  at_ : ∀ z ∈ zs, H z.1 = some (.lst (z.2.map eV))
theorem ones {a b : Nat} : ∀ l : List Nat, (List.replicate l.length [V.int 1]).flatten = (l.map (entD 1 a b 0 1)).map eV
  | [] => rfl
  | c :: l => by
    rw [List.length_cons, List.replicate_succ, List.flatten_cons, ones l]
    rfl
section
variable {P : Program} {w : World} {K : PySem.W.Frag} {mg : Str → Option Value} {base : Heap} {f C CL CM CC : Addr} {fd : FuncData}
/-- what is raised: the marks of the row, then the number -/
def erO (md : Nat) (l ta tb : List Nat) (t : Int) : Option Er9 := match ckO l (if md = 1 ∨ md = 2 then [ta, tb] else [ta]) with
  | some e => some e
  | none => if md = 3 ∧ ¬ (0 ≤ t ∧ t ≤ 9) then some (.C t) else none
/-- the machine of a duty -/
def MdE (C CL CM CC : Addr) (K : PySem.W.Frag) (md : Nat) (l ta tb : List Nat) (t : Int) (Q : VK) (E : XK) (H : Hp) : Prop :=
  OutE CL CM CC (erO md l ta tb t) (∀ (n : Addr) (a b : Nat) H', Same H H' → ta = [a] → (md = 1 ∨ md = 2 → tb = [b]) → McL C K H' n l (szD md t.toNat) (AccS (dtT md l a b t.toNat) fun s => s ∈ dtG md t.toNat) → Q (.ref n) H') E H
theorem okN_one {l t : List Nat} (h : okN l t = true) : ∃ c, t = [c] ∧ c ∈ l := by
  unfold okN at h
  obtain ⟨h1, h2⟩ := Bool.and_eq_true_iff.mp h
  have h1 := of_decide_eq_true h1
  match t, h1 with
  | [c], _ =>
    rw [List.all_cons, List.all_nil, Bool.and_true] at h2
    exact ⟨c, rfl, of_decide_eq_true h2⟩
theorem ckO_none {l : List Nat} {ms : List (List Nat)} (h : ckO l ms = none) : l.Nodup ∧ l ≠ [] ∧ (∀ c ∈ l, c ∈ MKL) ∧ ∀ t ∈ ms, ∃ c, t = [c] ∧ c ∈ l := by
  unfold ckO at h
  cases e1 : badL l with
  | some e => rw [e1] at h; cases h
  | none =>
    rw [e1] at h
    dsimp only at h
    cases e2 : badM l with
    | some e => rw [e2] at h; cases h
    | none =>
      rw [e2] at h
      dsimp only at h
      unfold badL at e1
      have o1 : okL l = true := by
        cases c : okL l with
        | true => rfl
        | false => rw [c] at e1; cases e1
      unfold okL at o1
      obtain ⟨o2, o3⟩ := Bool.and_eq_true_iff.mp o1
      refine ⟨of_decide_eq_true o2, of_decide_eq_true o3, fun c hc => ?_, fun t ht => ?_⟩
      · unfold badM at e2
        have e3 : (l.find? fun c => !decide (c ∈ MKL)) = none := Option.map_eq_none_iff.mp e2
        have := List.find?_eq_none.mp e3 c hc
        by_cases d : c ∈ MKL
        · exact d
        · rw [decide_eq_false d] at this
          exact absurd rfl this
      · unfold badN at h
        have e3 : (ms.find? fun t => !okN l t) = none := Option.map_eq_none_iff.mp h
        have := List.find?_eq_none.mp e3 t ht
        refine okN_one ?_
        cases d : okN l t with
        | true => rfl
        | false => rw [d] at this; exact absurd rfl this
/-- a list of entries over a row -/
theorem lc_ent {l : List Nat} (g : Nat → Option Nat) {D : Addr} {H0 : Hp} {i : Nat} {te : TE} {vs : List Nat} {σ : L2.St} {Qd : Hp → Prop} (hn : l.length ≤ 1000) (nD : H0 D = none) (hw : ∀ c : Nat, wipe ((wipe σ vs).set i (some (.str (S [c])))) vs = wipe σ vs)
    (ht : ∀ (c : Nat) J (Q : VK), c ∈ l → Same H0 J → Q (eV (g c)) J → te ((wipe σ vs).set i (some (.str (S [c])))) J Q)
    (hd : ∀ J, Same H0 J → J D = some (.lst ((l.map g).map eV)) → Qd J) : lcW (Its (S l)) (gName i) tYes te vs σ D Qd H0 := by
  refine lc_flt (n := l.length) (fun k => .str (S [l.getD k 0])) (fun _ => true) (fun k => eV (g (l.getD k 0))) (by omega) nD (fun k J hk s => ?_) (fun J s => ?_) (fun k J x J2 hk s y => ?_) (fun k => hw _) (fun k J Q1 _ _ q1 => q1 _ (Same.refl _)) (fun k J Q1 hk _ s q1 => ?_) (fun J s eD => ?_)
  · show k < (S l).cps.size
    simpa using hk
  · show (S l).cps.size ≤ l.length
    simp
  · obtain ⟨rfl, c, ec, rfl⟩ := y
    have ec : l[k]? = some c := by simpa using ec
    refine ⟨Same.refl _, ?_⟩
    rw [List.getD_eq_getElem?_getD, ec]
    rfl
  · refine ht _ J Q1 ?_ s (q1 _ (Same.refl _))
    rw [List.getD_eq_getElem?_getD, List.getElem?_eq_getElem hk]
    exact List.getElem_mem hk
  · refine hd J s ?_
    rw [eD]
    unfold fltL
    rw [List.filter_eq_self.mpr (fun _ _ => rfl), List.map_map]
    congr 2
    refine List.ext_getElem? fun k => ?_
    rw [List.getElem?_map, List.getElem?_map]
    by_cases hk : k < l.length
    · rw [List.getElem?_range hk, List.getElem?_eq_getElem hk]
      show some (eV (g (l.getD k 0))) = some (eV (g l[k]))
      rw [List.getD_eq_getElem?_getD, List.getElem?_eq_getElem hk]
      rfl
    · rw [List.getElem?_eq_none (by rw [List.length_range]; omega), List.getElem?_eq_none (by omega)]
      rfl
def spNev (C CL CM CC : Addr) (K : PySem.W.Frag) : Sp := fun vs H Q E => ∃ l ta : List Nat, vs = [.str (S l), .str (S ta)] ∧ l.length ≤ 1000 ∧ ta.length ≤ 1000 ∧ MdE C CL CM CC K 0 l ta [] 0 Q E H
theorem ok_never (F : FnP K "never" s_never f fd) (c_check_names : CalX P w K mg base 5 "check_names" (spCkNm CL CM CC K)) (kd_Machine : MakD P w K mg base 4 "Machine" [.non] (spL2 C K)) : FnOk P w K mg base (L2N.CX P w) 6 f fd P_never (spNev C CL CM CC K) := by
  refine F.ok sc_never (fun vs H Q E h => ?_) (fun cdv A outer s H vs Q E hr h => ?_)
  · obtain ⟨l, ta, rfl, _⟩ := h
    rfl
  · obtain ⟨l, ta, rfl, ll, lt, q1, q2⟩ := h
    have tk := takes_fn (P := P) (w := w) (K := K) (mg := mg) (base := base) (N := N_never) (qual := "never") (scope := defScope s_never) (f := f) (cd := cdv) (A := A) (outer := outer) (s := s) (H := H) (E := E)
    refine ⟨_, (pss_cons (ps_expr (pe_clE c_check_names (fun σ => L2N.passAt tk σ) hr (by decide) (by rfl) (pa_cons (pv 0) (pa_cons (pe_lst (pa_cons (pv 1) pa_nil)) pa_nil))))
      (pss_one (ps_ret (pe_mkD kd_Machine hr (by decide) (by rfl) (pa_cons (pv 0) (pa_cons (pe_lst (pa_cons (pe_lc (own := [("letter", 2)]) (g := (gName 2)) (tt := tYes) (by rfl) sc_never.nd (pi_str (pv 0)) (blkOk_by (own := [("letter", 2)]) (N := N_never) (sc := defScope s_never) (by decide +kernel)) (fun _ _ _ _ _ => (pg_name (i := 2) sc_never.nd rfl (by first | exact .inl rfl | exact .inr rfl))) (fun _ _ _ _ _ => pts_nil) (fun _ _ _ _ _ => (pe_ifExp (pt_cmpR op_eq (pv 2) (pv 1) (nomark _)) pe_non pe_int))) pa_nil)) pa_nil)))))), ?_⟩
    walk_at "go"
    intro m0 nm
    have s0 := same_new (o := .lst [.str (S ta)]) nm
    have em : (upd H m0 (.lst [.str (S ta)])) m0 = some (.lst ([ta].map fun t => V.str (S t))) := upd_same
    generalize upd H m0 (.lst [.str (S ta)]) = H1 at s0 em
    refine ⟨l, m0, [ta], rfl, ll, SqL.of em, fun t ht => by rw [List.mem_singleton.mp ht]; exact lt, fun e1 H2 s2 => ?_, fun e he H' d s1' nd => q2 e (by unfold erO; rw [if_neg (by decide), he]) H' d (s0.trans s1') nd⟩
    have er : erO 0 l ta [] 0 = none := by unfold erO; rw [if_neg (by decide), e1]; rfl
    obtain ⟨nd, ne, hM, hN⟩ := ckO_none e1
    obtain ⟨a, rfl, ha⟩ := hN ta List.mem_cons_self
    have s02 := s0.trans s2
    clear s0 s2 e1 em nm
    walk_at "go"
    intro D nD
    refine lc_ent (entD 0 a 0 0 0) ll nD (fun c => rfl) (fun c J Q1 hc sJ q9 => ?_) (fun J sJ eD => ?_)
    · walk_at "go"
      rw [dS]
      have q9 : Q1 (eV (if c = a then none else some 0)) J := q9
      by_cases c1 : c = a
      · rw [if_pos c1] at q9
        rw [decide_eq_true c1]
        walk_at "go"
        exact q9
      · rw [if_neg c1] at q9
        rw [decide_eq_false c1]
        walk_at "go"
        exact q9
    walk_at "go"
    intro Ar nAr
    have s3 := same_new (o := .lst [.ref D]) nAr
    have eAr : (upd J Ar (.lst [.ref D])) Ar = some (.lst ([(D, l.map (entD 0 a 0 0 0))].map fun z => V.ref z.1)) := upd_same
    have eD3 := s3 _ _ eD
    generalize upd J Ar (.lst [.ref D]) = J3 at s3 eAr eD3
    refine ⟨true, true, Ar, l, [(D, l.map (entD 0 a 0 0 0))], rfl, nd, ne, ll, ⟨SqL.of eAr, fun z hz => by rw [List.mem_singleton.mp hz]; exact SqL.of eD3⟩, dtT_wf 0 l a 0 0, (show 1 ≤ 1000000 by decide), fun n H' s4 nn hm => ?_⟩
    exact q1 er n a 0 H' ((s02.trans sJ).trans (s3.trans s4)) rfl (fun h => absurd h (by decide)) hm
def spTwo (md : Nat) (C CL CM CC : Addr) (K : PySem.W.Frag) : Sp := fun vs H Q E => ∃ l ta tb : List Nat, vs = [.str (S l), .str (S ta), .str (S tb)] ∧ l.length ≤ 1000 ∧ ta.length ≤ 1000 ∧ tb.length ≤ 1000 ∧ MdE C CL CM CC K md l ta tb 0 Q E H
theorem ok_only_after (F : FnP K "only_after" s_only_after f fd) (m_int : mg "int" = none) (m_len : mg "len" = none) (c_check_names : CalX P w K mg base 5 "check_names" (spCkNm CL CM CC K)) (kd_Machine : MakD P w K mg base 4 "Machine" [.non] (spL2 C K)) : FnOk P w K mg base (L2N.CX P w) 6 f fd P_only_after (spTwo 1 C CL CM CC K) := by
  refine F.ok sc_only_after (fun vs H Q E h => ?_) (fun cdv A outer s H vs Q E hr h => ?_)
  · obtain ⟨l, ta, tb, rfl, _⟩ := h
    rfl
  · obtain ⟨l, ta, tb, rfl, ll, lt, lt2, q1, q2⟩ := h
    have tk := takes_fn (P := P) (w := w) (K := K) (mg := mg) (base := base) (N := N_only_after) (qual := "only_after") (scope := defScope s_only_after) (f := f) (cd := cdv) (A := A) (outer := outer) (s := s) (H := H) (E := E)
    refine ⟨_, (pss_cons (ps_expr (pe_clE c_check_names (fun σ => L2N.passAt tk σ) hr (by decide) (by rfl) (pa_cons (pv 0) (pa_cons (pe_lst (pa_cons (pv 1) (pa_cons (pv 2) pa_nil))) pa_nil))))
      (pss_cons (ps_setLc (i := 4) (own := [("letter", 3)]) (g := (gName 3)) (tt := tYes) (by rfl) sc_only_after.nd rfl rfl (sw_true rfl rfl rfl (by decide +kernel)) (pi_str (pv 0)) (blkOk_by (own := [("letter", 3)]) (N := N_only_after) (sc := defScope s_only_after) (by decide +kernel)) (fun _ _ _ _ _ => (pg_name (i := 3) sc_only_after.nd rfl (by first | exact .inl rfl | exact .inr rfl))) (fun _ _ _ _ _ => pts_nil) (fun _ _ _ _ _ => (pe_ifExp (pt_cmpR op_eq (pv 3) (pv 1) (nomark _)) pe_non (pe_callTy call_int1 (by rfl) m_int (by decide +kernel) (pa_cons (pe_cmpR op_eq (pv 3) (pv 2) (nomark _)) pa_nil)))))
      (pss_one (ps_ret (pe_mkD kd_Machine hr (by decide) (by rfl) (pa_cons (pv 0) (pa_cons (pe_lst (pa_cons (pv 4) (pa_cons (pe_op op_rep (pe_lst (pa_cons pe_int pa_nil)) (pe_callB call_len_str (by rfl) m_len PySem.boot_len (pa_cons (pv 0) pa_nil))) pa_nil))) pa_nil))))))), ?_⟩
    walk_at "go"
    intro m0 nm
    have s0 := same_new (o := .lst [.str (S ta), .str (S tb)]) nm
    have em : (upd H m0 (.lst [.str (S ta), .str (S tb)])) m0 = some (.lst ([ta, tb].map fun t => V.str (S t))) := upd_same
    generalize upd H m0 (.lst [.str (S ta), .str (S tb)]) = H1 at s0 em
    refine ⟨l, m0, [ta, tb], rfl, ll, SqL.of em, fun t ht => (by rcases List.mem_cons.mp ht with h | h; · rw [h]; exact lt
                                                                 · rw [List.mem_singleton.mp h]; exact lt2), fun e1 H2 s2 => ?_, fun e he H' d s1' nd => q2 e (by unfold erO; rw [if_pos (by decide), he]) H' d (s0.trans s1') nd⟩
    have er : erO 1 l ta tb 0 = none := by unfold erO; rw [if_pos (by decide), e1]; rfl
    obtain ⟨nd, ne, hM, hN⟩ := ckO_none e1
    obtain ⟨a, rfl, ha⟩ := hN ta List.mem_cons_self
    obtain ⟨b, rfl, hb⟩ := hN tb (List.mem_cons_of_mem _ List.mem_cons_self)
    have s02 := s0.trans s2
    clear s0 s2 e1 em nm
    walk_at "go"
    intro D nD
    refine lc_ent (entD 1 a b 0 0) ll nD (fun c => rfl) (fun c J Q1 hc sJ q9 => ?_) (fun J sJ eD => ?_)
    · walk_at "go"
      rw [dS]
      have q9 : Q1 (eV (if c = a then none else some (if c = b then 1 else 0))) J := q9
      by_cases c1 : c = a
      · rw [if_pos c1] at q9
        rw [decide_eq_true c1]
        walk_at "go"
        exact q9
      · rw [if_neg c1] at q9
        rw [decide_eq_false c1]
        walk_at "go"
        refine .inr ⟨_, rfl, ?_⟩
        rw [dS]
        by_cases c2 : c = b
        · rw [if_pos c2] at q9
          rw [decide_eq_true c2]
          exact q9
        · rw [if_neg c2] at q9
          rw [decide_eq_false c2]
          exact q9
    walk_at "go"
    intro l0 n0
    have s3 := same_new (o := .lst [.int 1]) n0
    have el0 : (upd J l0 (.lst [.int 1])) l0 = some (.lst [.int 1]) := upd_same
    have eD3 := s3 _ _ eD
    generalize upd J l0 (.lst [.int 1]) = J3 at s3 el0 eD3
    walk_at "go"
    refine ⟨by rw [S_len]; exact Nat.le_trans ll (by decide), ?_⟩
    rw [S_len]
    refine ⟨l0, _, _, rfl, rfl, el0, by omega, by omega, by rw [Int.toNat_natCast]; exact szl (by show 1 * l.length ≤ 2000; omega), ?_⟩
    intro l1 n1
    have s4 := same_new (o := .lst (List.replicate (l.length : Int).toNat [V.int 1]).flatten) n1
    have el1 : (upd J3 l1 (.lst (List.replicate (l.length : Int).toNat [V.int 1]).flatten)) l1 = some (.lst ((l.map (entD 1 a b 0 1)).map eV)) := by
      rw [upd_same, Int.toNat_natCast, ones]
    have eD4 := s4 _ _ eD3
    generalize upd J3 l1 (.lst (List.replicate (l.length : Int).toNat [V.int 1]).flatten) = J4 at s4 el1 eD4
    walk_at "go"
    intro Ar nAr
    have s5 := same_new (o := .lst [.ref D, .ref l1]) nAr
    have eAr : (upd J4 Ar (.lst [.ref D, .ref l1])) Ar = some (.lst ([(D, l.map (entD 1 a b 0 0)), (l1, l.map (entD 1 a b 0 1))].map fun z => V.ref z.1)) := upd_same
    have eD5 := s5 _ _ eD4
    have el5 := s5 _ _ el1
    generalize upd J4 Ar (.lst [.ref D, .ref l1]) = J5 at s5 eAr eD5 el5
    refine ⟨true, true, Ar, l, [(D, l.map (entD 1 a b 0 0)), (l1, l.map (entD 1 a b 0 1))], rfl, nd, ne, ll, ⟨SqL.of eAr, fun z hz => ?_⟩, dtT_wf 1 l a b 0, (show 2 ≤ 1000000 by decide), fun n H' s6 nn hm => ?_⟩
    · rcases List.mem_cons.mp hz with h | h
      · rw [h]
        exact SqL.of eD5
      · rw [List.mem_singleton.mp h]
        exact SqL.of el5
    exact q1 er n a b H' ((s02.trans sJ).trans ((s3.trans s4).trans (s5.trans s6))) rfl (fun _ => rfl) hm
theorem ok_answered (F : FnP K "answered" s_answered f fd) (m_int : mg "int" = none) (c_check_names : CalX P w K mg base 5 "check_names" (spCkNm CL CM CC K)) (k_Machine : Mak P w K mg base 4 "Machine" (spL3 C K)) : FnOk P w K mg base (L2N.CX P w) 6 f fd P_answered (spTwo 2 C CL CM CC K) := by
  refine F.ok sc_answered (fun vs H Q E h => ?_) (fun cdv A outer s H vs Q E hr h => ?_)
  · obtain ⟨l, ta, tb, rfl, _⟩ := h
    rfl
  · obtain ⟨l, ta, tb, rfl, ll, lt, lt2, q1, q2⟩ := h
    have tk := takes_fn (P := P) (w := w) (K := K) (mg := mg) (base := base) (N := N_answered) (qual := "answered") (scope := defScope s_answered) (f := f) (cd := cdv) (A := A) (outer := outer) (s := s) (H := H) (E := E)
    refine ⟨_, (pss_cons (ps_expr (pe_clE c_check_names (fun σ => L2N.passAt tk σ) hr (by decide) (by rfl) (pa_cons (pv 0) (pa_cons (pe_lst (pa_cons (pv 1) (pa_cons (pv 2) pa_nil))) pa_nil))))
      (pss_cons (ps_setLc (i := 4) (own := [("letter", 3)]) (g := (gName 3)) (tt := tYes) (by rfl) sc_answered.nd rfl rfl (sw_true rfl rfl rfl (by decide +kernel)) (pi_str (pv 0)) (blkOk_by (own := [("letter", 3)]) (N := N_answered) (sc := defScope s_answered) (by decide +kernel)) (fun _ _ _ _ _ => (pg_name (i := 3) sc_answered.nd rfl (by first | exact .inl rfl | exact .inr rfl))) (fun _ _ _ _ _ => pts_nil) (fun _ _ _ _ _ => (pe_callTy call_int1 (by rfl) m_int (by decide +kernel) (pa_cons (pe_cmpR op_eq (pv 3) (pv 1) (nomark _)) pa_nil))))
      (pss_cons (ps_setLc (i := 5) (own := [("letter", 3)]) (g := (gName 3)) (tt := tYes) (by rfl) sc_answered.nd rfl rfl (sw_true rfl rfl rfl (by decide +kernel)) (pi_str (pv 0)) (blkOk_by (own := [("letter", 3)]) (N := N_answered) (sc := defScope s_answered) (by decide +kernel)) (fun _ _ _ _ _ => (pg_name (i := 3) sc_answered.nd rfl (by first | exact .inl rfl | exact .inr rfl))) (fun _ _ _ _ _ => pts_nil) (fun _ _ _ _ _ => (pe_callTy call_int1 (by rfl) m_int (by decide +kernel) (pa_cons (pe_or (pe_cmpR op_eq (pv 3) (pv 1) (nomark _)) (pe_one (pe_cmpR op_ne (pv 3) (pv 2) (nomark _)))) pa_nil))))
      (pss_one (ps_ret (pe_mk k_Machine hr (by decide) (by rfl) (pa_cons (pv 0) (pa_cons (pe_lst (pa_cons (pv 4) (pa_cons (pv 5) pa_nil))) (pa_cons (pe_lst (pa_cons pe_int pa_nil)) pa_nil))))))))), ?_⟩
    walk_at "go"
    intro m0 nm
    have s0 := same_new (o := .lst [.str (S ta), .str (S tb)]) nm
    have em : (upd H m0 (.lst [.str (S ta), .str (S tb)])) m0 = some (.lst ([ta, tb].map fun t => V.str (S t))) := upd_same
    generalize upd H m0 (.lst [.str (S ta), .str (S tb)]) = H1 at s0 em
    refine ⟨l, m0, [ta, tb], rfl, ll, SqL.of em, fun t ht => (by rcases List.mem_cons.mp ht with h | h; · rw [h]; exact lt
                                                                 · rw [List.mem_singleton.mp h]; exact lt2), fun e1 H2 s2 => ?_, fun e he H' d s1' nd => q2 e (by unfold erO; rw [if_pos (by decide), he]) H' d (s0.trans s1') nd⟩
    have er : erO 2 l ta tb 0 = none := by unfold erO; rw [if_pos (by decide), e1]; rfl
    obtain ⟨nd, ne, hM, hN⟩ := ckO_none e1
    obtain ⟨a, rfl, ha⟩ := hN ta List.mem_cons_self
    obtain ⟨b, rfl, hb⟩ := hN tb (List.mem_cons_of_mem _ List.mem_cons_self)
    have s02 := s0.trans s2
    clear s0 s2 e1 em nm
    walk_at "go"
    intro D nD
    refine lc_ent (entD 2 a b 0 0) ll nD (fun c => rfl) (fun c J Q1 hc sJ q9 => ?_) (fun J sJ eD => ?_)
    · walk_at "go"
      have q9 : Q1 (eV (some (if c = a then 1 else 0))) J := q9
      refine .inr ⟨_, rfl, ?_⟩
      rw [dS]
      by_cases c2 : c = a
      · rw [if_pos c2] at q9
        rw [decide_eq_true c2]
        exact q9
      · rw [if_neg c2] at q9
        rw [decide_eq_false c2]
        exact q9
    have s03 := s02.trans sJ
    clear s02 sJ nD
    walk_at "go"
    intro D1 nD1
    refine lc_ent (entD 2 a b 0 1) ll nD1 (fun c => rfl) (fun c J1 Q1 hc sJ q9 => ?_) (fun J1 sJ eD1 => ?_)
    · walk_at "go"
      have q9 : Q1 (eV (some (if c = a ∨ c ≠ b then 1 else 0))) J1 := q9
      rw [dS]
      by_cases c2 : c = a
      · rw [if_pos (.inl c2)] at q9
        rw [decide_eq_true c2]
        exact Or.inr ⟨true, rfl, q9⟩
      · rw [decide_eq_false c2]
        walk_at "go"
        rw [dS]
        by_cases c3 : c = b
        · rw [if_neg (fun h => h.elim c2 fun e => e c3)] at q9
          rw [decide_eq_true c3]
          exact Or.inr ⟨!true, rfl, q9⟩
        · rw [if_pos (.inr c3)] at q9
          rw [decide_eq_false c3]
          exact Or.inr ⟨!false, rfl, q9⟩
    have eD4 := sJ _ _ eD
    have s04 := s03.trans sJ
    clear s03 sJ nD1
    walk_at "go"
    intro Ar nAr
    have s5 := same_new (o := .lst [.ref D, .ref D1]) nAr
    have eAr : (upd J1 Ar (.lst [.ref D, .ref D1])) Ar = some (.lst ([(D, l.map (entD 2 a b 0 0)), (D1, l.map (entD 2 a b 0 1))].map fun z => V.ref z.1)) := upd_same
    have eD5 := s5 _ _ eD4
    have el5 := s5 _ _ eD1
    generalize upd J1 Ar (.lst [.ref D, .ref D1]) = J5 at s5 eAr eD5 el5
    walk_at "go"
    intro g ng
    have s6 := same_new (o := .lst [.int 0]) ng
    have eg : (upd J5 g (.lst [.int 0])) g = some (.lst (gsq [0])) := upd_same
    have eD6 := s6 _ _ eD5
    have el6 := s6 _ _ el5
    have eAr6 := s6 _ _ eAr
    generalize upd J5 g (.lst [.int 0]) = J6 at s6 eg eD6 el6 eAr6
    refine ⟨true, true, Ar, l, .ref g, [(D, l.map (entD 2 a b 0 0)), (D1, l.map (entD 2 a b 0 1))], [0], rfl, nd, ne, ll, ⟨SqL.of eAr6, fun z hz => ?_⟩, dtT_wf 2 l a b 0, (show 2 ≤ 1000000 by decide), ⟨.inr ⟨true, g, rfl, SqL.of eg⟩, fun s hs => by rw [List.mem_singleton.mp hs]; exact (show 0 < 2 by decide)⟩, fun n H' s7 nn hm => ?_⟩
    · rcases List.mem_cons.mp hz with h | h
      · rw [h]
        exact SqL.of eD6
      · rw [List.mem_singleton.mp h]
        exact SqL.of el6
    exact q1 er n a b H' (s04.trans ((s5.trans s6).trans s7)) rfl (fun _ => rfl) hm
def spAtM (C CL CM CC : Addr) (K : PySem.W.Frag) : Sp := fun vs H Q E => ∃ (l ta : List Nat) (t : Int), vs = [.str (S l), .str (S ta), .int t] ∧ l.length ≤ 1000 ∧ ta.length ≤ 1000 ∧ MdE C CL CM CC K 3 l ta [] t Q E H
theorem ok_at_most (F : FnP K "at_most" s_at_most f fd) (m_range : mg "range" = none) (tok_MOST_TIMES : Tok) (g_MOST_TIMES : mg "MOST_TIMES" = some (.int 9 tok_MOST_TIMES)) (x_BadCount : Exn P w K mg base "BadCount" CC "value") (c_check_names : CalX P w K mg base 5 "check_names" (spCkNm CL CM CC K)) (kd_Machine : MakD P w K mg base 4 "Machine" [.non] (spL2 C K)) : FnOk P w K mg base (L2N.CX P w) 6 f fd P_at_most (spAtM C CL CM CC K) := by
  refine F.ok sc_at_most (fun vs H Q E h => ?_) (fun cdv A outer s H vs Q E hr h => ?_)
  · obtain ⟨l, ta, t, rfl, _⟩ := h
    rfl
  · obtain ⟨l, ta, t, rfl, ll, lt, q1, q2⟩ := h
    have tk := takes_fn (P := P) (w := w) (K := K) (mg := mg) (base := base) (N := N_at_most) (qual := "at_most") (scope := defScope s_at_most) (f := f) (cd := cdv) (A := A) (outer := outer) (s := s) (H := H) (E := E)
    refine ⟨_, (pss_cons (ps_expr (pe_clE c_check_names (fun σ => L2N.passAt tk σ) hr (by decide) (by rfl) (pa_cons (pv 0) (pa_cons (pe_lst (pa_cons (pv 1) pa_nil)) pa_nil))))
      (pss_cons (ps_if (pt_not (pt_chain op_le op_le pe_int (pv 2) (pe_glob (v := .int 9) (by rfl) g_MOST_TIMES ⟨_, rfl⟩))) (pss_one (ps_exn rfl tk x_BadCount hr (by decide) (by rfl) (pa_cons (pv 2) pa_nil))) pss_nil)
      (pss_cons (ps_set (i := 3) sc_at_most.nd rfl (by first | exact .inl rfl | exact .inr rfl) (pe_lst pa_nil))
      (pss_cons (ps_for (passes_of rfl) rfl (pi_range1 (by rfl) m_range (pa_cons (pe_op op_add (pv 2) pe_int) pa_nil)) (pg_name (i := 4) sc_at_most.nd rfl (by first | exact .inl rfl | exact .inr rfl))
        (pss_cons (ps_set (i := 5) sc_at_most.nd rfl (by first | exact .inl rfl | exact .inr rfl) (pe_ifExp (pt_cmpR op_lt (pv 4) (pv 2) (nomark _)) (pe_op op_add (pv 4) pe_int) pe_non))
      (pss_one (ps_expr (pe_bm PySem.F.plainAttrs_list PySem.F.slot_list_append PySem.F.type_list_append mt_append (pv 3) (pa_cons (pe_lc (own := [("letter", 6)]) (g := (gName 6)) (tt := tYes) (by rfl) sc_at_most.nd (pi_str (pv 0)) (blkOk_by (own := [("letter", 6)]) (N := N_at_most) (sc := defScope s_at_most) (by decide +kernel)) (fun _ _ _ _ _ => (pg_name (i := 6) sc_at_most.nd rfl (by first | exact .inl rfl | exact .inr rfl))) (fun _ _ _ _ _ => pts_nil) (fun _ _ _ _ _ => (pe_ifExp (pt_cmpR op_eq (pv 6) (pv 1) (nomark _)) (pv 5) (pv 4)))) pa_nil))))))
      (pss_one (ps_ret (pe_mkD kd_Machine hr (by decide) (by rfl) (pa_cons (pv 0) (pa_cons (pv 3) pa_nil))))))))), ?_⟩
    walk_at "go"
    intro m0 nm
    have s0 := same_new (o := .lst [.str (S ta)]) nm
    have em : (upd H m0 (.lst [.str (S ta)])) m0 = some (.lst ([ta].map fun t => V.str (S t))) := upd_same
    generalize upd H m0 (.lst [.str (S ta)]) = H1 at s0 em
    refine ⟨l, m0, [ta], rfl, ll, SqL.of em, fun t ht => by rw [List.mem_singleton.mp ht]; exact lt, fun e1 H2 s2 => ?_, fun e he H' d s1' nd => q2 e (by unfold erO; rw [if_neg (by decide), he]) H' d (s0.trans s1') nd⟩
    obtain ⟨nd, ne, hM, hN⟩ := ckO_none e1
    obtain ⟨a, rfl, ha⟩ := hN ta List.mem_cons_self
    have s02 := s0.trans s2
    clear s0 s2 em nm
    walk_at "go"
    by_cases c0 : 0 ≤ t
    · by_cases c9 : t ≤ 9
      · have er : erO 3 l [a] [] t = none := by unfold erO; rw [if_neg (by decide), e1]; exact if_neg (fun h => h.2 ⟨c0, c9⟩)
        rw [decide_eq_true c0]
        walk_at "go"
        rw [decide_eq_true c9]
        walk_at "go"
        obtain ⟨k, rfl⟩ : ∃ k : Nat, t = (k : Int) := ⟨t.toNat, by omega⟩
        intro Ar nAr
        have s3 := same_new (o := .lst []) nAr
        have eAr : (upd H2 Ar (.lst [])) Ar = some (.lst (([] : List (Addr × List (Option Nat))).map fun z => V.ref z.1)) := upd_same
        have nAH := none_of s02 nAr
        have s03 := s02.trans s3
        generalize upd H2 Ar (.lst []) = H3 at s3 eAr s03
        clear s3 s02 nAr
        walk_at "go"
        refine for_gen (n := k + 1) (fun i σ J => Same H J ∧ ∃ (zs : List (Addr × List (Option Nat))) (v4 v5 : Option V), TbR J Ar zs ∧ (∀ z ∈ zs, z.1 ≠ Ar) ∧ tb zs = (List.range i).map (fun s => l.map (entD 3 a 0 k s)) ∧ σ = [some (.str (S l)), some (.str (S [a])), some (.int (k : Int)), some (.ref Ar), v4, v5, none]) ⟨s03, [], none, none, ⟨eAr, fun z h => absurd h (by simp)⟩, fun z h => absurd h (by simp), rfl, rfl⟩ ?_ ?_ ?_ ?_
        · intro i σ J hi _
          show i < ((k : Int) + 1).toNat
          omega
        · intro σ J _
          show ((k : Int) + 1).toNat ≤ k + 1
          omega
        · clear s03 eAr
          rintro i σ J x J2 hi ⟨s1, zs, v4, v5, tr, nz, et, rfl⟩ ⟨rfl, rfl⟩
          have lz : zs.length = i := by
            have := congrArg List.length et
            unfold tb at this
            rwa [List.length_map, List.length_map, List.length_range] at this
          rw [show (0 : Int) + (i : Int) = (i : Int) by omega]
          walk_at "go"
          have fin : ∀ vm : V, vm = eV (if i < k then some (i + 1) else none) → ∀ (D : Addr), J2 D = none → ∀ J3, Same J2 J3 → J3 D = some (.lst ((l.map (entD 3 a 0 k i)).map eV)) → Same H (upd J3 Ar (.lst ((zs.map fun z => V.ref z.1) ++ [.ref D]))) ∧ ∃ (zs2 : List (Addr × List (Option Nat))) (w4 w5 : Option V), TbR (upd J3 Ar (.lst ((zs.map fun z => V.ref z.1) ++ [.ref D]))) Ar zs2 ∧ (∀ z ∈ zs2, z.1 ≠ Ar) ∧ tb zs2 = (List.range (i + 1)).map (fun s => l.map (entD 3 a 0 k s)) ∧ [some (.str (S l)), some (.str (S [a])), some (.int (k : Int)), some (.ref Ar), some (.int (i : Int)), some vm, none] = [some (.str (S l)), some (.str (S [a])), some (.int (k : Int)), some (.ref Ar), w4, w5, none] := fun vm _ D nD J3 s2 eD => by
            have AD : Ar ≠ D := ne_of_none tr.sq nD
            refine ⟨Z.Same.mut (s1.trans s2) nAH, zs ++ [(D, l.map (entD 3 a 0 k i))], _, _, ⟨by rw [upd_same, List.map_append]; rfl, fun z h => ?_⟩, fun z h => ?_, ?_, rfl⟩
            · rcases List.mem_append.mp h with h | h
              · rw [upd_ne (nz z h)]
                exact s2 _ _ (tr.at_ z h)
              · rw [List.mem_singleton.mp h, upd_ne AD.symm]
                exact eD
            · rcases List.mem_append.mp h with h | h
              · exact nz z h
              · rw [List.mem_singleton.mp h]
                exact AD.symm
            · unfold tb at et ⊢
              rw [List.map_append, et, List.range_succ, List.map_append]
              rfl
          by_cases ci : i < k
          · rw [decide_eq_true (show (i : Int) < (k : Int) by omega)]
            walk_at "go"
            refine ⟨.inl ⟨rfl, _, SqL.of tr.sq⟩, ?_⟩
            walk_at "go"
            intro D nD
            refine lc_ent (entD 3 a 0 k i) ll nD (fun c => rfl) (fun c J Q1 hc sJ q9 => ?_) (fun J sJ eD => ?_)
            · have q9 : Q1 (eV (if c = a then (if i < k then some (i + 1) else none) else some i)) J := q9
              walk_at "go"
              rw [dS]
              by_cases c1 : c = a
              · rw [if_pos c1, if_pos ci] at q9
                rw [decide_eq_true c1]
                walk_at "go"
                exact q9
              · rw [if_neg c1] at q9
                rw [decide_eq_false c1]
                walk_at "go"
                exact q9
            walk_at "go"
            refine ⟨Ar, _, _, rfl, rfl, sJ _ _ tr.sq, by rw [List.length_map, lz]; exact szC (by omega), ?_⟩
            exact fin (V.int ((i : Int) + 1)) (by rw [if_pos ci]; rfl) D nD J sJ eD
          · rw [decide_eq_false (show ¬ (i : Int) < (k : Int) by omega)]
            walk_at "go"
            refine ⟨.inl ⟨rfl, _, SqL.of tr.sq⟩, ?_⟩
            walk_at "go"
            intro D nD
            refine lc_ent (entD 3 a 0 k i) ll nD (fun c => rfl) (fun c J Q1 hc sJ q9 => ?_) (fun J sJ eD => ?_)
            · have q9 : Q1 (eV (if c = a then (if i < k then some (i + 1) else none) else some i)) J := q9
              walk_at "go"
              rw [dS]
              by_cases c1 : c = a
              · rw [if_pos c1, if_neg ci] at q9
                rw [decide_eq_true c1]
                walk_at "go"
                exact q9
              · rw [if_neg c1] at q9
                rw [decide_eq_false c1]
                walk_at "go"
                exact q9
            walk_at "go"
            refine ⟨Ar, _, _, rfl, rfl, sJ _ _ tr.sq, by rw [List.length_map, lz]; exact szC (by omega), ?_⟩
            exact fin (V.non) (by rw [if_neg ci]; rfl) D nD J sJ eD
        · clear s03 eAr
          rintro σ J ⟨s1, zs, v4, v5, tr, nz, et, rfl⟩
          walk_at "go"
          refine ⟨true, true, Ar, l, zs, rfl, nd, ne, ll, ⟨SqL.of tr.sq, fun z hz => SqL.of (tr.at_ z hz)⟩, by rw [et]; exact dtT_wf 3 l a 0 k, ?_, fun n H' s4 nn hm => ?_⟩
          · have := congrArg List.length et
            unfold tb at this
            rw [List.length_map, List.length_map, List.length_range] at this
            omega
          · have lz : zs.length = szD 3 k := by
              have := congrArg List.length et
              unfold tb at this
              rw [List.length_map, List.length_map, List.length_range] at this
              exact this
            rw [et, lz] at hm
            exact q1 er n a 0 H' (s1.trans s4) rfl (fun h => absurd h (by decide)) hm
      · have er : erO 3 l [a] [] t = some (.C t) := by unfold erO; rw [if_neg (by decide), e1]; exact if_pos ⟨rfl, fun h => c9 h.2⟩
        rw [decide_eq_true c0]
        walk_at "go"
        rw [decide_eq_false c9]
        walk_at "go"
        exact (mkx_of fun d nd => (show E (.ref CC) (some d) (upd H2 d (.xd [("value", .int t)])) from q2 (.C t) er H2 d s02 nd)).2
    · have er : erO 3 l [a] [] t = some (.C t) := by unfold erO; rw [if_neg (by decide), e1]; exact if_pos ⟨rfl, fun h => c0 h.1⟩
      rw [decide_eq_false c0]
      walk_at "go"
      exact (mkx_of fun d nd => (show E (.ref CC) (some d) (upd H2 d (.xd [("value", .int t)])) from q2 (.C t) er H2 d s02 nd)).2
end
end Z
set_option pp.maxSteps 700
set_option Elab.async false
set_option linter.all false
set_option maxRecDepth 100000
set_option maxHeartbeats 4000000
open SX (S S_inj S_len S_cat)
namespace Z
open Mc
open PySem PySem.Spec PyProof.Rows L2
open C8 (pss_cut tCut)
local macro_rules | `(tactic| walk_at "num") => `(tactic| first | rfl | omega | decide | exact Nat.le_of_lt (small1000 (by simp)) | exact ⟨by omega, by omega⟩ | exact ⟨by omega, by omega, by omega⟩ | exact ⟨by decide, by decide, by decide⟩ | exact Or.inl ⟨by omega, by omega⟩ | exact Or.inr ⟨by omega, by omega⟩)
local macro_rules | `(tactic| walk_at "go") => `(tactic| repeat (first | refine ⟨_, rfl, ?_⟩ | refine ⟨_, _, rfl, rfl, ?_⟩ | refine ⟨_, _, rfl, ?_⟩ | (refine ⟨_, _, rfl, rfl, ?_, ?_⟩; focus walk_at "num") | refine Or.inl ⟨_, rfl, ?_⟩ | refine ⟨_, _, _, _, rfl, rfl, (by assumption), (by rfl), ?_⟩ | refine ⟨_, _, _, _, _, rfl, (by assumption), (by assumption), (by assumption), (by rfl), ?_⟩ | refine ⟨rfl, ?_⟩ | (refine And.intro ?_ ?_; focus walk_at "num")))
abbrev s_made : Stmt := topS 46
abbrev N_made : List Str := ["_law_name", "_law_letters_here", "_law_first", "_law_second", "_law_times"]
abbrev P_made : List Str := ["_law_name", "_law_letters_here", "_law_first", "_law_second", "_law_times"]
theorem sc_made : FnScope N_made P_made (defScope s_made) := ⟨rfl, rfl, rfl, by decide +kernel, rfl, by decide +kernel, by decide +kernel⟩
abbrev s_refusal : Stmt := topS 51
abbrev N_refusal : List Str := ["_law_name", "_law_letters_here", "_law_first", "_law_second", "_law_times", "e"]
abbrev P_refusal : List Str := ["_law_name", "_law_letters_here", "_law_first", "_law_second", "_law_times"]
theorem sc_refusal : FnScope N_refusal P_refusal (defScope s_refusal) := ⟨rfl, rfl, rfl, by decide +kernel, rfl, by decide +kernel, by decide +kernel⟩
def nmD (md : Nat) : Str := match md with | 0 => Str.ofString "never" | 1 => Str.ofString "only_after" | 2 => Str.ofString "answered" | _ => Str.ofString "at_most"
theorem nm_ne : (nmD 0 ≠ nmD 1 ∧ nmD 0 ≠ nmD 2 ∧ nmD 0 ≠ nmD 3) ∧ (nmD 1 ≠ nmD 2 ∧ nmD 1 ≠ nmD 3) ∧ nmD 2 ≠ nmD 3 := by decide +kernel
theorem nmd {i j : Nat} (hi : i < 4) (hj : j < 4) : decide (V.str (nmD i) = V.str (nmD j)) = decide (i = j) := by
  have inj : nmD i = nmD j → i = j := fun h => by
    obtain ⟨⟨a1, a2, a3⟩, ⟨a4, a5⟩, a6⟩ := nm_ne
    obtain rfl | rfl | rfl | rfl : i = 0 ∨ i = 1 ∨ i = 2 ∨ i = 3 := by omega
    all_goals obtain rfl | rfl | rfl | rfl : j = 0 ∨ j = 1 ∨ j = 2 ∨ j = 3 := by omega
    all_goals first | rfl | exact absurd h ‹_› | exact absurd h.symm ‹_›
  rw [decide_eq_decide]
  exact ⟨fun h => inj (by injection h), fun h => by rw [h]⟩
theorem erO0 (l ta tb : List Nat) (t : Int) : erO 0 l ta tb t = erO 0 l ta [] 0 := by
  have e1 : ∀ tb t, erO 0 l ta tb t = ckO l [ta] := fun tb t => by
    unfold erO
    rw [if_neg (by decide)]
    cases ckO l [ta] with
    | some e => rfl
    | none => exact if_neg (fun h => absurd h.1 (by decide))
  rw [e1, e1]
theorem erO1 {md : Nat} (h : md = 1 ∨ md = 2) (l ta tb : List Nat) (t : Int) : erO md l ta tb t = erO md l ta tb 0 := by
  have e1 : ∀ t, erO md l ta tb t = ckO l [ta, tb] := fun t => by
    unfold erO
    rw [if_pos h]
    cases ckO l [ta, tb] with
    | some e => rfl
    | none => exact if_neg (fun z => by omega)
  rw [e1, e1]
theorem erO3 (l ta tb : List Nat) (t : Int) : erO 3 l ta tb t = erO 3 l ta [] t := by
  have e1 : ∀ tb, erO 3 l ta tb t = match ckO l [ta] with | some e => some e | none => if (3 : Nat) = 3 ∧ ¬ (0 ≤ t ∧ t ≤ 9) then some (.C t) else none := fun tb => by
    unfold erO
    rw [if_neg (by decide)]
    all_goals (cases ckO l [ta] <;> rfl)
  rw [e1, e1]
/-- the refusal as a pair -/
def rfV : Option Er9 → List V
  | none => [.str "none", .str (S [])]
  | some (.L l) => [.str "letters", .str (S l)]
  | some (.M t) => [.str "mark", .str (S t)]
  | some (.C v) => [.str "count", .int v]
section
variable {P : Program} {w : World} {K : PySem.W.Frag} {mg : Str → Option Value} {base : Heap} {f C CL CM CC : Addr} {fd : FuncData}
def spMade (C CL CM CC : Addr) (K : PySem.W.Frag) : Sp := fun vs H Q E => ∃ (md : Nat) (l ta tb : List Nat) (t : Int), vs = [.str (nmD md), .str (S l), .str (S ta), .str (S tb), .int t] ∧ md < 4 ∧ l.length ≤ 1000 ∧ ta.length ≤ 1000 ∧ tb.length ≤ 1000 ∧ MdE C CL CM CC K md l ta tb t Q E H
theorem ok_made (F : FnP K "_law_made" s_made f fd) (c_never : CalX P w K mg base 6 "never" (spNev C CL CM CC K)) (c_only_after : CalX P w K mg base 6 "only_after" (spTwo 1 C CL CM CC K)) (c_answered : CalX P w K mg base 6 "answered" (spTwo 2 C CL CM CC K)) (c_at_most : CalX P w K mg base 6 "at_most" (spAtM C CL CM CC K)) : FnOk P w K mg base (L2N.CX P w) 7 f fd P_made (spMade C CL CM CC K) := by
  refine F.ok sc_made (fun vs H Q E h => ?_) (fun cdv A outer s H vs Q E hr h => ?_)
  · obtain ⟨md, l, ta, tb, t, rfl, _⟩ := h
    rfl
  · obtain ⟨md, l, ta, tb, t, rfl, m4, ll, la, lb, q1, q2⟩ := h
    have tk := takes_fn (P := P) (w := w) (K := K) (mg := mg) (base := base) (N := N_made) (qual := "_law_made") (scope := defScope s_made) (f := f) (cd := cdv) (A := A) (outer := outer) (s := s) (H := H) (E := E)
    refine ⟨_, (pss_cons (ps_if (pt_cmpR op_eq (pv 0) pe_str (nomark _)) (pss_one (ps_ret (pe_clE c_never (fun σ => L2N.passAt tk σ) hr (by decide) (by rfl) (pa_cons (pv 1) (pa_cons (pv 2) pa_nil))))) pss_nil)
      (pss_cons (ps_if (pt_cmpR op_eq (pv 0) pe_str (nomark _)) (pss_one (ps_ret (pe_clE c_only_after (fun σ => L2N.passAt tk σ) hr (by decide) (by rfl) (pa_cons (pv 1) (pa_cons (pv 2) (pa_cons (pv 3) pa_nil)))))) pss_nil)
      (pss_cons (ps_if (pt_cmpR op_eq (pv 0) pe_str (nomark _)) (pss_one (ps_ret (pe_clE c_answered (fun σ => L2N.passAt tk σ) hr (by decide) (by rfl) (pa_cons (pv 1) (pa_cons (pv 2) (pa_cons (pv 3) pa_nil)))))) pss_nil)
      (pss_one (ps_ret (pe_clE c_at_most (fun σ => L2N.passAt tk σ) hr (by decide) (by rfl) (pa_cons (pv 1) (pa_cons (pv 2) (pa_cons (pv 4) pa_nil))))))))), ?_⟩
    have h0 : decide (V.str (nmD md) = V.str (Str.ofString "never")) = decide (md = 0) := nmd (j := 0) m4 (by decide)
    have h1 : decide (V.str (nmD md) = V.str (Str.ofString "only_after")) = decide (md = 1) := nmd (j := 1) m4 (by decide)
    have h2 : decide (V.str (nmD md) = V.str (Str.ofString "answered")) = decide (md = 2) := nmd (j := 2) m4 (by decide)
    generalize nmD md = nm at h0 h1 h2
    walk_at "go"
    rw [h0]
    by_cases c0 : md = 0
    · subst c0
      rw [erO0] at q1 q2
      walk_at "go"
      exact ⟨fun e1 n a b H' s1 h1 _ hm => q1 e1 n a b H' s1 h1 (fun h => absurd h (by decide)) hm, q2⟩
    rw [decide_eq_false c0]
    walk_at "go"
    rw [h1]
    by_cases c1 : md = 1
    · subst c1
      rw [erO1 (.inl rfl)] at q1 q2
      walk_at "go"
      exact ⟨l, ta, tb, rfl, ll, la, lb, fun e1 n a b H' s1 h1 h2 hm => q1 e1 n a b H' s1 h1 h2 hm, q2⟩
    rw [decide_eq_false c1]
    walk_at "go"
    rw [h2]
    by_cases c2 : md = 2
    · subst c2
      rw [erO1 (.inr rfl)] at q1 q2
      walk_at "go"
      exact ⟨l, ta, tb, rfl, ll, la, lb, fun e1 n a b H' s1 h1 h2 hm => q1 e1 n a b H' s1 h1 h2 hm, q2⟩
    rw [decide_eq_false c2]
    obtain rfl : md = 3 := by omega
    rw [erO3] at q1 q2
    walk_at "go"
    exact ⟨l, ta, t, rfl, ll, la, fun e1 n a b H' s1 h1 _ hm => q1 e1 n a 0 H' s1 h1 (fun h => absurd h (by decide)) hm, q2⟩
/-- which handler takes which -/
structure TeX (K : PySem.W.Frag) (CL CM CC : Addr) : Prop where
  ll : PySem.W.exmOne K (.ref CL) (.ref CL) = some true
  mm : PySem.W.exmOne K (.ref CM) (.ref CM) = some true
  cc : PySem.W.exmOne K (.ref CC) (.ref CC) = some true
  ml : PySem.W.exmOne K (.ref CM) (.ref CL) = some false
  cl : PySem.W.exmOne K (.ref CC) (.ref CL) = some false
  cm : PySem.W.exmOne K (.ref CC) (.ref CM) = some false
def spRfu (C CL CM CC : Addr) (K : PySem.W.Frag) : Sp := fun vs H Q _ => ∃ (md : Nat) (l ta tb : List Nat) (t : Int), vs = [.str (nmD md), .str (S l), .str (S ta), .str (S tb), .int t] ∧ md < 4 ∧ l.length ≤ 1000 ∧ ta.length ≤ 1000 ∧ tb.length ≤ 1000 ∧ ∀ p H', Same H H' → H p = none → H' p = some (.tup (rfV (erO md l ta tb t))) → Q (.ref p) H'
theorem ok_refusal (F : FnP K "_law_refusal" s_refusal f fd) (c_made : CalX P w K mg base 7 "_law_made" (spMade C CL CM CC K)) (g_BadLetters : mg "BadLetters" = some (.ref CL)) (xf_BadLetters : XfC K CL) (no_BadLetters_letters : PySem.W.findIn K (.ref CL) "letters" = some none) (g_BadMark : mg "BadMark" = some (.ref CM)) (xf_BadMark : XfC K CM) (no_BadMark_mark : PySem.W.findIn K (.ref CM) "mark" = some none) (g_BadCount : mg "BadCount" = some (.ref CC)) (xf_BadCount : XfC K CC) (no_BadCount_value : PySem.W.findIn K (.ref CC) "value" = some none) (te : TeX K CL CM CC) : FnOk P w K mg base CX0 8 f fd P_refusal (spRfu C CL CM CC K) := by
  refine F.ok sc_refusal (fun vs H Q E h => ?_) (fun cdv A outer s H vs Q E hr h => ?_)
  · obtain ⟨md, l, ta, tb, t, rfl, _⟩ := h
    rfl
  · obtain ⟨md, l, ta, tb, t, rfl, m4, ll, la, lb, q⟩ := h
    refine ⟨_, PSs.nox (pss_cons (L2N.ps_try_manyA rfl rfl sc_refusal.nd takes0N (fun W pn xe tk po => (pss_one (ps_expr (pe_clE c_made (fun σ => L2N.passAt tk σ) hr (by decide) (by rfl) (pa_cons (pv 0) (pa_cons (pv 1) (pa_cons (pv 2) (pa_cons (pv 3) (pa_cons (pv 4) pa_nil)))))))))
      (.cons (i := 5) rfl rfl ⟨rfl, rfl, .inl g_BadLetters⟩ (fun ex oe cls d pn hzn hf => (pss_one (ps_ret (pe_tup (pa_cons pe_str (pa_cons (pe_xf xf_BadLetters no_BadLetters_letters hzn.zc hf (pv 5)) pa_nil))))))
      (.cons (i := 5) rfl rfl ⟨rfl, rfl, .inl g_BadMark⟩ (fun ex oe cls d pn hzn hf => (pss_one (ps_ret (pe_tup (pa_cons pe_str (pa_cons (pe_xf xf_BadMark no_BadMark_mark hzn.zc hf (pv 5)) pa_nil))))))
      (.cons (i := 5) rfl rfl ⟨rfl, rfl, .inl g_BadCount⟩ (fun ex oe cls d pn hzn hf => (pss_one (ps_ret (pe_tup (pa_cons pe_str (pa_cons (pe_xf xf_BadCount no_BadCount_value hzn.zc hf (pv 5)) pa_nil))))))
      .nil))))
      (pss_one (ps_ret (pe_tup (pa_cons pe_str (pa_cons pe_str pa_nil)))))), ?_⟩
    generalize hnm : nmD md = nm
    walk_at "go"
    refine ⟨md, l, ta, tb, t, by rw [hnm], m4, ll, la, lb, fun e1 n a b H' s1 _ _ _ => ?_, fun e he H' d s1 nd => ?_⟩
    · walk_at "go"
      intro p np
      refine q p _ (s1.trans (same_new np)) (none_of s1 np) ?_
      rw [upd_same, e1]
      rfl
    · rw [he] at q
      cases e with
      | L z =>
        refine ⟨true, te.ll, fun _ a' na => ?_, (fun z => by cases z)⟩
        walk_at "go"
        refine ⟨d, _, _, rfl, upd_same, rfl, ?_⟩
        walk_at "go"
        intro p np
        exact q p _ (s1.trans ((same_new nd).trans (same_new np))) (none_of (s1.trans (same_new nd)) np) upd_same
      | M z =>
        refine ⟨false, te.ml, (fun z => by cases z), fun _ => ⟨true, te.mm, fun _ a' na => ?_, (fun z => by cases z)⟩⟩
        walk_at "go"
        refine ⟨d, _, _, rfl, upd_same, rfl, ?_⟩
        walk_at "go"
        intro p np
        exact q p _ (s1.trans ((same_new nd).trans (same_new np))) (none_of (s1.trans (same_new nd)) np) upd_same
      | C z =>
        refine ⟨false, te.cl, (fun z => by cases z), fun _ => ⟨false, te.cm, (fun z => by cases z), fun _ => ⟨true, te.cc, fun _ a' na => ?_, (fun z => by cases z)⟩⟩⟩
        walk_at "go"
        refine ⟨d, _, _, rfl, upd_same, rfl, ?_⟩
        walk_at "go"
        intro p np
        exact q p _ (s1.trans ((same_new nd).trans (same_new np))) (none_of (s1.trans (same_new nd)) np) upd_same
end
end Z
set_option pp.maxSteps 700
set_option Elab.async false
set_option linter.all false
set_option maxRecDepth 100000
set_option maxHeartbeats 4000000
open SX (S S_inj S_len S_cat)
namespace Z
open Mc
open PySem PySem.Spec PyProof.Rows L2
open C8 (pss_cut tCut)
local macro_rules | `(tactic| walk_at "num") => `(tactic| first | rfl | omega | decide | exact Nat.le_of_lt (small1000 (by simp)) | exact ⟨by omega, by omega⟩ | exact ⟨by omega, by omega, by omega⟩ | exact ⟨by decide, by decide, by decide⟩ | exact Or.inl ⟨by omega, by omega⟩ | exact Or.inr ⟨by omega, by omega⟩)
local macro_rules | `(tactic| walk_at "go") => `(tactic| repeat (first | refine ⟨_, rfl, ?_⟩ | refine ⟨_, _, rfl, rfl, ?_⟩ | refine ⟨_, _, rfl, ?_⟩ | (refine ⟨_, _, rfl, rfl, ?_, ?_⟩; focus walk_at "num") | refine Or.inl ⟨_, rfl, ?_⟩ | refine ⟨_, _, _, _, rfl, rfl, (by assumption), (by rfl), ?_⟩ | refine ⟨_, _, _, _, _, rfl, (by assumption), (by assumption), (by assumption), (by rfl), ?_⟩ | refine ⟨rfl, ?_⟩ | (refine And.intro ?_ ?_; focus walk_at "num")))
abbrev s_letters : Stmt := topS 41
abbrev N_letters : List Str := ["_law_draws_here", "_law_place", "_law_many", "_law_pool", "_law_letters_here", "_law_k"]
abbrev P_letters : List Str := ["_law_draws_here", "_law_place", "_law_many"]
theorem sc_letters : FnScope N_letters P_letters (defScope s_letters) := ⟨rfl, rfl, rfl, by decide +kernel, rfl, by decide +kernel, by decide +kernel⟩
abbrev s_texts : Stmt := topS 42
abbrev N_texts : List Str := ["_law_letters_here", "_law_longest", "_law_found", "_law_last", "_law_k"]
abbrev P_texts : List Str := ["_law_letters_here", "_law_longest"]
theorem sc_texts : FnScope N_texts P_texts (defScope s_texts) := ⟨rfl, rfl, rfl, by decide +kernel, rfl, by decide +kernel, by decide +kernel⟩
abbrev s_longer : Stmt := topS 43
abbrev N_longer : List Str := ["_law_last", "_law_letters_here", "_law_found", "_law_text", "_law_letter"]
abbrev P_longer : List Str := ["_law_last", "_law_letters_here"]
theorem sc_longer : FnScope N_longer P_longer (defScope s_longer) := ⟨rfl, rfl, rfl, by decide +kernel, rfl, by decide +kernel, by decide +kernel⟩
abbrev s_odd : Stmt := topS 44
abbrev N_odd : List Str := ["_law_draw", "_law_chars"]
abbrev P_odd : List Str := ["_law_draw"]
theorem sc_odd : FnScope N_odd P_odd (defScope s_odd) := ⟨rfl, rfl, rfl, by decide +kernel, rfl, by decide +kernel, by decide +kernel⟩
abbrev s_long : Stmt := topS 45
abbrev N_long : List Str := ["_law_cell_here", "_law_letters_here", "_law_draws_here", "_law_draw"]
abbrev P_long : List Str := ["_law_cell_here", "_law_letters_here"]
theorem sc_long : FnScope N_long P_long (defScope s_long) := ⟨rfl, rfl, rfl, by decide +kernel, rfl, by decide +kernel, by decide +kernel⟩
/-! ### the texts over some letters, by their length -/
def lng (ts : List (List Nat)) (l : List Nat) : List (List Nat) := ts.flatMap fun t => l.map fun c => t ++ [c]
def lnk (l : List Nat) : Nat → List (List Nat)
  | 0 => [[]]
  | k + 1 => lng (lnk l k) l
def sht (l : List Nat) : Nat → List (List Nat)
  | 0 => [[]]
  | k + 1 => sht l k ++ lnk l (k + 1)
theorem lng_len (l : List Nat) : ∀ ts : List (List Nat), (lng ts l).length = ts.length * l.length
  | [] => by rw [show lng [] l = [] from rfl]; simp
  | t :: ts => by
    have e : lng (t :: ts) l = (l.map fun c => t ++ [c]) ++ lng ts l := rfl
    rw [e, List.length_append, List.length_map, lng_len l ts, List.length_cons, Nat.succ_mul]
    omega
theorem lng_app (l : List Nat) (a b : List (List Nat)) : lng (a ++ b) l = lng a l ++ lng b l := List.flatMap_append ..
theorem lng_mem {l : List Nat} {ts : List (List Nat)} {c : Nat} (h : ∀ t ∈ ts, t.length = c ∧ ∀ x ∈ t, x ∈ l) : ∀ t ∈ lng ts l, t.length = c + 1 ∧ ∀ x ∈ t, x ∈ l := fun t ht => by
  obtain ⟨u, hu, ht⟩ := List.mem_flatMap.mp ht
  obtain ⟨x, hx, rfl⟩ := List.mem_map.mp ht
  rw [List.length_append, (h u hu).1]
  refine ⟨rfl, fun y hy => ?_⟩
  rcases List.mem_append.mp hy with hy | hy
  · exact (h u hu).2 y hy
  · rw [List.mem_singleton.mp hy]
    exact hx
theorem lnk_len (l : List Nat) : ∀ k, (lnk l k).length = l.length ^ k
  | 0 => rfl
  | k + 1 => by
    show (lng (lnk l k) l).length = _
    rw [lng_len, lnk_len l k, Nat.pow_succ]
theorem lnk_mem (l : List Nat) : ∀ k, ∀ t ∈ lnk l k, t.length = k ∧ ∀ x ∈ t, x ∈ l
  | 0, t, h => by rw [List.mem_singleton.mp h]; exact ⟨rfl, fun x h => absurd h List.not_mem_nil⟩
  | k + 1, t, h => lng_mem (lnk_mem l k) t h
theorem sht_mem (l : List Nat) : ∀ k, ∀ t ∈ sht l k, t.length ≤ k ∧ ∀ x ∈ t, x ∈ l
  | 0, t, h => by rw [List.mem_singleton.mp h]; exact ⟨Nat.le_refl _, fun x h => absurd h List.not_mem_nil⟩
  | k + 1, t, h => by
    rcases List.mem_append.mp h with h | h
    · exact ⟨Nat.le_succ_of_le (sht_mem l k t h).1, (sht_mem l k t h).2⟩
    · exact ⟨Nat.le_of_eq (lnk_mem l (k + 1) t h).1, (lnk_mem l (k + 1) t h).2⟩
theorem sht_len {l : List Nat} (h : 0 < l.length) : ∀ k, (sht l k).length ≤ (k + 1) * l.length ^ k
  | 0 => by simp [sht]
  | k + 1 => by
    show (sht l k ++ lnk l (k + 1)).length ≤ _
    have := sht_len h k
    rw [List.length_append, lnk_len, Nat.succ_mul (k + 1)]
    have e : l.length ^ k ≤ l.length ^ (k + 1) := by rw [Nat.pow_succ]; exact Nat.le_mul_of_pos_right _ h
    have := Nat.mul_le_mul_left (k + 1) e
    omega
def txs (ts : List (List Nat)) : List V := ts.map fun t => .str (S t)
/-- the odd signs -/
def ODC : List Nat := (Str.ofString " !#$&'()*+,-./0123456789:;<=>?\x40[]^_`abcdefghijklmnopqrstuvwxyz{|}~").cps.toList
theorem odc_len : ODC.length = 66 := by decide +kernel
theorem odc_nd : ODC.Nodup := by decide +kernel
theorem odc_no : ∀ c ∈ ODC, c ∉ MKL := by decide +kernel
theorem mkl_nd : MKL.Nodup := by decide +kernel
theorem mkl_len : MKL.length = 26 := by decide +kernel
theorem erase_perm : ∀ (l : List Nat) (k : Nat) (h : k < l.length), (l[k] :: l.eraseIdx k).Perm l
  | _ :: _, 0, _ => List.Perm.refl _
  | x :: l, k + 1, h => (List.Perm.swap x _ _).trans ((erase_perm l k (Nat.lt_of_succ_lt_succ h)).cons x)
theorem sqi {c n : Nat} (h : c < n) : seqIndex? (c : Int) n = some c := by
  unfold seqIndex?
  have e : ¬ ((c : Int) < 0) := by omega
  simp only [e, if_false, ite_false]
  rw [if_pos (by simp; omega)]
  rfl
theorem erase_map {α β : Type} (g : α → β) : ∀ (l : List α) (k : Nat), (l.map g).eraseIdx k = (l.eraseIdx k).map g
  | [], _ => rfl
  | _ :: _, 0 => rfl
  | x :: l, k + 1 => by
    show g x :: (l.map g).eraseIdx k = g x :: (l.eraseIdx k).map g
    rw [erase_map g l k]
section
variable {P : Program} {w : World} {K : PySem.W.Frag} {mg : Str → Option Value} {base : Heap} {f : Addr} {fd : FuncData}
def spLet (K : PySem.W.Frag) : Sp := fun vs H Q _ => ∃ (a p : Addr) (n m : Nat) (ds : List Int), vs = [.ref a, .ref p, .int (m : Int)] ∧ Tk K a p ds n H H ∧ m ≤ 10 ∧ ∀ (l : List Nat) H', Tk K a p ds n H H' → l.Nodup → l.length = m → (∀ c ∈ l, c ∈ MKL) → Q (.str (S l)) H'
theorem ok_letters (F : FnP K "_law_letters" s_letters f fd) (m_int : mg "int" = none) (m_len : mg "len" = none) (m_list : mg "list" = none) (m_range : mg "range" = none) (c_take : Cal P w K mg base 1 "_law_take" (spTake K)) : FnOk P w K mg base CX0 2 f fd P_letters (spLet K) := by
  refine F.ok sc_letters (fun vs H Q E h => ?_) (fun cdv A outer s H vs Q E hr h => ?_)
  · obtain ⟨a, p, n, m, ds, rfl, _⟩ := h
    rfl
  · obtain ⟨a, p, n, m, ds, rfl, hT, hm, q⟩ := h
    refine ⟨_, PSs.nox (pss_cons (ps_set (i := 3) sc_letters.nd rfl (by first | exact .inl rfl | exact .inr rfl) (pe_callTy (call_listS rfl) (by rfl) m_list (by decide +kernel) (pa_cons pe_str pa_nil)))
      (pss_cons (ps_set (i := 4) sc_letters.nd rfl (by first | exact .inl rfl | exact .inr rfl) pe_str)
      (pss_cons (ps_for PassesOwn.never rfl (pi_range1 (by rfl) m_range (pa_cons (pv 2) pa_nil)) (pg_name (i := 5) sc_letters.nd rfl (by first | exact .inl rfl | exact .inr rfl))
        (pss_one (ps_set (i := 4) sc_letters.nd rfl (by first | exact .inl rfl | exact .inr rfl) (pe_op op_add_str (pv 4) (pe_bm PySem.F.plainAttrs_list PySem.F.slot_list_pop PySem.F.type_list_pop mt_popAt (pv 3) (pa_cons (pe_op op_mod (pe_callTy call_int1 (by rfl) m_int (by decide +kernel) (pa_cons (pe_cl c_take hr (by decide) (by rfl) (pa_cons (pv 0) (pa_cons (pv 1) pa_nil))) pa_nil)) (pe_callB call_len_seq (by rfl) m_len PySem.boot_len (pa_cons (pv 3) pa_nil))) pa_nil))))))
      (pss_one (ps_ret (pv 4)))))), ?_⟩
    walk_at "go"
    intro D nD
    have hT1 := hT.more (same_new (o := .lst ((Str.ofString "ABCDEFGHIJKLMNOPQRSTUVWXYZ").cps.toList.map fun c => V.str ⟨#[c]⟩)) nD)
    have eD : (upd H D (.lst ((Str.ofString "ABCDEFGHIJKLMNOPQRSTUVWXYZ").cps.toList.map fun c => V.str ⟨#[c]⟩))) D = some (.lst (MKL.map fun c => V.str (S [c]))) := upd_same
    generalize upd H D (.lst ((Str.ofString "ABCDEFGHIJKLMNOPQRSTUVWXYZ").cps.toList.map fun c => V.str ⟨#[c]⟩)) = H1 at hT1 eD
    have Dp : p ≠ D := fun e => by obtain ⟨m, em⟩ := hT.pl; rw [e, nD] at em; cases em
    have aD : a ≠ D := fun e => by have := hT.hA; rw [e, nD] at this; cases this
    walk_at "go"
    refine for_gen (n := m) (fun k σ J => Tk K a p ds n H J ∧ ∃ (l pl : List Nat) (v5 : Option V), J D = some (.lst (pl.map fun c => V.str (S [c]))) ∧ (l ++ pl).Perm MKL ∧ l.length = k ∧ σ = [some (.ref a), some (.ref p), some (.int (m : Int)), some (.ref D), some (.str (S l)), v5]) ⟨hT1, [], MKL, none, eD, List.Perm.refl _, rfl, rfl⟩ ?_ ?_ ?_ ?_
    · intro k σ J hk _
      show k < ((m : Int)).toNat
      omega
    · intro σ J _
      show ((m : Int)).toNat ≤ m
      omega
    · rintro k σ J x J' hk ⟨hT2, l, pl, v5, eD, pm, ll, rfl⟩ ⟨rfl, rfl⟩
      obtain ⟨m2, em2⟩ := hT2.pl
      have lp : l.length + pl.length = 26 := by rw [← List.length_append, pm.length_eq, mkl_len]
      walk_at "go"
      refine ⟨.inl ⟨rfl, _, SqL.of eD⟩, ?_⟩
      walk_at "go"
      refine ⟨a, p, n, m2, ds, rfl, SqL.of hT2.hA, hT2.hd, em2, hT2.ne, fun r2 r20 r21 => ?_⟩
      obtain ⟨hT3, sb3⟩ := hT2.next em2
      have eD3 := sb3 _ _ Dp.symm eD
      generalize upd J' p (.lst [.int ((m2 + 1 : Nat) : Int)]) = J3 at hT3 eD3
      obtain ⟨c, ec, hc⟩ := modN r2 (n := pl.length) (by omega)
      walk_at "go"
      refine ⟨D, _, rfl, .inl (SqL.of eD3), ?_⟩
      rw [List.length_map]
      walk_at "go"
      dsimp only
      rw [ec]
      have hg : pl[c]? = some pl[c] := List.getElem?_eq_getElem hc
      have sq : seqIndex? (c : Int) (pl.map fun c => V.str (S [c])).length = some c := by
        rw [List.length_map]
        exact sqi hc
      refine ⟨D, _, (c : Int), c, V.str (S [pl[c]]), rfl, rfl, eD3, by omega, by omega, sq, by rw [List.getElem?_map, hg]; rfl, ?_⟩
      refine ⟨S l, S [pl[c]], rfl, rfl, by rw [S_len, S_len]; exact Nat.le_trans (show l.length + 1 ≤ 40 by omega) (by decide), ?_⟩
      rw [S_cat]
      refine ⟨hT3.at_ nD Dp aD, l ++ [pl[c]], pl.eraseIdx c, _, by rw [upd_same, erase_map], ?_, by rw [List.length_append, ll]; rfl, rfl⟩
      rw [List.append_assoc]
      refine List.Perm.trans (List.Perm.append_left l ?_) pm
      exact erase_perm pl c hc
    · rintro σ J ⟨hT2, l, pl, v5, eD, pm, ll, rfl⟩
      have nd : (l ++ pl).Nodup := pm.nodup_iff.mpr mkl_nd
      walk_at "go"
      exact q l J hT2 (List.nodup_append.mp nd).1 ll fun c hc => pm.mem_iff.mp (List.mem_append_left _ hc)
def spLong (K : PySem.W.Frag) : Sp := fun vs H Q _ => ∃ (a : Addr) (c : Nat) (l : List Nat) (ts : List (List Nat)), vs = [.ref a, .str (S l)] ∧ SqL K H a (txs ts) ∧ (∀ t ∈ ts, t.length ≤ c) ∧ c ≤ 1000 ∧ ts.length * l.length ≤ 200000 ∧ ∀ (L : Addr) H', Same H H' → H L = none → H' L = some (.lst (txs (lng ts l))) → Q (.ref L) H'
theorem ok_longer (F : FnP K "_law_longer" s_longer f fd) : FnOk P w K mg base CX0 1 f fd P_longer (spLong K) := by
  refine F.ok sc_longer (fun vs H Q E h => ?_) (fun cdv A outer s H vs Q E hr h => ?_)
  · obtain ⟨a, c, l, ts, rfl, _⟩ := h
    rfl
  · obtain ⟨a, c, l, ts, rfl, hS, lt, c1, lm, q⟩ := h
    refine ⟨_, PSs.nox (pss_cons (ps_set (i := 2) sc_longer.nd rfl (by first | exact .inl rfl | exact .inr rfl) (pe_lst pa_nil))
      (pss_cons (ps_for PassesOwn.never rfl (pi_list (pv 0)) (pg_name (i := 3) sc_longer.nd rfl (by first | exact .inl rfl | exact .inr rfl))
        (pss_one (ps_for PassesOwn.never rfl (pi_str (pv 1)) (pg_name (i := 4) sc_longer.nd rfl (by first | exact .inl rfl | exact .inr rfl))
        (pss_one (ps_expr (pe_bm PySem.F.plainAttrs_list PySem.F.slot_list_append PySem.F.type_list_append mt_append (pv 2) (pa_cons (pe_op op_add_str (pv 3) (pv 4)) pa_nil)))))))
      (pss_one (ps_ret (pv 2))))), ?_⟩
    walk_at "go"
    intro L nL
    generalize eH_ : upd H L _ = H1
    have s1 : Same H H1 := by rw [← eH_]; exact same_new nL
    have eL : H1 L = some (.lst []) := by rw [← eH_]; exact upd_same
    clear eH_
    have nLH := nL
    walk_at "go"
    refine ⟨⟨_, s1.seq hS⟩, ?_⟩
    refine for_gen (n := ts.length) (fun k σ J => Same H J ∧ J L = some (.lst (txs (lng (ts.take k) l))) ∧ ∃ (v3 v4 : Option V), σ = [some (.ref a), some (.str (S l)), some (.ref L), v3, v4]) ⟨s1, eL, none, none, rfl⟩ ?_ ?_ ?_ ?_
    · rintro k σ J hk ⟨s2, _⟩
      exact ⟨_, _, s2.seq hS, by unfold txs; rw [List.getElem?_map, List.getElem?_eq_getElem hk]; rfl⟩
    · rintro σ J ⟨s2, _⟩
      exact ⟨_, s2.seq hS, by unfold txs; rw [List.length_map]; exact Nat.le_refl _⟩
    · rintro k σ J x J' hk ⟨s2, eL, v3, v4, rfl⟩ ⟨rfl, y⟩
      have y := y _ (s2.seq hS)
      unfold txs at y
      rw [List.getElem?_map, List.getElem?_eq_getElem hk] at y
      cases y
      have ltk := lt _ (List.getElem_mem hk)
      have tk : lng (ts.take (k + 1)) l = lng (ts.take k) l ++ l.map fun c => ts[k] ++ [c] := by
        rw [List.take_succ, List.getElem?_eq_getElem hk, lng_app]
        congr 1
        show (l.map fun c => ts[k] ++ [c]) ++ [] = _
        rw [List.append_nil]
      have lk : (lng (ts.take k) l).length = k * l.length := by rw [lng_len, List.length_take, Nat.min_eq_left (by omega)]
      have lk2 : (k + 1) * l.length ≤ 200000 := Nat.le_trans (Nat.mul_le_mul_right _ hk) lm
      rw [Nat.succ_mul] at lk2
      generalize ts[k] = t at ltk tk
      walk_at "go"
      refine for_gen (n := l.length) (fun j σ J => Same H J ∧ J L = some (.lst (txs (lng (ts.take k) l ++ (l.take j).map fun c => t ++ [c]))) ∧ ∃ v4 : Option V, σ = [some (.ref a), some (.str (S l)), some (.ref L), some (.str (S t)), v4]) ⟨s2, by simpa using eL, v4, rfl⟩ ?_ ?_ ?_ ?_
      · rintro j σ J hj _
        show j < (S l).cps.size
        simpa using hj
      · rintro σ J _
        show (S l).cps.size ≤ l.length
        simp
      · rintro j σ J x J2 hj ⟨s3, eL3, v4, rfl⟩ ⟨rfl, d, ed, rfl⟩
        have ed : l[j]? = some d := by simpa using ed
        walk_at "go"
        refine ⟨.inl ⟨rfl, _, SqL.of eL3⟩, ?_⟩
        walk_at "go"
        refine ⟨by rw [S_len]; exact szl (show t.length + 1 ≤ 2000 by omega), ?_⟩
        rw [show (⟨#[d]⟩ : Str) = S [d] from rfl, S_cat]
        refine ⟨L, _, _, rfl, rfl, eL3, ?_, ?_⟩
        · unfold txs
          rw [List.length_map, List.length_append, lk, List.length_map, List.length_take]
          exact szC (by omega)
        · refine ⟨Z.Same.mut s3 nLH, ?_, _, rfl⟩
          rw [upd_same, List.take_succ, ed]
          unfold txs
          simp
      · rintro σ J ⟨s3, eL3, v4, rfl⟩
        rw [List.take_length] at eL3
        exact ⟨s3, by rw [tk]; exact eL3, _, _, rfl⟩
    · rintro σ J ⟨s2, eL2, v3, v4, rfl⟩
      rw [List.take_length] at eL2
      walk_at "go"
      exact q L J s2 nLH eL2
def spTexts (K : PySem.W.Frag) : Sp := fun vs H Q _ => ∃ (l : List Nat) (mo : Nat), vs = [.str (S l), .int (mo : Int)] ∧ 0 < l.length ∧ mo ≤ 1000 ∧ (mo + 1) * l.length ^ mo ≤ 200000 ∧ ∀ (L : Addr) H', Same H H' → H L = none → H' L = some (.lst (txs (sht l mo))) → Q (.ref L) H'
theorem ok_texts (F : FnP K "_law_texts" s_texts f fd) (m_range : mg "range" = none) (c_longer : Cal P w K mg base 1 "_law_longer" (spLong K)) : FnOk P w K mg base CX0 2 f fd P_texts (spTexts K) := by
  refine F.ok sc_texts (fun vs H Q E h => ?_) (fun cdv A outer s H vs Q E hr h => ?_)
  · obtain ⟨l, mo, rfl, _⟩ := h
    rfl
  · obtain ⟨l, mo, rfl, l0, mo1, lm, q⟩ := h
    refine ⟨_, PSs.nox (pss_cons (ps_set (i := 2) sc_texts.nd rfl (by first | exact .inl rfl | exact .inr rfl) (pe_lst (pa_cons pe_str pa_nil)))
      (pss_cons (ps_set (i := 3) sc_texts.nd rfl (by first | exact .inl rfl | exact .inr rfl) (pe_lst (pa_cons pe_str pa_nil)))
      (pss_cons (ps_for PassesOwn.never rfl (pi_range1 (by rfl) m_range (pa_cons (pv 1) pa_nil)) (pg_name (i := 4) sc_texts.nd rfl (by first | exact .inl rfl | exact .inr rfl))
        (pss_cons (ps_set (i := 3) sc_texts.nd rfl (by first | exact .inl rfl | exact .inr rfl) (pe_cl c_longer hr (by decide) (by rfl) (pa_cons (pv 3) (pa_cons (pv 0) pa_nil))))
      (pss_one (ps_set (i := 2) sc_texts.nd rfl (by first | exact .inl rfl | exact .inr rfl) (pe_op op_cat (pv 2) (pv 3))))))
      (pss_one (ps_ret (pv 2)))))), ?_⟩
    walk_at "go"
    intro L1 nL1
    generalize eH_ : upd H L1 _ = H1
    have s1 : Same H H1 := by rw [← eH_]; exact same_new nL1
    have eL1 : H1 L1 = some (.lst (txs [[]])) := by rw [← eH_]; exact upd_same
    clear eH_
    walk_at "go"
    intro L2 nL2
    generalize eH_ : upd H1 L2 _ = H2
    have s2 : Same H1 H2 := by rw [← eH_]; exact same_new nL2
    have eL2 : H2 L2 = some (.lst (txs [[]])) := by rw [← eH_]; exact upd_same
    clear eH_
    have nL2 := none_of s1 nL2
    walk_at "go"
    refine for_gen (n := mo) (fun k σ J => Same H J ∧ ∃ (F B : Addr) (v4 : Option V), H F = none ∧ J F = some (.lst (txs (sht l k))) ∧ J B = some (.lst (txs (lnk l k))) ∧ σ = [some (.str (S l)), some (.int (mo : Int)), some (.ref F), some (.ref B), v4]) ⟨s1.trans s2, L1, L2, none, nL1, s2 _ _ eL1, eL2, rfl⟩ ?_ ?_ ?_ ?_
    · intro k σ J hk _
      show k < ((mo : Int)).toNat
      omega
    · intro σ J _
      show ((mo : Int)).toNat ≤ mo
      omega
    · rintro k σ J x J' hk ⟨s3, F, B, v4, nF, eF, eB, rfl⟩ ⟨rfl, rfl⟩
      have pw : (k + 1 + 1) * l.length ^ (k + 1) ≤ 200000 := by
        have e1 : l.length ^ (k + 1) ≤ l.length ^ mo := Nat.pow_le_pow_right l0 hk
        have := Nat.mul_le_mul (show k + 1 + 1 ≤ mo + 1 by omega) e1
        omega
      have p0 : 0 < l.length ^ (k + 1) := Nat.pow_pos l0
      have pk : l.length ^ k * l.length = l.length ^ (k + 1) := (Nat.pow_succ ..).symm
      have p1 : l.length ^ (k + 1) ≤ (k + 1 + 1) * l.length ^ (k + 1) := Nat.le_mul_of_pos_left _ (by omega)
      walk_at "go"
      refine ⟨B, k, l, lnk l k, rfl, SqL.of eB, fun t ht => Nat.le_of_eq (lnk_mem l k t ht).1, by omega, by rw [lnk_len, pk]; omega, fun L J2 s4 nL eL => ?_⟩
      have eF2 := s4 _ _ eF
      have ls := sht_len l0 k
      have lt := lnk_len l (k + 1)
      have ls2 : (sht l k).length + (lnk l (k + 1)).length ≤ 200000 := by
        have := sht_len l0 (k + 1)
        have e : (sht l (k + 1)).length = (sht l k).length + (lnk l (k + 1)).length := List.length_append
        omega
      walk_at "go"
      refine ⟨F, L, _, _, rfl, rfl, eF2, eL, by unfold txs; rw [List.length_map, List.length_map]; exact Nat.le_of_lt (szC (Nat.le_trans ls2 (by decide))), ?_⟩
      intro N nN
      have sN := same_new (o := .lst (txs (sht l k) ++ txs (lng (lnk l k) l))) nN
      exact ⟨s3.trans (s4.trans sN), N, L, _, none_of (s3.trans s4) nN, by rw [upd_same]; unfold txs; rw [← List.map_append]; rfl, sN _ _ eL, rfl⟩
    · rintro σ J ⟨s3, F, B, v4, nF, eF, eB, rfl⟩
      walk_at "go"
      exact q F J s3 nF eF
def spOdd : Sp := fun vs H Q _ => ∃ r : Int, vs = [.int r] ∧ ∀ c : Nat, c = ODC.getD (r % 66).toNat 0 → Q (.str (S [c])) H
theorem ok_odd (F : FnP K "_law_odd" s_odd f fd) (m_int : mg "int" = none) (m_len : mg "len" = none) : FnOk P w K mg base CX0 1 f fd P_odd spOdd := by
  refine F.ok sc_odd (fun vs H Q E h => ?_) (fun cdv A outer s H vs Q E hr h => ?_)
  · obtain ⟨r, rfl, _⟩ := h
    rfl
  · obtain ⟨r, rfl, q⟩ := h
    refine ⟨_, PSs.nox (pss_cons (ps_set (i := 1) sc_odd.nd rfl (by first | exact .inl rfl | exact .inr rfl) pe_str)
      (pss_one (ps_ret (pe_ix ix_str (pv 1) (pe_op op_mod (pe_callTy call_int1 (by rfl) m_int (by decide +kernel) (pa_cons (pv 0) pa_nil)) (pe_callB call_len_str (by rfl) m_len PySem.boot_len (pa_cons (pv 1) pa_nil))) (fun _ _ => rfl))))), ?_⟩
    have sg0 : (Str.ofString " !#$&'()*+,-./0123456789:;<=>?\x40[]^_`abcdefghijklmnopqrstuvwxyz{|}~").length = 66 := by decide +kernel
    have sg1 : (Str.ofString " !#$&'()*+,-./0123456789:;<=>?\x40[]^_`abcdefghijklmnopqrstuvwxyz{|}~").length ≤ sizeLine := by decide +kernel
    have sg2 : (Str.ofString " !#$&'()*+,-./0123456789:;<=>?\x40[]^_`abcdefghijklmnopqrstuvwxyz{|}~").cps.toList = ODC := rfl
    generalize Str.ofString " !#$&'()*+,-./0123456789:;<=>?\x40[]^_`abcdefghijklmnopqrstuvwxyz{|}~" = sg at sg0 sg1 sg2
    walk_at "go"
    rw [sg0]
    obtain ⟨c, ec, hc⟩ := modN r (n := 66) (by decide)
    have ec : r % 66 = (c : Int) := ec
    refine ⟨sg, r % ((66 : Nat) : Int), _, rfl, rfl, sg1, by rw [sg2, show r % ((66 : Nat) : Int) = (c : Int) from ec]; exact atI_nat (List.getElem?_eq_getElem (by rw [odc_len]; exact hc)), ?_⟩
    refine q _ ?_
    rw [ec, Int.toNat_natCast, List.getD_eq_getElem?_getD, List.getElem?_eq_getElem (by rw [odc_len]; exact hc)]
    rfl
def spLg (K : PySem.W.Frag) : Sp := fun vs H Q _ => ∃ (x : Int) (l : List Nat), vs = [.int x, .str (S l)] ∧ 0 < l.length ∧ l.length ≤ 10 ∧ ∀ (t : List Nat) H', Same H H' → t.length ≤ 40 → (∀ c ∈ t, c ∈ l) → Q (.str (S t)) H'
theorem ok_long (F : FnP K "_law_long" s_long f fd) (m_int : mg "int" = none) (m_len : mg "len" = none) (c_draws : Cal P w K mg base 1 "_law_draws" spDraws) : FnOk P w K mg base CX0 2 f fd P_long (spLg K) := by
  refine F.ok sc_long (fun vs H Q E h => ?_) (fun cdv A outer s H vs Q E hr h => ?_)
  · obtain ⟨x, l, rfl, _⟩ := h
    rfl
  · obtain ⟨x, l, rfl, l0, l1, q⟩ := h
    refine ⟨_, PSs.nox (pss_cons (ps_set (i := 2) sc_long.nd rfl (by first | exact .inl rfl | exact .inr rfl) (pe_cl c_draws hr (by decide) (by rfl) (pa_cons (pv 0) (pa_cons pe_int pa_nil))))
      (pss_one (ps_ret (pe_join pe_str (pe_lc (own := [("_law_draw", 3)]) (g := (gName 3)) (tt := tYes) (by rfl) sc_long.nd (pi_list (pe_slice sl_list (pv 2) (po_some pe_int) (po_some (pe_op op_add pe_int (pe_op op_mod (pe_callTy call_int1 (by rfl) m_int (by decide +kernel) (pa_cons (pe_ix ix_list (pv 2) pe_int (fun _ _ => rfl)) pa_nil)) pe_int))))) (blkOk_by (own := [("_law_draw", 3)]) (N := N_long) (sc := defScope s_long) (by decide +kernel)) (fun _ _ _ _ _ => (pg_name (i := 3) sc_long.nd rfl (by first | exact .inl rfl | exact .inr rfl))) (fun _ _ _ _ _ => pts_nil) (fun _ _ _ _ _ => (pe_ix ix_str (pv 1) (pe_op op_mod (pe_callTy call_int1 (by rfl) m_int (by decide +kernel) (pa_cons (pv 3) pa_nil)) (pe_callB call_len_str (by rfl) m_len PySem.boot_len (pa_cons (pv 1) pa_nil))) (fun _ _ => rfl)))))))), ?_⟩
    walk_at "go"
    intro p ds np hd
    have s1 := same_new (o := .lst (ds.map V.int)) np
    have ep : (upd H p (.lst (ds.map V.int))) p = some (.lst (ds.map V.int)) := upd_same
    generalize upd H p (.lst (ds.map V.int)) = H1 at s1 ep
    walk_at "go"
    refine ⟨⟨_, rfl⟩, ?_⟩
    walk_at "go"
    have h41 : ds.length = 41 := hd.1
    obtain ⟨d0, hd0⟩ : ∃ d0, ds[0]? = some d0 := ⟨_, List.getElem?_eq_getElem (by omega)⟩
    refine ⟨p, _, 0, .int d0, rfl, rfl, SqL.of ep, atI_nat (j := 0) (by rw [List.getElem?_map, hd0]; rfl), ?_⟩
    walk_at "go"
    obtain ⟨z, hz⟩ : ∃ z, 1 + d0 % 41 = z := ⟨_, rfl⟩
    dsimp only
    rw [hz]
    refine ⟨p, _, rfl, SqL.of ep, fun r nr => ?_⟩
    obtain ⟨es, ees, les⟩ : ∃ es : List Int, cutV (ds.map V.int) (some 1) (some z) = es.map V.int ∧ es.length ≤ 40 := by
      refine ⟨(ds.drop 1).take (HT.sIx 41 41 (some z) - 1), ?_, ?_⟩
      · unfold cutV
        rw [List.length_map, h41, ← List.map_drop, ← List.map_take]
        rfl
      · rw [List.length_take, List.length_drop]
        omega
    rw [ees]
    have s2 := same_new (o := .lst (es.map V.int)) nr
    have er : (upd H1 r (.lst (es.map V.int))) r = some (.lst (es.map V.int)) := upd_same
    generalize upd H1 r (.lst (es.map V.int)) = H2 at s2 er
    have s12 := s1.trans s2
    clear ees s1 s2 ep nr
    walk_at "go"
    refine ⟨⟨_, SqL.of er⟩, ?_⟩
    walk_at "go"
    intro D nD
    have hlen : (S l).length ≤ sizeLine := by rw [S_len]; exact szl (by omega)
    refine lc_gen (n := es.length) (fun i J => Same H2 J ∧ ∃ t : List Nat, J D = some (.lst (t.map fun c => V.str (S [c]))) ∧ t.length = i ∧ ∀ c ∈ t, c ∈ l) ⟨same_new nD, [], upd_same, rfl, fun c h => absurd h List.not_mem_nil⟩ ?_ ?_ ?_ ?_
    · rintro i J hi ⟨s3, _⟩
      exact ⟨_, _, SqL.of (s3 _ _ er), by rw [List.getElem?_map, List.getElem?_eq_getElem hi]; rfl⟩
    · rintro J ⟨s3, _⟩
      exact ⟨_, SqL.of (s3 _ _ er), by rw [List.length_map]; exact Nat.le_refl _⟩
    · rintro i J x J2 hi ⟨s3, t, eD, lt, tl⟩ ⟨rfl, ex⟩
      have ex := ex _ (SqL.of (s3 _ _ er))
      rw [List.getElem?_map, List.getElem?_eq_getElem hi] at ex
      cases ex
      obtain ⟨c, ea⟩ := sgn_at (S l) es[i] (by rw [S_len]; exact l0)
      have cl : c ∈ l := List.mem_of_getElem? (atI_get ea).choose_spec.2.1
      walk_at "go"
      rw [S_len] at ea ⊢
      refine ⟨by show (0 : Int) < (l.length : Int); omega, ?_⟩
      refine ⟨S l, _, c, rfl, rfl, hlen, ea, ?_⟩
      exact ⟨_, eD, by rw [List.length_map]; exact szlt (by omega), Z.Same.mut s3 nD, t ++ [c], by rw [upd_same, List.map_append]; rfl, by rw [List.length_append, lt]; rfl, fun x hx => (List.mem_append.mp hx).elim (tl x) fun z => by rw [List.mem_singleton.mp z]; exact cl⟩
    rintro J ⟨s3, t, eD, lt, tl⟩
    walk_at "go"
    refine ⟨S [], D, t.map fun c => S [c], rfl, rfl, .inl (SqL.of (by rw [List.map_map]; exact eD)), ?_, ?_⟩
    · rw [List.map_map]
      have e : (t.map ((fun x : Str => x.length) ∘ fun c => S [c])) = t.map fun _ => 1 := List.map_congr_left fun c _ => S_len _
      rw [e, sum_one, List.length_map, S_len]
      simp
      omega
    rw [show (t.map fun c => S [c]) = (t.map fun c => [c]).map S by rw [List.map_map]; rfl, SX.join_S, join_one]
    exact q t J (s12.trans s3) (by omega) tl
end
end Z
set_option pp.maxSteps 700
set_option Elab.async false
set_option linter.all false
set_option maxRecDepth 100000
set_option maxHeartbeats 4000000
open SX (S S_inj S_len S_cat)
namespace Z
open Mc
open PySem PySem.Spec PyProof.Rows L2
open C8 (pss_cut tCut)
local macro_rules | `(tactic| walk_at "num") => `(tactic| first | rfl | omega | decide | exact Nat.le_of_lt (small1000 (by simp)) | exact ⟨by omega, by omega⟩ | exact ⟨by omega, by omega, by omega⟩ | exact ⟨by decide, by decide, by decide⟩ | exact Or.inl ⟨by omega, by omega⟩ | exact Or.inr ⟨by omega, by omega⟩)
local macro_rules | `(tactic| walk_at "go") => `(tactic| repeat (first | refine ⟨_, rfl, ?_⟩ | refine ⟨_, _, rfl, rfl, ?_⟩ | refine ⟨_, _, rfl, ?_⟩ | (refine ⟨_, _, rfl, rfl, ?_, ?_⟩; focus walk_at "num") | refine Or.inl ⟨_, rfl, ?_⟩ | refine ⟨_, _, _, _, rfl, rfl, (by assumption), (by rfl), ?_⟩ | refine ⟨_, _, _, _, _, rfl, (by assumption), (by assumption), (by assumption), (by rfl), ?_⟩ | refine ⟨rfl, ?_⟩ | (refine And.intro ?_ ?_; focus walk_at "num")))
abbrev s_due : Stmt := topS 47
abbrev N_due : List Str := ["_law_name", "_law_text", "_law_first", "_law_second", "_law_times", "_law_mark", "_law_k"]
abbrev P_due : List Str := ["_law_name", "_law_text", "_law_first", "_law_second", "_law_times"]
theorem sc_due : FnScope N_due P_due (defScope s_due) := ⟨rfl, rfl, rfl, by decide +kernel, rfl, by decide +kernel, by decide +kernel⟩
section
variable {P : Program} {w : World} {K : PySem.W.Frag} {mg : Str → Option Value} {base : Heap} {f : Addr} {fd : FuncData}
theorem flt_count (a : Nat) (g : Nat → V) : ∀ tx : List Nat, (fltL (fun k => decide (tx.getD k 0 = a)) g tx.length).length = tx.count a := by
  intro tx
  unfold fltL
  rw [List.length_map]
  induction tx with
  | nil => rfl
  | cons x r ih =>
    rw [List.length_cons, List.range_succ_eq_map, List.filter_cons, List.filter_map, List.count_cons]
    have e : ((fun k => decide ((x :: r).getD k 0 = a)) ∘ Nat.succ) = fun k => decide (r.getD k 0 = a) := rfl
    rw [e]
    have e2 : (x :: r).getD 0 0 = x := rfl
    rw [e2]
    by_cases c : x = a
    · rw [decide_eq_true c, if_pos rfl, List.length_cons, List.length_map, ih, c]
      simp
    · rw [decide_eq_false c, if_neg (by decide), List.length_map, ih]
      simp [c]
/-- a place of the text breaks the duty -/
def brk (md a b : Nat) (tx : List Nat) (k : Nat) : Prop := tx[k]? = some a ∧ (md = 0 ∨ md = 1 ∧ b ∉ tx.take k ∨ md = 2 ∧ b ∉ tx.drop (k + 1))
theorem due_brk {md a b t : Nat} {tx : List Nat} (h : md < 3) : DueD md a b t tx ↔ ∀ k, k < tx.length → ¬ brk md a b tx k := by
  obtain rfl | rfl | rfl : md = 0 ∨ md = 1 ∨ md = 2 := by omega
  · show a ∉ tx ↔ _
    constructor
    · rintro h k hk ⟨e, _⟩
      exact h (List.mem_of_getElem? e)
    · intro h m
      obtain ⟨k, hk, e⟩ := List.getElem_of_mem m
      exact h k hk ⟨by rw [List.getElem?_eq_getElem hk, e], .inl rfl⟩
  · show Bef a b tx ↔ _
    constructor
    · rintro h k hk ⟨e, h1⟩
      rcases h1 with h1 | ⟨_, h1⟩ | ⟨h1, _⟩
      · cases h1
      · exact h1 (h k e)
      · cases h1
    · intro h k e
      have hk := (List.getElem?_eq_some_iff.mp e).1
      exact Decidable.byContradiction fun z => h k hk ⟨e, .inr (.inl ⟨rfl, z⟩)⟩
  · show Beh a b tx ↔ _
    constructor
    · rintro h k hk ⟨e, h1⟩
      rcases h1 with h1 | ⟨h1, _⟩ | ⟨_, h1⟩
      · cases h1
      · cases h1
      · exact h1 (h k e)
    · intro h k e
      have hk := (List.getElem?_eq_some_iff.mp e).1
      exact Decidable.byContradiction fun z => h k hk ⟨e, .inr (.inr ⟨rfl, z⟩)⟩
theorem memS (c : Nat) (l : List Nat) : decide (c ∈ (S l).cps.toList) = decide (c ∈ l) := rfl
def spDue : Sp := fun vs H Q _ => ∃ (md : Nat) (tx : List Nat) (a b t : Nat), vs = [.str (nmD md), .str (S tx), .str (S [a]), .str (S [b]), .int (t : Int)] ∧ md < 4 ∧ tx.length ≤ 1000 ∧ ∀ (r : Bool) H', Same H H' → (r = true ↔ DueD md a b t tx) → Q (.bl r) H'
theorem ok_due (F : FnP K "_law_due" s_due f fd) (m_len : mg "len" = none) (m_range : mg "range" = none) : FnOk P w K mg base CX0 1 f fd P_due spDue := by
  refine F.ok sc_due (fun vs H Q E h => ?_) (fun cdv A outer s H vs Q E hr h => ?_)
  · obtain ⟨md, tx, a, b, t, rfl, _⟩ := h
    rfl
  · obtain ⟨md, tx, a, b, t, rfl, m4, lx, q⟩ := h
    refine ⟨_, PSs.nox (pss_cons (ps_if (pt_cmpR op_eq (pv 0) pe_str (nomark _)) (pss_one (ps_ret (pe_cmpR op_le (pe_callB call_len_seq (by rfl) m_len PySem.boot_len (pa_cons (pe_lc (own := [("_law_mark", 5)]) (g := (gName 5)) (by rfl) sc_due.nd (pi_str (pv 1)) (blkOk_by (own := [("_law_mark", 5)]) (N := N_due) (sc := defScope s_due) (by decide +kernel)) (fun _ _ _ _ _ => (pg_name (i := 5) sc_due.nd rfl (by first | exact .inl rfl | exact .inr rfl))) (fun _ _ _ _ _ => (pts_one (pt_cmpR op_eq (pv 5) (pv 2) (nomark _)))) (fun _ _ _ _ _ => (pv 5))) pa_nil)) (pv 4) (nomark _)))) pss_nil)
      (pss_cons (ps_for PassesOwn.never rfl (pi_range1 (by rfl) m_range (pa_cons (pe_callB call_len_str (by rfl) m_len PySem.boot_len (pa_cons (pv 1) pa_nil)) pa_nil)) (pg_name (i := 6) sc_due.nd rfl (by first | exact .inl rfl | exact .inr rfl))
        (pss_one (ps_if (pt_cmpR op_eq (pe_ix ix_str (pv 1) (pv 6) (fun _ _ => rfl)) (pv 2) (nomark _)) (pss_cons (ps_if (PW.pt (pw_or (pt_cmpR op_eq (pv 0) pe_str (nomark _)) (pw_or1 (PW.pt (pw_and (pt_cmpR op_eq (pv 0) pe_str (nomark _)) (pw_and1 (pt_cmpR op_notIn_sign (pv 3) (pe_slice C8.sl_txt (pv 1) po_none (po_some (pv 6))) (by rfl)))))))) (pss_one (ps_ret pe_bl)) pss_nil)
      (pss_one (ps_if (PW.pt (pw_and (pt_cmpR op_eq (pv 0) pe_str (nomark _)) (pw_and1 (pt_cmpR op_notIn_sign (pv 3) (pe_slice C8.sl_txt (pv 1) (po_some (pe_op op_add (pv 6) pe_int)) po_none) (by rfl))))) (pss_one (ps_ret pe_bl)) pss_nil))) pss_nil)))
      (pss_one (ps_ret pe_bl)))), ?_⟩
    have h0 : decide (V.str (nmD md) = V.str (Str.ofString "never")) = decide (md = 0) := nmd (j := 0) m4 (by decide)
    have h1 : decide (V.str (nmD md) = V.str (Str.ofString "only_after")) = decide (md = 1) := nmd (j := 1) m4 (by decide)
    have h2 : decide (V.str (nmD md) = V.str (Str.ofString "answered")) = decide (md = 2) := nmd (j := 2) m4 (by decide)
    have h3 : decide (V.str (nmD md) = V.str (Str.ofString "at_most")) = decide (md = 3) := nmd (j := 3) m4 (by decide)
    generalize nmD md = nm at h0 h1 h2 h3
    walk_at "go"
    rw [h3]
    by_cases c3 : md = 3
    · rw [decide_eq_true c3]
      walk_at "go"
      intro D nD
      refine lc_flt (n := tx.length) (fun k => .str (S [tx.getD k 0])) (fun k => decide (tx.getD k 0 = a)) (fun k => .str (S [tx.getD k 0])) (by omega) nD (fun k J hk s => ?_) (fun J s => ?_) (fun k J x J2 hk s y => ?_) (fun k => rfl) (fun k J Q1 hk s q1 => ?_) (fun k J Q1 hk ht s q1 => ?_) (fun J s eD => ?_)
      · show k < (S tx).cps.size
        simpa using hk
      · show (S tx).cps.size ≤ tx.length
        simp
      · obtain ⟨rfl, c, ec, rfl⟩ := y
        have ec : tx[k]? = some c := by simpa using ec
        refine ⟨Same.refl _, ?_⟩
        rw [List.getD_eq_getElem?_getD, ec]
        rfl
      · walk_at "go"
        rw [dS]
        have := q1 _ (Same.refl _)
        by_cases c : tx.getD k 0 = a
        · rw [decide_eq_true c] at this ⊢
          exact this
        · rw [decide_eq_false c] at this ⊢
          exact this
      · walk_at "go"
        exact q1 _ (Same.refl _)
      · walk_at "go"
        refine ⟨D, _, rfl, .inl (SqL.of eD), ?_⟩
        rw [flt_count]
        walk_at "go"
        refine q _ _ s ?_
        subst c3
        rw [decide_eq_true_iff]
        show _ ↔ tx.count a ≤ t
        omega
    · rw [decide_eq_false c3]
      have m3 : md < 3 := by omega
      walk_at "go"
      refine ⟨by rw [S_len]; exact Nat.le_trans lx (by decide), ?_⟩
      rw [S_len]
      walk_at "go"
      refine for_gen (n := tx.length) (fun k σ J => J = H ∧ (∀ j, j < k → ¬ brk md a b tx j) ∧ ∃ v6 : Option V, σ = [some (.str nm), some (.str (S tx)), some (.str (S [a])), some (.str (S [b])), some (.int (t : Int)), none, v6]) ⟨rfl, fun j h => absurd h (by omega), none, rfl⟩ ?_ ?_ ?_ ?_
      · intro k σ J hk _
        show k < ((tx.length : Int)).toNat
        omega
      · intro σ J _
        show ((tx.length : Int)).toNat ≤ tx.length
        omega
      · rintro k σ J x J2 hk ⟨rfl, ok, v6, rfl⟩ ⟨rfl, rfl⟩
        have ek := List.getElem?_eq_getElem hk
        have nx : ¬ brk md a b tx k → ∀ j, j < k + 1 → ¬ brk md a b tx j := fun h j hj => by
          by_cases e : j = k
          · rw [e]; exact h
          · exact ok j (by omega)
        have bad : brk md a b tx k → Q (.bl false) J2 := fun h => q false J2 (Same.refl _) ⟨(fun z => by cases z), fun z => absurd h ((due_brk m3).mp z k hk)⟩
        have e0 : (0 : Int) + (k : Int) = (k : Int) := by omega
        rw [e0]
        obtain ⟨c, hc⟩ : ∃ c, c = tx[k] := ⟨_, rfl⟩
        rw [← hc] at ek
        walk_at "go"
        refine ⟨S tx, _, c, rfl, rfl, by rw [S_len]; exact Nat.le_trans lx (by decide), atI_nat ek, ?_⟩
        walk_at "go"
        rw [show (⟨#[c]⟩ : Str) = S [c] from rfl, dS]
        by_cases ca : c = a
        · subst ca
          rw [decide_eq_true rfl]
          walk_at "go"
          rw [h0]
          by_cases m0 : md = 0
          · rw [decide_eq_true m0]
            walk_at "go"
            exact bad ⟨ek, .inl m0⟩
          rw [decide_eq_false m0]
          walk_at "go"
          rw [h1]
          by_cases m1 : md = 1
          · rw [decide_eq_true m1]
            walk_at "go"
            refine ⟨by rw [S_len]; exact Nat.le_trans lx (by decide), ?_⟩
            rw [SX.slice_to (by omega), Int.toNat_natCast]
            walk_at "go"
            rw [memS]
            by_cases cb : b ∈ tx.take k
            · rw [decide_eq_true cb]
              walk_at "go"
              rw [h2, decide_eq_false (by omega : ¬ md = 2)]
              walk_at "go"
              refine ⟨nx fun h => ?_, _, rfl⟩
              rcases h.2 with h | ⟨_, h⟩ | ⟨h, _⟩
              · omega
              · exact h cb
              · omega
            · rw [decide_eq_false cb]
              walk_at "go"
              exact bad ⟨ek, .inr (.inl ⟨m1, cb⟩)⟩
          obtain rfl : md = 2 := by omega
          rw [decide_eq_false m1]
          walk_at "go"
          rw [h2, decide_eq_true rfl]
          walk_at "go"
          refine ⟨by rw [S_len]; exact Nat.le_trans lx (by decide), ?_⟩
          rw [SX.slice_from (by omega), show ((k : Int) + 1).toNat = k + 1 by omega]
          walk_at "go"
          rw [memS]
          by_cases cb : b ∈ tx.drop (k + 1)
          · rw [decide_eq_true cb]
            walk_at "go"
            refine ⟨nx fun h => ?_, _, rfl⟩
            rcases h.2 with h | ⟨h, _⟩ | ⟨_, h⟩
            · omega
            · omega
            · exact h cb
          · rw [decide_eq_false cb]
            walk_at "go"
            exact bad ⟨ek, .inr (.inr ⟨rfl, cb⟩)⟩
        · have nb : ¬ brk md a b tx k := fun h => by
            have := h.1
            rw [ek] at this
            cases this
            exact ca rfl
          rw [decide_eq_false ca]
          walk_at "go"
          exact ⟨nx nb, _, rfl⟩
      · rintro σ J ⟨rfl, ok, v6, rfl⟩
        walk_at "go"
        exact q true J (Same.refl _) ⟨fun _ => (due_brk m3).mpr ok, fun _ => rfl⟩
end
end Z
set_option pp.maxSteps 700
set_option Elab.async false
set_option linter.all false
set_option maxRecDepth 100000
set_option maxHeartbeats 4000000
open SX (S S_inj S_len S_cat)
namespace Z
open Mc
open PySem PySem.Spec PyProof.Rows L2
open C8 (pss_cut tCut)
local macro_rules | `(tactic| walk_at "num") => `(tactic| first | rfl | omega | decide | exact Nat.le_of_lt (small1000 (by simp)) | exact ⟨by omega, by omega⟩ | exact ⟨by omega, by omega, by omega⟩ | exact ⟨by decide, by decide, by decide⟩ | exact Or.inl ⟨by omega, by omega⟩ | exact Or.inr ⟨by omega, by omega⟩)
local macro_rules | `(tactic| walk_at "go") => `(tactic| repeat (first | refine ⟨_, rfl, ?_⟩ | refine ⟨_, _, rfl, rfl, ?_⟩ | refine ⟨_, _, rfl, ?_⟩ | (refine ⟨_, _, rfl, rfl, ?_, ?_⟩; focus walk_at "num") | refine Or.inl ⟨_, rfl, ?_⟩ | refine ⟨_, _, _, _, rfl, rfl, (by assumption), (by rfl), ?_⟩ | refine ⟨_, _, _, _, _, rfl, (by assumption), (by assumption), (by assumption), (by rfl), ?_⟩ | refine ⟨rfl, ?_⟩ | (refine And.intro ?_ ?_; focus walk_at "num")))
abbrev s_entry : Stmt := topS 48
abbrev N_entry : List Str := ["_law_name", "_law_state", "_law_letter", "_law_first", "_law_second", "_law_times"]
abbrev P_entry : List Str := ["_law_name", "_law_state", "_law_letter", "_law_first", "_law_second", "_law_times"]
theorem sc_entry : FnScope N_entry P_entry (defScope s_entry) := ⟨rfl, rfl, rfl, by decide +kernel, rfl, by decide +kernel, by decide +kernel⟩
abbrev s_table : Stmt := topS 49
abbrev N_table : List Str := ["_law_name", "_law_letters_here", "_law_first", "_law_second", "_law_times", "_law_size", "_law_letter", "_law_state", "_law_rows", "_law_at"]
abbrev P_table : List Str := ["_law_name", "_law_letters_here", "_law_first", "_law_second", "_law_times"]
theorem sc_table : FnScope N_table P_table (defScope s_table) := ⟨rfl, rfl, rfl, by decide +kernel, rfl, by decide +kernel, by decide +kernel⟩
section
variable {P : Program} {w : World} {K : PySem.W.Frag} {mg : Str → Option Value} {base : Heap} {f C : Addr} {fd : FuncData}
def spEnt : Sp := fun vs H Q _ => ∃ (md s x a b t : Nat), vs = [.str (nmD md), .int (s : Int), .str (S [x]), .str (S [a]), .str (S [b]), .int (t : Int)] ∧ md < 4 ∧ Q (eV (entR md a b s x)) H
theorem ok_entry (F : FnP K "_law_entry" s_entry f fd) (m_int : mg "int" = none) (m_max : mg "max" = none) : FnOk P w K mg base CX0 1 f fd P_entry spEnt := by
  refine F.ok sc_entry (fun vs H Q E h => ?_) (fun cdv A outer s H vs Q E hr h => ?_)
  · obtain ⟨md, s, x, a, b, t, rfl, _⟩ := h
    rfl
  · obtain ⟨md, s, x, a, b, t, rfl, m4, q⟩ := h
    refine ⟨_, PSs.nox (pss_cons (ps_if (pt_cmpR op_eq (pv 0) pe_str (nomark _)) (pss_cons (ps_if (pt_cmpR op_eq (pv 2) (pv 3) (nomark _)) (pss_one (ps_ret (pe_op op_add (pv 1) pe_int))) pss_nil)
      (pss_one (ps_ret (pv 1)))) pss_nil)
      (pss_cons (ps_if (pt_cmpR op_eq (pv 0) pe_str (nomark _)) (pss_cons (ps_if (pt_cmpR op_eq (pv 2) (pv 3) (nomark _)) (pss_one (ps_ret pe_int)) pss_nil)
      (pss_one (ps_ret (pe_op op_mul (pv 1) (pe_callTy call_int1 (by rfl) m_int (by decide +kernel) (pa_cons (pe_cmpR op_ne (pv 2) (pv 4) (nomark _)) pa_nil)))))) pss_nil)
      (pss_cons (ps_if (pt_cmpR op_eq (pv 0) pe_str (nomark _)) (pss_one (ps_ret (pe_callB (call_max2 rfl) (by rfl) m_max (by decide +kernel) (pa_cons (pv 1) (pa_cons (pe_callTy call_int1 (by rfl) m_int (by decide +kernel) (pa_cons (pe_cmpR op_eq (pv 2) (pv 4) (nomark _)) pa_nil)) pa_nil))))) pss_nil)
      (pss_one (ps_ret (pv 1)))))), ?_⟩
    have h1 : decide (V.str (nmD md) = V.str (Str.ofString "only_after")) = decide (md = 1) := nmd (j := 1) m4 (by decide)
    have h2 : decide (V.str (nmD md) = V.str (Str.ofString "answered")) = decide (md = 2) := nmd (j := 2) m4 (by decide)
    have h3 : decide (V.str (nmD md) = V.str (Str.ofString "at_most")) = decide (md = 3) := nmd (j := 3) m4 (by decide)
    generalize nmD md = nm at h1 h2 h3
    walk_at "go"
    rw [h3]
    by_cases c3 : md = 3
    · subst c3
      rw [decide_eq_true rfl]
      walk_at "go"
      rw [dS]
      have q : Q (eV (if x = a then some (s + 1) else some s)) H := q
      by_cases c : x = a
      · rw [if_pos c] at q
        rw [decide_eq_true c]
        walk_at "go"
        exact q
      · rw [if_neg c] at q
        rw [decide_eq_false c]
        walk_at "go"
        exact q
    rw [decide_eq_false c3]
    walk_at "go"
    rw [h2]
    by_cases c2 : md = 2
    · subst c2
      rw [decide_eq_true rfl]
      walk_at "go"
      rw [dS]
      have q : Q (eV (if x = a then some 1 else some (if x = b then 0 else s))) H := q
      by_cases c : x = a
      · rw [if_pos c] at q
        rw [decide_eq_true c]
        walk_at "go"
        exact q
      · rw [if_neg c] at q
        rw [decide_eq_false c]
        walk_at "go"
        refine .inr ⟨_, rfl, ?_⟩
        rw [dS]
        by_cases d : x = b
        · rw [if_pos d] at q
          rw [decide_eq_true d]
          refine ⟨(s : Int), 0, rfl, rfl, .inr ⟨by decide, by decide⟩, ?_⟩
          walk_at "go"
          show Q (V.int ((s : Int) * 0)) H
          rw [Int.mul_zero]
          exact q
        · rw [if_neg d] at q
          rw [decide_eq_false d]
          refine ⟨(s : Int), 1, rfl, rfl, .inr ⟨by decide, by decide⟩, ?_⟩
          walk_at "go"
          show Q (V.int ((s : Int) * 1)) H
          rw [Int.mul_one]
          exact q
    rw [decide_eq_false c2]
    walk_at "go"
    rw [h1]
    by_cases c1 : md = 1
    · subst c1
      rw [decide_eq_true rfl]
      walk_at "go"
      have q : Q (eV (some (if x = b then (if s < 1 then 1 else s) else s))) H := q
      refine .inr ⟨_, rfl, ?_⟩
      rw [dS]
      by_cases d : x = b
      · rw [if_pos d] at q
        rw [decide_eq_true d]
        walk_at "go"
        by_cases e : s < 1
        · rw [if_pos e] at q
          show Q (V.int (if (1 : Int) > (s : Int) then 1 else (s : Int))) H
          rw [if_pos (show (1 : Int) > (s : Int) by omega)]
          exact q
        · rw [if_neg e] at q
          show Q (V.int (if (1 : Int) > (s : Int) then 1 else (s : Int))) H
          rw [if_neg (show ¬ (1 : Int) > (s : Int) by omega)]
          exact q
      · rw [if_neg d] at q
        rw [decide_eq_false d]
        walk_at "go"
        show Q (V.int (if (0 : Int) > (s : Int) then 0 else (s : Int))) H
        rw [if_neg (show ¬ (0 : Int) > (s : Int) by omega)]
        exact q
    · obtain rfl : md = 0 := by omega
      rw [decide_eq_false c1]
      walk_at "go"
      exact q

theorem TbR.tb {K : PySem.W.Frag} {H : Hp} {A : Addr} {zs : List (Addr × List (Option Nat))} (h : TbR H A zs) : Tb true true K H A zs := ⟨SqL.of h.sq, fun z m => SqL.of (h.at_ z m)⟩
theorem TbR.mono {H H' : Hp} {A : Addr} {zs : List (Addr × List (Option Nat))} (s : Same H H') (h : TbR H A zs) : TbR H' A zs := ⟨s _ _ h.sq, fun z m => s _ _ (h.at_ z m)⟩
/-- a table all of whose rows are new and lie apart -/
structure TbN (H0 H : Hp) (A : Addr) (zs : List (Addr × List (Option Nat))) : Prop where
  r : TbR H A zs
  nd : (zs.map (·.1)).Nodup
  nw : ∀ z ∈ zs, H0 z.1 = none
theorem nd_ne {zs : List (Addr × List (Option Nat))} (nd : (zs.map (·.1)).Nodup) {i j : Nat} {y z : Addr × List (Option Nat)} (hy : zs[i]? = some y) (hz : zs[j]? = some z) (ne : i ≠ j) : y.1 ≠ z.1 := fun e => by
  have h1 : (zs.map (·.1))[i]? = some y.1 := by rw [List.getElem?_map, hy]; rfl
  have h2 : (zs.map (·.1))[j]? = some z.1 := by rw [List.getElem?_map, hz]; rfl
  have hi := (List.getElem?_eq_some_iff.mp h1).1
  exact ne ((List.getElem?_inj hi nd).mp (by rw [h1, h2, e]))
theorem TbN.put {H0 H : Hp} {A a : Addr} {zs : List (Addr × List (Option Nat))} {i : Nat} {r r' : List (Option Nat)} (h : TbN H0 H A zs) (e : zs[i]? = some (a, r)) : TbN H0 (upd H a (.lst (r'.map eV))) A (zs.set i (a, r')) := by
  have hi := (List.getElem?_eq_some_iff.mp e).1
  have ma := List.mem_of_getElem? e
  have em : (zs.set i (a, r')).map (·.1) = zs.map (·.1) := by
    rw [List.map_set]
    refine List.ext_getElem? fun k => ?_
    by_cases c : k = i
    · subst c
      rw [List.getElem?_set_self (by rw [List.length_map]; exact hi), List.getElem?_map, e]
      rfl
    · rw [List.getElem?_set_ne (fun z => c z.symm)]
  refine ⟨⟨?_, fun z hz => ?_⟩, by rw [em]; exact h.nd, fun z hz => ?_⟩
  · have nA : A ≠ a := fun z => by
      have h1 := h.r.at_ _ ma
      have h2 := h.r.sq
      rw [z, h1] at h2
      injection h2 with h2
      injection h2 with h2
      cases zs with
      | nil => cases e
      | cons y zs =>
        cases r with
        | nil => cases h2
        | cons o r => cases o <;> cases h2
    rw [upd_ne nA, h.r.sq]
    have : (zs.set i (a, r')).map (fun z => V.ref z.1) = ((zs.set i (a, r')).map (·.1)).map V.ref := by rw [List.map_map]; rfl
    rw [this, em, List.map_map]
    rfl
  · obtain ⟨k, hk⟩ := List.mem_iff_getElem?.mp hz
    by_cases c : k = i
    · subst c
      rw [List.getElem?_set_self hi] at hk
      cases hk
      exact upd_same
    · rw [List.getElem?_set_ne (fun z => c z.symm)] at hk
      rw [upd_ne (nd_ne h.nd hk e c)]
      exact h.r.at_ z (List.mem_of_getElem? hk)
  · have : z.1 ∈ (zs.set i (a, r')).map (·.1) := List.mem_map.mpr ⟨z, hz, rfl⟩
    rw [em] at this
    obtain ⟨y, hy, e⟩ := List.mem_map.mp this
    rw [← e]
    exact h.nw y hy
theorem tb_put {zs : List (Addr × List (Option Nat))} {i : Nat} {a : Addr} {r' : List (Option Nat)} : Z.tb (zs.set i (a, r')) = (Z.tb zs).set i r' := by
  unfold Z.tb
  rw [List.map_set]
def spTab (C : Addr) (K : PySem.W.Frag) : Sp := fun vs H Q _ => ∃ (md a b t : Nat) (l : List Nat), vs = [.str (nmD md), .str (S l), .str (S [a]), .str (S [b]), .int (t : Int)] ∧ md < 4 ∧ l.Nodup ∧ l ≠ [] ∧ l.length ≤ 1000 ∧ t ≤ 1000 ∧ a ∈ l ∧ ∀ n H', Same H H' → McL C K H' n l (szD md t) (AccS (dtT md l a b t) fun s => s ∈ dtG md t) → Q (.ref n) H'
theorem ok_table (F : FnP K "_law_table" s_table f fd) (m_range : mg "range" = none) (c_entry : Cal P w K mg base 1 "_law_entry" spEnt) (k_Machine : Mak P w K mg base 4 "Machine" (spL3 C K)) (kd_Machine : MakD P w K mg base 4 "Machine" [.non] (spL2 C K)) : FnOk P w K mg base CX0 6 f fd P_table (spTab C K) := by
  refine F.ok sc_table (fun vs H Q E h => ?_) (fun cdv A outer s H vs Q E hr h => ?_)
  · obtain ⟨md, a, b, t, l, rfl, _⟩ := h
    rfl
  · obtain ⟨md, a, b, t, l, rfl, m4, nd, ne, ll, lt, ha, q⟩ := h
    refine ⟨_, PSs.nox (pss_cons (ps_set (i := 5) sc_table.nd rfl (by first | exact .inl rfl | exact .inr rfl) pe_int)
      (pss_cut (ps_if (PW.pt (pw_or (pt_cmpR op_eq (pv 0) pe_str (nomark _)) (pw_or1 (pt_cmpR op_eq (pv 0) pe_str (nomark _))))) (pss_one (ps_set (i := 5) sc_table.nd rfl (by first | exact .inl rfl | exact .inr rfl) pe_int)) pss_nil)
      (pss_cut (ps_if (pt_cmpR op_eq (pv 0) pe_str (nomark _)) (pss_one (ps_set (i := 5) sc_table.nd rfl (by first | exact .inl rfl | exact .inr rfl) (pe_op op_add (pv 4) pe_int))) pss_nil)
      (pss_cons (ps_setLc (i := 8) (own := [("_law_state", 7)]) (g := (gName 7)) (tt := tYes) (by rfl) sc_table.nd rfl rfl (sw_true rfl rfl rfl (by decide +kernel)) (pi_range1 (by rfl) m_range (pa_cons (pv 5) pa_nil)) (blkOk_by (own := [("_law_state", 7)]) (N := N_table) (sc := defScope s_table) (by decide +kernel)) (fun _ _ _ _ _ => (pg_name (i := 7) sc_table.nd rfl (by first | exact .inl rfl | exact .inr rfl))) (fun _ _ _ _ _ => pts_nil) (fun _ _ _ _ _ => (pe_lc (own := [("_law_letter", 6)]) (g := (gName 6)) (tt := tYes) (by rfl) sc_table.nd (pi_str (pv 1)) (blkOk_by (own := [("_law_letter", 6)]) (N := N_table) (sc := relS _ (defScope s_table)) (by decide +kernel)) (fun _ _ _ _ _ => (pg_name (i := 6) sc_table.nd rfl (by first | exact .inl rfl | exact .inr rfl))) (fun _ _ _ _ _ => pts_nil) (fun _ _ _ _ _ => (pe_cl c_entry hr (by decide) (by rfl) (pa_cons (pv 0) (pa_cons (pv 7) (pa_cons (pv 6) (pa_cons (pv 2) (pa_cons (pv 3) (pa_cons (pv 4) pa_nil)))))))))))
      (pss_cons (ps_set (i := 9) sc_table.nd rfl (by first | exact .inl rfl | exact .inr rfl) (pe_bm PySem.F.plainAttrs_str PySem.F.slot_str_index PySem.F.type_str_index mt_sindex (pv 1) (pa_cons (pv 2) pa_nil)))
      (pss_cut (ps_if (PW.pt (pw_or (pt_cmpR op_eq (pv 0) pe_str (nomark _)) (pw_or1 (pt_cmpR op_eq (pv 0) pe_str (nomark _))))) (pss_one (ps_asg pe_non (pg_sub (pe_ix ix_list (pv 8) pe_int (fun _ _ => rfl)) (pv 9) set_list))) pss_nil)
      (pss_cut (ps_if (pt_cmpR op_eq (pv 0) pe_str (nomark _)) (pss_one (ps_asg pe_non (pg_sub (pe_ix ix_list (pv 8) (pv 4) (fun _ _ => rfl)) (pv 9) set_list))) pss_nil)
      (pss_cons (ps_if (pt_cmpR op_eq (pv 0) pe_str (nomark _)) (pss_one (ps_ret (pe_mk k_Machine hr (by decide) (by rfl) (pa_cons (pv 1) (pa_cons (pv 8) (pa_cons (pe_lst (pa_cons pe_int pa_nil)) pa_nil)))))) pss_nil)
      (pss_one (ps_ret (pe_mkD kd_Machine hr (by decide) (by rfl) (pa_cons (pv 1) (pa_cons (pv 8) pa_nil))))))))))))), ?_⟩
    have h0 : decide (V.str (nmD md) = V.str (Str.ofString "never")) = decide (md = 0) := nmd (j := 0) m4 (by decide)
    have h1 : decide (V.str (nmD md) = V.str (Str.ofString "only_after")) = decide (md = 1) := nmd (j := 1) m4 (by decide)
    have h2 : decide (V.str (nmD md) = V.str (Str.ofString "answered")) = decide (md = 2) := nmd (j := 2) m4 (by decide)
    have h3 : decide (V.str (nmD md) = V.str (Str.ofString "at_most")) = decide (md = 3) := nmd (j := 3) m4 (by decide)
    obtain ⟨nm, enm⟩ : ∃ nm, nm = nmD md := ⟨_, rfl⟩
    rw [← enm] at h0 h1 h2 h3 ⊢
    walk_at "go"
    refine ⟨fun σ' J => J = H ∧ σ' = [some (.str nm), some (.str (S l)), some (.str (S [a])), some (.str (S [b])), some (.int (t : Int)), some (.int (if md = 1 ∨ md = 2 then 2 else 1)), none, none, none, none], ?_, ?_⟩
    · walk_at "go"
      rw [h1]
      by_cases c1 : md = 1
      · rw [decide_eq_true c1, if_pos (.inl c1)]
        walk_at "go"
        rfl
      · rw [decide_eq_false c1]
        walk_at "go"
        rw [h2]
        by_cases c2 : md = 2
        · rw [decide_eq_true c2, if_pos (.inr c2)]
          walk_at "go"
          rfl
        · rw [decide_eq_false c2, if_neg (fun h => h.elim c1 c2)]
          walk_at "go"
          rfl
    rintro σ' J ⟨rfl, rfl⟩
    walk_at "go"
    refine ⟨fun σ' J' => J' = J ∧ σ' = [some (.str nm), some (.str (S l)), some (.str (S [a])), some (.str (S [b])), some (.int (t : Int)), some (.int (szD md t : Int)), none, none, none, none], ?_, ?_⟩
    · walk_at "go"
      rw [h3]
      by_cases c3 : md = 3
      · subst c3
        rw [decide_eq_true rfl]
        walk_at "go"
        rfl
      · rw [decide_eq_false c3]
        walk_at "go"
        have : (if md = 1 ∨ md = 2 then 2 else 1 : Int) = (szD md t : Int) := by
          obtain rfl | rfl | rfl : md = 0 ∨ md = 1 ∨ md = 2 := by omega
          all_goals rfl
        rw [this]
    rintro σ' J' ⟨rfl, rfl⟩
    have sz0 : szD md t ≤ 1001 := by
      obtain rfl | rfl | rfl | rfl : md = 0 ∨ md = 1 ∨ md = 2 ∨ md = 3 := by omega
      · exact (show 1 ≤ 1001 by decide)
      · exact (show 2 ≤ 1001 by decide)
      · exact (show 2 ≤ 1001 by decide)
      · exact (show t + 1 ≤ 1001 by omega)
    walk_at "go"
    intro D nD
    refine lc_gen (n := szD md t) (fun k J1 => Same J' J1 ∧ ∃ zs : List (Addr × List (Option Nat)), J1 D = some (.lst (zs.map fun z => V.ref z.1)) ∧ zs.length = k ∧ Z.tb zs = (List.range k).map (fun s => l.map (entR md a b s)) ∧ (∀ z ∈ zs, J1 z.1 = some (.lst (z.2.map eV)) ∧ z.1 ≠ D ∧ J' z.1 = none) ∧ (zs.map (·.1)).Nodup) ⟨same_new nD, [], upd_same, rfl, rfl, fun z h => absurd h (by simp), List.nodup_nil⟩ ?_ ?_ ?_ ?_
    · intro k J1 hk _
      show k < ((szD md t : Int)).toNat
      omega
    · intro J1 _
      show ((szD md t : Int)).toNat ≤ szD md t
      omega
    · rintro k J1 x J2 hk ⟨s1, zs, eD, lz, et, fr, nz⟩ ⟨rfl, rfl⟩
      have e0 : (0 : Int) + (k : Int) = (k : Int) := by omega
      rw [e0]
      walk_at "go"
      intro D2 nD2
      refine lc_ent (entR md a b k) ll nD2 (fun c => rfl) (fun c J3 Q1 hc sJ q9 => ?_) (fun J3 sJ eD2 => ?_)
      · walk_at "go"
        refine ⟨md, k, c, a, b, t, by rw [← enm]; rfl, m4, ?_⟩
        exact q9
      · have DD : D ≠ D2 := ne_of_none eD nD2
        have nJ : J' D2 = none := none_of s1 nD2
        walk_at "go"
        refine ⟨_, sJ _ _ eD, by rw [List.length_map, lz]; exact szC (by omega), Z.Same.mut (s1.trans sJ) nD, zs ++ [(D2, l.map (entR md a b k))], by rw [upd_same, List.map_append]; rfl, by rw [List.length_append, lz]; rfl, ?_, fun z hz => ?_, ?_⟩
        · unfold Z.tb at et ⊢
          rw [List.map_append, et, List.range_succ, List.map_append]
          rfl
        · rcases List.mem_append.mp hz with h | h
          · obtain ⟨f1, f2, f3⟩ := fr z h
            exact ⟨by rw [upd_ne f2]; exact sJ _ _ f1, f2, f3⟩
          · rw [List.mem_singleton.mp h]
            exact ⟨by rw [upd_ne DD.symm]; exact eD2, DD.symm, nJ⟩
        · rw [List.map_append]
          refine List.nodup_append.mpr ⟨nz, List.nodup_cons.mpr ⟨List.not_mem_nil, List.nodup_nil⟩, fun x hx y hy => ?_⟩
          rw [List.mem_singleton.mp hy]
          obtain ⟨z, hz, rfl⟩ := List.mem_map.mp hx
          exact ne_of_none (fr z hz).1 nD2
    rintro J1 ⟨s1, zs, eD, lz, et, fr, nz⟩
    have hN : TbN J' J1 D zs := ⟨⟨eD, fun z hz => (fr z hz).1⟩, nz, fun z hz => (fr z hz).2.2⟩
    have et : Z.tb zs = tabR md l a b t := et
    clear fr nz eD
    obtain ⟨i, hi⟩ : ∃ i, ixOf l a = some i := by
      cases e1 : ixOf l a with
      | none => exact absurd ha (ixOf_none.mp e1)
      | some i => exact ⟨i, rfl⟩
    have li := ixOf_some hi
    have il := (List.getElem?_eq_some_iff.mp li).1
    obtain ⟨rest, ho2⟩ := occ_one nd li
    have st : ∀ (zs : List (Addr × List (Option Nat))) (J1 : Hp) (j : Nat), TbN J' J1 D zs → Z.tb zs = tabR md l a b t → j < szD md t → ∃ z : Addr, J1 z = some (.lst ((l.map (entR md a b j)).map eV)) ∧ zs[j]? = some (z, l.map (entR md a b j)) := fun zs J1 j hN et hj => by
      have e1 : (Z.tb zs)[j]? = some (l.map (entR md a b j)) := by
        rw [et]
        unfold tabR
        rw [List.getElem?_map, List.getElem?_range hj]
        rfl
      unfold Z.tb at e1
      rw [List.getElem?_map] at e1
      cases e2 : zs[j]? with
      | none => rw [e2] at e1; cases e1
      | some z =>
        rw [e2] at e1
        have e1 : some z.2 = some (l.map (entR md a b j)) := e1
        injection e1 with e1
        have := hN.r.at_ z (List.mem_of_getElem? e2)
        rw [e1] at this
        exact ⟨z.1, this, by rw [← e1]⟩
    have fin : ∀ (zs : List (Addr × List (Option Nat))) (J1 : Hp) (j : Nat) (z : Addr), Same J' J1 → TbN J' J1 D zs → zs.length = szD md t → Z.tb zs = tabR md l a b t → md ≠ 2 → j = (if md = 3 then t else 0) → zs[j]? = some (z, l.map (entR md a b j)) → Same J' (upd J1 z (.lst (((l.map (entR md a b j)).map eV).set i .non))) ∧ ∃ zs' : List (Addr × List (Option Nat)), TbN J' (upd J1 z (.lst (((l.map (entR md a b j)).map eV).set i .non))) D zs' ∧ zs'.length = szD md t ∧ Z.tb zs' = dtT md l a b t := fun zs J1 j z s1 hN lz et n2 hj gz => by
      have e1 : ((l.map (entR md a b j)).map eV).set i .non = ((l.map (entR md a b j)).set i none).map eV := by rw [List.map_set]; rfl
      rw [e1]
      exact ⟨Z.Same.mut s1 (hN.nw _ (List.mem_of_getElem? gz)), zs.set j (z, (l.map (entR md a b j)).set i none), hN.put gz, by rw [List.length_set, lz], by rw [tb_put, et]; exact tab_set m4 n2 hj nd li⟩
    walk_at "go"
    refine ⟨_, _, i, rest, rfl, rfl, ho2, ?_⟩
    refine ⟨fun σ' J => Same J' J ∧ ∃ zs' : List (Addr × List (Option Nat)), TbN J' J D zs' ∧ zs'.length = szD md t ∧ Z.tb zs' = (if md = 0 ∨ md = 1 then dtT md l a b t else tabR md l a b t) ∧ σ' = [some (.str nm), some (.str (S l)), some (.str (S [a])), some (.str (S [b])), some (.int (t : Int)), some (.int (szD md t : Int)), none, none, some (.ref D), some (.int (i : Int))], ?_, ?_⟩
    · walk_at "go"
      have both : (md = 0 ∨ md = 1) → ∃ z : Addr, J1 z = some (.lst ((l.map (entR md a b 0)).map eV)) ∧ zs[0]? = some (z, l.map (entR md a b 0)) := fun _ => st zs J1 0 hN et (szD_pos md t)
      have k0 : (md = 0 ∨ md = 1) → 0 = (if md = 3 then t else 0) := fun h => by rw [if_neg (by omega)]
      rw [h0]
      by_cases c0 : md = 0
      · obtain ⟨z, ez, gz⟩ := both (.inl c0)
        rw [decide_eq_true c0]
        walk_at "go"
        refine ⟨D, _, 0, .ref z, rfl, rfl, SqL.of hN.r.sq, atI_nat (j := 0) (by rw [List.getElem?_map, gz]; rfl), ?_⟩
        walk_at "go"
        refine ⟨z, _, (i : Int), i, rfl, rfl, ez, ixN_nat (by rw [List.length_map, List.length_map]; exact il), ?_⟩
        obtain ⟨f1, zs', f2, f3, f4⟩ := fin zs J1 0 z s1 hN lz et (by omega) (k0 (.inl c0)) gz
        exact ⟨f1, zs', f2, f3, by rw [if_pos (.inl c0)]; exact f4, rfl⟩
      rw [decide_eq_false c0]
      walk_at "go"
      rw [h1]
      by_cases c1 : md = 1
      · obtain ⟨z, ez, gz⟩ := both (.inr c1)
        rw [decide_eq_true c1]
        walk_at "go"
        refine ⟨D, _, 0, .ref z, rfl, rfl, SqL.of hN.r.sq, atI_nat (j := 0) (by rw [List.getElem?_map, gz]; rfl), ?_⟩
        walk_at "go"
        refine ⟨z, _, (i : Int), i, rfl, rfl, ez, ixN_nat (by rw [List.length_map, List.length_map]; exact il), ?_⟩
        obtain ⟨f1, zs', f2, f3, f4⟩ := fin zs J1 0 z s1 hN lz et (by omega) (k0 (.inr c1)) gz
        exact ⟨f1, zs', f2, f3, by rw [if_pos (.inr c1)]; exact f4, rfl⟩
      rw [decide_eq_false c1]
      walk_at "go"
      exact ⟨zs, hN, lz, by rw [if_neg (fun h => h.elim c0 c1)]; exact et, rfl⟩
    rintro σ' J2 ⟨s2, zs', hN', lz', et', rfl⟩
    clear hN et lz s1 ho2
    refine ⟨fun σ' J => Same J' J ∧ ∃ zs' : List (Addr × List (Option Nat)), TbN J' J D zs' ∧ zs'.length = szD md t ∧ Z.tb zs' = dtT md l a b t ∧ σ' = [some (.str nm), some (.str (S l)), some (.str (S [a])), some (.str (S [b])), some (.int (t : Int)), some (.int (szD md t : Int)), none, none, some (.ref D), some (.int (i : Int))], ?_, ?_⟩
    · walk_at "go"
      rw [h3]
      by_cases c3 : md = 3
      · rw [if_neg (by omega)] at et'
        obtain ⟨z, ez, gz⟩ := st zs' J2 t hN' et' (by subst c3; exact Nat.lt_succ_self t)
        rw [decide_eq_true c3]
        walk_at "go"
        refine ⟨D, _, (t : Int), .ref z, rfl, rfl, SqL.of hN'.r.sq, atI_nat (by rw [List.getElem?_map, gz]; rfl), ?_⟩
        walk_at "go"
        refine ⟨z, _, (i : Int), i, rfl, rfl, ez, ixN_nat (by rw [List.length_map, List.length_map]; exact il), ?_⟩
        obtain ⟨f1, zs3, f2, f3, f4⟩ := fin zs' J2 t z s2 hN' lz' et' (by omega) (by rw [if_pos c3]) gz
        exact ⟨f1, zs3, f2, f3, f4, rfl⟩
      · rw [decide_eq_false c3]
        walk_at "go"
        refine ⟨zs', hN', lz', ?_, rfl⟩
        by_cases c2 : md = 2
        · rw [et', if_neg (by omega), c2]
          exact tab2 l a b t
        · rw [et', if_pos (by omega)]
    rintro σ' J3 ⟨s3, zs3, hN3, lz3, et3, rfl⟩
    clear hN' et' lz' s2 st fin zs' J2
    walk_at "go"
    rw [h2]
    by_cases c2 : md = 2
    · rw [decide_eq_true c2]
      walk_at "go"
      intro g ng
      have s6 := same_new (o := .lst [.int 0]) ng
      have eg : (upd J3 g (.lst [.int 0])) g = some (.lst (gsq [0])) := upd_same
      have hT := (hN3.r.mono s6).tb (K := K)
      generalize upd J3 g (.lst [.int 0]) = J6 at s6 eg hT
      refine ⟨true, true, D, l, .ref g, zs3, [0], rfl, nd, ne, ll, hT, by rw [et3]; exact dtT_wf md l a b t, by omega, ⟨.inr ⟨true, g, rfl, SqL.of eg⟩, fun s hs => by rw [List.mem_singleton.mp hs, lz3]; exact szD_pos md t⟩, fun n H' s7 nn hm => ?_⟩
      rw [et3, lz3] at hm
      subst c2
      exact q n H' (s3.trans (s6.trans s7)) hm
    · rw [decide_eq_false c2]
      walk_at "go"
      refine ⟨true, true, D, l, zs3, rfl, nd, ne, ll, hN3.r.tb, by rw [et3]; exact dtT_wf md l a b t, by omega, fun n H' s7 nn hm => ?_⟩
      rw [et3, lz3] at hm
      have eG : dtG md t = List.range (szD md t) := by unfold dtG; rw [if_neg c2]
      rw [eG] at q
      exact q n H' (s3.trans s7) hm
end
end Z
set_option pp.maxSteps 700
set_option Elab.async false
set_option linter.all false
set_option maxRecDepth 100000
set_option maxHeartbeats 4000000
open SX (S S_inj S_len S_cat)
namespace Z
open Mc
open PySem PySem.Spec PyProof.Rows L2
open C8 (pss_cut tCut)
local macro_rules | `(tactic| walk_at "num") => `(tactic| first | rfl | omega | decide | exact Nat.le_of_lt (small1000 (by simp)) | exact ⟨by omega, by omega⟩ | exact ⟨by omega, by omega, by omega⟩ | exact ⟨by decide, by decide, by decide⟩ | exact Or.inl ⟨by omega, by omega⟩ | exact Or.inr ⟨by omega, by omega⟩)
local macro_rules | `(tactic| walk_at "go") => `(tactic| repeat (first | refine ⟨_, rfl, ?_⟩ | refine ⟨_, _, rfl, rfl, ?_⟩ | refine ⟨_, _, rfl, ?_⟩ | (refine ⟨_, _, rfl, rfl, ?_, ?_⟩; focus walk_at "num") | refine Or.inl ⟨_, rfl, ?_⟩ | refine ⟨_, _, _, _, rfl, rfl, (by assumption), (by rfl), ?_⟩ | refine ⟨_, _, _, _, _, rfl, (by assumption), (by assumption), (by assumption), (by rfl), ?_⟩ | refine ⟨rfl, ?_⟩ | (refine And.intro ?_ ?_; focus walk_at "num")))
abbrev s_right : Stmt := topS 50
abbrev N_right : List Str := ["_law_name", "_law_letters_here", "_law_first", "_law_second", "_law_times", "_law_found", "_law_machine", "_law_text"]
abbrev P_right : List Str := ["_law_name", "_law_letters_here", "_law_first", "_law_second", "_law_times", "_law_found"]
theorem sc_right : FnScope N_right P_right (defScope s_right) := ⟨rfl, rfl, rfl, by decide +kernel, rfl, by decide +kernel, by decide +kernel⟩
abbrev s_wrong_rows : Stmt := topS 52
abbrev N_wrong_rows : List Str := ["_law_letters_here", "_law_odds", "_law_number", "_law_short", "_law_place", "_law_head", "_law_tail", "_law_twice", "_law_around", "_law_found"]
abbrev P_wrong_rows : List Str := ["_law_letters_here", "_law_odds", "_law_number"]
theorem sc_wrong_rows : FnScope N_wrong_rows P_wrong_rows (defScope s_wrong_rows) := ⟨rfl, rfl, rfl, by decide +kernel, rfl, by decide +kernel, by decide +kernel⟩
section
variable {P : Program} {w : World} {K : PySem.W.Frag} {mg : Str → Option Value} {base : Heap} {f C CL CM CC : Addr} {fd : FuncData}
theorem fixb {md a b b' t : Nat} {l : List Nat} {H : Hp} {n : Addr} (m4 : md < 4) (eb : md = 1 ∨ md = 2 → [b] = [b']) (hm : McL C K H n l (szD md ((t : Int)).toNat) (AccS (dtT md l a b' ((t : Int)).toNat) fun s => s ∈ dtG md ((t : Int)).toNat)) : McL C K H n l (szD md t) (AccS (dtT md l a b t) fun s => s ∈ dtG md t) := by
  rw [Int.toNat_natCast] at hm
  obtain rfl | rfl | rfl | rfl : md = 0 ∨ md = 1 ∨ md = 2 ∨ md = 3 := by omega
  · exact hm
  · have := eb (.inl rfl)
    injection this with this
    rw [this]
    exact hm
  · have := eb (.inr rfl)
    injection this with this
    rw [this]
    exact hm
  · exact hm
theorem badL_ok {l : List Nat} (nd : l.Nodup) (ne : l ≠ []) : badL l = none := by
  unfold badL okL
  rw [decide_eq_true nd, decide_eq_true ne]
  rfl
theorem badM_ok {l : List Nat} (h : ∀ c ∈ l, c ∈ MKL) : badM l = none := by
  unfold badM
  rw [List.find?_eq_none.mpr fun x hx => by rw [decide_eq_true (h x hx)]; decide]
  rfl
theorem okN_ok {l : List Nat} {c : Nat} (h : c ∈ l) : okN l [c] = true := by
  unfold okN
  rw [List.all_cons, decide_eq_true h]
  rfl
theorem ckO_ok {l : List Nat} {ms : List (List Nat)} (nd : l.Nodup) (ne : l ≠ []) (h : ∀ c ∈ l, c ∈ MKL) : ckO l ms = badN l ms := by
  unfold ckO
  rw [badL_ok nd ne, badM_ok h]
theorem erO_ok {md : Nat} {l : List Nat} {a b : Nat} {t : Int} (nd : l.Nodup) (ne : l ≠ []) (h : ∀ c ∈ l, c ∈ MKL) (ha : a ∈ l) (hb : b ∈ l) (t0 : 0 ≤ t) (t9 : t ≤ 9) : erO md l [a] [b] t = none := by
  unfold erO
  rw [ckO_ok nd ne h]
  have : badN l (if md = 1 ∨ md = 2 then [[a], [b]] else [[a]]) = none := by
    unfold badN
    rw [List.find?_eq_none.mpr fun x hx => ?_]
    · rfl
    · have : okN l x = true := by
        split at hx
        · rcases List.mem_cons.mp hx with h | h
          · rw [h]; exact okN_ok ha
          · rw [List.mem_singleton.mp h]; exact okN_ok hb
        · rw [List.mem_singleton.mp hx]; exact okN_ok ha
      rw [this]
      decide
  rw [this]
  exact if_neg (fun h => h.2 ⟨t0, t9⟩)
def spRight (K : PySem.W.Frag) : Sp := fun vs H Q _ => ∃ (md a b t : Nat) (l : List Nat) (fo : Addr) (ts : List (List Nat)), vs = [.str (nmD md), .str (S l), .str (S [a]), .str (S [b]), .int (t : Int), .ref fo] ∧ md < 4 ∧ l.Nodup ∧ l ≠ [] ∧ l.length ≤ 10 ∧ (∀ c ∈ l, c ∈ MKL) ∧ a ∈ l ∧ b ∈ l ∧ t ≤ 9 ∧ SqL K H fo (txs ts) ∧ (∀ tx ∈ ts, tx.length ≤ 1000 ∧ ∀ c ∈ tx, c ∈ l) ∧ ∀ H', Same H H' → Q (.bl true) H'
theorem ok_right (F : FnP K "_law_right" s_right f fd) (m_isinstance : mg "isinstance" = none) (g_Machine : mg "Machine" = some (.ref C)) (isC : C8.InsC K C) (cls : Cls K C) (n_letters : NoAttr K C "letters") (c_made : CalX P w K mg base 7 "_law_made" (spMade C CL CM CC K)) (in_Machine : InO P w K mg base 2 C (spInL C K)) (e_Machine : Eqo P w K mg base 1 C (spEqL C K)) (c_due : Cal P w K mg base 1 "_law_due" spDue) (c_table : Cal P w K mg base 6 "_law_table" (spTab C K)) : FnOk P w K mg base CX0 8 f fd P_right (spRight K) := by
  refine F.ok sc_right (fun vs H Q E h => ?_) (fun cdv A outer s H vs Q E hr h => ?_)
  · obtain ⟨md, a, b, t, l, fo, ts, rfl, _⟩ := h
    rfl
  · obtain ⟨md, a, b, t, l, fo, ts, rfl, m4, nd, ne, ll, hM, ha, hb, t9, hS, hts, q⟩ := h
    refine ⟨_, PSs.nox (pss_cons (ps_set (i := 6) sc_right.nd rfl (by first | exact .inl rfl | exact .inr rfl) (pe_clE c_made (fun _ => passS0) hr (by decide) (by rfl) (pa_cons (pv 0) (pa_cons (pv 1) (pa_cons (pv 2) (pa_cons (pv 3) (pa_cons (pv 4) pa_nil)))))))
      (pss_cons (ps_if (PW.pt (pw_or (pt_not (pt_val (pe_callB (C8.call_isC isC) (by rfl) m_isinstance (by decide +kernel) (pa_cons (pv 6) (pa_cons (pe_glob (by rfl) g_Machine relv_ref) pa_nil))))) (pw_or1 (pt_cmpR op_ne (pe_fld (pv 6) rfl) (pv 1) (nomark _))))) (pss_one (ps_ret pe_bl)) pss_nil)
      (pss_cons (ps_for PassesOwn.never rfl (pi_list (pv 5)) (pg_name (i := 7) sc_right.nd rfl (by first | exact .inl rfl | exact .inr rfl))
        (pss_one (ps_if (pt_cmpR op_ne (pe_cmpR (op_ownIn in_Machine hr (by decide)) (pv 7) (pv 6) (by rfl)) (pe_cl c_due hr (by decide) (by rfl) (pa_cons (pv 0) (pa_cons (pv 7) (pa_cons (pv 2) (pa_cons (pv 3) (pa_cons (pv 4) pa_nil)))))) (nomark _)) (pss_one (ps_ret pe_bl)) pss_nil)))
      (pss_cons (ps_if (pt_not (pt_cmpR (op_own e_Machine hr (by decide)) (pv 6) (pe_cl c_table hr (by decide) (by rfl) (pa_cons (pv 0) (pa_cons (pv 1) (pa_cons (pv 2) (pa_cons (pv 3) (pa_cons (pv 4) pa_nil)))))) (nomark _))) (pss_one (ps_ret pe_bl)) pss_nil)
      (pss_one (ps_ret (pe_cmpR (op_own e_Machine hr (by decide)) (pv 6) (pe_clE c_made (fun _ => passS0) hr (by decide) (by rfl) (pa_cons (pv 0) (pa_cons (pv 1) (pa_cons (pv 2) (pa_cons (pv 3) (pa_cons (pv 4) pa_nil)))))) (nomark _)))))))), ?_⟩
    have er : erO md l [a] [b] (t : Int) = none := erO_ok nd ne hM ha hb (by omega) (by omega)
    obtain ⟨nm, enm⟩ : ∃ nm, nm = nmD md := ⟨_, rfl⟩
    rw [← enm]
    walk_at "go"
    refine ⟨md, l, [a], [b], t, by rw [← enm], m4, by omega, (show 1 ≤ 1000 by decide), (show 1 ≤ 1000 by decide), fun _ n a' b' H1 s1 ea eb hm => ?_, fun e he => by rw [er] at he; cases he⟩
    injection ea with ea
    subst ea
    have ins : ∀ {J : Hp} {m sz : Addr} {L : Lg}, McL C K J m l sz L → ∃ dx r u, J m = some (.ins C dx (mF l r u)) := fun h => by
      obtain ⟨R, g, h1, _⟩ := h.at_
      obtain ⟨dx, r, u, zr, h2, _⟩ := h1.ex
      exact ⟨dx, r, u, h2⟩
    obtain ⟨dx, r, u, hn⟩ := ins hm
    walk_at "go"
    refine ⟨n, dx, _, rfl, hn, ?_⟩
    walk_at "go"
    refine ite2 (fun e => ?_) (fun _ => ?_)
    · rw [decide_eq_true rfl] at e
      cases e
    have hm := fixb m4 eb hm
    walk_at "go"
    refine ⟨⟨_, s1.seq hS⟩, ?_⟩
    refine for_gen (n := ts.length) (fun k σ J => Same H1 J ∧ ∃ v7 : Option V, σ = [some (.str nm), some (.str (S l)), some (.str (S [a])), some (.str (S [b])), some (.int (t : Int)), some (.ref fo), some (.ref n), v7]) ⟨Same.refl _, none, rfl⟩ ?_ ?_ ?_ ?_
    · rintro k σ J hk ⟨s2, _⟩
      exact ⟨_, _, s2.seq (s1.seq hS), by unfold txs; rw [List.getElem?_map, List.getElem?_eq_getElem hk]; rfl⟩
    · rintro σ J ⟨s2, _⟩
      exact ⟨_, s2.seq (s1.seq hS), by unfold txs; rw [List.length_map]; exact Nat.le_refl _⟩
    · rintro k σ J x J' hk ⟨s2, v7, rfl⟩ ⟨rfl, y⟩
      have y := y _ (s2.seq (s1.seq hS))
      unfold txs at y
      rw [List.getElem?_map, List.getElem?_eq_getElem hk] at y
      cases y
      obtain ⟨lx, hx⟩ := hts _ (List.getElem_mem hk)
      generalize ts[k] = tx at lx hx
      walk_at "go"
      refine ⟨n, dx, _, rfl, s2 _ _ hn, n, l, tx, _, _, rfl, hm.mono s2, nd, fun b1 hb1 => ⟨b1, rfl, ?_⟩⟩
      walk_at "go"
      refine ⟨md, tx, a, b, t, by rw [← enm]; rfl, m4, lx, fun r2 J2 s3 hr2 => ?_⟩
      have eb : b1 = r2 := beq_iff hb1 hr2 (due_acc m4 hx)
      subst eb
      walk_at "go"
      rw [decide_eq_true rfl]
      refine ite2 (fun e => by cases e) (fun _ => ?_)
      exact ⟨s2.trans s3, _, rfl⟩
    rintro σ J ⟨s2, v7, rfl⟩
    walk_at "go"
    refine ⟨md, a, b, t, l, by rw [← enm]; rfl, m4, nd, ne, by omega, by omega, ha, fun n2 J2 s3 hm2 => ?_⟩
    obtain ⟨dx2, r2, u2, hn2⟩ := ins hm2
    refine ⟨n, n2, _, _, _, _, rfl, rfl, s3 _ _ (s2 _ _ hn), hn2, n, n2, l, l, _, _, _, _, rfl, (hm.mono s2).mono s3, hm2, fun b1 hb1 => ⟨b1, rfl, ?_⟩⟩
    obtain rfl : b1 = true := hb1.mpr ⟨rfl, fun _ => Iff.rfl⟩
    walk_at "go"
    refine ⟨md, l, [a], [b], t, by rw [← enm], m4, by omega, (show 1 ≤ 1000 by decide), (show 1 ≤ 1000 by decide), fun _ n3 a3 b3 H3 s4 ea eb hm3 => ?_, fun e he => by rw [er] at he; cases he⟩
    injection ea with ea
    subst ea
    have hm3 := fixb m4 eb hm3
    obtain ⟨dx3, r3, u3, hn3⟩ := ins hm3
    refine ⟨n, n3, _, _, _, _, rfl, rfl, s4 _ _ (s3 _ _ (s2 _ _ hn)), hn3, n, n3, l, l, _, _, _, _, rfl, ((hm.mono s2).mono s3).mono s4, hm3, fun b1 hb1 => ⟨b1, rfl, ?_⟩⟩
    obtain rfl : b1 = true := hb1.mpr ⟨rfl, fun _ => Iff.rfl⟩
    exact q _ ((s1.trans s2).trans (s3.trans s4))
/-- what is wrong about a row, whatever the marks are -/
def rowE (l : List Nat) : Option Er9 := match badL l with | some e => some e | none => badM l
theorem rowE_er {md : Nat} {l ta tb : List Nat} {t : Int} {e : Er9} (h : rowE l = some e) : erO md l ta tb t = some e := by
  have : ∀ ms, ckO l ms = some e := fun ms => by
    unfold rowE at h
    unfold ckO
    cases h1 : badL l with
    | some e1 => rw [h1] at h; exact h
    | none =>
      rw [h1] at h
      dsimp only at h ⊢
      rw [h]
  unfold erO
  rw [this]
theorem rowE_L {l : List Nat} (h : ¬ l.Nodup ∨ l = []) : rowE l = some (.L l) := by
  have : okL l = false := by
    unfold okL
    rcases h with h | h
    · rw [decide_eq_false h]
      rfl
    · subst h
      decide
  unfold rowE badL
  rw [this]
  rfl
theorem rowE_M {A B : List Nat} {x : Nat} (nd : (A ++ [x] ++ B).Nodup) (hA : ∀ c ∈ A, c ∈ MKL) (hx : x ∉ MKL) : rowE (A ++ [x] ++ B) = some (.M [x]) := by
  unfold rowE
  rw [badL_ok nd (by simp)]
  unfold badM
  have n1 : A.find? (fun c => !decide (c ∈ MKL)) = none := List.find?_eq_none.mpr fun z hz => by
    rw [decide_eq_true (hA z hz)]
    decide
  rw [List.append_assoc, List.find?_append, n1, Option.none_or]
  show Option.map _ (List.find? _ (x :: B)) = _
  rw [List.find?_cons, decide_eq_false hx]
  rfl
theorem perm_mid (A B : List Nat) (x : Nat) : (A ++ [x] ++ B).Perm (x :: (A ++ B)) := by
  rw [List.append_assoc]
  exact List.perm_middle
/-- the wrong rows with what is due -/
structure RwAt (H : Hp) (A : Addr) (zs : List (Addr × Addr × List Nat × Er9)) : Prop where
  sq : H A = some (.lst (zs.map fun z => V.ref z.1))
  at_ : ∀ z ∈ zs, H z.1 = some (.tup [.str (S z.2.2.1), .ref z.2.1]) ∧ H z.2.1 = some (.tup (rfV (some z.2.2.2))) ∧ rowE z.2.2.1 = some z.2.2.2 ∧ z.2.2.1.length ≤ 100 ∧ ∀ c ∈ z.2.2.1, c < 1000
theorem mk1000 : ∀ c ∈ MKL, c < 1000 := by decide +kernel
theorem RwAt.app {H : Hp} {A p q : Addr} {zs : List (Addr × Addr × List Nat × Er9)} {r : List Nat} {e : Er9} (h : RwAt H A zs) (hp : H p = some (.tup [.str (S r), .ref q])) (hq : H q = some (.tup (rfV (some e)))) (he : rowE r = some e) (lr : r.length ≤ 100) (hc : ∀ c ∈ r, c < 1000) : RwAt (upd H A (.lst ((zs.map fun z => V.ref z.1) ++ [.ref p]))) A (zs ++ [(p, q, r, e)]) := by
  have up : ∀ {c : Addr} {o : List V}, H c = some (.tup o) → (upd H A (.lst ((zs.map fun z => V.ref z.1) ++ [.ref p]))) c = some (.tup o) := fun {c o} hc => by
    rw [upd_ne (fun z => by rw [z, h.sq] at hc; cases hc)]
    exact hc
  refine ⟨by rw [upd_same, List.map_append]; rfl, fun z hz => ?_⟩
  rcases List.mem_append.mp hz with hz | hz
  · obtain ⟨a1, a2, a3, a4⟩ := h.at_ z hz
    exact ⟨up a1, up a2, a3, a4⟩
  · rw [List.mem_singleton.mp hz]
    exact ⟨up hp, up hq, he, lr, hc⟩
theorem RwAt.mono {H H' : Hp} {A : Addr} {zs : List (Addr × Addr × List Nat × Er9)} (s : Same H H') (h : RwAt H A zs) : RwAt H' A zs := ⟨s _ _ h.sq, fun z hz => by
  obtain ⟨a1, a2, a3, a4⟩ := h.at_ z hz
  exact ⟨s _ _ a1, s _ _ a2, a3, a4⟩⟩
def spWr (K : PySem.W.Frag) : Sp := fun vs H Q _ => ∃ (l : List Nat) (o : Addr) (x y : Nat) (r : Int), vs = [.str (S l), .ref o, .int r] ∧ l.Nodup ∧ l ≠ [] ∧ l.length ≤ 10 ∧ (∀ c ∈ l, c ∈ MKL) ∧ SqL K H o [.str (S [x]), .str (S [y])] ∧ x ≠ y ∧ x ∉ MKL ∧ y ∉ MKL ∧ x < 1000 ∧ y < 1000 ∧ ∀ (A : Addr) zs H', Same H H' → RwAt H' A zs → Q (.ref A) H'
theorem ok_wrong_rows (F : FnP K "_law_wrong_rows" s_wrong_rows f fd) (m_int : mg "int" = none) (m_len : mg "len" = none) : FnOk P w K mg base CX0 1 f fd P_wrong_rows (spWr K) := by
  refine F.ok sc_wrong_rows (fun vs H Q E h => ?_) (fun cdv A outer s H vs Q E hr h => ?_)
  · obtain ⟨l, o, x, y, r, rfl, _⟩ := h
    rfl
  · obtain ⟨l, o, x, y, r, rfl, nd, ne, ll, hM, hO, xy, hx, hy, x9, y9, q⟩ := h
    refine ⟨_, PSs.nox (pss_cons (ps_set (i := 3) sc_wrong_rows.nd rfl (by first | exact .inl rfl | exact .inr rfl) (pe_slice C8.sl_txt (pv 0) po_none (po_some pe_int)))
      (pss_cons (ps_set (i := 4) sc_wrong_rows.nd rfl (by first | exact .inl rfl | exact .inr rfl) (pe_op op_mod (pe_callTy call_int1 (by rfl) m_int (by decide +kernel) (pa_cons (pv 2) pa_nil)) (pe_op op_add (pe_callB call_len_str (by rfl) m_len PySem.boot_len (pa_cons (pv 3) pa_nil)) pe_int)))
      (pss_cons (ps_set (i := 5) sc_wrong_rows.nd rfl (by first | exact .inl rfl | exact .inr rfl) (pe_slice C8.sl_txt (pv 3) po_none (po_some (pv 4))))
      (pss_cons (ps_set (i := 6) sc_wrong_rows.nd rfl (by first | exact .inl rfl | exact .inr rfl) (pe_slice C8.sl_txt (pv 3) (po_some (pv 4)) po_none))
      (pss_cons (ps_set (i := 7) sc_wrong_rows.nd rfl (by first | exact .inl rfl | exact .inr rfl) (pe_op op_add_str (pe_op op_add_str (pv 5) (pe_ix ix_str (pv 3) (pe_op op_mod (pe_callTy call_int1 (by rfl) m_int (by decide +kernel) (pa_cons (pe_op op_fdiv (pv 2) pe_int) pa_nil)) (pe_callB call_len_str (by rfl) m_len PySem.boot_len (pa_cons (pv 3) pa_nil))) (fun _ _ => rfl))) (pv 6)))
      (pss_cons (ps_set (i := 8) sc_wrong_rows.nd rfl (by first | exact .inl rfl | exact .inr rfl) (pe_op op_add_str (pe_op op_add_str (pe_ix ix_list (pv 1) pe_int (fun _ _ => rfl)) (pv 3)) (pe_ix ix_list (pv 1) pe_int (fun _ _ => rfl))))
      (pss_cons (ps_set (i := 9) sc_wrong_rows.nd rfl (by first | exact .inl rfl | exact .inr rfl) (pe_lst (pa_cons (pe_tup (pa_cons pe_str (pa_cons (pe_tup (pa_cons pe_str (pa_cons pe_str pa_nil))) pa_nil))) (pa_cons (pe_tup (pa_cons (pv 7) (pa_cons (pe_tup (pa_cons pe_str (pa_cons (pv 7) pa_nil))) pa_nil))) (pa_cons (pe_tup (pa_cons (pv 8) (pa_cons (pe_tup (pa_cons pe_str (pa_cons (pv 8) pa_nil))) pa_nil))) pa_nil)))))
      (pss_cons (ps_expr (pe_bm PySem.F.plainAttrs_list PySem.F.slot_list_append PySem.F.type_list_append mt_append (pv 9) (pa_cons (pe_tup (pa_cons (pe_op op_add_str (pe_op op_add_str (pv 5) (pe_ix ix_list (pv 1) pe_int (fun _ _ => rfl))) (pv 6)) (pa_cons (pe_tup (pa_cons pe_str (pa_cons (pe_ix ix_list (pv 1) pe_int (fun _ _ => rfl)) pa_nil))) pa_nil))) pa_nil)))
      (pss_cons (ps_expr (pe_bm PySem.F.plainAttrs_list PySem.F.slot_list_append PySem.F.type_list_append mt_append (pv 9) (pa_cons (pe_tup (pa_cons (pe_op op_add_str (pe_op op_add_str (pe_op op_add_str (pv 5) (pe_ix ix_list (pv 1) pe_int (fun _ _ => rfl))) (pv 6)) (pe_ix ix_list (pv 1) pe_int (fun _ _ => rfl))) (pa_cons (pe_tup (pa_cons pe_str (pa_cons (pe_ix ix_list (pv 1) pe_int (fun _ _ => rfl)) pa_nil))) pa_nil))) pa_nil)))
      (pss_cons (ps_expr (pe_bm PySem.F.plainAttrs_list PySem.F.slot_list_append PySem.F.type_list_append mt_append (pv 9) (pa_cons (pe_tup (pa_cons (pe_op op_add_str (pe_op op_add_str (pe_op op_add_str (pe_ix ix_list (pv 1) pe_int (fun _ _ => rfl)) (pv 5)) (pe_ix ix_list (pv 1) pe_int (fun _ _ => rfl))) (pv 6)) (pa_cons (pe_tup (pa_cons pe_str (pa_cons (pe_ix ix_list (pv 1) pe_int (fun _ _ => rfl)) pa_nil))) pa_nil))) pa_nil)))
      (pss_one (ps_ret (pv 9))))))))))))), ?_⟩
    walk_at "go"
    refine ⟨by rw [S_len]; exact szl (by omega), ?_⟩
    rw [SX.slice_to (by decide), show (4 : Int).toNat = 4 from rfl]
    obtain ⟨sh, esh⟩ : ∃ sh, sh = l.take 4 := ⟨_, rfl⟩
    have lsh : sh.length ≤ 4 := by rw [esh, List.length_take]; omega
    have l0 : 0 < sh.length := by rw [esh, List.length_take]; have := List.length_pos_iff.mpr ne; omega
    have ndh : sh.Nodup := by rw [esh]; exact nd.sublist (List.take_sublist _ _)
    have hMh : ∀ c ∈ sh, c ∈ MKL := fun c hc => hM c (by rw [esh] at hc; exact List.mem_of_mem_take hc)
    rw [← esh]
    clear esh
    have lS : (S sh).length = sh.length := S_len _
    have lS1 : (S sh).length ≤ 1000 := by omega
    have lS2 : (S sh).length ≤ sizeLine := szl (by omega)
    walk_at "go"
    rw [lS]
    obtain ⟨c, ec, hc⟩ := modN r (n := sh.length + 1) (by omega)
    rw [show r % ((sh.length : Int) + 1) = (c : Int) from ec, SX.slice_to (by omega), SX.slice_from (by omega), Int.toNat_natCast]
    walk_at "go"
    obtain ⟨d, ed, hd⟩ := modN (r / 5) l0
    dsimp only
    rw [show r / 5 % (sh.length : Int) = (d : Int) from ed]
    have eu := List.getElem?_eq_getElem hd
    have hu : sh[d] ∈ sh := List.getElem_mem hd
    generalize sh[d] = u at eu hu
    refine ⟨S sh, _, u, rfl, rfl, lS2, atI_nat eu, ?_⟩
    have lt1 : (sh.take c).length ≤ 4 := by rw [List.length_take]; omega
    have lt2 : (sh.drop c).length ≤ 4 := by rw [List.length_drop]; omega
    have ecut : sh.take c ++ sh.drop c = sh := List.take_append_drop c sh
    have hx1 : x ∉ sh := fun h => hx (hMh x h)
    have hy1 : y ∉ sh := fun h => hy (hMh y h)
    have hh : ∀ z ∈ sh.take c, z ∈ MKL := fun z hz => hMh z (List.mem_of_mem_take hz)
    generalize sh.take c = hd1 at lt1 ecut hh
    generalize sh.drop c = tl at lt2 ecut
    refine ⟨S (hd1), S ([u]), rfl, rfl, by rw [S_len, S_len]; exact szl (by simp only [List.length_append, List.length_cons, List.length_nil]; omega), ?_⟩
    rw [S_cat]
    walk_at "go"
    refine ⟨by rw [S_len, S_len]; exact szl (by simp only [List.length_append, List.length_cons, List.length_nil]; omega), ?_⟩
    rw [S_cat]
    walk_at "go"
    refine ⟨by rw [S_len, S_len]; exact szl (by simp only [List.length_append, List.length_cons, List.length_nil]; omega), ?_⟩
    rw [S_cat]
    have lx1 : (S ([x] ++ sh)).length + (S [x]).length ≤ sizeLine := by rw [S_len, S_len]; exact szl (by simp only [List.length_append, List.length_cons, List.length_nil]; omega)
    walk_at "go"
    rw [show S ([x] ++ sh) ++ S [x] = S ([x] ++ sh ++ [x]) from S_cat ..]
    dsimp only [List.set]
    have tw : ¬ (hd1 ++ [u] ++ tl).Nodup := fun h => by
      have := (perm_mid hd1 tl u).nodup_iff.mp h
      rw [ecut] at this
      exact (List.nodup_cons.mp this).1 hu
    have ar : ¬ ([x] ++ sh ++ [x]).Nodup := fun h => by
      have := (perm_mid ([x] ++ sh) [] x).nodup_iff.mp (by rw [List.append_nil]; exact h)
      exact (List.nodup_cons.mp this).1 (by simp)
    have sh9 : ∀ c ∈ sh, c < 1000 := fun c hc => mk1000 c (hMh c hc)
    have mid9 : ∀ z, z < 1000 → ∀ c ∈ hd1 ++ [z] ++ tl, c < 1000 := fun z hz c hc => by
      have := (perm_mid hd1 tl z).mem_iff.mp hc
      rcases List.mem_cons.mp this with h | h
      · rw [h]; exact hz
      · rw [ecut] at h; exact sh9 c h
    have cw := mid9 u (sh9 u hu)
    have ca : ∀ c ∈ [x] ++ sh ++ [x], c < 1000 := fun c hc => by
      rcases List.mem_append.mp hc with h | h
      · rcases List.mem_append.mp h with h | h
        · rw [List.mem_singleton.mp h]; exact x9
        · exact sh9 c h
      · rw [List.mem_singleton.mp h]; exact x9
    have lw : (hd1 ++ [u] ++ tl).length ≤ 100 := by simp only [List.length_append, List.length_cons, List.length_nil]; omega
    have la : ([x] ++ sh ++ [x]).length ≤ 100 := by simp only [List.length_append, List.length_cons, List.length_nil]; omega
    generalize hd1 ++ [u] ++ tl = tw1 at tw lw cw
    generalize [x] ++ sh ++ [x] = ar1 at ar la ca
    intro q1 nq1
    generalize eH_ : upd H q1 _ = H1
    have s1 : Same H H1 := by rw [← eH_]; exact same_new nq1
    have eq1 : H1 q1 = some (.tup (rfV (some (.L [])))) := by rw [← eH_]; exact upd_same
    clear eH_
    walk_at "go"
    intro p1 np1
    generalize eH_ : upd H1 p1 _ = H2
    have s2 : Same H1 H2 := by rw [← eH_]; exact same_new np1
    have ep1 : H2 p1 = some (.tup [.str (S []), .ref q1]) := by rw [← eH_]; exact upd_same
    clear eH_
    walk_at "go"
    intro q2 nq2
    generalize eH_ : upd H2 q2 _ = H3
    have s3 : Same H2 H3 := by rw [← eH_]; exact same_new nq2
    have eq2 : H3 q2 = some (.tup (rfV (some (.L tw1)))) := by rw [← eH_]; exact upd_same
    clear eH_
    walk_at "go"
    intro p2 np2
    generalize eH_ : upd H3 p2 _ = H4
    have s4 : Same H3 H4 := by rw [← eH_]; exact same_new np2
    have ep2 : H4 p2 = some (.tup [.str (S tw1), .ref q2]) := by rw [← eH_]; exact upd_same
    clear eH_
    walk_at "go"
    intro q3 nq3
    generalize eH_ : upd H4 q3 _ = H5
    have s5 : Same H4 H5 := by rw [← eH_]; exact same_new nq3
    have eq3 : H5 q3 = some (.tup (rfV (some (.L ar1)))) := by rw [← eH_]; exact upd_same
    clear eH_
    walk_at "go"
    intro p3 np3
    generalize eH_ : upd H5 p3 _ = H6
    have s6 : Same H5 H6 := by rw [← eH_]; exact same_new np3
    have ep3 : H6 p3 = some (.tup [.str (S ar1), .ref q3]) := by rw [← eH_]; exact upd_same
    clear eH_
    walk_at "go"
    intro L nL
    generalize eH_ : upd H6 L _ = H7
    have s7 : Same H6 H7 := by rw [← eH_]; exact same_new nL
    have eL : H7 L = some (.lst [.ref p1, .ref p2, .ref p3]) := by rw [← eH_]; exact upd_same
    clear eH_
    have w7 : RwAt H7 L [(p1, q1, [], .L []), (p2, q2, tw1, .L tw1), (p3, q3, ar1, .L ar1)] := by
      refine ⟨eL, fun z hz => ?_⟩
      rcases List.mem_cons.mp hz with h | hz
      · rw [h]
        exact ⟨s7 _ _ (s6 _ _ (s5 _ _ (s4 _ _ (s3 _ _ ep1)))), s7 _ _ (s6 _ _ (s5 _ _ (s4 _ _ (s3 _ _ (s2 _ _ eq1))))), rowE_L (.inr rfl), (show 0 ≤ 100 by decide), fun c h => absurd h List.not_mem_nil⟩
      · rcases List.mem_cons.mp hz with h | hz
        · rw [h]
          exact ⟨s7 _ _ (s6 _ _ (s5 _ _ ep2)), s7 _ _ (s6 _ _ (s5 _ _ (s4 _ _ eq2))), rowE_L (.inl tw), lw, cw⟩
        · rw [List.mem_singleton.mp hz]
          exact ⟨s7 _ _ ep3, s7 _ _ (s6 _ _ eq3), rowE_L (.inl ar), la, ca⟩
    have s17 := ((s1.trans s2).trans (s3.trans s4)).trans ((s5.trans s6).trans s7)
    have nLH : H L = none := none_of (((s1.trans s2).trans (s3.trans s4)).trans (s5.trans s6)) nL
    have hO0 := hO
    have hO := s17.seq hO0
    have z := s17
    obtain ⟨zs, w, lz⟩ : ∃ zs, RwAt H7 L zs ∧ zs.length ≤ 3 := ⟨_, w7, Nat.le_refl 3⟩
    clear s17 w7
    clear s1 s2 s3 s4 s5 s6 s7 ep1 eq1 ep2 eq2 ep3 eq3 eL np1 nq1 np2 nq2 np3 nq3 nL tw ar lw la cw ca
    walk_at "go"
    refine ⟨.inl ⟨rfl, _, SqL.of w.sq⟩, ?_⟩
    walk_at "go"
    refine ⟨by rw [S_len, S_len]; exact szl (by simp only [List.length_append, List.length_cons, List.length_nil]; omega), ?_⟩
    rw [S_cat]
    walk_at "go"
    refine ⟨by rw [S_len, S_len]; exact szl (by simp only [List.length_append, List.length_cons, List.length_nil]; omega), ?_⟩
    rw [S_cat]
    have nd4 : (hd1 ++ [x] ++ tl).Nodup := (perm_mid hd1 tl x).nodup_iff.mpr (by rw [ecut]; exact List.nodup_cons.mpr ⟨hx1, ndh⟩)
    have nd5 : (hd1 ++ [x] ++ (tl ++ [y])).Nodup := by
      rw [← List.append_assoc]
      refine List.nodup_append.mpr ⟨nd4, List.nodup_cons.mpr ⟨List.not_mem_nil, List.nodup_nil⟩, fun a ha b hb => ?_⟩
      rw [List.mem_singleton.mp hb]
      rintro rfl
      have := (perm_mid hd1 tl x).mem_iff.mp ha
      rcases List.mem_cons.mp this with h | h
      · exact xy h.symm
      · rw [ecut] at h
        exact hy1 h
    have nd6 : ([] ++ [y] ++ (hd1 ++ [x] ++ tl)).Nodup := by
      show (y :: (hd1 ++ [x] ++ tl)).Nodup
      refine List.nodup_cons.mpr ⟨fun h => ?_, nd4⟩
      have := (perm_mid hd1 tl x).mem_iff.mp h
      rcases List.mem_cons.mp this with h | h
      · exact xy h.symm
      · rw [ecut] at h
        exact hy1 h
    walk_at "go"
    intro q4 nq4
    generalize eH_ : upd H7 q4 _ = Ha4
    have sa : Same H7 Ha4 := by rw [← eH_]; exact same_new nq4
    have eq4 : Ha4 q4 = some (.tup (rfV (some (.M [x])))) := by rw [← eH_]; exact upd_same
    clear eH_
    walk_at "go"
    intro p4 np4
    generalize eH_ : upd Ha4 p4 _ = Hb4
    have sb : Same Ha4 Hb4 := by rw [← eH_]; exact same_new np4
    have ep4 : Hb4 p4 = some (.tup [.str (S (hd1 ++ [x] ++ tl)), .ref q4]) := by rw [← eH_]; exact upd_same
    clear eH_
    walk_at "go"
    refine ⟨L, _, _, rfl, rfl, ((w.mono sa).mono sb).sq, (by rw [List.length_map]; exact szC (by omega)), ?_⟩
    have w := ((w.mono sa).mono sb).app ep4 (sb _ _ eq4) (rowE_M nd4 hh hx) (by simp only [List.length_append, List.length_cons, List.length_nil]; omega) (mid9 x x9)
    have z := Z.Same.mut (o := .lst ((zs.map fun z => V.ref z.1) ++ [V.ref p4])) ((z.trans sa).trans sb) nLH
    have lz : (zs ++ [(p4, q4, hd1 ++ [x] ++ tl, Er9.M [x])]).length ≤ 4 := by rw [List.length_append]; show zs.length + 1 ≤ 4; omega
    generalize zs ++ [(p4, q4, hd1 ++ [x] ++ tl, Er9.M [x])] = zs at w lz
    generalize upd Hb4 L _ = Hc4 at w z
    have hO := z.seq hO0
    clear sa sb eq4 ep4 np4 nq4
    walk_at "go"
    refine ⟨.inl ⟨rfl, _, SqL.of w.sq⟩, ?_⟩
    walk_at "go"
    refine ⟨by rw [S_len, S_len]; exact szl (by simp only [List.length_append, List.length_cons, List.length_nil]; omega), ?_⟩
    rw [S_cat]
    walk_at "go"
    refine ⟨by rw [S_len, S_len]; exact szl (by simp only [List.length_append, List.length_cons, List.length_nil]; omega), ?_⟩
    rw [S_cat]
    have lx5 : (S (hd1 ++ [x] ++ tl)).length + (S [y]).length ≤ sizeLine := by rw [S_len, S_len]; exact szl (by simp only [List.length_append, List.length_cons, List.length_nil]; omega)
    walk_at "go"
    rw [show S (hd1 ++ [x] ++ tl) ++ S [y] = S (hd1 ++ [x] ++ tl ++ [y]) from S_cat ..]
    rw [List.append_assoc (hd1 ++ [x]) tl [y]]
    intro q5 nq5
    generalize eH_ : upd Hc4 q5 _ = Ha5
    have sa : Same Hc4 Ha5 := by rw [← eH_]; exact same_new nq5
    have eq5 : Ha5 q5 = some (.tup (rfV (some (.M [x])))) := by rw [← eH_]; exact upd_same
    clear eH_
    walk_at "go"
    intro p5 np5
    generalize eH_ : upd Ha5 p5 _ = Hb5
    have sb : Same Ha5 Hb5 := by rw [← eH_]; exact same_new np5
    have ep5 : Hb5 p5 = some (.tup [.str (S (hd1 ++ [x] ++ (tl ++ [y]))), .ref q5]) := by rw [← eH_]; exact upd_same
    clear eH_
    walk_at "go"
    refine ⟨L, _, _, rfl, rfl, ((w.mono sa).mono sb).sq, (by rw [List.length_map]; exact szC (by omega)), ?_⟩
    have w := ((w.mono sa).mono sb).app ep5 (sb _ _ eq5) (rowE_M nd5 hh hx) (by simp only [List.length_append, List.length_cons, List.length_nil]; omega) (fun c hc => by
      rw [← List.append_assoc] at hc
      rcases List.mem_append.mp hc with h | h
      · exact mid9 x x9 c h
      · rw [List.mem_singleton.mp h]; exact y9)
    have z := Z.Same.mut (o := .lst ((zs.map fun z => V.ref z.1) ++ [V.ref p5])) ((z.trans sa).trans sb) nLH
    have lz : (zs ++ [(p5, q5, hd1 ++ [x] ++ (tl ++ [y]), Er9.M [x])]).length ≤ 5 := by rw [List.length_append]; show zs.length + 1 ≤ 5; omega
    generalize zs ++ [(p5, q5, hd1 ++ [x] ++ (tl ++ [y]), Er9.M [x])] = zs at w lz
    generalize upd Hb5 L _ = Hc5 at w z
    have hO := z.seq hO0
    clear sa sb eq5 ep5 np5 nq5
    walk_at "go"
    refine ⟨.inl ⟨rfl, _, SqL.of w.sq⟩, ?_⟩
    walk_at "go"
    refine ⟨by rw [S_len, S_len]; exact szl (by simp only [List.length_append, List.length_cons, List.length_nil]; omega), ?_⟩
    rw [S_cat]
    have lx6 : (S ([y] ++ hd1)).length + (S [x]).length ≤ sizeLine := by rw [S_len, S_len]; exact szl (by simp only [List.length_append, List.length_cons, List.length_nil]; omega)
    have lx7 : (S ([y] ++ hd1) ++ S [x]).length + (S tl).length ≤ sizeLine := by rw [S_cat, S_len, S_len]; exact szl (by simp only [List.length_append, List.length_cons, List.length_nil]; omega)
    walk_at "go"
    rw [show S ([y] ++ hd1) ++ S [x] ++ S tl = S ([y] ++ hd1 ++ [x] ++ tl) by rw [S_cat, S_cat]]
    rw [show [y] ++ hd1 ++ [x] ++ tl = [] ++ [y] ++ (hd1 ++ [x] ++ tl) by simp]
    intro q6 nq6
    generalize eH_ : upd Hc5 q6 _ = Ha6
    have sa : Same Hc5 Ha6 := by rw [← eH_]; exact same_new nq6
    have eq6 : Ha6 q6 = some (.tup (rfV (some (.M [y])))) := by rw [← eH_]; exact upd_same
    clear eH_
    walk_at "go"
    intro p6 np6
    generalize eH_ : upd Ha6 p6 _ = Hb6
    have sb : Same Ha6 Hb6 := by rw [← eH_]; exact same_new np6
    have ep6 : Hb6 p6 = some (.tup [.str (S ([] ++ [y] ++ (hd1 ++ [x] ++ tl))), .ref q6]) := by rw [← eH_]; exact upd_same
    clear eH_
    walk_at "go"
    refine ⟨L, _, _, rfl, rfl, ((w.mono sa).mono sb).sq, (by rw [List.length_map]; exact szC (by omega)), ?_⟩
    have w := ((w.mono sa).mono sb).app ep6 (sb _ _ eq6) (rowE_M nd6 (fun c h => absurd h List.not_mem_nil) hy) (by simp only [List.length_append, List.length_cons, List.length_nil]; omega) (fun c hc => by
      rcases List.mem_append.mp hc with h | h
      · rw [List.mem_singleton.mp h]; exact y9
      · exact mid9 x x9 c h)
    have z := Z.Same.mut (o := .lst ((zs.map fun z => V.ref z.1) ++ [V.ref p6])) ((z.trans sa).trans sb) nLH
    have lz : (zs ++ [(p6, q6, [] ++ [y] ++ (hd1 ++ [x] ++ tl), Er9.M [y])]).length ≤ 6 := by rw [List.length_append]; show zs.length + 1 ≤ 6; omega
    generalize zs ++ [(p6, q6, [] ++ [y] ++ (hd1 ++ [x] ++ tl), Er9.M [y])] = zs at w lz
    generalize upd Hb6 L _ = Hc6 at w z
    have hO := z.seq hO0
    clear sa sb eq6 ep6 np6 nq6
    walk_at "go"
    exact q L _ _ z w
end
end Z
set_option pp.maxSteps 700
set_option Elab.async false
set_option linter.all false
set_option maxRecDepth 100000
set_option maxHeartbeats 4000000
open SX (S S_inj S_len S_cat)
namespace Z
open Mc
open PySem PySem.Spec PyProof.Rows L2
open C8 (pss_cut tCut)
local macro_rules | `(tactic| walk_at "num") => `(tactic| first | rfl | omega | decide | exact Nat.le_of_lt (small1000 (by simp)) | exact ⟨by omega, by omega⟩ | exact ⟨by omega, by omega, by omega⟩ | exact ⟨by decide, by decide, by decide⟩ | exact Or.inl ⟨by omega, by omega⟩ | exact Or.inr ⟨by omega, by omega⟩)
local macro_rules | `(tactic| walk_at "go") => `(tactic| repeat (first | refine ⟨_, rfl, ?_⟩ | refine ⟨_, _, rfl, rfl, ?_⟩ | refine ⟨_, _, rfl, ?_⟩ | (refine ⟨_, _, rfl, rfl, ?_, ?_⟩; focus walk_at "num") | refine Or.inl ⟨_, rfl, ?_⟩ | refine ⟨_, _, _, _, rfl, rfl, (by assumption), (by rfl), ?_⟩ | refine ⟨_, _, _, _, _, rfl, (by assumption), (by assumption), (by assumption), (by rfl), ?_⟩ | refine ⟨rfl, ?_⟩ | (refine And.intro ?_ ?_; focus walk_at "num")))
abbrev s_refuses : Stmt := topS 53
abbrev N_refuses : List Str := ["_law_name", "_law_letters_here", "_law_marks", "_law_times", "_law_wrong_rows_here", "_law_strangers", "_law_wrong", "_law_first", "_law_second", "_law_row", "_law_due_here", "_law_strange"]
abbrev P_refuses : List Str := ["_law_name", "_law_letters_here", "_law_marks", "_law_times", "_law_wrong_rows_here", "_law_strangers", "_law_wrong"]
theorem sc_refuses : FnScope N_refuses P_refuses (defScope s_refuses) := ⟨rfl, rfl, rfl, by decide +kernel, rfl, by decide +kernel, by decide +kernel⟩
abbrev s_base : Stmt := topS 54
abbrev N_base : List Str := ["_law_letters_here", "_law_strange", "e"]
abbrev P_base : List Str := ["_law_letters_here", "_law_strange"]
theorem sc_base : FnScope N_base P_base (defScope s_base) := ⟨rfl, rfl, rfl, by decide +kernel, rfl, by decide +kernel, by decide +kernel⟩
section
variable {P : Program} {w : World} {K : PySem.W.Frag} {mg : Str → Option Value} {base : Heap} {f C CL CM CC CH : Addr} {fd : FuncData}
def rfDL : Option Er9 → List PyData
  | none => [.str "none", .str (S [])]
  | some (.L l) => [.str "letters", .str (S l)]
  | some (.M t) => [.str "mark", .str (S t)]
  | some (.C v) => [.str "count", .int v]
def rfD (e : Option Er9) : PyData := .tuple (rfDL e)
theorem dp_rf {H : Hp} {p : Addr} {e : Option Er9} (h : H p = some (.tup (rfV e))) : Dp K H (.ref p) (rfD e) := by
  cases e with
  | none => exact .tup (SqT.of h) (.cons (.str _) (.cons (.str _) .nil))
  | some e =>
    cases e with
    | L l => exact .tup (SqT.of h) (.cons (.str _) (.cons (.str _) .nil))
    | M t => exact .tup (SqT.of h) (.cons (.str _) (.cons (.str _) .nil))
    | C v => exact .tup (SqT.of h) (.cons (.str _) (.cons (.int _) .nil))
theorem sok {l : List Nat} (h : ∀ c ∈ l, c < 1000) : PyData.strOk (S l) = true := by
  unfold PyData.strOk
  rw [← Array.all_toList]
  exact List.all_eq_true.mpr fun c hc => decide_eq_true (Nat.lt_of_lt_of_le (h c hc) (by decide))
def okE : Option Er9 → Prop
  | none => True
  | some (.L l) => ∀ c ∈ l, c < 1000
  | some (.M l) => ∀ c ∈ l, c < 1000
  | some (.C _) => True
theorem sh_rf {e : Option Er9} (h : okE e) : SeqAt.shaped (rfD e) = true := by
  have k1 : PyData.strOk (Str.ofString "none") = true ∧ PyData.strOk (Str.ofString "letters") = true ∧ PyData.strOk (Str.ofString "mark") = true ∧ PyData.strOk (Str.ofString "count") = true := by decide +kernel
  cases e with
  | none => simp [SeqAt.shaped, rfD, rfDL, PyData.canLay0, PyData.canLayAll0, PyData.depth, PyData.depthAll, k1.1, sok (l := []) (fun c h => absurd h List.not_mem_nil)]
  | some e =>
    cases e with
    | L l => simp [SeqAt.shaped, rfD, rfDL, PyData.canLay0, PyData.canLayAll0, PyData.depth, PyData.depthAll, k1.2.1, sok h]
    | M l => simp [SeqAt.shaped, rfD, rfDL, PyData.canLay0, PyData.canLayAll0, PyData.depth, PyData.depthAll, k1.2.2.1, sok h]
    | C v => simp [SeqAt.shaped, rfD, rfDL, PyData.canLay0, PyData.canLayAll0, PyData.depth, PyData.depthAll, k1.2.2.2]
theorem rowE_okE {l : List Nat} {e : Er9} (h : rowE l = some e) (h9 : ∀ c ∈ l, c < 1000) : okE (some e) := by
  unfold rowE at h
  cases h1 : badL l with
  | some e1 =>
    rw [h1] at h
    cases h
    unfold badL at h1
    split at h1
    · cases h1
    · cases h1
      exact h9
  | none =>
    rw [h1] at h
    dsimp only at h
    unfold badM at h
    cases h2 : l.find? (fun c => !decide (c ∈ MKL)) with
    | none => rw [h2] at h; cases h
    | some c =>
      rw [h2] at h
      cases h
      intro d hd
      rw [List.mem_singleton.mp hd]
      exact h9 c (List.mem_of_find?_eq_some h2)
theorem ckO_bad {l t : List Nat} {ms : List (List Nat)} (nd : l.Nodup) (ne : l ≠ []) (h : ∀ c ∈ l, c ∈ MKL) (ht : okN l t = false) : ckO l (t :: ms) = some (.M t) := by
  rw [ckO_ok nd ne h]
  unfold badN
  rw [List.find?_cons, ht]
  rfl
theorem ckO_bad2 {l t : List Nat} {a : Nat} {ms : List (List Nat)} (nd : l.Nodup) (ne : l ≠ []) (h : ∀ c ∈ l, c ∈ MKL) (ha : a ∈ l) (ht : okN l t = false) : ckO l ([a] :: t :: ms) = some (.M t) := by
  rw [ckO_ok nd ne h]
  unfold badN
  rw [List.find?_cons, okN_ok ha, List.find?_cons, ht]
  rfl
theorem ckO_one {l : List Nat} {a : Nat} (nd : l.Nodup) (ne : l ≠ []) (h : ∀ c ∈ l, c ∈ MKL) (ha : a ∈ l) : ckO l [[a]] = none := by
  rw [ckO_ok nd ne h]
  unfold badN
  rw [List.find?_cons, okN_ok ha]
  rfl
theorem er_first {md : Nat} {l t tb : List Nat} {v : Int} (nd : l.Nodup) (ne : l ≠ []) (h : ∀ c ∈ l, c ∈ MKL) (ht : okN l t = false) : erO md l t tb v = some (.M t) := by
  have : ckO l (if md = 1 ∨ md = 2 then [t, tb] else [t]) = some (.M t) := by
    split <;> exact ckO_bad nd ne h ht
  unfold erO
  rw [this]
theorem er_second {md a : Nat} {l t : List Nat} {v : Int} (nd : l.Nodup) (ne : l ≠ []) (h : ∀ c ∈ l, c ∈ MKL) (ha : a ∈ l) (ht : okN l t = false) (v0 : 0 ≤ v) (v9 : v ≤ 9) : erO md l [a] t v = if md = 1 ∨ md = 2 then some (.M t) else none := by
  unfold erO
  by_cases c : md = 1 ∨ md = 2
  · rw [if_pos c, if_pos c, ckO_bad2 nd ne h ha ht]
  · rw [if_neg c, if_neg c, ckO_one nd ne h ha]
    exact if_neg (fun z => z.2 ⟨v0, v9⟩)
theorem er_wrong {md a b : Nat} {l : List Nat} {v : Int} (m4 : md < 4) (nd : l.Nodup) (ne : l ≠ []) (h : ∀ c ∈ l, c ∈ MKL) (ha : a ∈ l) (hb : b ∈ l) (hv : v < 0 ∨ 9 < v) : erO md l [a] [b] v = if md = 3 then some (.C v) else none := by
  have e0 : erO md l [a] [b] 0 = none := erO_ok nd ne h ha hb (by omega) (by omega)
  unfold erO at e0 ⊢
  cases e : ckO l (if md = 1 ∨ md = 2 then [[a], [b]] else [[a]]) with
  | some e1 => rw [e] at e0; cases e0
  | none =>
    dsimp only
    by_cases c : md = 3
    · rw [if_pos c, if_pos ⟨c, by omega⟩]
    · rw [if_neg c, if_neg (fun z => c z.1)]
def spRefs (K : PySem.W.Frag) : Sp := fun vs H Q _ => ∃ (md a b t : Nat) (l : List Nat) (mk A sg : Addr) (wr : Int) (zs : List (Addr × Addr × List Nat × Er9)) (ts : List (List Nat)) (t0 t1 : List Nat), vs = [.str (nmD md), .str (S l), .ref mk, .int (t : Int), .ref A, .ref sg, .int wr] ∧ md < 4 ∧ l.Nodup ∧ l ≠ [] ∧ l.length ≤ 10 ∧ (∀ c ∈ l, c ∈ MKL) ∧ a ∈ l ∧ b ∈ l ∧ t ≤ 9 ∧ SqL K H mk [.str (S [a]), .str (S [b])] ∧ RwAt H A zs ∧ SqL K H sg (txs ts) ∧ (∀ tx ∈ ts, tx.length ≤ 1000 ∧ okN l tx = false ∧ ∀ c ∈ tx, c < 1000) ∧ ts[0]? = some t0 ∧ ts[1]? = some t1 ∧ (wr < 0 ∨ 9 < wr) ∧ ∀ H', Same H H' → Q (.bl true) H'
theorem ok_refuses (F : FnP K "_law_refuses" s_refuses f fd) (c_refusal : Cal P w K mg base 8 "_law_refusal" (spRfu C CL CM CC K)) : FnOk P w K mg base CX0 9 f fd P_refuses (spRefs K) := by
  refine F.ok sc_refuses (fun vs H Q E h => ?_) (fun cdv A outer s H vs Q E hr h => ?_)
  · obtain ⟨md, a, b, t, l, mk, A, sg, wr, zs, ts, t0, t1, rfl, _⟩ := h
    rfl
  · obtain ⟨md, a, b, t, l, mk, Ar, sg, wr, zs, ts, t0, t1, rfl, m4, nd, ne, ll, hM, ha, hb, t9, hK, hZ, hS, hts, e0, e1, hw, q⟩ := h
    refine ⟨_, PSs.nox (pss_cons (ps_set (i := 7) sc_refuses.nd rfl (by first | exact .inl rfl | exact .inr rfl) (pe_ix ix_list (pv 2) pe_int (fun _ _ => rfl)))
      (pss_cons (ps_set (i := 8) sc_refuses.nd rfl (by first | exact .inl rfl | exact .inr rfl) (pe_ix ix_list (pv 2) pe_int (fun _ _ => rfl)))
      (pss_cons (ps_for PassesOwn.never rfl (pi_list (pv 4)) (pg_tup rfl (pgs_cons (pg_name (i := 9) sc_refuses.nd rfl (by first | exact .inl rfl | exact .inr rfl)) (pgs_cons (pg_name (i := 10) sc_refuses.nd rfl (by first | exact .inl rfl | exact .inr rfl)) pgs_nil)))
        (pss_cons (ps_if (pt_cmpR (op_neD hr.units) (pe_cl c_refusal hr (by decide) (by rfl) (pa_cons (pv 0) (pa_cons (pv 9) (pa_cons (pv 7) (pa_cons (pv 8) (pa_cons (pv 3) pa_nil)))))) (pv 10) (nomark _)) (pss_one (ps_ret pe_bl)) pss_nil)
      (pss_one (ps_if (pt_cmpR (op_neD hr.units) (pe_cl c_refusal hr (by decide) (by rfl) (pa_cons (pv 0) (pa_cons (pv 9) (pa_cons (pe_ix ix_list (pv 5) pe_int (fun _ _ => rfl)) (pa_cons (pe_ix ix_list (pv 5) pe_int (fun _ _ => rfl)) (pa_cons (pv 6) pa_nil)))))) (pv 10) (nomark _)) (pss_one (ps_ret pe_bl)) pss_nil))))
      (pss_cons (ps_for PassesOwn.never rfl (pi_list (pv 5)) (pg_name (i := 11) sc_refuses.nd rfl (by first | exact .inl rfl | exact .inr rfl))
        (pss_cons (ps_if (pt_cmpR (op_neD hr.units) (pe_cl c_refusal hr (by decide) (by rfl) (pa_cons (pv 0) (pa_cons (pv 1) (pa_cons (pv 11) (pa_cons (pv 8) (pa_cons (pv 3) pa_nil)))))) (pe_tup (pa_cons pe_str (pa_cons (pv 11) pa_nil))) (nomark _)) (pss_one (ps_ret pe_bl)) pss_nil)
      (pss_cons (ps_if (pt_cmpR (op_neD hr.units) (pe_cl c_refusal hr (by decide) (by rfl) (pa_cons (pv 0) (pa_cons (pv 1) (pa_cons (pv 11) (pa_cons (pe_ix ix_list (pv 5) pe_int (fun _ _ => rfl)) (pa_cons (pv 6) pa_nil)))))) (pe_tup (pa_cons pe_str (pa_cons (pv 11) pa_nil))) (nomark _)) (pss_one (ps_ret pe_bl)) pss_nil)
      (pss_cons (ps_set (i := 10) sc_refuses.nd rfl (by first | exact .inl rfl | exact .inr rfl) (pe_tup (pa_cons pe_str (pa_cons pe_str pa_nil))))
      (pss_cut (ps_if (PW.pt (pw_or (pt_cmpR op_eq (pv 0) pe_str (nomark _)) (pw_or1 (pt_cmpR op_eq (pv 0) pe_str (nomark _))))) (pss_one (ps_set (i := 10) sc_refuses.nd rfl (by first | exact .inl rfl | exact .inr rfl) (pe_tup (pa_cons pe_str (pa_cons (pv 11) pa_nil))))) pss_nil)
      (pss_one (ps_if (pt_cmpR (op_neD hr.units) (pe_cl c_refusal hr (by decide) (by rfl) (pa_cons (pv 0) (pa_cons (pv 1) (pa_cons (pv 7) (pa_cons (pv 11) (pa_cons (pv 3) pa_nil)))))) (pv 10) (nomark _)) (pss_one (ps_ret pe_bl)) pss_nil)))))))
      (pss_cons (ps_set (i := 10) sc_refuses.nd rfl (by first | exact .inl rfl | exact .inr rfl) (pe_tup (pa_cons pe_str (pa_cons pe_str pa_nil))))
      (pss_cut (ps_if (pt_cmpR op_eq (pv 0) pe_str (nomark _)) (pss_one (ps_set (i := 10) sc_refuses.nd rfl (by first | exact .inl rfl | exact .inr rfl) (pe_tup (pa_cons pe_str (pa_cons (pv 6) pa_nil))))) pss_nil)
      (pss_one (ps_ret (pe_cmpR (op_eqD hr.units) (pe_cl c_refusal hr (by decide) (by rfl) (pa_cons (pv 0) (pa_cons (pv 1) (pa_cons (pv 7) (pa_cons (pv 8) (pa_cons (pv 6) pa_nil)))))) (pv 10) (nomark _)))))))))), ?_⟩
    have h1 : decide (V.str (nmD md) = V.str (Str.ofString "only_after")) = decide (md = 1) := nmd (j := 1) m4 (by decide)
    have h2 : decide (V.str (nmD md) = V.str (Str.ofString "answered")) = decide (md = 2) := nmd (j := 2) m4 (by decide)
    have h3 : decide (V.str (nmD md) = V.str (Str.ofString "at_most")) = decide (md = 3) := nmd (j := 3) m4 (by decide)
    obtain ⟨nm, enm⟩ : ∃ nm, nm = nmD md := ⟨_, rfl⟩
    rw [← enm] at h1 h2 h3 ⊢
    walk_at "go"
    refine ⟨⟨_, SqL.of hZ.sq⟩, ?_⟩
    refine for_gen (n := zs.length) (fun k σ J => Same H J ∧ ∃ v9 v10 : Option V, σ = [some (.str nm), some (.str (S l)), some (.ref mk), some (.int (t : Int)), some (.ref Ar), some (.ref sg), some (.int wr), some (.str (S [a])), some (.str (S [b])), v9, v10, none]) ⟨Same.refl _, none, none, rfl⟩ ?_ ?_ ?_ ?_
    · rintro k σ J hk ⟨s2, _⟩
      exact ⟨_, _, SqL.of (s2 _ _ hZ.sq), by rw [List.getElem?_map, List.getElem?_eq_getElem hk]; rfl⟩
    · rintro σ J ⟨s2, _⟩
      exact ⟨_, SqL.of (s2 _ _ hZ.sq), by rw [List.length_map]; exact Nat.le_refl _⟩
    · rintro k σ J x J' hk ⟨s2, v9, v10, rfl⟩ ⟨rfl, y⟩
      have y := y _ (SqL.of (s2 _ _ hZ.sq))
      rw [List.getElem?_map, List.getElem?_eq_getElem hk] at y
      cases y
      obtain ⟨zp, zq, zr, zl⟩ := hZ.at_ _ (List.getElem_mem hk)
      generalize zs[k] = z at zp zq zr zl
      obtain ⟨p, qq, r, e⟩ := z
      dsimp only at zp zq zr zl
      refine ⟨p, _, rfl, SqT.of (s2 _ _ zp), rfl, ?_⟩
      walk_at "go"
      refine ⟨md, r, [a], [b], t, by rw [← enm]; rfl, m4, by omega, (show 1 ≤ 1000 by decide), (show 1 ≤ 1000 by decide), fun p1 J1 s3 n1 ep1 => ?_⟩
      rw [rowE_er zr] at ep1
      have ke := sh_rf (rowE_okE zr zl.2)
      walk_at "go"
      refine same2 (dp_rf ep1) (dp_rf (s3 _ _ (s2 _ _ zq))) ke ?_
      rw [eqv_same ke]
      refine ⟨false, rfl, ?_⟩
      refine ite2 (fun e => by cases e) (fun _ => ?_)
      have s23 := s2.trans s3
      have hS1 := s23.seq hS
      walk_at "go"
      refine ⟨sg, _, 0, .str (S t0), rfl, rfl, hS1, atI_nat (j := 0) (by unfold txs; rw [List.getElem?_map, e0]; rfl), ?_⟩
      walk_at "go"
      refine ⟨sg, _, 1, .str (S t1), rfl, rfl, hS1, atI_nat (j := 1) (by unfold txs; rw [List.getElem?_map, e1]; rfl), ?_⟩
      walk_at "go"
      refine ⟨md, r, t0, t1, wr, by rw [← enm]; rfl, m4, by omega, (hts t0 (List.mem_of_getElem? e0)).1, (hts t1 (List.mem_of_getElem? e1)).1, fun p2 J2 s4 n2 ep2 => ?_⟩
      rw [rowE_er zr] at ep2
      walk_at "go"
      refine same2 (dp_rf ep2) (dp_rf (s4 _ _ (s23 _ _ zq))) ke ?_
      rw [eqv_same ke]
      refine ⟨false, rfl, ?_⟩
      refine ite2 (fun e => by cases e) (fun _ => ?_)
      exact ⟨s23.trans s4, _, _, rfl⟩
    rintro σ J ⟨s2, v9, v10, rfl⟩
    have hS2 := s2.seq hS
    walk_at "go"
    refine ⟨⟨_, hS2⟩, ?_⟩
    refine for_gen (n := ts.length) (fun k σ J1 => Same J J1 ∧ ∃ v9 v10 v11 : Option V, σ = [some (.str nm), some (.str (S l)), some (.ref mk), some (.int (t : Int)), some (.ref Ar), some (.ref sg), some (.int wr), some (.str (S [a])), some (.str (S [b])), v9, v10, v11]) ⟨Same.refl _, v9, v10, none, rfl⟩ ?_ ?_ ?_ ?_
    · rintro k σ J1 hk ⟨s3, _⟩
      exact ⟨_, _, s3.seq hS2, by unfold txs; rw [List.getElem?_map, List.getElem?_eq_getElem hk]; rfl⟩
    · rintro σ J1 ⟨s3, _⟩
      exact ⟨_, s3.seq hS2, by unfold txs; rw [List.length_map]; exact Nat.le_refl _⟩
    · rintro k σ J1 x J' hk ⟨s3, v9, v10, v11, rfl⟩ ⟨rfl, y⟩
      have y := y _ (s3.seq hS2)
      unfold txs at y
      rw [List.getElem?_map, List.getElem?_eq_getElem hk] at y
      cases y
      obtain ⟨lx, hx, x9⟩ := hts _ (List.getElem_mem hk)
      generalize ts[k] = tx at lx hx x9
      have ke : SeqAt.shaped (rfD (some (Er9.M tx))) = true := sh_rf (e := some (.M tx)) x9
      walk_at "go"
      refine ⟨md, l, tx, [b], t, by rw [← enm]; rfl, m4, by omega, lx, (show 1 ≤ 1000 by decide), fun p1 J2 s4 n1 ep1 => ?_⟩
      rw [er_first nd ne hM hx] at ep1
      walk_at "go"
      intro d1 nd1
      generalize eH_ : upd J2 d1 _ = J3
      have s5 : Same J2 J3 := by rw [← eH_]; exact same_new nd1
      have ed1 : J3 d1 = some (.tup (rfV (some (.M tx)))) := by rw [← eH_]; exact upd_same
      clear eH_
      refine same2 (dp_rf (s5 _ _ ep1)) (dp_rf ed1) ke ?_
      rw [eqv_same ke]
      refine ⟨false, rfl, ?_⟩
      refine ite2 (fun e => by cases e) (fun _ => ?_)
      have s35 := s3.trans (s4.trans s5)
      have hS3 := s35.seq hS2
      clear s4 s5 ep1 ed1 n1 nd1
      walk_at "go"
      refine ⟨sg, _, 0, .str (S t0), rfl, rfl, hS3, atI_nat (j := 0) (by unfold txs; rw [List.getElem?_map, e0]; rfl), ?_⟩
      walk_at "go"
      refine ⟨md, l, tx, t0, wr, by rw [← enm]; rfl, m4, by omega, lx, (hts t0 (List.mem_of_getElem? e0)).1, fun p1 J4 s4 n1 ep1 => ?_⟩
      rw [er_first nd ne hM hx] at ep1
      walk_at "go"
      intro d2 nd2
      generalize eH_ : upd J4 d2 _ = J5
      have s5 : Same J4 J5 := by rw [← eH_]; exact same_new nd2
      have ed2 : J5 d2 = some (.tup (rfV (some (.M tx)))) := by rw [← eH_]; exact upd_same
      clear eH_
      refine same2 (dp_rf (s5 _ _ ep1)) (dp_rf ed2) ke ?_
      rw [eqv_same ke]
      refine ⟨false, rfl, ?_⟩
      refine ite2 (fun e => by cases e) (fun _ => ?_)
      have s36 := s35.trans (s4.trans s5)
      clear s4 s5 ep1 ed2 n1 nd2 s35 hS3
      walk_at "go"
      intro d3 nd3
      generalize eH_ : upd J5 d3 _ = J6
      have s6 : Same J5 J6 := by rw [← eH_]; exact same_new nd3
      have ed3 : J6 d3 = some (.tup (rfV none)) := by rw [← eH_]; exact upd_same
      clear eH_
      refine ⟨fun σ' J7 => Same J J7 ∧ ∃ d, J7 d = some (.tup (rfV (if md = 1 ∨ md = 2 then some (.M tx) else none))) ∧ σ' = [some (.str nm), some (.str (S l)), some (.ref mk), some (.int (t : Int)), some (.ref Ar), some (.ref sg), some (.int wr), some (.str (S [a])), some (.str (S [b])), v9, some (.ref d), some (.str (S tx))], ?_, ?_⟩
      · walk_at "go"
        rw [h1]
        by_cases c1 : md = 1
        · rw [decide_eq_true c1, if_pos (.inl c1)]
          walk_at "go"
          intro d4 nd4
          generalize eH_ : upd J6 d4 _ = J7
          have s7 : Same J6 J7 := by rw [← eH_]; exact same_new nd4
          have ed4 : J7 d4 = some (.tup (rfV (some (.M tx)))) := by rw [← eH_]; exact upd_same
          clear eH_
          exact ⟨s36.trans (s6.trans s7), d4, ed4, rfl⟩
        rw [decide_eq_false c1]
        walk_at "go"
        rw [h2]
        by_cases c2 : md = 2
        · rw [decide_eq_true c2, if_pos (.inr c2)]
          walk_at "go"
          intro d4 nd4
          generalize eH_ : upd J6 d4 _ = J7
          have s7 : Same J6 J7 := by rw [← eH_]; exact same_new nd4
          have ed4 : J7 d4 = some (.tup (rfV (some (.M tx)))) := by rw [← eH_]; exact upd_same
          clear eH_
          exact ⟨s36.trans (s6.trans s7), d4, ed4, rfl⟩
        rw [decide_eq_false c2, if_neg (fun h => h.elim c1 c2)]
        walk_at "go"
        exact ⟨s36.trans s6, d3, ed3, rfl⟩
      rintro σ' J7 ⟨s7, d, ed, rfl⟩
      have ke2 : SeqAt.shaped (rfD (if md = 1 ∨ md = 2 then some (Er9.M tx) else none)) = true := sh_rf (by split; exact x9; trivial)
      walk_at "go"
      refine ⟨md, l, [a], tx, t, by rw [← enm]; rfl, m4, by omega, (show 1 ≤ 1000 by decide), lx, fun p1 J8 s8 n1 ep1 => ?_⟩
      rw [er_second nd ne hM ha hx (by omega) (by omega)] at ep1
      walk_at "go"
      refine same2 (dp_rf ep1) (dp_rf (s8 _ _ ed)) ke2 ?_
      rw [eqv_same ke2]
      refine ⟨false, rfl, ?_⟩
      refine ite2 (fun e => by cases e) (fun _ => ?_)
      exact ⟨s7.trans s8, _, _, _, rfl⟩
    rintro σ J1 ⟨s3, v9, v10, v11, rfl⟩
    have s23 := s2.trans s3
    clear s2 s3 hS2
    walk_at "go"
    intro d3 nd3
    generalize eH_ : upd J1 d3 _ = J6
    have s6 : Same J1 J6 := by rw [← eH_]; exact same_new nd3
    have ed3 : J6 d3 = some (.tup (rfV none)) := by rw [← eH_]; exact upd_same
    clear eH_
    refine ⟨fun σ' J7 => Same H J7 ∧ ∃ d, J7 d = some (.tup (rfV (if md = 3 then some (.C wr) else none))) ∧ σ' = [some (.str nm), some (.str (S l)), some (.ref mk), some (.int (t : Int)), some (.ref Ar), some (.ref sg), some (.int wr), some (.str (S [a])), some (.str (S [b])), v9, some (.ref d), v11], ?_, ?_⟩
    · walk_at "go"
      rw [h3]
      by_cases c1 : md = 3
      · rw [decide_eq_true c1, if_pos c1]
        walk_at "go"
        intro d4 nd4
        generalize eH_ : upd J6 d4 _ = J7
        have s7 : Same J6 J7 := by rw [← eH_]; exact same_new nd4
        have ed4 : J7 d4 = some (.tup (rfV (some (.C wr)))) := by rw [← eH_]; exact upd_same
        clear eH_
        exact ⟨s23.trans (s6.trans s7), d4, ed4, rfl⟩
      rw [decide_eq_false c1, if_neg c1]
      walk_at "go"
      exact ⟨s23.trans s6, d3, ed3, rfl⟩
    rintro σ' J7 ⟨s7, d, ed, rfl⟩
    have ke2 : SeqAt.shaped (rfD (if md = 3 then some (Er9.C wr) else none)) = true := sh_rf (by split <;> trivial)
    walk_at "go"
    refine ⟨md, l, [a], [b], wr, by rw [← enm]; rfl, m4, by omega, (show 1 ≤ 1000 by decide), (show 1 ≤ 1000 by decide), fun p1 J8 s8 n1 ep1 => ?_⟩
    rw [er_wrong m4 nd ne hM ha hb hw] at ep1
    walk_at "go"
    refine same2 (dp_rf ep1) (dp_rf (s8 _ _ ed)) ke2 ?_
    rw [eqv_same ke2]
    exact q _ (s7.trans s8)
end
end Z
set_option pp.maxSteps 700
set_option Elab.async false
set_option linter.all false
set_option maxRecDepth 100000
set_option maxHeartbeats 4000000
open SX (S S_inj S_len S_cat)
namespace Z
open Mc
open PySem PySem.Spec PyProof.Rows L2
open C8 (pss_cut tCut)
local macro_rules | `(tactic| walk_at "num") => `(tactic| first | rfl | omega | decide | exact Nat.le_of_lt (small1000 (by simp)) | exact ⟨by omega, by omega⟩ | exact ⟨by omega, by omega, by omega⟩ | exact ⟨by decide, by decide, by decide⟩ | exact Or.inl ⟨by omega, by omega⟩ | exact Or.inr ⟨by omega, by omega⟩)
local macro_rules | `(tactic| walk_at "go") => `(tactic| repeat (first | refine ⟨_, rfl, ?_⟩ | refine ⟨_, _, rfl, rfl, ?_⟩ | refine ⟨_, _, rfl, ?_⟩ | (refine ⟨_, _, rfl, rfl, ?_, ?_⟩; focus walk_at "num") | refine Or.inl ⟨_, rfl, ?_⟩ | refine ⟨_, _, _, _, rfl, rfl, (by assumption), (by rfl), ?_⟩ | refine ⟨_, _, _, _, _, rfl, (by assumption), (by assumption), (by assumption), (by rfl), ?_⟩ | refine ⟨rfl, ?_⟩ | (refine And.intro ?_ ?_; focus walk_at "num")))
abbrev s_law : Stmt := topS 55
abbrev N_law : List Str := ["_law_script", "_law_draws_here", "_law_place", "_law_many", "_law_row", "_law_letters_here", "_law_k", "_law_marks", "_law_times", "_law_found", "_law_number", "_law_odds", "_law_strangers", "_law_wrong_rows_here", "_law_wrong", "_law_name"]
abbrev P_law : List Str := ["_law_script"]
theorem sc_law : FnScope N_law P_law (defScope s_law) := ⟨rfl, rfl, rfl, by decide +kernel, rfl, by decide +kernel, by decide +kernel⟩
section
variable {P : Program} {w : World} {K : PySem.W.Frag} {mg : Str → Option Value} {base : Heap} {f C CL CM CC CH : Addr} {fd : FuncData}
def spBase : Sp := fun vs H Q _ => ∃ (l t : List Nat), vs = [.str (S l), .str (S t)] ∧ l.Nodup ∧ l ≠ [] ∧ l.length ≤ 10 ∧ (∀ c ∈ l, c ∈ MKL) ∧ t.length ≤ 1000 ∧ okN l t = false ∧ ∀ H', Same H H' → Q (.bl true) H'
theorem ok_base (F : FnP K "_law_base" s_base f fd) (m_isinstance : mg "isinstance" = none) (m_ValueError : mg "ValueError" = none) (g_HouseError : mg "HouseError" = some (.ref CH)) (g_BadMark : mg "BadMark" = some (.ref CM)) (g_BadLetters : mg "BadLetters" = some (.ref CL)) (te : PySem.W.exmOne K (.ref CM) (.ref CH) = some true) (ec : ExcC K CM) (k1 : PySem.W.kitOne K (.ref CM) (.ref CM) = some true) (k2 : PySem.W.kitOne K (.ref CM) (.type "ValueError") = some true) (k3 : PySem.W.kitOne K (.ref CM) (.ref CL) = some false) (c_never : CalX P w K mg base 6 "never" (spNev C CL CM CC K)) : FnOk P w K mg base CX0 7 f fd P_base spBase := by
  refine F.ok sc_base (fun vs H Q E h => ?_) (fun cdv A outer s H vs Q E hr h => ?_)
  · obtain ⟨l, t, rfl, _⟩ := h
    rfl
  · obtain ⟨l, t, rfl, nd, ne, ll, hM, lt, ht, q⟩ := h
    refine ⟨_, PSs.nox (pss_cons (L2N.ps_try_as (i := 2) rfl rfl sc_base.nd rfl rfl ⟨rfl, rfl, .inl g_HouseError⟩ takes0N (fun W pn xe tk po => (pss_one (ps_expr (pe_clE c_never (fun σ => L2N.passAt tk σ) hr (by decide) (by rfl) (pa_cons (pv 0) (pa_cons (pv 1) pa_nil))))))
      (fun ex oe cls d pn hzn hf => (pss_one (ps_ret (pe_and (pe_callB (call_isX hzn.zc hf) (by rfl) m_isinstance (by decide +kernel) (pa_cons (pv 2) (pa_cons (pe_glob (by rfl) g_BadMark relv_ref) pa_nil))) (pe_and (pe_callB (call_isX hzn.zc hf) (by rfl) m_isinstance (by decide +kernel) (pa_cons (pv 2) (pa_cons (pe_bltn (v := .ty "ValueError") (by rfl) m_ValueError (by decide +kernel) rfl) pa_nil))) (pe_one (pe_not (pe_callB (call_isX hzn.zc hf) (by rfl) m_isinstance (by decide +kernel) (pa_cons (pv 2) (pa_cons (pe_glob (by rfl) g_BadLetters relv_ref) pa_nil)))))))))))
      (pss_one (ps_ret pe_bl))), ?_⟩
    walk_at "go"
    have er : erO 0 l t [] 0 = some (.M t) := er_first nd ne hM ht
    refine ⟨fun e1 => (by rw [er] at e1; cases e1), fun e he H' d s1 nd => ?_⟩
    rw [er] at he
    cases he
    have s2 := s1.trans (same_new (o := .xd [("mark", .str (S t))]) nd)
    refine ⟨true, te, fun _ a na => ?_, (fun z => by cases z)⟩
    walk_at "go"
    refine ⟨CM, d, _, .ref CM, .ref CM, true, rfl, rfl, ec, upd_same, rfl, (fun u z => by cases z; rfl), k1, ?_⟩
    walk_at "go"
    refine ⟨CM, d, _, .ty "ValueError", .type "ValueError", true, rfl, rfl, ec, upd_same, rfl, (fun u z => by cases z; rfl), k2, ?_⟩
    walk_at "go"
    refine ⟨CM, d, _, .ref CL, .ref CL, false, rfl, rfl, ec, upd_same, rfl, (fun u z => by cases z; rfl), k3, ?_⟩
    walk_at "go"
    exact q _ s2
def spLaw (K : PySem.W.Frag) : Sp := fun vs H Q _ => ∃ (a : Addr) (ns : List Int), vs = [.ref a] ∧ SqL K H a (ns.map V.int) ∧ ∀ H', Q (.bl true) H'
theorem ok_law (F : FnP K "law" s_law f fd) (m_int : mg "int" = none) (m_range : mg "range" = none) (c_cell : Cal P w K mg base 1 "_law_cell" (spCell K)) (c_draws : Cal P w K mg base 1 "_law_draws" spDraws) (c_take : Cal P w K mg base 1 "_law_take" (spTake K)) (c_letters : Cal P w K mg base 2 "_law_letters" (spLet K)) (c_texts : Cal P w K mg base 2 "_law_texts" (spTexts K)) (c_long : Cal P w K mg base 2 "_law_long" (spLg K)) (c_odd : Cal P w K mg base 1 "_law_odd" spOdd) (c_wrong_rows : Cal P w K mg base 1 "_law_wrong_rows" (spWr K)) (c_right : Cal P w K mg base 8 "_law_right" (spRight K)) (c_refuses : Cal P w K mg base 9 "_law_refuses" (spRefs K)) (c_base : Cal P w K mg base 7 "_law_base" spBase) : FnOk P w K mg base CX0 10 f fd P_law (spLaw K) := by
  refine F.ok sc_law (fun vs H Q E h => ?_) (fun cdv A outer s H vs Q E hr h => ?_)
  · obtain ⟨a, ns, rfl, _⟩ := h
    rfl
  · obtain ⟨a, ns, rfl, hS, q⟩ := h
    refine ⟨_, PSs.nox (pss_cons (ps_set (i := 1) sc_law.nd rfl (by first | exact .inl rfl | exact .inr rfl) (pe_cl c_draws hr (by decide) (by rfl) (pa_cons (pe_cl c_cell hr (by decide) (by rfl) (pa_cons (pv 0) (pa_cons pe_int pa_nil))) (pa_cons pe_int pa_nil))))
      (pss_cons (ps_set (i := 2) sc_law.nd rfl (by first | exact .inl rfl | exact .inr rfl) (pe_lst (pa_cons pe_int pa_nil)))
      (pss_cons (ps_set (i := 3) sc_law.nd rfl (by first | exact .inl rfl | exact .inr rfl) (pe_op op_add pe_int (pe_op op_mod (pe_callTy call_int1 (by rfl) m_int (by decide +kernel) (pa_cons (pe_op op_add (pe_cl c_cell hr (by decide) (by rfl) (pa_cons (pv 0) (pa_cons pe_int pa_nil))) pe_int) pa_nil)) pe_int)))
      (pss_cons (ps_set (i := 4) sc_law.nd rfl (by first | exact .inl rfl | exact .inr rfl) (pe_cl c_letters hr (by decide) (by rfl) (pa_cons (pv 1) (pa_cons (pv 2) (pa_cons (pe_op op_add (pv 3) pe_int) pa_nil)))))
      (pss_cons (ps_set (i := 5) sc_law.nd rfl (by first | exact .inl rfl | exact .inr rfl) (pe_slice C8.sl_txt (pv 4) po_none (po_some (pv 3))))
      (pss_cons (ps_setLc (i := 7) (own := [("_law_k", 6)]) (g := (gName 6)) (tt := tYes) (by rfl) sc_law.nd rfl rfl (sw_true rfl rfl rfl (by decide +kernel)) (pi_range1 (by rfl) m_range (pa_cons pe_int pa_nil)) (blkOk_by (own := [("_law_k", 6)]) (N := N_law) (sc := defScope s_law) (by decide +kernel)) (fun _ _ _ _ _ => (pg_name (i := 6) sc_law.nd rfl (by first | exact .inl rfl | exact .inr rfl))) (fun _ _ _ _ _ => pts_nil) (fun _ _ _ _ _ => (pe_ix ix_str (pv 5) (pe_op op_mod (pe_callTy call_int1 (by rfl) m_int (by decide +kernel) (pa_cons (pe_cl c_take hr (by decide) (by rfl) (pa_cons (pv 1) (pa_cons (pv 2) pa_nil))) pa_nil)) (pv 3)) (fun _ _ => rfl))))
      (pss_cons (ps_set (i := 8) sc_law.nd rfl (by first | exact .inl rfl | exact .inr rfl) (pe_op op_mod (pe_callTy call_int1 (by rfl) m_int (by decide +kernel) (pa_cons (pe_cl c_take hr (by decide) (by rfl) (pa_cons (pv 1) (pa_cons (pv 2) pa_nil))) pa_nil)) pe_int))
      (pss_cons (ps_set (i := 9) sc_law.nd rfl (by first | exact .inl rfl | exact .inr rfl) (pe_op op_cat (pe_cl c_texts hr (by decide) (by rfl) (pa_cons (pv 5) (pa_cons pe_int pa_nil))) (pe_lst (pa_cons (pe_cl c_long hr (by decide) (by rfl) (pa_cons (pe_cl c_cell hr (by decide) (by rfl) (pa_cons (pv 0) (pa_cons pe_int pa_nil))) (pa_cons (pv 5) pa_nil))) (pa_cons (pe_cl c_long hr (by decide) (by rfl) (pa_cons (pe_cl c_cell hr (by decide) (by rfl) (pa_cons (pv 0) (pa_cons pe_int pa_nil))) (pa_cons (pv 5) pa_nil))) pa_nil)))))
      (pss_cons (ps_set (i := 9) sc_law.nd rfl (by first | exact .inl rfl | exact .inr rfl) (pe_op op_cat (pv 9) (pe_lst (pa_cons (pe_op op_repS (pe_ix ix_list (pv 7) pe_int (fun _ _ => rfl)) (pv 8)) (pa_cons (pe_op op_repS (pe_ix ix_list (pv 7) pe_int (fun _ _ => rfl)) (pe_op op_add (pv 8) pe_int)) (pa_cons (pe_op op_add_str (pe_op op_repS (pe_op op_add_str (pe_ix ix_list (pv 7) pe_int (fun _ _ => rfl)) (pe_ix ix_list (pv 7) pe_int (fun _ _ => rfl))) (pv 8)) (pe_ix ix_list (pv 7) pe_int (fun _ _ => rfl))) pa_nil))))))
      (pss_cons (ps_set (i := 10) sc_law.nd rfl (by first | exact .inl rfl | exact .inr rfl) (pe_cl c_take hr (by decide) (by rfl) (pa_cons (pv 1) (pa_cons (pv 2) pa_nil))))
      (pss_cons (ps_set (i := 11) sc_law.nd rfl (by first | exact .inl rfl | exact .inr rfl) (pe_lst (pa_cons (pe_cl c_odd hr (by decide) (by rfl) (pa_cons (pv 10) pa_nil)) (pa_cons (pe_cl c_odd hr (by decide) (by rfl) (pa_cons (pe_op op_add (pe_op op_add (pv 10) pe_int) (pe_op op_mod (pe_callTy call_int1 (by rfl) m_int (by decide +kernel) (pa_cons (pe_cl c_take hr (by decide) (by rfl) (pa_cons (pv 1) (pa_cons (pv 2) pa_nil))) pa_nil)) pe_int)) pa_nil)) pa_nil))))
      (pss_cons (ps_set (i := 12) sc_law.nd rfl (by first | exact .inl rfl | exact .inr rfl) (pe_lst (pa_cons (pe_ix ix_str (pv 4) (pv 3) (fun _ _ => rfl)) (pa_cons (pe_ix ix_list (pv 11) pe_int (fun _ _ => rfl)) (pa_cons pe_str (pa_cons (pe_slice C8.sl_txt (pv 4) po_none (po_some pe_int)) (pa_cons (pe_op op_add_str (pv 5) (pv 5)) pa_nil)))))))
      (pss_cons (ps_set (i := 13) sc_law.nd rfl (by first | exact .inl rfl | exact .inr rfl) (pe_cl c_wrong_rows hr (by decide) (by rfl) (pa_cons (pv 5) (pa_cons (pv 11) (pa_cons (pe_cl c_take hr (by decide) (by rfl) (pa_cons (pv 1) (pa_cons (pv 2) pa_nil))) pa_nil)))))
      (pss_cons (ps_set (i := 14) sc_law.nd rfl (by first | exact .inl rfl | exact .inr rfl) (pe_un un_neg pe_int))
      (pss_cut (ps_if (pt_cmpR op_eq (pe_op op_mod (pe_callTy call_int1 (by rfl) m_int (by decide +kernel) (pa_cons (pv 10) pa_nil)) pe_int) pe_int (nomark _)) (pss_one (ps_set (i := 14) sc_law.nd rfl (by first | exact .inl rfl | exact .inr rfl) pe_int)) pss_nil)
      (pss_cut (ps_if (pt_cmpR op_eq (pe_op op_mod (pe_callTy call_int1 (by rfl) m_int (by decide +kernel) (pa_cons (pv 10) pa_nil)) pe_int) pe_int (nomark _)) (pss_one (ps_set (i := 14) sc_law.nd rfl (by first | exact .inl rfl | exact .inr rfl) (pe_op op_add pe_int (pe_cl c_take hr (by decide) (by rfl) (pa_cons (pv 1) (pa_cons (pv 2) pa_nil)))))) pss_nil)
      (pss_cut (ps_if (pt_cmpR op_eq (pe_op op_mod (pe_callTy call_int1 (by rfl) m_int (by decide +kernel) (pa_cons (pv 10) pa_nil)) pe_int) pe_int (nomark _)) (pss_one (ps_set (i := 14) sc_law.nd rfl (by first | exact .inl rfl | exact .inr rfl) (pe_op op_sub (pe_un un_neg pe_int) (pe_cl c_take hr (by decide) (by rfl) (pa_cons (pv 1) (pa_cons (pv 2) pa_nil)))))) pss_nil)
      (pss_cons (ps_for PassesOwn.never rfl (pi_list (pe_lst (pa_cons pe_str (pa_cons pe_str (pa_cons pe_str (pa_cons pe_str pa_nil)))))) (pg_name (i := 15) sc_law.nd rfl (by first | exact .inl rfl | exact .inr rfl))
        (pss_cons (ps_if (pt_not (pt_val (pe_cl c_right hr (by decide) (by rfl) (pa_cons (pv 15) (pa_cons (pv 5) (pa_cons (pe_ix ix_list (pv 7) pe_int (fun _ _ => rfl)) (pa_cons (pe_ix ix_list (pv 7) pe_int (fun _ _ => rfl)) (pa_cons (pv 8) (pa_cons (pv 9) pa_nil))))))))) (pss_one (ps_ret pe_bl)) pss_nil)
      (pss_one (ps_if (pt_not (pt_val (pe_cl c_refuses hr (by decide) (by rfl) (pa_cons (pv 15) (pa_cons (pv 5) (pa_cons (pv 7) (pa_cons (pv 8) (pa_cons (pv 13) (pa_cons (pv 12) (pa_cons (pv 14) pa_nil)))))))))) (pss_one (ps_ret pe_bl)) pss_nil))))
      (pss_one (ps_ret (pe_cl c_base hr (by decide) (by rfl) (pa_cons (pv 5) (pa_cons (pe_ix ix_str (pv 4) (pv 3) (fun _ _ => rfl)) pa_nil))))))))))))))))))))))), ?_⟩
    walk_at "go"
    refine ⟨a, ns, 1, rfl, hS, ?_⟩
    walk_at "go"
    intro d ds nd0 hd
    have s1 := same_new (o := .lst (ds.map V.int)) nd0
    have ed : (upd H d (.lst (ds.map V.int))) d = some (.lst (ds.map V.int)) := upd_same
    generalize upd H d (.lst (ds.map V.int)) = H1 at s1 ed
    walk_at "go"
    intro p np
    generalize eH_ : upd H1 p _ = H2
    have s2 : Same H1 H2 := by rw [← eH_]; exact same_new np
    have ep : H2 p = some (.lst [.int 0]) := by rw [← eH_]; exact upd_same
    clear eH_
    have np_ := np
    have hT0 : Tk K d p ds 20 H2 H2 := ⟨s2 _ _ ed, hd, ne_of_none ed np_, Z.Same.sb (Same.refl _), 0, ep⟩
    walk_at "go"
    refine ⟨a, ns, 0, rfl, (s1.trans s2).seq hS, ?_⟩
    walk_at "go"
    obtain ⟨m, em, m0, m6⟩ : ∃ m : Nat, 1 + (ns.getD 0 0 + 1) % 6 = (m : Int) ∧ 0 < m ∧ m ≤ 6 := ⟨(1 + (ns.getD 0 0 + 1) % 6).toNat, by omega, by omega, by omega⟩
    rw [show L2.start N_law [V.ref a] = some (.ref a) :: List.replicate 15 none from rfl]
    dsimp only [List.replicate, List.set]
    rw [em]
    walk_at "go"
    refine ⟨d, p, 20, m + 1, ds, rfl, hT0, by omega, fun rw_ H3 hT1 nd lr hM => ?_⟩
    have nd0H := nd0
    have npH := none_of s1 np_
    have lift : ∀ {J : Hp}, Tk K d p ds 20 H2 J → Same H J := fun {J} hT c u e => hT.sb c u (fun z => by rw [z, npH] at e; cases e) ((s1.trans s2) _ _ e)
    obtain ⟨l, el⟩ : ∃ l, l = rw_.take m := ⟨_, rfl⟩
    have ll : l.length = m := by rw [el, List.length_take, lr]; omega
    have ndl : l.Nodup := by rw [el]; exact nd.sublist (List.take_sublist _ _)
    have nel : l ≠ [] := fun z => by rw [z] at ll; simp at ll; omega
    have hMl : ∀ c ∈ l, c ∈ MKL := fun c hc => hM c (by rw [el] at hc; exact List.mem_of_mem_take hc)
    obtain ⟨cx, ecx⟩ : ∃ cx, rw_[m]? = some cx := ⟨_, List.getElem?_eq_getElem (by omega)⟩
    have hcx : cx ∉ l := fun h => by
      rw [el] at h
      obtain ⟨j, hj, e⟩ := List.getElem_of_mem h
      rw [List.length_take] at hj
      rw [List.getElem_take] at e
      have h2 := List.getElem?_eq_getElem (show j < rw_.length by omega)
      rw [e] at h2
      have := nd_inj nd h2 ecx
      omega
    walk_at "go"
    refine ⟨by rw [S_len]; exact szl (by omega), ?_⟩
    rw [SX.slice_to (by omega), Int.toNat_natCast, ← el]
    walk_at "go"
    intro D nD
    have Dp : p ≠ D := fun e => by obtain ⟨m, em⟩ := hT1.pl; rw [e, nD] at em; cases em
    have aD : d ≠ D := fun e => by have := hT1.hA; rw [e, nD] at this; cases this
    refine lc_gen (n := 2) (fun i J => Tk K d p ds 20 H2 J ∧ ∃ r : List Nat, J D = some (.lst (r.map fun c => V.str (S [c]))) ∧ r.length = i ∧ ∀ c ∈ r, c ∈ l) ⟨hT1.more (same_new nD), [], upd_same, rfl, fun c h => absurd h List.not_mem_nil⟩ ?_ ?_ ?_ ?_
    · intro i J hi _
      show i < (2 : Int).toNat
      omega
    · intro J _
      show (2 : Int).toNat ≤ 2
      decide
    · rintro i J x J2 hi ⟨hT5, r', eD, lr', hent⟩ ⟨rfl, rfl⟩
      obtain ⟨m5, em5⟩ := hT5.pl
      walk_at "go"
      refine ⟨d, p, 20, m5, ds, rfl, SqL.of hT5.hA, hT5.hd, em5, hT5.ne, fun r2 r20 r21 => ?_⟩
      obtain ⟨hT6, sb6⟩ := hT5.next em5
      have eD6 := sb6 _ _ Dp.symm eD
      generalize upd J2 p (.lst [.int ((m5 + 1 : Nat) : Int)]) = J4 at hT6 eD6
      obtain ⟨c, ec, hc⟩ := modN r2 m0
      walk_at "go"
      refine ⟨S l, r2 % (m : Int), l[c]'(by omega), rfl, rfl, by rw [S_len]; exact szl (by omega), by rw [ec]; exact atI_nat (xs := (S l).cps.toList) (show l[c]? = some (l[c]'(by omega)) from List.getElem?_eq_getElem (by omega)), ?_⟩
      refine ⟨_, eD6, by rw [List.length_map]; exact szlt (by omega), hT6.at_ (hT1.nn nD) Dp aD, r' ++ [l[c]'(by omega)], by rw [upd_same, List.map_append]; rfl, by rw [List.length_append, lr']; rfl, fun z hz => ?_⟩
      rcases List.mem_append.mp hz with h | h
      · exact hent z h
      · rw [List.mem_singleton.mp h]
        exact List.getElem_mem _
    rintro J2 ⟨hT2, r', eD, lr', hent⟩
    match r', lr' with
    | [m1, m2], _ =>
    have h1 : m1 ∈ l := hent m1 List.mem_cons_self
    have h2 : m2 ∈ l := hent m2 (List.mem_cons_of_mem _ List.mem_cons_self)
    have sD := hT1.nn nD
    clear hent hT1 hT0 nd0 lr'
    obtain ⟨m5, em5⟩ := hT2.pl
    dsimp only [List.set]
    walk_at "go"
    refine ⟨d, p, 20, m5, ds, rfl, SqL.of hT2.hA, hT2.hd, em5, hT2.ne, fun r2 r20 r21 => ?_⟩
    obtain ⟨hT3, sb3⟩ := hT2.next em5
    have eD3 := sb3 _ _ Dp.symm eD
    generalize upd J2 p (.lst [.int ((m5 + 1 : Nat) : Int)]) = J3 at hT3 eD3
    obtain ⟨tm, etm, htm⟩ := modN r2 (n := 10) (by decide)
    walk_at "go"
    dsimp only [List.set]
    rw [show r2 % 10 = (tm : Int) from etm]
    have pw3 : l.length ^ 3 ≤ 6 ^ 3 := Nat.pow_le_pow_left (by omega) 3
    walk_at "go"
    intro L J4 s4 nL eL
    have hT4 := hT3.more s4
    walk_at "go"
    refine ⟨a, ns, 2, rfl, (lift hT4).seq hS, ?_⟩
    walk_at "go"
    intro g1 J5 s5 lg1 hg1
    walk_at "go"
    refine ⟨a, ns, 3, rfl, ((lift hT4).trans s5).seq hS, ?_⟩
    walk_at "go"
    intro g2 J6 s6 lg2 hg2
    walk_at "go"
    intro M0_ nM0_
    generalize eH_ : upd J6 M0_ _ = J7
    have s7 : Same J6 J7 := by rw [← eH_]; exact same_new nM0_
    have eM0_ : J7 M0_ = some (.lst (txs [g1, g2])) := by rw [← eH_]; exact upd_same
    clear eH_
    have hT7 := ((hT4.more s5).more s6).more s7
    have eL7 := s7 _ _ (s6 _ _ (s5 _ _ eL))
    have eD7 := s7 _ _ (s6 _ _ (s5 _ _ (s4 _ _ eD3)))
    have lsh := sht_len (l := l) (by omega) 3
    have lsh2 : (sht l 3).length ≤ 1000 := by omega
    have hsh := sht_mem l 3
    refine ⟨L, M0_, _, _, rfl, rfl, eL7, eM0_, by unfold txs; rw [List.length_map, List.length_map]; exact szl (by show (sht l 3).length + 2 ≤ 2000; omega), ?_⟩
    intro L3 nL3
    have s8 := same_new (o := .lst (txs (sht l 3) ++ txs [g1, g2])) nL3
    have eL3 : (upd J7 L3 (.lst (txs (sht l 3) ++ txs [g1, g2]))) L3 = some (.lst (txs (sht l 3 ++ [g1, g2]))) := by rw [upd_same]; unfold txs; rw [List.map_append]
    have hT8 := hT7.more s8
    have eD8 := s8 _ _ eD7
    generalize upd J7 L3 (.lst (txs (sht l 3) ++ txs [g1, g2])) = J8 at s8 eL3 hT8 eD8
    clear s4 s5 s6 s7 s8 eL eM0_ eL7 eD3 eD7 hT7 hT4 hT3 nL nM0_ nL3 eD sb3
    have rep : ∀ (n : Nat) (u : List Nat), (∀ c ∈ u, c ∈ l) → u.length ≤ 2 → n ≤ 10 → (List.replicate n u).flatten.length ≤ 20 ∧ ∀ c ∈ (List.replicate n u).flatten, c ∈ l := fun n u hu lu hn => by
      constructor
      · rw [List.length_flatten, List.map_replicate, List.sum_replicate_nat]
        have := Nat.mul_le_mul hn lu
        omega
      · intro c hc
        obtain ⟨x, hx, hc⟩ := List.mem_flatten.mp hc
        rw [(List.mem_replicate.mp hx).2] at hc
        exact hu c hc
    have hm1 : ∀ c ∈ [m1], c ∈ l := fun c hc => by rw [List.mem_singleton.mp hc]; exact h1
    have hm2 : ∀ c ∈ [m2] ++ [m1], c ∈ l := fun c hc => by
      rcases List.mem_append.mp hc with h | h
      · rw [List.mem_singleton.mp h]; exact h2
      · exact hm1 c h
    obtain ⟨ra, ra'⟩ := rep tm [m1] hm1 (show 1 ≤ 2 by decide) (by omega)
    obtain ⟨rb, rb'⟩ := rep (tm + 1) [m1] hm1 (show 1 ≤ 2 by decide) (by omega)
    obtain ⟨rc, rc'⟩ := rep tm ([m2] ++ [m1]) hm2 (show 2 ≤ 2 by decide) (by omega)
    have e1 : ((tm : Int) + 1).toNat = tm + 1 := by omega
    walk_at "go"
    refine ⟨D, _, 0, .str (S [m1]), rfl, rfl, SqL.of eD8, at_0, ?_⟩
    walk_at "go"
    refine ⟨(show 1 ≤ 10 by decide), ?_⟩
    rw [Int.toNat_natCast]
    generalize (List.replicate tm [m1]).flatten = w1 at ra ra'
    walk_at "go"
    refine ⟨D, _, 0, .str (S [m1]), rfl, rfl, SqL.of eD8, at_0, ?_⟩
    walk_at "go"
    refine ⟨(show 1 ≤ 10 by decide), ?_⟩
    rw [e1]
    generalize (List.replicate (tm + 1) [m1]).flatten = w2 at rb rb'
    walk_at "go"
    refine ⟨D, _, 1, .str (S [m2]), rfl, rfl, SqL.of eD8, at_1, ?_⟩
    walk_at "go"
    refine ⟨D, _, 0, .str (S [m1]), rfl, rfl, SqL.of eD8, at_0, ?_⟩
    have lm : (S [m2]).length + (S [m1]).length ≤ sizeLine := by rw [S_len, S_len]; exact szl (by show 1 + 1 ≤ 2000; decide)
    refine ⟨S [m2], S [m1], rfl, rfl, lm, ?_⟩
    rw [S_cat]
    walk_at "go"
    refine ⟨(show 2 ≤ 10 by decide), ?_⟩
    rw [Int.toNat_natCast]
    generalize (List.replicate tm ([m2] ++ [m1])).flatten = w3 at rc rc'
    walk_at "go"
    refine ⟨D, _, 1, .str (S [m2]), rfl, rfl, SqL.of eD8, at_1, ?_⟩
    refine ⟨S w3, S [m2], rfl, rfl, by rw [S_len, S_len]; exact szl (by show w3.length + 1 ≤ 2000; omega), ?_⟩
    rw [S_cat]
    walk_at "go"
    intro M2 nM2
    generalize eH_ : upd J8 M2 _ = J9
    have s9 : Same J8 J9 := by rw [← eH_]; exact same_new nM2
    have eM2 : J9 M2 = some (.lst (txs [w1, w2, w3 ++ [m2]])) := by rw [← eH_]; exact upd_same
    clear eH_
    have eL9 := s9 _ _ eL3
    refine ⟨L3, M2, _, _, rfl, rfl, eL9, eM2, by unfold txs; rw [List.length_map, List.length_map, List.length_append]; exact szl (by show (sht l 3).length + 2 + 3 ≤ 2000; omega), ?_⟩
    intro L4 nL4
    obtain ⟨ts, ets⟩ : ∃ ts, ts = sht l 3 ++ [g1, g2] ++ [w1, w2, w3 ++ [m2]] := ⟨_, rfl⟩
    have hts : ∀ tx ∈ ts, tx.length ≤ 1000 ∧ ∀ c ∈ tx, c ∈ l := fun tx h => by
      rw [ets] at h
      rcases List.mem_append.mp h with h | h
      · rcases List.mem_append.mp h with h | h
        · exact ⟨by have := (hsh tx h).1; omega, (hsh tx h).2⟩
        · rcases List.mem_cons.mp h with h | h
          · rw [h]; exact ⟨by omega, hg1⟩
          · rw [List.mem_singleton.mp h]; exact ⟨by omega, hg2⟩
      · rcases List.mem_cons.mp h with h | h
        · rw [h]; exact ⟨by omega, ra'⟩
        rcases List.mem_cons.mp h with h | h
        · rw [h]; exact ⟨by omega, rb'⟩
        rw [List.mem_singleton.mp h]
        refine ⟨by rw [List.length_append]; show w3.length + 1 ≤ 1000; omega, fun c hc => ?_⟩
        rcases List.mem_append.mp hc with h | h
        · exact rc' c h
        · rw [List.mem_singleton.mp h]; exact h2
    have s10 := same_new (o := .lst (txs (sht l 3 ++ [g1, g2]) ++ txs [w1, w2, w3 ++ [m2]])) nL4
    have eL4 : (upd J9 L4 (.lst (txs (sht l 3 ++ [g1, g2]) ++ txs [w1, w2, w3 ++ [m2]]))) L4 = some (.lst (txs ts)) := by rw [upd_same, ets]; unfold txs; simp only [List.map_append]
    have hT10 := (hT8.more s9).more s10
    have eD10 := s10 _ _ (s9 _ _ eD8)
    generalize upd J9 L4 (.lst (txs (sht l 3 ++ [g1, g2]) ++ txs [w1, w2, w3 ++ [m2]])) = J10 at s10 eL4 hT10 eD10
    clear ets ra ra' rb rb' rc rc' rep hm1 hm2 hg1 hg2 hsh lsh lsh2 s9 s10 eM2 eL9 eL3 hT8 nL4 nM2 eD8 e1 lm
    obtain ⟨m9, em9⟩ := hT10.pl
    dsimp only [List.set]
    walk_at "go"
    refine ⟨d, p, 20, m9, ds, rfl, SqL.of hT10.hA, hT10.hd, em9, hT10.ne, fun nu nu0 nu1 => ?_⟩
    obtain ⟨hT11, sb11⟩ := hT10.next em9
    have eD11 := sb11 _ _ Dp.symm eD10
    have eL11 := sb11 _ _ (fun e => by rw [e, em9] at eL4; cases ts with
      | nil => cases eL4
      | cons x ts => cases eL4) eL4
    generalize upd J10 p (.lst [.int ((m9 + 1 : Nat) : Int)]) = J11 at hT11 eD11 eL11 sb11
    walk_at "go"
    intro x0 hx0
    walk_at "go"
    obtain ⟨m11, em11⟩ := hT11.pl
    refine ⟨d, p, 20, m11, ds, rfl, SqL.of hT11.hA, hT11.hd, em11, hT11.ne, fun r3 r30 r31 => ?_⟩
    obtain ⟨hT12, sb12⟩ := hT11.next em11
    have eD12 := sb12 _ _ Dp.symm eD11
    have Lp : L4 ≠ p := fun e => by rw [e, em11] at eL11; cases ts with
      | nil => cases eL11
      | cons x ts => cases eL11
    have eL12 := sb12 _ _ Lp eL11
    generalize upd J11 p (.lst [.int ((m11 + 1 : Nat) : Int)]) = J12 at hT12 eD12 eL12 sb12
    walk_at "go"
    intro y0 hy0
    have hx : x0 ∈ ODC ∧ y0 ∈ ODC ∧ x0 ≠ y0 := by
      obtain ⟨i, hi⟩ : ∃ i, i = (nu % 66).toNat := ⟨_, rfl⟩
      obtain ⟨j, hj⟩ : ∃ j, j = ((nu + 1 + r3 % 50) % 66).toNat := ⟨_, rfl⟩
      have i6 : i < ODC.length := by rw [odc_len]; omega
      have j6 : j < ODC.length := by rw [odc_len]; omega
      rw [← hi, List.getD_eq_getElem?_getD, List.getElem?_eq_getElem i6] at hx0
      rw [show ((nu + 1 + r3 % 50) % 66).toNat = j from hj.symm, List.getD_eq_getElem?_getD, List.getElem?_eq_getElem j6] at hy0
      have hx0 : x0 = ODC[i] := hx0
      have hy0 : y0 = ODC[j] := hy0
      refine ⟨by rw [hx0]; exact List.getElem_mem _, by rw [hy0]; exact List.getElem_mem _, fun e => ?_⟩
      rw [hx0, hy0] at e
      have h1 := List.getElem?_eq_getElem i6
      have h2 := List.getElem?_eq_getElem j6
      rw [e] at h1
      have := nd_inj odc_nd h1 h2
      omega
    clear hx0 hy0
    obtain ⟨hx, hy, hxy⟩ := hx
    walk_at "go"
    intro O nO
    generalize eH_ : upd J12 O _ = J13
    have s13 : Same J12 J13 := by rw [← eH_]; exact same_new nO
    have eO : J13 O = some (.lst [.str (S [x0]), .str (S [y0])]) := by rw [← eH_]; exact upd_same
    clear eH_
    have eD13 := s13 _ _ eD12
    have eL13 := s13 _ _ eL12
    have hT13 := hT12.more s13
    dsimp only [List.set]
    walk_at "go"
    refine ⟨S rw_, (m : Int), cx, rfl, rfl, by rw [S_len]; exact szl (by omega), atI_nat (xs := (S rw_).cps.toList) (show rw_[m]? = some cx from ecx), ?_⟩
    walk_at "go"
    refine ⟨O, _, 0, .str (S [x0]), rfl, rfl, SqL.of eO, at_0, ?_⟩
    walk_at "go"
    refine ⟨by rw [S_len]; exact szl (by omega), ?_⟩
    rw [SX.slice_to (by decide), show (2 : Int).toNat = 2 from rfl]
    have lll : (S l).length + (S l).length ≤ sizeLine := by rw [S_len]; exact szl (by omega)
    walk_at "go"
    rw [S_cat]
    obtain ⟨sg, esg⟩ : ∃ sg : List (List Nat), sg = [[cx], [x0], [], rw_.take 2, l ++ l] := ⟨_, rfl⟩
    have cx9 : cx ∈ MKL := hM cx (List.mem_of_getElem? ecx)
    have l9 : ∀ c ∈ l, c < 1000 := fun c hc => mk1000 c (hMl c hc)
    have odc9 : ∀ c ∈ ODC, c < 1000 := by decide +kernel
    have hsg : ∀ tx ∈ sg, tx.length ≤ 1000 ∧ okN l tx = false ∧ ∀ c ∈ tx, c < 1000 := fun tx h => by
      rw [esg] at h
      have one : ∀ c, c ∉ l → okN l [c] = false := fun c hc => by
        unfold okN
        rw [List.all_cons, decide_eq_false hc]
        rfl
      have len : ∀ t : List Nat, t.length ≠ 1 → okN l t = false := fun t ht => by
        unfold okN
        rw [decide_eq_false ht]
        rfl
      rcases List.mem_cons.mp h with h | h
      · rw [h]; exact ⟨(show 1 ≤ 1000 by decide), one cx hcx, fun c hc => by rw [List.mem_singleton.mp hc]; exact mk1000 cx cx9⟩
      rcases List.mem_cons.mp h with h | h
      · rw [h]; exact ⟨(show 1 ≤ 1000 by decide), one x0 (fun z => odc_no x0 hx (hMl x0 z)), fun c hc => by rw [List.mem_singleton.mp hc]; exact odc9 x0 hx⟩
      rcases List.mem_cons.mp h with h | h
      · rw [h]; exact ⟨(show 0 ≤ 1000 by decide), len [] (show 0 ≠ 1 by decide), fun c hc => absurd hc List.not_mem_nil⟩
      rcases List.mem_cons.mp h with h | h
      · rw [h]; exact ⟨by rw [List.length_take]; omega, len _ (by rw [List.length_take]; omega), fun c hc => mk1000 c (hM c (List.mem_of_mem_take hc))⟩
      rw [List.mem_singleton.mp h]
      exact ⟨by rw [List.length_append]; omega, len _ (by rw [List.length_append]; omega), fun c hc => by rcases List.mem_append.mp hc with h | h <;> exact l9 c h⟩
    intro G nG
    generalize eH_ : upd J13 G _ = J14
    have s14 : Same J13 J14 := by rw [← eH_]; exact same_new nG
    have eG : J14 G = some (.lst (txs [[cx], [x0], [], rw_.take 2, l ++ l])) := by rw [← eH_]; exact upd_same
    clear eH_
    rw [← esg] at eG
    have sg0 : sg[0]? = some [cx] := by rw [esg]; rfl
    have sg1 : sg[1]? = some [x0] := by rw [esg]; rfl
    have eD14 := s14 _ _ eD13
    have eL14 := s14 _ _ eL13
    have eO14 := s14 _ _ eO
    have hT14 := hT13.more s14
    clear esg eD13 eL13 eO hT13 s13 s14 lll hT12 eD12 eL12 eD11 eL11 hT11 em11 em9 hT10 nO nG
    obtain ⟨m14, em14⟩ := hT14.pl
    dsimp only [List.set]
    walk_at "go"
    refine ⟨d, p, 20, m14, ds, rfl, SqL.of hT14.hA, hT14.hd, em14, hT14.ne, fun r5 r50 r51 => ?_⟩
    obtain ⟨hT15, sb15⟩ := hT14.next em14
    have ne_p : ∀ {c : Addr} {xs : List V}, J14 c = some (.lst xs) → (∀ i : Nat, xs ≠ [.int (i : Int)]) → c ≠ p := fun h hn e => by
      rw [e, em14] at h
      injection h with h
      injection h with h
      exact hn _ h.symm
    have eD15 := sb15 _ _ Dp.symm eD14
    have eO15 := sb15 _ _ (ne_p eO14 (fun i z => by cases z)) eO14
    have eG15 := sb15 _ _ (ne_p eG (fun i z => by
      unfold txs at z
      cases sg with
      | nil => cases z
      | cons x sg => cases z)) eG
    have eL15 := sb15 _ _ (ne_p eL14 (fun i z => by
      unfold txs at z
      cases ts with
      | nil => cases z
      | cons x ts => cases z)) eL14
    generalize upd J14 p (.lst [.int ((m14 + 1 : Nat) : Int)]) = J15 at hT15 eD15 eO15 eG15 eL15 sb15
    clear eD14 eO14 eG eL14 sb15 em14 ne_p hT14
    walk_at "go"
    refine ⟨l, O, x0, y0, r5, rfl, ndl, nel, by omega, hMl, SqL.of eO15, hxy, odc_no x0 hx, odc_no y0 hy, odc9 x0 hx, odc9 y0 hy, fun A zs J16 s16 hW => ?_⟩
    have hT16 := hT15.more s16
    have eD16 := s16 _ _ eD15
    have eG16 := s16 _ _ eG15
    have eL16 := s16 _ _ eL15
    clear eD15 eO15 eG15 eL15 s16 hT15
    dsimp only [List.set]
    walk_at "go"
    refine ⟨fun σ' J => Tk K d p ds 20 H2 J ∧ SB p J16 J ∧ ∃ wr : Int, (wr < 0 ∨ 9 < wr) ∧ (nu % 4 = 2 ∨ nu % 4 = 3 ∨ True) ∧ σ' = [some (.ref a), some (.ref d), some (.ref p), some (.int (m : Int)), some (.str (S rw_)), some (.str (S l)), none, some (.ref D), some (.int (tm : Int)), some (.ref L4), some (.int nu), some (.ref O), some (.ref G), some (.ref A), some (.int wr), none], ?_, ?_⟩
    · walk_at "go"
      refine ite2 (fun _ => ?_) (fun _ => ?_)
      · walk_at "go"
        first | exact ⟨hT16, Z.Same.sb (Same.refl _), 10, by omega, .inr (.inr trivial), rfl⟩ | exact ⟨Z.Same.sb (Same.refl _), 10, by omega, .inr (.inr trivial), rfl⟩ | exact ⟨10, by omega, .inr (.inr trivial), rfl⟩
      · walk_at "go"
        first | exact ⟨hT16, Z.Same.sb (Same.refl _), -1, by omega, .inr (.inr trivial), rfl⟩ | exact ⟨Z.Same.sb (Same.refl _), -1, by omega, .inr (.inr trivial), rfl⟩ | exact ⟨-1, by omega, .inr (.inr trivial), rfl⟩
    rintro σ' J17 ⟨hT17, sb17, wr, hwr, _, rfl⟩
    refine ⟨fun σ' J => Tk K d p ds 20 H2 J ∧ SB p J16 J ∧ ∃ wr : Int, (wr < 0 ∨ 9 < wr) ∧ σ' = [some (.ref a), some (.ref d), some (.ref p), some (.int (m : Int)), some (.str (S rw_)), some (.str (S l)), none, some (.ref D), some (.int (tm : Int)), some (.ref L4), some (.int nu), some (.ref O), some (.ref G), some (.ref A), some (.int wr), none], ?_, ?_⟩
    · obtain ⟨m17, em17⟩ := hT17.pl
      walk_at "go"
      refine ite2 (fun _ => ?_) (fun _ => ?_)
      · walk_at "go"
        refine ⟨d, p, 20, m17, ds, rfl, SqL.of hT17.hA, hT17.hd, em17, hT17.ne, fun r6 r60 r61 => ?_⟩
        obtain ⟨hT18, sb18⟩ := hT17.next em17
        walk_at "go"
        first | exact ⟨hT18, sb17.trans sb18, 10 + r6, by omega, rfl⟩ | exact ⟨sb17.trans sb18, 10 + r6, by omega, rfl⟩ | exact ⟨10 + r6, by omega, rfl⟩
      · walk_at "go"
        first | exact ⟨hT17, sb17, wr, by omega, rfl⟩ | exact ⟨sb17, wr, by omega, rfl⟩ | exact ⟨wr, by omega, rfl⟩
    clear hT17 sb17 hwr wr J17
    rintro σ' J17 ⟨hT17, sb17, wr, hwr, rfl⟩
    refine ⟨fun σ' J => Tk K d p ds 20 H2 J ∧ SB p J16 J ∧ ∃ wr : Int, (wr < 0 ∨ 9 < wr) ∧ σ' = [some (.ref a), some (.ref d), some (.ref p), some (.int (m : Int)), some (.str (S rw_)), some (.str (S l)), none, some (.ref D), some (.int (tm : Int)), some (.ref L4), some (.int nu), some (.ref O), some (.ref G), some (.ref A), some (.int wr), none], ?_, ?_⟩
    · obtain ⟨m17, em17⟩ := hT17.pl
      walk_at "go"
      refine ite2 (fun _ => ?_) (fun _ => ?_)
      · walk_at "go"
        refine ⟨d, p, 20, m17, ds, rfl, SqL.of hT17.hA, hT17.hd, em17, hT17.ne, fun r6 r60 r61 => ?_⟩
        obtain ⟨hT18, sb18⟩ := hT17.next em17
        walk_at "go"
        first | exact ⟨hT18, sb17.trans sb18, -1 - r6, by omega, rfl⟩ | exact ⟨sb17.trans sb18, -1 - r6, by omega, rfl⟩ | exact ⟨-1 - r6, by omega, rfl⟩
      · walk_at "go"
        first | exact ⟨hT17, sb17, wr, by omega, rfl⟩ | exact ⟨sb17, wr, by omega, rfl⟩ | exact ⟨wr, by omega, rfl⟩
    clear hT17 sb17 hwr wr J17
    rintro σ' J17 ⟨hT17, sb17, wr, hwr, rfl⟩
    obtain ⟨sH, hS17⟩ : Same H J17 ∧ SqL K J17 a (ns.map V.int) := ⟨lift hT17, (lift hT17).seq hS⟩
    have eD17 := sb17 _ _ Dp.symm eD16
    have notp : ∀ {c : Addr} {xs : List V}, J16 c = some (.lst xs) → (∀ i : Nat, xs ≠ [.int (i : Int)]) → c ≠ p := fun h hn e => by
      obtain ⟨mm, emm⟩ := hT16.pl
      rw [e, emm] at h
      injection h with h
      injection h with h
      exact hn _ h.symm
    have eG17 := sb17 _ _ (notp eG16 (fun i z => by
      unfold txs at z
      cases sg with
      | nil => cases z
      | cons x sg => cases z)) eG16
    have eL17 := sb17 _ _ (notp eL16 (fun i z => by
      unfold txs at z
      cases ts with
      | nil => cases z
      | cons x ts => cases z)) eL16
    have hW17 : RwAt J17 A zs := by
      obtain ⟨mm, emm⟩ := hT16.pl
      refine ⟨sb17 _ _ (notp hW.sq (fun i z => by
        cases zs with
        | nil => cases z
        | cons x zs => cases z)) hW.sq, fun z hz => ?_⟩
      obtain ⟨a1, a2, a3⟩ := hW.at_ z hz
      exact ⟨sb17 _ _ (fun e => by rw [e, emm] at a1; cases a1) a1, sb17 _ _ (fun e => by rw [e, emm] at a2; cases a2) a2, a3⟩
    clear eD16 eG16 eL16 hW sb17 notp hT16 hT17 lift
    walk_at "go"
    intro N nN
    generalize eH_ : upd J17 N _ = J18
    have s18 : Same J17 J18 := by rw [← eH_]; exact same_new nN
    have eN : J18 N = some (.lst ((List.range 4).map fun i => V.str (nmD i))) := by rw [← eH_]; exact upd_same
    clear eH_
    refine ⟨_, rfl, ⟨_, SqL.of eN⟩, ?_⟩
    refine for_gen (n := 4) (fun k σ J => Same J17 J ∧ SqL K J N ((List.range 4).map fun i => V.str (nmD i)) ∧ ∃ v15 : Option V, σ = [some (.ref a), some (.ref d), some (.ref p), some (.int (m : Int)), some (.str (S rw_)), some (.str (S l)), none, some (.ref D), some (.int (tm : Int)), some (.ref L4), some (.int nu), some (.ref O), some (.ref G), some (.ref A), some (.int wr), v15]) ⟨s18, SqL.of eN, none, rfl⟩ ?_ ?_ ?_ ?_
    · rintro k σ J hk ⟨s2, h4, _⟩
      exact ⟨_, _, h4, by rw [List.getElem?_map, List.getElem?_range hk]; rfl⟩
    · rintro σ J ⟨s2, h4, _⟩
      exact ⟨_, h4, by simp⟩
    · rintro k σ J x J' hk ⟨s2, h4, v15, rfl⟩ ⟨rfl, y⟩
      have y := y _ h4
      rw [List.getElem?_map, List.getElem?_range hk] at y
      cases y
      have hD := s2 _ _ eD17
      walk_at "go"
      refine ⟨D, _, 0, .str (S [m1]), rfl, rfl, SqL.of hD, at_0, ?_⟩
      walk_at "go"
      refine ⟨D, _, 1, .str (S [m2]), rfl, rfl, SqL.of hD, at_1, ?_⟩
      walk_at "go"
      refine ⟨k, m1, m2, tm, l, L4, ts, rfl, hk, ndl, nel, by omega, hMl, h1, h2, by omega, SqL.of (s2 _ _ eL17), hts, fun J9 s9 => ?_⟩
      have s29 := s2.trans s9
      have h49 := s9.seq h4
      walk_at "go"
      refine ⟨k, m1, m2, tm, l, D, A, G, wr, zs, sg, [cx], [x0], rfl, hk, ndl, nel, by omega, hMl, h1, h2, by omega, SqL.of (s9 _ _ hD), hW17.mono s29, SqL.of (s29 _ _ eG17), hsg, sg0, sg1, hwr, fun J10 s10 => ?_⟩
      have s2A := s29.trans s10
      have h4A := s10.seq h49
      walk_at "go"
      first | exact ⟨s2A, h4A, _, rfl⟩ | exact ⟨h4A, _, rfl⟩ | exact ⟨_, rfl⟩
    rintro σ J ⟨s2, h4, v15, rfl⟩
    walk_at "go"
    refine ⟨S rw_, (m : Int), cx, rfl, rfl, by rw [S_len]; exact szl (by omega), atI_nat (xs := (S rw_).cps.toList) (show rw_[m]? = some cx from ecx), ?_⟩
    refine ⟨l, [cx], rfl, ndl, nel, by omega, hMl, (show 1 ≤ 1000 by decide), (hsg [cx] (List.mem_of_getElem? sg0)).2.1, fun H' _ => q _⟩
end
end Z
set_option pp.maxSteps 700
set_option Elab.async false
set_option linter.all false
set_option maxRecDepth 100000
set_option maxHeartbeats 4000000
set_option maxHeartbeats 0
namespace Z
open PySem PySem.Spec PyProof.Rows L2 Mc
def d_check_letters : He.DefD := ⟨("check_letters", none), "check_letters", "check_letters", defArgs s_check_letters, defBody s_check_letters, defScope s_check_letters, [], []⟩
def d_check_rows : He.DefD := ⟨("check_rows", none), "check_rows", "check_rows", defArgs s_check_rows, defBody s_check_rows, defScope s_check_rows, [], []⟩
def d_flags_of : He.DefD := ⟨("flags_of", none), "flags_of", "flags_of", defArgs s_flags_of, defBody s_flags_of, defScope s_flags_of, [], []⟩
def d_live_rows : He.DefD := ⟨("live_rows", none), "live_rows", "live_rows", defArgs s_live_rows, defBody s_live_rows, defScope s_live_rows, [], []⟩
def d_state_classes : He.DefD := ⟨("state_classes", none), "state_classes", "state_classes", defArgs s_state_classes, defBody s_state_classes, defScope s_state_classes, [], []⟩
def d_normal_table : He.DefD := ⟨("normal_table", none), "normal_table", "normal_table", defArgs s_normal_table, defBody s_normal_table, defScope s_normal_table, [], []⟩
def d_is_mark : He.DefD := ⟨("is_mark", none), "is_mark", "is_mark", defArgs s_is_mark, defBody s_is_mark, defScope s_is_mark, [], []⟩
def d_check_mark : He.DefD := ⟨("check_mark", none), "check_mark", "check_mark", defArgs s_check_mark, defBody s_check_mark, defScope s_check_mark, [], []⟩
def d_check_marks : He.DefD := ⟨("check_marks", none), "check_marks", "check_marks", defArgs s_check_marks, defBody s_check_marks, defScope s_check_marks, [], []⟩
def d_check_names : He.DefD := ⟨("check_names", none), "check_names", "check_names", defArgs s_check_names, defBody s_check_names, defScope s_check_names, [], []⟩
def d_never : He.DefD := ⟨("never", none), "never", "never", defArgs s_never, defBody s_never, defScope s_never, [], []⟩
def d_only_after : He.DefD := ⟨("only_after", none), "only_after", "only_after", defArgs s_only_after, defBody s_only_after, defScope s_only_after, [], []⟩
def d_answered : He.DefD := ⟨("answered", none), "answered", "answered", defArgs s_answered, defBody s_answered, defScope s_answered, [], []⟩
def d_at_most : He.DefD := ⟨("at_most", none), "at_most", "at_most", defArgs s_at_most, defBody s_at_most, defScope s_at_most, [], []⟩
def d_Machine___init__ : He.DefD := ⟨("Machine", some "__init__"), "__init__", "Machine.__init__", defArgs s_Machine___init__, defBody s_Machine___init__, defScope s_Machine___init__, [.non], []⟩
def d_Machine___contains__ : He.DefD := ⟨("Machine", some "__contains__"), "__contains__", "Machine.__contains__", defArgs s_Machine___contains__, defBody s_Machine___contains__, defScope s_Machine___contains__, [], []⟩
def d_Machine___eq__ : He.DefD := ⟨("Machine", some "__eq__"), "__eq__", "Machine.__eq__", defArgs s_Machine___eq__, defBody s_Machine___eq__, defScope s_Machine___eq__, [], []⟩
def d_Machine_after : He.DefD := ⟨("Machine", some "after"), "after", "Machine.after", defArgs s_Machine_after, defBody s_Machine_after, defScope s_Machine_after, [], []⟩
def d_cell : He.DefD := ⟨("_law_cell", none), "_law_cell", "_law_cell", defArgs s_cell, defBody s_cell, defScope s_cell, [], []⟩
def d_draws : He.DefD := ⟨("_law_draws", none), "_law_draws", "_law_draws", defArgs s_draws, defBody s_draws, defScope s_draws, [], []⟩
def d_take : He.DefD := ⟨("_law_take", none), "_law_take", "_law_take", defArgs s_take, defBody s_take, defScope s_take, [], []⟩
def d_letters : He.DefD := ⟨("_law_letters", none), "_law_letters", "_law_letters", defArgs s_letters, defBody s_letters, defScope s_letters, [], []⟩
def d_texts : He.DefD := ⟨("_law_texts", none), "_law_texts", "_law_texts", defArgs s_texts, defBody s_texts, defScope s_texts, [], []⟩
def d_longer : He.DefD := ⟨("_law_longer", none), "_law_longer", "_law_longer", defArgs s_longer, defBody s_longer, defScope s_longer, [], []⟩
def d_odd : He.DefD := ⟨("_law_odd", none), "_law_odd", "_law_odd", defArgs s_odd, defBody s_odd, defScope s_odd, [], []⟩
def d_long : He.DefD := ⟨("_law_long", none), "_law_long", "_law_long", defArgs s_long, defBody s_long, defScope s_long, [], []⟩
def d_made : He.DefD := ⟨("_law_made", none), "_law_made", "_law_made", defArgs s_made, defBody s_made, defScope s_made, [], []⟩
def d_due : He.DefD := ⟨("_law_due", none), "_law_due", "_law_due", defArgs s_due, defBody s_due, defScope s_due, [], []⟩
def d_entry : He.DefD := ⟨("_law_entry", none), "_law_entry", "_law_entry", defArgs s_entry, defBody s_entry, defScope s_entry, [], []⟩
def d_table : He.DefD := ⟨("_law_table", none), "_law_table", "_law_table", defArgs s_table, defBody s_table, defScope s_table, [], []⟩
def d_right : He.DefD := ⟨("_law_right", none), "_law_right", "_law_right", defArgs s_right, defBody s_right, defScope s_right, [], []⟩
def d_refusal : He.DefD := ⟨("_law_refusal", none), "_law_refusal", "_law_refusal", defArgs s_refusal, defBody s_refusal, defScope s_refusal, [], []⟩
def d_wrong_rows : He.DefD := ⟨("_law_wrong_rows", none), "_law_wrong_rows", "_law_wrong_rows", defArgs s_wrong_rows, defBody s_wrong_rows, defScope s_wrong_rows, [], []⟩
def d_refuses : He.DefD := ⟨("_law_refuses", none), "_law_refuses", "_law_refuses", defArgs s_refuses, defBody s_refuses, defScope s_refuses, [], []⟩
def d_base : He.DefD := ⟨("_law_base", none), "_law_base", "_law_base", defArgs s_base, defBody s_base, defScope s_base, [], []⟩
def d_law : He.DefD := ⟨("law", none), "law", "law", defArgs s_law, defBody s_law, defScope s_law, [], []⟩
abbrev s_BadLetters___init__ : Stmt := inClass (topS 4) 0
theorem xn_BadLetters {P : Program} {w : World} {K : PySem.W.Frag} {mg : Str → Option Value} {base : Heap} {fl : Str} (h1 : supObs K "BadLetters" = supVal "BadLetters.__init__" s_BadLetters___init__) (h : ExnF K (He.ga K "BadLetters") "BadLetters.__init__" "letters" fl) (hfl : ((P.main.file : Str) == fl) = true) (htop : (P.main.scope.names.lookup ("super" : Str)).isSome = false) (g : mg "BadLetters" = some (.ref (He.ga K "BadLetters"))) (m_super : mg "super" = none) : Exn P w K mg base "BadLetters" (He.ga K "BadLetters") "letters" := by
  obtain ⟨c, cc, fd, kV, doc, pm, ct, an, hfd, S, hcd⟩ := sup_of h1 h.sup hfl htop
  refine ⟨S.oex, g, He.ma K _ "__init__", fd, ["self", "letters"], h.ini, h.ty, ?_, ?_⟩
  · exact exn_ok (v := "letters") (F := ⟨"__init__", "BadLetters.__init__", defArgs s_BadLetters___init__, defBody s_BadLetters___init__, defScope s_BadLetters___init__, [("__class__", cc)], c⟩) hfd S hcd (NdefX.nscope_by (sc := defScope s_BadLetters___init__) (by decide +kernel)) rfl rfl rfl (show (defScope s_BadLetters___init__).names.lookup ("super" : Str) = some .globalImplicit by decide +kernel) m_super h.no (by decide) (by decide) rfl (fun _ _ _ _ _ => rfl) (fun _ _ _ _ _ => rfl) (fun _ _ _ _ _ => rfl) (fun _ _ _ _ _ => rfl)
  · subst hfd
    exact Binds.all fun us hl => match us, hl with | [_, _], _ => rfl
abbrev s_BadMark___init__ : Stmt := inClass (topS 5) 0
theorem xn_BadMark {P : Program} {w : World} {K : PySem.W.Frag} {mg : Str → Option Value} {base : Heap} {fl : Str} (h1 : supObs K "BadMark" = supVal "BadMark.__init__" s_BadMark___init__) (h : ExnF K (He.ga K "BadMark") "BadMark.__init__" "mark" fl) (hfl : ((P.main.file : Str) == fl) = true) (htop : (P.main.scope.names.lookup ("super" : Str)).isSome = false) (g : mg "BadMark" = some (.ref (He.ga K "BadMark"))) (m_super : mg "super" = none) : Exn P w K mg base "BadMark" (He.ga K "BadMark") "mark" := by
  obtain ⟨c, cc, fd, kV, doc, pm, ct, an, hfd, S, hcd⟩ := sup_of h1 h.sup hfl htop
  refine ⟨S.oex, g, He.ma K _ "__init__", fd, ["self", "mark"], h.ini, h.ty, ?_, ?_⟩
  · exact exn_ok (v := "mark") (F := ⟨"__init__", "BadMark.__init__", defArgs s_BadMark___init__, defBody s_BadMark___init__, defScope s_BadMark___init__, [("__class__", cc)], c⟩) hfd S hcd (NdefX.nscope_by (sc := defScope s_BadMark___init__) (by decide +kernel)) rfl rfl rfl (show (defScope s_BadMark___init__).names.lookup ("super" : Str) = some .globalImplicit by decide +kernel) m_super h.no (by decide) (by decide) rfl (fun _ _ _ _ _ => rfl) (fun _ _ _ _ _ => rfl) (fun _ _ _ _ _ => rfl) (fun _ _ _ _ _ => rfl)
  · subst hfd
    exact Binds.all fun us hl => match us, hl with | [_, _], _ => rfl
abbrev s_BadCount___init__ : Stmt := inClass (topS 3) 0
theorem xn_BadCount {P : Program} {w : World} {K : PySem.W.Frag} {mg : Str → Option Value} {base : Heap} {fl : Str} (h1 : supObs K "BadCount" = supVal "BadCount.__init__" s_BadCount___init__) (h : ExnF K (He.ga K "BadCount") "BadCount.__init__" "value" fl) (hfl : ((P.main.file : Str) == fl) = true) (htop : (P.main.scope.names.lookup ("super" : Str)).isSome = false) (g : mg "BadCount" = some (.ref (He.ga K "BadCount"))) (m_super : mg "super" = none) : Exn P w K mg base "BadCount" (He.ga K "BadCount") "value" := by
  obtain ⟨c, cc, fd, kV, doc, pm, ct, an, hfd, S, hcd⟩ := sup_of h1 h.sup hfl htop
  refine ⟨S.oex, g, He.ma K _ "__init__", fd, ["self", "value"], h.ini, h.ty, ?_, ?_⟩
  · exact exn_ok (v := "value") (F := ⟨"__init__", "BadCount.__init__", defArgs s_BadCount___init__, defBody s_BadCount___init__, defScope s_BadCount___init__, [("__class__", cc)], c⟩) hfd S hcd (NdefX.nscope_by (sc := defScope s_BadCount___init__) (by decide +kernel)) rfl rfl rfl (show (defScope s_BadCount___init__).names.lookup ("super" : Str) = some .globalImplicit by decide +kernel) m_super h.no (by decide) (by decide) rfl (fun _ _ _ _ _ => rfl) (fun _ _ _ _ _ => rfl) (fun _ _ _ _ _ => rfl) (fun _ _ _ _ _ => rfl)
  · subst hfd
    exact Binds.all fun us hl => match us, hl with | [_, _], _ => rfl
def xns : List (PySem.W.Frag → SupV) := [fun K => supObs K "BadLetters", fun K => supObs K "BadMark", fun K => supObs K "BadCount"]
def exPr (K : PySem.W.Frag) : List Bool := []
def xvs : List SupV := [supVal "BadLetters.__init__" s_BadLetters___init__, supVal "BadMark.__init__" s_BadMark___init__, supVal "BadCount.__init__" s_BadCount___init__]
def exXn (fl : Str) (K : PySem.W.Frag) : List Bool := [exnB fl "BadLetters.__init__" "letters" K (He.ga K "BadLetters"), exnB fl "BadMark.__init__" "mark" K (He.ga K "BadMark"), exnB fl "BadCount.__init__" "value" K (He.ga K "BadCount")]
def fn : List He.DefD := [d_check_letters, d_check_rows, d_flags_of, d_live_rows, d_state_classes, d_normal_table, d_is_mark, d_check_mark, d_check_marks, d_check_names, d_never, d_only_after, d_answered, d_at_most, d_Machine___init__, d_Machine___contains__, d_Machine___eq__, d_Machine_after, d_cell, d_draws, d_take, d_letters, d_texts, d_longer, d_odd, d_long, d_made, d_due, d_entry, d_table, d_right, d_refusal, d_wrong_rows, d_refuses, d_base, d_law]
def fa : List He.Fa := [.glo "check_letters", .glo "check_rows", .glo "flags_of", .glo "live_rows", .glo "state_classes", .glo "normal_table", .glo "is_mark", .glo "check_mark", .glo "check_marks", .glo "check_names", .glo "never", .glo "only_after", .glo "answered", .glo "at_most", .glo "_law_cell", .glo "_law_draws", .glo "_law_take", .glo "_law_letters", .glo "_law_texts", .glo "_law_longer", .glo "_law_odd", .glo "_law_long", .glo "_law_made", .glo "_law_due", .glo "_law_entry", .glo "_law_table", .glo "_law_right", .glo "_law_refusal", .glo "_law_wrong_rows", .glo "_law_refuses", .glo "_law_base", .glo "law", .free "ValueError", .free "abs", .free "any", .free "enumerate", .free "int", .free "isinstance", .free "len", .free "list", .free "max", .free "range", .free "super", .free "tuple", .glo "Machine", .cls "Machine", .mkr "Machine", .noat "Machine" "letters", .noat "Machine" "rows", .noat "Machine" "good", .meth "Machine" "after", .int "MOST_TIMES" (9), .str "MARKS" "ABCDEFGHIJKLMNOPQRSTUVWXYZ", .glo "HouseError", .glo "BadLetters", .glo "BadMark", .glo "BadCount"]
def loose : List Str := [("_wall" : Str), ("HouseError" : Str), ("BadCount" : Str), ("BadLetters" : Str), ("BadMark" : Str), ("BadRow" : Str), ("BadState" : Str), ("LettersDiffer" : Str), ("flags_of" : Str), ("live_rows" : Str), ("state_classes" : Str), ("normal_table" : Str), ("is_kept" : Str), ("is_good" : Str), ("pair_table" : Str), ("opposite_table" : Str), ("after_step" : Str), ("with_start" : Str), ("chain_table" : Str), ("check_letters" : Str), ("check_rows" : Str), ("Machine" : Str), ("MARKS" : Str), ("is_mark" : Str), ("check_mark" : Str), ("check_marks" : Str), ("MOST_TIMES" : Str), ("check_names" : Str), ("never" : Str), ("only_after" : Str), ("answered" : Str), ("at_most" : Str), ("_law_cell" : Str), ("_law_draws" : Str), ("_law_take" : Str), ("_law_letters" : Str), ("_law_texts" : Str), ("_law_longer" : Str), ("_law_odd" : Str), ("_law_long" : Str), ("_law_made" : Str), ("_law_due" : Str), ("_law_entry" : Str), ("_law_table" : Str), ("_law_right" : Str), ("_law_refusal" : Str), ("_law_wrong_rows" : Str), ("_law_refuses" : Str), ("_law_base" : Str)]
def fl : Str := PySem.Challenge.pw_signedpacts_k49_four_duties.main.file
def exF0 (K : PySem.W.Frag) (a b : Addr) : Bool := decide (PySem.W.exmOne K (.ref a) (.ref b) = some false)
def exL0 (K : PySem.W.Frag) : List Bool := [isB K (He.ga K "Machine"), spB K (He.ga K "Machine") "__eq__", spB K (He.ga K "Machine") "__contains__",
  exmB K (He.ga K "BadLetters") (He.ga K "BadLetters"), exmB K (He.ga K "BadMark") (He.ga K "BadMark"), exmB K (He.ga K "BadCount") (He.ga K "BadCount"),
  exF0 K (He.ga K "BadMark") (He.ga K "BadLetters"), exF0 K (He.ga K "BadCount") (He.ga K "BadLetters"), exF0 K (He.ga K "BadCount") (He.ga K "BadMark"),
  exmB K (He.ga K "BadMark") (He.ga K "HouseError"), kitVB K (He.ga K "BadMark") (.ref (He.ga K "BadMark")) true, kitVB K (He.ga K "BadMark") (.type "ValueError") true, kitVB K (He.ga K "BadMark") (.ref (He.ga K "BadLetters")) false]
def ex (K : PySem.W.Frag) : Bool := (exL0 K).all id && ((exXn fl K).all id && (exPr K).all id)
abbrev R : PySem.W.OpenRow := PySem.W.OpenLaw.row PySem.Challenge.rw_signedpacts_k49_four_duties
abbrev hk : PySem.W.Hook := hookY 5 fa fn xns xvs ex
def ob (s : PySem.W.SharedT) : He.AlD × (List SupV × Bool) := obY 5 fa fn xns ex (HandSHeadRun.getT s)
theorem ob_eq (s : PySem.W.SharedT) : ob s = hk.obs s.abs := obY_eq (HandSHeadRun.getT_eq s)
theorem run (w : World) : HandSHeadRun.RunEq R (PySem.W.view R.prog [55]) hk ob 8000 loose w := by
  intro os
  kernel_rfl
theorem facts {P : Program} {w : World} {K : PySem.W.Frag} {h : Heap} {mg : Str → Option Value} {f : Addr} (X : K.In h) (G : h.Ns mainGlobals mg) (hfa : mg ("law" : Str) = some (.ref f)) (c : He.SaysD fa fn K) (cs : xns.map (fun f => f K) = xvs) (cx : ex K = true) (hfl : ((P.main.file : Str) == fl) = true) (htop : (P.main.scope.names.lookup ("super" : Str)).isSome = false) :
    ∃ fd : FuncData, (∀ (s : Shared) (v : Value), BindsTo s fd ⟨[v], []⟩ [("_law_script", v)]) ∧ ∀ base : Heap, K.In base → base.Ns mainGlobals mg → FnOk P w K mg base CX0 10 f fd ["_law_script"] (spLaw K) := by
  obtain ⟨cx, cy⟩ := He.ba cx
  obtain ⟨cy, cp⟩ := He.ba cy
  obtain ⟨fd_check_letters, F_check_letters⟩ := c.def_ 0 (d := d_check_letters) rfl
  have F_check_letters : FnP K "check_letters" s_check_letters _ fd_check_letters := F_check_letters
  have g_check_letters := He.glo_ok X G (c.fact 0 (f := .glo "check_letters") rfl)
  have b_check_letters : Binds K fd_check_letters P_check_letters [] := F_check_letters.bindsN fun _ _ _ _ _ _ us hl => match us, hl with | [_], _ => rfl
  obtain ⟨fd_check_rows, F_check_rows⟩ := c.def_ 1 (d := d_check_rows) rfl
  have F_check_rows : FnP K "check_rows" s_check_rows _ fd_check_rows := F_check_rows
  have g_check_rows := He.glo_ok X G (c.fact 1 (f := .glo "check_rows") rfl)
  have b_check_rows : Binds K fd_check_rows P_check_rows [] := F_check_rows.bindsN fun _ _ _ _ _ _ us hl => match us, hl with | [_, _], _ => rfl
  obtain ⟨fd_flags_of, F_flags_of⟩ := c.def_ 2 (d := d_flags_of) rfl
  have F_flags_of : FnP K "flags_of" s_flags_of _ fd_flags_of := F_flags_of
  have g_flags_of := He.glo_ok X G (c.fact 2 (f := .glo "flags_of") rfl)
  have b_flags_of : Binds K fd_flags_of P_flags_of [] := F_flags_of.bindsN fun _ _ _ _ _ _ us hl => match us, hl with | [_, _], _ => rfl
  obtain ⟨fd_live_rows, F_live_rows⟩ := c.def_ 3 (d := d_live_rows) rfl
  have F_live_rows : FnP K "live_rows" s_live_rows _ fd_live_rows := F_live_rows
  have g_live_rows := He.glo_ok X G (c.fact 3 (f := .glo "live_rows") rfl)
  have b_live_rows : Binds K fd_live_rows P_live_rows [] := F_live_rows.bindsN fun _ _ _ _ _ _ us hl => match us, hl with | [_, _], _ => rfl
  obtain ⟨fd_state_classes, F_state_classes⟩ := c.def_ 4 (d := d_state_classes) rfl
  have F_state_classes : FnP K "state_classes" s_state_classes _ fd_state_classes := F_state_classes
  have g_state_classes := He.glo_ok X G (c.fact 4 (f := .glo "state_classes") rfl)
  have b_state_classes : Binds K fd_state_classes P_state_classes [] := F_state_classes.bindsN fun _ _ _ _ _ _ us hl => match us, hl with | [_, _], _ => rfl
  obtain ⟨fd_normal_table, F_normal_table⟩ := c.def_ 5 (d := d_normal_table) rfl
  have F_normal_table : FnP K "normal_table" s_normal_table _ fd_normal_table := F_normal_table
  have g_normal_table := He.glo_ok X G (c.fact 5 (f := .glo "normal_table") rfl)
  have b_normal_table : Binds K fd_normal_table P_normal_table [] := F_normal_table.bindsN fun _ _ _ _ _ _ us hl => match us, hl with | [_, _], _ => rfl
  obtain ⟨fd_is_mark, F_is_mark⟩ := c.def_ 6 (d := d_is_mark) rfl
  have F_is_mark : FnP K "is_mark" s_is_mark _ fd_is_mark := F_is_mark
  have g_is_mark := He.glo_ok X G (c.fact 6 (f := .glo "is_mark") rfl)
  have b_is_mark : Binds K fd_is_mark P_is_mark [] := F_is_mark.bindsN fun _ _ _ _ _ _ us hl => match us, hl with | [_], _ => rfl
  obtain ⟨fd_check_mark, F_check_mark⟩ := c.def_ 7 (d := d_check_mark) rfl
  have F_check_mark : FnP K "check_mark" s_check_mark _ fd_check_mark := F_check_mark
  have g_check_mark := He.glo_ok X G (c.fact 7 (f := .glo "check_mark") rfl)
  have b_check_mark : Binds K fd_check_mark P_check_mark [] := F_check_mark.bindsN fun _ _ _ _ _ _ us hl => match us, hl with | [_], _ => rfl
  obtain ⟨fd_check_marks, F_check_marks⟩ := c.def_ 8 (d := d_check_marks) rfl
  have F_check_marks : FnP K "check_marks" s_check_marks _ fd_check_marks := F_check_marks
  have g_check_marks := He.glo_ok X G (c.fact 8 (f := .glo "check_marks") rfl)
  have b_check_marks : Binds K fd_check_marks P_check_marks [] := F_check_marks.bindsN fun _ _ _ _ _ _ us hl => match us, hl with | [_], _ => rfl
  obtain ⟨fd_check_names, F_check_names⟩ := c.def_ 9 (d := d_check_names) rfl
  have F_check_names : FnP K "check_names" s_check_names _ fd_check_names := F_check_names
  have g_check_names := He.glo_ok X G (c.fact 9 (f := .glo "check_names") rfl)
  have b_check_names : Binds K fd_check_names P_check_names [] := F_check_names.bindsN fun _ _ _ _ _ _ us hl => match us, hl with | [_, _], _ => rfl
  obtain ⟨fd_never, F_never⟩ := c.def_ 10 (d := d_never) rfl
  have F_never : FnP K "never" s_never _ fd_never := F_never
  have g_never := He.glo_ok X G (c.fact 10 (f := .glo "never") rfl)
  have b_never : Binds K fd_never P_never [] := F_never.bindsN fun _ _ _ _ _ _ us hl => match us, hl with | [_, _], _ => rfl
  obtain ⟨fd_only_after, F_only_after⟩ := c.def_ 11 (d := d_only_after) rfl
  have F_only_after : FnP K "only_after" s_only_after _ fd_only_after := F_only_after
  have g_only_after := He.glo_ok X G (c.fact 11 (f := .glo "only_after") rfl)
  have b_only_after : Binds K fd_only_after P_only_after [] := F_only_after.bindsN fun _ _ _ _ _ _ us hl => match us, hl with | [_, _, _], _ => rfl
  obtain ⟨fd_answered, F_answered⟩ := c.def_ 12 (d := d_answered) rfl
  have F_answered : FnP K "answered" s_answered _ fd_answered := F_answered
  have g_answered := He.glo_ok X G (c.fact 12 (f := .glo "answered") rfl)
  have b_answered : Binds K fd_answered P_answered [] := F_answered.bindsN fun _ _ _ _ _ _ us hl => match us, hl with | [_, _, _], _ => rfl
  obtain ⟨fd_at_most, F_at_most⟩ := c.def_ 13 (d := d_at_most) rfl
  have F_at_most : FnP K "at_most" s_at_most _ fd_at_most := F_at_most
  have g_at_most := He.glo_ok X G (c.fact 13 (f := .glo "at_most") rfl)
  have b_at_most : Binds K fd_at_most P_at_most [] := F_at_most.bindsN fun _ _ _ _ _ _ us hl => match us, hl with | [_, _, _], _ => rfl
  obtain ⟨fd_Machine___init__, F_Machine___init__⟩ := c.def_ 14 (d := d_Machine___init__) rfl
  obtain ⟨fd_Machine___contains__, F_Machine___contains__⟩ := c.def_ 15 (d := d_Machine___contains__) rfl
  have F_Machine___contains__ : FnM K "__contains__" "Machine.__contains__" s_Machine___contains__ (He.ma K (He.ga K "Machine") "__contains__") fd_Machine___contains__ := F_Machine___contains__
  have b_Machine___contains__ : Binds K fd_Machine___contains__ P_Machine___contains__ [] := F_Machine___contains__.bindsN fun _ _ _ _ _ _ us hl => match us, hl with | [_, _], _ => rfl
  obtain ⟨fd_Machine___eq__, F_Machine___eq__⟩ := c.def_ 16 (d := d_Machine___eq__) rfl
  have F_Machine___eq__ : FnM K "__eq__" "Machine.__eq__" s_Machine___eq__ (He.ma K (He.ga K "Machine") "__eq__") fd_Machine___eq__ := F_Machine___eq__
  have b_Machine___eq__ : Binds K fd_Machine___eq__ P_Machine___eq__ [] := F_Machine___eq__.bindsN fun _ _ _ _ _ _ us hl => match us, hl with | [_, _], _ => rfl
  obtain ⟨fd_Machine_after, F_Machine_after⟩ := c.def_ 17 (d := d_Machine_after) rfl
  have F_Machine_after : FnM K "after" "Machine.after" s_Machine_after (He.ma K (He.ga K "Machine") "after") fd_Machine_after := F_Machine_after
  have b_Machine_after : Binds K fd_Machine_after P_Machine_after [] := F_Machine_after.bindsN fun _ _ _ _ _ _ us hl => match us, hl with | [_, _], _ => rfl
  obtain ⟨fd_cell, F_cell⟩ := c.def_ 18 (d := d_cell) rfl
  have F_cell : FnP K "_law_cell" s_cell _ fd_cell := F_cell
  have g_cell := He.glo_ok X G (c.fact 14 (f := .glo "_law_cell") rfl)
  have b_cell : Binds K fd_cell P_cell [] := F_cell.bindsN fun _ _ _ _ _ _ us hl => match us, hl with | [_, _], _ => rfl
  obtain ⟨fd_draws, F_draws⟩ := c.def_ 19 (d := d_draws) rfl
  have F_draws : FnP K "_law_draws" s_draws _ fd_draws := F_draws
  have g_draws := He.glo_ok X G (c.fact 15 (f := .glo "_law_draws") rfl)
  have b_draws : Binds K fd_draws P_draws [] := F_draws.bindsN fun _ _ _ _ _ _ us hl => match us, hl with | [_, _], _ => rfl
  obtain ⟨fd_take, F_take⟩ := c.def_ 20 (d := d_take) rfl
  have F_take : FnP K "_law_take" s_take _ fd_take := F_take
  have g_take := He.glo_ok X G (c.fact 16 (f := .glo "_law_take") rfl)
  have b_take : Binds K fd_take P_take [] := F_take.bindsN fun _ _ _ _ _ _ us hl => match us, hl with | [_, _], _ => rfl
  obtain ⟨fd_letters, F_letters⟩ := c.def_ 21 (d := d_letters) rfl
  have F_letters : FnP K "_law_letters" s_letters _ fd_letters := F_letters
  have g_letters := He.glo_ok X G (c.fact 17 (f := .glo "_law_letters") rfl)
  have b_letters : Binds K fd_letters P_letters [] := F_letters.bindsN fun _ _ _ _ _ _ us hl => match us, hl with | [_, _, _], _ => rfl
  obtain ⟨fd_texts, F_texts⟩ := c.def_ 22 (d := d_texts) rfl
  have F_texts : FnP K "_law_texts" s_texts _ fd_texts := F_texts
  have g_texts := He.glo_ok X G (c.fact 18 (f := .glo "_law_texts") rfl)
  have b_texts : Binds K fd_texts P_texts [] := F_texts.bindsN fun _ _ _ _ _ _ us hl => match us, hl with | [_, _], _ => rfl
  obtain ⟨fd_longer, F_longer⟩ := c.def_ 23 (d := d_longer) rfl
  have F_longer : FnP K "_law_longer" s_longer _ fd_longer := F_longer
  have g_longer := He.glo_ok X G (c.fact 19 (f := .glo "_law_longer") rfl)
  have b_longer : Binds K fd_longer P_longer [] := F_longer.bindsN fun _ _ _ _ _ _ us hl => match us, hl with | [_, _], _ => rfl
  obtain ⟨fd_odd, F_odd⟩ := c.def_ 24 (d := d_odd) rfl
  have F_odd : FnP K "_law_odd" s_odd _ fd_odd := F_odd
  have g_odd := He.glo_ok X G (c.fact 20 (f := .glo "_law_odd") rfl)
  have b_odd : Binds K fd_odd P_odd [] := F_odd.bindsN fun _ _ _ _ _ _ us hl => match us, hl with | [_], _ => rfl
  obtain ⟨fd_long, F_long⟩ := c.def_ 25 (d := d_long) rfl
  have F_long : FnP K "_law_long" s_long _ fd_long := F_long
  have g_long := He.glo_ok X G (c.fact 21 (f := .glo "_law_long") rfl)
  have b_long : Binds K fd_long P_long [] := F_long.bindsN fun _ _ _ _ _ _ us hl => match us, hl with | [_, _], _ => rfl
  obtain ⟨fd_made, F_made⟩ := c.def_ 26 (d := d_made) rfl
  have F_made : FnP K "_law_made" s_made _ fd_made := F_made
  have g_made := He.glo_ok X G (c.fact 22 (f := .glo "_law_made") rfl)
  have b_made : Binds K fd_made P_made [] := F_made.bindsN fun _ _ _ _ _ _ us hl => match us, hl with | [_, _, _, _, _], _ => rfl
  obtain ⟨fd_due, F_due⟩ := c.def_ 27 (d := d_due) rfl
  have F_due : FnP K "_law_due" s_due _ fd_due := F_due
  have g_due := He.glo_ok X G (c.fact 23 (f := .glo "_law_due") rfl)
  have b_due : Binds K fd_due P_due [] := F_due.bindsN fun _ _ _ _ _ _ us hl => match us, hl with | [_, _, _, _, _], _ => rfl
  obtain ⟨fd_entry, F_entry⟩ := c.def_ 28 (d := d_entry) rfl
  have F_entry : FnP K "_law_entry" s_entry _ fd_entry := F_entry
  have g_entry := He.glo_ok X G (c.fact 24 (f := .glo "_law_entry") rfl)
  have b_entry : Binds K fd_entry P_entry [] := F_entry.bindsN fun _ _ _ _ _ _ us hl => match us, hl with | [_, _, _, _, _, _], _ => rfl
  obtain ⟨fd_table, F_table⟩ := c.def_ 29 (d := d_table) rfl
  have F_table : FnP K "_law_table" s_table _ fd_table := F_table
  have g_table := He.glo_ok X G (c.fact 25 (f := .glo "_law_table") rfl)
  have b_table : Binds K fd_table P_table [] := F_table.bindsN fun _ _ _ _ _ _ us hl => match us, hl with | [_, _, _, _, _], _ => rfl
  obtain ⟨fd_right, F_right⟩ := c.def_ 30 (d := d_right) rfl
  have F_right : FnP K "_law_right" s_right _ fd_right := F_right
  have g_right := He.glo_ok X G (c.fact 26 (f := .glo "_law_right") rfl)
  have b_right : Binds K fd_right P_right [] := F_right.bindsN fun _ _ _ _ _ _ us hl => match us, hl with | [_, _, _, _, _, _], _ => rfl
  obtain ⟨fd_refusal, F_refusal⟩ := c.def_ 31 (d := d_refusal) rfl
  have F_refusal : FnP K "_law_refusal" s_refusal _ fd_refusal := F_refusal
  have g_refusal := He.glo_ok X G (c.fact 27 (f := .glo "_law_refusal") rfl)
  have b_refusal : Binds K fd_refusal P_refusal [] := F_refusal.bindsN fun _ _ _ _ _ _ us hl => match us, hl with | [_, _, _, _, _], _ => rfl
  obtain ⟨fd_wrong_rows, F_wrong_rows⟩ := c.def_ 32 (d := d_wrong_rows) rfl
  have F_wrong_rows : FnP K "_law_wrong_rows" s_wrong_rows _ fd_wrong_rows := F_wrong_rows
  have g_wrong_rows := He.glo_ok X G (c.fact 28 (f := .glo "_law_wrong_rows") rfl)
  have b_wrong_rows : Binds K fd_wrong_rows P_wrong_rows [] := F_wrong_rows.bindsN fun _ _ _ _ _ _ us hl => match us, hl with | [_, _, _], _ => rfl
  obtain ⟨fd_refuses, F_refuses⟩ := c.def_ 33 (d := d_refuses) rfl
  have F_refuses : FnP K "_law_refuses" s_refuses _ fd_refuses := F_refuses
  have g_refuses := He.glo_ok X G (c.fact 29 (f := .glo "_law_refuses") rfl)
  have b_refuses : Binds K fd_refuses P_refuses [] := F_refuses.bindsN fun _ _ _ _ _ _ us hl => match us, hl with | [_, _, _, _, _, _, _], _ => rfl
  obtain ⟨fd_base, F_base⟩ := c.def_ 34 (d := d_base) rfl
  have F_base : FnP K "_law_base" s_base _ fd_base := F_base
  have g_base := He.glo_ok X G (c.fact 30 (f := .glo "_law_base") rfl)
  have b_base : Binds K fd_base P_base [] := F_base.bindsN fun _ _ _ _ _ _ us hl => match us, hl with | [_, _], _ => rfl
  obtain ⟨fd_law, F_law⟩ := c.def_ 35 (d := d_law) rfl
  have F_law : FnP K "law" s_law _ fd_law := F_law
  have g_law := He.glo_ok X G (c.fact 31 (f := .glo "law") rfl)
  have m_ValueError := He.free_ok X G (c.fact 32 (f := .free "ValueError") rfl)
  have m_abs := He.free_ok X G (c.fact 33 (f := .free "abs") rfl)
  have m_any := He.free_ok X G (c.fact 34 (f := .free "any") rfl)
  have m_enumerate := He.free_ok X G (c.fact 35 (f := .free "enumerate") rfl)
  have m_int := He.free_ok X G (c.fact 36 (f := .free "int") rfl)
  have m_isinstance := He.free_ok X G (c.fact 37 (f := .free "isinstance") rfl)
  have m_len := He.free_ok X G (c.fact 38 (f := .free "len") rfl)
  have m_list := He.free_ok X G (c.fact 39 (f := .free "list") rfl)
  have m_max := He.free_ok X G (c.fact 40 (f := .free "max") rfl)
  have m_range := He.free_ok X G (c.fact 41 (f := .free "range") rfl)
  have m_super := He.free_ok X G (c.fact 42 (f := .free "super") rfl)
  have m_tuple := He.free_ok X G (c.fact 43 (f := .free "tuple") rfl)
  have g_Machine := He.glo_ok X G (c.fact 44 (f := .glo "Machine") rfl)
  have cls_Machine := He.cls_ok (c.fact 45 (f := .cls "Machine") rfl)
  have mk_Machine := He.mkr_ok (c.fact 46 (f := .mkr "Machine") rfl)
  have n_Machine_letters := He.noat_ok (c.fact 47 (f := .noat "Machine" "letters") rfl)
  have n_Machine_rows := He.noat_ok (c.fact 48 (f := .noat "Machine" "rows") rfl)
  have n_Machine_good := He.noat_ok (c.fact 49 (f := .noat "Machine" "good") rfl)
  have me_Machine_after := He.meth_ok (c.fact 50 (f := .meth "Machine" "after") rfl)
  have g0_MOST_TIMES := He.int_ok X G (c.fact 51 (f := .int "MOST_TIMES" (9)) rfl)
  obtain ⟨tok_MOST_TIMES, g_MOST_TIMES⟩ := g0_MOST_TIMES
  have g0_MARKS := He.str_ok X G (c.fact 52 (f := .str "MARKS" "ABCDEFGHIJKLMNOPQRSTUVWXYZ") rfl)
  obtain ⟨tok_MARKS, g_MARKS⟩ := g0_MARKS
  have g_HouseError := He.glo_ok X G (c.fact 53 (f := .glo "HouseError") rfl)
  have g_BadLetters := He.glo_ok X G (c.fact 54 (f := .glo "BadLetters") rfl)
  have g_BadMark := He.glo_ok X G (c.fact 55 (f := .glo "BadMark") rfl)
  have g_BadCount := He.glo_ok X G (c.fact 56 (f := .glo "BadCount") rfl)
  have f_BadLetters := exnB_ok (all_at cy 0)
  have x_BadLetters : ∀ base : Heap, Exn P w K mg base "BadLetters" (He.ga K "BadLetters") "letters" := fun base => xn_BadLetters (y_at cs 0) f_BadLetters hfl htop g_BadLetters m_super
  have f_BadMark := exnB_ok (all_at cy 1)
  have x_BadMark : ∀ base : Heap, Exn P w K mg base "BadMark" (He.ga K "BadMark") "mark" := fun base => xn_BadMark (y_at cs 1) f_BadMark hfl htop g_BadMark m_super
  have f_BadCount := exnB_ok (all_at cy 2)
  have x_BadCount : ∀ base : Heap, Exn P w K mg base "BadCount" (He.ga K "BadCount") "value" := fun base => xn_BadCount (y_at cs 2) f_BadCount hfl htop g_BadCount m_super
  have isC := isB_ok cls_Machine (all_at cx 0)
  obtain ⟨z1, z2, z3⟩ := spB_ok (all_at cx 1)
  obtain ⟨y1, y2, y3⟩ := spB_ok (all_at cx 2)
  have teX : TeX K (He.ga K "BadLetters") (He.ga K "BadMark") (He.ga K "BadCount") := ⟨of_decide_eq_true (all_at cx 3), of_decide_eq_true (all_at cx 4), of_decide_eq_true (all_at cx 5), of_decide_eq_true (all_at cx 6), of_decide_eq_true (all_at cx 7), of_decide_eq_true (all_at cx 8)⟩
  have teMH := of_decide_eq_true (all_at cx 9)
  have kMM := of_decide_eq_true (all_at cx 10)
  have kMV := of_decide_eq_true (all_at cx 11)
  have kML := of_decide_eq_true (all_at cx 12)
  have e := hfa.symm.trans g_law
  cases e
  have b := FunD.bindsA (ps := ["_law_script"]) F_law fun _ _ _ _ _ _ us hl => match us, hl with | [_], _ => rfl
  refine ⟨fd_law, fun s v => b s [v] rfl, fun base _ _ => ?_⟩
  have c_cell : Cal P w K mg base 1 "_law_cell" (spCell K) := cal_of F_cell g_cell b_cell (ok_cell F_cell m_len m_int)
  have c_draws : Cal P w K mg base 1 "_law_draws" spDraws := cal_of F_draws g_draws b_draws (ok_draws F_draws m_int m_abs m_range)
  have c_take : Cal P w K mg base 1 "_law_take" (spTake K) := cal_of F_take g_take b_take (ok_take F_take m_len)
  have c_check_letters : Cal P w K mg base 1 "check_letters" spCkL := cal_of F_check_letters g_check_letters b_check_letters (ok_check_letters F_check_letters m_enumerate)
  have c_check_rows : Cal P w K mg base 1 "check_rows" (spCkR K) := cal_of F_check_rows g_check_rows b_check_rows (ok_check_rows F_check_rows m_enumerate m_len)
  have c_flags_of : Cal P w K mg base 1 "flags_of" (spFlags K) := cal_of F_flags_of g_flags_of b_flags_of (ok_flags_of F_flags_of m_range)
  have c_live_rows : Cal P w K mg base 2 "live_rows" (spLive K) := cal_of F_live_rows g_live_rows b_live_rows (ok_live_rows F_live_rows m_len m_any m_enumerate c_flags_of)
  have c_state_classes : Cal P w K mg base 2 "state_classes" (spClasses K) := cal_of F_state_classes g_state_classes b_state_classes (ok_state_classes F_state_classes m_int m_tuple m_len m_enumerate c_flags_of)
  have c_normal_table : Cal P w K mg base 3 "normal_table" (spNorm K) := cal_of F_normal_table g_normal_table b_normal_table (ok_normal_table F_normal_table m_len m_tuple m_enumerate c_flags_of c_live_rows c_state_classes)
  have Fi : FnMq K "__init__" "Machine.__init__" s_Machine___init__ [.non] _ fd_Machine___init__ := F_Machine___init__
  have o_init := ok_minit (P := P) (w := w) (mg := mg) (base := base) F_Machine___init__ m_len m_list m_range cls_Machine n_Machine_letters n_Machine_rows n_Machine_good c_check_letters c_check_rows c_normal_table
  obtain ⟨d3, v3, b3⟩ := FunD.binds1 (ps := P_Machine___init__) Fi 3 0 (by simp) rfl fun T kV doc pm an cdv ct us its hu hi => match us, hu, its, hi with | [_, _, _], _, [_], _ => ⟨_, rfl, rfl⟩
  obtain ⟨d4, v4, b4⟩ := FunD.binds1 (ps := P_Machine___init__) Fi 4 1 (by simp) rfl fun T kV doc pm an cdv ct us its hu hi => match us, hu, its, hi with | [_, _, _, _], _, [_], _ => ⟨_, rfl, rfl⟩
  cases v4
  have k_Machine : Mak P w K mg base 4 "Machine" (spL3 (He.ga K "Machine") K) := ⟨_, _, _, _, _, mk_Machine, o_init, g_Machine, b4, l3_imp⟩
  have kd_Machine : MakD P w K mg base 4 "Machine" [.non] (spL2 (He.ga K "Machine") K) := ⟨_, _, _, _, _, _, mk_Machine, o_init, g_Machine, v3, b3, l2_imp⟩
  have e_Machine : Eqo P w K mg base 1 (He.ga K "Machine") (spEqL (He.ga K "Machine") K) := ⟨_, _, _, (ok_eq F_Machine___eq__ isC m_isinstance g_Machine cls_Machine n_Machine_letters n_Machine_rows n_Machine_good).imp eqL_imp, z1, z2, b_Machine___eq__⟩
  have me_after : Met P w K mg base 1 (He.ga K "Machine") "after" (spAfter (He.ga K "Machine") K) := ⟨_, _, _, cls_Machine, me_Machine_after, ok_after F_Machine_after m_len cls_Machine n_Machine_letters n_Machine_rows, b_Machine_after⟩
  have in_Machine : InO P w K mg base 2 (He.ga K "Machine") (spInL (He.ga K "Machine") K) := ⟨_, _, _, (ok_contains F_Machine___contains__ cls_Machine n_Machine_good me_after).imp inL_imp, y1, y2, b_Machine___contains__⟩
  have x_check_letters : CalX P w K mg base 3 "check_letters" (spCkX (He.ga K "BadLetters") (He.ga K "BadMark") (He.ga K "BadCount")) := ⟨_, _, _, ok_check_lettersX F_check_letters m_enumerate (x_BadLetters base), g_check_letters, F_check_letters.kp, b_check_letters⟩
  have c_is_mark : Cal P w K mg base 1 "is_mark" spIsM := cal_of F_is_mark g_is_mark b_is_mark (ok_is_mark F_is_mark m_len tok_MARKS g_MARKS)
  have c_check_mark : CalX P w K mg base 3 "check_mark" (spChM (He.ga K "BadLetters") (He.ga K "BadMark") (He.ga K "BadCount")) := ⟨_, _, _, ok_check_mark F_check_mark c_is_mark (x_BadMark base), g_check_mark, F_check_mark.kp, b_check_mark⟩
  have c_check_marks : CalX P w K mg base 4 "check_marks" (spChMs (He.ga K "BadLetters") (He.ga K "BadMark") (He.ga K "BadCount")) := ⟨_, _, _, ok_check_marks F_check_marks c_check_mark, g_check_marks, F_check_marks.kp, b_check_marks⟩
  have c_check_names : CalX P w K mg base 5 "check_names" (spCkNm (He.ga K "BadLetters") (He.ga K "BadMark") (He.ga K "BadCount") K) := ⟨_, _, _, ok_check_names F_check_names m_len x_check_letters c_check_marks (x_BadMark base), g_check_names, F_check_names.kp, b_check_names⟩
  have c_never : CalX P w K mg base 6 "never" (spNev (He.ga K "Machine") (He.ga K "BadLetters") (He.ga K "BadMark") (He.ga K "BadCount") K) := ⟨_, _, _, ok_never F_never c_check_names kd_Machine, g_never, F_never.kp, b_never⟩
  have c_only_after : CalX P w K mg base 6 "only_after" (spTwo 1 (He.ga K "Machine") (He.ga K "BadLetters") (He.ga K "BadMark") (He.ga K "BadCount") K) := ⟨_, _, _, ok_only_after F_only_after m_int m_len c_check_names kd_Machine, g_only_after, F_only_after.kp, b_only_after⟩
  have c_answered : CalX P w K mg base 6 "answered" (spTwo 2 (He.ga K "Machine") (He.ga K "BadLetters") (He.ga K "BadMark") (He.ga K "BadCount") K) := ⟨_, _, _, ok_answered F_answered m_int c_check_names k_Machine, g_answered, F_answered.kp, b_answered⟩
  have c_at_most : CalX P w K mg base 6 "at_most" (spAtM (He.ga K "Machine") (He.ga K "BadLetters") (He.ga K "BadMark") (He.ga K "BadCount") K) := ⟨_, _, _, ok_at_most F_at_most m_range tok_MOST_TIMES g_MOST_TIMES (x_BadCount base) c_check_names kd_Machine, g_at_most, F_at_most.kp, b_at_most⟩
  have c_made : CalX P w K mg base 7 "_law_made" (spMade (He.ga K "Machine") (He.ga K "BadLetters") (He.ga K "BadMark") (He.ga K "BadCount") K) := ⟨_, _, _, ok_made F_made c_never c_only_after c_answered c_at_most, g_made, F_made.kp, b_made⟩
  have c_refusal : Cal P w K mg base 8 "_law_refusal" (spRfu (He.ga K "Machine") (He.ga K "BadLetters") (He.ga K "BadMark") (He.ga K "BadCount") K) := cal_of F_refusal g_refusal b_refusal (ok_refusal F_refusal c_made g_BadLetters f_BadLetters.xf f_BadLetters.no g_BadMark f_BadMark.xf f_BadMark.no g_BadCount f_BadCount.xf f_BadCount.no teX)
  have c_letters : Cal P w K mg base 2 "_law_letters" (spLet K) := cal_of F_letters g_letters b_letters (ok_letters F_letters m_int m_len m_list m_range c_take)
  have c_longer : Cal P w K mg base 1 "_law_longer" (spLong K) := cal_of F_longer g_longer b_longer (ok_longer F_longer)
  have c_texts : Cal P w K mg base 2 "_law_texts" (spTexts K) := cal_of F_texts g_texts b_texts (ok_texts F_texts m_range c_longer)
  have c_odd : Cal P w K mg base 1 "_law_odd" spOdd := cal_of F_odd g_odd b_odd (ok_odd F_odd m_int m_len)
  have c_long : Cal P w K mg base 2 "_law_long" (spLg K) := cal_of F_long g_long b_long (ok_long F_long m_int m_len c_draws)
  have c_due : Cal P w K mg base 1 "_law_due" spDue := cal_of F_due g_due b_due (ok_due F_due m_len m_range)
  have c_entry : Cal P w K mg base 1 "_law_entry" spEnt := cal_of F_entry g_entry b_entry (ok_entry F_entry m_int m_max)
  have c_table : Cal P w K mg base 6 "_law_table" (spTab (He.ga K "Machine") K) := cal_of F_table g_table b_table (ok_table F_table m_range c_entry k_Machine kd_Machine)
  have c_right : Cal P w K mg base 8 "_law_right" (spRight K) := cal_of F_right g_right b_right (ok_right F_right m_isinstance g_Machine isC cls_Machine n_Machine_letters c_made in_Machine e_Machine c_due c_table)
  have c_wrong_rows : Cal P w K mg base 1 "_law_wrong_rows" (spWr K) := cal_of F_wrong_rows g_wrong_rows b_wrong_rows (ok_wrong_rows F_wrong_rows m_int m_len)
  have c_refuses : Cal P w K mg base 9 "_law_refuses" (spRefs K) := cal_of F_refuses g_refuses b_refuses (ok_refuses F_refuses c_refusal)
  have c_base : Cal P w K mg base 7 "_law_base" spBase := cal_of F_base g_base b_base (ok_base F_base m_isinstance m_ValueError g_HouseError g_BadMark g_BadLetters teMH f_BadMark.ec kMM kMV kML c_never)
  exact ok_law F_law m_int m_range c_cell c_draws c_take c_letters c_texts c_long c_odd c_wrong_rows c_right c_refuses c_base
end Z
open PySem PySem.W PySem.Calls PyProof.Rows
theorem PySem.Challenge.cw_signedpacts_k49_four_duties_holds : PySem.Challenge.rw_signedpacts_k49_four_duties.Holds := by
  w_on; o_law
  refine HandSHeadRun.head_any (r := OpenLaw.row PySem.Challenge.rw_signedpacts_k49_four_duties) (q := view (OpenLaw.row PySem.Challenge.rw_signedpacts_k49_four_duties).prog [55]) (H := Z.hk) (ob := Z.ob) (M := 8000) (loose := Z.loose) (d := HandSHeadRun.topDef (OpenLaw.row PySem.Challenge.rw_signedpacts_k49_four_duties).prog 55) (kwd := []) Z.ob_eq
    (by kernel_rfl) (fun s => by kernel_rfl) Z.run (by kernel_rfl) (by kernel_rfl) (by kernel_rfl) (by rfl) (by first | assumption | decide +kernel) (by decide +kernel) ⟨rfl, rfl, rfl, rfl, rfl, by decide +kernel⟩ ?hw ?hc
  case hw => w_witness2
  case hc =>
    refine L2.walk_ofE (l := PySem.Challenge.rw_signedpacts_k49_four_duties) (n := 63) (k := 10) (x := "_law_script") (CX := L2.CX0) rfl (by decide) (by kernel_rfl) ⟨rfl, by decide, by decide⟩ ?F (fun _ _ _ _ z => z)
    intro w mg fa h Y G hmg0
    obtain ⟨K, KX, c, cs, cx⟩ := Y
    have hmg : mg ("law" : PySem.Str) = some (.ref fa) := by
      have e : (HandSHeadRun.topDef (OpenLaw.row PySem.Challenge.rw_signedpacts_k49_four_duties).prog 55).name = ("law" : PySem.Str) := by kernel_rfl
      rw [← e]
      exact hmg0
    obtain ⟨fd, hb, hF⟩ := Z.facts (P := (PySem.Challenge.rw_signedpacts_k49_four_duties).prog) (w := w) KX G hmg c cs cx (by kernel_rfl) (by kernel_rfl)
    exact ⟨K, fd, Z.spLaw K, KX, hb, fun H a ns hl _ hS => ⟨a, ns, rfl, hS, fun _ => rfl⟩, hF⟩
