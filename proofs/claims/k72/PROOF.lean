import PyProof.Rows.All
import Wide.All
import OpenK.AllK
import Wide.FinOn
import HandS.ForMost
import HandS.Flow
import HandS.Style
import HandS.Conv
import HandS.TupAny
import HandS.TupLe
import HandS.IsInst
import HandS.Deep
import HandS.Wide
import HandS.SortInts
import HandS.Codes
import KE.DataMinMax
import KE.DataAny
import KE.DataCmp
import KE.SortData
import KE.KTupSum
import KE.KIndexOf
import HandS.WideMore
import HandS.Strs
import HandS.TupMul
import PySem.Challenge.RW_wordslit_k72_whole_loops_and_their_level
set_option Elab.async false
set_option linter.all false
set_option maxRecDepth 100000
/-! J1: data values over the abstract heap: what stands for a datum (Rp), a view of the heap (Vw), steps (Fw). -/
namespace J
open PySem PySem.Spec PyProof.Rows L2

abbrev D := PyData
/-- the sign of a pile of drawn numbers in a view -/
def mark : HO := .xd []

/-! ### tuples without a dict of their own -/
def SqJ (K : PySem.W.Frag) (H : Hp) (a : Addr) (xs : List V) : Prop :=
  (∃ o : Obj, H a = some (.frz o (.tup xs)) ∧ o.dict = none) ∨
    ∃ (o : Obj) (its : Array Value) (n : Nat), K.lookup a = some o ∧ o.cls = .type "tuple" ∧ o.dict = none ∧ o.data = .seq its n ∧ its.size ≤ sizeLine ∧ Vals xs its.toList
abbrev tO (its : List Value) (xs : List V) : HO := .frz { cls := .type "tuple", data := .seq its.toArray } (.tup xs)
theorem SqJ.of {K : PySem.W.Frag} {H : Hp} {p : Addr} {its : List Value} {xs : List V} : SqJ K (upd H p (tO its xs)) p xs := .inl ⟨_, upd_same, rfl⟩
theorem SqJ.t {K : PySem.W.Frag} {H : Hp} {p : Addr} {xs : List V} (h : SqJ K H p xs) : SqT K H p xs := by
  rcases h with ⟨o, h, _⟩ | ⟨o, its, n, h, hc, _, hd, hz, r⟩
  · exact .inl (.inr ⟨o, h⟩)
  · exact .inr ⟨o, its, n, h, hc, hd, hz, r⟩
section
variable {X : Cx} {pins : List (Addr × Obj)} {σ : L2.St} {H : Hp} {s : Shared} {a : Addr} {xs : List V} {its : List Value}
theorem SqJ.is (I : Inv X pins σ H s) (h : SqJ X.K H a xs) : ∃ ob, s.heap.get? a = some ob ∧ ob.dict = none := by
  rcases h with ⟨o, h, hd⟩ | ⟨o, _, _, h, _, hd, _⟩
  · exact ⟨o, (I.hok a _ h).1, hd⟩
  · exact ⟨o, I.kIn a o h, hd⟩
theorem laidT (I : Inv X pins σ H s) (hz : xs.length ≤ sizeLine) (r : Vals xs its) : Inv X pins σ (upd H s.heap.objs.size (tO its xs)) { s with heap := s.heap.push { cls := .type "tuple", data := .seq its.toArray } } :=
  I.laid (t' := s.toks) (fun b o e => Heap.get?_push_of_some _ e) (Nat.le_refl _) (show ObjOk X.prog X.w _ _ _ (tO its xs) from ⟨Heap.get?_push_size _ rfl, hz, its, r, IsTup.new _ _⟩)
theorem newAt (I : Inv X pins σ H s) : H s.heap.objs.size = none := I.hok.fresh (Nat.le_refl _)
variable {e : Expr} {es : List Expr} {pos : Pos} {t : TA} {ta : TE}
/-- a new tuple -/
abbrev NewT (H : Hp) (xs : List V) (Q : VK) : Prop := ∀ p its, H p = none → Q (.ref p) (upd H p (tO its xs))
def tTupJ (t : TA) : TE := fun σ H Q => t σ H fun xs H1 => xs.length ≤ sizeLine ∧ NewT H1 xs Q
theorem pe_tupJ {x1} (h : PA X es t) : PE X (.Tuple es x1 pos) (tTupJ t) := by
  refine ⟨fun pins s σ H Q I hq => ?_⟩
  refine wpAny_Tuple_spliced (thn (h.run pos pins s σ H _ I hq) fun us s1 ⟨xs, H1, I1, r, z, q⟩ => ⟨by rw [← r.length]; exact z, ?_⟩)
  exact ⟨.ref _, _, laidT I1 z r, rfl, q _ _ (newAt I1)⟩
def kTupJ (K : PySem.W.Frag) (x : V) (H : Hp) (Q : VK) : Prop := (∃ p xs, x = .ref p ∧ SqL K H p xs ∧ NewT H xs Q) ∨ (∃ p xs, x = .ref p ∧ SqT K H p xs ∧ Q (.ref p) H)
theorem rl_tupleJ (pins : List (Addr × Obj)) (s : Shared) (σ : L2.St) (H : Hp) (x : V) (v : Value) (Q : VK) (I : Inv X pins σ H s) (r : RelV x v) (h : kTupJ X.K x H Q) :
    wpAny (model X.prog X.w) X.A (call (.type "tuple") [v]) (EP X pins σ Q) X.xe s := by
  rcases h with ⟨p, xs, rfl, hs, q⟩ | ⟨p, xs, rfl, hs, q⟩
  · obtain rfl : v = .ref p := r
    obtain ⟨its, rv, pl, hz⟩ := I.list hs
    refine call_tuple_list pl.isList (fun h' hk => ?_) (by rw [List.size_toArray, ← rv.length]; exact hz)
    have I1 : Inv X pins σ H { s with heap := h' } := I.kept (t' := s.toks) hk
    exact ⟨.ref _, _, laidT I1 hz rv, rfl, q _ _ (newAt I1)⟩
  · obtain rfl : v = .ref p := r
    obtain ⟨its, rv, pl, hz⟩ := I.tuple hs
    exact call_tuple_tup pl ⟨.ref p, H, I, rfl, q⟩
theorem pe_tupleOfJ {p pos : Pos} (hg : Gl X "tuple") (hm : X.mg "tuple" = none) (ha : PE X e ta) (na : starEach [e] X.env = (false, eval e X.env) :: starEach [] X.env := by rfl) : PE X (.Call (.Name "tuple" p) [e] [] pos) (tThen ta (kTupJ X.K)) := by
  refine ⟨fun pins s σ H Q I h => ?_⟩
  exact Call_ (ld_blt I hg hm boot_tuple (PyProof.Rows.callWith_type1 (one_arg ha I h (fun v s2 x H2 I2 r q => rl_tupleJ pins s2 σ H2 x v Q I2 r q) na) na))
def tTupRgJ (te : L2.St → Hp → (Int → Int → Hp → Prop) → Prop) : TE := fun σ H Q => te σ H fun a b H1 => RgOk a b ∧ NewT H1 (rgV a b) Q
theorem pe_tupRgJ {te : L2.St → Hp → (Int → Int → Hp → Prop) → Prop} {p pos : Pos} (hc : X.calm = true) (hg : Gl X "tuple") (hm : X.mg "tuple" = none) (he : PRg X e te) (na : starEach [e] X.env = (false, eval e X.env) :: starEach [] X.env := by rfl) : PE X (.Call (.Name "tuple" p) [e] [] pos) (tTupRgJ te) := by
  refine ⟨fun pins s σ H Q I h => ?_⟩
  refine Call_ (ld_blt I hg hm boot_tuple (PyProof.Rows.callWith_type1 (args_cons (thn (he pins s σ H _ I h) fun x s1 ⟨r, a, b, t, u, v, H1, ex, hr, I1, ok, q⟩ => args_nil ?_) na) na))
  subst ex
  obtain ⟨b1, b2, b3, b4, b5⟩ := ok
  refine call_tuple_range (n := (b - a).toNat) (I1.ok.hd hc) hr (small_one b1 b2 b3 b4) (rangeSize_nat a b) b5 fun h' tk acc hk hi => ?_
  have I2 : Inv X pins σ H1 { s1 with heap := h', toks := tk } := I1.kept hk
  have I3 := laidT (xs := rgV a b) I2 (by rw [rgV_length, sizeLine_eq]; omega) (vals_rg hi)
  rw [Array.toArray_toList] at I3
  exact ⟨.ref _, _, I3, rfl, by have := q _ acc.toList (newAt I2); rw [tO, Array.toArray_toList] at this; exact this⟩
def rCatJ (K : PySem.W.Frag) : R2 := fun x y H Q => ∃ a b xs ys, x = .ref a ∧ y = .ref b ∧ SqT K H a xs ∧ SqT K H b ys ∧ xs.length + ys.length ≤ sizeLine ∧
  (xs = [] → Q (.ref b) H) ∧ (xs ≠ [] → ys = [] → Q (.ref a) H) ∧ (xs ≠ [] → ys ≠ [] → NewT H (xs ++ ys) Q)
theorem op_catJ : OpR X (binaryOp .Add) (rCatJ X.K) := by
  intro pins s σ H x y v u Q I rx ry h
  obtain ⟨a, b, xs, ys, rfl, rfl, ha, hb, hz, q0, q1, q2⟩ := h
  cases rx
  cases ry
  obtain ⟨its, r1, p1, _⟩ := I.tuple ha
  obtain ⟨its2, r2, p2, _⟩ := I.tuple hb
  by_cases hx : xs = []
  · subst hx
    cases r1
    exact cat_tup0 p1 p2 ⟨.ref b, H, I, rfl, q0 rfl⟩
  · refine HT.cat_tup p1 p2 (fun z => hx (r1.nil_iff.mp z)) (fun z => ⟨.ref a, H, I, rfl, q1 hx (r2.nil_iff.mp z)⟩) (fun z => ?_) (by rw [← r1.length, ← r2.length]; exact hz)
    exact ⟨.ref _, _, laidT I (by rw [List.length_append]; exact hz) (r1.append r2), rfl, q2 hx (fun w => z (r2.nil_iff.mpr w)) _ _ (newAt I)⟩
def rSlJ (K : PySem.W.Frag) : V → Option Int → Option Int → Hp → VK → Prop := fun x lo hi H Q => ∃ a xs, x = .ref a ∧ SqT K H a xs ∧
  (HT.sIx xs.length 0 lo = 0 ∧ HT.sIx xs.length xs.length hi = xs.length → Q (.ref a) H) ∧ (¬ (HT.sIx xs.length 0 lo = 0 ∧ HT.sIx xs.length xs.length hi = xs.length) → NewT H (cutV xs lo hi) Q)
theorem sl_tupJ : SlR X (rSlJ X.K) := by
  intro pins s σ H x v vl vu lo hi sl Q I rx hs pl pu h
  obtain ⟨a, xs, rfl, hx, q1, q2⟩ := h
  cases rx
  obtain ⟨its, r, ht, hz⟩ := I.tuple hx
  have hlen : its.toArray.size = xs.length := by rw [List.size_toArray]; exact r.length.symm
  refine ⟨"tuple", _, PyProof.Rows.slot_tuple_getitem.lookup, ht.typeIs, ?_⟩
  by_cases hw : HT.sIx xs.length 0 lo = 0 ∧ HT.sIx xs.length xs.length hi = xs.length
  · exact getItem_tuple_whole ht hs pl pu (by rw [hlen]; exact hw) ⟨.ref a, H, I, rfl, q1 hw⟩
  · refine HT.getItem_tuple_cut ht hs pl pu (by rw [hlen]; exact hw) ?_ (by rw [hlen]; exact hz)
    rw [hlen]
    exact ⟨.ref _, _, laidT (xs := cutV xs lo hi) I (Nat.le_trans (cutV_length xs lo hi) hz) ((r.drop (HT.sIx xs.length 0 lo)).take (HT.sIx xs.length xs.length hi - HT.sIx xs.length 0 lo)), rfl, q2 hw _ _ (newAt I)⟩
end

mutual
inductive Rp (K : PySem.W.Frag) (H : Hp) : V → D → Prop
  | non : Rp K H .non .none
  | bl (b : Bool) : Rp K H (.bl b) (.bool b)
  | int (i : Int) : Rp K H (.int i) (.int i)
  | str (x : Str) : Rp K H (.str x) (.str x)
  | lst {a : Addr} {xs : List V} {ds : List D} : SqL K H a xs → RpAll K H xs ds → ds.length ≤ sizeLine → Rp K H (.ref a) (.list ds)
  | tup {a : Addr} {xs : List V} {ds : List D} : SqJ K H a xs → RpAll K H xs ds → ds.length ≤ sizeLine → Rp K H (.ref a) (.tuple ds)
  | hnd {a : Addr} : H a = some mark → Rp K H (.ref a) (.dict [])
inductive RpAll (K : PySem.W.Frag) (H : Hp) : List V → List D → Prop
  | nil : RpAll K H [] []
  | cons {v : V} {vs : List V} {d : D} {ds : List D} : Rp K H v d → RpAll K H vs ds → RpAll K H (v :: vs) (d :: ds)
end

/-- a drawn pile: ints from 0 -/
def Pile (H : Hp) (a : Addr) : Prop := ∃ ns : List Int, H a = some (.lst (ns.map V.int)) ∧ ∀ n ∈ ns, 0 ≤ n

/-- Hv is a view of H: what it shows stands in H; a mark stands for a pile -/
def Vw (Hv H : Hp) : Prop := ∀ a o, Hv a = some o → (o = mark ∧ Pile H a) ∨ (o ≠ mark ∧ H a = some o)

/-- plain data, n deep -/
def lv : Nat → D → Bool
  | _, .none => true
  | _, .bool _ => true
  | _, .int _ => true
  | _, .str x => PyData.strOk x
  | n + 1, .list ds => ds.all (lv n)
  | n + 1, .tuple ds => ds.all (lv n)
  | _, _ => false
/-- data in which no list stands -/
def pl : Nat → D → Bool
  | _, .none => true
  | _, .bool _ => true
  | _, .int _ => true
  | _, .str _ => true
  | _, .dict _ => true
  | n + 1, .tuple ds => ds.all (pl n)
  | _, _ => false

section
variable {K : PySem.W.Frag} {H H' Hv Hv' : Hp}

theorem sql_mono {a : Addr} {xs : List V} (e : Same H H') (h : SqL K H a xs) : SqL K H' a xs := e.seq h
theorem sqt_mono {a : Addr} {xs : List V} (e : Same H H') (h : SqJ K H a xs) : SqJ K H' a xs := by
  rcases h with ⟨o, h, d⟩ | h
  · exact .inl ⟨o, e _ _ h, d⟩
  · exact .inr h

mutual
theorem Rp.mono (e : Same H H') : ∀ (d : D) (v : V), Rp K H v d → Rp K H' v d
  | .none, _, h => by cases h; exact .non
  | .bool b, _, h => by cases h; exact .bl b
  | .int i, _, h => by cases h; exact .int i
  | .str x, _, h => by cases h; exact .str x
  | .list ds, _, h => by
    cases h with
    | lst hs ha hl => exact .lst (sql_mono e hs) (Rp.monoAll e ds _ ha) hl
  | .tuple ds, _, h => by
    cases h with
    | tup hs ha hl => exact .tup (sqt_mono e hs) (Rp.monoAll e ds _ ha) hl
  | .dict kvs, _, h => by
    cases h with
    | hnd hm => exact .hnd (e _ _ hm)
theorem Rp.monoAll (e : Same H H') : ∀ (ds : List D) (vs : List V), RpAll K H vs ds → RpAll K H' vs ds
  | [], _, h => by cases h; exact .nil
  | d :: ds, _, h => by
    cases h with
    | cons h1 h2 => exact .cons (Rp.mono e d _ h1) (Rp.monoAll e ds _ h2)
end

theorem Vw.sql {a : Addr} {xs : List V} (e : Vw Hv H) (h : SqL K Hv a xs) : SqL K H a xs := by
  rcases h with (h | ⟨o, h⟩) | h
  · rcases e _ _ h with ⟨q, _⟩ | ⟨_, q⟩
    · cases q
    · exact .inl (.inl q)
  · rcases e _ _ h with ⟨q, _⟩ | ⟨_, q⟩
    · cases q
    · exact .inl (.inr ⟨o, q⟩)
  · exact .inr h
theorem Vw.sqj {a : Addr} {xs : List V} (e : Vw Hv H) (h : SqJ K Hv a xs) : SqJ K H a xs := by
  rcases h with ⟨o, h, d⟩ | h
  · rcases e _ _ h with ⟨q, _⟩ | ⟨_, q⟩
    · cases q
    · exact .inl ⟨o, q, d⟩
  · exact .inr h
theorem Vw.sqt {a : Addr} {xs : List V} (e : Vw Hv H) (h : SqJ K Hv a xs) : SqT K H a xs := (e.sqj h).t
mutual
/-- plain data of a view stands in the heap -/
theorem Rp.dp (e : Vw Hv H) : ∀ (n : Nat) (d : D) (v : V), lv n d = true → Rp K Hv v d → Dp K H v d
  | _, .none, _, _, h => by cases h; exact .non
  | _, .bool b, _, _, h => by cases h; exact .bl b
  | _, .int i, _, _, h => by cases h; exact .int i
  | _, .str x, _, _, h => by cases h; exact .str x
  | 0, .list ds, _, l, _ => by simp [lv] at l
  | n + 1, .list ds, _, l, h => by
    cases h with
    | lst hs ha hl => exact .lst (e.sql hs) (Rp.dpAll e n ds _ (by simpa [lv] using l) ha)
  | 0, .tuple ds, _, l, _ => by simp [lv] at l
  | n + 1, .tuple ds, _, l, h => by
    cases h with
    | tup hs ha hl => exact .tup (e.sqt hs) (Rp.dpAll e n ds _ (by simpa [lv] using l) ha)
  | 0, .dict kvs, _, l, _ => by simp [lv] at l
  | n + 1, .dict kvs, _, l, _ => by simp [lv] at l
theorem Rp.dpAll (e : Vw Hv H) : ∀ (n : Nat) (ds : List D) (vs : List V), (∀ d ∈ ds, lv n d = true) → RpAll K Hv vs ds → DpAll K H vs ds
  | _, [], _, _, h => by cases h; exact .nil
  | n, d :: ds, _, l, h => by
    cases h with
    | cons h1 h2 => exact .cons (Rp.dp e n d _ (l d (by simp)) h1) (Rp.dpAll e n ds _ (fun x hx => l x (by simp [hx])) h2)
end
mutual
theorem lv_canLay : ∀ (n : Nat) (d : D), lv n d = true → d.canLay0 = true ∧ d.depth ≤ n
  | n, .none, _ => ⟨by simp [PyData.canLay0], by simp [PyData.depth]⟩
  | n, .bool b, _ => ⟨by simp [PyData.canLay0], by simp [PyData.depth]⟩
  | n, .int i, _ => ⟨by simp [PyData.canLay0], by simp [PyData.depth]⟩
  | n, .str x, l => ⟨by simpa [PyData.canLay0, lv] using l, by simp [PyData.depth]⟩
  | 0, .list ds, l => by simp [lv] at l
  | n + 1, .list ds, l => by
    have h := lv_canLayAll n ds (by simpa [lv] using l)
    exact ⟨by simp only [PyData.canLay0]; exact h.1, by simp only [PyData.depth]; have := h.2; omega⟩
  | 0, .tuple ds, l => by simp [lv] at l
  | n + 1, .tuple ds, l => by
    have h := lv_canLayAll n ds (by simpa [lv] using l)
    exact ⟨by simp only [PyData.canLay0]; exact h.1, by simp only [PyData.depth]; have := h.2; omega⟩
  | 0, .dict kvs, l => by simp [lv] at l
  | n + 1, .dict kvs, l => by simp [lv] at l
theorem lv_canLayAll : ∀ (n : Nat) (ds : List D), (∀ d ∈ ds, lv n d = true) → PyData.canLayAll0 ds = true ∧ PyData.depthAll ds ≤ n
  | n, [], _ => ⟨by simp [PyData.canLayAll0], by simp [PyData.depthAll]⟩
  | n, d :: ds, l => by
    have h1 := lv_canLay n d (l d (by simp))
    have h2 := lv_canLayAll n ds (fun x hx => l x (by simp [hx]))
    refine ⟨by simp only [PyData.canLayAll0, h1.1, h2.1, Bool.and_self], ?_⟩
    simp only [PyData.depthAll]
    have := h1.2
    have := h2.2
    omega
end
theorem lv_shaped {n : Nat} {d : D} (h : lv n d = true) (hn : n ≤ 64 := by decide) : SeqAt.shaped d = true := by
  have q := lv_canLay n d h
  unfold SeqAt.shaped
  rw [q.1, Bool.true_and]
  exact decide_eq_true (Nat.le_trans q.2 hn)

mutual
/-- data without lists stays where lists are taken out of the view -/
theorem Rp.less (hv : ∀ a o, Hv a = some o → (∀ xs, o ≠ .lst xs) → Hv' a = some o) : ∀ (n : Nat) (d : D) (v : V), pl n d = true → Rp K Hv v d → Rp K Hv' v d
  | _, .none, _, _, h => by cases h; exact .non
  | _, .bool b, _, _, h => by cases h; exact .bl b
  | _, .int i, _, _, h => by cases h; exact .int i
  | _, .str x, _, _, h => by cases h; exact .str x
  | 0, .list ds, _, l, _ => by simp [pl] at l
  | n + 1, .list ds, _, l, h => by simp [pl] at l
  | 0, .tuple ds, _, l, _ => by simp [pl] at l
  | n + 1, .tuple ds, _, l, h => by
    cases h with
    | tup hs ha hl =>
      refine .tup ?_ (Rp.lessAll hv n ds _ (by simpa [pl] using l) ha) hl
      rcases hs with ⟨o, h, d⟩ | h
      · exact .inl ⟨o, hv _ _ h (by intro xs q; cases q), d⟩
      · exact .inr h
  | _, .dict kvs, _, l, h => by
    cases h with
    | hnd hm => exact .hnd (hv _ _ hm (by intro xs q; cases q))
theorem Rp.lessAll (hv : ∀ a o, Hv a = some o → (∀ xs, o ≠ .lst xs) → Hv' a = some o) : ∀ (n : Nat) (ds : List D) (vs : List V), (∀ d ∈ ds, pl n d = true) → RpAll K Hv vs ds → RpAll K Hv' vs ds
  | _, [], _, _, h => by cases h; exact .nil
  | n, d :: ds, _, l, h => by
    cases h with
    | cons h1 h2 => exact .cons (Rp.less hv n d _ (l d (by simp)) h1) (Rp.lessAll hv n ds _ (fun x hx => l x (by simp [hx])) h2)
end

theorem RpAll.length : ∀ {vs : List V} {ds : List D}, RpAll K H vs ds → vs.length = ds.length
  | _, _, .nil => rfl
  | _, _, .cons _ t => by simp [RpAll.length t]
theorem RpAll.get : ∀ {vs : List V} {ds : List D} {i : Nat} {d : D}, RpAll K H vs ds → ds[i]? = some d → ∃ v, vs[i]? = some v ∧ Rp K H v d
  | _, _, _, _, .nil, e => by simp at e
  | _, _, 0, _, .cons h _, e => by simp at e; subst e; exact ⟨_, rfl, h⟩
  | _, _, i + 1, _, .cons _ t, e => by
    obtain ⟨v, q, r⟩ := RpAll.get (i := i) t (by simpa using e)
    exact ⟨v, by simpa using q, r⟩
theorem RpAll.getV : ∀ {vs : List V} {ds : List D} {i : Nat} {v : V}, RpAll K H vs ds → vs[i]? = some v → ∃ d, ds[i]? = some d ∧ Rp K H v d
  | _, _, _, _, .nil, e => by simp at e
  | _, _, 0, _, .cons h _, e => by simp at e; subst e; exact ⟨_, rfl, h⟩
  | _, _, i + 1, _, .cons _ t, e => by
    obtain ⟨v, q, r⟩ := RpAll.getV (i := i) t (by simpa using e)
    exact ⟨v, by simpa using q, r⟩
theorem RpAll.append : ∀ {vs ws : List V} {ds es : List D}, RpAll K H vs ds → RpAll K H ws es → RpAll K H (vs ++ ws) (ds ++ es)
  | _, _, _, _, .nil, h => h
  | _, _, _, _, .cons a t, h => .cons a (RpAll.append t h)
theorem RpAll.drop : ∀ {vs : List V} {ds : List D} (n : Nat), RpAll K H vs ds → RpAll K H (vs.drop n) (ds.drop n)
  | _, _, 0, h => h
  | _, _, _ + 1, .nil => .nil
  | _, _, n + 1, .cons _ t => RpAll.drop n t
theorem RpAll.take : ∀ {vs : List V} {ds : List D} (n : Nat), RpAll K H vs ds → RpAll K H (vs.take n) (ds.take n)
  | _, _, 0, _ => .nil
  | _, _, _ + 1, .nil => .nil
  | _, _, n + 1, .cons a t => .cons a (RpAll.take n t)
theorem RpAll.set {v : V} {d : D} (r : Rp K H v d) : ∀ {vs : List V} {ds : List D} (i : Nat), RpAll K H vs ds → RpAll K H (vs.set i v) (ds.set i d)
  | _, _, _, .nil => .nil
  | _, _, 0, .cons _ t => .cons r t
  | _, _, i + 1, .cons q t => .cons q (RpAll.set r i t)
theorem RpAll.one {v : V} {d : D} (h : Rp K H v d) : RpAll K H [v] [d] := .cons h .nil
theorem RpAll.rev : ∀ {vs : List V} {ds : List D}, RpAll K H vs ds → RpAll K H vs.reverse ds.reverse
  | _, _, .nil => .nil
  | _, _, .cons a t => by
    rw [List.reverse_cons, List.reverse_cons]
    exact RpAll.append (RpAll.rev t) (.one a)
theorem RpAll.ints : ∀ (ns : List Int), RpAll K H (ns.map V.int) (ns.map PyData.int)
  | [] => .nil
  | n :: ns => .cons (.int n) (RpAll.ints ns)
/-- values of ints are these ints -/
theorem RpAll.of_ints : ∀ {vs : List V} {ns : List Int}, RpAll K H vs (ns.map PyData.int) → vs = ns.map V.int
  | [], [], _ => rfl
  | [], _ :: _, h => by cases h
  | _ :: _, [], h => by cases h
  | v :: vs, n :: ns, h => by
    cases h with
    | cons a t =>
      cases a
      rw [RpAll.of_ints t]
      rfl
theorem RpAll.of_strs : ∀ {vs : List V} {ns : List Str}, RpAll K H vs (ns.map PyData.str) → vs = ns.map V.str
  | [], [], _ => rfl
  | [], _ :: _, h => by cases h
  | _ :: _, [], h => by cases h
  | v :: vs, n :: ns, h => by
    cases h with
    | cons a t =>
      cases a
      rw [RpAll.of_strs t]
      rfl
theorem RpAll.of_bls : ∀ {vs : List V} {ns : List Bool}, RpAll K H vs (ns.map PyData.bool) → vs = ns.map V.bl
  | [], [], _ => rfl
  | [], _ :: _, h => by cases h
  | _ :: _, [], h => by cases h
  | v :: vs, n :: ns, h => by
    cases h with
    | cons a t =>
      cases a
      rw [RpAll.of_bls t]
      rfl
/-- permuting items -/
theorem RpAll.perm_mem {vs : List V} {ds : List D} (h : RpAll K H vs ds) : ∀ v ∈ vs, ∃ d ∈ ds, Rp K H v d := fun v hv => by
  obtain ⟨i, hi, e⟩ := List.mem_iff_getElem.mp hv
  obtain ⟨d, q, r⟩ := h.getV (i := i) (v := v) (by rw [List.getElem?_eq_getElem hi, e])
  exact ⟨d, List.mem_of_getElem? q, r⟩

/-! ### steps -/
structure Fw (Hv H Hv' H' : Hp) : Prop where
  ext : Same Hv Hv'
  vw : Vw Hv' H'
  keep : ∀ a o, Hv a = none → H a = some o → H' a = some o
  fresh : ∀ a, Hv a = none → Hv' a ≠ none → H a = none

theorem Fw.refl (h : Vw Hv H) : Fw Hv H Hv H := ⟨Same.refl _, h, fun _ _ _ e => e, fun _ e q => absurd e q⟩
theorem Fw.trans {Hv1 H1 Hv2 H2 : Hp} (a : Fw Hv H Hv1 H1) (b : Fw Hv1 H1 Hv2 H2) : Fw Hv H Hv2 H2 where
  ext := a.ext.trans b.ext
  vw := b.vw
  keep := fun x o e h => by
    refine b.keep x o ?_ (a.keep x o e h)
    cases q : Hv1 x with
    | none => rfl
    | some u =>
      have z := a.fresh x e (by rw [q]; simp)
      rw [z] at h
      cases h
  fresh := fun x e h => by
    cases q : Hv1 x with
    | some u => exact a.fresh x e (by rw [q]; simp)
    | none =>
      have z := b.fresh x q h
      cases y : H x with
      | none => rfl
      | some o =>
        rw [a.keep x o e y] at z
        cases z
theorem mark_ne_lst {xs : List V} : HO.lst xs ≠ mark := by intro q; cases q
theorem mark_ne_tup {its : List Value} {xs : List V} : tO its xs ≠ mark := by intro q; cases q
theorem Vw.none_of {a : Addr} (h : Vw Hv H) (e : H a = none) : Hv a = none := by
  cases q : Hv a with
  | none => rfl
  | some o =>
    rcases h a o q with ⟨_, ns, z, _⟩ | ⟨_, z⟩ <;> (rw [e] at z; cases z)
/-- a new object is laid and shown -/
theorem Fw.new {a : Addr} {o : HO} (h : Vw Hv H) (n : H a = none) (m : o ≠ mark) : Fw Hv H (upd Hv a o) (upd H a o) where
  ext := fun b u e => by
    have := h.none_of n
    rw [upd_ne (ne_of_none e this)]
    exact e
  vw := fun b u e => by
    by_cases q : b = a
    · subst q
      rw [upd_same] at e
      cases e
      exact .inr ⟨m, upd_same⟩
    · rw [upd_ne q] at e
      rcases h b u e with ⟨z, ns, y, w⟩ | ⟨z, y⟩
      · exact .inl ⟨z, ns, by rw [upd_ne q]; exact y, w⟩
      · exact .inr ⟨z, by rw [upd_ne q]; exact y⟩
  keep := fun b u _ e => by
    rw [upd_ne (ne_of_none e n)]
    exact e
  fresh := fun b e q => by
    by_cases z : b = a
    · rw [z]; exact n
    · rw [upd_ne z] at q
      exact absurd e q
/-- a new object is laid and not shown -/
theorem Fw.newU {a : Addr} {o : HO} (h : Vw Hv H) (n : H a = none) : Fw Hv H Hv (upd H a o) where
  ext := Same.refl _
  vw := fun b u e => by
    have q : b ≠ a := fun z => by
      rw [z, h.none_of n] at e
      cases e
    rcases h b u e with ⟨z, ns, y, w⟩ | ⟨z, y⟩
    · exact .inl ⟨z, ns, by rw [upd_ne q]; exact y, w⟩
    · exact .inr ⟨z, by rw [upd_ne q]; exact y⟩
  keep := fun b u _ e => by
    rw [upd_ne (ne_of_none e n)]
    exact e
  fresh := fun b e q => absurd e q
/-- an object of the heap that is not shown is shown -/
theorem Fw.show_ {a : Addr} {o : HO} (h : Vw Hv H) (m : o ≠ mark) (hv : Hv a = none) (e : H a = some o) : Vw (upd Hv a o) H := fun b u q => by
  by_cases z : b = a
  · subst z
    rw [upd_same] at q
    cases q
    exact .inr ⟨m, e⟩
  · rw [upd_ne z] at q
    exact h b u q
theorem same_upd {a : Addr} {o : HO} (hv : Hv a = none) : Same Hv (upd Hv a o) := fun b u e => by
  rw [upd_ne (ne_of_none e hv)]
  exact e
end
end J

/-! J2: slots, expressions. -/
namespace J
open PySem PySem.Spec PyProof.Rows L2

/-- a slot: nothing told; a datum; a list of the def's own (it may still be changed) -/
inductive Slot where
  | no
  | val (d : D)
  | own (ds : List D)
abbrev En := List Slot
def Slot.rd : Slot → Option D
  | .no => none
  | .val d => some d
  | .own ds => some (.list ds)
def rd (e : En) (i : Nat) : Option D := (e[i]?).bind Slot.rd

/-- all that a slot shows stands in the view -/
structure Er (K : PySem.W.Frag) (Hv : Hp) (e : En) (σ : L2.St) : Prop where
  len : e.length = σ.length
  get : ∀ i d, rd e i = some d → ∃ v, σ[i]? = some (some v) ∧ Rp K Hv v d
theorem Er.mono {K : PySem.W.Frag} {Hv Hv' : Hp} {e : En} {σ : L2.St} (h : Er K Hv e σ) (m : Same Hv Hv') : Er K Hv' e σ := ⟨h.len, fun i d q => by
  obtain ⟨v, a, b⟩ := h.get i d q
  exact ⟨v, a, b.mono m⟩⟩

abbrev EX := En → (D → Prop) → Prop
abbrev NX := En → (List D → Prop) → Prop
abbrev TX := En → (Bool → Prop) → Prop

def te (K : PySem.W.Frag) (m : EX) : TE := fun σ H Q => ∃ Hv e QD, Er K Hv e σ ∧ Vw Hv H ∧ m e QD ∧ ∀ d v Hv' H', Fw Hv H Hv' H' → Rp K Hv' v d → QD d → Q v H'
def tn (K : PySem.W.Frag) (m : NX) : TE := fun σ H Q => ∃ Hv e QD, Er K Hv e σ ∧ Vw Hv H ∧ m e QD ∧
  ∀ ds p xs Hv' H', Fw Hv H Hv' H' → Hv' p = none → H p = none → H' p = some (.lst xs) → RpAll K Hv' xs ds → ds.length ≤ sizeLine → QD ds → Q (.ref p) H'
def tt (K : PySem.W.Frag) (m : TX) : TT := fun σ H Q => ∃ Hv e QD, Er K Hv e σ ∧ Vw Hv H ∧ m e QD ∧ ∀ b Hv' H', Fw Hv H Hv' H' → QD b → Q b H'
def DE (X : Cx) (x : Expr) (m : EX) : Prop := PE X x (te X.K m)
def DN (X : Cx) (x : Expr) (m : NX) : Prop := PE X x (tn X.K m)
def DT (X : Cx) (x : Expr) (m : TX) : Prop := PT X x (tt X.K m)
def DW (X : Cx) (x : Expr) (m : TX) : Prop := PW X x (tt X.K m)

theorem peW {X : Cx} {x : Expr} {t t' : TE} (h : PE X x t) (w : ∀ σ H Q, t' σ H Q → t σ H Q) : PE X x t' := ⟨fun pins s σ H Q I q => h.run pins s σ H Q I (w σ H Q q)⟩
theorem ptW {X : Cx} {x : Expr} {t t' : TT} (h : PT X x t) (w : ∀ σ H Q, t' σ H Q → t σ H Q) : PT X x t' := ⟨fun pins s σ H Q I q => h.run pins s σ H Q I (w σ H Q q)⟩
theorem pwW {X : Cx} {x : Expr} {t t' : TT} (h : PW X x t) (w : ∀ σ H Q, t' σ H Q → t σ H Q) : PW X x t' := ⟨fun wh pins s σ H Q I q => h.run wh pins s σ H Q I (w σ H Q q)⟩

/-! ### arguments -/
def tas (K : PySem.W.Frag) : List EX → TA
  | [] => tNil
  | m :: ms => tCons (te K m) (tas K ms)
def evA : List EX → En → (List D → Prop) → Prop
  | [], _, Q => Q []
  | m :: ms, e, Q => m e fun d => evA ms e fun ds => Q (d :: ds)
def DA (X : Cx) (es : List Expr) (ms : List EX) : Prop := PA X es (tas X.K ms)
section
variable {X : Cx} {K : PySem.W.Frag} {x a b : Expr} {es : List Expr} {pos : Pos} {m ma mb : EX} {ms : List EX}
theorem da_nil : DA X [] [] := pa_nil
theorem da_cons (h : DE X x m) (t : DA X es ms) (hs : starEach (x :: es) X.env = (false, eval x X.env) :: starEach es X.env := by rfl) : DA X (x :: es) (m :: ms) := pa_cons h t hs
theorem tas_ok : ∀ (ms : List EX) {Hv H : Hp} {e : En} {σ : L2.St} {QD : List D → Prop} {Q : List V → Hp → Prop}, Er K Hv e σ → Vw Hv H → evA ms e QD →
    (∀ ds vs Hv' H', Fw Hv H Hv' H' → RpAll K Hv' vs ds → ds.length = ms.length → QD ds → Q vs H') → tas K ms σ H Q
  | [], Hv, H, e, σ, QD, Q, er, vw, h, k => k [] [] Hv H (.refl vw) .nil rfl h
  | m :: ms, Hv, H, e, σ, QD, Q, er, vw, h, k =>
    ⟨Hv, e, _, er, vw, h, fun d v Hv1 H1 f1 r1 q1 => tas_ok ms (er.mono f1.ext) f1.vw q1 fun ds vs Hv2 H2 f2 r2 l q2 =>
      k (d :: ds) (v :: vs) Hv2 H2 (f1.trans f2) (.cons (r1.mono f2.ext) r2) (by simp [l]) q2⟩

/-! ### names, constants -/
def eVar (i : Nat) : EX := fun e Q => ∃ d, rd e i = some d ∧ Q d
def eC (d : D) : EX := fun _ Q => Q d
theorem d_var (i : Nat) {x : Str} {pos : Pos} (hN : X.N[i]? = some x := by rfl) (hv : Vis X.env.scope x := by first | exact Or.inl rfl | exact Or.inr (Or.inl rfl) | exact Or.inr (Or.inr rfl)) (hd : (x == ("__debug__" : Str)) = false := by decide)
    (hcd : (x == ("__classdict__" : Str)) = false := by decide) : DE X (.Name x pos) (eVar i) :=
  peW (pe_var hN hv hd hcd) fun σ H Q ⟨Hv, e, QD, er, vw, ⟨d, hr, q⟩, k⟩ => by
    obtain ⟨v, a, b⟩ := er.get i d hr
    exact ⟨v, a, k d v Hv H (.refl vw) b q⟩
theorem d_const {v : V} {d : D} (h : PE X x (tC v)) (r : ∀ Hv, Rp X.K Hv v d) : DE X x (eC d) := peW h fun σ H Q ⟨Hv, e, QD, er, vw, q, k⟩ => k d v Hv H (.refl vw) (r Hv) q
theorem d_int {i j pos} : DE X (.Constant (.int i) j pos) (eC (.int i)) := d_const pe_int fun _ => .int i
theorem d_bl {b j pos} : DE X (.Constant (.bool b) j pos) (eC (.bool b)) := d_const pe_bl fun _ => .bl b
theorem d_non {j pos} : DE X (.Constant .none j pos) (eC .none) := d_const pe_non fun _ => .non
theorem d_str {x j pos} : DE X (.Constant (.str x) j pos) (eC (.str x)) := d_const pe_str fun _ => .str x

/-! ### operators -/
abbrev W2 := D → D → (D → Prop) → Prop
abbrev W1 := D → (D → Prop) → Prop
abbrev WL := List D → (D → Prop) → Prop
def rW2 (K : PySem.W.Frag) (W : W2) : R2 := fun x y H Q => ∃ Hv dx dy QD, Vw Hv H ∧ Rp K Hv x dx ∧ Rp K Hv y dy ∧ W dx dy QD ∧ ∀ d v Hv' H', Fw Hv H Hv' H' → Rp K Hv' v d → QD d → Q v H'
def rW1 (K : PySem.W.Frag) (W : W1) : V → Hp → VK → Prop := fun x H Q => ∃ Hv dx QD, Vw Hv H ∧ Rp K Hv x dx ∧ W dx QD ∧ ∀ d v Hv' H', Fw Hv H Hv' H' → Rp K Hv' v d → QD d → Q v H'
def rWL (K : PySem.W.Frag) (W : WL) : List V → Hp → VK → Prop := fun xs H Q => ∃ Hv ds QD, Vw Hv H ∧ RpAll K Hv xs ds ∧ W ds QD ∧ ∀ d v Hv' H', Fw Hv H Hv' H' → Rp K Hv' v d → QD d → Q v H'
def eOp (W : W2) (ma mb : EX) : EX := fun e Q => ma e fun x => mb e fun y => W x y Q
def eUn (W : W1) (ma : EX) : EX := fun e Q => ma e fun x => W x Q
def eCall (W : WL) (ms : List EX) : EX := fun e Q => evA ms e fun ds => W ds Q
theorem opW {f : Value → Value → Sem Value} {r r' : R2} (h : OpR X f r) (w : ∀ x y H Q, r' x y H Q → r x y H Q) : OpR X f r' := fun pins s σ H x y v u Q I rx ry q => h pins s σ H x y v u Q I rx ry (w x y H Q q)
theorem unW {f : Value → Sem Value} {r r' : V → Hp → VK → Prop} (h : UnR X f r) (w : ∀ x H Q, r' x H Q → r x H Q) : UnR X f r' := fun pins s σ H x v Q I rx q => h pins s σ H x v Q I rx (w x H Q q)
theorem callW {f : Value} {r r' : List V → Hp → VK → Prop} (h : CallR X f r) (w : ∀ x H Q, r' x H Q → r x H Q) : CallR X f r' := fun pins s σ H xs us Q I rx q => h pins s σ H xs us Q I rx (w xs H Q q)
theorem te_op {W : W2} {σ : L2.St} {H : Hp} {Q : VK} (h : te K (eOp W ma mb) σ H Q) : tOp (rW2 K W) (te K ma) (te K mb) σ H Q := by
  obtain ⟨Hv, e, QD, er, vw, hm, k⟩ := h
  exact ⟨Hv, e, _, er, vw, hm, fun d v Hv1 H1 f1 r1 q1 => ⟨Hv1, e, _, er.mono f1.ext, f1.vw, q1, fun d2 v2 Hv2 H2 f2 r2 q2 =>
    ⟨Hv2, d, d2, QD, f2.vw, r1.mono f2.ext, r2, q2, fun d3 v3 Hv3 H3 f3 r3 q3 => k d3 v3 Hv3 H3 (f1.trans (f2.trans f3)) r3 q3⟩⟩⟩
theorem d_op {op : Operator} {W : W2} (ho : OpR X (binaryOp op) (rW2 X.K W)) (ha : DE X a ma) (hb : DE X b mb) : DE X (.BinOp a op b pos) (eOp W ma mb) := peW (pe_op ho ha hb) fun _ _ _ h => te_op h
theorem d_un {op : UnaryOp} {W : W1} (ho : UnR X (unaryOp op) (rW1 X.K W)) (ha : DE X a ma) : DE X (.UnaryOp op a pos) (eUn W ma) := peW (pe_un ho ha) fun σ H Q ⟨Hv, e, QD, er, vw, hm, k⟩ =>
  ⟨Hv, e, _, er, vw, hm, fun d v Hv1 H1 f1 r1 q1 => ⟨Hv1, d, QD, f1.vw, r1, q1, fun d3 v3 Hv3 H3 f3 r3 q3 => k d3 v3 Hv3 H3 (f1.trans f3) r3 q3⟩⟩
theorem d_cmp {op : CmpOp} {W : W2} (ho : OpR X (compareOp op) (rW2 X.K W)) (ha : DE X a ma) (hb : DE X b mb) (hm : behindInMarks op b = false) : DE X (.Compare a [op] [b] pos) (eOp W ma mb) := peW (pe_cmpR ho ha hb hm) fun _ _ _ h => te_op h

/-! ### results that are scalars -/
theorem Fw.r {Hv H : Hp} (h : Vw Hv H) : Fw Hv H Hv H := .refl h

def MulOk (i j : Int) : Prop := CMul i j ∨ CMulW i j
def DivOk (i j : Int) : Prop := CDiv i j ∨ CDivW i j
def wAdd : W2
  | .int i, .int j, Q => Q (.int (i + j))
  | .tuple xs, .tuple ys, Q => xs.length + ys.length ≤ sizeLine ∧ Q (.tuple (xs ++ ys))
  | .list xs, .list ys, Q => xs.length + ys.length ≤ sizeLine ∧ Q (.list (xs ++ ys))
  | .str x, .str y, Q => x.length + y.length ≤ sizeLine ∧ Q (.str (x ++ y))
  | _, _, _ => False
def wSub : W2
  | .int i, .int j, Q => Q (.int (i - j))
  | _, _, _ => False
def wMul : W2
  | .int i, .int j, Q => MulOk i j ∧ Q (.int (i * j))
  | _, _, _ => False
def wDiv : W2
  | .int i, .int j, Q => DivOk i j ∧ Q (.int (i / j))
  | _, _, _ => False
def wMod : W2
  | .int i, .int j, Q => 0 < j ∧ Q (.int (i % j))
  | _, _, _ => False
def wPow : W2
  | .int i, .int j, Q => CPow i j ∧ Q (.int (i ^ j.toNat))
  | _, _, _ => False
def wNeg : W1
  | .int i, Q => Q (.int (-i))
  | _, _ => False
/-- a list's items joined: a new list (HandS's rule wants tracked lists; this one any) -/
theorem op_addJ : OpR X (binaryOp .Add) (rW2 X.K wAdd) := by
  intro pins s σ H x y v u Q I rx ry ⟨Hv, dx, dy, QD, vw, r1, r2, w, k⟩
  cases dx <;> cases dy <;> first | exact w.elim | skip
  · cases r1; cases r2
    exact op_add pins s σ H _ _ v u Q I rx ry ⟨_, _, rfl, rfl, k _ _ Hv H (.refl vw) (.int _) w⟩
  · cases r1; cases r2
    exact op_add_str pins s σ H _ _ v u Q I rx ry ⟨_, _, rfl, rfl, w.1, k _ _ Hv H (.refl vw) (.str _) w.2⟩
  · cases r1 with
    | @lst a xs ds hs ha hl =>
      cases r2 with
      | @lst b ys es hs2 ha2 hl2 =>
        cases rx; cases ry
        obtain ⟨its, rv, pl, hz⟩ := I.list (vw.sql hs)
        obtain ⟨its2, rv2, pl2, hz2⟩ := I.list (vw.sql hs2)
        have l1 := ha.length
        have l2 := ha2.length
        have w1 := w.1
        have e1 : xs.length + ys.length ≤ sizeLine := by rw [l1, l2]; exact w1
        obtain ⟨⟨c1, d1, t1, s1⟩, n1, g1, gc1, gd1, gt1⟩ := pl
        obtain ⟨⟨c2, d2, t2, s2⟩, n2, g2, gc2, gd2, gt2⟩ := pl2
        simp only at gc1 gd1 gt1 gc2 gd2 gt2
        subst gc1 gd1 gt1 gc2 gd2 gt2
        have hz3 : its.toArray.size + its2.toArray.size ≤ sizeLine := by
          rw [List.size_toArray, List.size_toArray, ← rv.length, ← rv2.length]; exact e1
        refine concat_meets ⟨_, g1, rfl⟩ ⟨_, g2, rfl⟩ noFill_list_add seq_list_add PySem.F.slot_list_add PySem.F.entry_list_add (PySem.F.args_list_add_2 _ _)
          (list_addW a b its.toArray its2.toArray n1 n2 none none s1 s2 hz3) ⟨g1, g2, ?_⟩
        have I1 : Inv X pins σ (upd H s.heap.objs.size (.lst (xs ++ ys))) { s with heap := s.heap.push { cls := .type "list", data := .seq (its.toArray ++ its2.toArray) } } :=
          I.laid (t' := s.toks) (fun b o e => Heap.get?_push_of_some _ e) (Nat.le_refl _) (show ObjOk X.prog X.w _ _ _ (.lst (xs ++ ys)) from ⟨by rw [List.length_append]; exact e1, its ++ its2, 0, rv.append rv2, by rw [show its.toArray ++ its2.toArray = (its ++ its2).toArray by simp]; exact Heap.get?_push_size _ rfl⟩)
        have hn := I.hok.fresh (Nat.le_refl s.heap.objs.size)
        have f := Fw.new (o := .lst (xs ++ ys)) vw hn mark_ne_lst
        exact ⟨.ref _, _, I1, rfl, k _ _ _ _ f (.lst (SqL.of upd_same) ((Rp.monoAll f.ext _ _ ha).append (Rp.monoAll f.ext _ _ ha2)) (by rw [List.length_append]; exact w.1)) w.2⟩
  · cases r1 with
    | @tup a xs ds hs ha hl =>
      cases r2 with
      | @tup b ys es hs2 ha2 hl2 =>
        have l1 := ha.length
        have l2 := ha2.length
        refine op_catJ pins s σ H _ _ v u Q I rx ry ⟨a, b, xs, ys, rfl, rfl, vw.sqt hs, vw.sqt hs2, by rw [l1, l2]; exact w.1, fun e => ?_, fun _ e => ?_, fun _ _ p its hp => ?_⟩
        · subst e
          cases ha
          exact k _ _ Hv H (.refl vw) (.tup hs2 ha2 hl2) w.2
        · subst e
          cases ha2
          exact k _ _ Hv H (.refl vw) (.tup hs (by rw [List.append_nil]; exact ha) (by rw [List.append_nil]; exact hl)) w.2
        · have f := Fw.new (o := tO its (xs ++ ys)) vw hp mark_ne_tup
          exact k _ _ _ _ f (.tup SqJ.of ((Rp.monoAll f.ext _ _ ha).append (Rp.monoAll f.ext _ _ ha2)) (by rw [List.length_append]; exact w.1)) w.2
theorem op_subJ : OpR X (binaryOp .Sub) (rW2 X.K wSub) := opW op_sub fun x y H Q ⟨Hv, dx, dy, QD, vw, r1, r2, w, k⟩ => by
  cases dx <;> cases dy <;> first | exact w.elim | skip
  cases r1; cases r2
  exact ⟨_, _, rfl, rfl, k _ _ Hv H (.refl vw) (.int _) w⟩
theorem op_mulJ : OpR X (binaryOp .Mult) (rW2 X.K wMul) := opW (op_mul.or op_mulW) fun x y H Q ⟨Hv, dx, dy, QD, vw, r1, r2, w, k⟩ => by
  cases dx <;> cases dy <;> first | exact w.elim | skip
  cases r1; cases r2
  rcases w.1 with c | c
  · exact .inl ⟨_, _, rfl, rfl, c, k _ _ Hv H (.refl vw) (.int _) w.2⟩
  · exact .inr ⟨_, _, rfl, rfl, c, k _ _ Hv H (.refl vw) (.int _) w.2⟩
theorem op_divJ : OpR X (binaryOp .FloorDiv) (rW2 X.K wDiv) := opW (op_fdiv.or op_fdivW) fun x y H Q ⟨Hv, dx, dy, QD, vw, r1, r2, w, k⟩ => by
  cases dx <;> cases dy <;> first | exact w.elim | skip
  cases r1; cases r2
  rcases w.1 with c | c
  · exact .inl ⟨_, _, rfl, rfl, c, k _ _ Hv H (.refl vw) (.int _) w.2⟩
  · exact .inr ⟨_, _, rfl, rfl, c, k _ _ Hv H (.refl vw) (.int _) w.2⟩
theorem op_modJ : OpR X (binaryOp .Mod) (rW2 X.K wMod) := opW op_mod fun x y H Q ⟨Hv, dx, dy, QD, vw, r1, r2, w, k⟩ => by
  cases dx <;> cases dy <;> first | exact w.elim | skip
  cases r1; cases r2
  exact ⟨_, _, rfl, rfl, w.1, k _ _ Hv H (.refl vw) (.int _) w.2⟩
theorem op_powJ : OpR X (binaryOp .Pow) (rW2 X.K wPow) := opW op_pow fun x y H Q ⟨Hv, dx, dy, QD, vw, r1, r2, w, k⟩ => by
  cases dx <;> cases dy <;> first | exact w.elim | skip
  cases r1; cases r2
  exact ⟨_, _, rfl, rfl, w.1, k _ _ Hv H (.refl vw) (.int _) w.2⟩
theorem un_negJ : UnR X (unaryOp .USub) (rW1 X.K wNeg) := unW un_neg fun x H Q ⟨Hv, dx, QD, vw, r1, w, k⟩ => by
  cases dx <;> first | exact w.elim | skip
  cases r1
  exact ⟨_, rfl, k _ _ Hv H (.refl vw) (.int _) w⟩

/-! ### comparisons -/
def lvl : Nat := 12
/-- < of tuples of ints -/
def toInts : List D → Option (List Int)
  | [] => some []
  | .int i :: r => (toInts r).map (i :: ·)
  | _ :: _ => none
theorem toInts_map (ns : List Int) : toInts (ns.map PyData.int) = some ns := by
  induction ns with
  | nil => rfl
  | cons n ns ih => show (toInts (ns.map PyData.int)).map (n :: ·) = _; rw [ih]; rfl
theorem of_toInts : ∀ {ds : List D} {ns : List Int}, toInts ds = some ns → ds = ns.map PyData.int
  | [], ns, h => by cases h; rfl
  | .int i :: r, ns, h => by
    have h' : (toInts r).map (i :: ·) = some ns := h
    cases e : toInts r with
    | none => rw [e] at h'; cases h'
    | some l =>
      rw [e] at h'
      cases h'
      rw [of_toInts e]
      rfl
  | .none :: _, _, h => by cases h
  | .bool _ :: _, _, h => by cases h
  | .str _ :: _, _, h => by cases h
  | .list _ :: _, _, h => by cases h
  | .tuple _ :: _, _, h => by cases h
  | .dict _ :: _, _, h => by cases h
/-- data that can be compared by < -/
def CmpOk (x y : D) : Prop := lv lvl x = true ∧ lv lvl y = true ∧ PySem.W.alike x y = true ∧ x ≠ .none
abbrev dLt (x y : D) : Bool := PySem.W.dataLt x y
def wLt : W2
  | .int i, .int j, Q => Q (.bool (decide (i < j)))
  | x, y, Q => CmpOk x y ∧ Q (.bool (dLt x y))
def wLe : W2
  | .int i, .int j, Q => Q (.bool (decide (i ≤ j)))
  | x, y, Q => CmpOk x y ∧ Q (.bool (!dLt y x))
def wGt : W2
  | .int i, .int j, Q => Q (.bool (decide (j < i)))
  | x, y, Q => CmpOk x y ∧ Q (.bool (dLt y x))
def wGe : W2
  | .int i, .int j, Q => Q (.bool (decide (j ≤ i)))
  | x, y, Q => CmpOk x y ∧ Q (.bool (!dLt x y))
def wEq : W2 := fun x y Q => lv lvl x = true ∧ lv lvl y = true ∧ Q (.bool (PyData.eqv x y))
def wNe : W2 := fun x y Q => lv lvl x = true ∧ lv lvl y = true ∧ Q (.bool (!PyData.eqv x y))
def isNon : D → Bool
  | .none => true
  | _ => false
def wIs : W2
  | x, .none, Q => Q (.bool (isNon x))
  | .bool a, .bool b, Q => Q (.bool (decide (a = b)))
  | _, _, _ => False
def wIsNot : W2
  | x, .none, Q => Q (.bool (!isNon x))
  | .bool a, .bool b, Q => Q (.bool (!decide (a = b)))
  | _, _, _ => False
def wIn : W2
  | x, .list ds, Q => lv lvl x = true ∧ ds.all (lv lvl) = true ∧ Q (.bool (ds.any fun z => PyData.eqv z x))
  | x, .tuple ds, Q => lv lvl x = true ∧ ds.all (lv lvl) = true ∧ Q (.bool (ds.any fun z => PyData.eqv z x))
  | _, _, _ => False
def wNotIn : W2
  | x, .list ds, Q => lv lvl x = true ∧ ds.all (lv lvl) = true ∧ Q (.bool (!ds.any fun z => PyData.eqv z x))
  | x, .tuple ds, Q => lv lvl x = true ∧ ds.all (lv lvl) = true ∧ Q (.bool (!ds.any fun z => PyData.eqv z x))
  | _, _, _ => False
theorem op_ltJ (hu : X.A.units + 65 < cLine) : OpR X (compareOp .Lt) (rW2 X.K wLt) := by
  intro pins s σ H x y v u Q I rx ry ⟨Hv, dx, dy, QD, vw, r1, r2, wq, k⟩
  by_cases hi : ∃ i j, dx = .int i ∧ dy = .int j
  · obtain ⟨i, j, rfl, rfl⟩ := hi
    cases r1; cases r2
    exact op_lt pins s σ H _ _ v u Q I rx ry ⟨_, _, rfl, rfl, k _ _ Hv H (.refl vw) (.bl _) wq⟩
  · have wq' : CmpOk dx dy ∧ QD (.bool (dLt dx dy)) := by
      cases dx <;> first | exact wq | (cases dy <;> first | exact wq | exact absurd ⟨_, _, rfl, rfl⟩ hi)
    obtain ⟨⟨l1, l2, al, hn⟩, q⟩ := wq'
    obtain ⟨as, q1⟩ := Dp.reads I _ _ _ (r1.dp vw _ _ _ l1) rx
    obtain ⟨bs, q2⟩ := Dp.reads I _ _ _ (r2.dp vw _ _ _ l2) ry
    have h1 := (lv_canLay _ _ l1).2
    exact PySem.W.lt_data q1 q2 al hn (by have : min dx.depth dy.depth ≤ lvl := Nat.le_trans (Nat.min_le_left _ _) h1; unfold lvl at this; omega) ⟨.bl _, H, I, rfl, k _ _ Hv H (.refl vw) (.bl _) q⟩
theorem op_leJ (hu : X.A.units + 65 < cLine) : OpR X (compareOp .LtE) (rW2 X.K wLe) := by
  intro pins s σ H x y v u Q I rx ry ⟨Hv, dx, dy, QD, vw, r1, r2, wq, k⟩
  by_cases hi : ∃ i j, dx = .int i ∧ dy = .int j
  · obtain ⟨i, j, rfl, rfl⟩ := hi
    cases r1; cases r2
    exact op_le pins s σ H _ _ v u Q I rx ry ⟨_, _, rfl, rfl, k _ _ Hv H (.refl vw) (.bl _) wq⟩
  · have wq' : CmpOk dx dy ∧ QD (.bool (!dLt dy dx)) := by
      cases dx <;> first | exact wq | (cases dy <;> first | exact wq | exact absurd ⟨_, _, rfl, rfl⟩ hi)
    obtain ⟨⟨l1, l2, al, hn⟩, q⟩ := wq'
    obtain ⟨as, q1⟩ := Dp.reads I _ _ _ (r1.dp vw _ _ _ l1) rx
    obtain ⟨bs, q2⟩ := Dp.reads I _ _ _ (r2.dp vw _ _ _ l2) ry
    have h1 := (lv_canLay _ _ l1).2
    exact PySem.W.le_data q1 q2 al hn (by have : min dx.depth dy.depth ≤ lvl := Nat.le_trans (Nat.min_le_left _ _) h1; unfold lvl at this; omega) ⟨.bl _, H, I, rfl, k _ _ Hv H (.refl vw) (.bl _) q⟩
theorem op_gtJ (hu : X.A.units + 65 < cLine) : OpR X (compareOp .Gt) (rW2 X.K wGt) := by
  intro pins s σ H x y v u Q I rx ry ⟨Hv, dx, dy, QD, vw, r1, r2, wq, k⟩
  by_cases hi : ∃ i j, dx = .int i ∧ dy = .int j
  · obtain ⟨i, j, rfl, rfl⟩ := hi
    cases r1; cases r2
    exact op_gt pins s σ H _ _ v u Q I rx ry ⟨_, _, rfl, rfl, k _ _ Hv H (.refl vw) (.bl _) wq⟩
  · have wq' : CmpOk dx dy ∧ QD (.bool (dLt dy dx)) := by
      cases dx <;> first | exact wq | (cases dy <;> first | exact wq | exact absurd ⟨_, _, rfl, rfl⟩ hi)
    obtain ⟨⟨l1, l2, al, hn⟩, q⟩ := wq'
    obtain ⟨as, q1⟩ := Dp.reads I _ _ _ (r1.dp vw _ _ _ l1) rx
    obtain ⟨bs, q2⟩ := Dp.reads I _ _ _ (r2.dp vw _ _ _ l2) ry
    have h1 := (lv_canLay _ _ l1).2
    exact PySem.W.gt_data q1 q2 al hn (by have : min dx.depth dy.depth ≤ lvl := Nat.le_trans (Nat.min_le_left _ _) h1; unfold lvl at this; omega) ⟨.bl _, H, I, rfl, k _ _ Hv H (.refl vw) (.bl _) q⟩
theorem op_geJ (hu : X.A.units + 65 < cLine) : OpR X (compareOp .GtE) (rW2 X.K wGe) := by
  intro pins s σ H x y v u Q I rx ry ⟨Hv, dx, dy, QD, vw, r1, r2, wq, k⟩
  by_cases hi : ∃ i j, dx = .int i ∧ dy = .int j
  · obtain ⟨i, j, rfl, rfl⟩ := hi
    cases r1; cases r2
    exact op_ge pins s σ H _ _ v u Q I rx ry ⟨_, _, rfl, rfl, k _ _ Hv H (.refl vw) (.bl _) wq⟩
  · have wq' : CmpOk dx dy ∧ QD (.bool (!dLt dx dy)) := by
      cases dx <;> first | exact wq | (cases dy <;> first | exact wq | exact absurd ⟨_, _, rfl, rfl⟩ hi)
    obtain ⟨⟨l1, l2, al, hn⟩, q⟩ := wq'
    obtain ⟨as, q1⟩ := Dp.reads I _ _ _ (r1.dp vw _ _ _ l1) rx
    obtain ⟨bs, q2⟩ := Dp.reads I _ _ _ (r2.dp vw _ _ _ l2) ry
    have h1 := (lv_canLay _ _ l1).2
    exact PySem.W.ge_data q1 q2 al hn (by have : min dx.depth dy.depth ≤ lvl := Nat.le_trans (Nat.min_le_left _ _) h1; unfold lvl at this; omega) ⟨.bl _, H, I, rfl, k _ _ Hv H (.refl vw) (.bl _) q⟩
theorem op_eqJ (hu : X.A.units + 64 < cLine) : OpR X (compareOp .Eq) (rW2 X.K wEq) := opW (op_eqD hu) fun x y H Q ⟨Hv, dx, dy, QD, vw, r1, r2, ⟨l1, l2, w⟩, k⟩ =>
  ⟨dx, dy, r1.dp vw _ _ _ l1, r2.dp vw _ _ _ l2, lv_shaped l1, lv_shaped l2, k _ _ Hv H (.refl vw) (.bl _) w⟩
theorem op_neJ (hu : X.A.units + 64 < cLine) : OpR X (compareOp .NotEq) (rW2 X.K wNe) := opW (op_neD hu) fun x y H Q ⟨Hv, dx, dy, QD, vw, r1, r2, ⟨l1, l2, w⟩, k⟩ =>
  ⟨dx, dy, r1.dp vw _ _ _ l1, r2.dp vw _ _ _ l2, lv_shaped l1, lv_shaped l2, k _ _ Hv H (.refl vw) (.bl _) w⟩
theorem Rp.isNon {H : Hp} {v : V} {d : D} (r : Rp K H v d) : decide (v = .non) = isNon d := by cases r <;> rfl
theorem op_isJ : OpR X (compareOp .Is) (rW2 X.K wIs) := opW (op_isN.or op_is_bl) fun x y H Q ⟨Hv, dx, dy, QD, vw, r1, r2, w, k⟩ => by
  cases dy with
  | none =>
    have w' : QD (.bool (isNon dx)) := by cases dx <;> exact w
    have e := r1.isNon
    cases r2
    exact .inl ⟨rfl, by rw [e]; exact k _ _ Hv H (.refl vw) (.bl _) w'⟩
  | bool b =>
    cases dx <;> first | exact w.elim | skip
    cases r1; cases r2
    exact .inr ⟨_, _, rfl, rfl, k _ _ Hv H (.refl vw) (.bl _) w⟩
  | int _ => cases dx <;> exact w.elim
  | str _ => cases dx <;> exact w.elim
  | list _ => cases dx <;> exact w.elim
  | tuple _ => cases dx <;> exact w.elim
  | dict _ => cases dx <;> exact w.elim
theorem op_isNotJ : OpR X (compareOp .IsNot) (rW2 X.K wIsNot) := opW (op_notN.or op_isnot_bl) fun x y H Q ⟨Hv, dx, dy, QD, vw, r1, r2, w, k⟩ => by
  cases dy with
  | none =>
    have w' : QD (.bool (!isNon dx)) := by cases dx <;> exact w
    have e := r1.isNon
    cases r2
    exact .inl ⟨rfl, by rw [e]; exact k _ _ Hv H (.refl vw) (.bl _) w'⟩
  | bool b =>
    cases dx <;> first | exact w.elim | skip
    cases r1; cases r2
    exact .inr ⟨_, _, rfl, rfl, k _ _ Hv H (.refl vw) (.bl _) w⟩
  | int _ => cases dx <;> exact w.elim
  | str _ => cases dx <;> exact w.elim
  | list _ => cases dx <;> exact w.elim
  | tuple _ => cases dx <;> exact w.elim
  | dict _ => cases dx <;> exact w.elim
theorem lvAll {n : Nat} {ds : List D} (h : ds.all (lv n) = true) : ∀ d ∈ ds, lv n d = true := List.all_eq_true.mp h
theorem op_inJ (hu : X.A.units + 65 < cLine) : OpR X (compareOp .In) (rW2 X.K wIn) := by
  intro pins s σ H x y v u Q I rx ry ⟨Hv, dx, dy, QD, vw, r1, r2, w, k⟩
  cases dy <;> first | exact w.elim | skip
  · obtain ⟨l1, l2, w⟩ := w
    have le : lv (lvl + 1) (.list ‹_›) = true := l2
    obtain ⟨as, q1⟩ := Dp.reads I _ _ _ (r1.dp vw _ _ _ l1) rx
    obtain ⟨bs, q2⟩ := Dp.reads I _ _ _ (r2.dp vw _ _ _ le) ry
    exact SeqAt.in_list_reads q2 q1 (SeqAt.canLay_of_shaped (lv_shaped le)) (SeqAt.canLay_of_shaped (lv_shaped l1)) (room_in_shaped (lv_shaped l1) hu) ⟨.bl _, H, I, rfl, k _ _ Hv H (.refl vw) (.bl _) w⟩
  · obtain ⟨l1, l2, w⟩ := w
    have le : lv (lvl + 1) (.tuple ‹_›) = true := l2
    obtain ⟨as, q1⟩ := Dp.reads I _ _ _ (r1.dp vw _ _ _ l1) rx
    obtain ⟨bs, q2⟩ := Dp.reads I _ _ _ (r2.dp vw _ _ _ le) ry
    exact SeqAt.in_tuple_reads q2 q1 (SeqAt.canLay_of_shaped (lv_shaped le)) (SeqAt.canLay_of_shaped (lv_shaped l1)) (room_in_shaped (lv_shaped l1) hu) ⟨.bl _, H, I, rfl, k _ _ Hv H (.refl vw) (.bl _) w⟩
theorem op_notInJ (hu : X.A.units + 65 < cLine) : OpR X (compareOp .NotIn) (rW2 X.K wNotIn) := by
  intro pins s σ H x y v u Q I rx ry ⟨Hv, dx, dy, QD, vw, r1, r2, w, k⟩
  cases dy <;> first | exact w.elim | skip
  · obtain ⟨l1, l2, w⟩ := w
    have le : lv (lvl + 1) (.list ‹_›) = true := l2
    obtain ⟨as, q1⟩ := Dp.reads I _ _ _ (r1.dp vw _ _ _ l1) rx
    obtain ⟨bs, q2⟩ := Dp.reads I _ _ _ (r2.dp vw _ _ _ le) ry
    exact SeqAt.notIn_list_reads q2 q1 (SeqAt.canLay_of_shaped (lv_shaped le)) (SeqAt.canLay_of_shaped (lv_shaped l1)) (room_in_shaped (lv_shaped l1) hu) ⟨.bl _, H, I, rfl, k _ _ Hv H (.refl vw) (.bl _) w⟩
  · obtain ⟨l1, l2, w⟩ := w
    have le : lv (lvl + 1) (.tuple ‹_›) = true := l2
    obtain ⟨as, q1⟩ := Dp.reads I _ _ _ (r1.dp vw _ _ _ l1) rx
    obtain ⟨bs, q2⟩ := Dp.reads I _ _ _ (r2.dp vw _ _ _ le) ry
    exact SeqAt.notIn_tuple_reads q2 q1 (SeqAt.canLay_of_shaped (lv_shaped le)) (SeqAt.canLay_of_shaped (lv_shaped l1)) (room_in_shaped (lv_shaped l1) hu) ⟨.bl _, H, I, rfl, k _ _ Hv H (.refl vw) (.bl _) w⟩

/-! ### tests, and, or, not -/
def wB : D → (Bool → Prop) → Prop
  | .bool b, Q => Q b
  | _, _ => False
def eAnd (ma mb : EX) : EX := fun e Q => ma e fun x => wB x fun b => if b = true then mb e Q else Q (.bool false)
def eOr (ma mb : EX) : EX := fun e Q => ma e fun x => wB x fun b => if b = true then Q (.bool true) else mb e Q
def eNot (ma : EX) : EX := fun e Q => ma e fun x => wB x fun b => Q (.bool (!b))
def tOf (m : EX) : TX := fun e Q => m e fun x => wB x Q
def tAndJ (ma mb : TX) : TX := fun e Q => ma e fun b => if b = true then mb e Q else Q false
def tOrJ (ma mb : TX) : TX := fun e Q => ma e fun b => if b = true then Q true else mb e Q
def tNotJ (ma : TX) : TX := fun e Q => ma e fun b => Q (!b)
def eIf (mt : TX) (ma mb : EX) : EX := fun e Q => mt e fun b => if b = true then ma e Q else mb e Q
theorem wB_bl {d : D} {Q : Bool → Prop} {H : Hp} {v : V} (r : Rp K H v d) (w : wB d Q) : ∃ b, d = .bool b ∧ v = .bl b ∧ Q b := by
  cases d <;> first | exact w.elim | skip
  cases r
  exact ⟨_, rfl, rfl, w⟩
variable {mt mu : TX} {rest : List Expr}
theorem d_one {op} (h : DE X a m) : DE X (.BoolOp op [a] pos) m := pe_one h
theorem d_and (ha : DE X a ma) (hb : DE X (.BoolOp .And (b :: rest) pos) mb) : DE X (.BoolOp .And (a :: b :: rest) pos) (eAnd ma mb) := peW (pe_and ha hb) fun σ H Q ⟨Hv, e, QD, er, vw, hm, k⟩ =>
  ⟨Hv, e, _, er, vw, hm, fun d v Hv1 H1 f1 r1 q1 => by
    obtain ⟨c, rfl, rfl, q1⟩ := wB_bl r1 q1
    refine ⟨c, rfl, ?_⟩
    cases c with
    | true => exact ⟨Hv1, e, QD, er.mono f1.ext, f1.vw, q1, fun d2 v2 Hv2 H2 f2 r2 q2 => k d2 v2 Hv2 H2 (f1.trans f2) r2 q2⟩
    | false => exact k _ _ Hv1 H1 f1 (.bl false) q1⟩
theorem d_or (ha : DE X a ma) (hb : DE X (.BoolOp .Or (b :: rest) pos) mb) : DE X (.BoolOp .Or (a :: b :: rest) pos) (eOr ma mb) := peW (pe_or ha hb) fun σ H Q ⟨Hv, e, QD, er, vw, hm, k⟩ =>
  ⟨Hv, e, _, er, vw, hm, fun d v Hv1 H1 f1 r1 q1 => by
    obtain ⟨c, rfl, rfl, q1⟩ := wB_bl r1 q1
    refine ⟨c, rfl, ?_⟩
    cases c with
    | false => exact ⟨Hv1, e, QD, er.mono f1.ext, f1.vw, q1, fun d2 v2 Hv2 H2 f2 r2 q2 => k d2 v2 Hv2 H2 (f1.trans f2) r2 q2⟩
    | true => exact k _ _ Hv1 H1 f1 (.bl true) q1⟩
theorem d_not (ha : DE X a ma) : DE X (.UnaryOp .Not a pos) (eNot ma) := peW (pe_not ha) fun σ H Q ⟨Hv, e, QD, er, vw, hm, k⟩ =>
  ⟨Hv, e, _, er, vw, hm, fun d v Hv1 H1 f1 r1 q1 => by
    obtain ⟨c, rfl, rfl, q1⟩ := wB_bl r1 q1
    exact ⟨c, rfl, k _ _ Hv1 H1 f1 (.bl _) q1⟩⟩
theorem d_if {c : Expr} (hc : DT X c mt) (ha : DE X a ma) (hb : DE X b mb) : DE X (.IfExp c a b pos) (eIf mt ma mb) := peW (pe_ifExp hc ha hb) fun σ H Q ⟨Hv, e, QD, er, vw, hm, k⟩ =>
  ⟨Hv, e, _, er, vw, hm, fun c Hv1 H1 f1 q1 => by
    cases c with
    | true => exact ⟨Hv1, e, QD, er.mono f1.ext, f1.vw, q1, fun d2 v2 Hv2 H2 f2 r2 q2 => k d2 v2 Hv2 H2 (f1.trans f2) r2 q2⟩
    | false => exact ⟨Hv1, e, QD, er.mono f1.ext, f1.vw, q1, fun d2 v2 Hv2 H2 f2 r2 q2 => k d2 v2 Hv2 H2 (f1.trans f2) r2 q2⟩⟩
theorem tt_of {σ : L2.St} {H : Hp} {Q : Bool → Hp → Prop} (h : tt K (tOf m) σ H Q) : te K m σ H fun x H' => ∃ c, x = .bl c ∧ Q c H' := by
  obtain ⟨Hv, e, QD, er, vw, hm, k⟩ := h
  exact ⟨Hv, e, _, er, vw, hm, fun d v Hv1 H1 f1 r1 q1 => by
    obtain ⟨c, rfl, rfl, q1⟩ := wB_bl r1 q1
    exact ⟨c, rfl, k _ _ _ f1 q1⟩⟩
/-- a call, a name, a subscript as a test -/
theorem dt_val (h : DE X x m) (he : ∀ whole, isTrue x X.env whole = (do let v ← whole; standAt x.pos; holding [v] (truthy v)) := by intro _; rfl) : DT X x (tOf m) := ptW (pt_val h he) fun _ _ _ h => tt_of h
theorem dt_cmp {op : CmpOp} {W : W2} (ho : OpR X (compareOp op) (rW2 X.K W)) (ha : DE X a ma) (hb : DE X b mb) (hm : behindInMarks op b = false) : DT X (.Compare a [op] [b] pos) (tOf (eOp W ma mb)) :=
  ptW (pt_cmpR ho ha hb hm) fun σ H Q h => te_op (by
    obtain ⟨Hv, e, QD, er, vw, q, k⟩ := tt_of h
    exact ⟨Hv, e, QD, er, vw, q, k⟩)
theorem dw_and1 (h : DT X a mt) : DW X (.BoolOp .And [a] pos) mt := pw_and1 h
theorem dw_or1 (h : DT X a mt) : DW X (.BoolOp .Or [a] pos) mt := pw_or1 h
theorem dw_and (ha : DT X a mt) (hb : DW X (.BoolOp .And (b :: rest) pos) mu) : DW X (.BoolOp .And (a :: b :: rest) pos) (tAndJ mt mu) := pwW (pw_and ha hb) fun σ H Q ⟨Hv, e, QD, er, vw, hm, k⟩ =>
  ⟨Hv, e, _, er, vw, hm, fun c Hv1 H1 f1 q1 => by
    cases c with
    | true => exact ⟨Hv1, e, QD, er.mono f1.ext, f1.vw, q1, fun b2 Hv2 H2 f2 q2 => k b2 Hv2 H2 (f1.trans f2) q2⟩
    | false => exact k _ Hv1 H1 f1 q1⟩
theorem dw_or (ha : DT X a mt) (hb : DW X (.BoolOp .Or (b :: rest) pos) mu) : DW X (.BoolOp .Or (a :: b :: rest) pos) (tOrJ mt mu) := pwW (pw_or ha hb) fun σ H Q ⟨Hv, e, QD, er, vw, hm, k⟩ =>
  ⟨Hv, e, _, er, vw, hm, fun c Hv1 H1 f1 q1 => by
    cases c with
    | false => exact ⟨Hv1, e, QD, er.mono f1.ext, f1.vw, q1, fun b2 Hv2 H2 f2 q2 => k b2 Hv2 H2 (f1.trans f2) q2⟩
    | true => exact k _ Hv1 H1 f1 q1⟩
theorem dt_w (h : DW X x mt) : DT X x mt := PW.pt h
theorem dt_not (h : DT X a mt) : DT X (.UnaryOp .Not a pos) (tNotJ mt) := ptW (pt_not h) fun σ H Q ⟨Hv, e, QD, er, vw, hm, k⟩ =>
  ⟨Hv, e, _, er, vw, hm, fun c Hv1 H1 f1 q1 => k _ Hv1 H1 f1 q1⟩
/-- a < b < c -/
def eChain (W W' : W2) (ma mb mc : EX) : EX := fun e Q => ma e fun x => mb e fun y => W x y fun z => wB z fun k => if k = true then mc e fun w => W' y w Q else Q (.bool false)
theorem d_chain {c : Expr} {mc : EX} {op op' : CmpOp} {W W' : W2} (ho : OpR X (compareOp op) (rW2 X.K W)) (ho' : OpR X (compareOp op') (rW2 X.K W')) (ha : DE X a ma) (hb : DE X b mb) (hc : DE X c mc)
    {P : Prop} (rule : ∀ {ta tb tc : TE}, PE X a ta → PE X b tb → PE X c tc → PE X x (tChain (rW2 X.K W) (rW2 X.K W') ta tb tc)) : DE X x (eChain W W' ma mb mc) := peW (rule ha hb hc) fun σ H Q ⟨Hv, e, QD, er, vw, hm, k⟩ =>
  ⟨Hv, e, _, er, vw, hm, fun d v Hv1 H1 f1 r1 q1 => ⟨Hv1, e, _, er.mono f1.ext, f1.vw, q1, fun d2 v2 Hv2 H2 f2 r2 q2 => ⟨Hv2, d, d2, _, f2.vw, r1.mono f2.ext, r2, q2, fun d3 v3 Hv3 H3 f3 r3 q3 => by
    obtain ⟨c, rfl, rfl, q3⟩ := wB_bl r3 q3
    refine ⟨c, rfl, ?_⟩
    cases c with
    | false => exact k _ _ Hv3 H3 (f1.trans (f2.trans f3)) (.bl false) q3
    | true => exact ⟨Hv3, e, _, er.mono (f1.trans (f2.trans f3)).ext, f3.vw, q3, fun d4 v4 Hv4 H4 f4 r4 q4 => ⟨Hv4, d2, d4, QD, f4.vw, (r2.mono f3.ext).mono f4.ext, r4, q4, fun d5 v5 Hv5 H5 f5 r5 q5 => k d5 v5 Hv5 H5 (f1.trans (f2.trans (f3.trans (f4.trans f5)))) r5 q5⟩⟩⟩⟩⟩
end
end J

/-! J3: displays, subscripts, slices, calls of built-ins, what is walked, comprehensions. -/
namespace J
open PySem PySem.Spec PyProof.Rows L2

section
variable {X : Cx} {K : PySem.W.Frag} {x a b : Expr} {es : List Expr} {pos : Pos} {m ma mb : EX} {ms : List EX} {n : NX}

/-! ### displays -/
def eTup (ms : List EX) : EX := fun e Q => evA ms e fun ds => Q (.tuple ds)
def nLst (ms : List EX) : NX := fun e Q => evA ms e Q
/-- a new list as a value -/
def eFr (n : NX) : EX := fun e Q => n e fun ds => Q (.list ds)
theorem d_tup {x1} (h : DA X es ms) (hl : ms.length ≤ 1000 := by decide) : DE X (.Tuple es x1 pos) (eTup ms) := peW (pe_tupJ h) fun σ H Q ⟨Hv, e, QD, er, vw, hm, k⟩ =>
  tas_ok ms er vw hm fun ds vs Hv1 H1 f r l q => by
    have e1 := r.length
    have e2 : ds.length ≤ sizeLine := by rw [l]; exact Nat.le_trans hl (by decide)
    refine ⟨by rw [e1]; exact e2, fun p its hp => ?_⟩
    have g := Fw.new (o := tO its vs) f.vw hp mark_ne_tup
    exact k _ _ _ _ (f.trans g) (.tup SqJ.of (Rp.monoAll g.ext _ _ r) e2) q
theorem n_lst (h : DA X es ms) (hl : ms.length ≤ 1000 := by decide) : DN X (.List es pos) (nLst ms) := peW (pe_lst h) fun σ H Q ⟨Hv, e, QD, er, vw, hm, k⟩ =>
  tas_ok ms er vw hm fun ds vs Hv1 H1 f r l q => by
    have e1 := r.length
    have e2 : ds.length ≤ sizeLine := by rw [l]; exact Nat.le_trans hl (by decide)
    refine ⟨by rw [e1]; exact e2, fun p hp => ?_⟩
    have g := Fw.newU (o := .lst vs) f.vw hp
    refine k ds p vs Hv1 _ (f.trans g) (f.vw.none_of hp) ?_ upd_same r e2 q
    cases z : H p with
    | none => rfl
    | some o =>
      cases y : Hv p with
      | none => rw [f.keep p o y z] at hp; cases hp
      | some u =>
        have := f.vw.none_of hp
        rw [f.ext p u y] at this
        cases this
theorem d_of_n (h : DN X x n) : DE X x (eFr n) := peW h fun σ H Q ⟨Hv, e, QD, er, vw, hm, k⟩ => ⟨Hv, e, _, er, vw, hm, fun ds p xs Hv1 H1 f hv hp hl r l q => by
  have g : Fw Hv H (upd Hv1 p (.lst xs)) H1 := ⟨f.ext.trans (same_upd hv), Fw.show_ f.vw mark_ne_lst hv hl, f.keep, fun c e1 e2 => by
    by_cases z : c = p
    · rw [z]; exact hp
    · rw [upd_ne z] at e2
      exact f.fresh c e1 e2⟩
  exact k _ _ _ _ g (.lst (SqL.of upd_same) (Rp.monoAll (same_upd hv) _ _ r) l) q⟩
/-- a new address is new to all that came before -/
theorem Fw.fresh_at {Hv H Hv1 H1 : Hp} (f : Fw Hv H Hv1 H1) {p : Addr} (hp : H1 p = none) : H p = none := by
  cases z : H p with
  | none => rfl
  | some o =>
    cases y : Hv p with
    | none => rw [f.keep p o y z] at hp; cases hp
    | some u =>
      have := f.vw.none_of hp
      rw [f.ext p u y] at this
      cases this

/-! ### subscripts -/
theorem RpAll.at {H : Hp} {vs : List V} {ds : List D} (r : RpAll K H vs ds) {i : Int} {d : D} (h : atI ds i = some d) : ∃ v, atI vs i = some v ∧ Rp K H v d := by
  unfold atI at h ⊢
  rw [r.length]
  cases e : ixN ds.length i with
  | none => rw [e] at h; cases h
  | some j =>
    rw [e] at h
    exact r.get h
def wIx : W2
  | .list ds, .int i, Q => ∃ d, atI ds i = some d ∧ Q d
  | .tuple ds, .int i, Q => ∃ d, atI ds i = some d ∧ Q d
  | .str z, .int i, Q => z.length ≤ sizeLine ∧ ∃ c, atI z.cps.toList i = some c ∧ Q (.str ⟨#[c]⟩)
  | _, _, _ => False
theorem ixW {r r' : R2} (h : IxR X r) (w : ∀ x y H Q, r' x y H Q → r x y H Q) : IxR X r' := fun value slice pins s σ H x y v u Q I rx ry q hs => h value slice pins s σ H x y v u Q I rx ry (w x y H Q q) hs
theorem ixJ : IxR X (rW2 X.K wIx) := ixW ix_seq fun x y H Q ⟨Hv, dx, dy, QD, vw, r1, r2, w, k⟩ => by
  cases dx <;> cases dy <;> first | exact w.elim | skip
  · cases r1; cases r2
    obtain ⟨hz, c, hc, w⟩ := w
    exact .inr (.inr ⟨_, _, c, rfl, rfl, hz, hc, k _ _ Hv H (.refl vw) (.str _) w⟩)
  · obtain ⟨d, hd, w⟩ := w
    cases r1 with
    | @lst a xs ds hs ha hl =>
      cases r2
      obtain ⟨v, hv, rv⟩ := ha.at hd
      exact .inl ⟨a, xs, _, v, rfl, rfl, vw.sql hs, hv, k _ _ Hv H (.refl vw) rv w⟩
  · obtain ⟨d, hd, w⟩ := w
    cases r1 with
    | @tup a xs ds hs ha hl =>
      cases r2
      obtain ⟨v, hv, rv⟩ := ha.at hd
      exact .inr (.inl ⟨a, xs, _, v, rfl, rfl, vw.sqt hs, hv, k _ _ Hv H (.refl vw) rv w⟩)
theorem d_ix (ha : DE X a ma) (hb : DE X b mb) (hs : PlainIx b := by intro _ _; rfl) : DE X (.Subscript a b pos) (eOp wIx ma mb) := peW (pe_ix ixJ ha hb hs) fun _ _ _ h => te_op h

/-! ### slices -/
abbrev PX := En → (Option Int → Prop) → Prop
def tpO (K : PySem.W.Frag) (m : PX) : TO := fun σ H Q => ∃ Hv e QD, Er K Hv e σ ∧ Vw Hv H ∧ m e QD ∧ ∀ o Hv' H', Fw Hv H Hv' H' → QD o → Q o H'
def DP (X : Cx) (o : Option Expr) (m : PX) : Prop := PO X o (tpO X.K m)
def pNo : PX := fun _ Q => Q none
def wI : D → (Int → Prop) → Prop
  | .int i, Q => Q i
  | _, _ => False
def pSo (m : EX) : PX := fun e Q => m e fun d => wI d fun i => Q (some i)
theorem poW {o : Option Expr} {t t' : TO} (h : PO X o t) (w : ∀ σ H Q, t' σ H Q → t σ H Q) : PO X o t' := ⟨fun pins s σ H Q I q => h.run pins s σ H Q I (w σ H Q q)⟩
theorem dp_no : DP X none pNo := poW po_none fun σ H Q ⟨Hv, e, QD, er, vw, hm, k⟩ => k none Hv H (.refl vw) hm
theorem dp_so (h : DE X x m) : DP X (some x) (pSo m) := poW (po_some h) fun σ H Q ⟨Hv, e, QD, er, vw, hm, k⟩ => ⟨Hv, e, _, er, vw, hm, fun d v Hv1 H1 f r q => by
  cases d <;> first | exact q.elim | skip
  cases r
  exact ⟨_, rfl, k _ _ _ f q⟩⟩
def cutD {α : Type} (xs : List α) (lo hi : Option Int) : List α := (xs.drop (HT.sIx xs.length 0 lo)).take (HT.sIx xs.length xs.length hi - HT.sIx xs.length 0 lo)
theorem cutD_length {α : Type} (xs : List α) (lo hi : Option Int) : (cutD xs lo hi).length ≤ xs.length := by
  unfold cutD
  rw [List.length_take, List.length_drop]
  omega
theorem RpAll.cut {H : Hp} {vs : List V} {ds : List D} (r : RpAll K H vs ds) (lo hi : Option Int) : RpAll K H (cutV vs lo hi) (cutD ds lo hi) := by
  unfold cutV cutD
  rw [r.length]
  exact (r.drop _).take _
abbrev W3 := D → Option Int → Option Int → (D → Prop) → Prop
def wSl : W3
  | .tuple ds, lo, hi, Q => Q (.tuple (cutD ds lo hi))
  | .list ds, lo, hi, Q => Q (.list (cutD ds lo hi))
  | .str z, lo, hi, Q => z.length ≤ sizeLine ∧ Q (.str (Txt.slice z lo hi))
  | _, _, _, _ => False
def eSl (ma : EX) (lo hi : PX) : EX := fun e Q => ma e fun x => lo e fun l => hi e fun h => wSl x l h Q
theorem cut_whole {α : Type} {xs : List α} {lo hi : Option Int} (h : HT.sIx xs.length 0 lo = 0 ∧ HT.sIx xs.length xs.length hi = xs.length) : cutD xs lo hi = xs := by
  unfold cutD
  rw [h.1, h.2]
  simp
theorem slJ : SlR X (fun x lo hi H Q => ∃ Hv dx QD, Vw Hv H ∧ Rp X.K Hv x dx ∧ wSl dx lo hi QD ∧ ∀ d v Hv' H', Fw Hv H Hv' H' → Rp X.K Hv' v d → QD d → Q v H') := by
  intro pins s σ H x v vl vu lo hi sl Q I rx hs pl pu ⟨Hv, dx, QD, vw, r1, w, k⟩
  cases dx <;> first | exact w.elim | skip
  · cases r1
    exact C8.sl_txt pins s σ H _ v vl vu lo hi sl Q I rx hs pl pu ⟨_, rfl, w.1, k _ _ Hv H (.refl vw) (.str _) w.2⟩
  · cases r1 with
    | @lst a xs ds h1 ha hl =>
      refine sl_list pins s σ H _ v vl vu lo hi sl Q I rx hs pl pu ⟨a, xs, rfl, vw.sql h1, fun p hp => ?_⟩
      have g := Fw.new (o := .lst (cutV xs lo hi)) vw hp mark_ne_lst
      exact k _ _ _ _ g (.lst (SqL.of upd_same) (Rp.monoAll g.ext _ _ (ha.cut lo hi)) (Nat.le_trans (cutD_length _ _ _) hl)) w
  · cases r1 with
    | @tup a xs ds h1 ha hl =>
      refine sl_tupJ pins s σ H _ v vl vu lo hi sl Q I rx hs pl pu ⟨a, xs, rfl, vw.sqt h1, fun hw => ?_, fun _ p its hp => ?_⟩
      · refine k _ _ Hv H (.refl vw) (.tup h1 ?_ (Nat.le_trans (cutD_length _ _ _) hl)) w
        rw [ha.length] at hw
        rw [cut_whole hw]
        exact ha
      · have g := Fw.new (o := tO its (cutV xs lo hi)) vw hp mark_ne_tup
        exact k _ _ _ _ g (.tup SqJ.of (Rp.monoAll g.ext _ _ (ha.cut lo hi)) (Nat.le_trans (cutD_length _ _ _) hl)) w
variable {lo hi : Option Expr} {p2 : Pos}
theorem d_sl {ml mh : PX} (he : DE X a ma) (hl : DP X lo ml) (hu : DP X hi mh) : DE X (.Subscript a (.Slice lo hi none p2) pos) (eSl ma ml mh) := peW (pe_slice slJ he hl hu) fun σ H Q ⟨Hv, e, QD, er, vw, hm, k⟩ =>
  ⟨Hv, e, _, er, vw, hm, fun d v Hv1 H1 f1 r1 q1 => ⟨Hv1, e, _, er.mono f1.ext, f1.vw, q1, fun l Hv2 H2 f2 q2 => ⟨Hv2, e, _, (er.mono f1.ext).mono f2.ext, f2.vw, q2, fun h Hv3 H3 f3 q3 =>
    ⟨Hv3, d, QD, f3.vw, (r1.mono f2.ext).mono f3.ext, q3, fun d4 v4 Hv4 H4 f4 r4 q4 => k d4 v4 Hv4 H4 (f1.trans (f2.trans (f3.trans f4))) r4 q4⟩⟩⟩⟩

/-! ### calls of built-ins -/
theorem te_call {W : WL} {σ : L2.St} {H : Hp} {Q : VK} (h : te K (eCall W ms) σ H Q) : tCB (rWL K W) (tas K ms) σ H Q := by
  obtain ⟨Hv, e, QD, er, vw, hm, k⟩ := h
  exact tas_ok ms er vw hm fun ds vs Hv1 H1 f r l q => ⟨Hv1, ds, QD, f.vw, r, q, fun d v Hv2 H2 f2 r2 q2 => k d v Hv2 H2 (f.trans f2) r2 q2⟩
variable {f : Str} {p : Pos} {id T : String} {W : WL}
theorem d_callB (hc : CallR X (.builtin id) (rWL X.K W)) (hg : Gl X f) (hm : X.mg f = none) (hv : bootBuiltins f = some (.builtin id)) (ha : DA X (a :: es) ms) (hn : f ≠ "__name__" := by decide) (hdb : (f == ("__debug__" : Str)) = false := by decide)
    (h1 : starEach (a :: es) X.env = (false, eval a X.env) :: starEach es X.env := by rfl) (h2 : ((backTo pos (starEach es X.env)).any fun x => x.fst) = false := by rfl) : DE X (.Call (.Name f p) (a :: es) [] pos) (eCall W ms) :=
  peW (pe_callB hc hg hm hv ha hn hdb h1 h2) fun _ _ _ h => te_call h
theorem d_callTy (hc : CallR X (.type T) (rWL X.K W)) (hg : Gl X f) (hm : X.mg f = none) (hv : bootBuiltins f = some (.type T)) (ha : DA X (a :: es) ms) (hn : f ≠ "__name__" := by decide) (hdb : (f == ("__debug__" : Str)) = false := by decide)
    (h1 : starEach (a :: es) X.env = (false, eval a X.env) :: starEach es X.env := by rfl) (h2 : ((backTo pos (starEach es X.env)).any fun x => x.fst) = false := by rfl) : DE X (.Call (.Name f p) (a :: es) [] pos) (eCall W ms) :=
  peW (pe_callTy hc hg hm hv ha hn hdb h1 h2) fun _ _ _ h => te_call h
def wLen : WL
  | [.list ds], Q => Q (.int (ds.length : Int))
  | [.tuple ds], Q => Q (.int (ds.length : Int))
  | [.str z], Q => z.length ≤ sizeLine ∧ Q (.int (z.length : Int))
  | _, _ => False
def wAbs : WL
  | [.int i], Q => Q (.int (i.natAbs : Int))
  | _, _ => False
def b2n (b : Bool) : Int := if b then 1 else 0
def wInt : WL
  | [.int i], Q => Q (.int i)
  | [.bool b], Q => Q (.int (b2n b))
  | _, _ => False
def wMax2 : WL
  | [.int i, .int j], Q => Q (.int (max i j))
  | _, _ => False
def wMin2 : WL
  | [.int i, .int j], Q => Q (.int (min i j))
  | _, _ => False
/-- the shapes of an argument list -/
theorem rp1 {H : Hp} {vs : List V} {d : D} (r : RpAll K H vs [d]) : ∃ v, vs = [v] ∧ Rp K H v d := by
  cases r with
  | cons h t => cases t; exact ⟨_, rfl, h⟩
theorem rp2 {H : Hp} {vs : List V} {d d' : D} (r : RpAll K H vs [d, d']) : ∃ v v', vs = [v, v'] ∧ Rp K H v d ∧ Rp K H v' d' := by
  cases r with
  | cons h t =>
    obtain ⟨v, rfl, h'⟩ := rp1 t
    exact ⟨_, _, rfl, h, h'⟩
theorem call_lenJ : CallR X (.builtin "len") (rWL X.K wLen) := callW (call_len_seq.or call_len_str) fun xs H Q ⟨Hv, ds, QD, vw, r, w, k⟩ => by
  unfold wLen at w
  split at w
  · obtain ⟨v, rfl, h⟩ := rp1 r
    cases h with
    | @lst a xs ds hs ha hl =>
      refine .inl ⟨a, xs, rfl, .inl (vw.sql hs), ?_⟩
      rw [ha.length]
      exact k _ _ Hv H (.refl vw) (.int _) w
  · obtain ⟨v, rfl, h⟩ := rp1 r
    cases h with
    | @tup a xs ds hs ha hl =>
      refine .inl ⟨a, xs, rfl, .inr (vw.sqt hs), ?_⟩
      rw [ha.length]
      exact k _ _ Hv H (.refl vw) (.int _) w
  · obtain ⟨v, rfl, h⟩ := rp1 r
    cases h
    exact .inr ⟨_, rfl, w.1, k _ _ Hv H (.refl vw) (.int _) w.2⟩
  · exact w.elim
theorem call_absJ : CallR X (.builtin "abs") (rWL X.K wAbs) := callW call_abs fun xs H Q ⟨Hv, ds, QD, vw, r, w, k⟩ => by
  unfold wAbs at w
  split at w
  · rename_i Q' i
    obtain ⟨v, rfl, h⟩ := rp1 r
    cases h
    refine ⟨_, rfl, ?_⟩
    have e : (if i < 0 then -i else i) = (i.natAbs : Int) := by split <;> omega
    rw [e]
    exact k _ _ Hv H (.refl vw) (.int _) w
  · exact w.elim
theorem call_intJ : CallR X (.type "int") (rWL X.K wInt) := callW call_int1 fun xs H Q ⟨Hv, ds, QD, vw, r, w, k⟩ => by
  unfold wInt at w
  split at w
  · obtain ⟨v, rfl, h⟩ := rp1 r
    cases h
    exact .inl ⟨_, rfl, k _ _ Hv H (.refl vw) (.int _) w⟩
  · obtain ⟨v, rfl, h⟩ := rp1 r
    cases h
    exact .inr ⟨_, rfl, k _ _ Hv H (.refl vw) (.int _) w⟩
  · exact w.elim
theorem call_max2J (hc : X.calm = true) : CallR X (.builtin "max") (rWL X.K wMax2) := callW (call_max2 hc) fun xs H Q ⟨Hv, ds, QD, vw, r, w, k⟩ => by
  unfold wMax2 at w
  split at w
  · rename_i Q' i j
    obtain ⟨v, v', rfl, h, h'⟩ := rp2 r
    cases h; cases h'
    refine ⟨_, _, rfl, ?_⟩
    have e : (if j > i then j else i) = max i j := by split <;> omega
    rw [e]
    exact k _ _ Hv H (.refl vw) (.int _) w
  · exact w.elim
theorem call_min2J (hc : X.calm = true) : CallR X (.builtin "min") (rWL X.K wMin2) := callW (call_min2 hc) fun xs H Q ⟨Hv, ds, QD, vw, r, w, k⟩ => by
  unfold wMin2 at w
  split at w
  · rename_i Q' i j
    obtain ⟨v, v', rfl, h, h'⟩ := rp2 r
    cases h; cases h'
    refine ⟨_, _, rfl, ?_⟩
    have e : (if j < i then j else i) = min i j := by split <;> omega
    rw [e]
    exact k _ _ Hv H (.refl vw) (.int _) w
  · exact w.elim
/-- tuple(x) -/
def wTuple : W1
  | .list ds, Q => Q (.tuple ds)
  | .tuple ds, Q => Q (.tuple ds)
  | _, _ => False
theorem d_tuple {p pos : Pos} (hg : Gl X "tuple") (hm : X.mg "tuple" = none) (ha : DE X a ma) (na : starEach [a] X.env = (false, eval a X.env) :: starEach [] X.env := by rfl) : DE X (.Call (.Name "tuple" p) [a] [] pos) (eUn wTuple ma) :=
  peW (pe_tupleOfJ hg hm ha na) fun σ H Q ⟨Hv, e, QD, er, vw, h, k⟩ => ⟨Hv, e, _, er, vw, h, fun d v Hv1 H1 f r q => by
    cases d <;> first | exact q.elim | skip
    · cases r with
      | @lst a xs ds hs ha hl =>
        refine .inl ⟨a, xs, rfl, f.vw.sql hs, fun p its hp => ?_⟩
        have g := Fw.new (o := tO its xs) f.vw hp mark_ne_tup
        exact k _ _ _ _ (f.trans g) (.tup SqJ.of (Rp.monoAll g.ext _ _ ha) hl) q
    · cases r with
      | @tup a xs ds hs ha hl => exact .inr ⟨a, xs, rfl, f.vw.sqt hs, k _ _ _ _ f (.tup hs ha hl) q⟩⟩
/-- list(x) -/
def seqOf : D → (List D → Prop) → Prop
  | .list ds, Q => Q ds
  | .tuple ds, Q => Q ds
  | _, _ => False
def nList (m : EX) : NX := fun e Q => m e fun d => seqOf d Q
theorem Fw.newList {Hv H : Hp} {p : Addr} {o : HO} (vw : Vw Hv H) (hp : H p = none) : Fw Hv H Hv (upd H p o) ∧ Hv p = none := ⟨Fw.newU vw hp, vw.none_of hp⟩
theorem n_list {p pos : Pos} (hg : Gl X "list") (hm : X.mg "list" = none) (ha : DE X a ma) (h1 : starEach [a] X.env = (false, eval a X.env) :: starEach [] X.env := by rfl) (h2 : ((backTo pos (starEach [] X.env)).any fun x => x.fst) = false := by rfl) :
    DN X (.Call (.Name "list" p) [a] [] pos) (nList ma) :=
  peW (pe_callTy call_list_of hg hm boot_list (pa_cons ha pa_nil h1) (by decide) (by decide) h1 h2) fun σ H Q ⟨Hv, e, QD, er, vw, h, k⟩ => ⟨Hv, e, _, er, vw, h, fun d v Hv1 H1 f r q => by
    cases d <;> first | exact q.elim | skip
    · cases r with
      | @lst a xs ds hs ha hl =>
        refine ⟨a, xs, rfl, .inl (f.vw.sql hs), fun p hp => ?_⟩
        exact k _ _ _ _ _ (f.trans (Fw.newU f.vw hp)) (f.vw.none_of hp) (f.fresh_at hp) upd_same ha hl q
    · cases r with
      | @tup a xs ds hs ha hl =>
        refine ⟨a, xs, rfl, .inr (f.vw.sqt hs), fun p hp => ?_⟩
        exact k _ _ _ _ _ (f.trans (Fw.newU f.vw hp)) (f.vw.none_of hp) (f.fresh_at hp) upd_same ha hl q⟩
/-- ranges -/
abbrev RX := En → (Int → Int → Prop) → Prop
def trg (K : PySem.W.Frag) (m : RX) : L2.St → Hp → (Int → Int → Hp → Prop) → Prop := fun σ H Q => ∃ Hv e QD, Er K Hv e σ ∧ Vw Hv H ∧ m e QD ∧ ∀ i j Hv' H', Fw Hv H Hv' H' → QD i j → Q i j H'
def DR (X : Cx) (x : Expr) (m : RX) : Prop := PRg X x (trg X.K m)
theorem prgW {x : Expr} {t t' : L2.St → Hp → (Int → Int → Hp → Prop) → Prop} (h : PRg X x t) (w : ∀ σ H Q, t' σ H Q → t σ H Q) : PRg X x t' := fun pins s σ H Q I q => h pins s σ H Q I (w σ H Q q)
def rg1 (m : EX) : RX := fun e Q => m e fun d => wI d fun n => Q 0 n
def rg2 (ma mb : EX) : RX := fun e Q => ma e fun d => mb e fun d' => wI d fun i => wI d' fun j => Q i j
theorem wI_int {d : D} {Q : Int → Prop} {H : Hp} {v : V} (r : Rp K H v d) (w : wI d Q) : ∃ i, d = .int i ∧ v = .int i ∧ Q i := by
  cases d <;> first | exact w.elim | skip
  cases r
  exact ⟨_, rfl, rfl, w⟩
theorem dr_1 {p pos : Pos} (hg : Gl X "range") (hm : X.mg "range" = none) (ha : DE X a ma) (na : starEach [a] X.env = (false, eval a X.env) :: starEach [] X.env := by rfl) : DR X (.Call (.Name "range" p) [a] [] pos) (rg1 ma) :=
  prgW (prg_1 hg hm ha na) fun σ H Q ⟨Hv, e, QD, er, vw, h, k⟩ => ⟨Hv, e, _, er, vw, h, fun d v Hv1 H1 f r q => by
    obtain ⟨i, rfl, rfl, q⟩ := wI_int r q
    exact ⟨i, rfl, k _ _ _ _ f q⟩⟩
theorem dr_2 {p pos : Pos} (hg : Gl X "range") (hm : X.mg "range" = none) (ha : DE X a ma) (hb : DE X b mb) (na : starEach [a, b] X.env = (false, eval a X.env) :: starEach [b] X.env := by rfl)
    (nb : starEach [b] X.env = (false, eval b X.env) :: starEach [] X.env := by rfl) (hp : (backTo pos (starEach [b] X.env)).any (·.1) = false := by rfl) : DR X (.Call (.Name "range" p) [a, b] [] pos) (rg2 ma mb) :=
  prgW (prg_2 hg hm ha hb na nb hp) fun σ H Q ⟨Hv, e, QD, er, vw, h, k⟩ => ⟨Hv, e, _, er, vw, h, fun d v Hv1 H1 f r q => ⟨Hv1, e, _, er.mono f.ext, f.vw, q, fun d2 v2 Hv2 H2 f2 r2 q2 => by
    obtain ⟨i, rfl, rfl, q⟩ := wI_int r q2
    obtain ⟨j, rfl, rfl, q⟩ := wI_int r2 q
    exact ⟨i, j, rfl, rfl, k _ _ _ _ (f.trans f2) q⟩⟩⟩
/-- the ints lo, lo + 1, .. below hi -/
def rgI (lo hi : Int) : List Int := (List.range (hi - lo).toNat).map fun i => lo + (i : Nat)
def rgD (lo hi : Int) : List D := (rgI lo hi).map PyData.int
theorem rgI_length (lo hi : Int) : (rgI lo hi).length = (hi - lo).toNat := by simp [rgI]
theorem rgD_length (lo hi : Int) : (rgD lo hi).length = (hi - lo).toNat := by simp [rgD, rgI]
theorem rgV_eq (lo hi : Int) : rgV lo hi = (rgI lo hi).map V.int := by simp [rgV, rgI]
def RgS (lo hi : Int) : Prop := -(2 ^ 62) ≤ lo ∧ lo < 2 ^ 62 ∧ -(2 ^ 62) ≤ hi ∧ hi < 2 ^ 62 ∧ hi - lo ≤ 2 ^ 24
theorem RgS.ok {lo hi : Int} (h : RgS lo hi) : RgOk lo hi := ⟨h.1, h.2.1, h.2.2.1, h.2.2.2.1, by have := h.2.2.2.2; omega⟩
theorem RgS.len {lo hi : Int} (h : RgS lo hi) : (rgD lo hi).length ≤ sizeLine := by
  have := h.2.2.2.2
  rw [rgD_length, sizeLine_eq]
  omega
def eTupR (m : RX) : EX := fun e Q => m e fun lo hi => RgS lo hi ∧ Q (.tuple (rgD lo hi))
def nListR (m : RX) : NX := fun e Q => m e fun lo hi => RgS lo hi ∧ Q (rgD lo hi)
theorem d_tupR {mr : RX} {p pos : Pos} (hc : X.calm = true) (hg : Gl X "tuple") (hm : X.mg "tuple" = none) (he : DR X x mr) (na : starEach [x] X.env = (false, eval x X.env) :: starEach [] X.env := by rfl) : DE X (.Call (.Name "tuple" p) [x] [] pos) (eTupR mr) :=
  peW (pe_tupRgJ hc hg hm he na) fun σ H Q ⟨Hv, e, QD, er, vw, h, k⟩ => ⟨Hv, e, _, er, vw, h, fun lo hi Hv1 H1 f q => ⟨q.1.ok, fun p its hp => by
    have g := Fw.new (o := tO its (rgV lo hi)) f.vw hp mark_ne_tup
    exact k _ _ _ _ (f.trans g) (.tup SqJ.of (by rw [rgV_eq]; exact RpAll.ints _) q.1.len) q.2⟩⟩
theorem n_listR {mr : RX} {p pos : Pos} (hc : X.calm = true) (hg : Gl X "list") (hm : X.mg "list" = none) (he : DR X x mr) (na : starEach [x] X.env = (false, eval x X.env) :: starEach [] X.env := by rfl) : DN X (.Call (.Name "list" p) [x] [] pos) (nListR mr) :=
  peW (pe_listRg hc hg hm he na) fun σ H Q ⟨Hv, e, QD, er, vw, h, k⟩ => ⟨Hv, e, _, er, vw, h, fun lo hi Hv1 H1 f q => ⟨q.1.ok, fun p hp =>
    k _ _ _ _ _ (f.trans (Fw.newU f.vw hp)) (f.vw.none_of hp) (f.fresh_at hp) upd_same (by rw [rgV_eq]; exact RpAll.ints _) q.1.len q.2⟩⟩

/-! ### isinstance -/
def isTy (T : String) : D → Bool
  | .none => false
  | .bool _ => T == "bool" || T == "int"
  | .int _ => T == "int"
  | .str _ => T == "str"
  | .list _ => T == "list"
  | .tuple _ => T == "tuple"
  | .dict _ => T == "list"
def tyName : D → String
  | .none => "NoneType"
  | .bool _ => "bool"
  | .int _ => "int"
  | .str _ => "str"
  | .list _ => "list"
  | .tuple _ => "tuple"
  | .dict _ => "list"
theorem tyx {Hv H : Hp} (vw : Vw Hv H) {v : V} {d : D} (r : Rp K Hv v d) : TyX K H v (.type (tyName d)) := by
  cases r with
  | non => exact .base .non
  | bl b => exact .base (.bl b)
  | int i => exact .base (.int i)
  | str x => exact .base (.str x)
  | lst hs ha hl =>
    rcases vw.sql hs with (h | ⟨o, h⟩) | ⟨o, its, n, h, c, _⟩
    · exact .base (.lst h)
    · exact .base (.frz h)
    · exact .kList h c
  | tup hs ha hl =>
    rcases vw.sqt hs with (h | ⟨o, h⟩) | ⟨o, its, n, h, c, _⟩
    · exact .base (.tup h)
    · exact .fTuple h
    · exact .kTuple h c
  | hnd hm =>
    rcases vw _ _ hm with ⟨_, ns, h, _⟩ | ⟨h, _⟩
    · exact .base (.lst h)
    · exact absurd rfl h
def kitOk (T : String) : Bool := (kitB "NoneType" T == some false) && (kitB "bool" T == some (T == "bool" || T == "int")) && (kitB "int" T == some (T == "int")) && (kitB "str" T == some (T == "str")) && (kitB "list" T == some (T == "list")) && (kitB "tuple" T == some (T == "tuple"))
theorem kit_of_ok {T : String} (h : kitOk T = true) (d : D) : kitB (tyName d) T = some (isTy T d) := by
  unfold kitOk at h
  simp only [Bool.and_eq_true, beq_iff_eq] at h
  obtain ⟨⟨⟨⟨⟨h1, h2⟩, h3⟩, h4⟩, h5⟩, h6⟩ := h
  cases d <;> assumption
def wIsi (T : String) : W1 := fun d Q => Q (.bool (isTy T d))
theorem d_isi (T : String) {fT : Str} {p p' pos : Pos} (hk : kitOk T = true) (hT : bootBuiltins fT = some (.type T)) (hg : Gl X "isinstance") (hm : X.mg "isinstance" = none) (hg' : Gl X fT) (hm' : X.mg fT = none) (ha : DE X a ma)
    (hn : fT ≠ "__name__" := by decide) (hdb : (fT == ("__debug__" : Str)) = false := by decide)
    (h1 : starEach [a, .Name fT p'] X.env = (false, eval a X.env) :: starEach [.Name fT p'] X.env := by rfl) (h1' : starEach [.Name fT p'] X.env = (false, eval (.Name fT p') X.env) :: starEach [] X.env := by rfl)
    (h2 : ((backTo pos (starEach [.Name fT p'] X.env)).any fun x => x.fst) = false := by rfl) : DE X (.Call (.Name "isinstance" p) [a, .Name fT p'] [] pos) (eUn (wIsi T) ma) :=
  peW (pe_callB call_isi hg hm (by decide +kernel) (pa_cons ha (pa_cons (pe_bltn (v := .ty T) hg' hm' hT rfl hn hdb) pa_nil h1') h1) (by decide) (by decide) h1 h2) fun σ H Q ⟨Hv, e, QD, er, vw, h, k⟩ =>
    ⟨Hv, e, _, er, vw, h, fun d v Hv1 H1 f r q => ⟨v, .ty T, _, _, _, rfl, .ty T, tyx f.vw r, kit_ty (kit_of_ok hk d), k _ _ _ _ f (.bl _) q⟩⟩

/-! ### what is walked -/
structure ItOk (K : PySem.W.Frag) (Hv : Hp) (J : It) (ds : List D) : Prop where
  go : ∀ i Hv2 H2, i < ds.length → Same Hv Hv2 → Vw Hv2 H2 → J.go i H2
  yld : ∀ i Hv2 H2 x H3, Same Hv Hv2 → Vw Hv2 H2 → J.yld i H2 x H3 → H3 = H2 ∧ ∀ d, ds[i]? = some d → Rp K Hv2 x d
  stop : ∀ Hv2 H2, Same Hv Hv2 → Vw Hv2 H2 → J.stop ds.length H2
  len : ds.length ≤ sizeLine
abbrev IX := En → (List D → Prop) → Prop
def ti (K : PySem.W.Frag) (m : IX) : TI := fun σ H R => ∃ Hv e QD, Er K Hv e σ ∧ Vw Hv H ∧ m e QD ∧ ∀ ds J Hv' H', Fw Hv H Hv' H' → ItOk K Hv' J ds → QD ds → R J H'
def DI (X : Cx) (tg x : Expr) (m : IX) : Prop := PI X tg x (ti X.K m)
theorem piW {tg x : Expr} {t t' : TI} (h : PI X tg x t) (w : ∀ σ H Q, t' σ H Q → t σ H Q) : PI X tg x t' := ⟨fun pins s σ H Q I q => h.run pins s σ H Q I (w σ H Q q)⟩
theorem ItOk.list {Hv H : Hp} {a : Addr} {xs : List V} {ds : List D} (vw : Vw Hv H) (hs : SqL K Hv a xs) (ha : RpAll K Hv xs ds) (hl : ds.length ≤ sizeLine) (u : ∀ Hv2 H2 ys, Same Hv Hv2 → Vw Hv2 H2 → SqL K H2 a ys → ys = xs) : ItOk K Hv (Itl K a) ds where
  go := fun i Hv2 H2 hi e v2 => by
    rw [← ha.length] at hi
    exact ⟨xs, xs[i], v2.sql (sql_mono e hs), by simp [hi]⟩
  yld := fun i Hv2 H2 x H3 e v2 y => ⟨y.1, fun d hd => by
    obtain ⟨v, q, r⟩ := ha.get hd
    have z := y.2 xs (v2.sql (sql_mono e hs))
    rw [q] at z
    cases z
    exact r.mono e⟩
  stop := fun Hv2 H2 e v2 => ⟨xs, v2.sql (sql_mono e hs), by rw [ha.length]; exact Nat.le_refl _⟩
  len := hl
theorem itl_ok {Hv H : Hp} {a : Addr} {xs : List V} {ds : List D} (hs : SqL K Hv a xs) (ha : RpAll K Hv xs ds) (hl : ds.length ≤ sizeLine) : ItOk K Hv (Itl K a) ds where
  go := fun i Hv2 H2 hi e v2 => by
    rw [← ha.length] at hi
    exact ⟨xs, xs[i], v2.sql (sql_mono e hs), by simp [hi]⟩
  yld := fun i Hv2 H2 x H3 e v2 y => ⟨y.1, fun d hd => by
    obtain ⟨v, q, r⟩ := ha.get hd
    have z := y.2 xs (v2.sql (sql_mono e hs))
    rw [q] at z
    cases z
    exact r.mono e⟩
  stop := fun Hv2 H2 e v2 => ⟨xs, v2.sql (sql_mono e hs), by rw [ha.length]; exact Nat.le_refl _⟩
  len := hl
theorem itt_ok {Hv : Hp} {a : Addr} {xs : List V} {ds : List D} (hs : SqJ K Hv a xs) (ha : RpAll K Hv xs ds) (hl : ds.length ≤ sizeLine) : ItOk K Hv (Itt K a) ds where
  go := fun i Hv2 H2 hi e v2 => by
    rw [← ha.length] at hi
    exact ⟨xs, xs[i], v2.sqt (sqt_mono e hs), by simp [hi]⟩
  yld := fun i Hv2 H2 x H3 e v2 y => ⟨y.1, fun d hd => by
    obtain ⟨v, q, r⟩ := ha.get hd
    have z := y.2 xs (v2.sqt (sqt_mono e hs))
    rw [q] at z
    cases z
    exact r.mono e⟩
  stop := fun Hv2 H2 e v2 => ⟨xs, v2.sqt (sqt_mono e hs), by rw [ha.length]; exact Nat.le_refl _⟩
  len := hl
theorem itr_ok {Hv : Hp} {lo hi : Int} (h : RgS lo hi) : ItOk K Hv (Itr lo (hi - lo).toNat) (rgD lo hi) where
  go := fun i Hv2 H2 hi e v2 => by rw [rgD_length] at hi; exact hi
  yld := fun i Hv2 H2 x H3 e v2 y => ⟨y.1, fun d hd => by
    have z := y.2
    subst z
    unfold rgD rgI at hd
    rw [List.map_map, List.getElem?_map] at hd
    cases q : (List.range (hi - lo).toNat)[i]? with
    | none => rw [q] at hd; cases hd
    | some j =>
      rw [q] at hd
      cases hd
      have := (List.getElem?_eq_some_iff.mp q).2
      rw [List.getElem_range] at this
      subst this
      exact .int _⟩
  stop := fun Hv2 H2 e v2 => by rw [rgD_length]; exact Nat.le_refl _
  len := h.len
/-- over a list or a tuple -/
def iSeq (m : EX) : IX := fun e Q => m e fun d => seqOf d Q
theorem di_seq {tg : Expr} (h : DE X x m) : DI X tg x (iSeq m) := by
  refine ⟨fun pins s σ H R I ⟨Hv, e, QD, er, vw, hm, k⟩ => ?_⟩
  refine thn (h.run pins s σ H (fun y H1 => ∃ Hv1 d, Fw Hv H Hv1 H1 ∧ Rp X.K Hv1 y d ∧ seqOf d QD) I ⟨Hv, e, _, er, vw, hm, fun d v Hv1 H1 f r q => ⟨Hv1, d, f, r, q⟩⟩) fun v s1 ⟨y, H1, I1, r1, Hv1, d, f, r, q⟩ => ?_
  cases d <;> first | exact q.elim | skip
  · cases r with
    | @lst a xs ds hs ha hl =>
      cases r1
      obtain ⟨its, rv, p, hz⟩ := I1.list (f.vw.sql hs)
      refine wpAny_pyIter_list p.isList ?_
      refine ⟨s1.heap.objs.size, [s1.heap.objs.size], _, _, H1, rfl, I1.kept (t' := s1.toks) fun b o e => Heap.get?_push_of_some _ e, turn_list a _, ⟨_, Heap.get?_push_size _ rfl, rfl, rfl⟩, fun b hb => ?_, k _ _ _ _ f (itl_ok (H := H1) hs ha hl) q⟩
      have e : b = s1.heap.objs.size := by simpa using hb
      subst e
      exact I1.fpOk (Nat.le_refl _) (I1.hok.fresh (Nat.le_refl _))
  · cases r with
    | @tup a xs ds hs ha hl =>
      cases r1
      obtain ⟨its, rv, p, hz⟩ := I1.tuple (f.vw.sqt hs)
      refine wpAny_pyIter_tuple (show s1.heap.IsTuple a its.toArray from p) ?_
      refine ⟨s1.heap.objs.size, [s1.heap.objs.size], _, _, H1, rfl, I1.kept (t' := s1.toks) fun b o e => Heap.get?_push_of_some _ e, turn_tuple a _, ⟨_, Heap.get?_push_size _ rfl, rfl, rfl⟩, fun b hb => ?_, k _ _ _ _ f (itt_ok hs ha hl) q⟩
      have e : b = s1.heap.objs.size := by simpa using hb
      subst e
      exact I1.fpOk (Nat.le_refl _) (I1.hok.fresh (Nat.le_refl _))
def iR1 (m : EX) : IX := fun e Q => m e fun d => wI d fun n => RgS 0 n ∧ Q (rgD 0 n)
def iR2 (ma mb : EX) : IX := fun e Q => ma e fun d => mb e fun d' => wI d fun i => wI d' fun j => RgS i j ∧ Q (rgD i j)
theorem di_r1 {tg : Expr} {p pos : Pos} (hg : Gl X "range") (hm : X.mg "range" = none) (ha : DE X a ma) (hs : starEach [a] X.env = [(false, eval a X.env)] := by rfl) : DI X tg (.Call (.Name "range" p) [a] [] pos) (iR1 ma) :=
  piW (pi_range1 hg hm (pa_cons ha pa_nil hs) hs) fun σ H R ⟨Hv, e, QD, er, vw, h, k⟩ => ⟨Hv, e, _, er, vw, h, fun d v Hv1 H1 f r q => by
    obtain ⟨n, rfl, rfl, q⟩ := wI_int r q
    refine ⟨n, rfl, q.1.2.2.1, q.1.2.2.2.1, ?_⟩
    have := k _ _ _ _ f (itr_ok (lo := 0) (hi := n) q.1) q.2
    rw [Int.sub_zero] at this
    exact this⟩
theorem di_r2 {tg : Expr} {p pos : Pos} (hg : Gl X "range") (hm : X.mg "range" = none) (ha : DE X a ma) (hb : DE X b mb) (hs : starEach [a, b] X.env = [(false, eval a X.env), (false, eval b X.env)] := by rfl) (hs2 : starEach [b] X.env = [(false, eval b X.env)] := by rfl) :
    DI X tg (.Call (.Name "range" p) [a, b] [] pos) (iR2 ma mb) :=
  piW (pi_range2 hg hm (pa_cons ha (pa_cons hb pa_nil hs2) (by rw [hs, hs2])) hs hs2) fun σ H R ⟨Hv, e, QD, er, vw, h, k⟩ => ⟨Hv, e, _, er, vw, h, fun d v Hv1 H1 f r q => ⟨Hv1, e, _, er.mono f.ext, f.vw, q, fun d2 v2 Hv2 H2 f2 r2 q2 => by
    obtain ⟨i, rfl, rfl, q⟩ := wI_int r q2
    obtain ⟨j, rfl, rfl, q⟩ := wI_int r2 q
    exact ⟨i, j, rfl, ⟨q.1.1, q.1.2.1, q.1.2.2.1, q.1.2.2.2.1⟩, k _ _ _ _ (f.trans f2) (itr_ok q.1) q.2⟩⟩⟩
end
end J

/-! J4: targets, comprehensions. -/
namespace J
open PySem PySem.Spec PyProof.Rows L2

/-! ### targets -/
inductive Tg where
  | one (i : Nat)
  | many (is : List Nat)
def setAll : List Nat → List D → En → En
  | i :: is, d :: ds, e => setAll is ds (e.set i (.val d))
  | _, _, e => e
def Tg.bind : Tg → D → En → Option En
  | .one i, d, e => some (e.set i (.val d))
  | .many is, .tuple ds, e => if ds.length = is.length then some (setAll is ds e) else none
  | _, _, _ => none
def Tg.slots : Tg → List Nat
  | .one i => [i]
  | .many is => is
def gNames : List Nat → TGs
  | [] => gNil
  | i :: is => gCons (gName i) (gNames is)
def gTgt (K : PySem.W.Frag) : Tg → TG
  | .one i => gName i
  | .many is => gTup K is.length (gNames is)
def DG (X : Cx) (tg : Expr) (t : Tg) : Prop := PG X tg (gTgt X.K t)
def DGs (X : Cx) (es : List Expr) (is : List Nat) : Prop := PGs X es (gNames is)
section
variable {X : Cx} {K : PySem.W.Frag} {pos : Pos}
theorem dg_name (i : Nat) {x : Str} (hN : X.N.Nodup) (hi : X.N[i]? = some x := by rfl) (hx : Loc X.env.scope x := by first | exact .inl rfl | exact .inr rfl) (hf : X.fn x = true ∨ X.env.scope.names.lookup x = some .local := by first | exact .inl rfl | exact .inr rfl) : DG X (.Name x pos) (.one i) := pg_name hN hi hx hf
theorem dgs_nil : DGs X [] [] := pgs_nil
theorem dgs_cons (i : Nat) {x : Str} {px : Pos} {es : List Expr} {is : List Nat} (hN : X.N.Nodup) (t : DGs X es is) (hi : X.N[i]? = some x := by rfl) (hx : Loc X.env.scope x := by first | exact .inl rfl | exact .inr rfl)
    (hf : X.fn x = true ∨ X.env.scope.names.lookup x = some .local := by first | exact .inl rfl | exact .inr rfl) (hs : (assignEach (.Name x px :: es) X.env).map (·.2) = assign (.Name x px) X.env :: (assignEach es X.env).map (·.2) := by rfl) : DGs X (.Name x px :: es) (i :: is) :=
  pgs_cons (pg_name hN hi hx hf) t hs
theorem dg_tup {es : List Expr} {k : Nat} {is : List Nat} (hc : X.calm = true) (h : DGs X es is) (hn : (assignEach es X.env).length = is.length := by rfl) (hst : (assignEach es X.env).findIdx? (·.1) = none := by rfl) : DG X (.Tuple es k pos) (.many is) := pg_tup hc h hn hst

theorem rd_set {e : En} {i j : Nat} {s : Slot} {d : D} (h : rd (e.set i s) j = some d) : (j = i ∧ i < e.length ∧ s.rd = some d) ∨ (j ≠ i ∧ rd e j = some d) := by
  unfold rd at h ⊢
  by_cases q : i = j
  · subst q
    by_cases l : i < e.length
    · rw [List.getElem?_set_self l] at h
      exact .inl ⟨rfl, l, h⟩
    · rw [List.getElem?_eq_none (by rw [List.length_set]; omega)] at h
      cases h
  · rw [List.getElem?_set_ne q] at h
    exact .inr ⟨fun z => q z.symm, h⟩
theorem Er.set {Hv : Hp} {e : En} {σ : L2.St} (er : Er K Hv e σ) {i : Nat} {v : V} {d : D} (r : Rp K Hv v d) : Er K Hv (e.set i (.val d)) (σ.set i (some v)) := ⟨by rw [List.length_set, List.length_set]; exact er.len, fun j d' h => by
  rcases rd_set h with ⟨q, l, z⟩ | ⟨q, z⟩
  · subst q
    cases z
    exact ⟨v, List.getElem?_set_self (by rw [← er.len]; exact l), r⟩
  · obtain ⟨w, a, b⟩ := er.get j d' z
    exact ⟨w, by rw [List.getElem?_set_ne (Ne.symm q)]; exact a, b⟩⟩
def setAllV : List Nat → List V → L2.St → L2.St
  | i :: is, v :: vs, σ => setAllV is vs (σ.set i (some v))
  | _, _, σ => σ
theorem gNames_ok : ∀ (is : List Nat) (vs : List V) {σ : L2.St} {H : Hp} {Q : L2.St → Hp → Prop}, vs.length = is.length → Q (setAllV is vs σ) H → gNames is vs σ H Q
  | [], [], _, _, _, _, q => ⟨rfl, q⟩
  | [], _ :: _, _, _, _, l, _ => by simp at l
  | _ :: _, [], _, _, _, l, _ => by simp at l
  | i :: is, v :: vs, σ, H, Q, l, q => ⟨v, vs, rfl, gNames_ok is vs (by simpa using l) q⟩
theorem Er.setAll {Hv : Hp} : ∀ (is : List Nat) {vs : List V} {ds : List D} {e : En} {σ : L2.St}, RpAll K Hv vs ds → Er K Hv e σ → Er K Hv (setAll is ds e) (setAllV is vs σ)
  | [], _, _, _, _, .nil, er => er
  | [], _, _, _, _, .cons _ _, er => er
  | _ :: _, _, _, _, _, .nil, er => er
  | i :: is, _, _, _, _, .cons r t, er => Er.setAll is t (er.set r)
/-- a target's store, in the view -/
theorem bind_ok {t : Tg} {Hv H : Hp} {e e' : En} {σ : L2.St} {v : V} {d : D} {Q : L2.St → Hp → Prop} (er : Er K Hv e σ) (vw : Vw Hv H) (r : Rp K Hv v d) (h : t.bind d e = some e')
    (k : ∀ σ', Er K Hv e' σ' → (∃ is vs, is = t.slots ∧ σ' = setAllV is vs σ) → Q σ' H) : gTgt K t v σ H Q := by
  cases t with
  | one i =>
    cases h
    exact k _ (er.set r) ⟨[i], [v], rfl, rfl⟩
  | many is =>
    cases d <;> first | cases h | skip
    have h' : (if _ then _ else _) = some e' := h
    split at h'
    · rename_i l
      cases h'
      cases r with
      | @tup a xs ds hs ha hl =>
        exact ⟨a, xs, rfl, vw.sqt hs, by rw [ha.length]; exact l, gNames_ok is xs (by rw [ha.length]; exact l) (k _ (er.setAll is ha) ⟨is, xs, rfl, rfl⟩)⟩
    · cases h'

/-! ### the block's names forgotten -/
def wipeE (e : En) : List Nat → En
  | [] => e
  | v :: vs => (wipeE e vs).set v .no
theorem wipe_get (σ : L2.St) (j : Nat) : ∀ vs : List Nat, (wipe σ vs)[j]? = if j ∈ vs then (σ[j]?).map (fun _ => none) else σ[j]?
  | [] => by simp [wipe]
  | v :: vs => by
    unfold wipe
    by_cases q : v = j
    · subst q
      by_cases l : v < σ.length
      · rw [List.getElem?_set_self (by rw [wipe_length]; exact l), if_pos List.mem_cons_self, List.getElem?_eq_getElem l]
        rfl
      · rw [List.getElem?_eq_none (by rw [List.length_set, wipe_length]; omega), if_pos List.mem_cons_self, List.getElem?_eq_none (by omega)]
        rfl
    · rw [List.getElem?_set_ne q, wipe_get σ j vs]
      have e : (j ∈ v :: vs) ↔ j ∈ vs := by
        rw [List.mem_cons]
        exact ⟨fun z => z.resolve_left fun w => q w.symm, .inr⟩
      simp only [e]
theorem wipe_set {σ : L2.St} {i : Nat} {x : Option V} {vs : List Nat} (h : i ∈ vs) : wipe (σ.set i x) vs = wipe σ vs := by
  refine List.ext_getElem? fun j => ?_
  rw [wipe_get, wipe_get]
  split
  · rename_i hj
    by_cases q : i = j
    · subst q
      by_cases l : i < σ.length
      · rw [List.getElem?_set_self l, List.getElem?_eq_getElem l]
        rfl
      · rw [List.getElem?_eq_none (by rw [List.length_set]; omega), List.getElem?_eq_none (by omega)]
    · rw [List.getElem?_set_ne q]
  · rename_i hj
    rw [List.getElem?_set_ne (fun z => by subst z; exact hj h)]
theorem wipe_wipe (σ : L2.St) (vs : List Nat) : wipe (wipe σ vs) vs = wipe σ vs := by
  refine List.ext_getElem? fun j => ?_
  rw [wipe_get, wipe_get]
  split
  · cases σ[j]? <;> rfl
  · rfl
theorem wipe_setAll {vs : List Nat} : ∀ (is : List Nat) (us : List V) (σ : L2.St), (∀ i ∈ is, i ∈ vs) → wipe (setAllV is us σ) vs = wipe σ vs
  | [], _, _, _ => by simp [setAllV]
  | _ :: _, [], _, _ => rfl
  | i :: is, u :: us, σ, h => by
    show wipe (setAllV is us (σ.set i (some u))) vs = wipe σ vs
    rw [wipe_setAll is us _ fun j hj => h j (List.mem_cons_of_mem _ hj), wipe_set (h i List.mem_cons_self)]
theorem Er.wipe {Hv : Hp} {e : En} {σ : L2.St} (er : Er K Hv e σ) : ∀ vs : List Nat, Er K Hv (wipeE e vs) (L2.wipe σ vs)
  | [] => er
  | v :: vs => by
    have ih := Er.wipe er vs
    refine ⟨by show ((wipeE e vs).set v .no).length = ((L2.wipe σ vs).set v none).length; rw [List.length_set, List.length_set]; exact ih.len, fun j d h => ?_⟩
    rcases rd_set h with ⟨q, l, z⟩ | ⟨q, z⟩
    · cases z
    · obtain ⟨w, a, b⟩ := ih.get j d z
      exact ⟨w, by show ((L2.wipe σ vs).set v none)[j]? = _; rw [List.getElem?_set_ne (Ne.symm q)]; exact a, b⟩

/-! ### changes of a list that no view shows -/
theorem Vw.mut {Hv H : Hp} {p : Addr} {o : HO} (h : Vw Hv H) (hp : Hv p = none) : Vw Hv (upd H p o) := fun a u e => by
  have q : a ≠ p := fun z => by rw [z, hp] at e; cases e
  rcases h a u e with ⟨z, ns, y, w⟩ | ⟨z, y⟩
  · exact .inl ⟨z, ns, by rw [upd_ne q]; exact y, w⟩
  · exact .inr ⟨z, by rw [upd_ne q]; exact y⟩
theorem Fw.mut {Hv H Hv' H' : Hp} {p : Addr} {o : HO} (f : Fw Hv H Hv' H') (hp : H p = none) (hv : Hv' p = none) : Fw Hv H Hv' (upd H' p o) := ⟨f.ext, f.vw.mut hv, fun a u e h => by
  rw [upd_ne (ne_of_none h hp)]
  exact f.keep a u e h, f.fresh⟩
theorem Fw.hidden {Hv H Hv' H' : Hp} {p : Addr} {o : HO} (f : Fw Hv H Hv' H') (hv : Hv p = none) (h : H p = some o) : Hv' p = none ∧ H' p = some o := by
  refine ⟨?_, f.keep p o hv h⟩
  cases z : Hv' p with
  | none => rfl
  | some u =>
    have := f.fresh p hv (by rw [z]; simp)
    rw [this] at h
    cases h

/-! ### comprehensions -/
def mapW (f : D → (Option D → Prop) → Prop) : List D → (List D → Prop) → Prop
  | [], Q => Q []
  | d :: ds, Q => f d fun r => mapW f ds fun rs => Q (r.toList ++ rs)
/-- one turn: the element, or nothing -/
def lcF (t : Tg) (vs : List Nat) (mt : TX) (me : EX) (e : En) (d : D) (R : Option D → Prop) : Prop := ∃ e', t.bind d (wipeE e vs) = some e' ∧ mt e' fun b => if b = true then me e' fun x => R (some x) else R none
def nLc (it : IX) (t : Tg) (vs : List Nat) (mt : TX) (me : EX) : NX := fun e Q => it e fun ds => mapW (lcF t vs mt me e) ds Q
def tTrue : TX := fun _ Q => Q true
def DTs (X : Cx) (ifs : List Expr) (mt : TX) : Prop := PTs X ifs (tt X.K mt)
theorem ptsW {ifs : List Expr} {t t' : TT} (h : PTs X ifs t) (w : ∀ σ H Q, t' σ H Q → t σ H Q) : PTs X ifs t' := ⟨fun pins s σ H Q I q => h.run pins s σ H Q I (w σ H Q q)⟩
theorem dts_nil : DTs X [] tTrue := ptsW pts_nil fun σ H Q ⟨Hv, e, QD, er, vw, h, k⟩ => k true Hv H (.refl vw) h
theorem dts_one {c : Expr} {mt : TX} (h : DT X c mt) : DTs X [c] mt := pts_one h

theorem drop_cons {α : Type} {ds : List α} {i : Nat} (h : i < ds.length) : ds.drop i = ds[i] :: ds.drop (i + 1) := List.drop_eq_getElem_cons h
theorem tn_lc {it : IX} {t : Tg} {vs : List Nat} {mt : TX} {me : EX} (hsub : ∀ i ∈ t.slots, i ∈ vs) {σ : L2.St} {H : Hp} {Q : VK} (h : tn K (nLc it t vs mt me) σ H Q) : tLc (ti K it) (gTgt K t) (tt K mt) (te K me) vs σ H Q := by
  obtain ⟨Hv, e, QD, er, vw, hm, k⟩ := h
  refine ⟨Hv, e, _, er, vw, hm, fun ds J Hv1 H1 f1 ok q1 Dl hD => ?_⟩
  have er1 := er.mono f1.ext
  refine ⟨fun i m H2 => m = ds.length - i ∧ i ≤ ds.length ∧ ∃ Hv2 acc accV, Fw Hv1 H1 Hv2 H2 ∧ Hv2 Dl = none ∧ H2 Dl = some (.lst accV) ∧ RpAll K Hv2 accV acc ∧ acc.length ≤ i ∧
    mapW (lcF t vs mt me e) (ds.drop i) (fun rs => QD (acc ++ rs)), ⟨ds.length, by simp, Nat.zero_le _, Hv1, [], [], (Fw.refl f1.vw).mut hD (f1.vw.none_of hD), f1.vw.none_of hD, upd_same, .nil, Nat.le_refl _, q1⟩, ?_⟩
  rintro i m H2 ⟨rfl, hi, Hv2, acc, accV, f2, hv2, hh2, ra, la, q2⟩
  by_cases lt : i < ds.length
  · refine .inr ⟨ok.go i Hv2 H2 lt f2.ext f2.vw, ?_⟩
    rw [drop_cons lt] at q2
    obtain ⟨e', hb, q2⟩ := q2
    refine ⟨fun H' => ∃ Hv2 acc accV, Fw Hv1 H1 Hv2 H' ∧ Hv2 Dl = none ∧ H' Dl = some (.lst accV) ∧ RpAll K Hv2 accV acc ∧ acc.length ≤ i + 1 ∧
      mapW (lcF t vs mt me e) (ds.drop (i + 1)) (fun rs => QD (acc ++ rs)), fun H' w => ⟨ds.length - (i + 1), by omega, rfl, lt, w⟩, fun x H3 y => ?_⟩
    obtain ⟨e3, y2⟩ := ok.yld i Hv2 H2 x H3 f2.ext f2.vw y
    rw [e3]
    have rx := y2 ds[i] (by simp [lt])
    refine bind_ok ((er1.mono f2.ext).wipe vs) f2.vw rx hb fun σ' er' ⟨is, us, e4, e5⟩ => ?_
    subst e4 e5
    refine ⟨by rw [wipe_setAll _ _ _ hsub, wipe_wipe], Hv2, e', _, er', f2.vw, q2, fun b Hv3 H3 f3 q3 => ?_⟩
    obtain ⟨hv3, hh3⟩ := f3.hidden hv2 hh2
    cases b with
    | true =>
      refine ⟨Hv3, e', _, er'.mono f3.ext, f3.vw, q3, fun d v Hv4 H4 f4 r4 q4 => ?_⟩
      obtain ⟨hv4, hh4⟩ := f4.hidden hv3 hh3
      have l1 := ra.length
      have l2 := ok.len
      refine ⟨accV, hh4, by omega, Hv4, acc ++ [d], accV ++ [v], ((f2.trans f3).trans f4).mut hD hv4, hv4, upd_same, (Rp.monoAll f4.ext _ _ (Rp.monoAll f3.ext _ _ ra)).append (.one r4), by rw [List.length_append]; simp; omega, ?_⟩
      have e6 : (fun rs => QD (acc ++ [d] ++ rs)) = fun rs => QD (acc ++ ((some d).toList ++ rs)) := by funext rs; simp
      rw [e6]
      exact q4
    | false => exact ⟨Hv3, acc, accV, f2.trans f3, hv3, hh3, Rp.monoAll f3.ext _ _ ra, by omega, q3⟩
  · have e1 : i = ds.length := by omega
    subst e1
    refine .inl ⟨ok.stop Hv2 H2 f2.ext f2.vw, ?_⟩
    rw [List.drop_length] at q2
    have q3 : QD (acc ++ []) := q2
    rw [List.append_nil] at q3
    exact k acc Dl accV Hv2 H2 (f1.trans f2) hv2 (f1.fresh_at hD) hh2 ra (Nat.le_trans la ok.len) q3

theorem n_lc {elt tg iter : Expr} {ifs : List Expr} {scope : Scope} {own : List (Str × Nat)} {it : IX} {t : Tg} {mt : TX} {me : EX} (hc : X.calm = true) (hN : X.N.Nodup) (hi : DI X tg iter it) (ok : BlkOk X.N X.env.scope scope own)
    (hg : ∀ (s : Shared) (H : Hp) (C : Addr) (cl : List (Str × Addr)) (fp : List Addr), DG (X.blk s H scope (compEnvC scope cl C X.env) fp) tg t) (ht : ∀ (s : Shared) (H : Hp) (C : Addr) (cl : List (Str × Addr)) (fp : List Addr), DTs (X.blk s H scope (compEnvC scope cl C X.env) fp) ifs mt)
    (he : ∀ (s : Shared) (H : Hp) (C : Addr) (cl : List (Str × Addr)) (fp : List Addr), DE (X.blk s H scope (compEnvC scope cl C X.env) fp) elt me) (hsub : ∀ i ∈ t.slots, i ∈ own.map (·.2) := by decide) (hs : ∀ x, foldedSetIterable iter X.env x = pure x := by intro _; rfl) :
    DN X (.ListComp elt [⟨tg, iter, ifs, 0⟩] scope pos) (nLc it t (own.map (·.2)) mt me) := peW (pe_lc (g := gTgt X.K t) (tt := tt X.K mt) (te := te X.K me) hc hN hi ok hg ht he hs) fun _ _ _ h => tn_lc hsub h

/-- y = [..] of a plain local name: the reading -/
theorem ps_lc {i : Nat} {y : Str} {py : Pos} {elt tg iter : Expr} {ifs : List Expr} {scope : Scope} {own : List (Str × Nat)} {pos spos : Pos} {it : IX} {t : Tg} {mt : TX} {me : EX} (hc : X.calm = true) (hN : X.N.Nodup) (hy : X.N[i]? = some y) (hyl : X.env.scope.names.lookup y = some .local)
    (hsw : swapsWith (.ListComp elt [⟨tg, iter, ifs, 0⟩] scope pos) (some (.Name y py)) spos.line X.env = pure true) (hi : DI X tg iter it) (ok : BlkOk X.N X.env.scope scope own)
    (hg : ∀ (s : Shared) (H : Hp) (C : Addr) (cl : List (Str × Addr)) (fp : List Addr), DG (X.blk s H scope (compEnvC scope cl C X.env) fp) tg t) (ht : ∀ (s : Shared) (H : Hp) (C : Addr) (cl : List (Str × Addr)) (fp : List Addr), DTs (X.blk s H scope (compEnvC scope cl C X.env) fp) ifs mt)
    (he : ∀ (s : Shared) (H : Hp) (C : Addr) (cl : List (Str × Addr)) (fp : List Addr), DE (X.blk s H scope (compEnvC scope cl C X.env) fp) elt me) (hsub : ∀ i ∈ t.slots, i ∈ own.map (·.2)) (hs : ∀ x, foldedSetIterable iter X.env x = pure x) :
    PS X (.Assign [.Name y py] (.ListComp elt [⟨tg, iter, ifs, 0⟩] scope pos) spos) (tAsg (tn X.K (nLc it t (own.map (·.2)) mt me)) (gName i)) := by
  have h := ps_setLc (g := gTgt X.K t) (tt := tt X.K mt) (te := te X.K me) hc hN hy hyl hsw hi ok hg ht he hs
  exact ⟨fun pins s σ H D I q => h.run pins s σ H D I (tn_lc hsub q)⟩

/-! two clauses -/
def catW (f : D → (List D → Prop) → Prop) : List D → (List D → Prop) → Prop
  | [], Q => Q []
  | d :: ds, Q => f d fun r => catW f ds fun rs => Q (r ++ rs)
def lcF2 (n : Nat) (t : Tg) (vs : List Nat) (mt : TX) (it1 : IX) (t1 : Tg) (vs1 : List Nat) (mt1 : TX) (me : EX) (e : En) (d : D) (R : List D → Prop) : Prop := ∃ e', t.bind d (wipeE e vs) = some e' ∧ mt e' fun b => if b = true then
    it1 e' fun ds1 => n * ds1.length ≤ sizeLine ∧ mapW (lcF t1 vs1 mt1 me e') ds1 R else R []
def nLc2 (it : IX) (t : Tg) (vs : List Nat) (mt : TX) (it1 : IX) (t1 : Tg) (vs1 : List Nat) (mt1 : TX) (me : EX) : NX := fun e Q => it e fun ds => catW (lcF2 ds.length t vs mt it1 t1 vs1 mt1 me e) ds Q
theorem tn_lc2 {it it1 : IX} {t t1 : Tg} {vs vs1 : List Nat} {mt mt1 : TX} {me : EX} (hsub : ∀ i ∈ t.slots, i ∈ vs) (hsub1 : ∀ i ∈ t1.slots, i ∈ vs1) {σ : L2.St} {H : Hp} {Q : VK} (h : tn K (nLc2 it t vs mt it1 t1 vs1 mt1 me) σ H Q) :
    tLc2 (ti K it) (gTgt K t) (tt K mt) (ti K it1) (gTgt K t1) (tt K mt1) (te K me) vs vs1 σ H Q := by
  obtain ⟨Hv, e, QD, er, vw, hm, k⟩ := h
  refine ⟨Hv, e, _, er, vw, hm, fun ds J Hv1 H1 f1 ok q1 Dl hD => ?_⟩
  have er1 := er.mono f1.ext
  refine ⟨fun i m H2 => m = ds.length - i ∧ i ≤ ds.length ∧ ∃ Hv2 acc accV, Fw Hv1 H1 Hv2 H2 ∧ Hv2 Dl = none ∧ H2 Dl = some (.lst accV) ∧ RpAll K Hv2 accV acc ∧ ds.length * acc.length ≤ i * sizeLine ∧ (i = 0 → acc = []) ∧ catW (lcF2 ds.length t vs mt it1 t1 vs1 mt1 me e) (ds.drop i) (fun rs => QD (acc ++ rs)),
    ⟨ds.length, by simp, Nat.zero_le _, Hv1, [], [], (Fw.refl f1.vw).mut hD (f1.vw.none_of hD), f1.vw.none_of hD, upd_same, .nil, by simp, fun _ => rfl, q1⟩, ?_⟩
  rintro i m H2 ⟨rfl, hi, Hv2, acc, accV, f2, hv2, hh2, ra, la, l0, q2⟩
  by_cases lt : i < ds.length
  · refine .inr ⟨ok.go i Hv2 H2 lt f2.ext f2.vw, ?_⟩
    rw [drop_cons lt] at q2
    obtain ⟨e', hb, q2⟩ := q2
    refine ⟨fun H' => ∃ Hv2 acc accV, Fw Hv1 H1 Hv2 H' ∧ Hv2 Dl = none ∧ H' Dl = some (.lst accV) ∧ RpAll K Hv2 accV acc ∧ ds.length * acc.length ≤ (i + 1) * sizeLine ∧ (i + 1 = 0 → acc = []) ∧ catW (lcF2 ds.length t vs mt it1 t1 vs1 mt1 me e) (ds.drop (i + 1)) (fun rs => QD (acc ++ rs)), fun H' w => ⟨ds.length - (i + 1), by omega, rfl, lt, w⟩, fun x H3 y => ?_⟩
    obtain ⟨e3, y2⟩ := ok.yld i Hv2 H2 x H3 f2.ext f2.vw y
    rw [e3]
    have rx := y2 ds[i] (by simp [lt])
    refine bind_ok ((er1.mono f2.ext).wipe vs) f2.vw rx hb fun σ' er' ⟨is, us, e4, e5⟩ => ?_
    subst e4 e5
    refine ⟨by rw [wipe_setAll _ _ _ hsub, wipe_wipe], Hv2, e', _, er', f2.vw, q2, fun b Hv3 H3 f3 q3 => ?_⟩
    obtain ⟨hv3, hh3⟩ := f3.hidden hv2 hh2
    have la2 : i * sizeLine ≤ (i + 1) * sizeLine := Nat.mul_le_mul_right _ (Nat.le_succ i)
    cases b with
    | false =>
      refine ⟨Hv3, acc, accV, f2.trans f3, hv3, hh3, Rp.monoAll f3.ext _ _ ra, Nat.le_trans la la2, fun q => by omega, ?_⟩
      exact q3
    | true =>
      refine ⟨Hv3, e', _, er'.mono f3.ext, f3.vw, q3, fun ds1 J1 Hv4 H4 f4 ok1 q4 => ?_⟩
      obtain ⟨hv4, hh4⟩ := f4.hidden hv3 hh3
      obtain ⟨hsz, q4⟩ := q4
      have er4 := (er'.mono f3.ext).mono f4.ext
      have f24 := (f2.trans f3).trans f4
      have ra4 := Rp.monoAll f4.ext _ _ (Rp.monoAll f3.ext _ _ ra)
      refine ⟨fun j k2 H5 => k2 = ds1.length - j ∧ j ≤ ds1.length ∧ ∃ Hv5 bcc bccV, Fw Hv1 H1 Hv5 H5 ∧ Same Hv4 Hv5 ∧ Hv5 Dl = none ∧ H5 Dl = some (.lst bccV) ∧ RpAll K Hv5 bccV bcc ∧ bcc.length ≤ acc.length + j ∧
        mapW (lcF t1 vs1 mt1 me e') (ds1.drop j) (fun rs => catW (lcF2 ds.length t vs mt it1 t1 vs1 mt1 me e) (ds.drop (i + 1)) (fun rest => QD (bcc ++ rs ++ rest))), ⟨ds1.length, by simp, Nat.zero_le _, Hv4, acc, accV, f24, Same.refl _, hv4, hh4, ra4, by simp, ?_⟩, ?_⟩
      · have e6 : (fun rs => catW (lcF2 ds.length t vs mt it1 t1 vs1 mt1 me e) (ds.drop (i + 1)) (fun rest => QD (acc ++ rs ++ rest))) = (fun r => catW (lcF2 ds.length t vs mt it1 t1 vs1 mt1 me e) (ds.drop (i + 1)) fun rs => QD (acc ++ (r ++ rs))) := by
          funext r
          simp only [List.append_assoc]
        show mapW (lcF t1 vs1 mt1 me e') ds1 _
        rw [e6]
        exact q4
      rintro j k2 H5 ⟨rfl, hj, Hv5, bcc, bccV, f5, x5, hv5, hh5, rb, lb, q5⟩
      by_cases lt1 : j < ds1.length
      · refine .inr ⟨ok1.go j Hv5 H5 lt1 x5 f5.vw, ?_⟩
        rw [drop_cons lt1] at q5
        obtain ⟨e1, hb1, q5⟩ := q5
        refine ⟨fun H' => ∃ Hv5 bcc bccV, Fw Hv1 H1 Hv5 H' ∧ Same Hv4 Hv5 ∧ Hv5 Dl = none ∧ H' Dl = some (.lst bccV) ∧ RpAll K Hv5 bccV bcc ∧ bcc.length ≤ acc.length + (j + 1) ∧
          mapW (lcF t1 vs1 mt1 me e') (ds1.drop (j + 1)) (fun rs => catW (lcF2 ds.length t vs mt it1 t1 vs1 mt1 me e) (ds.drop (i + 1)) (fun rest => QD (bcc ++ rs ++ rest))), fun H' w => ⟨ds1.length - (j + 1), by omega, rfl, lt1, w⟩, fun x1 H6 y1 => ?_⟩
        obtain ⟨e6, y3⟩ := ok1.yld j Hv5 H5 x1 H6 x5 f5.vw y1
        rw [e6]
        have rx1 := y3 ds1[j] (by simp [lt1])
        refine bind_ok ((er4.mono x5).wipe vs1) f5.vw rx1 hb1 fun σ'' er'' ⟨is, us, e7, e8⟩ => ?_
        subst e7 e8
        refine ⟨by rw [wipe_setAll _ _ _ hsub1, wipe_wipe], Hv5, e1, _, er'', f5.vw, q5, fun b1 Hv6 H6 f6 q6 => ?_⟩
        obtain ⟨hv6, hh6⟩ := f6.hidden hv5 hh5
        cases b1 with
        | true =>
          refine ⟨Hv6, e1, _, er''.mono f6.ext, f6.vw, q6, fun d v Hv7 H7 f7 r7 q7 => ?_⟩
          obtain ⟨hv7, hh7⟩ := f7.hidden hv6 hh6
          have l1 := rb.length
          have lz : bccV.length < sizeLine := by
            have a1 : ds.length * (acc.length + j + 1) ≤ i * sizeLine + ds.length * ds1.length := by
              have : ds.length * (acc.length + j + 1) = ds.length * acc.length + ds.length * (j + 1) := by rw [Nat.add_assoc, Nat.mul_add]
              rw [this]
              exact Nat.add_le_add la (Nat.mul_le_mul_left _ lt1)
            have a2 : i * sizeLine + ds.length * ds1.length ≤ (i + 1) * sizeLine := by rw [Nat.succ_mul]; exact Nat.add_le_add_left hsz _
            have a3 : (i + 1) * sizeLine ≤ ds.length * sizeLine := Nat.mul_le_mul_right _ lt
            have a4 : ds.length * (acc.length + j + 1) ≤ ds.length * sizeLine := Nat.le_trans a1 (Nat.le_trans a2 a3)
            have a5 := Nat.le_of_mul_le_mul_left a4 (Nat.lt_of_le_of_lt (Nat.zero_le _) lt)
            omega
          refine ⟨bccV, hh7, lz, Hv7, bcc ++ [d], bccV ++ [v], ((f5.trans f6).trans f7).mut hD hv7, (x5.trans f6.ext).trans f7.ext, hv7, upd_same, (Rp.monoAll f7.ext _ _ (Rp.monoAll f6.ext _ _ rb)).append (.one r7), by rw [List.length_append]; simp; omega, ?_⟩
          have e9 : (fun rs => catW (lcF2 ds.length t vs mt it1 t1 vs1 mt1 me e) (ds.drop (i + 1)) (fun rest => QD (bcc ++ [d] ++ rs ++ rest))) = fun rs => catW (lcF2 ds.length t vs mt it1 t1 vs1 mt1 me e) (ds.drop (i + 1)) (fun rest => QD (bcc ++ ((some d).toList ++ rs) ++ rest)) := by funext rs; simp
          rw [e9]
          exact q7
        | false => exact ⟨Hv6, bcc, bccV, f5.trans f6, x5.trans f6.ext, hv6, hh6, Rp.monoAll f6.ext _ _ rb, by omega, q6⟩
      · have e1 : j = ds1.length := by omega
        subst e1
        refine .inl ⟨ok1.stop Hv5 H5 x5 f5.vw, Hv5, bcc, bccV, f5, hv5, hh5, rb, ?_, fun q => by omega, ?_⟩
        · have a1 : ds.length * bcc.length ≤ ds.length * acc.length + ds.length * ds1.length := by rw [← Nat.mul_add]; exact Nat.mul_le_mul_left _ lb
          rw [Nat.succ_mul]
          exact Nat.le_trans a1 (Nat.add_le_add la hsz)
        · rw [List.drop_length] at q5
          have q6 : catW (lcF2 ds.length t vs mt it1 t1 vs1 mt1 me e) (ds.drop (i + 1)) (fun rest => QD (bcc ++ [] ++ rest)) := q5
          rw [List.append_nil] at q6
          exact q6
  · have e1 : i = ds.length := by omega
    subst e1
    refine .inl ⟨ok.stop Hv2 H2 f2.ext f2.vw, ?_⟩
    rw [List.drop_length] at q2
    have q3 : QD (acc ++ []) := q2
    rw [List.append_nil] at q3
    have lz : acc.length ≤ sizeLine := by
      by_cases h0 : ds.length = 0
      · rw [l0 h0]; exact Nat.zero_le _
      · exact Nat.le_of_mul_le_mul_left la (by omega)
    exact k acc Dl accV Hv2 H2 (f1.trans f2) hv2 (f1.fresh_at hD) hh2 ra lz q3
theorem n_lc2 {elt tg iter tg1 iter1 : Expr} {ifs ifs1 : List Expr} {scope : Scope} {own : List (Str × Nat)} {vs1 : List Nat} {it it1 : IX} {t t1 : Tg} {mt mt1 : TX} {me : EX} (hc : X.calm = true) (hN : X.N.Nodup) (hi : DI X tg iter it) (ok : BlkOk X.N X.env.scope scope own) (hv : ∀ i ∈ vs1, i ∈ own.map (·.2))
    (hg : ∀ (s : Shared) (H : Hp) (C : Addr) (cl : List (Str × Addr)) (fp : List Addr), DG (X.blk s H scope (compEnvC scope cl C X.env) fp) tg t) (ht : ∀ (s : Shared) (H : Hp) (C : Addr) (cl : List (Str × Addr)) (fp : List Addr), DTs (X.blk s H scope (compEnvC scope cl C X.env) fp) ifs mt)
    (hi1 : ∀ (s : Shared) (H : Hp) (C : Addr) (cl : List (Str × Addr)) (fp : List Addr), DI (X.blk s H scope (compEnvC scope cl C X.env) fp) tg1 iter1 it1)
    (hg1 : ∀ (s : Shared) (H : Hp) (C : Addr) (cl : List (Str × Addr)) (fp : List Addr), DG (X.blk s H scope (compEnvC scope cl C X.env) fp) tg1 t1) (ht1 : ∀ (s : Shared) (H : Hp) (C : Addr) (cl : List (Str × Addr)) (fp : List Addr), DTs (X.blk s H scope (compEnvC scope cl C X.env) fp) ifs1 mt1)
    (he : ∀ (s : Shared) (H : Hp) (C : Addr) (cl : List (Str × Addr)) (fp : List Addr), DE (X.blk s H scope (compEnvC scope cl C X.env) fp) elt me) (hsub : ∀ i ∈ t.slots, i ∈ own.map (·.2) := by decide) (hsub1 : ∀ i ∈ t1.slots, i ∈ vs1 := by decide)
    (hs : ∀ x, foldedSetIterable iter X.env x = pure x := by intro _; rfl) (hs1 : ∀ env x, foldedSetIterable iter1 env x = pure x := by intro _ _; rfl) :
    DN X (.ListComp elt [⟨tg, iter, ifs, 0⟩, ⟨tg1, iter1, ifs1, 0⟩] scope pos) (nLc2 it t (own.map (·.2)) mt it1 t1 vs1 mt1 me) :=
  peW (pe_lc2 (g := gTgt X.K t) (tt := tt X.K mt) (te := te X.K me) (g1 := gTgt X.K t1) (tt1 := tt X.K mt1) (wi1 := ti X.K it1) (vs1 := vs1) hc hN hi ok hv hg ht hi1 hg1 ht1 he hs hs1) fun _ _ _ h => tn_lc2 hsub hsub1 h
end
end J

/-! J5: a def's state, statements. -/
namespace J
open PySem PySem.Spec PyProof.Rows L2

/-- a def's state: entered at Hv0 over H0 -/
structure Stt (K : PySem.W.Frag) (Hv0 H0 Hv : Hp) (e : En) (σ : L2.St) (H : Hp) : Prop where
  fw : Fw Hv0 H0 Hv H
  len : e.length = σ.length
  val : ∀ (i : Nat) (d : D), e[i]? = some (Slot.val d) → ∃ v, σ[i]? = some (some v) ∧ Rp K Hv v d
  own : ∀ (i : Nat) (ds : List D), e[i]? = some (Slot.own ds) → ∃ a xs, σ[i]? = some (some (.ref a)) ∧ Hv a = none ∧ H0 a = none ∧ H a = some (.lst xs) ∧ RpAll K Hv xs ds ∧ ds.length ≤ sizeLine
  sep : ∀ (i j : Nat) (ds es : List D) (a : Addr), e[i]? = some (Slot.own ds) → e[j]? = some (Slot.own es) → σ[i]? = some (some (.ref a)) → σ[j]? = some (some (.ref a)) → i = j
def Slot.hide : Slot → Slot
  | .own _ => .no
  | s => s
def hide (e : En) : En := e.map Slot.hide
def Owned (e : En) (σ : L2.St) (a : Addr) : Prop := ∃ (i : Nat) (ds : List D), e[i]? = some (Slot.own ds) ∧ σ[i]? = some (some (.ref a))
open Classical in
noncomputable def fullV (Hv H : Hp) (e : En) (σ : L2.St) : Hp := fun a => match Hv a with
  | some o => some o
  | none => if Owned e σ a then H a else none
open Classical in
noncomputable def cutO (Hv : Hp) (e : En) (σ : L2.St) : Hp := fun a => if Owned e σ a then none else Hv a
section
variable {K : PySem.W.Frag} {Hv0 H0 Hv H : Hp} {e : En} {σ : L2.St}
theorem Stt.owned (S : Stt K Hv0 H0 Hv e σ H) {a : Addr} (h : Owned e σ a) : Hv a = none ∧ H0 a = none ∧ ∃ xs, H a = some (.lst xs) := by
  obtain ⟨i, ds, h1, h2⟩ := h
  obtain ⟨a', xs, e1, e2, e3, e4, _⟩ := S.own i ds h1
  rw [h2] at e1
  cases e1
  exact ⟨e2, e3, xs, e4⟩
theorem Stt.erH (S : Stt K Hv0 H0 Hv e σ H) : Er K Hv (hide e) σ := ⟨by unfold hide; rw [List.length_map]; exact S.len, fun i d h => by
  unfold rd hide at h
  rw [List.getElem?_map] at h
  cases q : e[i]? with
  | none => rw [q] at h; cases h
  | some s =>
    rw [q] at h
    cases s with
    | no => cases h
    | val d' => cases h; exact S.val i d q
    | own ds => cases h⟩
/-- evaluated in what is not the def's own to change -/
theorem Stt.step (S : Stt K Hv0 H0 Hv e σ H) {Hv1 H1 : Hp} (f : Fw Hv H Hv1 H1) : Stt K Hv0 H0 Hv1 e σ H1 where
  fw := S.fw.trans f
  len := S.len
  val := fun i d h => by
    obtain ⟨v, a, b⟩ := S.val i d h
    exact ⟨v, a, b.mono f.ext⟩
  own := fun i ds h => by
    obtain ⟨a, xs, h1, h2, h3, h4, h5, h6⟩ := S.own i ds h
    obtain ⟨g1, g2⟩ := f.hidden h2 h4
    exact ⟨a, xs, h1, g1, h3, g2, Rp.monoAll f.ext _ _ h5, h6⟩
  sep := S.sep
theorem full_same : Same Hv (fullV Hv H e σ) := fun a o h => by
  unfold fullV
  rw [h]
theorem Stt.full_at (S : Stt K Hv0 H0 Hv e σ H) {a : Addr} (h : Owned e σ a) : fullV Hv H e σ a = H a := by
  unfold fullV
  rw [(S.owned h).1]
  exact if_pos h
theorem full_un {a : Addr} (h : ¬ Owned e σ a) : fullV Hv H e σ a = Hv a := by
  unfold fullV
  cases q : Hv a with
  | none => exact if_neg h
  | some o => rfl
theorem Stt.full_vw (S : Stt K Hv0 H0 Hv e σ H) : Vw (fullV Hv H e σ) H := fun a o h => by
  by_cases q : Owned e σ a
  · rw [S.full_at q] at h
    obtain ⟨_, _, xs, z⟩ := S.owned q
    rw [z] at h
    cases h
    exact .inr ⟨mark_ne_lst, z⟩
  · rw [full_un q] at h
    exact S.fw.vw a o h
theorem Stt.erF (S : Stt K Hv0 H0 Hv e σ H) : Er K (fullV Hv H e σ) e σ := ⟨S.len, fun i d h => by
  unfold rd at h
  cases q : e[i]? with
  | none => rw [q] at h; cases h
  | some s =>
    rw [q] at h
    cases s with
    | no => cases h
    | val d' =>
      cases h
      obtain ⟨v, a, b⟩ := S.val i d q
      exact ⟨v, a, b.mono full_same⟩
    | own ds =>
      cases h
      obtain ⟨a, xs, h1, h2, h3, h4, h5, h6⟩ := S.own i ds q
      exact ⟨.ref a, h1, .lst (SqL.of (by rw [S.full_at ⟨i, ds, q, h1⟩]; exact h4)) (Rp.monoAll full_same _ _ h5) h6⟩⟩
/-- all frozen -/
theorem Stt.frozen (S : Stt K Hv0 H0 Hv e σ H) : Fw Hv0 H0 (fullV Hv H e σ) H := ⟨S.fw.ext.trans full_same, S.full_vw, S.fw.keep, fun a h1 h2 => by
  by_cases q : Owned e σ a
  · exact (S.owned q).2.1
  · rw [full_un q] at h2
    exact S.fw.fresh a h1 h2⟩
/-- back from the full view -/
theorem Stt.back (S : Stt K Hv0 H0 Hv e σ H) {Hv1 H1 : Hp} (f : Fw (fullV Hv H e σ) H Hv1 H1) : Stt K Hv0 H0 (cutO Hv1 e σ) e σ H1 ∧ ∀ n d v, pl n d = true → Rp K Hv1 v d → Rp K (cutO Hv1 e σ) v d := by
  have cut_o : ∀ a, Owned e σ a → cutO Hv1 e σ a = none := fun a h => if_pos h
  have cut_u : ∀ a, ¬ Owned e σ a → cutO Hv1 e σ a = Hv1 a := fun a h => if_neg h
  have ext : Same Hv (cutO Hv1 e σ) := fun a o h => by
    have q : ¬ Owned e σ a := fun z => by rw [(S.owned z).1] at h; cases h
    rw [cut_u a q]
    exact f.ext a o (by rw [full_un q]; exact h)
  have at1 : ∀ a, Owned e σ a → Hv1 a = H a ∧ H1 a = H a := fun a h => by
    obtain ⟨_, _, xs, z⟩ := S.owned h
    have y := f.ext a _ (by rw [S.full_at h]; exact z)
    refine ⟨by rw [y, z], ?_⟩
    rcases f.vw a _ y with ⟨w, _⟩ | ⟨_, w⟩
    · cases w
    · rw [w, z]
  refine ⟨⟨⟨S.fw.ext.trans ext, fun a o h => ?_, fun a o h1 h2 => ?_, fun a h1 h2 => ?_⟩, S.len, fun i d h => ?_, fun i ds h => ?_, S.sep⟩, fun n d v hp r => ?_⟩
  · by_cases q : Owned e σ a
    · rw [cut_o a q] at h; cases h
    · rw [cut_u a q] at h
      exact f.vw a o h
  · have z := S.fw.keep a o h1 h2
    have q : ¬ Owned e σ a := fun w => by rw [(S.owned w).2.1] at h2; cases h2
    refine f.keep a o ?_ z
    rw [full_un q]
    cases y : Hv a with
    | none => rfl
    | some u =>
      have := S.fw.fresh a h1 (by rw [y]; simp)
      rw [this] at h2
      cases h2
  · by_cases q : Owned e σ a
    · exact (S.owned q).2.1
    · rw [cut_u a q] at h2
      cases y : Hv a with
      | some u => exact S.fw.fresh a h1 (by rw [y]; simp)
      | none =>
        have w := f.fresh a (by rw [full_un q]; exact y) h2
        cases z : H0 a with
        | none => rfl
        | some o =>
          rw [S.fw.keep a o h1 z] at w
          cases w
  · obtain ⟨v, a, b⟩ := S.val i d h
    exact ⟨v, a, b.mono ext⟩
  · obtain ⟨a, xs, h1, h2, h3, h4, h5, h6⟩ := S.own i ds h
    have o : Owned e σ a := ⟨i, ds, h, h1⟩
    exact ⟨a, xs, h1, cut_o a o, h3, by rw [(at1 a o).2]; exact h4, Rp.monoAll ext _ _ h5, h6⟩
  · refine Rp.less (fun a o h hl => ?_) n d v hp r
    have q : ¬ Owned e σ a := fun z => by
      obtain ⟨_, _, xs, y⟩ := S.owned z
      rw [(at1 a z).1, y] at h
      cases h
      exact hl xs rfl
    rw [cut_u a q]
    exact h

/-! ### stores -/
theorem set_get {α : Type} {l : List α} {i j : Nat} {x y : α} (h : (l.set i x)[j]? = some y) : (j = i ∧ y = x) ∨ (j ≠ i ∧ l[j]? = some y) := by
  by_cases q : i = j
  · subst q
    by_cases hl : i < l.length
    · rw [List.getElem?_set_self hl] at h
      cases h
      exact .inl ⟨rfl, rfl⟩
    · rw [List.getElem?_eq_none (by rw [List.length_set]; omega)] at h
      cases h
  · rw [List.getElem?_set_ne q] at h
    exact .inr ⟨fun z => q z.symm, h⟩
theorem lt_of_set {α : Type} {l : List α} {i : Nat} {x y : α} (h : (l.set i x)[i]? = some y) : i < l.length := by
  have := (List.getElem?_eq_some_iff.mp h).1
  rw [List.length_set] at this
  exact this
theorem Stt.set (S : Stt K Hv0 H0 Hv e σ H) {i : Nat} {v : V} {d : D} (r : Rp K Hv v d) : Stt K Hv0 H0 Hv (e.set i (.val d)) (σ.set i (some v)) H where
  fw := S.fw
  len := by rw [List.length_set, List.length_set]; exact S.len
  val := fun j d' h => by
    rcases set_get h with ⟨q, z⟩ | ⟨q, z⟩
    · subst q
      cases z
      exact ⟨v, List.getElem?_set_self (by rw [← S.len]; exact lt_of_set h), r⟩
    · obtain ⟨w, a, b⟩ := S.val j d' z
      exact ⟨w, by rw [List.getElem?_set_ne (Ne.symm q)]; exact a, b⟩
  own := fun j ds h => by
    rcases set_get h with ⟨q, z⟩ | ⟨q, z⟩
    · cases z
    · obtain ⟨a, xs, h1, hr⟩ := S.own j ds z
      exact ⟨a, xs, by rw [List.getElem?_set_ne (Ne.symm q)]; exact h1, hr⟩
  sep := fun j k ds es a h1 h2 h3 h4 => by
    rcases set_get h1 with ⟨q, z⟩ | ⟨q, z⟩
    · cases z
    · rcases set_get h2 with ⟨q2, z2⟩ | ⟨q2, z2⟩
      · cases z2
      · rw [List.getElem?_set_ne (Ne.symm q)] at h3
        rw [List.getElem?_set_ne (Ne.symm q2)] at h4
        exact S.sep j k ds es a z z2 h3 h4
/-- a new list of the def's own -/
theorem Stt.setOwn (S : Stt K Hv0 H0 Hv e σ H) {i : Nat} {p : Addr} {xs : List V} {ds : List D} (hv : Hv p = none) (h0 : H0 p = none) (no : ∀ (j : Nat) (es : List D), e[j]? = some (Slot.own es) → σ[j]? ≠ some (some (.ref p))) (hp : H p = some (.lst xs)) (r : RpAll K Hv xs ds) (hl : ds.length ≤ sizeLine) :
    Stt K Hv0 H0 Hv (e.set i (.own ds)) (σ.set i (some (.ref p))) H where
  fw := S.fw
  len := by rw [List.length_set, List.length_set]; exact S.len
  val := fun j d' h => by
    rcases set_get h with ⟨q, z⟩ | ⟨q, z⟩
    · cases z
    · obtain ⟨w, a, b⟩ := S.val j d' z
      exact ⟨w, by rw [List.getElem?_set_ne (Ne.symm q)]; exact a, b⟩
  own := fun j es h => by
    rcases set_get h with ⟨q, z⟩ | ⟨q, z⟩
    · subst q
      cases z
      exact ⟨p, xs, List.getElem?_set_self (by rw [← S.len]; exact lt_of_set h), hv, h0, hp, r, hl⟩
    · obtain ⟨a, ys, h1, hr⟩ := S.own j es z
      exact ⟨a, ys, by rw [List.getElem?_set_ne (Ne.symm q)]; exact h1, hr⟩
  sep := fun j k es fs a h1 h2 h3 h4 => by
    rcases set_get h1 with ⟨q, z⟩ | ⟨q, z⟩
    · rcases set_get h2 with ⟨q2, z2⟩ | ⟨q2, z2⟩
      · rw [q, q2]
      · subst q
        have l : j < σ.length := by rw [← S.len]; exact lt_of_set h1
        rw [List.getElem?_set_self l] at h3
        cases h3
        rw [List.getElem?_set_ne (Ne.symm q2)] at h4
        exact absurd h4 (no k fs z2)
    · rcases set_get h2 with ⟨q2, z2⟩ | ⟨q2, z2⟩
      · subst q2
        have l : k < σ.length := by rw [← S.len]; exact lt_of_set h2
        rw [List.getElem?_set_self l] at h4
        cases h4
        rw [List.getElem?_set_ne (Ne.symm q)] at h3
        exact absurd h3 (no j es z)
      · rw [List.getElem?_set_ne (Ne.symm q)] at h3
        rw [List.getElem?_set_ne (Ne.symm q2)] at h4
        exact S.sep j k es fs a z z2 h3 h4
/-- a list of the def's own changes -/
theorem Stt.mut (S : Stt K Hv0 H0 Hv e σ H) {i : Nat} {a : Addr} {ds es : List D} {ys : List V} (h : e[i]? = some (.own ds)) (hs : σ[i]? = some (some (.ref a))) (r : RpAll K Hv ys es) (hl : es.length ≤ sizeLine) : Stt K Hv0 H0 Hv (e.set i (.own es)) σ (upd H a (.lst ys)) := by
  obtain ⟨a', xs, g1, g2, g3, g4, g5, g6⟩ := S.own i ds h
  rw [hs] at g1
  cases g1
  have li : i < e.length := (List.getElem?_eq_some_iff.mp h).1
  refine ⟨S.fw.mut g3 g2, by rw [List.length_set]; exact S.len, fun j d q => ?_, fun j fs q => ?_, fun j k fs gs b q1 q2 q3 q4 => ?_⟩
  · rcases set_get q with ⟨_, z⟩ | ⟨_, z⟩
    · cases z
    · exact S.val j d z
  · rcases set_get q with ⟨y, z⟩ | ⟨y, z⟩
    · subst y
      cases z
      exact ⟨a, ys, hs, g2, g3, upd_same, r, hl⟩
    · obtain ⟨b, zs, k1, k2, k3, k4, k5, k6⟩ := S.own j fs z
      have ne : b ≠ a := fun w => by
        subst w
        exact y (S.sep j i fs ds b z h k1 hs)
      exact ⟨b, zs, k1, k2, k3, by rw [upd_ne ne]; exact k4, k5, k6⟩
  · have e1 : ∃ es', e[j]? = some (.own es') := by
      rcases set_get q1 with ⟨y, z⟩ | ⟨y, z⟩
      · subst y; exact ⟨ds, h⟩
      · exact ⟨_, z⟩
    have e2 : ∃ es', e[k]? = some (.own es') := by
      rcases set_get q2 with ⟨y, z⟩ | ⟨y, z⟩
      · subst y; exact ⟨ds, h⟩
      · exact ⟨_, z⟩
    obtain ⟨f1, e1⟩ := e1
    obtain ⟨f2, e2⟩ := e2
    exact S.sep j k f1 f2 b e1 e2 q3 q4
/-- a list of the def's own is frozen -/
def frz (i : Nat) (e : En) : En := match e[i]? with
  | some (.own ds) => e.set i (.val (.list ds))
  | _ => e
theorem Stt.frz (S : Stt K Hv0 H0 Hv e σ H) (i : Nat) : ∃ Hv1, Stt K Hv0 H0 Hv1 (J.frz i e) σ H := by
  unfold J.frz
  split
  · rename_i ds h
    obtain ⟨a, xs, g1, g2, g3, g4, g5, g6⟩ := S.own i ds h
    have hv0 : Hv0 a = none := by
      cases q : Hv0 a with
      | none => rfl
      | some o => rw [S.fw.ext a o q] at g2; cases g2
    have m : Same Hv (upd Hv a (.lst xs)) := same_upd g2
    refine ⟨upd Hv a (.lst xs), ⟨S.fw.ext.trans m, Fw.show_ S.fw.vw mark_ne_lst g2 g4, S.fw.keep, fun b h1 h2 => ?_⟩, by rw [List.length_set]; exact S.len, fun j d q => ?_, fun j es q => ?_, fun j k es fs b q1 q2 q3 q4 => ?_⟩
    · by_cases z : b = a
      · rw [z]; exact g3
      · rw [upd_ne z] at h2
        exact S.fw.fresh b h1 h2
    · rcases set_get q with ⟨y, z⟩ | ⟨y, z⟩
      · subst y
        cases z
        exact ⟨.ref a, g1, .lst (SqL.of upd_same) (Rp.monoAll m _ _ g5) g6⟩
      · obtain ⟨v, k1, k2⟩ := S.val j d z
        exact ⟨v, k1, k2.mono m⟩
    · rcases set_get q with ⟨y, z⟩ | ⟨y, z⟩
      · cases z
      · obtain ⟨b, zs, k1, k2, k3, k4, k5, k6⟩ := S.own j es z
        have ne : b ≠ a := fun w => by
          subst w
          exact y (S.sep j i es ds b z h k1 g1)
        exact ⟨b, zs, k1, by rw [upd_ne ne]; exact k2, k3, k4, Rp.monoAll m _ _ k5, k6⟩
    · rcases set_get q1 with ⟨y, z⟩ | ⟨y, z⟩
      · cases z
      · rcases set_get q2 with ⟨y2, z2⟩ | ⟨y2, z2⟩
        · cases z2
        · exact S.sep j k es fs b z z2 q3 q4
  · exact ⟨Hv, S⟩
theorem Stt.setAll : ∀ (is : List Nat) {vs : List V} {ds : List D} {e : En} {σ : L2.St}, RpAll K Hv vs ds → Stt K Hv0 H0 Hv e σ H → Stt K Hv0 H0 Hv (J.setAll is ds e) (setAllV is vs σ) H
  | [], _, _, _, _, .nil, er => er
  | [], _, _, _, _, .cons _ _, er => er
  | _ :: _, _, _, _, _, .nil, er => er
  | i :: is, _, _, _, _, .cons r t, er => Stt.setAll is t (er.set r)
theorem Stt.bind {t : Tg} {e' : En} {v : V} {d : D} {Q : L2.St → Hp → Prop} (S : Stt K Hv0 H0 Hv e σ H) (r : Rp K Hv v d) (h : t.bind d e = some e') (k : ∀ σ', Stt K Hv0 H0 Hv e' σ' H → Q σ' H) : gTgt K t v σ H Q := by
  cases t with
  | one i =>
    cases h
    exact k _ (S.set r)
  | many is =>
    cases d <;> first | cases h | skip
    have h' : (if _ then _ else _) = some e' := h
    split at h'
    · rename_i l
      cases h'
      cases r with
      | @tup a xs ds hs ha hl =>
        exact ⟨a, xs, rfl, S.fw.vw.sqt hs, by rw [ha.length]; exact l, gNames_ok is xs (by rw [ha.length]; exact l) (k _ (Stt.setAll is ha S))⟩
    · cases h'
end

/-! ### a loop's turn: the state entered anew -/
open Classical in
noncomputable def ent (e : En) (σ : L2.St) (H : Hp) : Hp := fun a => if Owned e σ a then none else H a
section
variable {K : PySem.W.Frag} {Hv0 H0 Hv H : Hp} {e : En} {σ : L2.St}
theorem ent_o {a : Addr} (h : Owned e σ a) : ent e σ H a = none := if_pos h
theorem ent_u {a : Addr} (h : ¬ Owned e σ a) : ent e σ H a = H a := if_neg h
theorem Stt.enter (S : Stt K Hv0 H0 Hv e σ H) : Stt K Hv (ent e σ H) Hv e σ H where
  fw := ⟨Same.refl _, S.fw.vw, fun a o _ h => by
    by_cases q : Owned e σ a
    · rw [ent_o q] at h; cases h
    · rw [ent_u q] at h; exact h, fun a h1 h2 => absurd h1 h2⟩
  len := S.len
  val := S.val
  own := fun i ds h => by
    obtain ⟨a, xs, h1, h2, h3, h4, h5, h6⟩ := S.own i ds h
    exact ⟨a, xs, h1, h2, ent_o ⟨i, ds, h, h1⟩, h4, h5, h6⟩
  sep := S.sep
theorem Stt.none0 (S : Stt K Hv0 H0 Hv e σ H) {a : Addr} (h : ent e σ H a = none) : Hv0 a = none → H0 a = none := fun h0 => by
  by_cases q : Owned e σ a
  · exact (S.owned q).2.1
  · rw [ent_u q] at h
    cases z : H0 a with
    | none => rfl
    | some o => rw [S.fw.keep a o h0 z] at h; cases h
theorem Stt.leaveFw (S : Stt K Hv0 H0 Hv e σ H) {Hv3 H3 : Hp} (f : Fw Hv (ent e σ H) Hv3 H3) : Fw Hv0 H0 Hv3 H3 where
  ext := S.fw.ext.trans f.ext
  vw := f.vw
  keep := fun a o h1 h2 => by
    have q : ¬ Owned e σ a := fun w => by rw [(S.owned w).2.1] at h2; cases h2
    refine f.keep a o ?_ (by rw [ent_u q]; exact S.fw.keep a o h1 h2)
    cases y : Hv a with
    | none => rfl
    | some u =>
      have := S.fw.fresh a h1 (by rw [y]; simp)
      rw [this] at h2
      cases h2
  fresh := fun a h1 h2 => by
    cases y : Hv a with
    | some u => exact S.fw.fresh a h1 (by rw [y]; simp)
    | none => exact S.none0 (f.fresh a y h2) h1
theorem Stt.leave (S : Stt K Hv0 H0 Hv e σ H) {Hv3 H3 : Hp} {e3 : En} {σ3 : L2.St} (S3 : Stt K Hv (ent e σ H) Hv3 e3 σ3 H3) : Stt K Hv0 H0 Hv3 e3 σ3 H3 where
  fw := S.leaveFw S3.fw
  len := S3.len
  val := S3.val
  own := fun i ds h => by
    obtain ⟨a, xs, h1, h2, h3, h4, h5, h6⟩ := S3.own i ds h
    refine ⟨a, xs, h1, h2, S.none0 h3 ?_, h4, h5, h6⟩
    cases q : Hv0 a with
    | none => rfl
    | some o =>
      have := (S.fw.ext.trans S3.fw.ext) a o q
      rw [h2] at this
      cases this
  sep := S3.sep
end

/-! ### statements -/
structure Po where
  nx : En → Prop
  rt : D → Prop
  bk : En → Prop
  ct : En → Prop
  /-- a list of the def's own is handed back, to be the caller's own -/
  rn : List D → Prop
abbrev SX := En → Po → Prop
structure Fits (K : PySem.W.Frag) (Hv0 H0 : Hp) (P : Po) (E : Ends) : Prop where
  nx : ∀ Hv e σ H, Stt K Hv0 H0 Hv e σ H → P.nx e → E.nx σ H
  bk : ∀ Hv e σ H, Stt K Hv0 H0 Hv e σ H → P.bk e → E.bk σ H
  ct : ∀ Hv e σ H, Stt K Hv0 H0 Hv e σ H → P.ct e → E.ct σ H
  rt : ∀ Hv d v H, Fw Hv0 H0 Hv H → Rp K Hv v d → P.rt d → E.rt v H
  rn : ∀ Hv ds p xs H, Fw Hv0 H0 Hv H → Hv p = none → H0 p = none → H p = some (.lst xs) → RpAll K Hv xs ds → ds.length ≤ sizeLine → P.rn ds → E.rt (.ref p) H
def ts (K : PySem.W.Frag) (m : SX) : TS := fun E σ H => ∃ Hv0 H0 Hv e P, Stt K Hv0 H0 Hv e σ H ∧ m e P ∧ Fits K Hv0 H0 P E
def DS (X : Cx) (st : Stmt) (m : SX) : Prop := PS X st (ts X.K m)
def DSs (X : Cx) (sts : List Stmt) (m : SX) : Prop := PSs X sts (ts X.K m)
theorem psW {X : Cx} {st : Stmt} {t t' : TS} (h : PS X st t) (w : ∀ E σ H, t' E σ H → t E σ H) : PS X st t' := ⟨fun pins s σ H E I q => h.run pins s σ H E I (w E σ H q)⟩
theorem pssW {X : Cx} {st : List Stmt} {t t' : TS} (h : PSs X st t) (w : ∀ E σ H, t' E σ H → t E σ H) : PSs X st t' := ⟨fun pins s σ H E I q => h.run pins s σ H E I (w E σ H q)⟩
section
variable {X : Cx} {K : PySem.W.Frag} {x a b : Expr} {es : List Expr} {pos : Pos} {m ma mb : EX} {ms : List EX} {n : NX} {st : Stmt} {rest : List Stmt} {s1 s2 : SX} {mt : TX}
def sSkip : SX := fun e P => P.nx e
def sSeq (s1 s2 : SX) : SX := fun e P => s1 e { P with nx := fun e' => s2 e' P }
theorem ss_nil : DSs X [] sSkip := pssW pss_nil fun E σ H ⟨Hv0, H0, Hv, e, P, S, h, F⟩ => F.nx _ _ _ _ S h
theorem ss_cons (h1 : DS X st s1) (h2 : DSs X rest s2) : DSs X (st :: rest) (sSeq s1 s2) := pssW (pss_cons h1 h2) fun E σ H ⟨Hv0, H0, Hv, e, P, S, h, F⟩ =>
  ⟨Hv0, H0, Hv, e, _, S, h, ⟨fun Hv' e' σ' H' S' q => ⟨Hv0, H0, Hv', e', P, S', q, F⟩, F.bk, F.ct, F.rt, F.rn⟩⟩
theorem ss_one (h1 : DS X st s1) : DSs X [st] s1 := pss_one h1
theorem s_pass : DS X (.Pass pos) sSkip := psW ps_pass fun E σ H ⟨Hv0, H0, Hv, e, P, S, h, F⟩ => F.nx _ _ _ _ S h
def sBrk : SX := fun e P => P.bk e
def sCnt : SX := fun e P => P.ct e
theorem s_break : DS X (.Break pos) sBrk := psW ps_break fun E σ H ⟨Hv0, H0, Hv, e, P, S, h, F⟩ => F.bk _ _ _ _ S h
theorem s_continue : DS X (.Continue pos) sCnt := psW ps_continue fun E σ H ⟨Hv0, H0, Hv, e, P, S, h, F⟩ => F.ct _ _ _ _ S h
/-- ghost: slot i is frozen ahead of the statement -/
def sFz (i : Nat) (s : SX) : SX := fun e P => s (frz i e) P
theorem s_fz (i : Nat) (h : DS X st s1) : DS X st (sFz i s1) := psW h fun E σ H ⟨Hv0, H0, Hv, e, P, S, h, F⟩ => by
  obtain ⟨Hv1, S1⟩ := S.frz i
  exact ⟨Hv0, H0, Hv1, _, P, S1, h, F⟩
/-- name = value, nothing of the def's own lists in it -/
def sAsg (i : Nat) (m : EX) : SX := fun e P => m (hide e) fun d => P.nx (e.set i (.val d))
/-- name = value in which no list stands -/
def sAsgP (i : Nat) (m : EX) : SX := fun e P => m e fun d => pl lvl d = true ∧ P.nx (e.set i (.val d))
variable {y : Str} {py : Pos}
theorem asg_ok {i : Nat} (h : PS X st (tAsg (te X.K m) (gName i))) : DS X st (sAsg i m) := psW h fun E σ H ⟨Hv0, H0, Hv, e, P, S, h, F⟩ =>
  ⟨Hv, hide e, _, S.erH, S.fw.vw, h, fun d v Hv1 H1 f r q => F.nx _ _ _ _ ((S.step f).set r) q⟩
theorem asgP_ok {i : Nat} (h : PS X st (tAsg (te X.K m) (gName i))) : DS X st (sAsgP i m) := psW h fun E σ H ⟨Hv0, H0, Hv, e, P, S, h, F⟩ =>
  ⟨_, e, _, S.erF, S.full_vw, h, fun d v Hv1 H1 f r q => F.nx _ _ _ _ ((S.back f).1.set ((S.back f).2 _ d v q.1 r)) q.2⟩
theorem s_asg (i : Nat) (hN : X.N.Nodup) (he : DE X x m) (hi : X.N[i]? = some y := by rfl) (hx : Loc X.env.scope y := by first | exact .inl rfl | exact .inr rfl) (hs : swapsWith x (some (.Name y py)) pos.line X.env = pure false := by rfl)
    (hf : X.fn y = true ∨ X.env.scope.names.lookup y = some .local := by first | exact .inl rfl | exact .inr rfl) : DS X (.Assign [.Name y py] x pos) (sAsg i m) := asg_ok (ps_set hN hi hx he hs hf)
theorem s_asgP (i : Nat) (hN : X.N.Nodup) (he : DE X x m) (hi : X.N[i]? = some y := by rfl) (hx : Loc X.env.scope y := by first | exact .inl rfl | exact .inr rfl) (hs : swapsWith x (some (.Name y py)) pos.line X.env = pure false := by rfl)
    (hf : X.fn y = true ∨ X.env.scope.names.lookup y = some .local := by first | exact .inl rfl | exact .inr rfl) : DS X (.Assign [.Name y py] x pos) (sAsgP i m) := asgP_ok (ps_set hN hi hx he hs hf)
/-- name = a new list -/
def sNew (i : Nat) (n : NX) : SX := fun e P => n (hide e) fun ds => P.nx (e.set i (.own ds))
def sNewP (i : Nat) (n : NX) : SX := fun e P => n e fun ds => ds.all (pl lvl) = true ∧ P.nx (e.set i (.own ds))
theorem Stt.noAt {Hv0 H0 Hv H : Hp} {e : En} {σ : L2.St} (S : Stt K Hv0 H0 Hv e σ H) {p : Addr} (hp : H p = none) : ∀ (j : Nat) (es : List D), e[j]? = some (Slot.own es) → σ[j]? ≠ some (some (.ref p)) := fun j es h q => by
  obtain ⟨_, _, xs, z⟩ := S.owned ⟨j, es, h, q⟩
  rw [hp] at z
  cases z
theorem Stt.h0 {Hv0 H0 Hv H : Hp} {e : En} {σ : L2.St} (S : Stt K Hv0 H0 Hv e σ H) {p : Addr} (hp : H p = none) : H0 p = none := S.fw.fresh_at hp
theorem new_ok {i : Nat} (h : PS X st (tAsg (tn X.K n) (gName i))) : DS X st (sNew i n) := psW h fun E σ H ⟨Hv0, H0, Hv, e, P, S, h, F⟩ =>
  ⟨Hv, hide e, _, S.erH, S.fw.vw, h, fun ds p xs Hv1 H1 f hv hp hl r l q => F.nx _ _ _ _ ((S.step f).setOwn hv (S.h0 hp) (fun j es h1 h2 => by
    obtain ⟨a', ys, g1, g2, g3, g4, _⟩ := S.own j es h1
    rw [h2] at g1
    cases g1
    rw [hp] at g4
    cases g4) hl r l) q⟩
theorem newP_ok {i : Nat} (h : PS X st (tAsg (tn X.K n) (gName i))) : DS X st (sNewP i n) := psW h fun E σ H ⟨Hv0, H0, Hv, e, P, S, h, F⟩ =>
  ⟨_, e, _, S.erF, S.full_vw, h, fun ds p xs Hv1 H1 f hv hp hl r l q => by
    obtain ⟨S1, b⟩ := S.back f
    refine F.nx _ _ _ _ (S1.setOwn ?_ (S.h0 hp) (fun j es h1 h2 => ?_) hl ?_ l) q.2
    · unfold cutO
      split
      · rfl
      · exact hv
    · obtain ⟨a', ys, g1, g2, g3, g4, _⟩ := S.own j es h1
      rw [h2] at g1
      cases g1
      rw [hp] at g4
      cases g4
    · have hq := List.all_eq_true.mp q.1
      clear q h F
      revert hq
      revert l hl hv hp
      intro _ _ _ _ hq
      have go : ∀ (ds : List D) (xs : List V), RpAll X.K Hv1 xs ds → (∀ d ∈ ds, pl lvl d = true) → RpAll X.K (cutO Hv1 e σ) xs ds := by
        intro ds
        induction ds with
        | nil => intro xs r _; cases r; exact .nil
        | cons d ds ih =>
          intro xs r hq
          cases r with
          | cons r1 r2 => exact .cons (b _ d _ (hq d List.mem_cons_self) r1) (ih _ r2 fun z hz => hq z (List.mem_cons_of_mem _ hz))
      exact go ds xs r hq⟩
theorem s_new (i : Nat) (hN : X.N.Nodup) (he : DN X x n) (hi : X.N[i]? = some y := by rfl) (hx : Loc X.env.scope y := by first | exact .inl rfl | exact .inr rfl) (hs : swapsWith x (some (.Name y py)) pos.line X.env = pure false := by rfl)
    (hf : X.fn y = true ∨ X.env.scope.names.lookup y = some .local := by first | exact .inl rfl | exact .inr rfl) : DS X (.Assign [.Name y py] x pos) (sNew i n) := new_ok (ps_set hN hi hx he hs hf)
theorem s_newP (i : Nat) (hN : X.N.Nodup) (he : DN X x n) (hi : X.N[i]? = some y := by rfl) (hx : Loc X.env.scope y := by first | exact .inl rfl | exact .inr rfl) (hs : swapsWith x (some (.Name y py)) pos.line X.env = pure false := by rfl)
    (hf : X.fn y = true ∨ X.env.scope.names.lookup y = some .local := by first | exact .inl rfl | exact .inr rfl) : DS X (.Assign [.Name y py] x pos) (sNewP i n) := newP_ok (ps_set hN hi hx he hs hf)
/-- a, b = value -/
def sTgt (t : Tg) (m : EX) : SX := fun e P => m (hide e) fun d => ∃ e', t.bind d e = some e' ∧ P.nx e'
theorem s_tgt {tg : Expr} {t : Tg} (he : DE X x m) (hg : DG X tg t) (hs : swapsWithSole [tg] x pos.line X.env = pure false := by rfl) (hw : swappedStores [tg] x X.env = pure none := by rfl)
    (h1 : (assignEach [tg] X.env).map (·.2) = [assign tg X.env] := by rfl) : DS X (.Assign [tg] x pos) (sTgt t m) := psW (ps_asg he hg hs hw h1) fun E σ H ⟨Hv0, H0, Hv, e, P, S, h, F⟩ =>
  ⟨Hv, hide e, _, S.erH, S.fw.vw, h, fun d v Hv1 H1 f r ⟨e', hb, q⟩ => (S.step f).bind r hb fun σ' S' => F.nx _ _ _ _ S' q⟩
/-- a, b = x, y of plain local names -/
def sPar (i j : Nat) (ms : List EX) : SX := fun e P => evA ms e fun ds => match ds with
  | [d, d'] => pl lvl d = true ∧ pl lvl d' = true ∧ P.nx ((e.set i (.val d)).set j (.val d'))
  | _ => False
theorem s_par (i j : Nat) {x y : Str} {a b : Expr} {px py pt : Pos} {kt k2 pt2} (hc : X.calm = true) (hN : X.N.Nodup) (ha : DA X [a, b] ms) (hi : X.N[i]? = some x := by rfl) (hj : X.N[j]? = some y := by rfl) (hij : i ≠ j := by decide)
    (hx : X.env.scope.names.lookup x = some .local := by rfl) (hy : X.env.scope.names.lookup y = some .local := by rfl)
    (hw : swappedStores [.Tuple [.Name x px, .Name y py] kt pt] (.Tuple [a, b] k2 pt2) X.env = pure (some [x, y]) := by rfl)
    (hs : swapsWithSole [.Tuple [.Name x px, .Name y py] kt pt] (.Tuple [a, b] k2 pt2) pos.line X.env = pure false := by rfl) :
    DS X (.Assign [.Tuple [.Name x px, .Name y py] kt pt] (.Tuple [a, b] k2 pt2) pos) (sPar i j ms) := psW (ps_par hc hN hi hj hij hx hy ha hw hs) fun E σ H ⟨Hv0, H0, Hv, e, P, S, h, F⟩ =>
  tas_ok ms S.erF S.full_vw h fun ds vs Hv1 H1 f r l q => by
    split at q
    · obtain ⟨v, v', rfl, r1, r2⟩ := rp2 r
      obtain ⟨S1, b⟩ := S.back f
      exact ⟨v, v', rfl, F.nx _ _ _ _ ((S1.set (b _ _ _ q.1 r1)).set (b _ _ _ q.2.1 r2)) q.2.2⟩
    · exact q.elim
def sRet (m : EX) : SX := fun e P => m e P.rt
theorem s_ret (he : DE X x m) : DS X (.Return (some x) pos) (sRet m) := psW (ps_ret he) fun E σ H ⟨Hv0, H0, Hv, e, P, S, h, F⟩ =>
  ⟨_, e, _, S.erF, S.full_vw, h, fun d v Hv1 H1 f r q => F.rt _ _ _ _ (S.frozen.trans f) r q⟩
def sDrop (m : EX) : SX := fun e P => m e fun _ => P.nx e
theorem s_expr (he : DE X x m) (hs : swapsWith x none pos.line X.env = pure false := by rfl) : DS X (.Expr x pos) (sDrop m) := psW (ps_expr he hs) fun E σ H ⟨Hv0, H0, Hv, e, P, S, h, F⟩ =>
  ⟨_, e, _, S.erF, S.full_vw, h, fun d v Hv1 H1 f r q => F.nx _ _ _ _ (S.back f).1 q⟩
def sIf (mt : TX) (s1 s2 : SX) : SX := fun e P => mt e fun b => if b = true then s1 e P else s2 e P
theorem s_if {c : Expr} {p q : List Stmt} (hc : DT X c mt) (h1 : DSs X p s1) (h2 : DSs X q s2) : DS X (.If c p q pos) (sIf mt s1 s2) := psW (ps_if hc h1 h2) fun E σ H ⟨Hv0, H0, Hv, e, P, S, h, F⟩ =>
  ⟨_, e, _, S.erF, S.full_vw, h, fun b Hv1 H1 f q => by
    obtain ⟨S1, _⟩ := S.back f
    cases b with
    | true => exact ⟨Hv0, H0, _, e, P, S1, q, F⟩
    | false => exact ⟨Hv0, H0, _, e, P, S1, q, F⟩⟩
/-- code that the proof never comes to -/
def sWhile (mt : TX) (s : SX) : SX := fun e P => ∃ W : Nat → En → Prop, (∃ n, W n e) ∧ ∀ n e', W n e' → mt e' fun b => if b = true then s e' { P with nx := fun e2 => ∃ n', n' < n ∧ W n' e2, ct := fun e2 => ∃ n', n' < n ∧ W n' e2, bk := P.nx } else P.nx e'
theorem s_while {c : Expr} {body : List Stmt} (hp : PassesOwn (model X.prog X.w) X.A X.env X.xe) (hc : DT X c mt) (hb : DSs X body s1) : DS X (.While c body [] pos) (sWhile mt s1) := psW (ps_while hp hc hb) fun E σ H ⟨Hv0, H0, Hv, e, P, S, ⟨W, ⟨n0, w0⟩, hw⟩, F⟩ =>
  ⟨fun n σ' H' => ∃ Hv' e', Stt X.K Hv0 H0 Hv' e' σ' H' ∧ W n e', ⟨n0, Hv, e, S, w0⟩, fun n σ' H' ⟨Hv', e', S', w'⟩ =>
    ⟨_, e', _, S'.erF, S'.full_vw, hw n e' w', fun b Hv1 H1 f q => by
      obtain ⟨S1, _⟩ := S'.back f
      cases b with
      | true => exact ⟨fun σ2 H2 => ∃ Hv2 e2, Stt X.K Hv0 H0 Hv2 e2 σ2 H2 ∧ ∃ n', n' < n ∧ W n' e2, fun σ2 H2 ⟨Hv2, e2, S2, n', hn, w2⟩ => ⟨n', hn, Hv2, e2, S2, w2⟩,
          Hv0, H0, _, e', _, S1, q, ⟨fun Hv2 e2 σ2 H2 S2 w2 => ⟨Hv2, e2, S2, w2⟩, F.nx, fun Hv2 e2 σ2 H2 S2 w2 => ⟨Hv2, e2, S2, w2⟩, F.rt, F.rn⟩⟩
      | false => exact F.nx _ _ _ _ S1 q⟩⟩
def forW (t : Tg) (s : SX) : List D → En → Po → Prop
  | [], e, P => P.nx e
  | d :: ds, e, P => ∃ e', t.bind d e = some e' ∧ s e' { P with nx := fun e2 => forW t s ds e2 P, ct := fun e2 => forW t s ds e2 P, bk := P.nx }
/-- the loop over ds, whatever walks them -/
theorem for_ok {t : Tg} {Hv0 H0 Hv H : Hp} {e : En} {σ : L2.St} {P : Po} {E : Ends} {ds : List D} {J : It} (S : Stt K Hv0 H0 Hv e σ H) (F : Fits K Hv0 H0 P E) (ok : ItOk K Hv J ds) (h : forW t s1 ds e P) :
    ∃ W : Nat → Nat → L2.St → Hp → Prop, (∃ m, W 0 m σ H) ∧ ∀ i m σ H, W i m σ H →
      (J.stop i H ∧ E.nx σ H) ∨ (J.go i H ∧ ∃ N : L2.St → Hp → Prop, (∀ σ' H', N σ' H' → ∃ m', m' < m ∧ W (i + 1) m' σ' H') ∧ ∀ x H', J.yld i H x H' → gTgt K t x σ H' fun σ2 H2 => ts K s1 { E with nx := N, ct := N, bk := E.nx } σ2 H2) := by
  refine ⟨fun i m σ' H' => m = ds.length - i ∧ i ≤ ds.length ∧ ∃ Hv' e', Stt K Hv0 H0 Hv' e' σ' H' ∧ Same Hv Hv' ∧ forW t s1 (ds.drop i) e' P, ⟨ds.length, by simp, Nat.zero_le _, Hv, e, S, Same.refl _, h⟩, ?_⟩
  rintro i m σ' H' ⟨rfl, hi, Hv', e', S', x', w⟩
  by_cases lt : i < ds.length
  · rw [drop_cons lt] at w
    obtain ⟨e2, hb, w⟩ := w
    refine .inr ⟨ok.go i Hv' H' lt x' S'.fw.vw, fun σ2 H2 => ∃ Hv2 e3, Stt K Hv0 H0 Hv2 e3 σ2 H2 ∧ Same Hv Hv2 ∧ forW t s1 (ds.drop (i + 1)) e3 P, fun σ2 H2 z => ⟨ds.length - (i + 1), by omega, rfl, lt, z⟩, fun x H2 y => ?_⟩
    obtain ⟨e4, y2⟩ := ok.yld i Hv' H' x H2 x' S'.fw.vw y
    rw [e4]
    refine S'.bind (y2 ds[i] (by simp [lt])) hb fun σ3 S3 => ?_
    exact ⟨Hv', _, Hv', e2, _, S3.enter, w, ⟨fun Hv3 e3 σ4 H4 S4 q => ⟨Hv3, e3, S3.leave S4, x'.trans S4.fw.ext, q⟩, fun Hv3 e3 σ4 H4 S4 q => F.nx _ _ _ _ (S3.leave S4) q, fun Hv3 e3 σ4 H4 S4 q => ⟨Hv3, e3, S3.leave S4, x'.trans S4.fw.ext, q⟩, fun Hv3 d v H4 f r q => F.rt _ _ _ _ (S3.leaveFw f) r q, fun Hv3 ds p xs H4 f h1 h2 h3 r l q => F.rn _ _ _ _ _ (S3.leaveFw f) h1 (S3.none0 h2 (by
      cases z : Hv0 p with
      | none => rfl
      | some o =>
        have := (S3.fw.ext.trans f.ext) p o z
        rw [h1] at this
        cases this)) h3 r l q⟩⟩
  · have e1 : i = ds.length := by omega
    subst e1
    rw [List.drop_length] at w
    exact .inl ⟨ok.stop Hv' H' x' S'.fw.vw, F.nx _ _ _ _ S' w⟩
/-- for target in a list or tuple (no list of the def's own) -/
def sFor (it : IX) (t : Tg) (s : SX) : SX := fun e P => it (hide e) fun ds => forW t s ds e P
theorem s_for {tg iter : Expr} {body : List Stmt} {it : IX} {t : Tg} (hp : PassesOwn (model X.prog X.w) X.A X.env X.xe) (hc : X.calm = true) (hi : DI X tg iter it) (hg : DG X tg t) (hb : DSs X body s1)
    (hs : ∀ x, foldedSetIterable iter X.env x = pure x := by intro _; rfl) : DS X (.For tg iter body [] pos) (sFor it t s1) := psW (ps_for hp hc hi hg hb hs) fun E σ H ⟨Hv0, H0, Hv, e, P, S, h, F⟩ =>
  ⟨Hv, hide e, _, S.erH, S.fw.vw, h, fun ds J Hv1 H1 f ok q => for_ok (S.step f) F ok q⟩
/-- what is walked whatever the view: ranges -/
def tiA (K : PySem.W.Frag) (m : IX) : TI := fun σ H R => ∃ Hv e QD, Er K Hv e σ ∧ Vw Hv H ∧ m e QD ∧ ∀ ds J Hv' H', Fw Hv H Hv' H' → (∀ Hv2, ItOk K Hv2 J ds) → QD ds → R J H'
def DIA (X : Cx) (tg x : Expr) (m : IX) : Prop := PI X tg x (tiA X.K m)
theorem di_a {tg : Expr} {it : IX} (h : DIA X tg x it) : DI X tg x it := piW h fun σ H R ⟨Hv, e, QD, er, vw, h, k⟩ => ⟨Hv, e, QD, er, vw, h, fun ds J Hv1 H1 f ok q => k ds J Hv1 H1 f (ok Hv1) q⟩
theorem dia_r1 {tg : Expr} {p pos : Pos} (hg : Gl X "range") (hm : X.mg "range" = none) (ha : DE X a ma) (hs : starEach [a] X.env = [(false, eval a X.env)] := by rfl) : DIA X tg (.Call (.Name "range" p) [a] [] pos) (iR1 ma) :=
  piW (pi_range1 hg hm (pa_cons ha pa_nil hs) hs) fun σ H R ⟨Hv, e, QD, er, vw, h, k⟩ => ⟨Hv, e, _, er, vw, h, fun d v Hv1 H1 f r q => by
    obtain ⟨n, rfl, rfl, q⟩ := wI_int r q
    refine ⟨n, rfl, q.1.2.2.1, q.1.2.2.2.1, ?_⟩
    have := k _ _ _ _ f (fun Hv2 => itr_ok (lo := 0) (hi := n) q.1) q.2
    rw [Int.sub_zero] at this
    exact this⟩
theorem dia_r2 {tg : Expr} {p pos : Pos} (hg : Gl X "range") (hm : X.mg "range" = none) (ha : DE X a ma) (hb : DE X b mb) (hs : starEach [a, b] X.env = [(false, eval a X.env), (false, eval b X.env)] := by rfl) (hs2 : starEach [b] X.env = [(false, eval b X.env)] := by rfl) :
    DIA X tg (.Call (.Name "range" p) [a, b] [] pos) (iR2 ma mb) :=
  piW (pi_range2 hg hm (pa_cons ha (pa_cons hb pa_nil hs2) (by rw [hs, hs2])) hs hs2) fun σ H R ⟨Hv, e, QD, er, vw, h, k⟩ => ⟨Hv, e, _, er, vw, h, fun d v Hv1 H1 f r q => ⟨Hv1, e, _, er.mono f.ext, f.vw, q, fun d2 v2 Hv2 H2 f2 r2 q2 => by
    obtain ⟨i, rfl, rfl, q⟩ := wI_int r q2
    obtain ⟨j, rfl, rfl, q⟩ := wI_int r2 q
    exact ⟨i, j, rfl, ⟨q.1.1, q.1.2.1, q.1.2.2.1, q.1.2.2.2.1⟩, k _ _ _ _ (f.trans f2) (fun Hv2 => itr_ok q.1) q.2⟩⟩⟩
/-- range(a, b, c) -/
def rgC (lo c : Int) (n : Nat) : List D := (List.range n).map fun i => PyData.int (lo + (i : Nat) * c)
theorem rgC_length (lo c : Int) (n : Nat) : (rgC lo c n).length = n := by simp [rgC]
def iR3 (ma mb mc : EX) : IX := fun e Q => ma e fun d => mb e fun d' => mc e fun d'' => wI d fun i => wI d' fun j => wI d'' fun c => ∃ n : Nat, RgC i j c n ∧ n ≤ sizeLine ∧ Q (rgC i c n)
theorem itc_ok {lo c : Int} {n : Nat} (h : n ≤ sizeLine) (Hv : Hp) : ItOk K Hv (Itc lo c n) (rgC lo c n) where
  go := fun i Hv2 H2 hi e v2 => by rw [rgC_length] at hi; exact hi
  yld := fun i Hv2 H2 x H3 e v2 y => ⟨y.1, fun d hd => by
    have z := y.2
    subst z
    unfold rgC at hd
    rw [List.getElem?_map] at hd
    cases q : (List.range n)[i]? with
    | none => rw [q] at hd; cases hd
    | some j =>
      rw [q] at hd
      cases hd
      have := (List.getElem?_eq_some_iff.mp q).2
      rw [List.getElem_range] at this
      subst this
      exact .int _⟩
  stop := fun Hv2 H2 e v2 => by rw [rgC_length]; exact Nat.le_refl _
  len := by rw [rgC_length]; exact h
theorem dia_r3 {tg c : Expr} {mc : EX} {p pos : Pos} (hg : Gl X "range") (hm : X.mg "range" = none) (ha : DE X a ma) (hb : DE X b mb) (hc : DE X c mc) (rule : ∀ {ta tb tc : TE}, PE X a ta → PE X b tb → PE X c tc → PI X tg (.Call (.Name "range" p) [a, b, c] [] pos) (iRng3 (tCons ta (tCons tb (tCons tc tNil))))) :
    DIA X tg (.Call (.Name "range" p) [a, b, c] [] pos) (iR3 ma mb mc) :=
  piW (rule ha hb hc) fun σ H R ⟨Hv, e, QD, er, vw, h, k⟩ => ⟨Hv, e, _, er, vw, h, fun d v Hv1 H1 f r q => ⟨Hv1, e, _, er.mono f.ext, f.vw, q, fun d2 v2 Hv2 H2 f2 r2 q2 => ⟨Hv2, e, _, (er.mono f.ext).mono f2.ext, f2.vw, q2, fun d3 v3 Hv3 H3 f3 r3 q3 => by
    obtain ⟨i, rfl, rfl, q⟩ := wI_int r q3
    obtain ⟨j, rfl, rfl, q⟩ := wI_int r2 q
    obtain ⟨c, rfl, rfl, n, h1, h2, q⟩ := wI_int r3 q
    exact ⟨i, j, c, n, rfl, h1, k _ _ _ _ (f.trans (f2.trans f3)) (fun Hv2 => itc_ok h2 Hv2) q⟩⟩⟩⟩
def sForR (it : IX) (t : Tg) (s : SX) : SX := fun e P => it e fun ds => forW t s ds e P
theorem s_forR {tg iter : Expr} {body : List Stmt} {it : IX} {t : Tg} (hp : PassesOwn (model X.prog X.w) X.A X.env X.xe) (hc : X.calm = true) (hi : DIA X tg iter it) (hg : DG X tg t) (hb : DSs X body s1)
    (hs : ∀ x, foldedSetIterable iter X.env x = pure x := by intro _; rfl) : DS X (.For tg iter body [] pos) (sForR it t s1) := psW (ps_for hp hc hi hg hb hs) fun E σ H ⟨Hv0, H0, Hv, e, P, S, h, F⟩ =>
  ⟨_, e, _, S.erF, S.full_vw, h, fun ds J Hv1 H1 f ok q => for_ok (S.back f).1 F (ok _) q⟩
/-- xs.append(e), xs a list of the def's own; e without it, or a value in which no list stands -/
def sApp (i : Nat) (m : EX) : SX := fun e P => ∃ ds, e[i]? = some (Slot.own ds) ∧ ds.length < sizeLine ∧ m (hide e) fun d => P.nx (e.set i (.own (ds ++ [d])))
def sAppP (i : Nat) (m : EX) : SX := fun e P => ∃ ds, e[i]? = some (Slot.own ds) ∧ ds.length < sizeLine ∧ m e fun d => pl lvl d = true ∧ P.nx (e.set i (.own (ds ++ [d])))
theorem Stt.lst {Hv0 H0 Hv H : Hp} {e : En} {σ : L2.St} (S : Stt K Hv0 H0 Hv e σ H) {i : Nat} {ds : List D} (h : e[i]? = some (Slot.own ds)) {a : Addr} (hs : σ[i]? = some (some (.ref a))) : ∃ xs, H a = some (.lst xs) ∧ RpAll K Hv xs ds ∧ ds.length ≤ sizeLine := by
  obtain ⟨a', xs, h1, h2, h3, h4, h5, h6⟩ := S.own i ds h
  rw [hs] at h1
  cases h1
  exact ⟨xs, h4, h5, h6⟩
theorem app_ok {i : Nat} (h : PS X st (tDrop (tBM X.K "list" rAppend (tVar i) (tCons (te X.K m) tNil)))) : DS X st (sApp i m) := psW h fun E σ H ⟨Hv0, H0, Hv, e, P, S, ⟨ds, hd, hl, h⟩, F⟩ => by
  obtain ⟨a, xs, h1, h2, h3, h4, h5, h6⟩ := S.own i ds hd
  refine ⟨.ref a, h1, .inl ⟨rfl, xs, SqL.of h4⟩, Hv, hide e, _, S.erH, S.fw.vw, h, fun d v Hv1 H1 f r q => ?_⟩
  have S1 := S.step f
  obtain ⟨ys, g1, g2, g3⟩ := S1.lst hd h1
  refine ⟨a, ys, v, rfl, rfl, g1, by rw [g2.length]; exact hl, ?_⟩
  exact F.nx _ _ _ _ (S1.mut hd h1 (g2.append (.one r)) (by rw [List.length_append]; simp; omega)) q
theorem appP_ok {i : Nat} (h : PS X st (tDrop (tBM X.K "list" rAppend (tVar i) (tCons (te X.K m) tNil)))) : DS X st (sAppP i m) := psW h fun E σ H ⟨Hv0, H0, Hv, e, P, S, ⟨ds, hd, hl, h⟩, F⟩ => by
  obtain ⟨a, xs, h1, h2, h3, h4, h5, h6⟩ := S.own i ds hd
  refine ⟨.ref a, h1, .inl ⟨rfl, xs, SqL.of h4⟩, _, e, _, S.erF, S.full_vw, h, fun d v Hv1 H1 f r ⟨hp, q⟩ => ?_⟩
  obtain ⟨S1, b⟩ := S.back f
  obtain ⟨ys, g1, g2, g3⟩ := S1.lst hd h1
  refine ⟨a, ys, v, rfl, rfl, g1, by rw [g2.length]; exact hl, ?_⟩
  exact F.nx _ _ _ _ (S1.mut hd h1 (g2.append (.one (b _ _ _ hp r))) (by rw [List.length_append]; simp; omega)) q
variable {ap cp : Pos}
theorem pe_app (i : Nat) {te : TE} {y : Str} {py : Pos} (he : PE X x te) (hN : X.N[i]? = some y := by rfl) (hv : Vis X.env.scope y := by first | exact Or.inl rfl | exact Or.inr (Or.inl rfl) | exact Or.inr (Or.inr rfl)) (hd : (y == ("__debug__" : Str)) = false := by decide)
    (hcd : (y == ("__classdict__" : Str)) = false := by decide) (hbase : attributeBase (.Name y py) "append" X.env (eval (.Name y py) X.env) = eval (.Name y py) X.env := by rfl)
    (hfew : ((backTo cp (starEach [x] X.env)).all (fun x => !x.1) && (backToKw cp (keywordEach [] X.env)).all (fun x => x.1.isSome)
      && decide ([x].length + ([] : List Keyword).length + (if ([] : List Keyword).isEmpty then 0 else 1) < 30)) = true := by rfl)
    (hline : (ap.endLine == cp.line) = true := by rfl) (hs : starEach [x] X.env = (false, eval x X.env) :: starEach [] X.env := by rfl) (hplain : (backTo cp (starEach [] X.env)).any (·.1) = false := by rfl) :
    PE X (.Call (.Attribute (.Name y py) "append" ap) [x] [] cp) (tBM X.K "list" rAppend (tVar i) (tCons te tNil)) :=
  pe_bm PySem.F.plainAttrs_list PySem.F.slot_list_append PySem.F.type_list_append mt_append (pe_var hN hv hd hcd) (pa_cons he pa_nil hs) hbase hfew hline hs hplain
theorem s_app (i : Nat) {y : Str} {py : Pos} (he : DE X x m) (hN : X.N[i]? = some y := by rfl) (hv : Vis X.env.scope y := by first | exact Or.inl rfl | exact Or.inr (Or.inl rfl) | exact Or.inr (Or.inr rfl)) (hd : (y == ("__debug__" : Str)) = false := by decide)
    (hcd : (y == ("__classdict__" : Str)) = false := by decide) (hbase : attributeBase (.Name y py) "append" X.env (eval (.Name y py) X.env) = eval (.Name y py) X.env := by rfl)
    (hfew : ((backTo cp (starEach [x] X.env)).all (fun x => !x.1) && (backToKw cp (keywordEach [] X.env)).all (fun x => x.1.isSome)
      && decide ([x].length + ([] : List Keyword).length + (if ([] : List Keyword).isEmpty then 0 else 1) < 30)) = true := by rfl)
    (hline : (ap.endLine == cp.line) = true := by rfl) (hs : starEach [x] X.env = (false, eval x X.env) :: starEach [] X.env := by rfl) (hplain : (backTo cp (starEach [] X.env)).any (·.1) = false := by rfl)
    (hs2 : swapsWith (.Call (.Attribute (.Name y py) "append" ap) [x] [] cp) none pos.line X.env = pure false := by rfl) :
    DS X (.Expr (.Call (.Attribute (.Name y py) "append" ap) [x] [] cp) pos) (sApp i m) := app_ok (ps_expr (pe_app i he hN hv hd hcd hbase hfew hline hs hplain) hs2)
theorem s_appP (i : Nat) {y : Str} {py : Pos} (he : DE X x m) (hN : X.N[i]? = some y := by rfl) (hv : Vis X.env.scope y := by first | exact Or.inl rfl | exact Or.inr (Or.inl rfl) | exact Or.inr (Or.inr rfl)) (hd : (y == ("__debug__" : Str)) = false := by decide)
    (hcd : (y == ("__classdict__" : Str)) = false := by decide) (hbase : attributeBase (.Name y py) "append" X.env (eval (.Name y py) X.env) = eval (.Name y py) X.env := by rfl)
    (hfew : ((backTo cp (starEach [x] X.env)).all (fun x => !x.1) && (backToKw cp (keywordEach [] X.env)).all (fun x => x.1.isSome)
      && decide ([x].length + ([] : List Keyword).length + (if ([] : List Keyword).isEmpty then 0 else 1) < 30)) = true := by rfl)
    (hline : (ap.endLine == cp.line) = true := by rfl) (hs : starEach [x] X.env = (false, eval x X.env) :: starEach [] X.env := by rfl) (hplain : (backTo cp (starEach [] X.env)).any (·.1) = false := by rfl)
    (hs2 : swapsWith (.Call (.Attribute (.Name y py) "append" ap) [x] [] cp) none pos.line X.env = pure false := by rfl) :
    DS X (.Expr (.Call (.Attribute (.Name y py) "append" ap) [x] [] cp) pos) (sAppP i m) := appP_ok (ps_expr (pe_app i he hN hv hd hcd hbase hfew hline hs hplain) hs2)
/-- xs.reverse() -/
def sRev (i : Nat) : SX := fun e P => ∃ ds, e[i]? = some (Slot.own ds) ∧ P.nx (e.set i (.own ds.reverse))
theorem rev_ok {i : Nat} (h : PS X st (tDrop (tBM0 X.K "list" rReverse (tVar i)))) : DS X st (sRev i) := psW h fun E σ H ⟨Hv0, H0, Hv, e, P, S, ⟨ds, hd, h⟩, F⟩ => by
  obtain ⟨a, xs, h1, h2, h3, h4, h5, h6⟩ := S.own i ds hd
  exact ⟨.ref a, h1, .inl ⟨rfl, xs, SqL.of h4⟩, a, xs, rfl, rfl, h4, F.nx _ _ _ _ (S.mut hd h1 h5.rev (by rw [List.length_reverse]; exact h6)) h⟩
/-- xs[j] = value, xs a list of the def's own; the value evaluated with the def's lists seen, no list in it -/
def sSet (i : Nat) (m mi : EX) : SX := fun e P => ∃ ds, e[i]? = some (Slot.own ds) ∧ m e fun d => pl lvl d = true ∧ mi e fun k => wI k fun j => ∃ n, ixN ds.length j = some n ∧ P.nx (e.set i (.own (ds.set n d)))
theorem set_ok {i : Nat} {mi : EX} (h : PS X st (tAsg (te X.K m) (gSub (tVar i) (te X.K mi) rSetL))) : DS X st (sSet i m mi) := psW h fun E σ H ⟨Hv0, H0, Hv, e, P, S, ⟨ds, hd, h⟩, F⟩ =>
  ⟨_, e, _, S.erF, S.full_vw, h, fun d v Hv1 H1 f r ⟨hp, q⟩ => by
    obtain ⟨S1, b⟩ := S.back f
    have r1 := b _ _ _ hp r
    obtain ⟨a, xs, h1, _⟩ := S.own i ds hd
    refine ⟨.ref a, h1, _, e, _, S1.erF, S1.full_vw, q, fun k w Hv2 H2 f2 r2 q2 => ?_⟩
    obtain ⟨S2, b2⟩ := S1.back f2
    obtain ⟨j, rfl, rfl, n, hj, q2⟩ := wI_int r2 q2
    obtain ⟨ys, g1, g2, g3⟩ := S2.lst hd h1
    refine ⟨a, ys, j, n, rfl, rfl, g1, by rw [g2.length]; exact hj, ?_⟩
    exact F.nx _ _ _ _ (S2.mut hd h1 (g2.set (b2 lvl d v hp (r1.mono (full_same.trans f2.ext))) n) (by rw [List.length_set]; exact g3)) q2⟩
theorem s_set (i : Nat) {mi : EX} {y : Str} {py sp : Pos} (hi : DE X b mi) (he : DE X x m) (hN : X.N[i]? = some y := by rfl) (hv : Vis X.env.scope y := by first | exact Or.inl rfl | exact Or.inr (Or.inl rfl) | exact Or.inr (Or.inr rfl)) (hd : (y == ("__debug__" : Str)) = false := by decide)
    (hcd : (y == ("__classdict__" : Str)) = false := by decide) (hs : swapsWithSole [.Subscript (.Name y py) b sp] x pos.line X.env = pure false := by rfl) (hw : swappedStores [.Subscript (.Name y py) b sp] x X.env = pure none := by rfl)
    (h1 : (assignEach [.Subscript (.Name y py) b sp] X.env).map (·.2) = [assign (.Subscript (.Name y py) b sp) X.env] := by rfl)
    (ha : ∀ v, assign (.Subscript (.Name y py) b sp) X.env v = (do
      let ov ← holding [v] (eval (.Name y py) X.env)
      let iv ← holding [v, ov] (eval b X.env)
      standAt sp
      holding [v, ov, iv] (setItem ov iv v)
      release [v, ov, iv] []) := by intro _; rfl) : DS X (.Assign [.Subscript (.Name y py) b sp] x pos) (sSet i m mi) :=
  set_ok (ps_asg he (pg_sub (pe_var hN hv hd hcd) hi set_list ha) hs hw h1)
/-- return xs, a list of the def's own, to be the caller's own -/
def sRetO (i : Nat) : SX := fun e P => ∃ ds, e[i]? = some (Slot.own ds) ∧ P.rn ds
theorem s_retO (i : Nat) {y : Str} {py : Pos} (hN : X.N[i]? = some y := by rfl) (hv : Vis X.env.scope y := by first | exact Or.inl rfl | exact Or.inr (Or.inl rfl) | exact Or.inr (Or.inr rfl)) (hd : (y == ("__debug__" : Str)) = false := by decide)
    (hcd : (y == ("__classdict__" : Str)) = false := by decide) : DS X (.Return (some (.Name y py)) pos) (sRetO i) := psW (ps_ret (pe_var hN hv hd hcd)) fun E σ H ⟨Hv0, H0, Hv, e, P, S, ⟨ds, hd, h⟩, F⟩ => by
  obtain ⟨a, xs, h1, h2, h3, h4, h5, h6⟩ := S.own i ds hd
  exact ⟨.ref a, h1, F.rn _ _ _ _ _ S.fw h2 h3 h4 h5 h6 h⟩
/-- name op= e -/
def sAug (i : Nat) (W : W2) (m : EX) : SX := fun e P => ∃ d0, rd e i = some d0 ∧ m e fun d => W d0 d fun z => pl lvl z = true ∧ P.nx (e.set i (.val z))
theorem s_aug (i : Nat) {W : W2} {op : Operator} {y : Str} {py : Pos} (hN : X.N.Nodup) (ho : OpR X (inplaceOp op) (rW2 X.K W)) (he : DE X x m) (hi : X.N[i]? = some y := by rfl) (hx : Loc X.env.scope y := by first | exact .inl rfl | exact .inr rfl)
    (hf : X.fn y = true ∨ X.env.scope.names.lookup y = some .local := by first | exact .inl rfl | exact .inr rfl) : DS X (.AugAssign (.Name y py) op x pos) (sAug i W m) := psW (ps_aug hN hi hx he ho hf) fun E σ H ⟨Hv0, H0, Hv, e, P, S, ⟨d0, h0, h⟩, F⟩ => by
  obtain ⟨v0, g1, g2⟩ := S.erF.get i d0 h0
  refine ⟨v0, g1, _, e, _, S.erF, S.full_vw, h, fun d v Hv1 H1 f r q => ⟨Hv1, d0, d, _, f.vw, g2.mono f.ext, r, q, fun z w Hv2 H2 f2 r2 q2 => ?_⟩⟩
  obtain ⟨S1, b⟩ := S.back (f.trans f2)
  exact F.nx _ _ _ _ (S1.set (b _ _ _ q2.1 r2)) q2.2
end
end J

/-! J6: defs, their calls, a law's end. -/
namespace J
open PySem PySem.Spec PyProof.Rows L2

/-- a promise on data: from the arguments, what is wanted of the answer -/
def toSp (K : PySem.W.Frag) (n : Nat) (S : WL) : Sp := fun vs H Q _ => ∃ Hv ds QD, Vw Hv H ∧ RpAll K Hv vs ds ∧ ds.length = n ∧ S ds QD ∧ ∀ d v Hv' H', Fw Hv H Hv' H' → Rp K Hv' v d → QD d → Q v H'
/-- .. of a new list -/
abbrev WN := List D → (List D → Prop) → Prop
def toSpN (K : PySem.W.Frag) (n : Nat) (S : WN) : Sp := fun vs H Q _ => ∃ Hv ds QD, Vw Hv H ∧ RpAll K Hv vs ds ∧ ds.length = n ∧ S ds QD ∧
  ∀ es p xs Hv' H', Fw Hv H Hv' H' → Hv' p = none → H p = none → H' p = some (.lst xs) → RpAll K Hv' xs es → es.length ≤ sizeLine → QD es → Q (.ref p) H'
abbrev JFn (P : Program) (w : World) (K : PySem.W.Frag) (mg : Str → Option Value) (base : Heap) (k : Nat) (f : Addr) (fd : FuncData) (ps : List Str) (S : WL) : Prop := FnOk P w K mg base CX0 k f fd ps (toSp K ps.length S)
abbrev JFnN (P : Program) (w : World) (K : PySem.W.Frag) (mg : Str → Option Value) (base : Heap) (k : Nat) (f : Addr) (fd : FuncData) (ps : List Str) (S : WN) : Prop := FnOk P w K mg base CX0 k f fd ps (toSpN K ps.length S)
/-- how a def is called by its name -/
structure Rf (K : PySem.W.Frag) (mg : Str → Option Value) (x : Str) (ps : List Str) (f : Addr) (fd : FuncData) : Prop where
  mg : mg x = some (.ref f)
  kp : PySem.W.keepIn K (.ref f) = true
  bd : Binds K fd ps []
section
variable {X : Cx} {K : PySem.W.Frag} {x : Str} {a : Expr} {es : List Expr} {p pos : Pos} {ms : List EX} {k : Nat} {f : Addr} {fd : FuncData} {ps : List Str}
theorem d_fn {S : WL} (G : JFn X.prog X.w X.K X.mg X.base k f fd ps S) (R : Rf X.K X.mg x ps f fd) (hr : Room k X.A) (hg : Gl X x) (hx : Passes CX0 X E0) (ha : DA X (a :: es) ms) (hl : ms.length = ps.length := by rfl)
    (hdb : (x == ("__debug__" : Str)) = false := by decide) (h1 : starEach (a :: es) X.env = (false, eval a X.env) :: starEach es X.env := by rfl) (h2 : ((backTo pos (starEach es X.env)).any fun x => x.fst) = false := by rfl) :
    DE X (.Call (.Name x p) (a :: es) [] pos) (eCall S ms) := peW (pe_call G hr hg R.mg R.kp R.bd .nil hx ha hdb h1 h2) fun σ H Q ⟨Hv, e, QD, er, vw, hm, k⟩ =>
  tas_ok ms er vw hm fun ds vs Hv1 H1 f1 r l q => by
    show toSp X.K ps.length S (vs ++ []) H1 Q E0
    rw [List.append_nil]
    exact ⟨Hv1, ds, QD, f1.vw, r, l.trans hl, q, fun d v Hv2 H2 f2 r2 q2 => k d v Hv2 H2 (f1.trans f2) r2 q2⟩
def nCall (S : WN) (ms : List EX) : NX := fun e Q => evA ms e fun ds => S ds Q
theorem n_fn {S : WN} (G : JFnN X.prog X.w X.K X.mg X.base k f fd ps S) (R : Rf X.K X.mg x ps f fd) (hr : Room k X.A) (hg : Gl X x) (hx : Passes CX0 X E0) (ha : DA X (a :: es) ms) (hl : ms.length = ps.length := by rfl)
    (hdb : (x == ("__debug__" : Str)) = false := by decide) (h1 : starEach (a :: es) X.env = (false, eval a X.env) :: starEach es X.env := by rfl) (h2 : ((backTo pos (starEach es X.env)).any fun x => x.fst) = false := by rfl) :
    DN X (.Call (.Name x p) (a :: es) [] pos) (nCall S ms) := peW (pe_call G hr hg R.mg R.kp R.bd .nil hx ha hdb h1 h2) fun σ H Q ⟨Hv, e, QD, er, vw, hm, k⟩ =>
  tas_ok ms er vw hm fun ds vs Hv1 H1 f1 r l q => by
    show toSpN X.K ps.length S (vs ++ []) H1 Q E0
    rw [List.append_nil]
    exact ⟨Hv1, ds, QD, f1.vw, r, l.trans hl, q, fun es p xs Hv2 H2 f2 h1 h2 h3 r2 l2 q2 => k es p xs Hv2 H2 (f1.trans f2) h1 (f1.fresh_at h2) h3 r2 l2 q2⟩
end

/-! ### the body of a def -/
def startE (n : Nat) (ds : List D) : En := ds.map Slot.val ++ List.replicate (n - ds.length) .no
def noB : En → Prop := fun _ => False
section
variable {P : Program} {w : World} {K : PySem.W.Frag} {mg : Str → Option Value} {base : Heap}
theorem stt_start {Hv H : Hp} {N : List Str} {vs : List V} {ds : List D} (vw : Vw Hv H) (r : RpAll K Hv vs ds) : Stt K Hv H Hv (startE N.length ds) (L2.start N vs) H where
  fw := .refl vw
  len := by
    unfold startE L2.start
    rw [List.length_append, List.length_append, List.length_map, List.length_map, List.length_replicate, List.length_replicate, r.length]
  val := fun i d h => by
    unfold startE at h
    unfold L2.start
    by_cases hi : i < ds.length
    · rw [List.getElem?_append_left (by rw [List.length_map]; exact hi), List.getElem?_map] at h
      cases q : ds[i]? with
      | none => rw [q] at h; cases h
      | some d' =>
        rw [q] at h
        cases h
        obtain ⟨v, e, r2⟩ := r.get q
        refine ⟨v, ?_, r2⟩
        rw [List.getElem?_append_left (by rw [List.length_map, r.length]; exact hi), List.getElem?_map, e]
        rfl
    · rw [List.getElem?_append_right (by rw [List.length_map]; omega), List.getElem?_replicate] at h
      split at h <;> cases h
  own := fun i es h => by
    unfold startE at h
    by_cases hi : i < ds.length
    · rw [List.getElem?_append_left (by rw [List.length_map]; exact hi), List.getElem?_map] at h
      cases q : ds[i]? with
      | none => rw [q] at h; cases h
      | some d' => rw [q] at h; cases h
    · rw [List.getElem?_append_right (by rw [List.length_map]; omega), List.getElem?_replicate] at h
      split at h <;> cases h
  sep := fun i j es fs a h => by
    unfold startE at h
    by_cases hi : i < ds.length
    · rw [List.getElem?_append_left (by rw [List.length_map]; exact hi), List.getElem?_map] at h
      cases q : ds[i]? with
      | none => rw [q] at h; cases h
      | some d' => rw [q] at h; cases h
    · rw [List.getElem?_append_right (by rw [List.length_map]; omega), List.getElem?_replicate] at h
      split at h <;> cases h
/-- a def by its body's rule and its data's promise -/
theorem fn_j {x qual : Str} {st : Stmt} {f : Addr} {fd : FuncData} {N ps : List Str} {k : Nat} {S : WL} {m : SX} (F : Fun K x qual st f fd) (sc : FnScope N ps (defScope st))
    (hb : ∀ (cdv : Value) (A : Around) (outer : List Env) (s : Shared) (H : Hp) (E : XK), Room k (A.deeper (envOfC qual (defScope st) s.heap.objs.size f cdv)) → DSs (cxOf CX0 P w K mg base N qual (defScope st) f cdv A outer s H E).nox (defBody st) m)
    (wp : ∀ ds QD, ds.length = ps.length → S ds QD → m (startE N.length ds) ⟨fun _ => QD .none, QD, noB, noB, fun es => QD (.list es)⟩) : JFn P w K mg base (k + 1) f fd ps S := by
  refine F.ok sc (fun vs H Q E ⟨Hv, ds, QD, vw, r, l, _⟩ => by rw [r.length]; exact l) fun cdv A outer s H vs Q E hr ⟨Hv, ds, QD, vw, r, l, h, kk⟩ => ⟨_, hb cdv A outer s H E hr, Hv, H, Hv, _, _, stt_start vw r, wp ds QD l h, ?_⟩
  exact ⟨fun Hv1 e1 σ1 H1 S1 q => kk _ _ _ _ S1.fw .non q, fun _ _ _ _ _ q => q.elim, fun _ _ _ _ _ q => q.elim, fun Hv1 d v H1 f1 r1 q => kk _ _ _ _ f1 r1 q, fun Hv1 es p xs H1 f1 h1 h2 h3 r1 l1 q => by
    have m := same_upd (o := .lst xs) h1
    refine kk (.list es) (.ref p) (upd Hv1 p (.lst xs)) H1 ⟨f1.ext.trans m, Fw.show_ f1.vw mark_ne_lst h1 h3, f1.keep, fun b e1 e2 => ?_⟩ (.lst (SqL.of upd_same) (Rp.monoAll m _ _ r1) l1) q
    by_cases z : b = p
    · rw [z]; exact h2
    · rw [upd_ne z] at e2
      exact f1.fresh b e1 e2⟩
theorem fnN_j {x qual : Str} {st : Stmt} {f : Addr} {fd : FuncData} {N ps : List Str} {k : Nat} {S : WN} {m : SX} (F : Fun K x qual st f fd) (sc : FnScope N ps (defScope st))
    (hb : ∀ (cdv : Value) (A : Around) (outer : List Env) (s : Shared) (H : Hp) (E : XK), Room k (A.deeper (envOfC qual (defScope st) s.heap.objs.size f cdv)) → DSs (cxOf CX0 P w K mg base N qual (defScope st) f cdv A outer s H E).nox (defBody st) m)
    (wp : ∀ ds QD, ds.length = ps.length → S ds QD → m (startE N.length ds) ⟨noB, fun _ => False, noB, noB, QD⟩) : JFnN P w K mg base (k + 1) f fd ps S := by
  refine F.ok sc (fun vs H Q E ⟨Hv, ds, QD, vw, r, l, _⟩ => by rw [r.length]; exact l) fun cdv A outer s H vs Q E hr ⟨Hv, ds, QD, vw, r, l, h, kk⟩ => ⟨_, hb cdv A outer s H E hr, Hv, H, Hv, _, _, stt_start vw r, wp ds QD l h, ?_⟩
  exact ⟨fun _ _ _ _ _ q => q.elim, fun _ _ _ _ _ q => q.elim, fun _ _ _ _ _ q => q.elim, fun _ _ _ _ _ _ q => q.elim, fun Hv1 es p xs H1 f1 h1 h2 h3 r1 l1 q => kk _ _ _ _ _ f1 h1 h2 h3 r1 l1 q⟩
/-- a new list of ints from 0 as a pile -/
theorem pile_of {k : Nat} {f : Addr} {fd : FuncData} {ps : List Str} {S : WN} {S' : WL} (G : JFnN P w K mg base k f fd ps S)
    (h : ∀ ds Q, S' ds Q → S ds fun es => (∃ ns : List Int, es = ns.map PyData.int ∧ ∀ n ∈ ns, 0 ≤ n) ∧ Q (.dict [])) : JFn P w K mg base k f fd ps S' := by
  refine G.imp fun vs H Q E ⟨Hv, ds, QD, vw, r, l, h1, kk⟩ => ⟨Hv, ds, _, vw, r, l, h ds QD h1, fun es p xs Hv1 H1 f1 hv hp hl r1 l1 q => ?_⟩
  obtain ⟨⟨ns, e, hn⟩, q⟩ := q
  subst e
  have e2 := r1.of_ints
  subst e2
  have m := same_upd (o := mark) hv
  refine kk (.dict []) (.ref p) (upd Hv1 p mark) H1 ⟨f1.ext.trans m, fun b u e => ?_, f1.keep, fun b e1 e2 => ?_⟩ (.hnd upd_same) q
  · by_cases z : b = p
    · subst z
      rw [upd_same] at e
      cases e
      exact .inl ⟨rfl, ns, hl, hn⟩
    · rw [upd_ne z] at e
      exact f1.vw b u e
  · by_cases z : b = p
    · rw [z]; exact hp
    · rw [upd_ne z] at e2
      exact f1.fresh b e1 e2
end

/-! ### a law's end -/
def SLaw : WL := fun ds Q => ∃ ns : List Int, ds = [.list (ns.map PyData.int)] ∧ ns.length ≤ 63 ∧ Q (.bool true)
theorem walk_j {l : PySem.W.OpenLaw} {k : Nat} {q : Program} {loose : List Str} {XP : (Str → Option Value) → Heap → Prop} {YP : World → Heap → Prop} {d : DefRec} {K : Params → PySem.W.Frag} (hr : Room k callerA) (hn : l.most = some 63) (hdf : d.params.defaults = [])
    (hY : ∀ (w : World) (h : Heap), YP w h → (K w.params).In h)
    (F : ∀ (w : World) (mg : Str → Option Value) (fa : Addr) (h : Heap), (K w.params).In h → h.Ns mainGlobals mg → mg d.name = some (.ref fa) →
      ∃ fd : FuncData, (∀ (s : Shared) (u : Value), BindsTo s fd ⟨[u], []⟩ [("script", u)]) ∧ ∀ base : Heap, (K w.params).In base → base.Ns mainGlobals mg → JFn l.prog w (K w.params) mg base k fa fd ["script"] SLaw) :
    PySem.W.WalkO q loose XP YP l.row.toRowW d [] (fun f vs => PySem.call f vs) :=
  L2.walk_of (n := 63) (k := k) (x := "script") (CX := fun _ => CX0) (sp := fun w => toSp (K w.params) 1 SLaw) hn (by decide) hdf hr hY F (fun w H a ns hl hO hS => by
    refine ⟨H, [.list (ns.map PyData.int)], fun d => d = .bool true, fun b o e => ?_, .one (.lst hS (RpAll.ints ns) (by rw [List.length_map]; exact Nat.le_trans hl (by decide))), rfl, ⟨ns, rfl, hl, rfl⟩, fun d v Hv1 H1 f r e => ?_⟩
    · refine .inr ⟨fun z => ?_, e⟩
      rcases hO b with h | ⟨o', xs, h⟩
      · rw [h] at e; cases e
      · rw [h] at e
        cases e
        cases z
    · subst e
      cases r
      rfl) fun _ _ _ _ _ z => z
end J

/-! J7: further rules. -/
namespace J
open PySem PySem.Spec PyProof.Rows L2

theorem hu65 {k : Nat} {A : Around} (hr : Room k A) : A.units + 65 < cLine := by have := hr.un; omega
section
variable {X : Cx} {K : PySem.W.Frag} {x a b c : Expr} {es : List Expr} {pos : Pos} {m ma mb mc : EX} {ms : List EX} {n : NX} {st : Stmt}
/-! ### op= -/
def wIAdd : W2
  | .int i, .int j, Q => Q (.int (i + j))
  | .tuple xs, .tuple ys, Q => xs.length + ys.length ≤ sizeLine ∧ Q (.tuple (xs ++ ys))
  | .str x, .str y, Q => x.length + y.length ≤ sizeLine ∧ Q (.str (x ++ y))
  | _, _, _ => False
theorem iop_addJ : OpR X (inplaceOp .Add) (rW2 X.K wIAdd) := by
  intro pins s σ H x y v u Q I rx ry ⟨Hv, dx, dy, QD, vw, r1, r2, w, k⟩
  cases dx <;> cases dy <;> first | exact w.elim | skip
  · cases r1; cases r2
    exact iop_add pins s σ H _ _ v u Q I rx ry ⟨_, _, rfl, rfl, k _ _ Hv H (.refl vw) (.int _) w⟩
  · cases r1; cases r2
    exact iop_add_str pins s σ H _ _ v u Q I rx ry ⟨_, _, rfl, rfl, w.1, k _ _ Hv H (.refl vw) (.str _) w.2⟩
  · cases r1 with
    | @tup a xs ds hs ha hl =>
      cases r2 with
      | @tup b ys es hs2 ha2 hl2 =>
        cases rx; cases ry
        obtain ⟨its, rv, pl, hz⟩ := I.tuple (vw.sqt hs)
        obtain ⟨its2, rv2, pl2, hz2⟩ := I.tuple (vw.sqt hs2)
        have l1 := ha.length
        have l2 := ha2.length
        have w1 := w.1
        have e1 : xs.length + ys.length ≤ sizeLine := by rw [l1, l2]; exact w1
        obtain ⟨⟨c1, d1, t1, s1⟩, g1, gc1, n1, gt1⟩ := pl
        obtain ⟨⟨c2, d2, t2, s2⟩, g2, gc2, n2, gt2⟩ := pl2
        simp only at gc1 gt1 gc2 gt2
        subst gc1 gt1 gc2 gt2
        have hz3 : its.toArray.size + its2.toArray.size ≤ sizeLine := by
          rw [List.size_toArray, List.size_toArray, ← rv.length, ← rv2.length]; exact e1
        have hno : typeLookup (.type "tuple") (dunderI "add") = pure none := by kernel_rfl
        refine inplaceOp_concat ⟨_, g1, rfl⟩ ⟨_, g2, rfl⟩ hno noFill_tuple_add seq_tuple_add ?_
        by_cases h1 : xs = []
        · subst h1
          cases rv
          cases ha
          exact call_meets PySem.F.slot_tuple_add ⟨_, g1, rfl⟩ PySem.F.entry_tuple_add (PySem.F.args_tuple_add_2 _ _) (tuple_addW0 a b ([] : List Value).toArray its2.toArray n1 n2 d1 d2 s1 s2 (by simp)) ⟨g1, g2, .ref b, H, I, rfl, k _ _ Hv H (.refl vw) (.tup hs2 ha2 hl2) w.2⟩
        · have hne : ¬ its.toArray.isEmpty = true := by
            cases rv with
            | nil => exact absurd rfl h1
            | cons _ _ => simp
          by_cases h2 : ys = []
          · subst h2
            cases rv2
            cases ha2
            exact call_meets PySem.F.slot_tuple_add ⟨_, g1, rfl⟩ PySem.F.entry_tuple_add (PySem.F.args_tuple_add_2 _ _) (tuple_addW1 a b its.toArray ([] : List Value).toArray n1 n2 d1 d2 s1 s2 hne (by simp)) ⟨g1, g2, .ref a, H, I, rfl, k _ _ Hv H (.refl vw) (.tup hs (by rw [List.append_nil]; exact ha) (by rw [List.append_nil]; exact hl)) w.2⟩
          · have hne2 : ¬ its2.toArray.isEmpty = true := by
              cases rv2 with
              | nil => exact absurd rfl h2
              | cons _ _ => simp
            refine call_meets PySem.F.slot_tuple_add ⟨_, g1, rfl⟩ PySem.F.entry_tuple_add (PySem.F.args_tuple_add_2 _ _) (tuple_addW2 a b its.toArray its2.toArray n1 n2 d1 d2 s1 s2 hne hne2 hz3) ⟨g1, g2, ?_⟩
            rw [show its.toArray ++ its2.toArray = (its ++ its2).toArray by simp]
            have I1 := laidT (xs := xs ++ ys) I (by rw [List.length_append]; exact e1) (rv.append rv2)
            have f := Fw.new (o := tO (its ++ its2) (xs ++ ys)) vw (newAt I) mark_ne_tup
            exact ⟨.ref _, _, I1, rfl, k _ _ _ _ f (.tup SqJ.of ((Rp.monoAll f.ext _ _ ha).append (Rp.monoAll f.ext _ _ ha2)) (by rw [List.length_append]; exact w.1)) w.2⟩

theorem iop_subJ : OpR X (inplaceOp .Sub) (rW2 X.K wSub) := opW iop_sub fun x y H Q ⟨Hv, dx, dy, QD, vw, r1, r2, w, k⟩ => by
  cases dx <;> cases dy <;> first | exact w.elim | skip
  cases r1; cases r2
  exact ⟨_, _, rfl, rfl, k _ _ Hv H (.refl vw) (.int _) w⟩
def wIMul : W2
  | .int i, .int j, Q => CMul i j ∧ Q (.int (i * j))
  | _, _, _ => False
theorem iop_mulJ : OpR X (inplaceOp .Mult) (rW2 X.K wIMul) := opW iop_mul fun x y H Q ⟨Hv, dx, dy, QD, vw, r1, r2, w, k⟩ => by
  cases dx <;> cases dy <;> first | exact w.elim | skip
  cases r1; cases r2
  exact ⟨_, _, rfl, rfl, w.1, k _ _ Hv H (.refl vw) (.int _) w.2⟩
theorem iop_divJ : OpR X (inplaceOp .FloorDiv) (rW2 X.K wDiv) := opW (iop_fdiv.or iop_fdivW) fun x y H Q ⟨Hv, dx, dy, QD, vw, r1, r2, w, k⟩ => by
  cases dx <;> cases dy <;> first | exact w.elim | skip
  cases r1; cases r2
  rcases w.1 with c | c
  · exact .inl ⟨_, _, rfl, rfl, c, k _ _ Hv H (.refl vw) (.int _) w.2⟩
  · exact .inr ⟨_, _, rfl, rfl, c, k _ _ Hv H (.refl vw) (.int _) w.2⟩
theorem iop_modJ : OpR X (inplaceOp .Mod) (rW2 X.K wMod) := opW iop_mod fun x y H Q ⟨Hv, dx, dy, QD, vw, r1, r2, w, k⟩ => by
  cases dx <;> cases dy <;> first | exact w.elim | skip
  cases r1; cases r2
  exact ⟨_, _, rfl, rfl, w.1, k _ _ Hv H (.refl vw) (.int _) w.2⟩

/-! ### y = [..] as a value -/
theorem asgN_ok {i : Nat} (h : PS X st (tAsg (tn X.K n) (gName i))) : DS X st (sAsg i (eFr n)) := psW h fun E σ H ⟨Hv0, H0, Hv, e, P, S, h, F⟩ =>
  ⟨Hv, hide e, _, S.erH, S.fw.vw, h, fun ds p xs Hv1 H1 f hv hp hl r l q => by
    have g : Fw Hv H (upd Hv1 p (.lst xs)) H1 := ⟨f.ext.trans (same_upd hv), Fw.show_ f.vw mark_ne_lst hv hl, f.keep, fun c e1 e2 => by
      by_cases z : c = p
      · rw [z]; exact hp
      · rw [upd_ne z] at e2
        exact f.fresh c e1 e2⟩
    exact F.nx _ _ _ _ ((S.step g).set (.lst (SqL.of upd_same) (Rp.monoAll (same_upd hv) _ _ r) l)) q⟩

/-! ### a < b < c -/
variable {op op' : CmpOp} {W W' : W2}
theorem te_chain {σ : L2.St} {H : Hp} {Q : VK} (h : te K (eChain W W' ma mb mc) σ H Q) : tChain (rW2 K W) (rW2 K W') (te K ma) (te K mb) (te K mc) σ H Q := by
  obtain ⟨Hv, e, QD, er, vw, hm, k⟩ := h
  exact ⟨Hv, e, _, er, vw, hm, fun d v Hv1 H1 f1 r1 q1 => ⟨Hv1, e, _, er.mono f1.ext, f1.vw, q1, fun d2 v2 Hv2 H2 f2 r2 q2 => ⟨Hv2, d, d2, _, f2.vw, r1.mono f2.ext, r2, q2, fun d3 v3 Hv3 H3 f3 r3 q3 => by
    obtain ⟨c, rfl, rfl, q3⟩ := wB_bl r3 q3
    refine ⟨c, rfl, ?_⟩
    cases c with
    | false => exact k _ _ Hv3 H3 (f1.trans (f2.trans f3)) (.bl false) q3
    | true => exact ⟨Hv3, e, _, er.mono (f1.trans (f2.trans f3)).ext, f3.vw, q3, fun d4 v4 Hv4 H4 f4 r4 q4 => ⟨Hv4, d2, d4, QD, f4.vw, (r2.mono f3.ext).mono f4.ext, r4, q4, fun d5 v5 Hv5 H5 f5 r5 q5 => k d5 v5 Hv5 H5 (f1.trans (f2.trans (f3.trans (f4.trans f5)))) r5 q5⟩⟩⟩⟩⟩
theorem d_chain2 (ho : OpR X (compareOp op) (rW2 X.K W)) (ho' : OpR X (compareOp op') (rW2 X.K W')) (ha : DE X a ma) (hb : DE X b mb) (hc : DE X c mc) (hm : lastMarks [op, op'] [b, c] = false := by with_unfolding_all rfl) :
    DE X (.Compare a [op, op'] [b, c] pos) (eChain W W' ma mb mc) := peW (pe_chain ho ho' ha hb hc hm) fun _ _ _ h => te_chain h
theorem dt_chain2 (ho : OpR X (compareOp op) (rW2 X.K W)) (ho' : OpR X (compareOp op') (rW2 X.K W')) (ha : DE X a ma) (hb : DE X b mb) (hc : DE X c mc) (hm : lastMarks [op, op'] [b, c] = false := by with_unfolding_all rfl) :
    DT X (.Compare a [op, op'] [b, c] pos) (tOf (eChain W W' ma mb mc)) := ptW (pt_chain ho ho' ha hb hc hm) fun σ H Q h => te_chain (by
    obtain ⟨Hv, e, QD, er, vw, q, k⟩ := tt_of h
    exact ⟨Hv, e, QD, er, vw, q, k⟩)

/-! ### sum, min, max, any, all, sorted of a list or a tuple -/
def items : D → Option (List D)
  | .list ds => some ds
  | .tuple ds => some ds
  | _ => none
def wSum : WL
  | [d], Q => ∃ ns : List Int, items d = some (ns.map PyData.int) ∧ Q (.int ns.sum)
  | _, _ => False
def wMin1 : WL
  | [d], Q => ∃ x xs, items d = some (x :: xs) ∧ (x :: xs).all (lv lvl) = true ∧ PySem.W.AlikeAll (x :: xs) ∧ Q (PySem.W.minD x xs)
  | _, _ => False
def wMax1 : WL
  | [d], Q => ∃ x xs, items d = some (x :: xs) ∧ (x :: xs).all (lv lvl) = true ∧ PySem.W.AlikeAll (x :: xs) ∧ Q (PySem.W.maxD x xs)
  | _, _ => False
theorem call_sumJ (hc : X.calm = true) : CallR X (.builtin "sum") (rWL X.K wSum) := by
  intro pins s σ H vs us Q I r ⟨Hv, ds, QD, vw, rp, w, k⟩
  unfold wSum at w
  split at w
  · obtain ⟨ns, hd, q⟩ := w
    obtain ⟨v, rfl, h⟩ := rp1 rp
    rename_i d
    cases d <;> first | cases hd | skip
    · cases h with
      | @lst a xs ds hs ha hl =>
        obtain ⟨its, rv, pl, _⟩ := I.list (vw.sql hs)
        rw [ha.of_ints] at rv
        rw [Vals.ref1 r]
        exact sum_raw (I.ok.hd hc) pl.isList rv.ints fun h' tk t' hk => ⟨.int _, H, I.kept hk, ⟨_, rfl⟩, k _ _ Hv H (.refl vw) (.int _) q⟩
    · cases h with
      | @tup a xs ds hs ha hl =>
        obtain ⟨its, rv, pl, _⟩ := I.tuple (vw.sqt hs)
        rw [ha.of_ints] at rv
        rw [Vals.ref1 r]
        have hi := rv.ints
        obtain ⟨xs', e⟩ := hi.allInts.items
        have hn : numsOf (intItems xs').toList = ns := by rw [← e]; exact hi.numsOf
        rw [nums_intItems] at hn
        rw [e] at pl
        refine PySem.W.ktm_sumG (I.ok.hd hc) pl fun h' tk t' hk => ⟨.int _, H, I.kept hk, ⟨_, rfl⟩, ?_⟩
        have := k _ _ Hv H (.refl vw) (.int _) q
        rw [preSum_eq, List.take_of_length_le (by simp), hn]
        exact this
  · exact w.elim
theorem minD_mem : ∀ (xs : List D) (x : D), PySem.W.minD x xs ∈ x :: xs
  | [], x => List.mem_cons_self
  | y :: ys, x => by
    show PySem.W.minD (if PySem.W.dataLt y x then y else x) ys ∈ _
    split
    · exact List.mem_cons_of_mem _ (minD_mem ys y)
    · have := minD_mem ys x
      rcases List.mem_cons.mp this with h | h
      · rw [h]; exact List.mem_cons_self
      · exact List.mem_cons_of_mem _ (List.mem_cons_of_mem _ h)
theorem maxD_mem : ∀ (xs : List D) (x : D), PySem.W.maxD x xs ∈ x :: xs
  | [], x => List.mem_cons_self
  | y :: ys, x => by
    show PySem.W.maxD (if PySem.W.dataLt x y then y else x) ys ∈ _
    split
    · exact List.mem_cons_of_mem _ (maxD_mem ys y)
    · have := maxD_mem ys x
      rcases List.mem_cons.mp this with h | h
      · rw [h]; exact List.mem_cons_self
      · exact List.mem_cons_of_mem _ (List.mem_cons_of_mem _ h)
/-- an item that reads as m is m -/
theorem item_is {pins : List (Addr × Obj)} {σ : L2.St} {H Hv : Hp} {s : Shared} (I : Inv X pins σ H s) (vw : Vw Hv H) {xs : List V} {ds : List D} {its : List Value} (ha : RpAll X.K Hv xs ds) (rv : Vals xs its) (hl : ds.all (lv lvl) = true) (al : ∀ x ∈ ds, ∀ y ∈ ds, PySem.W.alike x y = true)
    {i : Nat} {v : Value} {h' : Heap} {bs : List Addr} {m : D} (hv : its.toArray[i]? = some v) (hr : Reads h' v m bs) (hk : ∀ b o, s.heap.get? b = some o → h'.get? b = some o) (hm : m ∈ ds) : ∃ x, RelV x v ∧ Rp X.K Hv x m := by
  have hv' : its[i]? = some v := by simpa using hv
  have hi : i < xs.length := by rw [rv.length]; exact (List.getElem?_eq_some_iff.mp hv').1
  obtain ⟨u, e1, r1⟩ := rv.get (List.getElem?_eq_getElem hi)
  rw [hv'] at e1
  cases e1
  obtain ⟨d, e2, r2⟩ := ha.getV (List.getElem?_eq_getElem hi)
  have hd : d ∈ ds := List.mem_of_getElem? e2
  obtain ⟨as, q⟩ := Dp.reads I _ _ _ (r2.dp vw _ _ _ (List.all_eq_true.mp hl d hd)) r1
  have := PySem.W.alike_unique d m v as bs (al d hd m hm) (PyProof.Rows.Reads.keeps hk q) hr
  subst this
  exact ⟨_, r1, r2⟩
theorem lvAll_depth {ds : List D} (h : ds.all (lv lvl) = true) : PyData.depthAll ds ≤ 12 := (lv_canLayAll lvl ds (List.all_eq_true.mp h)).2
theorem call_min1J (hc : X.calm = true) (hu : X.A.units + 65 < cLine) : CallR X (.builtin "min") (rWL X.K wMin1) := by
  intro pins s σ H vs us Q I r ⟨Hv, ds, QD, vw, rp, w, k⟩
  unfold wMin1 at w
  split at w
  · obtain ⟨x, xs, hd, hlv, al, q⟩ := w
    have hdp := lvAll_depth hlv
    obtain ⟨v, rfl, h⟩ := rp1 rp
    rename_i d
    cases d <;> first | cases hd | skip
    · cases h with
      | @lst a ys ds hs ha hl =>
        obtain ⟨its, rv, pl, _⟩ := I.list (vw.sql hs)
        rw [Vals.ref1 r]
        obtain ⟨as, hr⟩ := Dp.readsAll I _ _ its (Rp.dpAll vw lvl _ _ (List.all_eq_true.mp hlv) ha) rv
        refine PySem.W.min_list_data (I.ok.hd hc) pl.isList hr al (by omega) fun i v h' tk bs hv hr' hk => ?_
        obtain ⟨z, z1, z2⟩ := item_is I vw ha rv hlv al.1 hv hr' hk (minD_mem _ _)
        exact ⟨z, H, I.kept hk, z1, k _ _ Hv H (.refl vw) z2 q⟩
    · cases h with
      | @tup a ys ds hs ha hl =>
        obtain ⟨its, rv, pl, _⟩ := I.tuple (vw.sqt hs)
        rw [Vals.ref1 r]
        obtain ⟨as, hr⟩ := Dp.readsAll I _ _ its (Rp.dpAll vw lvl _ _ (List.all_eq_true.mp hlv) ha) rv
        refine PySem.W.min_tuple_data (I.ok.hd hc) pl hr al (by omega) fun i v h' tk bs hv hr' hk => ?_
        obtain ⟨z, z1, z2⟩ := item_is I vw ha rv hlv al.1 hv hr' hk (minD_mem _ _)
        exact ⟨z, H, I.kept hk, z1, k _ _ Hv H (.refl vw) z2 q⟩
  · exact w.elim
theorem call_max1J (hc : X.calm = true) (hu : X.A.units + 65 < cLine) : CallR X (.builtin "max") (rWL X.K wMax1) := by
  intro pins s σ H vs us Q I r ⟨Hv, ds, QD, vw, rp, w, k⟩
  unfold wMax1 at w
  split at w
  · obtain ⟨x, xs, hd, hlv, al, q⟩ := w
    have hdp := lvAll_depth hlv
    obtain ⟨v, rfl, h⟩ := rp1 rp
    rename_i d
    cases d <;> first | cases hd | skip
    · cases h with
      | @lst a ys ds hs ha hl =>
        obtain ⟨its, rv, pl, _⟩ := I.list (vw.sql hs)
        rw [Vals.ref1 r]
        obtain ⟨as, hr⟩ := Dp.readsAll I _ _ its (Rp.dpAll vw lvl _ _ (List.all_eq_true.mp hlv) ha) rv
        refine PySem.W.max_list_data (I.ok.hd hc) pl.isList hr al (by omega) fun i v h' tk bs hv hr' hk => ?_
        obtain ⟨z, z1, z2⟩ := item_is I vw ha rv hlv al.1 hv hr' hk (maxD_mem _ _)
        exact ⟨z, H, I.kept hk, z1, k _ _ Hv H (.refl vw) z2 q⟩
    · cases h with
      | @tup a ys ds hs ha hl =>
        obtain ⟨its, rv, pl, _⟩ := I.tuple (vw.sqt hs)
        rw [Vals.ref1 r]
        obtain ⟨as, hr⟩ := Dp.readsAll I _ _ its (Rp.dpAll vw lvl _ _ (List.all_eq_true.mp hlv) ha) rv
        refine PySem.W.max_tuple_data (I.ok.hd hc) pl hr al (by omega) fun i v h' tk bs hv hr' hk => ?_
        obtain ⟨z, z1, z2⟩ := item_is I vw ha rv hlv al.1 hv hr' hk (maxD_mem _ _)
        exact ⟨z, H, I.kept hk, z1, k _ _ Hv H (.refl vw) z2 q⟩
  · exact w.elim
end
end J

/-! J8: sorted, index, lists times ints, more stores. -/
namespace J
open PySem PySem.Spec PyProof.Rows L2
section
variable {X : Cx} {K : PySem.W.Frag} {x a b c o : Expr} {es : List Expr} {pos : Pos} {m ma mb mc mo : EX} {ms : List EX} {n : NX} {st : Stmt}

/-! ### sorted(list) -/
abbrev dSort (ds : List D) : List D := ds.mergeSort (PySem.W.dataLe false id)
def SortOk (ds : List D) : Prop := ds.all (lv lvl) = true ∧ PySem.W.AllAlike ds ∧ PySem.W.Sortable ds
def wSorted : D → (List D → Prop) → Prop
  | .list ds, Q => SortOk ds ∧ Q (dSort ds)
  | _, _ => False
def nSorted (m : EX) : NX := fun e Q => m e fun d => wSorted d Q
theorem each_of {Hv : Hp} : ∀ {vs : List Value} {xs : List V} {ds : List D}, Vals xs vs → RpAll K Hv xs ds → PySem.W.EachIs (fun v d => ∃ x, RelV x v ∧ Rp K Hv x d) vs ds
  | _, _, _, .nil, .nil => .nil
  | _, _, _, .cons r t, .cons r2 t2 => .cons ⟨_, r, r2⟩ (each_of t t2)
theorem of_each {Hv : Hp} : ∀ {vs : List Value} {ds : List D}, PySem.W.EachIs (fun v d => ∃ x, RelV x v ∧ Rp K Hv x d) vs ds → ∃ xs, Vals xs vs ∧ RpAll K Hv xs ds
  | _, _, .nil => ⟨[], .nil, .nil⟩
  | _, _, .cons ⟨x, r, r2⟩ t => by
    obtain ⟨xs, h1, h2⟩ := of_each t
    exact ⟨x :: xs, .cons r h1, .cons r2 h2⟩
theorem each_reads {pins : List (Addr × Obj)} {σ : L2.St} {H Hv : Hp} {s : Shared} (I : Inv X pins σ H s) (vw : Vw Hv H) : ∀ {vs : List Value} {xs : List V} {ds : List D}, Vals xs vs → RpAll X.K Hv xs ds → (∀ d ∈ ds, lv lvl d = true) →
    PySem.W.EachIs (fun v d => ∃ as, Reads s.heap v (id d) as) vs ds
  | _, _, _, .nil, .nil, _ => .nil
  | _, _, _, .cons r t, .cons r2 t2, h => .cons (Dp.reads I _ _ _ (r2.dp vw _ _ _ (h _ List.mem_cons_self)) r) (each_reads I vw t t2 fun d hd => h d (List.mem_cons_of_mem _ hd))
theorem n_sorted {p pos : Pos} (hu : X.A.units + 65 < cLine) (hg : Gl X "sorted") (hm : X.mg "sorted" = none) (ha : DE X a ma) (h1 : starEach [a] X.env = (false, eval a X.env) :: starEach [] X.env := by rfl) (h2 : ((backTo pos (starEach [] X.env)).any fun x => x.fst) = false := by rfl) :
    DN X (.Call (.Name "sorted" p) [a] [] pos) (nSorted ma) := by
  have cr : CallR X (.builtin "sorted") (fun xs H Q => ∃ Hv d QD, Vw Hv H ∧ RpAll X.K Hv xs [d] ∧ wSorted d QD ∧ ∀ ds p ys Hv' H', Fw Hv H Hv' H' → Hv' p = none → H p = none → H' p = some (.lst ys) → RpAll X.K Hv' ys ds → ds.length ≤ sizeLine → QD ds → Q (.ref p) H') := by
    intro pins s σ H vs us Q I r ⟨Hv, d, QD, vw, rp, w, k⟩
    obtain ⟨v, rfl, h⟩ := rp1 rp
    obtain ⟨ds, rfl⟩ : ∃ ds, d = .list ds := by cases d <;> first | exact w.elim | exact ⟨_, rfl⟩
    cases h with
    | @lst a ys _ hs ha hl =>
      obtain ⟨⟨hlv, al, so⟩, q⟩ := w
      obtain ⟨its, rv, pl, hz⟩ := I.list (vw.sql hs)
      rw [Vals.ref1 r]
      have hlv' := List.all_eq_true.mp hlv
      refine PySem.W.sorted_data (R := fun v d => ∃ x, RelV x v ∧ Rp X.K Hv x d) (enc := id) pl.isList (each_of rv ha) (each_reads I vw rv ha hlv') (by rw [List.map_id]; exact al) (by rw [List.map_id]; exact so) hl (fun d hd => ?_) fun out hlen ho => ?_
      · have : d.depth ≤ 12 := (lv_canLay lvl d (hlv' d hd)).2
        show X.A.units + 2 + d.depth < cLine
        omega
      · obtain ⟨xs, h3, h4⟩ := of_each ho
        obtain ⟨ep, he'⟩ := PyProof.Rows.sortedAll_at s.heap its (List.toArray out)
        have hl2 : (dSort ds).length ≤ sizeLine := by unfold dSort; rw [List.length_mergeSort]; exact hl
        have hl3 : xs.length ≤ sizeLine := by rw [h4.length]; exact hl2
        have hf : H (s.heap.objs.size + 1) = none := I.hok.fresh (Nat.le_succ _)
        exact ⟨.ref (s.heap.objs.size + 1), upd H (s.heap.objs.size + 1) (.lst xs), I.laid (t' := s.toks) (fun _ _ => PyProof.Rows.sortedAll_old) (Nat.le_succ _) ⟨hl3, out, ep, h3, he'⟩, rfl, k _ _ _ _ _ (Fw.newU vw hf) (vw.none_of hf) hf upd_same h4 hl2 q⟩
  exact peW (pe_callB cr hg hm (by decide +kernel) (pa_cons ha pa_nil h1) (by decide) (by decide) h1 h2) fun σ H Q ⟨Hv, e, QD, er, vw, hm, k⟩ =>
    ⟨Hv, e, _, er, vw, hm, fun d v Hv1 H1 f1 r1 q1 => ⟨Hv1, d, QD, f1.vw, .one r1, q1, fun ds p xs Hv2 H2 f2 h1 h2 h3 h4 h5 h6 => k ds p xs Hv2 H2 (f1.trans f2) h1 (f1.fresh_at h2) h3 h4 h5 h6⟩⟩

/-! ### xs.index(y) -/
def idxD (ds : List D) (d : D) : Option Nat := ds.findIdx? fun z => PyData.eqv z d
def eIndex (mo ma : EX) : EX := fun e Q => mo e fun x => ∃ ds, items x = some ds ∧ ds.all (lv lvl) = true ∧ ma e fun d => lv lvl d = true ∧ ∃ j, idxD ds d = some j ∧ Q (.int (j : Nat))
theorem mt_indexT (hu : X.A.units + 65 < cLine) {pins : List (Addr × Obj)} {s : Shared} {σ : L2.St} {H : Hp} {a : Addr} {xs : List V} {ds : List D} {d : D} {y : V} {u : Value} {j : Nat} {Q : VK} (I : Inv X pins σ H s) (hs : SqT X.K H a xs) (ha : DpAll X.K H xs ds) (hy : Dp X.K H y d) (ry : RelV y u)
    (sl : SeqAt.shaped (.tuple ds) = true) (sd : SeqAt.shaped d = true) (hj : idxD ds d = some j) (q : Q (.int (j : Nat)) H) : wpAny (model X.prog X.w) X.A (call (.builtin "tuple.index") [.ref a, u]) (EP X pins σ Q) X.xe s := by
  obtain ⟨bs, r1⟩ := Dp.reads I d y u hy ry
  have hxs : PyData.canLayAll0 ds = true := SeqAt.canLay_of_shaped sl
  have hroom : X.A.units + 1 + min (PyData.depthAll ds) d.depth < cLine := room_in_shaped sd hu
  obtain ⟨its, rv, ⟨⟨cls, dd, data, sls⟩, ho, hc, n, hdt⟩, hlen⟩ := I.tuple hs
  simp only at hc hdt
  subst hc hdt
  obtain ⟨as, h4⟩ := Dp.readsAll I ds _ its ha rv
  have hn : its.length = ds.length := SeqAt.ReadsAll.length ds its as h4
  have hmap : its.map (SeqAt.readOf s.heap) = ds := SeqAt.readsAll_map ds its as hxs h4
  obtain ⟨hjd, hjt, hjn⟩ := List.findIdx?_eq_some_iff_getElem.mp hj
  have hjl : j < its.length := by omega
  have hj' : j < its.toArray.size := by simpa using hjl
  have at_ : ∀ (m : Nat) (hm : m < its.toArray.size) (hm' : m < ds.length), SeqAt.readOf s.heap its.toArray[m] = ds[m] := by
    intro m hm hm'
    have hml : m < its.length := by simpa using hm
    have e2 := congrArg (fun l : List PyData => l[m]?) hmap
    simp only [List.getElem?_map, List.getElem?_eq_getElem hml, List.getElem?_eq_getElem hm', Option.map_some, Option.some.injEq] at e2
    simpa using e2
  refine call_meets PySem.F.slot_tuple_index ⟨_, ho, rfl⟩ PySem.F.entry_tuple_index (PySem.F.args_tuple_index_2 _ _)
    (_root_.TI.tuple_indexAt a its.toArray n dd sls u (fun u => PyData.eqv (SeqAt.readOf s.heap u) d) j hj' ?_ ?_) ⟨ho, SeqAt.items_eqAt (vs := its.toArray) (show ReadsAll s.heap its.toArray.toList ds as from h4) r1 hxs (SeqAt.canLay_of_shaped sd) hroom, ?_⟩
  · show PyData.eqv (SeqAt.readOf s.heap its.toArray[j]) d = true
    rw [at_ j hj' hjd]
    exact hjt
  · intro m hm hmj
    have hmd : m < ds.length := by omega
    show PyData.eqv (SeqAt.readOf s.heap its.toArray[m]) d = false
    rw [at_ m hm hmd]
    exact Bool.eq_false_iff.mpr (hjn m hmj)
  · exact ⟨.int (j : Nat), H, I.tok _, ⟨_, rfl⟩, q⟩
theorem d_index {apos cpos : Pos} (hu : X.A.units + 65 < cLine) (ho : DE X o mo) (ha : DE X a ma) (hbase : attributeBase o "index" X.env (eval o X.env) = eval o X.env := by rfl)
    (hfew : ((backTo cpos (starEach (a :: []) X.env)).all (fun x => !x.1) && (backToKw cpos (keywordEach [] X.env)).all (fun x => x.1.isSome)
      && decide ((a :: ([] : List Expr)).length + ([] : List Keyword).length + (if ([] : List Keyword).isEmpty then 0 else 1) < 30)) = true := by rfl)
    (hline : (apos.endLine == cpos.line) = true := by rfl) (hs : starEach (a :: []) X.env = (false, eval a X.env) :: starEach [] X.env := by rfl) (hplain : (backTo cpos (starEach [] X.env)).any (·.1) = false := by rfl) :
    DE X (.Call (.Attribute o "index" apos) [a] [] cpos) (eIndex mo ma) := by
  refine ⟨fun pins s σ H Q I ⟨Hv, e, QD, er, vw, hm, k⟩ => ?_⟩
  refine wpAny_Call_method_late hbase hfew hline rfl (thn (ho.run pins s σ H (fun x H1 => ∃ Hv1 d, Fw Hv H Hv1 H1 ∧ Rp X.K Hv1 x d ∧ ∃ ds, items d = some ds ∧ ds.all (lv lvl) = true ∧ ma e fun d2 => lv lvl d2 = true ∧ ∃ j, idxD ds d2 = some j ∧ QD (.int (j : Nat))) I ⟨Hv, e, _, er, vw, hm, fun d v Hv1 H1 f r q => ⟨Hv1, d, f, r, q⟩⟩) fun v s1 ⟨x, H1, I1, r1, Hv1, d, f, r, ds0, e1, l1, q⟩ => ?_)
  have A2 := (da_cons (X := X) ha da_nil hs).run cpos pins s1 σ H1 (fun vs H2 => ∃ y, vs = [y] ∧ ∃ Hv2 d2, Fw Hv1 H1 Hv2 H2 ∧ Rp X.K Hv2 y d2 ∧ lv lvl d2 = true ∧ ∃ j, idxD ds0 d2 = some j ∧ QD (.int (j : Nat))) I1 ⟨Hv1, e, _, er.mono f.ext, f.vw, q, fun d2 v2 Hv2 H2 f2 r2 q2 => ⟨v2, rfl, Hv2, d2, f2, r2, q2⟩⟩
  rw [hs] at A2
  have h2 : (backTo cpos ((false, eval a X.env) :: starEach [] X.env)).any (·.1) = false := by
    show (false || (backTo cpos (starEach [] X.env)).any (·.1)) = false
    rw [hplain]
    rfl
  cases d with
  | list ds =>
    cases r with
    | @lst p xs _ hs' ha' hl =>
      cases r1
      obtain rfl : ds = ds0 := Option.some.inj e1
      obtain ⟨h3, h4⟩ := tyV_is I1 (x := .ref p) (T := "list") rfl (.inl ⟨rfl, xs, f.vw.sql hs'⟩)
      refine ⟨"list", "list.index", PySem.F.plainAttrs_list, PySem.F.slot_list_index, PySem.F.type_list_index, h3, h4, ?_⟩
      rw [hs]
      refine Calls.callWith_builtin h2 (Calls.evalArgs_plain (thn A2 fun us s2 ⟨vs, H2, I2, r2, y, ey, Hv2, d2, f2, rd2, l2, j, e2, q2⟩ => ?_))
      subst ey
      have rl : Rp X.K Hv2 (.ref p) (.list ds) := .lst (sql_mono f2.ext hs') (Rp.monoAll f2.ext _ _ ha') hl
      have lds : lv (lvl + 1) (.list ds) = true := l1
      obtain ⟨hjd, hjt, hjn⟩ := List.findIdx?_eq_some_iff_getElem.mp e2
      exact mt_indexD hu pins s2 σ H2 (.ref p) [y] _ us Q I2 rfl r2 ⟨p, y, d2, ds, j, ds[j], rfl, rfl, rl.dp f2.vw _ _ _ lds, rd2.dp f2.vw _ _ _ l2, lv_shaped lds, lv_shaped l2, List.getElem?_eq_getElem hjd, hjt, fun m z hm hz => by
        have hmd : m < ds.length := by omega
        rw [List.getElem?_eq_getElem hmd] at hz
        cases hz
        exact Bool.eq_false_iff.mpr (hjn m hm), k _ _ _ _ (f.trans f2) (.int _) q2⟩
  | tuple ds =>
    cases r with
    | @tup p xs _ hs' ha' hl =>
      cases r1
      obtain rfl : ds = ds0 := Option.some.inj e1
      have hj := f.vw.sqj hs'
      obtain ⟨ob, g1, g2⟩ := hj.is I1
      obtain ⟨its0, _, pl0, _⟩ := I1.tuple hj.t
      have h3 : s1.TypeIs (.ref p) "tuple" := pl0.typeIs
      refine ⟨"tuple", "tuple.index", PySem.F.plainAttrs_tuple, PySem.F.slot_tuple_index, PySem.F.type_tuple_index, h3, fun a e => by cases e; exact ⟨ob, g1, g2⟩, ?_⟩
      rw [hs]
      refine Calls.callWith_builtin h2 (Calls.evalArgs_plain (thn A2 fun us s2 ⟨vs, H2, I2, r2, y, ey, Hv2, d2, f2, rd2, l2, j, e2, q2⟩ => ?_))
      subst ey
      obtain ⟨u, rfl, ru⟩ := vals1 r2
      have lds : lv (lvl + 1) (.tuple ds) = true := l1
      exact mt_indexT hu I2 (f2.vw.sqt (sqt_mono f2.ext hs')) (Rp.dpAll f2.vw lvl _ _ (List.all_eq_true.mp l1) (Rp.monoAll f2.ext _ _ ha')) (rd2.dp f2.vw _ _ _ l2) ru (lv_shaped lds) (lv_shaped l2) e2 (k _ _ _ _ (f.trans f2) (.int _) q2)
  | none => cases e1
  | bool _ => cases e1
  | int _ => cases e1
  | str _ => cases e1
  | dict _ => cases e1
end
end J

/-! J9: more stores. -/
namespace J
open PySem PySem.Spec PyProof.Rows L2
section
variable {X : Cx} {K : PySem.W.Frag} {x a b c o : Expr} {es : List Expr} {pos : Pos} {m ma mb mc mo : EX} {ms : List EX} {n : NX} {st : Stmt}
theorem ps_lc2 {i : Nat} {y : Str} {py : Pos} {elt tg iter tg1 iter1 : Expr} {ifs ifs1 : List Expr} {scope : Scope} {own : List (Str × Nat)} {vs1 : List Nat} {pos spos : Pos} {it it1 : IX} {t t1 : Tg} {mt mt1 : TX} {me : EX} (hc : X.calm = true) (hN : X.N.Nodup) (hy : X.N[i]? = some y) (hyl : X.env.scope.names.lookup y = some .local)
    (hsw : swapsWith (.ListComp elt [⟨tg, iter, ifs, 0⟩, ⟨tg1, iter1, ifs1, 0⟩] scope pos) (some (.Name y py)) spos.line X.env = pure true) (hi : DI X tg iter it) (ok : BlkOk X.N X.env.scope scope own) (hv : ∀ i ∈ vs1, i ∈ own.map (·.2))
    (hg : ∀ (s : Shared) (H : Hp) (C : Addr) (cl : List (Str × Addr)) (fp : List Addr), DG (X.blk s H scope (compEnvC scope cl C X.env) fp) tg t) (ht : ∀ (s : Shared) (H : Hp) (C : Addr) (cl : List (Str × Addr)) (fp : List Addr), DTs (X.blk s H scope (compEnvC scope cl C X.env) fp) ifs mt)
    (hi1 : ∀ (s : Shared) (H : Hp) (C : Addr) (cl : List (Str × Addr)) (fp : List Addr), DI (X.blk s H scope (compEnvC scope cl C X.env) fp) tg1 iter1 it1)
    (hg1 : ∀ (s : Shared) (H : Hp) (C : Addr) (cl : List (Str × Addr)) (fp : List Addr), DG (X.blk s H scope (compEnvC scope cl C X.env) fp) tg1 t1) (ht1 : ∀ (s : Shared) (H : Hp) (C : Addr) (cl : List (Str × Addr)) (fp : List Addr), DTs (X.blk s H scope (compEnvC scope cl C X.env) fp) ifs1 mt1)
    (he : ∀ (s : Shared) (H : Hp) (C : Addr) (cl : List (Str × Addr)) (fp : List Addr), DE (X.blk s H scope (compEnvC scope cl C X.env) fp) elt me) (hsub : ∀ i ∈ t.slots, i ∈ own.map (·.2)) (hsub1 : ∀ i ∈ t1.slots, i ∈ vs1) (hs : ∀ x, foldedSetIterable iter X.env x = pure x) (hs1 : ∀ env x, foldedSetIterable iter1 env x = pure x) :
    PS X (.Assign [.Name y py] (.ListComp elt [⟨tg, iter, ifs, 0⟩, ⟨tg1, iter1, ifs1, 0⟩] scope pos) spos) (tAsg (tn X.K (nLc2 it t (own.map (·.2)) mt it1 t1 vs1 mt1 me)) (gName i)) := by
  have h := ps_setLc2 (g := gTgt X.K t) (tt := tt X.K mt) (te := te X.K me) (g1 := gTgt X.K t1) (tt1 := tt X.K mt1) (wi1 := ti X.K it1) (vs1 := vs1) hc hN hy hyl hsw hi ok hv hg ht hi1 hg1 ht1 he hs hs1
  exact ⟨fun pins s σ H D I q => h.run pins s σ H D I (tn_lc2 hsub hsub1 q)⟩

/-! ### [..] * n -/
def nRep (n : NX) (m : EX) : NX := fun e Q => n e fun ds => m e fun d => wI d fun k => -(2 ^ 63) ≤ k ∧ k < 2 ^ 63 ∧ ds.length * k.toNat ≤ sizeLine ∧ Q (List.replicate k.toNat ds).flatten
theorem RpAll.rep {H : Hp} {vs : List V} {ds : List D} (r : RpAll K H vs ds) : ∀ k : Nat, RpAll K H (List.replicate k vs).flatten (List.replicate k ds).flatten
  | 0 => .nil
  | k + 1 => by
    rw [List.replicate_succ, List.replicate_succ, List.flatten_cons, List.flatten_cons]
    exact r.append (RpAll.rep r k)
theorem n_rep (ha : DN X a n) (hb : DE X b m) : DN X (.BinOp a .Mult b pos) (nRep n m) := peW (pe_op op_rep ha hb) fun σ H Q ⟨Hv, e, QD, er, vw, hm, k⟩ =>
  ⟨Hv, e, _, er, vw, hm, fun ds p xs Hv1 H1 f hv hp hl r l q => ⟨Hv1, e, _, er.mono f.ext, f.vw, q, fun d v Hv2 H2 f2 r2 q2 => by
    obtain ⟨i, rfl, rfl, h1, h2, h3, q⟩ := wI_int r2 q2
    obtain ⟨hv2, hp2⟩ := f2.hidden hv hl
    have r' := Rp.monoAll f2.ext _ _ r
    refine ⟨p, i, xs, rfl, rfl, hp2, h1, h2, by rw [r.length]; exact h3, fun p' hp' => ?_⟩
    have hne : Hv2 p' = none := f2.vw.none_of hp'
    exact k _ _ _ _ _ ((f.trans f2).trans (Fw.newU f2.vw hp')) hne ((f.trans f2).fresh_at hp') upd_same (r'.rep _) (by rw [PyProof.Rows.lm_len_rep_flat, Nat.mul_comm]; exact h3) q⟩⟩

/-! ### x, y = e of the def's own lists -/
def sTgtP (t : Tg) (m : EX) : SX := fun e P => m e fun d => pl lvl d = true ∧ ∃ e', t.bind d e = some e' ∧ P.nx e'
/-- two new lists -/
def sParN (i j : Nat) (n1 n2 : NX) : SX := fun e P => n1 (hide e) fun ds => n2 (hide e) fun es => P.nx ((e.set i (.own ds)).set j (.own es))
end
end J

/-! J10: reckoning with mirrors; the helpers that all laws share. -/
namespace J
open PySem PySem.Spec PyProof.Rows L2

theorem hu64 {k : Nat} {A : Around} (hr : Room k A) : A.units + 64 < cLine := by have := hr.un; omega
theorem ex_some {α : Type} {a : α} {P : α → Prop} : (∃ d, some a = some d ∧ P d) ↔ P a := by simp
section
variable {i j : Int} {a b : Bool} {xs ys ds : List D} {x y : D} {u v : Str} {Q : D → Prop} {n : Nat} {lo hi : Option Int}
theorem wAdd_i : wAdd (.int i) (.int j) Q = Q (.int (i + j)) := rfl
theorem wAdd_t : wAdd (.tuple xs) (.tuple ys) Q = (xs.length + ys.length ≤ sizeLine ∧ Q (.tuple (xs ++ ys))) := rfl
theorem wAdd_l : wAdd (.list xs) (.list ys) Q = (xs.length + ys.length ≤ sizeLine ∧ Q (.list (xs ++ ys))) := rfl
theorem wAdd_s : wAdd (.str u) (.str v) Q = (u.length + v.length ≤ sizeLine ∧ Q (.str (u ++ v))) := rfl
theorem wSub_i : wSub (.int i) (.int j) Q = Q (.int (i - j)) := rfl
theorem wMul_i : wMul (.int i) (.int j) Q = (MulOk i j ∧ Q (.int (i * j))) := rfl
theorem wDiv_i : wDiv (.int i) (.int j) Q = (DivOk i j ∧ Q (.int (i / j))) := rfl
theorem wMod_i : wMod (.int i) (.int j) Q = (0 < j ∧ Q (.int (i % j))) := rfl
theorem wPow_i : wPow (.int i) (.int j) Q = (CPow i j ∧ Q (.int (i ^ j.toNat))) := rfl
theorem wNeg_i : wNeg (.int i) Q = Q (.int (-i)) := rfl
theorem wLt_i : wLt (.int i) (.int j) Q = Q (.bool (decide (i < j))) := rfl
theorem wLe_i : wLe (.int i) (.int j) Q = Q (.bool (decide (i ≤ j))) := rfl
theorem wGt_i : wGt (.int i) (.int j) Q = Q (.bool (decide (j < i))) := rfl
theorem wGe_i : wGe (.int i) (.int j) Q = Q (.bool (decide (j ≤ i))) := rfl
theorem wIs_n : wIs x .none Q = Q (.bool (isNon x)) := by cases x <;> rfl
theorem wIs_b : wIs (.bool a) (.bool b) Q = Q (.bool (decide (a = b))) := rfl
theorem wIsNot_n : wIsNot x .none Q = Q (.bool (!isNon x)) := by cases x <;> rfl
theorem wIsNot_b : wIsNot (.bool a) (.bool b) Q = Q (.bool (!decide (a = b))) := rfl
theorem wIx_l : wIx (.list ds) (.int i) Q = ∃ d, atI ds i = some d ∧ Q d := rfl
theorem wIx_t : wIx (.tuple ds) (.int i) Q = ∃ d, atI ds i = some d ∧ Q d := rfl
theorem wLen_l : wLen [.list ds] Q = Q (.int (ds.length : Int)) := rfl
theorem wLen_t : wLen [.tuple ds] Q = Q (.int (ds.length : Int)) := rfl
theorem wAbs_i : wAbs [.int i] Q = Q (.int (i.natAbs : Int)) := rfl
theorem wInt_i : wInt [.int i] Q = Q (.int i) := rfl
theorem wInt_b : wInt [.bool a] Q = Q (.int (b2n a)) := rfl
theorem wMax2_i : wMax2 [.int i, .int j] Q = Q (.int (max i j)) := rfl
theorem wMin2_i : wMin2 [.int i, .int j] Q = Q (.int (min i j)) := rfl
theorem wTuple_l : wTuple (.list ds) Q = Q (.tuple ds) := rfl
theorem wTuple_t : wTuple (.tuple ds) Q = Q (.tuple ds) := rfl
theorem wB_b {R : Bool → Prop} : wB (.bool a) R = R a := rfl
theorem wI_i {R : Int → Prop} : wI (.int i) R = R i := rfl
theorem seqOf_l {R : List D → Prop} : seqOf (.list ds) R = R ds := rfl
theorem seqOf_t {R : List D → Prop} : seqOf (.tuple ds) R = R ds := rfl
theorem wIAdd_i : wIAdd (.int i) (.int j) Q = Q (.int (i + j)) := rfl
theorem wIAdd_t : wIAdd (.tuple xs) (.tuple ys) Q = (xs.length + ys.length ≤ sizeLine ∧ Q (.tuple (xs ++ ys))) := rfl
theorem wIMul_i : wIMul (.int i) (.int j) Q = (CMul i j ∧ Q (.int (i * j))) := rfl
theorem wSl_l : wSl (.list ds) lo hi Q = Q (.list (cutD ds lo hi)) := rfl
theorem wSl_t : wSl (.tuple ds) lo hi Q = Q (.tuple (cutD ds lo hi)) := rfl
theorem wIn_l : wIn x (.list ds) Q = (lv lvl x = true ∧ ds.all (lv lvl) = true ∧ Q (.bool (ds.any fun z => PyData.eqv z x))) := rfl
theorem wIn_t : wIn x (.tuple ds) Q = (lv lvl x = true ∧ ds.all (lv lvl) = true ∧ Q (.bool (ds.any fun z => PyData.eqv z x))) := rfl
theorem wNotIn_l : wNotIn x (.list ds) Q = (lv lvl x = true ∧ ds.all (lv lvl) = true ∧ Q (.bool (!ds.any fun z => PyData.eqv z x))) := rfl
theorem wNotIn_t : wNotIn x (.tuple ds) Q = (lv lvl x = true ∧ ds.all (lv lvl) = true ∧ Q (.bool (!ds.any fun z => PyData.eqv z x))) := rfl
theorem items_l : items (.list ds) = some ds := rfl
theorem items_t : items (.tuple ds) = some ds := rfl
theorem lv_i : lv n (.int i) = true := by cases n <;> rfl
theorem lv_b : lv n (.bool a) = true := by cases n <;> rfl
theorem lv_n : lv n .none = true := by cases n <;> rfl
theorem pl_i : pl n (.int i) = true := by cases n <;> rfl
theorem pl_b : pl n (.bool a) = true := by cases n <;> rfl
theorem pl_n : pl n .none = true := by cases n <;> rfl
theorem hide_v : Slot.hide (.val x) = .val x := rfl
theorem hide_o : Slot.hide (.own ds) = .no := rfl
theorem hide_n : Slot.hide .no = .no := rfl
theorem rd_v : Slot.rd (.val x) = some x := rfl
theorem rd_o : Slot.rd (.own ds) = some (.list ds) := rfl
theorem rd_n : Slot.rd .no = none := rfl
theorem bind_one {i : Nat} {e : En} : Tg.bind (.one i) x e = some (e.set i (.val x)) := rfl
theorem bind_many {is : List Nat} {e : En} : Tg.bind (.many is) (.tuple ds) e = if ds.length = is.length then some (setAll is ds e) else none := rfl
theorem b2n_t : b2n true = 1 := rfl
theorem b2n_f : b2n false = 0 := rfl
theorem isNon_n : isNon .none = true := rfl
theorem isNon_i : isNon (.int i) = false := rfl
theorem isNon_b : isNon (.bool a) = false := rfl
theorem isNon_s : isNon (.str u) = false := rfl
theorem isNon_t : isNon (.tuple ds) = false := rfl
theorem isNon_l : isNon (.list ds) = false := rfl
theorem eqv_ii : PyData.eqv (.int i) (.int j) = decide (i = j) := by rw [PyData.eqv]; exact Bool.eq_iff_iff.mpr (by rw [beq_iff_eq, decide_eq_true_eq])
theorem eqv_bb : PyData.eqv (.bool a) (.bool b) = decide (a = b) := by rw [PyData.eqv]; exact Bool.eq_iff_iff.mpr (by rw [beq_iff_eq, decide_eq_true_eq])
theorem atI_nat {α : Type} {zs : List α} {k : Int} (h0 : 0 ≤ k) (h1 : k < zs.length) : atI zs k = zs[k.toNat]? := by
  unfold atI ixN
  rw [if_pos h0, if_pos h1]
  rfl
theorem atI_some {α : Type} {zs : List α} {k : Int} (h0 : 0 ≤ k) (h1 : k < zs.length) : ∃ d, zs[k.toNat]? = some d ∧ atI zs k = some d := by
  have h2 : k.toNat < zs.length := by omega
  exact ⟨zs[k.toNat], List.getElem?_eq_getElem h2, by rw [atI_nat h0 h1, List.getElem?_eq_getElem h2]⟩
theorem atI_map {α β : Type} {zs : List α} {k : Int} (f : α → β) : atI (zs.map f) k = (atI zs k).map f := by
  unfold atI
  rw [List.length_map]
  cases ixN zs.length k <;> simp
theorem atI_ints {ns : List Int} {k : Int} (h0 : 0 ≤ k) (h1 : k < ns.length) : ∃ z, ns[k.toNat]? = some z ∧ atI (ns.map PyData.int) k = some (.int z) := by
  obtain ⟨d, a, b⟩ := atI_some h0 h1
  exact ⟨d, a, by rw [atI_map, b]; rfl⟩
theorem mul_r (h : -(2 ^ 64) < j ∧ j < 2 ^ 64) : MulOk i j := .inl (.inr h)
theorem mul_l (h : -(2 ^ 64) < i ∧ i < 2 ^ 64) : MulOk i j := .inl (.inl h)
theorem div_s (h : 0 < j ∧ j < 1073741824) : DivOk i j := .inl h
end

/-! ### the pile -/
def S_take : WL := fun ds Q => ∃ n : Int, ds = [.dict [], .int n] ∧ 0 < n ∧ ∀ r : Int, 0 ≤ r → r < n → Q (.int r)
/-! ### _law_cell -/
def S_cell1 : WL := fun ds Q => ∃ (ns : List Int) (at_ : Int), ds = [.list (ns.map PyData.int), .int at_] ∧ ns.length ≤ 63 ∧ ∀ r : Int, r.natAbs < 10 ^ 60 → Q (.int r)
def m_cell1 : SX := (sSeq (sIf (tOf (eOp wEq (eCall wLen [(eVar 0)]) (eC (.int 0)))) (sRet (eC (.int 0))) sSkip)
      (sSeq (sAsg 2 (eCall wInt [(eOp wIx (eVar 0) (eOp wMod (eCall wInt [(eVar 1)]) (eCall wLen [(eVar 0)])))]))
      (sRet (eOp wMul (eOp wMod (eCall wAbs [(eVar 2)]) (eOp wPow (eC (.int 10)) (eC (.int 60)))) (eOp wIx (eFr (nLst [(eC (.int 1)), (eUn wNeg (eC (.int 1)))])) (eCall wInt [(eOp wLt (eVar 2) (eC (.int 0)))]))))))
theorem cell_end {z : Int} {QD : D → Prop} (q : ∀ r : Int, r.natAbs < 10 ^ 60 → QD (.int r)) : (CPow 10 60 ∧ 0 < (10 : Int) ^ Int.toNat 60 ∧ ∃ d, atI [PyData.int 1, PyData.int (-1)] (b2n (decide (z < 0))) = some d ∧ wMul (.int ((z.natAbs : Int) % 10 ^ Int.toNat 60)) d QD) := by
  have e1 : ((10 : Int) ^ Int.toNat 60) = 10 ^ 60 := by decide
  refine ⟨⟨by decide, by decide, by decide⟩, by decide, ?_⟩
  rw [e1]
  have h1 := Int.emod_nonneg (z.natAbs : Int) (show (10 : Int) ^ 60 ≠ 0 by decide)
  have h2 := Int.emod_lt_of_pos (z.natAbs : Int) (show (0 : Int) < 10 ^ 60 by decide)
  by_cases hz : z < 0
  · refine ⟨.int (-1), by rw [decide_eq_true hz]; rfl, mul_r (by decide), q _ ?_⟩
    omega
  · refine ⟨.int 1, by rw [decide_eq_false hz]; rfl, mul_r (by decide), q _ ?_⟩
    omega
theorem wp_cell1 (ds : List D) (QD : D → Prop) (h : S_cell1 ds QD) : m_cell1 (startE 3 ds) ⟨fun _ => QD .none, QD, noB, noB, fun es => QD (.list es)⟩ := by
  obtain ⟨ns, at_, rfl, hl, q⟩ := h
  unfold m_cell1
  simp only [sSeq, sSkip, sAsg, sAsgP, sNew, sNewP, sRet, sRetO, sIf, sApp, sAppP, sSet, sAug, sTgt, sTgtP, sPar, sFz, frz, sFor, sForR, sRev, sBrk, sCnt, sDrop, eOp, eUn, eCall, eVar, eC, eFr, eTup, eTupR, eAnd, eOr, eNot, eIf, eChain, eIndex, eSl, nLst, nList, nListR, nLc, nLc2, nCall, nSorted, nRep, tOf, tAndJ, tOrJ, tNotJ, tTrue, iSeq, iR1, iR2, iR3, rg1, rg2, evA, pNo, pSo, startE, hide, rd, hide_v, hide_o, hide_n, rd_v, rd_o, rd_n, bind_one, bind_many, setAll, List.map, List.replicate, List.length, List.cons_append, List.nil_append, List.getElem?_cons_zero, List.getElem?_cons_succ, List.set_cons_zero, List.set_cons_succ, Option.bind_some, ex_some, Option.some.injEq, Slot.own.injEq, Slot.val.injEq, exists_eq_left', true_and, and_true, Bool.false_eq_true, if_false, if_true, reduceIte, wEq, wNe, wAdd_i, wAdd_t, wAdd_l, wAdd_s, wSub_i, wMul_i, wDiv_i, wMod_i, wPow_i, wNeg_i, wLt_i, wLe_i, wGt_i, wGe_i, wIs_n, wIs_b, wIsNot_n, wIsNot_b, wIx_l, wIx_t, wLen_l, wLen_t, wAbs_i, wInt_i, wInt_b, wMax2_i, wMin2_i, wTuple_l, wTuple_t, wB_b, wI_i, seqOf_l, seqOf_t, wIAdd_i, wIAdd_t, wIMul_i, wSl_l, wSl_t, wIn_l, wIn_t, wNotIn_l, wNotIn_t, items_l, items_t, lv_i, lv_b, lv_n, eqv_ii, eqv_bb, isNon_n, isNon_i, isNon_b, isNon_s, isNon_t, isNon_l, Bool.not_true, Bool.not_false, b2n_t, b2n_f, pl_i, pl_b, pl_n, decide_eq_true_eq, List.length_map]
  split
  · exact q 0 (by decide)
  · rename_i hne
    have hpos : (0 : Int) < ns.length := by omega
    refine ⟨hpos, ?_⟩
    obtain ⟨z, _, hz⟩ := atI_ints (Int.emod_nonneg at_ (show ((ns.length : Nat) : Int) ≠ 0 by omega)) (Int.emod_lt_of_pos at_ hpos)
    refine ⟨_, hz, ?_⟩
    simp only [sSeq, sSkip, sAsg, sAsgP, sNew, sNewP, sRet, sRetO, sIf, sApp, sAppP, sSet, sAug, sTgt, sTgtP, sPar, sFz, frz, sFor, sForR, sRev, sBrk, sCnt, sDrop, eOp, eUn, eCall, eVar, eC, eFr, eTup, eTupR, eAnd, eOr, eNot, eIf, eChain, eIndex, eSl, nLst, nList, nListR, nLc, nLc2, nCall, nSorted, nRep, tOf, tAndJ, tOrJ, tNotJ, tTrue, iSeq, iR1, iR2, iR3, rg1, rg2, evA, pNo, pSo, startE, hide, rd, hide_v, hide_o, hide_n, rd_v, rd_o, rd_n, bind_one, bind_many, setAll, List.map, List.replicate, List.length, List.cons_append, List.nil_append, List.getElem?_cons_zero, List.getElem?_cons_succ, List.set_cons_zero, List.set_cons_succ, Option.bind_some, ex_some, Option.some.injEq, Slot.own.injEq, Slot.val.injEq, exists_eq_left', true_and, and_true, Bool.false_eq_true, if_false, if_true, reduceIte, wEq, wNe, wAdd_i, wAdd_t, wAdd_l, wAdd_s, wSub_i, wMul_i, wDiv_i, wMod_i, wPow_i, wNeg_i, wLt_i, wLe_i, wGt_i, wGe_i, wIs_n, wIs_b, wIsNot_n, wIsNot_b, wIx_l, wIx_t, wLen_l, wLen_t, wAbs_i, wInt_i, wInt_b, wMax2_i, wMin2_i, wTuple_l, wTuple_t, wB_b, wI_i, seqOf_l, seqOf_t, wIAdd_i, wIAdd_t, wIMul_i, wSl_l, wSl_t, wIn_l, wIn_t, wNotIn_l, wNotIn_t, items_l, items_t, lv_i, lv_b, lv_n, eqv_ii, eqv_bb, isNon_n, isNon_i, isNon_b, isNon_s, isNon_t, isNon_l, Bool.not_true, Bool.not_false, b2n_t, b2n_f, pl_i, pl_b, pl_n, decide_eq_true_eq]
    exact cell_end q
def S_cell2 : WL := fun ds Q => ∃ (ns : List Int), ds = [.list (ns.map PyData.int), .dict []] ∧ ns.length ≤ 63 ∧ ∀ r : Int, r.natAbs < 10 ^ 60 → Q (.int r)
def m_cell2 : SX := (sSeq (sIf (tOf (eOp wEq (eCall wLen [(eVar 0)]) (eC (.int 0)))) (sRet (eC (.int 0))) sSkip)
      (sSeq (sAsg 2 (eCall wInt [(eOp wIx (eVar 0) (eCall S_take [(eVar 1), (eCall wLen [(eVar 0)])]))]))
      (sRet (eOp wMul (eOp wMod (eCall wAbs [(eVar 2)]) (eOp wPow (eC (.int 10)) (eC (.int 60)))) (eOp wIx (eFr (nLst [(eC (.int 1)), (eUn wNeg (eC (.int 1)))])) (eCall wInt [(eOp wLt (eVar 2) (eC (.int 0)))]))))))
theorem wp_cell2 (ds : List D) (QD : D → Prop) (h : S_cell2 ds QD) : m_cell2 (startE 3 ds) ⟨fun _ => QD .none, QD, noB, noB, fun es => QD (.list es)⟩ := by
  obtain ⟨ns, rfl, hl, q⟩ := h
  unfold m_cell2
  simp only [sSeq, sSkip, sAsg, sAsgP, sNew, sNewP, sRet, sRetO, sIf, sApp, sAppP, sSet, sAug, sTgt, sTgtP, sPar, sFz, frz, sFor, sForR, sRev, sBrk, sCnt, sDrop, eOp, eUn, eCall, eVar, eC, eFr, eTup, eTupR, eAnd, eOr, eNot, eIf, eChain, eIndex, eSl, nLst, nList, nListR, nLc, nLc2, nCall, nSorted, nRep, tOf, tAndJ, tOrJ, tNotJ, tTrue, iSeq, iR1, iR2, iR3, rg1, rg2, evA, pNo, pSo, startE, hide, rd, hide_v, hide_o, hide_n, rd_v, rd_o, rd_n, bind_one, bind_many, setAll, List.map, List.replicate, List.length, List.cons_append, List.nil_append, List.getElem?_cons_zero, List.getElem?_cons_succ, List.set_cons_zero, List.set_cons_succ, Option.bind_some, ex_some, Option.some.injEq, Slot.own.injEq, Slot.val.injEq, exists_eq_left', true_and, and_true, Bool.false_eq_true, if_false, if_true, reduceIte, wEq, wNe, wAdd_i, wAdd_t, wAdd_l, wAdd_s, wSub_i, wMul_i, wDiv_i, wMod_i, wPow_i, wNeg_i, wLt_i, wLe_i, wGt_i, wGe_i, wIs_n, wIs_b, wIsNot_n, wIsNot_b, wIx_l, wIx_t, wLen_l, wLen_t, wAbs_i, wInt_i, wInt_b, wMax2_i, wMin2_i, wTuple_l, wTuple_t, wB_b, wI_i, seqOf_l, seqOf_t, wIAdd_i, wIAdd_t, wIMul_i, wSl_l, wSl_t, wIn_l, wIn_t, wNotIn_l, wNotIn_t, items_l, items_t, lv_i, lv_b, lv_n, eqv_ii, eqv_bb, isNon_n, isNon_i, isNon_b, isNon_s, isNon_t, isNon_l, Bool.not_true, Bool.not_false, b2n_t, b2n_f, pl_i, pl_b, pl_n, decide_eq_true_eq, List.length_map]
  split
  · exact q 0 (by decide)
  · rename_i hne
    have hpos : (0 : Int) < ns.length := by omega
    refine ⟨_, rfl, hpos, fun r h0 h1 => ?_⟩
    obtain ⟨z, _, hz⟩ := atI_ints h0 h1
    simp only [sSeq, sSkip, sAsg, sAsgP, sNew, sNewP, sRet, sRetO, sIf, sApp, sAppP, sSet, sAug, sTgt, sTgtP, sPar, sFz, frz, sFor, sForR, sRev, sBrk, sCnt, sDrop, eOp, eUn, eCall, eVar, eC, eFr, eTup, eTupR, eAnd, eOr, eNot, eIf, eChain, eIndex, eSl, nLst, nList, nListR, nLc, nLc2, nCall, nSorted, nRep, tOf, tAndJ, tOrJ, tNotJ, tTrue, iSeq, iR1, iR2, iR3, rg1, rg2, evA, pNo, pSo, startE, hide, rd, hide_v, hide_o, hide_n, rd_v, rd_o, rd_n, bind_one, bind_many, setAll, List.map, List.replicate, List.length, List.cons_append, List.nil_append, List.getElem?_cons_zero, List.getElem?_cons_succ, List.set_cons_zero, List.set_cons_succ, Option.bind_some, ex_some, Option.some.injEq, Slot.own.injEq, Slot.val.injEq, exists_eq_left', true_and, and_true, Bool.false_eq_true, if_false, if_true, reduceIte, wEq, wNe, wAdd_i, wAdd_t, wAdd_l, wAdd_s, wSub_i, wMul_i, wDiv_i, wMod_i, wPow_i, wNeg_i, wLt_i, wLe_i, wGt_i, wGe_i, wIs_n, wIs_b, wIsNot_n, wIsNot_b, wIx_l, wIx_t, wLen_l, wLen_t, wAbs_i, wInt_i, wInt_b, wMax2_i, wMin2_i, wTuple_l, wTuple_t, wB_b, wI_i, seqOf_l, seqOf_t, wIAdd_i, wIAdd_t, wIMul_i, wSl_l, wSl_t, wIn_l, wIn_t, wNotIn_l, wNotIn_t, items_l, items_t, lv_i, lv_b, lv_n, eqv_ii, eqv_bb, isNon_n, isNon_i, isNon_b, isNon_s, isNon_t, isNon_l, Bool.not_true, Bool.not_false, b2n_t, b2n_f, pl_i, pl_b, pl_n, decide_eq_true_eq]
    refine ⟨_, hz, ?_⟩
    simp only [sSeq, sSkip, sAsg, sAsgP, sNew, sNewP, sRet, sRetO, sIf, sApp, sAppP, sSet, sAug, sTgt, sTgtP, sPar, sFz, frz, sFor, sForR, sRev, sBrk, sCnt, sDrop, eOp, eUn, eCall, eVar, eC, eFr, eTup, eTupR, eAnd, eOr, eNot, eIf, eChain, eIndex, eSl, nLst, nList, nListR, nLc, nLc2, nCall, nSorted, nRep, tOf, tAndJ, tOrJ, tNotJ, tTrue, iSeq, iR1, iR2, iR3, rg1, rg2, evA, pNo, pSo, startE, hide, rd, hide_v, hide_o, hide_n, rd_v, rd_o, rd_n, bind_one, bind_many, setAll, List.map, List.replicate, List.length, List.cons_append, List.nil_append, List.getElem?_cons_zero, List.getElem?_cons_succ, List.set_cons_zero, List.set_cons_succ, Option.bind_some, ex_some, Option.some.injEq, Slot.own.injEq, Slot.val.injEq, exists_eq_left', true_and, and_true, Bool.false_eq_true, if_false, if_true, reduceIte, wEq, wNe, wAdd_i, wAdd_t, wAdd_l, wAdd_s, wSub_i, wMul_i, wDiv_i, wMod_i, wPow_i, wNeg_i, wLt_i, wLe_i, wGt_i, wGe_i, wIs_n, wIs_b, wIsNot_n, wIsNot_b, wIx_l, wIx_t, wLen_l, wLen_t, wAbs_i, wInt_i, wInt_b, wMax2_i, wMin2_i, wTuple_l, wTuple_t, wB_b, wI_i, seqOf_l, seqOf_t, wIAdd_i, wIAdd_t, wIMul_i, wSl_l, wSl_t, wIn_l, wIn_t, wNotIn_l, wNotIn_t, items_l, items_t, lv_i, lv_b, lv_n, eqv_ii, eqv_bb, isNon_n, isNon_i, isNon_b, isNon_s, isNon_t, isNon_l, Bool.not_true, Bool.not_false, b2n_t, b2n_f, pl_i, pl_b, pl_n, decide_eq_true_eq]
    exact cell_end q
end J

/-! J11: loops over data; _law_draws, _law_same. -/
namespace J
open PySem PySem.Spec PyProof.Rows L2

theorem mapW_of {f : D → (Option D → Prop) → Prop} (g : D → Option D) : ∀ {ds : List D} {Q : List D → Prop}, (∀ d ∈ ds, ∀ R : Option D → Prop, R (g d) → f d R) → Q (ds.filterMap g) → mapW f ds Q
  | [], _, _, q => q
  | d :: ds, Q, h, q => h d List.mem_cons_self _ (mapW_of g (fun x hx => h x (List.mem_cons_of_mem _ hx)) (by
      cases e : g d with
      | none => rw [List.filterMap_cons_none e] at q; exact q
      | some y => rw [List.filterMap_cons_some e] at q; exact q))
theorem mapW_map {f : D → (Option D → Prop) → Prop} (g : D → D) : ∀ {ds : List D} {Q : List D → Prop}, (∀ d ∈ ds, ∀ R : Option D → Prop, R (some (g d)) → f d R) → Q (ds.map g) → mapW f ds Q
  | [], _, _, q => q
  | d :: ds, Q, h, q => h d List.mem_cons_self _ (mapW_map g (fun x hx => h x (List.mem_cons_of_mem _ hx)) q)
/-- every item makes some r with P -/
theorem mapW_all {f : D → (Option D → Prop) → Prop} (P : D → D → Prop) : ∀ {ds : List D} {Q : List D → Prop}, (∀ d ∈ ds, ∀ R : Option D → Prop, (∀ r, P d r → R (some r)) → f d R) → (∀ rs : List D, rs.length = ds.length → (∀ (i : Nat) (d r : D), ds[i]? = some d → rs[i]? = some r → P d r) → Q rs) → mapW f ds Q
  | [], _, _, q => q [] rfl (fun i d r h => by simp at h)
  | d :: ds, Q, h, q => h d List.mem_cons_self _ fun r hr => mapW_all P (fun x hx => h x (List.mem_cons_of_mem _ hx)) fun rs hl hrs => q (r :: rs) (by simp [hl]) fun i d' r' h1 h2 => by
      cases i with
      | zero => simp at h1 h2; subst h1 h2; exact hr
      | succ i => exact hrs i d' r' (by simpa using h1) (by simpa using h2)
theorem forW_inv {t : Tg} {s : SX} {ds : List D} {e : En} {P : Po} (I : Nat → En → Prop) (h0 : I 0 e)
    (hs : ∀ i d e, ds[i]? = some d → I i e → ∀ R : En → Prop, (∀ e2, I (i + 1) e2 → R e2) → ∃ e', t.bind d e = some e' ∧ s e' ⟨R, P.rt, P.nx, R, P.rn⟩) (he : ∀ e, I ds.length e → P.nx e) : forW t s ds e P := by
  have go : ∀ (l : List D) (i : Nat) (e : En), ds.drop i = l → i ≤ ds.length → I i e → forW t s l e P := by
    intro l
    induction l with
    | nil =>
      intro i e hd hi hI
      have : i = ds.length := by
        have := congrArg List.length hd
        simp at this
        omega
      subst this
      exact he e hI
    | cons d l ih =>
      intro i e hd hi hI
      have hi' : i < ds.length := by
        have := congrArg List.length hd
        simp at this
        omega
      rw [List.drop_eq_getElem_cons hi'] at hd
      obtain ⟨h1, h2⟩ := List.cons_eq_cons.mp hd
      exact hs i d e (by rw [List.getElem?_eq_getElem hi', h1]) hI _ fun e2 hI2 => ih (i + 1) e2 h2 hi' hI2
  exact go ds 0 e rfl (Nat.zero_le _) h0

theorem while_up {mt : TX} {s : SX} {e : En} {P : Po} (B : Nat) (I : Nat → En → Prop) (h0 : I 0 e)
    (hs : ∀ j e, j ≤ B → I j e → ∀ R : En → Prop, (∀ e2, j < B → I (j + 1) e2 → R e2) → mt e fun b => if b = true then s e ⟨R, P.rt, P.nx, R, P.rn⟩ else P.nx e) : sWhile mt s e P :=
  ⟨fun n e => ∃ j, j ≤ B ∧ n = B - j ∧ I j e, ⟨B, 0, Nat.zero_le _, rfl, h0⟩, fun n e' ⟨j, hj, hn, hI⟩ => by
    subst hn
    exact hs j e' hj hI (fun e2 => ∃ n', n' < B - j ∧ ∃ j, j ≤ B ∧ n' = B - j ∧ I j e2) fun e2 hlt hI2 => ⟨B - (j + 1), by omega, j + 1, hlt, rfl, hI2⟩⟩
/-- range(0, b, c) -/
theorem rgC_pos {b c : Int} {n : Nat} (hb : b < 2 ^ 40) (hb0 : -(2 ^ 40) < b) (hc : 0 < c) (hc2 : c < 1073741824) (h : (n : Int) = if 0 < b then (b - 1) / c + 1 else 0) : RgC 0 b c n := by
  have e : Builtin.Range.rangeSize 0 b c = n := by
    unfold Builtin.Range.rangeSize
    rw [if_pos hc, h, Int.sub_zero]
  refine ⟨by omega, by omega, ?_, e⟩
  have hn : (n : Int) < 2 ^ 41 := by
    rw [h]
    split
    · have := Int.ediv_le_self c (show (0 : Int) ≤ b - 1 by omega)
      omega
    · omega
  unfold Builtin.Range.small
  rw [e]
  simp only [Builtin.Range.rangeFitsLong, Bool.and_eq_true, Bool.or_eq_true, decide_eq_true_eq, beq_iff_eq, if_pos hc]
  omega
theorem rgC_get {lo c : Int} {n i : Nat} {d : D} (h : (rgC lo c n)[i]? = some d) : d = .int (lo + i * c) ∧ i < n := by
  unfold rgC at h
  rw [List.getElem?_map] at h
  cases q : (List.range n)[i]? with
  | none => rw [q] at h; cases h
  | some j =>
    rw [q] at h
    cases h
    obtain ⟨h1, h2⟩ := List.getElem?_eq_some_iff.mp q
    rw [List.getElem_range] at h2
    subst h2
    rw [List.length_range] at h1
    exact ⟨rfl, h1⟩

theorem atI_at {α : Type} {zs : List α} {k : Int} {i : Nat} {d : α} (hk : k = i) (h : zs[i]? = some d) : atI zs k = some d := by
  have := (List.getElem?_eq_some_iff.mp h).1
  rw [atI_nat (by omega) (by omega), hk]
  exact h
/-- over what stands for a list of anything -/
theorem mapW_enc {α : Type} {f : D → (Option D → Prop) → Prop} (enc : α → D) (g : α → Option D) : ∀ {l : List α} {Q : List D → Prop}, (∀ a ∈ l, ∀ R : Option D → Prop, R (g a) → f (enc a) R) → Q (l.filterMap g) → mapW f (l.map enc) Q
  | [], _, _, q => q
  | a :: l, Q, h, q => h a List.mem_cons_self _ (mapW_enc enc g (fun x hx => h x (List.mem_cons_of_mem _ hx)) (by
      cases e : g a with
      | none => rw [List.filterMap_cons_none e] at q; exact q
      | some y => rw [List.filterMap_cons_some e] at q; exact q))
theorem mapW_encM {α : Type} {f : D → (Option D → Prop) → Prop} (enc : α → D) (g : α → D) {l : List α} {Q : List D → Prop} (h : ∀ a ∈ l, ∀ R : Option D → Prop, R (some (g a)) → f (enc a) R) (q : Q (l.map g)) : mapW f (l.map enc) Q :=
  mapW_enc enc (fun a => some (g a)) h (by rw [← List.filterMap_eq_map'] at q; exact q)
/-- on ints -/
def onI (g : Int → D) : D → D
  | .int i => g i
  | _ => .none
theorem onI_i {g : Int → D} {i : Int} : onI g (.int i) = g i := rfl
theorem map_onI {g : Int → D} (ns : List Int) : (ns.map PyData.int).map (onI g) = ns.map g := by
  rw [List.map_map]
  rfl
/-- over a list of ints -/
theorem mapW_ints {f : D → (Option D → Prop) → Prop} (g : Int → D) {ns : List Int} {Q : List D → Prop} (h : ∀ n ∈ ns, ∀ R : Option D → Prop, R (some (g n)) → f (.int n) R) (q : Q (ns.map g)) : mapW f (ns.map PyData.int) Q :=
  mapW_map (onI g) (fun d hd R hR => by
    obtain ⟨n, hn, rfl⟩ := List.mem_map.mp hd
    exact h n hn R hR) (by rw [map_onI]; exact q)
/-! ### _law_draws -/
def SN_draws : WN := fun ds Q => ∃ (ns : List Int) (many : Int), ds = [.list (ns.map PyData.int), .int many] ∧ ns.length ≤ 63 ∧ 0 ≤ many ∧ many ≤ 100000 ∧ ∀ ls : List Int, (∀ n ∈ ls, 0 ≤ n) → Q (ls.map PyData.int)
def S_draws : WL := fun ds Q => ∃ (ns : List Int) (many : Int), ds = [.list (ns.map PyData.int), .int many] ∧ ns.length ≤ 63 ∧ 0 ≤ many ∧ many ≤ 100000 ∧ Q (.dict [])
theorem draws_pile : ∀ ds Q, S_draws ds Q → SN_draws ds fun es => (∃ ns : List Int, es = ns.map PyData.int ∧ ∀ n ∈ ns, 0 ≤ n) ∧ Q (.dict []) := fun ds Q ⟨ns, many, h1, h2, h3, h4, q⟩ => ⟨ns, many, h1, h2, h3, h4, fun ls hl => ⟨⟨ls, rfl, hl⟩, q⟩⟩
def m_drawsB : SX := (sSeq (sAsgP 6 (eOp wMod (eVar 5) (eCall wLen [(eVar 2)])))
      (sIf (tAndJ (tOf (eOp wGe (eOp wIx (eVar 2) (eVar 6)) (eOp wPow (eC (.int 10)) (eC (.int 18))))) (tOf (eOp wGt (eOp wIx (eVar 3) (eVar 6)) (eC (.int 0))))) (sSeq (sAppP 4 (eOp wMod (eCall wInt [(eOp wIx (eVar 3) (eVar 6))]) (eC (.int 1000))))
      (sSet 3 (eOp wDiv (eOp wIx (eVar 3) (eVar 6)) (eC (.int 1000))) (eVar 6))) (sSeq (sAsgP 8 (eOp wMod (eCall wInt [(eOp wAdd (eOp wAdd (eOp wMul (eOp wIx (eVar 2) (eVar 6)) (eC (.int 48271))) (eOp wMul (eVar 5) (eC (.int 69621)))) (eC (.int 11)))]) (eC (.int 2147483647))))
      (sApp 4 (eOp wMod (eCall wInt [(eOp wAdd (eOp wAdd (eOp wMul (eVar 8) (eVar 8)) (eOp wMul (eC (.int 3)) (eVar 8))) (eVar 5))]) (eC (.int 1000003)))))))
def m_drawsT : SX := (sSeq (sNewP 3 (nList (eVar 2)))
      (sSeq (sNew 4 (nLst []))
      (sSeq (sForR (iR1 (eVar 1)) (.one 5) m_drawsB)
      (sSeq (sRev 4)
      (sRetO 4)))))
def m_draws : SX := (sSeq (sNew 2 (nLc (iSeq (eVar 0)) (.one 7) [7] tTrue (eCall wInt [(eVar 7)])))
      (sSeq (sIf (tOf (eOp wEq (eCall wLen [(eVar 2)]) (eC (.int 0)))) (sApp 2 (eC (.int 0))) sSkip)
      m_drawsT))
theorem rgD_get {lo hi : Int} {i : Nat} {d : D} (h : (rgD lo hi)[i]? = some d) : d = .int (lo + i) ∧ lo + i < hi := by
  unfold rgD rgI at h
  rw [List.map_map, List.getElem?_map] at h
  cases q : (List.range (hi - lo).toNat)[i]? with
  | none => rw [q] at h; cases h
  | some j =>
    rw [q] at h
    cases h
    have := (List.getElem?_eq_some_iff.mp q)
    obtain ⟨h1, h2⟩ := this
    rw [List.getElem_range] at h2
    subst h2
    rw [List.length_range] at h1
    exact ⟨rfl, by omega⟩
theorem pl_ints (ns : List Int) : (ns.map PyData.int).all (pl lvl) = true := by
  rw [List.all_map]
  exact List.all_eq_true.mpr fun _ _ => rfl
theorem lv_ints (ns : List Int) : (ns.map PyData.int).all (lv lvl) = true := by
  rw [List.all_map]
  exact List.all_eq_true.mpr fun _ _ => rfl
theorem ixN_some {n : Nat} {k : Int} (h0 : 0 ≤ k) (h1 : k < n) : ixN n k = some k.toNat := by
  unfold ixN
  rw [if_pos h0, if_pos h1]
theorem wp_drawsT (ns cs : List Int) (many : Int) (QD : List D → Prop) (h0 : 0 ≤ many) (h1 : many ≤ 100000) (hc : 0 < cs.length) (hc63 : cs.length ≤ 63) (q : ∀ ls : List Int, (∀ n ∈ ls, 0 ≤ n) → QD (ls.map PyData.int)) :
    m_drawsT [.val (.list (ns.map PyData.int)), .val (.int many), .own (cs.map PyData.int), .no, .no, .no, .no, .no, .no] ⟨noB, fun _ => False, noB, noB, QD⟩ := by
  have hs : sizeLine = 16777216 := sizeLine_eq
  unfold m_drawsT
  simp only [sSeq, sSkip, sAsg, sAsgP, sNew, sNewP, sRet, sRetO, sIf, sApp, sAppP, sSet, sAug, sTgt, sTgtP, sPar, sFz, frz, sFor, sForR, sRev, sBrk, sCnt, sDrop, eOp, eUn, eCall, eVar, eC, eFr, eTup, eTupR, eAnd, eOr, eNot, eIf, eChain, eIndex, eSl, nLst, nList, nListR, nLc, nLc2, nCall, nSorted, nRep, tOf, tAndJ, tOrJ, tNotJ, tTrue, iSeq, iR1, iR2, iR3, rg1, rg2, evA, pNo, pSo, startE, hide, rd, hide_v, hide_o, hide_n, rd_v, rd_o, rd_n, bind_one, bind_many, setAll, List.map, List.replicate, List.length, List.cons_append, List.nil_append, List.getElem?_cons_zero, List.getElem?_cons_succ, List.set_cons_zero, List.set_cons_succ, Option.bind_some, ex_some, Option.some.injEq, Slot.own.injEq, Slot.val.injEq, exists_eq_left', true_and, and_true, Bool.false_eq_true, if_false, if_true, reduceIte, wEq, wNe, wAdd_i, wAdd_t, wAdd_l, wAdd_s, wSub_i, wMul_i, wDiv_i, wMod_i, wPow_i, wNeg_i, wLt_i, wLe_i, wGt_i, wGe_i, wIs_n, wIs_b, wIsNot_n, wIsNot_b, wIx_l, wIx_t, wLen_l, wLen_t, wAbs_i, wInt_i, wInt_b, wMax2_i, wMin2_i, wTuple_l, wTuple_t, wB_b, wI_i, seqOf_l, seqOf_t, wIAdd_i, wIAdd_t, wIMul_i, wSl_l, wSl_t, wIn_l, wIn_t, wNotIn_l, wNotIn_t, items_l, items_t, lv_i, lv_b, lv_n, eqv_ii, eqv_bb, isNon_n, isNon_i, isNon_b, isNon_s, isNon_t, isNon_l, Bool.not_true, Bool.not_false, b2n_t, b2n_f, pl_i, pl_b, pl_n, decide_eq_true_eq, pl_ints]
  refine ⟨⟨by decide, by decide, by omega, by omega, by omega⟩, ?_⟩
  refine forW_inv (fun i e => i ≤ many ∧ ∃ (rs dr : List Int) (s5 s6 s8 : Slot), rs.length = cs.length ∧ (∀ n ∈ dr, 0 ≤ n) ∧ dr.length ≤ i ∧ e = [.val (.list (ns.map PyData.int)), .val (.int many), .own (cs.map PyData.int), .own (rs.map PyData.int), .own (dr.map PyData.int), s5, s6, .no, s8])
    ⟨by omega, cs, [], _, _, _, rfl, by simp, by simp, rfl⟩ ?_ ?_
  · rintro i d e hi ⟨him, rs, dr, s5, s6, s8, hrl, hdr, hdl, rfl⟩ R hR
    obtain ⟨rfl, hlt⟩ := rgD_get hi
    refine ⟨_, rfl, ?_⟩
    unfold m_drawsB
    have hcp : (0 : Int) < cs.length := by omega
    have a0 := Int.emod_nonneg (0 + (i : Int)) (show ((cs.length : Nat) : Int) ≠ 0 by omega)
    have a1 := Int.emod_lt_of_pos (0 + (i : Int)) hcp
    obtain ⟨z, _, hz⟩ := atI_ints (ns := cs) a0 a1
    obtain ⟨y, _, hy⟩ := atI_ints (ns := rs) a0 (by rw [hrl]; exact a1)
    have hsz : dr.length < sizeLine := by rw [hs]; omega
    have tl : ∀ v : Int, 0 ≤ v → ∀ n ∈ dr ++ [v], 0 ≤ n := fun v hv n hn => by
      rcases List.mem_append.mp hn with h | h
      · exact hdr n h
      · rw [List.mem_singleton.mp h]; exact hv
    have om : ∀ v : Int, dr.map PyData.int ++ [PyData.int v] = (dr ++ [v]).map PyData.int := fun v => by rw [List.map_append]; rfl
    have ln : ∀ v : Int, (dr ++ [v]).length ≤ i + 1 := fun v => by rw [List.length_append]; simp; omega
    simp only [sSeq, sSkip, sAsg, sAsgP, sNew, sNewP, sRet, sRetO, sIf, sApp, sAppP, sSet, sAug, sTgt, sTgtP, sPar, sFz, frz, sFor, sForR, sRev, sBrk, sCnt, sDrop, eOp, eUn, eCall, eVar, eC, eFr, eTup, eTupR, eAnd, eOr, eNot, eIf, eChain, eIndex, eSl, nLst, nList, nListR, nLc, nLc2, nCall, nSorted, nRep, tOf, tAndJ, tOrJ, tNotJ, tTrue, iSeq, iR1, iR2, iR3, rg1, rg2, evA, pNo, pSo, startE, hide, rd, hide_v, hide_o, hide_n, rd_v, rd_o, rd_n, bind_one, bind_many, setAll, List.map, List.replicate, List.length, List.cons_append, List.nil_append, List.getElem?_cons_zero, List.getElem?_cons_succ, List.set_cons_zero, List.set_cons_succ, Option.bind_some, ex_some, Option.some.injEq, Slot.own.injEq, Slot.val.injEq, exists_eq_left', true_and, and_true, Bool.false_eq_true, if_false, if_true, reduceIte, wEq, wNe, wAdd_i, wAdd_t, wAdd_l, wAdd_s, wSub_i, wMul_i, wDiv_i, wMod_i, wPow_i, wNeg_i, wLt_i, wLe_i, wGt_i, wGe_i, wIs_n, wIs_b, wIsNot_n, wIsNot_b, wIx_l, wIx_t, wLen_l, wLen_t, wAbs_i, wInt_i, wInt_b, wMax2_i, wMin2_i, wTuple_l, wTuple_t, wB_b, wI_i, seqOf_l, seqOf_t, wIAdd_i, wIAdd_t, wIMul_i, wSl_l, wSl_t, wIn_l, wIn_t, wNotIn_l, wNotIn_t, items_l, items_t, lv_i, lv_b, lv_n, eqv_ii, eqv_bb, isNon_n, isNon_i, isNon_b, isNon_s, isNon_t, isNon_l, Bool.not_true, Bool.not_false, b2n_t, b2n_f, pl_i, pl_b, pl_n, decide_eq_true_eq, List.length_map, hz, hy, hsz, hrl, ixN_some a0 a1]
    have other : ∀ v w : Int, 0 ≤ v → R [.val (.list (ns.map PyData.int)), .val (.int many), .own (cs.map PyData.int), .own (rs.map PyData.int), .own (dr.map PyData.int ++ [PyData.int v]), .val (.int (0 + (i : Int))), .val (.int ((0 + (i : Int)) % (cs.length : Int))), .no, .val (.int w)] := fun v w hv =>
      hR _ ⟨by omega, rs, dr ++ [v], _, _, _, hrl, tl v hv, ln v, by rw [om]⟩
    refine ⟨hcp, ⟨by decide, by decide, by decide⟩, ?_⟩
    split
    · split
      · refine ⟨by decide, div_s (by decide), ?_⟩
        rw [om, show (rs.map PyData.int).set ((0 + (i : Int)) % (cs.length : Int)).toNat (.int (y / 1000)) = (rs.set ((0 + (i : Int)) % (cs.length : Int)).toNat (y / 1000)).map PyData.int by rw [List.map_set]]
        exact hR _ ⟨by omega, _, _, _, _, _, by rw [List.length_set]; exact hrl, tl _ (Int.emod_nonneg _ (by decide)), ln _, rfl⟩
      · refine ⟨mul_r (by decide), mul_r (by decide), by decide, .inl (.inl ?_), mul_l (by decide), by decide, ?_⟩
        · have b0 := Int.emod_nonneg (z * 48271 + (0 + (i : Int)) * 69621 + 11) (show (2147483647 : Int) ≠ 0 by decide)
          have b1 := Int.emod_lt_of_pos (z * 48271 + (0 + (i : Int)) * 69621 + 11) (show (0 : Int) < 2147483647 by decide)
          omega
        · exact other _ _ (Int.emod_nonneg _ (by decide))
    · refine ⟨mul_r (by decide), mul_r (by decide), by decide, .inl (.inl ?_), mul_l (by decide), by decide, ?_⟩
      · have b0 := Int.emod_nonneg (z * 48271 + (0 + (i : Int)) * 69621 + 11) (show (2147483647 : Int) ≠ 0 by decide)
        have b1 := Int.emod_lt_of_pos (z * 48271 + (0 + (i : Int)) * 69621 + 11) (show (0 : Int) < 2147483647 by decide)
        omega
      · exact other _ _ (Int.emod_nonneg _ (by decide))
  · rintro e ⟨_, rs, dr, s5, s6, s8, hrl, hdr, hdl, rfl⟩
    simp only [sSeq, sSkip, sAsg, sAsgP, sNew, sNewP, sRet, sRetO, sIf, sApp, sAppP, sSet, sAug, sTgt, sTgtP, sPar, sFz, frz, sFor, sForR, sRev, sBrk, sCnt, sDrop, eOp, eUn, eCall, eVar, eC, eFr, eTup, eTupR, eAnd, eOr, eNot, eIf, eChain, eIndex, eSl, nLst, nList, nListR, nLc, nLc2, nCall, nSorted, nRep, tOf, tAndJ, tOrJ, tNotJ, tTrue, iSeq, iR1, iR2, iR3, rg1, rg2, evA, pNo, pSo, startE, hide, rd, hide_v, hide_o, hide_n, rd_v, rd_o, rd_n, bind_one, bind_many, setAll, List.map, List.replicate, List.length, List.cons_append, List.nil_append, List.getElem?_cons_zero, List.getElem?_cons_succ, List.set_cons_zero, List.set_cons_succ, Option.bind_some, ex_some, Option.some.injEq, Slot.own.injEq, Slot.val.injEq, exists_eq_left', true_and, and_true, Bool.false_eq_true, if_false, if_true, reduceIte, wEq, wNe, wAdd_i, wAdd_t, wAdd_l, wAdd_s, wSub_i, wMul_i, wDiv_i, wMod_i, wPow_i, wNeg_i, wLt_i, wLe_i, wGt_i, wGe_i, wIs_n, wIs_b, wIsNot_n, wIsNot_b, wIx_l, wIx_t, wLen_l, wLen_t, wAbs_i, wInt_i, wInt_b, wMax2_i, wMin2_i, wTuple_l, wTuple_t, wB_b, wI_i, seqOf_l, seqOf_t, wIAdd_i, wIAdd_t, wIMul_i, wSl_l, wSl_t, wIn_l, wIn_t, wNotIn_l, wNotIn_t, items_l, items_t, lv_i, lv_b, lv_n, eqv_ii, eqv_bb, isNon_n, isNon_i, isNon_b, isNon_s, isNon_t, isNon_l, Bool.not_true, Bool.not_false, b2n_t, b2n_f, pl_i, pl_b, pl_n, decide_eq_true_eq]
    rw [← List.map_reverse]
    exact q _ fun n hn => hdr n (List.mem_reverse.mp hn)
theorem wp_draws (ds : List D) (QD : List D → Prop) (h : SN_draws ds QD) : m_draws (startE 9 ds) ⟨noB, fun _ => False, noB, noB, QD⟩ := by
  obtain ⟨ns, many, rfl, hl, h0, h1, q⟩ := h
  have hs : sizeLine = 16777216 := sizeLine_eq
  unfold m_draws
  simp only [sSeq, sSkip, sAsg, sAsgP, sNew, sNewP, sRet, sRetO, sIf, sApp, sAppP, sSet, sAug, sTgt, sTgtP, sPar, sFz, frz, sFor, sForR, sRev, sBrk, sCnt, sDrop, eOp, eUn, eCall, eVar, eC, eFr, eTup, eTupR, eAnd, eOr, eNot, eIf, eChain, eIndex, eSl, nLst, nList, nListR, nLc, nLc2, nCall, nSorted, nRep, tOf, tAndJ, tOrJ, tNotJ, tTrue, iSeq, iR1, iR2, iR3, rg1, rg2, evA, pNo, pSo, startE, hide, rd, hide_v, hide_o, hide_n, rd_v, rd_o, rd_n, bind_one, bind_many, setAll, List.map, List.replicate, List.length, List.cons_append, List.nil_append, List.getElem?_cons_zero, List.getElem?_cons_succ, List.set_cons_zero, List.set_cons_succ, Option.bind_some, ex_some, Option.some.injEq, Slot.own.injEq, Slot.val.injEq, exists_eq_left', true_and, and_true, Bool.false_eq_true, if_false, if_true, reduceIte, wEq, wNe, wAdd_i, wAdd_t, wAdd_l, wAdd_s, wSub_i, wMul_i, wDiv_i, wMod_i, wPow_i, wNeg_i, wLt_i, wLe_i, wGt_i, wGe_i, wIs_n, wIs_b, wIsNot_n, wIsNot_b, wIx_l, wIx_t, wLen_l, wLen_t, wAbs_i, wInt_i, wInt_b, wMax2_i, wMin2_i, wTuple_l, wTuple_t, wB_b, wI_i, seqOf_l, seqOf_t, wIAdd_i, wIAdd_t, wIMul_i, wSl_l, wSl_t, wIn_l, wIn_t, wNotIn_l, wNotIn_t, items_l, items_t, lv_i, lv_b, lv_n, eqv_ii, eqv_bb, isNon_n, isNon_i, isNon_b, isNon_s, isNon_t, isNon_l, Bool.not_true, Bool.not_false, b2n_t, b2n_f, pl_i, pl_b, pl_n, decide_eq_true_eq]
  refine mapW_map (fun d => d) (fun d hd R hR => ?_) ?_
  · obtain ⟨n, _, rfl⟩ := List.mem_map.mp hd
    refine ⟨_, rfl, ?_⟩
    simp only [sSeq, sSkip, sAsg, sAsgP, sNew, sNewP, sRet, sRetO, sIf, sApp, sAppP, sSet, sAug, sTgt, sTgtP, sPar, sFz, frz, sFor, sForR, sRev, sBrk, sCnt, sDrop, eOp, eUn, eCall, eVar, eC, eFr, eTup, eTupR, eAnd, eOr, eNot, eIf, eChain, eIndex, eSl, nLst, nList, nListR, nLc, nLc2, nCall, nSorted, nRep, tOf, tAndJ, tOrJ, tNotJ, tTrue, iSeq, iR1, iR2, iR3, rg1, rg2, evA, pNo, pSo, startE, hide, rd, hide_v, hide_o, hide_n, rd_v, rd_o, rd_n, bind_one, bind_many, setAll, List.map, List.replicate, List.length, List.cons_append, List.nil_append, List.getElem?_cons_zero, List.getElem?_cons_succ, List.set_cons_zero, List.set_cons_succ, Option.bind_some, ex_some, Option.some.injEq, Slot.own.injEq, Slot.val.injEq, exists_eq_left', true_and, and_true, Bool.false_eq_true, if_false, if_true, reduceIte, wEq, wNe, wAdd_i, wAdd_t, wAdd_l, wAdd_s, wSub_i, wMul_i, wDiv_i, wMod_i, wPow_i, wNeg_i, wLt_i, wLe_i, wGt_i, wGe_i, wIs_n, wIs_b, wIsNot_n, wIsNot_b, wIx_l, wIx_t, wLen_l, wLen_t, wAbs_i, wInt_i, wInt_b, wMax2_i, wMin2_i, wTuple_l, wTuple_t, wB_b, wI_i, seqOf_l, seqOf_t, wIAdd_i, wIAdd_t, wIMul_i, wSl_l, wSl_t, wIn_l, wIn_t, wNotIn_l, wNotIn_t, items_l, items_t, lv_i, lv_b, lv_n, eqv_ii, eqv_bb, isNon_n, isNon_i, isNon_b, isNon_s, isNon_t, isNon_l, Bool.not_true, Bool.not_false, b2n_t, b2n_f, pl_i, pl_b, pl_n, decide_eq_true_eq, wipeE]
    exact hR
  · rw [List.map_id']
    simp only [sSeq, sSkip, sAsg, sAsgP, sNew, sNewP, sRet, sRetO, sIf, sApp, sAppP, sSet, sAug, sTgt, sTgtP, sPar, sFz, frz, sFor, sForR, sRev, sBrk, sCnt, sDrop, eOp, eUn, eCall, eVar, eC, eFr, eTup, eTupR, eAnd, eOr, eNot, eIf, eChain, eIndex, eSl, nLst, nList, nListR, nLc, nLc2, nCall, nSorted, nRep, tOf, tAndJ, tOrJ, tNotJ, tTrue, iSeq, iR1, iR2, iR3, rg1, rg2, evA, pNo, pSo, startE, hide, rd, hide_v, hide_o, hide_n, rd_v, rd_o, rd_n, bind_one, bind_many, setAll, List.map, List.replicate, List.length, List.cons_append, List.nil_append, List.getElem?_cons_zero, List.getElem?_cons_succ, List.set_cons_zero, List.set_cons_succ, Option.bind_some, ex_some, Option.some.injEq, Slot.own.injEq, Slot.val.injEq, exists_eq_left', true_and, and_true, Bool.false_eq_true, if_false, if_true, reduceIte, wEq, wNe, wAdd_i, wAdd_t, wAdd_l, wAdd_s, wSub_i, wMul_i, wDiv_i, wMod_i, wPow_i, wNeg_i, wLt_i, wLe_i, wGt_i, wGe_i, wIs_n, wIs_b, wIsNot_n, wIsNot_b, wIx_l, wIx_t, wLen_l, wLen_t, wAbs_i, wInt_i, wInt_b, wMax2_i, wMin2_i, wTuple_l, wTuple_t, wB_b, wI_i, seqOf_l, seqOf_t, wIAdd_i, wIAdd_t, wIMul_i, wSl_l, wSl_t, wIn_l, wIn_t, wNotIn_l, wNotIn_t, items_l, items_t, lv_i, lv_b, lv_n, eqv_ii, eqv_bb, isNon_n, isNon_i, isNon_b, isNon_s, isNon_t, isNon_l, Bool.not_true, Bool.not_false, b2n_t, b2n_f, pl_i, pl_b, pl_n, decide_eq_true_eq, List.length_map]
    split
    · refine ⟨by omega, ?_⟩
      have e : ns = [] := List.eq_nil_of_length_eq_zero (by omega)
      subst e
      exact wp_drawsT [] [0] many QD h0 h1 (by simp) (by simp) q
    · exact wp_drawsT ns ns many QD h0 h1 (by omega) hl q

/-! ### _law_same -/
/-- data of tuples, numbers, truths, texts, None; n deep -/
def tp : Nat → D → Bool
  | _, .none => true
  | _, .bool _ => true
  | _, .int _ => true
  | _, .str x => PyData.strOk x
  | n + 1, .tuple ds => ds.length ≤ 16000000 && ds.all (tp n)
  | _, _ => false
def S_same (n : Nat) : WL := fun ds Q => ∃ d, ds = [d, d] ∧ tp n d = true ∧ Q (.bool true)
def m_sameB (S : WL) : SX := (sIf (tNotJ (tOf (eCall S [(eOp wIx (eVar 0) (eVar 2)), (eOp wIx (eVar 1) (eVar 2))]))) (sRet (eC (.bool false))) sSkip)
def m_same (S : WL) : SX := (sSeq (sIf (tOf (eUn (wIsi "bool") (eVar 1))) (sRet (eAnd (eUn (wIsi "bool") (eVar 0)) (eOp wEq (eVar 0) (eVar 1)))) sSkip)
      (sSeq (sIf (tOf (eUn (wIsi "int") (eVar 1))) (sRet (eAnd (eUn (wIsi "int") (eVar 0)) (eAnd (eNot (eUn (wIsi "bool") (eVar 0))) (eOp wEq (eVar 0) (eVar 1))))) sSkip)
      (sSeq (sIf (tOf (eUn (wIsi "str") (eVar 1))) (sRet (eAnd (eUn (wIsi "str") (eVar 0)) (eOp wEq (eVar 0) (eVar 1)))) sSkip)
      (sSeq (sIf (tOf (eOp wIs (eVar 1) (eC .none))) (sRet (eOp wIs (eVar 0) (eC .none))) sSkip)
      (sSeq (sIf (tOrJ (tNotJ (tOf (eUn (wIsi "tuple") (eVar 0)))) (tOf (eOp wNe (eCall wLen [(eVar 0)]) (eCall wLen [(eVar 1)])))) (sRet (eC (.bool false))) sSkip)
      (sSeq (sForR (iR1 (eCall wLen [(eVar 1)])) (.one 2) (m_sameB S))
      (sRet (eC (.bool true)))))))))
theorem eqv_ss {x y : Str} : PyData.eqv (.str x) (.str y) = (x == y) := by rw [PyData.eqv]
theorem lv_s {n : Nat} {x : Str} : lv n (.str x) = PyData.strOk x := by cases n <;> rfl
theorem wp_same (n : Nat) (S : WL) (hS : ∀ m, n = m + 1 → ∀ ds Q, S_same m ds Q → S ds Q) (ds : List D) (QD : D → Prop) (h : S_same n ds QD) : (m_same S) (startE 3 ds) ⟨fun _ => QD .none, QD, noB, noB, fun es => QD (.list es)⟩ := by
  obtain ⟨d, rfl, ht, q⟩ := h
  unfold m_same
  cases d with
  | none =>
    simp only [sSeq, sSkip, sAsg, sAsgP, sNew, sNewP, sRet, sRetO, sIf, sApp, sAppP, sSet, sAug, sTgt, sTgtP, sPar, sFz, frz, sFor, sForR, sRev, sBrk, sCnt, sDrop, eOp, eUn, eCall, eVar, eC, eFr, eTup, eTupR, eAnd, eOr, eNot, eIf, eChain, eIndex, eSl, nLst, nList, nListR, nLc, nLc2, nCall, nSorted, nRep, tOf, tAndJ, tOrJ, tNotJ, tTrue, iSeq, iR1, iR2, iR3, rg1, rg2, evA, pNo, pSo, startE, hide, rd, hide_v, hide_o, hide_n, rd_v, rd_o, rd_n, bind_one, bind_many, setAll, List.map, List.replicate, List.length, List.cons_append, List.nil_append, List.getElem?_cons_zero, List.getElem?_cons_succ, List.set_cons_zero, List.set_cons_succ, Option.bind_some, ex_some, Option.some.injEq, Slot.own.injEq, Slot.val.injEq, exists_eq_left', true_and, and_true, Bool.false_eq_true, if_false, if_true, reduceIte, wEq, wNe, wAdd_i, wAdd_t, wAdd_l, wAdd_s, wSub_i, wMul_i, wDiv_i, wMod_i, wPow_i, wNeg_i, wLt_i, wLe_i, wGt_i, wGe_i, wIs_n, wIs_b, wIsNot_n, wIsNot_b, wIx_l, wIx_t, wLen_l, wLen_t, wAbs_i, wInt_i, wInt_b, wMax2_i, wMin2_i, wTuple_l, wTuple_t, wB_b, wI_i, seqOf_l, seqOf_t, wIAdd_i, wIAdd_t, wIMul_i, wSl_l, wSl_t, wIn_l, wIn_t, wNotIn_l, wNotIn_t, items_l, items_t, lv_i, lv_b, lv_n, eqv_ii, eqv_bb, isNon_n, isNon_i, isNon_b, isNon_s, isNon_t, isNon_l, Bool.not_true, Bool.not_false, b2n_t, b2n_f, pl_i, pl_b, pl_n, decide_eq_true_eq, wIsi, isTy]
    exact q
  | bool b =>
    simp only [sSeq, sSkip, sAsg, sAsgP, sNew, sNewP, sRet, sRetO, sIf, sApp, sAppP, sSet, sAug, sTgt, sTgtP, sPar, sFz, frz, sFor, sForR, sRev, sBrk, sCnt, sDrop, eOp, eUn, eCall, eVar, eC, eFr, eTup, eTupR, eAnd, eOr, eNot, eIf, eChain, eIndex, eSl, nLst, nList, nListR, nLc, nLc2, nCall, nSorted, nRep, tOf, tAndJ, tOrJ, tNotJ, tTrue, iSeq, iR1, iR2, iR3, rg1, rg2, evA, pNo, pSo, startE, hide, rd, hide_v, hide_o, hide_n, rd_v, rd_o, rd_n, bind_one, bind_many, setAll, List.map, List.replicate, List.length, List.cons_append, List.nil_append, List.getElem?_cons_zero, List.getElem?_cons_succ, List.set_cons_zero, List.set_cons_succ, Option.bind_some, ex_some, Option.some.injEq, Slot.own.injEq, Slot.val.injEq, exists_eq_left', true_and, and_true, Bool.false_eq_true, if_false, if_true, reduceIte, wEq, wNe, wAdd_i, wAdd_t, wAdd_l, wAdd_s, wSub_i, wMul_i, wDiv_i, wMod_i, wPow_i, wNeg_i, wLt_i, wLe_i, wGt_i, wGe_i, wIs_n, wIs_b, wIsNot_n, wIsNot_b, wIx_l, wIx_t, wLen_l, wLen_t, wAbs_i, wInt_i, wInt_b, wMax2_i, wMin2_i, wTuple_l, wTuple_t, wB_b, wI_i, seqOf_l, seqOf_t, wIAdd_i, wIAdd_t, wIMul_i, wSl_l, wSl_t, wIn_l, wIn_t, wNotIn_l, wNotIn_t, items_l, items_t, lv_i, lv_b, lv_n, eqv_ii, eqv_bb, isNon_n, isNon_i, isNon_b, isNon_s, isNon_t, isNon_l, Bool.not_true, Bool.not_false, b2n_t, b2n_f, pl_i, pl_b, pl_n, decide_eq_true_eq, wIsi, isTy, decide_true, beq_self_eq_true, Bool.true_or]
    exact q
  | int i =>
    simp only [sSeq, sSkip, sAsg, sAsgP, sNew, sNewP, sRet, sRetO, sIf, sApp, sAppP, sSet, sAug, sTgt, sTgtP, sPar, sFz, frz, sFor, sForR, sRev, sBrk, sCnt, sDrop, eOp, eUn, eCall, eVar, eC, eFr, eTup, eTupR, eAnd, eOr, eNot, eIf, eChain, eIndex, eSl, nLst, nList, nListR, nLc, nLc2, nCall, nSorted, nRep, tOf, tAndJ, tOrJ, tNotJ, tTrue, iSeq, iR1, iR2, iR3, rg1, rg2, evA, pNo, pSo, startE, hide, rd, hide_v, hide_o, hide_n, rd_v, rd_o, rd_n, bind_one, bind_many, setAll, List.map, List.replicate, List.length, List.cons_append, List.nil_append, List.getElem?_cons_zero, List.getElem?_cons_succ, List.set_cons_zero, List.set_cons_succ, Option.bind_some, ex_some, Option.some.injEq, Slot.own.injEq, Slot.val.injEq, exists_eq_left', true_and, and_true, Bool.false_eq_true, if_false, if_true, reduceIte, wEq, wNe, wAdd_i, wAdd_t, wAdd_l, wAdd_s, wSub_i, wMul_i, wDiv_i, wMod_i, wPow_i, wNeg_i, wLt_i, wLe_i, wGt_i, wGe_i, wIs_n, wIs_b, wIsNot_n, wIsNot_b, wIx_l, wIx_t, wLen_l, wLen_t, wAbs_i, wInt_i, wInt_b, wMax2_i, wMin2_i, wTuple_l, wTuple_t, wB_b, wI_i, seqOf_l, seqOf_t, wIAdd_i, wIAdd_t, wIMul_i, wSl_l, wSl_t, wIn_l, wIn_t, wNotIn_l, wNotIn_t, items_l, items_t, lv_i, lv_b, lv_n, eqv_ii, eqv_bb, isNon_n, isNon_i, isNon_b, isNon_s, isNon_t, isNon_l, Bool.not_true, Bool.not_false, b2n_t, b2n_f, pl_i, pl_b, pl_n, decide_eq_true_eq, wIsi, isTy, decide_true, beq_self_eq_true, Bool.not_false]
    exact q
  | str x =>
    have hx : PyData.strOk x = true := by cases n <;> exact ht
    simp only [sSeq, sSkip, sAsg, sAsgP, sNew, sNewP, sRet, sRetO, sIf, sApp, sAppP, sSet, sAug, sTgt, sTgtP, sPar, sFz, frz, sFor, sForR, sRev, sBrk, sCnt, sDrop, eOp, eUn, eCall, eVar, eC, eFr, eTup, eTupR, eAnd, eOr, eNot, eIf, eChain, eIndex, eSl, nLst, nList, nListR, nLc, nLc2, nCall, nSorted, nRep, tOf, tAndJ, tOrJ, tNotJ, tTrue, iSeq, iR1, iR2, iR3, rg1, rg2, evA, pNo, pSo, startE, hide, rd, hide_v, hide_o, hide_n, rd_v, rd_o, rd_n, bind_one, bind_many, setAll, List.map, List.replicate, List.length, List.cons_append, List.nil_append, List.getElem?_cons_zero, List.getElem?_cons_succ, List.set_cons_zero, List.set_cons_succ, Option.bind_some, ex_some, Option.some.injEq, Slot.own.injEq, Slot.val.injEq, exists_eq_left', true_and, and_true, Bool.false_eq_true, if_false, if_true, reduceIte, wEq, wNe, wAdd_i, wAdd_t, wAdd_l, wAdd_s, wSub_i, wMul_i, wDiv_i, wMod_i, wPow_i, wNeg_i, wLt_i, wLe_i, wGt_i, wGe_i, wIs_n, wIs_b, wIsNot_n, wIsNot_b, wIx_l, wIx_t, wLen_l, wLen_t, wAbs_i, wInt_i, wInt_b, wMax2_i, wMin2_i, wTuple_l, wTuple_t, wB_b, wI_i, seqOf_l, seqOf_t, wIAdd_i, wIAdd_t, wIMul_i, wSl_l, wSl_t, wIn_l, wIn_t, wNotIn_l, wNotIn_t, items_l, items_t, lv_i, lv_b, lv_n, eqv_ii, eqv_bb, isNon_n, isNon_i, isNon_b, isNon_s, isNon_t, isNon_l, Bool.not_true, Bool.not_false, b2n_t, b2n_f, pl_i, pl_b, pl_n, decide_eq_true_eq, wIsi, isTy, beq_self_eq_true, eqv_ss, lv_s, hx]
    exact q
  | tuple ds =>
    cases n with
    | zero => cases ht
    | succ m =>
      have ht' : (decide (ds.length ≤ 16000000) && ds.all (tp m)) = true := ht
      rw [Bool.and_eq_true] at ht'
      have hl := of_decide_eq_true ht'.1
      have hall := List.all_eq_true.mp ht'.2
      have k1 : (("tuple" : String) == "tuple") = true := by decide
      simp only [sSeq, sSkip, sAsg, sAsgP, sNew, sNewP, sRet, sRetO, sIf, sApp, sAppP, sSet, sAug, sTgt, sTgtP, sPar, sFz, frz, sFor, sForR, sRev, sBrk, sCnt, sDrop, eOp, eUn, eCall, eVar, eC, eFr, eTup, eTupR, eAnd, eOr, eNot, eIf, eChain, eIndex, eSl, nLst, nList, nListR, nLc, nLc2, nCall, nSorted, nRep, tOf, tAndJ, tOrJ, tNotJ, tTrue, iSeq, iR1, iR2, iR3, rg1, rg2, evA, pNo, pSo, startE, hide, rd, hide_v, hide_o, hide_n, rd_v, rd_o, rd_n, bind_one, bind_many, setAll, List.map, List.replicate, List.length, List.cons_append, List.nil_append, List.getElem?_cons_zero, List.getElem?_cons_succ, List.set_cons_zero, List.set_cons_succ, Option.bind_some, ex_some, Option.some.injEq, Slot.own.injEq, Slot.val.injEq, exists_eq_left', true_and, and_true, Bool.false_eq_true, if_false, if_true, reduceIte, wEq, wNe, wAdd_i, wAdd_t, wAdd_l, wAdd_s, wSub_i, wMul_i, wDiv_i, wMod_i, wPow_i, wNeg_i, wLt_i, wLe_i, wGt_i, wGe_i, wIs_n, wIs_b, wIsNot_n, wIsNot_b, wIx_l, wIx_t, wLen_l, wLen_t, wAbs_i, wInt_i, wInt_b, wMax2_i, wMin2_i, wTuple_l, wTuple_t, wB_b, wI_i, seqOf_l, seqOf_t, wIAdd_i, wIAdd_t, wIMul_i, wSl_l, wSl_t, wIn_l, wIn_t, wNotIn_l, wNotIn_t, items_l, items_t, lv_i, lv_b, lv_n, eqv_ii, eqv_bb, isNon_n, isNon_i, isNon_b, isNon_s, isNon_t, isNon_l, Bool.not_true, Bool.not_false, b2n_t, b2n_f, pl_i, pl_b, pl_n, decide_eq_true_eq, wIsi, isTy, k1, decide_true, Bool.not_true]
      have hs : sizeLine = 16777216 := sizeLine_eq
      refine ⟨⟨by decide, by decide, by omega, by omega, by omega⟩, ?_⟩
      refine forW_inv (fun i e => ∃ s2, e = [.val (.tuple ds), .val (.tuple ds), s2]) ⟨_, rfl⟩ ?_ ?_
      · rintro i d e hi ⟨s2, rfl⟩ R hR
        obtain ⟨rfl, hlt⟩ := rgD_get hi
        refine ⟨_, rfl, ?_⟩
        unfold m_sameB
        obtain ⟨d, hd, hd2⟩ := atI_some (zs := ds) (k := 0 + (i : Int)) (by omega) (by omega)
        simp only [sSeq, sSkip, sAsg, sAsgP, sNew, sNewP, sRet, sRetO, sIf, sApp, sAppP, sSet, sAug, sTgt, sTgtP, sPar, sFz, frz, sFor, sForR, sRev, sBrk, sCnt, sDrop, eOp, eUn, eCall, eVar, eC, eFr, eTup, eTupR, eAnd, eOr, eNot, eIf, eChain, eIndex, eSl, nLst, nList, nListR, nLc, nLc2, nCall, nSorted, nRep, tOf, tAndJ, tOrJ, tNotJ, tTrue, iSeq, iR1, iR2, iR3, rg1, rg2, evA, pNo, pSo, startE, hide, rd, hide_v, hide_o, hide_n, rd_v, rd_o, rd_n, bind_one, bind_many, setAll, List.map, List.replicate, List.length, List.cons_append, List.nil_append, List.getElem?_cons_zero, List.getElem?_cons_succ, List.set_cons_zero, List.set_cons_succ, Option.bind_some, ex_some, Option.some.injEq, Slot.own.injEq, Slot.val.injEq, exists_eq_left', true_and, and_true, Bool.false_eq_true, if_false, if_true, reduceIte, wEq, wNe, wAdd_i, wAdd_t, wAdd_l, wAdd_s, wSub_i, wMul_i, wDiv_i, wMod_i, wPow_i, wNeg_i, wLt_i, wLe_i, wGt_i, wGe_i, wIs_n, wIs_b, wIsNot_n, wIsNot_b, wIx_l, wIx_t, wLen_l, wLen_t, wAbs_i, wInt_i, wInt_b, wMax2_i, wMin2_i, wTuple_l, wTuple_t, wB_b, wI_i, seqOf_l, seqOf_t, wIAdd_i, wIAdd_t, wIMul_i, wSl_l, wSl_t, wIn_l, wIn_t, wNotIn_l, wNotIn_t, items_l, items_t, lv_i, lv_b, lv_n, eqv_ii, eqv_bb, isNon_n, isNon_i, isNon_b, isNon_s, isNon_t, isNon_l, Bool.not_true, Bool.not_false, b2n_t, b2n_f, pl_i, pl_b, pl_n, decide_eq_true_eq, hd2]
        refine hS m rfl _ _ ⟨d, rfl, hall d (List.mem_of_getElem? hd), ?_⟩
        simp only [sSeq, sSkip, sAsg, sAsgP, sNew, sNewP, sRet, sRetO, sIf, sApp, sAppP, sSet, sAug, sTgt, sTgtP, sPar, sFz, frz, sFor, sForR, sRev, sBrk, sCnt, sDrop, eOp, eUn, eCall, eVar, eC, eFr, eTup, eTupR, eAnd, eOr, eNot, eIf, eChain, eIndex, eSl, nLst, nList, nListR, nLc, nLc2, nCall, nSorted, nRep, tOf, tAndJ, tOrJ, tNotJ, tTrue, iSeq, iR1, iR2, iR3, rg1, rg2, evA, pNo, pSo, startE, hide, rd, hide_v, hide_o, hide_n, rd_v, rd_o, rd_n, bind_one, bind_many, setAll, List.map, List.replicate, List.length, List.cons_append, List.nil_append, List.getElem?_cons_zero, List.getElem?_cons_succ, List.set_cons_zero, List.set_cons_succ, Option.bind_some, ex_some, Option.some.injEq, Slot.own.injEq, Slot.val.injEq, exists_eq_left', true_and, and_true, Bool.false_eq_true, if_false, if_true, reduceIte, wEq, wNe, wAdd_i, wAdd_t, wAdd_l, wAdd_s, wSub_i, wMul_i, wDiv_i, wMod_i, wPow_i, wNeg_i, wLt_i, wLe_i, wGt_i, wGe_i, wIs_n, wIs_b, wIsNot_n, wIsNot_b, wIx_l, wIx_t, wLen_l, wLen_t, wAbs_i, wInt_i, wInt_b, wMax2_i, wMin2_i, wTuple_l, wTuple_t, wB_b, wI_i, seqOf_l, seqOf_t, wIAdd_i, wIAdd_t, wIMul_i, wSl_l, wSl_t, wIn_l, wIn_t, wNotIn_l, wNotIn_t, items_l, items_t, lv_i, lv_b, lv_n, eqv_ii, eqv_bb, isNon_n, isNon_i, isNon_b, isNon_s, isNon_t, isNon_l, Bool.not_true, Bool.not_false, b2n_t, b2n_f, pl_i, pl_b, pl_n, decide_eq_true_eq, Bool.not_true]
        exact hR _ ⟨_, rfl⟩
      · rintro e ⟨s2, rfl⟩
        simp only [sSeq, sSkip, sAsg, sAsgP, sNew, sNewP, sRet, sRetO, sIf, sApp, sAppP, sSet, sAug, sTgt, sTgtP, sPar, sFz, frz, sFor, sForR, sRev, sBrk, sCnt, sDrop, eOp, eUn, eCall, eVar, eC, eFr, eTup, eTupR, eAnd, eOr, eNot, eIf, eChain, eIndex, eSl, nLst, nList, nListR, nLc, nLc2, nCall, nSorted, nRep, tOf, tAndJ, tOrJ, tNotJ, tTrue, iSeq, iR1, iR2, iR3, rg1, rg2, evA, pNo, pSo, startE, hide, rd, hide_v, hide_o, hide_n, rd_v, rd_o, rd_n, bind_one, bind_many, setAll, List.map, List.replicate, List.length, List.cons_append, List.nil_append, List.getElem?_cons_zero, List.getElem?_cons_succ, List.set_cons_zero, List.set_cons_succ, Option.bind_some, ex_some, Option.some.injEq, Slot.own.injEq, Slot.val.injEq, exists_eq_left', true_and, and_true, Bool.false_eq_true, if_false, if_true, reduceIte, wEq, wNe, wAdd_i, wAdd_t, wAdd_l, wAdd_s, wSub_i, wMul_i, wDiv_i, wMod_i, wPow_i, wNeg_i, wLt_i, wLe_i, wGt_i, wGe_i, wIs_n, wIs_b, wIsNot_n, wIsNot_b, wIx_l, wIx_t, wLen_l, wLen_t, wAbs_i, wInt_i, wInt_b, wMax2_i, wMin2_i, wTuple_l, wTuple_t, wB_b, wI_i, seqOf_l, seqOf_t, wIAdd_i, wIAdd_t, wIMul_i, wSl_l, wSl_t, wIn_l, wIn_t, wNotIn_l, wNotIn_t, items_l, items_t, lv_i, lv_b, lv_n, eqv_ii, eqv_bb, isNon_n, isNon_i, isNon_b, isNon_s, isNon_t, isNon_l, Bool.not_true, Bool.not_false, b2n_t, b2n_f, pl_i, pl_b, pl_n, decide_eq_true_eq]
        exact q
  | list ds => cases n <;> cases ht
  | dict ds => cases n <;> cases ht

/-! ### _law_take -/
def tTake (K : PySem.W.Frag) : TS := fun E σ H => ∃ a ns n, σ = [some (.ref a), some (.int n)] ∧ H a = some (.lst (ns.map V.int)) ∧ (∀ m ∈ ns, 0 ≤ m) ∧ 0 < n ∧ (ns = [] → E.rt (.int 0) H) ∧ ∀ i : Int, 0 ≤ i → ns ≠ [] → E.rt (.int (i % n)) (upd H a (.lst (ns.dropLast.map V.int)))
theorem Fw.pile {Hv H : Hp} {a : Addr} {ns : List Int} (vw : Vw Hv H) (hm : Hv a = some mark) (hn : ∀ m ∈ ns, 0 ≤ m) : Fw Hv H Hv (upd H a (.lst (ns.map V.int))) where
  ext := Same.refl _
  vw := fun b u e => by
    by_cases q : b = a
    · subst q
      rw [hm] at e
      cases e
      exact .inl ⟨rfl, ns, upd_same, hn⟩
    · rcases vw b u e with ⟨z, ms, y, w⟩ | ⟨z, y⟩
      · exact .inl ⟨z, ms, by rw [upd_ne q]; exact y, w⟩
      · exact .inr ⟨z, by rw [upd_ne q]; exact y⟩
  keep := fun b u e h => by
    have q : b ≠ a := fun z => by rw [z, hm] at e; cases e
    rw [upd_ne q]
    exact h
  fresh := fun b e q => absurd e q
theorem take_j {P : Program} {w : World} {K : PySem.W.Frag} {mg : Str → Option Value} {base : Heap} {x qual : Str} {st : Stmt} {f : Addr} {fd : FuncData} {k : Nat} (F : Fun K x qual st f fd) (sc : FnScope ["draws", "many"] ["draws", "many"] (defScope st))
    (hb : ∀ (cdv : Value) (A : Around) (outer : List Env) (s : Shared) (H : Hp) (E : XK), Room k (A.deeper (envOfC qual (defScope st) s.heap.objs.size f cdv)) → PSs (cxOf CX0 P w K mg base ["draws", "many"] qual (defScope st) f cdv A outer s H E).nox (defBody st) (tTake K)) : JFn P w K mg base (k + 1) f fd ["draws", "many"] S_take := by
  refine F.ok sc (fun vs H Q E ⟨Hv, ds, QD, vw, r, l, _⟩ => by rw [r.length]; exact l) fun cdv A outer s H vs Q E hr ⟨Hv, ds, QD, vw, r, l, h, kk⟩ => ⟨_, hb cdv A outer s H E hr, ?_⟩
  obtain ⟨n, rfl, hn, q⟩ := h
  obtain ⟨v, v', rfl, r1, r2⟩ := rp2 r
  cases r1 with
  | @hnd a hm =>
    cases r2
    rcases vw a _ hm with ⟨_, ns, ha, hns⟩ | ⟨z, _⟩
    · refine ⟨a, ns, n, rfl, ha, hns, hn, fun _ => kk _ _ Hv H (.refl vw) (.int _) (q 0 (by decide) hn), fun i hi _ => ?_⟩
      exact kk _ _ _ _ (Fw.pile vw hm fun m hm => hns m (List.dropLast_subset _ hm)) (.int _) (q _ (Int.emod_nonneg _ (by omega)) (Int.emod_lt_of_pos _ hn))
    · exact absurd rfl z
theorem no_j {P : Program} {w : World} {K : PySem.W.Frag} {mg : Str → Option Value} {base : Heap} {k : Nat} {f : Addr} {fd : FuncData} {ps : List Str} : JFn P w K mg base k f fd ps (fun _ _ => False) :=
  ⟨fun _ _ _ _ ⟨_, _, _, _, _, _, h, _⟩ => h.elim, fun _ _ _ _ _ _ _ _ _ _ _ _ _ ⟨_, _, _, _, _, _, h, _⟩ => h.elim⟩
theorem s_rev {X : Cx} (i : Nat) {y : Str} {py ap cp pos : Pos} (hN : X.N[i]? = some y := by rfl) (hv : Vis X.env.scope y := by first | exact Or.inl rfl | exact Or.inr (Or.inl rfl) | exact Or.inr (Or.inr rfl)) (hd : (y == ("__debug__" : Str)) = false := by decide)
    (hcd : (y == ("__classdict__" : Str)) = false := by decide) (hbase : attributeBase (.Name y py) "reverse" X.env (eval (.Name y py) X.env) = eval (.Name y py) X.env := by rfl) (hline : (ap.endLine == cp.line) = true := by rfl)
    (hs2 : swapsWith (.Call (.Attribute (.Name y py) "reverse" ap) [] [] cp) none pos.line X.env = pure false := by rfl) :
    DS X (.Expr (.Call (.Attribute (.Name y py) "reverse" ap) [] [] cp) pos) (sRev i) := rev_ok (ps_expr (pe_bm0 PySem.F.plainAttrs_list PySem.F.slot_list_reverse PySem.F.type_list_reverse mt_reverse (pe_var hN hv hd hcd) hbase hline) hs2)
end J

/-! J12: t[::-1], t * n, xs += ys. -/
namespace J
open PySem PySem.Spec PyProof.Rows L2

section
variable {prog : Program} {w : World} {A : Around} {E : Value → Shared → Prop} {s : Shared}
theorem adjust_rev (n : Nat) : Builtin.Slice.sliceAdjust none none (-1) (n : Int) = ((n : Int) - 1, -1) := by
  unfold Builtin.Slice.sliceAdjust
  have h1 : ((-1 : Int) < 0) := by omega
  simp only [h1, if_true]
theorem places_rev (n : Nat) : Builtin.Slice.slicePlaces ((n : Int) - 1) (-1) (-1) = n := by
  unfold Builtin.Slice.slicePlaces
  have h1 : ¬ ((-1 : Int) > 0) := by omega
  simp only [h1, if_false, show (- -1 : Int) = 1 from rfl, Int.ediv_one]
  split <;> omega
theorem sliceApplied_rev {sl : Addr} {vs : Value} {n : Nat} {Q : Int × Int × Nat → Shared → Prop} (hs : s.heap.IsSliceOf sl .none .none vs) (ps : IsPart vs (some (-1)))
    (h : Q ((n : Int) - 1, -1, n) s) : wpAny (model prog w) A (Builtin.Slice.sliceApplied (.ref sl) (pure (n : Int))) Q E s := by
  obtain ⟨os, hos, hcs, hds⟩ := id hs
  unfold Builtin.Slice.sliceApplied Builtin.Slice.sliceFields
  refine wpAny_bind (wpAny_bind (wpAny_field hos hds (x := .none) rfl (wpAny_bind (wpAny_field hos hds (x := .none) rfl (wpAny_bind (wpAny_field hos hds (x := vs) rfl (wpAny_pure ?_)))))))
  refine wpAny_bind (HT.slicePart_ ps ?_)
  show wpAny _ _ (if ((-1 : Int) == 0) = true then _ else _) _ _ s
  rw [if_neg (by decide)]
  refine wpAny_bind (slicePart_none (wpAny_bind (slicePart_none (wpAny_bind (wpAny_pure ?_)))))
  show wpAny _ _ (match Builtin.Slice.sliceAdjust none none (-1) (n : Int) with | (lo, hi) => pure (lo, (-1 : Int), Builtin.Slice.slicePlaces lo hi (-1))) _ _ s
  rw [adjust_rev n]
  show wpAny _ _ (pure (((n : Int) - 1), (-1 : Int), Builtin.Slice.slicePlaces ((n : Int) - 1) (-1) (-1))) _ _ s
  rw [places_rev]
  exact wpAny_pure h
theorem fm_congr {α β : Type} {f g : α → Option β} : ∀ l : List α, (∀ x ∈ l, f x = g x) → l.filterMap f = l.filterMap g
  | [], _ => rfl
  | a :: l, h => by rw [List.filterMap_cons, List.filterMap_cons, h a (by simp), fm_congr l fun x hx => h x (by simp [hx])]
theorem pick_rev (xs : Array Value) : ((List.range xs.size).filterMap fun (m : Nat) => xs[(((xs.size : Int) - 1) + (m : Int) * (-1)).toNat]?).toArray = xs.toList.reverse.toArray := by
  congr 1
  have e : ∀ l : List Value, ((List.range l.length).filterMap fun (m : Nat) => l.toArray[(((l.length : Int) - 1) + (m : Int) * (-1)).toNat]?) = l.reverse := by
    intro l
    have e2 : ((List.range l.length).filterMap fun (m : Nat) => l.toArray[(((l.length : Int) - 1) + (m : Int) * (-1)).toNat]?) = (List.range l.length).filterMap fun m => l.reverse[m]? := by
      refine fm_congr _ fun m hm => ?_
      rw [List.mem_range] at hm
      rw [List.getElem?_reverse hm, show (((l.length : Int) - 1) + (m : Int) * (-1)).toNat = l.length - 1 - m by omega]
      simp
    rw [e2]
    have e3 : ∀ k : List Value, ((List.range k.length).filterMap fun m => k[m]?) = k := by
      intro k
      induction k with
      | nil => rfl
      | cons a k ih =>
        rw [List.length_cons, List.range_succ_eq_map, List.filterMap_cons, List.filterMap_map]
        have : (fun m => (a :: k)[m]?) ∘ Nat.succ = fun m => k[m]? := by funext m; simp
        rw [this, ih]
        rfl
    have := e3 l.reverse
    rw [List.length_reverse] at this
    exact this
  have := e xs.toList
  simpa using this
theorem getItem_tuple_rev {t sl : Addr} {items : Array Value} {vs : Value} {Q : Value → Shared → Prop} (ht : IsTup s.heap t items) (hs : s.heap.IsSliceOf sl .none .none vs) (ps : IsPart vs (some (-1)))
    (h : Q (.ref s.heap.objs.size) { s with heap := s.heap.push { cls := .type "tuple", data := .seq items.toList.reverse.toArray } })
    (hsz : items.size ≤ sizeLine) : wpAny (model prog w) A (getItem (.ref t) (.ref sl)) Q E s := by
  have htake : sizeOk (.seq items.toList.reverse.toArray) := by
    show items.toList.reverse.toArray.size ≤ sizeLine
    rw [List.size_toArray, List.length_reverse, Array.length_toList]
    omega
  obtain ⟨os, hos, hcs, hds⟩ := id hs
  have hTs : s.TypeIs (.ref sl) "slice" := ⟨os, hos, hcs⟩
  unfold getItem
  try with_reducible refine wpAny_holding ?_
  first | refine wpAny_bind (wpAny_pure ?_) | skip
  refine wpAny_bind (wpAny_sequenceKey ht.typeIs (by decide) ?_)
  refine wpAny_bind (wpAny_callSpecial?_slot (name := Str.ofString "__getitem__") ht.typeIs PyProof.Rows.slot_tuple_getitem
    (wpAny_call_entry PyProof.Rows.slot_tuple_getitem ht.typeIs entry_tuple_getitem ?_ (args_tuple_getitem _ _)))
  show wpAny _ _ (Builtin.Tuple.tupleItemsOf (.ref t) >>= _) _ _ s
  refine wpAny_bind (tupleItemsOf_ ht ?_)
  refine wpAny_bind (wpAny_typeOf hTs ?_)
  rw [if_pos (by decide)]
  refine wpAny_bind (sliceApplied_rev hs ps ?_)
  have hno : ¬ ((((items.size : Int) - 1) == 0 && (-1 : Int) == 1 && items.size == items.size) = true) := by
    intro q
    rw [Bool.and_eq_true, Bool.and_eq_true] at q
    exact absurd q.1.2 (by decide)
  show wpAny _ _ (if (((items.size : Int) - 1) == 0 && (-1 : Int) == 1 && items.size == items.size) = true then _ else _) _ _ s
  rw [if_neg hno, pick_rev]
  first
    | exact wpAny_bind (m := Builtin.Tuple.tupleExact _) (wpAny_newObj_type (wpAny_pure ⟨_, rfl, wpAny_pure h⟩) htake)
    | exact wpAny_bind (m := Builtin.Tuple.tupleExact _) (wpAny_newObj_type (wpAny_bind (wpAny_pure (wpAny_pure ⟨_, rfl, wpAny_pure h⟩))) htake)
    | exact wpAny_bind (wpAny_bind (m := Builtin.Tuple.tupleExact _) (wpAny_newObj_type (wpAny_pure (wpAny_pure ⟨_, rfl, wpAny_pure h⟩)) htake))
    | exact wpAny_bind (wpAny_bind (m := Builtin.Tuple.tupleExact _) (wpAny_newObj_type (wpAny_pure ⟨_, rfl, wpAny_pure h⟩) htake))
end
section
variable {X : Cx} {K : PySem.W.Frag} {x a b c o : Expr} {es : List Expr} {pos : Pos} {m ma mb mc mo : EX} {ms : List EX} {n : NX} {st : Stmt}
/-! ### [::-1] -/
def wRevS : W1
  | .list ds, Q => Q (.list ds.reverse)
  | .tuple ds, Q => Q (.tuple ds.reverse)
  | _, _ => False
def tRevJ (K : PySem.W.Frag) (te : TE) : TE := fun σ H Q => te σ H fun x H1 => ∃ a xs, x = .ref a ∧ ((SqL K H1 a xs ∧ ∀ p, H1 p = none → Q (.ref p) (upd H1 p (.lst xs.reverse))) ∨ (SqT K H1 a xs ∧ NewT H1 xs.reverse Q))
theorem pe_revJ {e : Expr} {te : TE} {k : Nat} {p1 p2 p3 pos : Pos} (he : PE X e te) : PE X (.Subscript e (.Slice none none (some (.UnaryOp .USub (.Constant (.int 1) k p1) p2)) p3) pos) (tRevJ X.K te) := by
  refine ⟨fun pins s σ H Q I h => ?_⟩
  refine Subscript_ (thn (he.run pins s σ H _ I h) fun v s1 ⟨x, H1, I1, r1, q1⟩ => ?_)
  obtain ⟨a, xs, ex, q⟩ := q1
  subst ex
  cases r1
  have hst : PO X (some (.UnaryOp .USub (.Constant (.int 1) k p1) p2)) (tPart (tUn (rU fun i => .int (-i)) (tC (.int 1)))) := po_some (pe_un un_neg pe_int)
  refine wpAny_Slice (thn (po_none.run pins s1 σ H1 (fun o H2 => o = none ∧ H2 = H1) I1 ⟨rfl, rfl⟩) fun vl s2 ⟨l, H2, I2, pl, el, e2⟩ => ?_)
  subst el e2
  refine thn (po_none.run pins s2 σ H2 (fun o H3 => o = none ∧ H3 = H2) I2 ⟨rfl, rfl⟩) fun vu s3 ⟨u, H3, I3, pu, eu, e3⟩ => ?_
  subst eu e3
  refine thn (hst.run pins s3 σ H3 (fun o H4 => o = some (-1) ∧ H4 = H3) I3 ⟨1, rfl, -1, rfl, rfl, rfl⟩) fun vs s4 ⟨o, H4, I4, ps, eo, e4⟩ => ?_
  subst eo e4
  cases pl
  cases pu
  have I5 : Inv X pins σ H4 { s4 with heap := s4.heap.push { cls := .type "slice", data := .fields #[.none, .none, vs] } } := I4.kept (t' := s4.toks) fun b ob q => Heap.get?_push_of_some _ q
  rcases q with ⟨hx, q⟩ | ⟨hx, q⟩
  · obtain ⟨its, r, ht, hz⟩ := I5.list hx
    have hlen := r.length
    show wpAny (model X.prog X.w) X.A (subscriptTail e (.Slice none none (some (.UnaryOp .USub (.Constant (.int 1) k p1) p2)) p3) (.ref a) (.ref s4.heap.objs.size)) (EP X pins σ Q) X.xe { s4 with heap := s4.heap.push { cls := .type "slice", data := .fields #[.none, .none, vs] } }
    refine tail_any (ops := [.ref a, .ref s4.heap.objs.size]) ht.isList.typeIs (PySem.slot_list_getitem.lookup) ?_ (by with_unfolding_all rfl)
    refine wpAny_getItem_list_slice ht.isList (Heap.IsSliceOf.new _ _ _ vs) .none .none ps (by decide) ?_ (by rw [List.size_toArray]; omega)
    rw [PySem.W.krv_pick]
    refine ⟨.ref _, _, I5.laid (t' := s4.toks) (o := .lst xs.reverse) (fun b ob q => Heap.get?_push_of_some _ q) (Nat.le_refl _) ?_, rfl, q _ (I5.hok.fresh (Nat.le_refl _))⟩
    exact ⟨by rw [List.length_reverse]; exact hz, _, 0, r.reverse, Heap.get?_push_size _ rfl⟩
  · obtain ⟨its, r, ht, hz⟩ := I5.tuple hx
    have hlen := r.length
    show wpAny (model X.prog X.w) X.A (subscriptTail e (.Slice none none (some (.UnaryOp .USub (.Constant (.int 1) k p1) p2)) p3) (.ref a) (.ref s4.heap.objs.size)) (EP X pins σ Q) X.xe { s4 with heap := s4.heap.push { cls := .type "slice", data := .fields #[.none, .none, vs] } }
    refine tail_any (ops := [.ref a, .ref s4.heap.objs.size]) ht.typeIs (PyProof.Rows.slot_tuple_getitem.lookup) ?_ (by with_unfolding_all rfl)
    refine getItem_tuple_rev ht (Heap.IsSliceOf.new _ _ _ vs) ps ?_ (by rw [List.size_toArray]; omega)
    exact ⟨.ref _, _, laidT (xs := xs.reverse) I5 (by rw [List.length_reverse]; exact hz) r.reverse, rfl, q _ _ (newAt I5)⟩
theorem d_revS {k : Nat} {p1 p2 p3 : Pos} (he : DE X a ma) : DE X (.Subscript a (.Slice none none (some (.UnaryOp .USub (.Constant (.int 1) k p1) p2)) p3) pos) (eUn wRevS ma) := peW (pe_revJ he) fun σ H Q ⟨Hv, e, QD, er, vw, hm, k⟩ =>
  ⟨Hv, e, _, er, vw, hm, fun d v Hv1 H1 f r q => by
    cases d <;> first | exact q.elim | skip
    · cases r with
      | @lst p xs _ hs ha hl =>
        refine ⟨p, xs, rfl, .inl ⟨f.vw.sql hs, fun p' hp => ?_⟩⟩
        have g := Fw.new (o := .lst xs.reverse) f.vw hp mark_ne_lst
        exact k _ _ _ _ (f.trans g) (.lst (SqL.of upd_same) (Rp.monoAll g.ext _ _ ha.rev) (by rw [List.length_reverse]; exact hl)) q
    · cases r with
      | @tup p xs _ hs ha hl =>
        refine ⟨p, xs, rfl, .inr ⟨f.vw.sqt hs, fun p' its hp => ?_⟩⟩
        have g := Fw.new (o := tO its xs.reverse) f.vw hp mark_ne_tup
        exact k _ _ _ _ (f.trans g) (.tup SqJ.of (Rp.monoAll g.ext _ _ ha.rev) (by rw [List.length_reverse]; exact hl)) q⟩

/-! ### xs += ys, ys a new list -/
def sExt (i : Nat) (n : NX) : SX := fun e P => ∃ ds, e[i]? = some (Slot.own ds) ∧ n (hide e) fun es => ds.length + es.length ≤ sizeLine ∧ P.nx (e.set i (.own (ds ++ es)))
def sExtP (i : Nat) (n : NX) : SX := fun e P => ∃ ds, e[i]? = some (Slot.own ds) ∧ n e fun es => es.all (pl lvl) = true ∧ ds.length + es.length ≤ sizeLine ∧ P.nx (e.set i (.own (ds ++ es)))
theorem RpAll.less {K : PySem.W.Frag} {Hv Hv' : Hp} {l : Nat} (h : ∀ n d v, pl n d = true → Rp K Hv v d → Rp K Hv' v d) : ∀ {vs : List V} {ds : List D}, RpAll K Hv vs ds → ds.all (pl l) = true → RpAll K Hv' vs ds
  | _, _, .nil, _ => .nil
  | _, _, .cons r t, q => by
    rw [List.all_cons, Bool.and_eq_true] at q
    exact .cons (h _ _ _ q.1 r) (RpAll.less h t q.2)
theorem set_same {σ : L2.St} {i : Nat} {x : Option V} (h : σ[i]? = some x) : σ.set i x = σ := by
  refine List.ext_getElem? fun j => ?_
  by_cases q : i = j
  · subst q
    rw [List.getElem?_set_self (List.getElem?_eq_some_iff.mp h).1, h]
  · rw [List.getElem?_set_ne q]
theorem s_ext (i : Nat) {y : Str} {py : Pos} (hN : X.N.Nodup) (he : DN X x n) (hi : X.N[i]? = some y := by rfl) (hx : Loc X.env.scope y := by first | exact .inl rfl | exact .inr rfl)
    (hf : X.fn y = true ∨ X.env.scope.names.lookup y = some .local := by first | exact .inl rfl | exact .inr rfl) : DS X (.AugAssign (.Name y py) .Add x pos) (sExt i n) := psW (ps_aug hN hi hx he iop_ext hf) fun E σ H ⟨Hv0, H0, Hv, e, P, S, ⟨ds, hd, h⟩, F⟩ => by
  obtain ⟨a, xs, h1, h2, h3, h4, h5, h6⟩ := S.own i ds hd
  refine ⟨.ref a, h1, Hv, hide e, _, S.erH, S.fw.vw, h, fun es p ys Hv1 H1 f hv hp hl r l q => ?_⟩
  have S1 := S.step f
  obtain ⟨zs, g1, g2, g3⟩ := S1.lst hd h1
  refine ⟨a, p, zs, ys, rfl, rfl, g1, hl, by rw [g2.length, r.length]; exact q.1, ?_⟩
  show E.nx (σ.set i (some (.ref a))) _
  rw [set_same h1]
  exact F.nx _ _ _ _ (S1.mut hd h1 (g2.append r) (by rw [List.length_append]; exact q.1)) q.2
theorem s_extP (i : Nat) {y : Str} {py : Pos} (hN : X.N.Nodup) (he : DN X x n) (hi : X.N[i]? = some y := by rfl) (hx : Loc X.env.scope y := by first | exact .inl rfl | exact .inr rfl)
    (hf : X.fn y = true ∨ X.env.scope.names.lookup y = some .local := by first | exact .inl rfl | exact .inr rfl) : DS X (.AugAssign (.Name y py) .Add x pos) (sExtP i n) := psW (ps_aug hN hi hx he iop_ext hf) fun E σ H ⟨Hv0, H0, Hv, e, P, S, ⟨ds, hd, h⟩, F⟩ => by
  obtain ⟨a, xs, h1, h2, h3, h4, h5, h6⟩ := S.own i ds hd
  refine ⟨.ref a, h1, _, e, _, S.erF, S.full_vw, h, fun es p ys Hv1 H1 f hv hp hl r l q => ?_⟩
  obtain ⟨S1, b⟩ := S.back f
  obtain ⟨zs, g1, g2, g3⟩ := S1.lst hd h1
  refine ⟨a, p, zs, ys, rfl, rfl, g1, hl, by rw [g2.length, r.length]; exact q.2.1, ?_⟩
  show E.nx (σ.set i (some (.ref a))) _
  rw [set_same h1]
  exact F.nx _ _ _ _ (S1.mut hd h1 (g2.append (RpAll.less b r q.1)) (by rw [List.length_append]; exact q.2.1)) q.2.2

/-! ### x, y = e of the def's own lists -/
theorem s_tgtP {tg : Expr} {t : Tg} (he : DE X x m) (hg : DG X tg t) (hs : swapsWithSole [tg] x pos.line X.env = pure false := by rfl) (hw : swappedStores [tg] x X.env = pure none := by rfl)
    (h1 : (assignEach [tg] X.env).map (·.2) = [assign tg X.env] := by rfl) : DS X (.Assign [tg] x pos) (sTgtP t m) := psW (ps_asg he hg hs hw h1) fun E σ H ⟨Hv0, H0, Hv, e, P, S, h, F⟩ =>
  ⟨_, e, _, S.erF, S.full_vw, h, fun d v Hv1 H1 f r ⟨hp, e', hb, q⟩ => (S.back f).1.bind ((S.back f).2 _ d v hp r) hb fun σ' S' => F.nx _ _ _ _ S' q⟩

/-! ### tuple * int -/
theorem tuple_mul1 (l : Addr) (items : Array Value) (n : Nat) (dd : Option Addr) (sl : Array (Option Value)) (x : Int) (u : Tok) (c0 : (decide (x < -(2 ^ 63)) || decide (x ≥ 2 ^ 63)) = false) (c1 : (items.isEmpty || x == 1) = true) :
    Meets (Builtin.«tuple.__mul__» ⟨[.ref l, .int x u], []⟩) (fun _ R s => s.heap.get? l = some { cls := .type "tuple", dict := dd, data := .seq items n, slots := sl } ∧ R (.ok (.ret (Value.ref l))) s) :=
  .of_wp fun prog w A R s h => by
    obtain ⟨hp, g, d, tk, os⟩ := s
    obtain ⟨hl, h⟩ := h
    have f1 := AutoSeq1.idx_int
    wp_walk using wpAny_loadPart' hl
    repeat (first
      | (refine wpAny_ite_false (decide_eq_false (by rw [c0]; exact Bool.false_ne_true)) ?_; wp_walk using wpAny_loadPart' hl)
      | (refine wpAny_ite_true (decide_eq_true (by rw [c1])) ?_; wp_walk using wpAny_loadPart' hl))
    exact ⟨_, rfl, h⟩
theorem tuple_mul0 (l : Addr) (items : Array Value) (n : Nat) (dd : Option Addr) (sl : Array (Option Value)) (x : Int) (u : Tok) (c0 : (decide (x < -(2 ^ 63)) || decide (x ≥ 2 ^ 63)) = false) (c1 : (items.isEmpty || x == 1) = false) (c2 : (decide (x ≤ 0) || items.isEmpty) = true) :
    Meets (Builtin.«tuple.__mul__» ⟨[.ref l, .int x u], []⟩) (fun _ R s => s.heap.get? l = some { cls := .type "tuple", dict := dd, data := .seq items n, slots := sl } ∧
      R (.ok (.ret (Value.ref s.heap.objs.size))) { s with heap := s.heap.push { cls := Value.type "tuple", data := Data.seq #[] }, toks := s.toks }) :=
  .of_wp fun prog w A R s h => by
    obtain ⟨hp, g, d, tk, os⟩ := s
    obtain ⟨hl, h⟩ := h
    have f1 := AutoSeq1.idx_int
    wp_walk using wpAny_loadPart' hl
    repeat (first
      | (refine wpAny_ite_false (decide_eq_false (by rw [c0]; exact Bool.false_ne_true)) ?_; wp_walk using wpAny_loadPart' hl)
      | (refine wpAny_ite_false (decide_eq_false (by rw [c1]; exact Bool.false_ne_true)) ?_; wp_walk using wpAny_loadPart' hl)
      | (refine wpAny_ite_true (decide_eq_true (by rw [c2])) ?_; wp_walk using wpAny_loadPart' hl))
    exact ⟨_, rfl, h⟩

def wMulT : W2
  | .int i, .int j, Q => MulOk i j ∧ Q (.int (i * j))
  | .tuple xs, .int k, Q => -(2 ^ 63) ≤ k ∧ k ≤ 1000 ∧ xs.length ≤ 1000 ∧ Q (.tuple (List.replicate k.toNat xs).flatten)
  | _, _, _ => False
theorem op_mulTJ : OpR X (binaryOp .Mult) (rW2 X.K wMulT) := by
  intro pins s σ H x y v u Q I rx ry ⟨Hv, dx, dy, QD, vw, r1, r2, w, kk⟩
  cases dx <;> cases dy <;> first | exact w.elim | skip
  · cases r1; cases r2
    rcases w.1 with c | c
    · exact op_mul pins s σ H _ _ v u Q I rx ry ⟨_, _, rfl, rfl, c, kk _ _ Hv H (.refl vw) (.int _) w.2⟩
    · exact op_mulW pins s σ H _ _ v u Q I rx ry ⟨_, _, rfl, rfl, c, kk _ _ Hv H (.refl vw) (.int _) w.2⟩
  · rename_i ds k
    cases r1 with
    | @tup a xs _ hs ha hl =>
      cases r2
      cases rx
      obtain ⟨t, rfl⟩ := ry
      obtain ⟨h1, h2, h3, q⟩ := w
      obtain ⟨its, r, ⟨⟨cls, dd, data, sl⟩, ho, hc, n, hd⟩, hz⟩ := I.tuple (vw.sqt hs)
      simp only at hc hd
      subst hc hd
      have hle : its.length = xs.length := r.length.symm
      have hxl : xs.length = ds.length := ha.length
      have c0 : (decide (k < -(2 ^ 63)) || decide (k ≥ 2 ^ 63)) = false := by
        rw [decide_eq_false (by omega), decide_eq_false (by omega)] <;> rfl
      refine wpAny_binaryOp_repeat_ref (T := "tuple") (U := "int") (by decide) ⟨_, ho, rfl⟩ (fun s' => typeIs_int s' k t) noFill_tuple_mul F.fills_int_mul F.slot_int_rmul repeat_tuple F.slot_int_index.lookup
        (call_meets F.slot_int_rmul (typeIs_int s k t) F.entry_int_rmul (F.args_int_rmul_2 _ _) (int_rmul_tuple k t a its.toArray n dd sl) ⟨ho, rfl, ⟨_, ho, rfl⟩, ?_⟩)
      by_cases e1 : its.toArray.isEmpty = true ∨ k = 1
      · have c1 : (its.toArray.isEmpty || k == 1) = true := by
          rcases e1 with e | e
          · rw [e]; rfl
          · rw [e]; simp
        refine call_meets F.slot_tuple_mul ⟨_, ho, rfl⟩ F.entry_tuple_mul (F.args_tuple_mul_2 _ _) (tuple_mul1 a its.toArray n dd sl k t c0 c1) ⟨ho, ?_⟩
        have e2 : (List.replicate k.toNat ds).flatten = ds := by
          rcases e1 with e | e
          · have : ds = [] := by
              apply List.eq_nil_of_length_eq_zero
              have : its = [] := by cases its with | nil => rfl | cons _ _ => simp at e
              rw [← hxl, ← hle, this]
              rfl
            subst this
            simp
          · rw [e]
            simp
        rw [e2] at q
        exact ⟨.ref a, H, I, rfl, kk _ _ Hv H (.refl vw) (.tup hs ha hl) q⟩
      · have hi : its.toArray.isEmpty = false := by
          cases c : its.toArray.isEmpty with
          | false => rfl
          | true => exact absurd (.inl c) e1
        have c1 : (its.toArray.isEmpty || k == 1) = false := by
          rw [hi, Bool.false_or]
          exact beq_eq_false_iff_ne.mpr fun e => e1 (.inr e)
        by_cases hk : k ≤ 0
        · have c2 : (decide (k ≤ 0) || its.toArray.isEmpty) = true := by rw [decide_eq_true hk]; rfl
          refine call_meets F.slot_tuple_mul ⟨_, ho, rfl⟩ F.entry_tuple_mul (F.args_tuple_mul_2 _ _) (tuple_mul0 a its.toArray n dd sl k t c0 c1 c2) ⟨ho, ?_⟩
          have e2 : (List.replicate k.toNat ds).flatten = [] := by rw [show k.toNat = 0 by omega]; rfl
          rw [e2] at q
          have g := Fw.new (o := tO [] []) vw (newAt I) mark_ne_tup
          exact ⟨.ref _, _, laidT (xs := []) (its := []) I (Nat.zero_le _) .nil, rfl, kk _ _ _ _ g (.tup SqJ.of .nil (Nat.zero_le _)) q⟩
        · have c2 : (decide (k ≤ 0) || its.toArray.isEmpty) = false := by
            rw [hi, Bool.or_false]
            exact decide_eq_false hk
          have hm : ((its.toArray.size : Nat) : Int) * k ≤ 1000000 := by
            rw [List.size_toArray, hle, hxl]
            have a1 : ((ds.length : Nat) : Int) * k ≤ 1000 * k := Int.mul_le_mul_of_nonneg_right (by omega) (by omega)
            omega
          have flen : (List.replicate k.toNat its).flatten.length ≤ sizeLine := by
            rw [PyProof.Rows.lm_len_rep_flat, hle, hxl, sizeLine_eq]
            have a1 : k.toNat * ds.length ≤ 1000 * 1000 := Nat.mul_le_mul (by omega) h3
            omega
          have c4 : Builtin.Tuple.tupleTooMany (((its.toArray.size : Nat) : Int) * k) = false := by
            unfold Builtin.Tuple.tupleTooMany
            rw [sizeLine_eq]
            exact decide_eq_false (by omega)
          refine call_meets F.slot_tuple_mul ⟨_, ho, rfl⟩ F.entry_tuple_mul (F.args_tuple_mul_2 _ _) (tuple_mulW a its.toArray n dd sl k t c0 c1 c2 (by omega) c4 (by rw [size_rep, List.size_toArray]; exact flen)) ⟨ho, ?_⟩
          rw [size_rep]
          have hl2 : (List.replicate k.toNat ds).flatten.length ≤ sizeLine := by
            rw [PyProof.Rows.lm_len_rep_flat, sizeLine_eq]
            have a1 : k.toNat * ds.length ≤ 1000 * 1000 := Nat.mul_le_mul (by omega) h3
            omega
          have g := Fw.new (o := tO (List.replicate k.toNat its).flatten (List.replicate k.toNat xs).flatten) vw (newAt I) mark_ne_tup
          exact ⟨.ref _, _, laidT I (by rw [PyProof.Rows.lm_len_rep_flat, hxl, ← PyProof.Rows.lm_len_rep_flat]; exact hl2) (r.rep k.toNat), rfl, kk _ _ _ _ g (.tup SqJ.of (Rp.monoAll g.ext _ _ (ha.rep _)) hl2) q⟩
theorem wMulT_i {i j : Int} {Q : D → Prop} : wMulT (.int i) (.int j) Q = (MulOk i j ∧ Q (.int (i * j))) := rfl
theorem wMulT_t {xs : List D} {k : Int} {Q : D → Prop} : wMulT (.tuple xs) (.int k) Q = (-(2 ^ 63) ≤ k ∧ k ≤ 1000 ∧ xs.length ≤ 1000 ∧ Q (.tuple (List.replicate k.toNat xs).flatten)) := rfl
theorem wRevS_l {ds : List D} {Q : D → Prop} : wRevS (.list ds) Q = Q (.list ds.reverse) := rfl
theorem wRevS_t {ds : List D} {Q : D → Prop} : wRevS (.tuple ds) Q = Q (.tuple ds.reverse) := rfl
end
end J

namespace Lk72
open PySem PySem.Spec PyProof.Rows L2 J
abbrev S__law_take : WL := S_take
abbrev S__law_draws : WL := S_draws
abbrev S__law_cell : WL := S_cell1
abbrev S__law_same : WL := S_same 8
/-! ## numbers -/
abbrev T (ss : List Int) : D := .tuple (ss.map PyData.int)
def tz (n d : Int) : Int := if 0 ≤ n then n / d else -(-n / d)
def fracP (n d : Int) : Int × Int := ((if d < 0 then -1 else 1) * n / (Int.gcd n d : Nat), (if d < 0 then -1 else 1) * d / (Int.gcd n d : Nat))
abbrev P2 (p : Int × Int) : D := .tuple [.int p.1, .int p.2]
theorem log_lt {i : Int} {k : Nat} (h : i.natAbs < 2 ^ k) (hk : 0 < k) : i.natAbs.log2 < k := by
  by_cases e : i.natAbs = 0
  · rw [e]; simpa using hk
  · exact (Nat.log2_lt e).mpr h
theorem mul_b {i j : Int} {a b : Nat} (hi : i.natAbs < 2 ^ a) (hj : j.natAbs < 2 ^ b) (ha : 0 < a := by decide) (hb : 0 < b := by decide) (hab : a + b ≤ 1000000 := by decide) : MulOk i j := .inr (by
  have h1 := log_lt hi ha
  have h2 := log_lt hj hb
  show i.natAbs.log2 + j.natAbs.log2 < 1000000
  omega)
theorem div_b {i j : Int} (h0 : 0 < j) (h : j.natAbs < 2 ^ 8000) : DivOk i j := .inr ⟨h0, by have := log_lt h (by decide); omega⟩
theorem sgn_mul {d n : Int} : MulOk (if d < 0 then -1 else 1) n := mul_l (by split <;> decide)
/-! common_divisor: 0=one 1=other -/
def m_common_divisor_b2 : SX := (sPar 0 1 [(eVar 1), (eOp wMod (eVar 0) (eVar 1))])
def m_common_divisor_r2 : SX := (sRet (eVar 0))
def m_common_divisor : SX := (sSeq (sPar 0 1 [(eCall wAbs [(eVar 0)]), (eCall wAbs [(eVar 1)])])
      (sSeq (sWhile (tOf (eOp wGt (eVar 1) (eC (.int 0)))) m_common_divisor_b2)
      m_common_divisor_r2))
def S_common_divisor : WL := fun ds Q => ∃ n d : Int, ds = [.int n, .int d] ∧ Q (.int (Int.gcd n d : Nat))
theorem gcd_step (a b : Nat) : Nat.gcd b (a % b) = Nat.gcd a b := by
  rw [Nat.gcd_comm a b, Nat.gcd_rec b a, Nat.gcd_comm]
theorem while_dn {mt : TX} {s : SX} {e : En} {P : Po} (I : Nat → En → Prop) (n0 : Nat) (h0 : I n0 e)
    (hs : ∀ n e, I n e → ∀ R : En → Prop, (∀ m e2, m < n → I m e2 → R e2) → mt e fun b => if b = true then s e ⟨R, P.rt, P.nx, R, P.rn⟩ else P.nx e) : sWhile mt s e P :=
  ⟨I, ⟨n0, h0⟩, fun n e' hI => hs n e' hI (fun e2 => ∃ n', n' < n ∧ I n' e2) fun m e2 hm hI2 => ⟨m, hm, hI2⟩⟩
theorem wp_common_divisor (ds : List D) (QD : D → Prop) (h : S_common_divisor ds QD) : m_common_divisor (startE 2 ds) ⟨fun _ => QD .none, QD, noB, noB, fun es => QD (.list es)⟩ := by
  obtain ⟨n, d, rfl, q⟩ := h
  unfold m_common_divisor
  try simp only [sSeq, sSkip, sAsg, sAsgP, sNew, sNewP, sRet, sRetO, sIf, sApp, sAppP, sSet, sAug, sTgt, sTgtP, sPar, sFz, frz, sFor, sForR, sRev, sBrk, sCnt, sDrop, eOp, eUn, eCall, eVar, eC, eFr, eTup, eTupR, eAnd, eOr, eNot, eIf, eChain, eIndex, eSl, nLst, nList, nListR, nLc, nLc2, nCall, nSorted, nRep, tOf, tAndJ, tOrJ, tNotJ, tTrue, iSeq, iR1, iR2, iR3, rg1, rg2, evA, pNo, pSo, startE, hide, rd, hide_v, hide_o, hide_n, rd_v, rd_o, rd_n, bind_one, bind_many, setAll, List.map, List.replicate, List.length, List.cons_append, List.nil_append, List.getElem?_cons_zero, List.getElem?_cons_succ, List.set_cons_zero, List.set_cons_succ, Option.bind_some, ex_some, Option.some.injEq, Slot.own.injEq, Slot.val.injEq, exists_eq_left', true_and, and_true, Bool.false_eq_true, if_false, if_true, reduceIte, wEq, wNe, wAdd_i, wAdd_t, wAdd_l, wAdd_s, wSub_i, wMul_i, wDiv_i, wMod_i, wPow_i, wNeg_i, wLt_i, wLe_i, wGt_i, wGe_i, wIs_n, wIs_b, wIsNot_n, wIsNot_b, wIx_l, wIx_t, wLen_l, wLen_t, wAbs_i, wInt_i, wInt_b, wMax2_i, wMin2_i, wTuple_l, wTuple_t, wB_b, wI_i, seqOf_l, seqOf_t, wIAdd_i, wIAdd_t, wIMul_i, wSl_l, wSl_t, wIn_l, wIn_t, wNotIn_l, wNotIn_t, items_l, items_t, lv_i, lv_b, lv_n, eqv_ii, eqv_bb, isNon_n, isNon_i, isNon_b, isNon_s, isNon_t, isNon_l, Bool.not_true, Bool.not_false, b2n_t, b2n_f, pl_i, pl_b, pl_n, decide_eq_true_eq, sExt, sExtP, wMulT_i, wMulT_t, wRevS_l, wRevS_t]
  refine while_dn (fun k e => ∃ a : Nat, Nat.gcd a k = Int.gcd n d ∧ e = [.val (.int (a : Nat)), .val (.int (k : Nat))]) d.natAbs ⟨n.natAbs, rfl, rfl⟩ ?_
  rintro k e ⟨a, hg, rfl⟩ R hR
  unfold m_common_divisor_b2 m_common_divisor_r2
  try simp only [sSeq, sSkip, sAsg, sAsgP, sNew, sNewP, sRet, sRetO, sIf, sApp, sAppP, sSet, sAug, sTgt, sTgtP, sPar, sFz, frz, sFor, sForR, sRev, sBrk, sCnt, sDrop, eOp, eUn, eCall, eVar, eC, eFr, eTup, eTupR, eAnd, eOr, eNot, eIf, eChain, eIndex, eSl, nLst, nList, nListR, nLc, nLc2, nCall, nSorted, nRep, tOf, tAndJ, tOrJ, tNotJ, tTrue, iSeq, iR1, iR2, iR3, rg1, rg2, evA, pNo, pSo, startE, hide, rd, hide_v, hide_o, hide_n, rd_v, rd_o, rd_n, bind_one, bind_many, setAll, List.map, List.replicate, List.length, List.cons_append, List.nil_append, List.getElem?_cons_zero, List.getElem?_cons_succ, List.set_cons_zero, List.set_cons_succ, Option.bind_some, ex_some, Option.some.injEq, Slot.own.injEq, Slot.val.injEq, exists_eq_left', true_and, and_true, Bool.false_eq_true, if_false, if_true, reduceIte, wEq, wNe, wAdd_i, wAdd_t, wAdd_l, wAdd_s, wSub_i, wMul_i, wDiv_i, wMod_i, wPow_i, wNeg_i, wLt_i, wLe_i, wGt_i, wGe_i, wIs_n, wIs_b, wIsNot_n, wIsNot_b, wIx_l, wIx_t, wLen_l, wLen_t, wAbs_i, wInt_i, wInt_b, wMax2_i, wMin2_i, wTuple_l, wTuple_t, wB_b, wI_i, seqOf_l, seqOf_t, wIAdd_i, wIAdd_t, wIMul_i, wSl_l, wSl_t, wIn_l, wIn_t, wNotIn_l, wNotIn_t, items_l, items_t, lv_i, lv_b, lv_n, eqv_ii, eqv_bb, isNon_n, isNon_i, isNon_b, isNon_s, isNon_t, isNon_l, Bool.not_true, Bool.not_false, b2n_t, b2n_f, pl_i, pl_b, pl_n, decide_eq_true_eq, sExt, sExtP, wMulT_i, wMulT_t, wRevS_l, wRevS_t]
  split
  · rename_i hlt
    refine ⟨hlt, hR (a % k) _ (Nat.mod_lt _ (by omega)) ⟨k, by rw [gcd_step, hg], ?_⟩⟩
    rw [Int.natCast_emod]
  · rename_i hlt
    have : k = 0 := by omega
    subst this
    rw [Nat.gcd_zero_right] at hg
    rw [hg]
    exact q
/-! fraction: 0=n 1=d 2=sign 3=divisor -/
def m_fraction : SX := (sSeq (sAsg 2 (eIf (tOf (eOp wLt (eVar 1) (eC (.int 0)))) (eUn wNeg (eC (.int 1))) (eC (.int 1))))
      (sSeq (sAsg 3 (eCall S_common_divisor [(eVar 0), (eVar 1)]))
      (sRet (eTup [(eOp wDiv (eOp wMul (eVar 2) (eVar 0)) (eVar 3)), (eOp wDiv (eOp wMul (eVar 2) (eVar 1)) (eVar 3))]))))
def S_fraction : WL := fun ds Q => ∃ n d : Int, ds = [.int n, .int d] ∧ d ≠ 0 ∧ d.natAbs < 2 ^ 8000 ∧ Q (P2 (fracP n d))
theorem gcd_facts {n d : Int} (h : d ≠ 0) : 0 < Int.gcd n d ∧ Int.gcd n d ≤ d.natAbs := by
  constructor
  · exact Int.gcd_pos_of_ne_zero_right n h
  · exact Nat.le_of_dvd (by omega) (Int.gcd_dvd_natAbs_right n d)
theorem wp_fraction (ds : List D) (QD : D → Prop) (h : S_fraction ds QD) : m_fraction (startE 4 ds) ⟨fun _ => QD .none, QD, noB, noB, fun es => QD (.list es)⟩ := by
  obtain ⟨n, d, rfl, hd, hb, q⟩ := h
  have hg := gcd_facts (n := n) hd
  have hdv : ∀ i : Int, DivOk i (Int.gcd n d : Nat) := fun i => div_b (by omega) (by rw [Int.natAbs_natCast]; omega)
  unfold m_fraction
  try simp only [sSeq, sSkip, sAsg, sAsgP, sNew, sNewP, sRet, sRetO, sIf, sApp, sAppP, sSet, sAug, sTgt, sTgtP, sPar, sFz, frz, sFor, sForR, sRev, sBrk, sCnt, sDrop, eOp, eUn, eCall, eVar, eC, eFr, eTup, eTupR, eAnd, eOr, eNot, eIf, eChain, eIndex, eSl, nLst, nList, nListR, nLc, nLc2, nCall, nSorted, nRep, tOf, tAndJ, tOrJ, tNotJ, tTrue, iSeq, iR1, iR2, iR3, rg1, rg2, evA, pNo, pSo, startE, hide, rd, hide_v, hide_o, hide_n, rd_v, rd_o, rd_n, bind_one, bind_many, setAll, List.map, List.replicate, List.length, List.cons_append, List.nil_append, List.getElem?_cons_zero, List.getElem?_cons_succ, List.set_cons_zero, List.set_cons_succ, Option.bind_some, ex_some, Option.some.injEq, Slot.own.injEq, Slot.val.injEq, exists_eq_left', true_and, and_true, Bool.false_eq_true, if_false, if_true, reduceIte, wEq, wNe, wAdd_i, wAdd_t, wAdd_l, wAdd_s, wSub_i, wMul_i, wDiv_i, wMod_i, wPow_i, wNeg_i, wLt_i, wLe_i, wGt_i, wGe_i, wIs_n, wIs_b, wIsNot_n, wIsNot_b, wIx_l, wIx_t, wLen_l, wLen_t, wAbs_i, wInt_i, wInt_b, wMax2_i, wMin2_i, wTuple_l, wTuple_t, wB_b, wI_i, seqOf_l, seqOf_t, wIAdd_i, wIAdd_t, wIMul_i, wSl_l, wSl_t, wIn_l, wIn_t, wNotIn_l, wNotIn_t, items_l, items_t, lv_i, lv_b, lv_n, eqv_ii, eqv_bb, isNon_n, isNon_i, isNon_b, isNon_s, isNon_t, isNon_l, Bool.not_true, Bool.not_false, b2n_t, b2n_f, pl_i, pl_b, pl_n, decide_eq_true_eq, sExt, sExtP, wMulT_i, wMulT_t, wRevS_l, wRevS_t]
  unfold fracP at q
  split
  · rename_i c
    rw [if_pos c] at q
    refine ⟨n, d, rfl, ?_⟩
    try simp only [sSeq, sSkip, sAsg, sAsgP, sNew, sNewP, sRet, sRetO, sIf, sApp, sAppP, sSet, sAug, sTgt, sTgtP, sPar, sFz, frz, sFor, sForR, sRev, sBrk, sCnt, sDrop, eOp, eUn, eCall, eVar, eC, eFr, eTup, eTupR, eAnd, eOr, eNot, eIf, eChain, eIndex, eSl, nLst, nList, nListR, nLc, nLc2, nCall, nSorted, nRep, tOf, tAndJ, tOrJ, tNotJ, tTrue, iSeq, iR1, iR2, iR3, rg1, rg2, evA, pNo, pSo, startE, hide, rd, hide_v, hide_o, hide_n, rd_v, rd_o, rd_n, bind_one, bind_many, setAll, List.map, List.replicate, List.length, List.cons_append, List.nil_append, List.getElem?_cons_zero, List.getElem?_cons_succ, List.set_cons_zero, List.set_cons_succ, Option.bind_some, ex_some, Option.some.injEq, Slot.own.injEq, Slot.val.injEq, exists_eq_left', true_and, and_true, Bool.false_eq_true, if_false, if_true, reduceIte, wEq, wNe, wAdd_i, wAdd_t, wAdd_l, wAdd_s, wSub_i, wMul_i, wDiv_i, wMod_i, wPow_i, wNeg_i, wLt_i, wLe_i, wGt_i, wGe_i, wIs_n, wIs_b, wIsNot_n, wIsNot_b, wIx_l, wIx_t, wLen_l, wLen_t, wAbs_i, wInt_i, wInt_b, wMax2_i, wMin2_i, wTuple_l, wTuple_t, wB_b, wI_i, seqOf_l, seqOf_t, wIAdd_i, wIAdd_t, wIMul_i, wSl_l, wSl_t, wIn_l, wIn_t, wNotIn_l, wNotIn_t, items_l, items_t, lv_i, lv_b, lv_n, eqv_ii, eqv_bb, isNon_n, isNon_i, isNon_b, isNon_s, isNon_t, isNon_l, Bool.not_true, Bool.not_false, b2n_t, b2n_f, pl_i, pl_b, pl_n, decide_eq_true_eq, sExt, sExtP, wMulT_i, wMulT_t, wRevS_l, wRevS_t]
    exact ⟨mul_l (by decide), hdv _, mul_l (by decide), hdv _, q⟩
  · rename_i c
    rw [if_neg c] at q
    refine ⟨n, d, rfl, ?_⟩
    try simp only [sSeq, sSkip, sAsg, sAsgP, sNew, sNewP, sRet, sRetO, sIf, sApp, sAppP, sSet, sAug, sTgt, sTgtP, sPar, sFz, frz, sFor, sForR, sRev, sBrk, sCnt, sDrop, eOp, eUn, eCall, eVar, eC, eFr, eTup, eTupR, eAnd, eOr, eNot, eIf, eChain, eIndex, eSl, nLst, nList, nListR, nLc, nLc2, nCall, nSorted, nRep, tOf, tAndJ, tOrJ, tNotJ, tTrue, iSeq, iR1, iR2, iR3, rg1, rg2, evA, pNo, pSo, startE, hide, rd, hide_v, hide_o, hide_n, rd_v, rd_o, rd_n, bind_one, bind_many, setAll, List.map, List.replicate, List.length, List.cons_append, List.nil_append, List.getElem?_cons_zero, List.getElem?_cons_succ, List.set_cons_zero, List.set_cons_succ, Option.bind_some, ex_some, Option.some.injEq, Slot.own.injEq, Slot.val.injEq, exists_eq_left', true_and, and_true, Bool.false_eq_true, if_false, if_true, reduceIte, wEq, wNe, wAdd_i, wAdd_t, wAdd_l, wAdd_s, wSub_i, wMul_i, wDiv_i, wMod_i, wPow_i, wNeg_i, wLt_i, wLe_i, wGt_i, wGe_i, wIs_n, wIs_b, wIsNot_n, wIsNot_b, wIx_l, wIx_t, wLen_l, wLen_t, wAbs_i, wInt_i, wInt_b, wMax2_i, wMin2_i, wTuple_l, wTuple_t, wB_b, wI_i, seqOf_l, seqOf_t, wIAdd_i, wIAdd_t, wIMul_i, wSl_l, wSl_t, wIn_l, wIn_t, wNotIn_l, wNotIn_t, items_l, items_t, lv_i, lv_b, lv_n, eqv_ii, eqv_bb, isNon_n, isNon_i, isNon_b, isNon_s, isNon_t, isNon_l, Bool.not_true, Bool.not_false, b2n_t, b2n_f, pl_i, pl_b, pl_n, decide_eq_true_eq, sExt, sExtP, wMulT_i, wMulT_t, wRevS_l, wRevS_t]
    exact ⟨mul_l (by decide), hdv _, mul_l (by decide), hdv _, q⟩
/-- small enough -/
abbrev Sm (i : Int) : Prop := i.natAbs < 2 ^ 1000
theorem sm_mul {i j : Int} (hi : Sm i) (hj : Sm j) : MulOk i j := mul_b hi hj
theorem abs_mul_lt {i j : Int} {a b : Nat} (hi : i.natAbs < 2 ^ a) (hj : j.natAbs < 2 ^ b) : (i * j).natAbs < 2 ^ (a + b) := by
  rw [Int.natAbs_mul, Nat.pow_add]
  exact Nat.mul_lt_mul'' hi hj
/-! plus_of: 0=one 1=other -/
def m_plus_of : SX := (sRet (eCall S_fraction [(eOp wAdd (eOp wMul (eOp wIx (eVar 0) (eC (.int 0))) (eOp wIx (eVar 1) (eC (.int 1)))) (eOp wMul (eOp wIx (eVar 1) (eC (.int 0))) (eOp wIx (eVar 0) (eC (.int 1))))), (eOp wMul (eOp wIx (eVar 0) (eC (.int 1))) (eOp wIx (eVar 1) (eC (.int 1))))]))
def plusP (p r : Int × Int) : Int × Int := fracP (p.1 * r.2 + r.1 * p.2) (p.2 * r.2)
def S_plus_of : WL := fun ds Q => ∃ p r : Int × Int, ds = [P2 p, P2 r] ∧ p.2 ≠ 0 ∧ r.2 ≠ 0 ∧ Sm p.1 ∧ Sm p.2 ∧ Sm r.1 ∧ Sm r.2 ∧ Q (P2 (plusP p r))
theorem at0 {a b : D} : atI [a, b] 0 = some a := rfl
theorem at1 {a b : D} : atI [a, b] 1 = some b := rfl
theorem wp_plus_of (ds : List D) (QD : D → Prop) (h : S_plus_of ds QD) : m_plus_of (startE 2 ds) ⟨fun _ => QD .none, QD, noB, noB, fun es => QD (.list es)⟩ := by
  obtain ⟨⟨a, b⟩, ⟨c, d⟩, rfl, hb, hd, s1, s2, s3, s4, q⟩ := h
  simp only at hb hd s1 s2 s3 s4
  unfold m_plus_of
  try simp only [sSeq, sSkip, sAsg, sAsgP, sNew, sNewP, sRet, sRetO, sIf, sApp, sAppP, sSet, sAug, sTgt, sTgtP, sPar, sFz, frz, sFor, sForR, sRev, sBrk, sCnt, sDrop, eOp, eUn, eCall, eVar, eC, eFr, eTup, eTupR, eAnd, eOr, eNot, eIf, eChain, eIndex, eSl, nLst, nList, nListR, nLc, nLc2, nCall, nSorted, nRep, tOf, tAndJ, tOrJ, tNotJ, tTrue, iSeq, iR1, iR2, iR3, rg1, rg2, evA, pNo, pSo, startE, hide, rd, hide_v, hide_o, hide_n, rd_v, rd_o, rd_n, bind_one, bind_many, setAll, List.map, List.replicate, List.length, List.cons_append, List.nil_append, List.getElem?_cons_zero, List.getElem?_cons_succ, List.set_cons_zero, List.set_cons_succ, Option.bind_some, ex_some, Option.some.injEq, Slot.own.injEq, Slot.val.injEq, exists_eq_left', true_and, and_true, Bool.false_eq_true, if_false, if_true, reduceIte, wEq, wNe, wAdd_i, wAdd_t, wAdd_l, wAdd_s, wSub_i, wMul_i, wDiv_i, wMod_i, wPow_i, wNeg_i, wLt_i, wLe_i, wGt_i, wGe_i, wIs_n, wIs_b, wIsNot_n, wIsNot_b, wIx_l, wIx_t, wLen_l, wLen_t, wAbs_i, wInt_i, wInt_b, wMax2_i, wMin2_i, wTuple_l, wTuple_t, wB_b, wI_i, seqOf_l, seqOf_t, wIAdd_i, wIAdd_t, wIMul_i, wSl_l, wSl_t, wIn_l, wIn_t, wNotIn_l, wNotIn_t, items_l, items_t, lv_i, lv_b, lv_n, eqv_ii, eqv_bb, isNon_n, isNon_i, isNon_b, isNon_s, isNon_t, isNon_l, Bool.not_true, Bool.not_false, b2n_t, b2n_f, pl_i, pl_b, pl_n, decide_eq_true_eq, sExt, sExtP, wMulT_i, wMulT_t, wRevS_l, wRevS_t, at0, at1]
  refine ⟨sm_mul s1 s4, sm_mul s3 s2, sm_mul s2 s4, _, _, rfl, Int.mul_ne_zero hb hd, ?_, q⟩
  exact Nat.lt_of_lt_of_le (abs_mul_lt s2 s4) (Nat.pow_le_pow_right (by decide) (by decide))
/-! times_of: 0=one 1=other -/
def m_times_of : SX := (sRet (eCall S_fraction [(eOp wMul (eOp wIx (eVar 0) (eC (.int 0))) (eOp wIx (eVar 1) (eC (.int 0)))), (eOp wMul (eOp wIx (eVar 0) (eC (.int 1))) (eOp wIx (eVar 1) (eC (.int 1))))]))
def timesP (p r : Int × Int) : Int × Int := fracP (p.1 * r.1) (p.2 * r.2)
def S_times_of : WL := fun ds Q => ∃ p r : Int × Int, ds = [P2 p, P2 r] ∧ p.2 ≠ 0 ∧ r.2 ≠ 0 ∧ Sm p.1 ∧ Sm p.2 ∧ Sm r.1 ∧ Sm r.2 ∧ Q (P2 (timesP p r))
theorem wp_times_of (ds : List D) (QD : D → Prop) (h : S_times_of ds QD) : m_times_of (startE 2 ds) ⟨fun _ => QD .none, QD, noB, noB, fun es => QD (.list es)⟩ := by
  obtain ⟨⟨a, b⟩, ⟨c, d⟩, rfl, hb, hd, s1, s2, s3, s4, q⟩ := h
  simp only at hb hd s1 s2 s3 s4
  unfold m_times_of
  try simp only [sSeq, sSkip, sAsg, sAsgP, sNew, sNewP, sRet, sRetO, sIf, sApp, sAppP, sSet, sAug, sTgt, sTgtP, sPar, sFz, frz, sFor, sForR, sRev, sBrk, sCnt, sDrop, eOp, eUn, eCall, eVar, eC, eFr, eTup, eTupR, eAnd, eOr, eNot, eIf, eChain, eIndex, eSl, nLst, nList, nListR, nLc, nLc2, nCall, nSorted, nRep, tOf, tAndJ, tOrJ, tNotJ, tTrue, iSeq, iR1, iR2, iR3, rg1, rg2, evA, pNo, pSo, startE, hide, rd, hide_v, hide_o, hide_n, rd_v, rd_o, rd_n, bind_one, bind_many, setAll, List.map, List.replicate, List.length, List.cons_append, List.nil_append, List.getElem?_cons_zero, List.getElem?_cons_succ, List.set_cons_zero, List.set_cons_succ, Option.bind_some, ex_some, Option.some.injEq, Slot.own.injEq, Slot.val.injEq, exists_eq_left', true_and, and_true, Bool.false_eq_true, if_false, if_true, reduceIte, wEq, wNe, wAdd_i, wAdd_t, wAdd_l, wAdd_s, wSub_i, wMul_i, wDiv_i, wMod_i, wPow_i, wNeg_i, wLt_i, wLe_i, wGt_i, wGe_i, wIs_n, wIs_b, wIsNot_n, wIsNot_b, wIx_l, wIx_t, wLen_l, wLen_t, wAbs_i, wInt_i, wInt_b, wMax2_i, wMin2_i, wTuple_l, wTuple_t, wB_b, wI_i, seqOf_l, seqOf_t, wIAdd_i, wIAdd_t, wIMul_i, wSl_l, wSl_t, wIn_l, wIn_t, wNotIn_l, wNotIn_t, items_l, items_t, lv_i, lv_b, lv_n, eqv_ii, eqv_bb, isNon_n, isNon_i, isNon_b, isNon_s, isNon_t, isNon_l, Bool.not_true, Bool.not_false, b2n_t, b2n_f, pl_i, pl_b, pl_n, decide_eq_true_eq, sExt, sExtP, wMulT_i, wMulT_t, wRevS_l, wRevS_t, at0, at1]
  refine ⟨sm_mul s1 s3, sm_mul s2 s4, _, _, rfl, Int.mul_ne_zero hb hd, ?_, q⟩
  exact Nat.lt_of_lt_of_le (abs_mul_lt s2 s4) (Nat.pow_le_pow_right (by decide) (by decide))
/-! toward_zero_levels: 0=n 1=d -/
def m_toward_zero_levels : SX := (sRet (eIf (tOf (eOp wGe (eVar 0) (eC (.int 0)))) (eOp wDiv (eVar 0) (eVar 1)) (eUn wNeg (eOp wDiv (eUn wNeg (eVar 0)) (eVar 1)))))
def S_toward_zero_levels : WL := fun ds Q => ∃ n d : Int, ds = [.int n, .int d] ∧ 0 < d ∧ d.natAbs < 2 ^ 8000 ∧ Q (.int (tz n d))
theorem wp_toward_zero_levels (ds : List D) (QD : D → Prop) (h : S_toward_zero_levels ds QD) : m_toward_zero_levels (startE 2 ds) ⟨fun _ => QD .none, QD, noB, noB, fun es => QD (.list es)⟩ := by
  obtain ⟨n, d, rfl, h0, hb, q⟩ := h
  unfold m_toward_zero_levels
  unfold tz at q
  try simp only [sSeq, sSkip, sAsg, sAsgP, sNew, sNewP, sRet, sRetO, sIf, sApp, sAppP, sSet, sAug, sTgt, sTgtP, sPar, sFz, frz, sFor, sForR, sRev, sBrk, sCnt, sDrop, eOp, eUn, eCall, eVar, eC, eFr, eTup, eTupR, eAnd, eOr, eNot, eIf, eChain, eIndex, eSl, nLst, nList, nListR, nLc, nLc2, nCall, nSorted, nRep, tOf, tAndJ, tOrJ, tNotJ, tTrue, iSeq, iR1, iR2, iR3, rg1, rg2, evA, pNo, pSo, startE, hide, rd, hide_v, hide_o, hide_n, rd_v, rd_o, rd_n, bind_one, bind_many, setAll, List.map, List.replicate, List.length, List.cons_append, List.nil_append, List.getElem?_cons_zero, List.getElem?_cons_succ, List.set_cons_zero, List.set_cons_succ, Option.bind_some, ex_some, Option.some.injEq, Slot.own.injEq, Slot.val.injEq, exists_eq_left', true_and, and_true, Bool.false_eq_true, if_false, if_true, reduceIte, wEq, wNe, wAdd_i, wAdd_t, wAdd_l, wAdd_s, wSub_i, wMul_i, wDiv_i, wMod_i, wPow_i, wNeg_i, wLt_i, wLe_i, wGt_i, wGe_i, wIs_n, wIs_b, wIsNot_n, wIsNot_b, wIx_l, wIx_t, wLen_l, wLen_t, wAbs_i, wInt_i, wInt_b, wMax2_i, wMin2_i, wTuple_l, wTuple_t, wB_b, wI_i, seqOf_l, seqOf_t, wIAdd_i, wIAdd_t, wIMul_i, wSl_l, wSl_t, wIn_l, wIn_t, wNotIn_l, wNotIn_t, items_l, items_t, lv_i, lv_b, lv_n, eqv_ii, eqv_bb, isNon_n, isNon_i, isNon_b, isNon_s, isNon_t, isNon_l, Bool.not_true, Bool.not_false, b2n_t, b2n_f, pl_i, pl_b, pl_n, decide_eq_true_eq, sExt, sExtP, wMulT_i, wMulT_t, wRevS_l, wRevS_t]
  split
  · rename_i c
    rw [if_pos c] at q
    exact ⟨div_b h0 hb, q⟩
  · rename_i c
    rw [if_neg c] at q
    exact ⟨div_b h0 hb, q⟩
/-! toward_zero_loops: 0=n 1=d -/
def m_toward_zero_loops : SX := (sRet (eIf (tOf (eOp wGe (eVar 0) (eC (.int 0)))) (eOp wDiv (eVar 0) (eVar 1)) (eUn wNeg (eOp wDiv (eUn wNeg (eVar 0)) (eVar 1)))))
abbrev S_toward_zero_loops : WL := S_toward_zero_levels
theorem wp_toward_zero_loops (ds : List D) (QD : D → Prop) (h : S_toward_zero_loops ds QD) : m_toward_zero_loops (startE 2 ds) ⟨fun _ => QD .none, QD, noB, noB, fun es => QD (.list es)⟩ := wp_toward_zero_levels ds QD h

/-! ## samples -/
theorem foldl_max : ∀ (ns : List Int) (n : Int), (ns.foldl max n = n ∨ ns.foldl max n ∈ ns) ∧ n ≤ ns.foldl max n ∧ ∀ y ∈ ns, y ≤ ns.foldl max n
  | [], n => ⟨.inl rfl, Int.le_refl _, by simp⟩
  | m :: ns, n => by
    obtain ⟨h1, h2, h3⟩ := foldl_max ns (max n m)
    rw [List.foldl_cons]
    refine ⟨?_, by omega, fun y hy => ?_⟩
    · rcases h1 with h | h
      · rw [h]
        by_cases q : n ≤ m
        · right; rw [Int.max_eq_right q]; exact List.mem_cons_self
        · left; exact Int.max_eq_left (by omega)
      · right; exact List.mem_cons_of_mem _ h
    · rcases List.mem_cons.mp hy with rfl | hy
      · omega
      · exact h3 y hy
theorem alike_ints (ns : List Int) : PySem.W.AlikeAll (ns.map PyData.int) := ⟨fun x hx y hy => by
  obtain ⟨a, _, rfl⟩ := List.mem_map.mp hx
  obtain ⟨b, _, rfl⟩ := List.mem_map.mp hy
  rfl, fun x hx => by
  obtain ⟨a, _, rfl⟩ := List.mem_map.mp hx
  intro h
  cases h⟩
def loud (ss : List Int) : Int := (ss.map fun s => ((s.natAbs : Nat) : Int)).foldl max 0
theorem max_ints {n : Int} {ns : List Int} {Q : D → Prop} (q : Q (.int (ns.foldl max n))) : wMax1 [.list (.int n :: ns.map PyData.int)] Q :=
  ⟨.int n, ns.map PyData.int, rfl, lv_ints (n :: ns), alike_ints (n :: ns), by rw [PySem.W.maxD_ints]; exact q⟩
/-! loudest: 0=samples 1=sample -/
def m_loudest : SX := (sRet (eCall wMax1 [(eOp wAdd (eFr (nLst [(eC (.int 0))])) (eFr (nLc (iSeq (eVar 0)) (.one 1) [1] tTrue (eCall wAbs [(eVar 1)]))))]))
def S_loudest : WL := fun ds Q => ∃ ss : List Int, ds = [T ss] ∧ ss.length ≤ 16000000 ∧ Q (.int (loud ss))
theorem wp_loudest (ds : List D) (QD : D → Prop) (h : S_loudest ds QD) : m_loudest (startE 2 ds) ⟨fun _ => QD .none, QD, noB, noB, fun es => QD (.list es)⟩ := by
  obtain ⟨ss, rfl, hl, q⟩ := h
  have hz : sizeLine = 16777216 := sizeLine_eq
  unfold m_loudest
  try simp only [sSeq, sSkip, sAsg, sAsgP, sNew, sNewP, sRet, sRetO, sIf, sApp, sAppP, sSet, sAug, sTgt, sTgtP, sPar, sFz, frz, sFor, sForR, sRev, sBrk, sCnt, sDrop, eOp, eUn, eCall, eVar, eC, eFr, eTup, eTupR, eAnd, eOr, eNot, eIf, eChain, eIndex, eSl, nLst, nList, nListR, nLc, nLc2, nCall, nSorted, nRep, tOf, tAndJ, tOrJ, tNotJ, tTrue, iSeq, iR1, iR2, iR3, rg1, rg2, evA, pNo, pSo, startE, hide, rd, hide_v, hide_o, hide_n, rd_v, rd_o, rd_n, bind_one, bind_many, setAll, List.map, List.replicate, List.length, List.cons_append, List.nil_append, List.getElem?_cons_zero, List.getElem?_cons_succ, List.set_cons_zero, List.set_cons_succ, Option.bind_some, ex_some, Option.some.injEq, Slot.own.injEq, Slot.val.injEq, exists_eq_left', true_and, and_true, Bool.false_eq_true, if_false, if_true, reduceIte, wEq, wNe, wAdd_i, wAdd_t, wAdd_l, wAdd_s, wSub_i, wMul_i, wDiv_i, wMod_i, wPow_i, wNeg_i, wLt_i, wLe_i, wGt_i, wGe_i, wIs_n, wIs_b, wIsNot_n, wIsNot_b, wIx_l, wIx_t, wLen_l, wLen_t, wAbs_i, wInt_i, wInt_b, wMax2_i, wMin2_i, wTuple_l, wTuple_t, wB_b, wI_i, seqOf_l, seqOf_t, wIAdd_i, wIAdd_t, wIMul_i, wSl_l, wSl_t, wIn_l, wIn_t, wNotIn_l, wNotIn_t, items_l, items_t, lv_i, lv_b, lv_n, eqv_ii, eqv_bb, isNon_n, isNon_i, isNon_b, isNon_s, isNon_t, isNon_l, Bool.not_true, Bool.not_false, b2n_t, b2n_f, pl_i, pl_b, pl_n, decide_eq_true_eq, sExt, sExtP, wMulT_i, wMulT_t, wRevS_l, wRevS_t]
  refine mapW_ints (fun s => .int (s.natAbs : Nat)) (fun s _ R hR => ?_) ?_
  · refine ⟨_, rfl, ?_⟩
    try simp only [sSeq, sSkip, sAsg, sAsgP, sNew, sNewP, sRet, sRetO, sIf, sApp, sAppP, sSet, sAug, sTgt, sTgtP, sPar, sFz, frz, sFor, sForR, sRev, sBrk, sCnt, sDrop, eOp, eUn, eCall, eVar, eC, eFr, eTup, eTupR, eAnd, eOr, eNot, eIf, eChain, eIndex, eSl, nLst, nList, nListR, nLc, nLc2, nCall, nSorted, nRep, tOf, tAndJ, tOrJ, tNotJ, tTrue, iSeq, iR1, iR2, iR3, rg1, rg2, evA, pNo, pSo, startE, hide, rd, hide_v, hide_o, hide_n, rd_v, rd_o, rd_n, bind_one, bind_many, setAll, List.map, List.replicate, List.length, List.cons_append, List.nil_append, List.getElem?_cons_zero, List.getElem?_cons_succ, List.set_cons_zero, List.set_cons_succ, Option.bind_some, ex_some, Option.some.injEq, Slot.own.injEq, Slot.val.injEq, exists_eq_left', true_and, and_true, Bool.false_eq_true, if_false, if_true, reduceIte, wEq, wNe, wAdd_i, wAdd_t, wAdd_l, wAdd_s, wSub_i, wMul_i, wDiv_i, wMod_i, wPow_i, wNeg_i, wLt_i, wLe_i, wGt_i, wGe_i, wIs_n, wIs_b, wIsNot_n, wIsNot_b, wIx_l, wIx_t, wLen_l, wLen_t, wAbs_i, wInt_i, wInt_b, wMax2_i, wMin2_i, wTuple_l, wTuple_t, wB_b, wI_i, seqOf_l, seqOf_t, wIAdd_i, wIAdd_t, wIMul_i, wSl_l, wSl_t, wIn_l, wIn_t, wNotIn_l, wNotIn_t, items_l, items_t, lv_i, lv_b, lv_n, eqv_ii, eqv_bb, isNon_n, isNon_i, isNon_b, isNon_s, isNon_t, isNon_l, Bool.not_true, Bool.not_false, b2n_t, b2n_f, pl_i, pl_b, pl_n, decide_eq_true_eq, sExt, sExtP, wMulT_i, wMulT_t, wRevS_l, wRevS_t, wipeE]
    exact hR
  · refine ⟨by rw [List.length_map]; omega, ?_⟩
    have e : ss.map (fun s => PyData.int ((s.natAbs : Nat) : Int)) = (ss.map fun s => ((s.natAbs : Nat) : Int)).map PyData.int := by rw [List.map_map]; rfl
    rw [e]
    exact max_ints q
/-! mean_square: 0=samples 1=sample -/
def m_mean_square : SX := (sRet (eCall S_fraction [(eCall wSum [(eFr (nLc (iSeq (eVar 0)) (.one 1) [1] tTrue (eOp wMul (eVar 1) (eVar 1))))]), (eCall wLen [(eVar 0)])]))
def meanS (ss : List Int) : Int × Int := fracP ((ss.map fun s => s * s).sum) ss.length
def S_mean_square : WL := fun ds Q => ∃ ss : List Int, ds = [T ss] ∧ ss ≠ [] ∧ ss.length ≤ 16000000 ∧ (∀ s ∈ ss, Sm s) ∧ Q (P2 (meanS ss))
theorem wp_mean_square (ds : List D) (QD : D → Prop) (h : S_mean_square ds QD) : m_mean_square (startE 2 ds) ⟨fun _ => QD .none, QD, noB, noB, fun es => QD (.list es)⟩ := by
  obtain ⟨ss, rfl, hne, hl, hs, q⟩ := h
  unfold m_mean_square
  try simp only [sSeq, sSkip, sAsg, sAsgP, sNew, sNewP, sRet, sRetO, sIf, sApp, sAppP, sSet, sAug, sTgt, sTgtP, sPar, sFz, frz, sFor, sForR, sRev, sBrk, sCnt, sDrop, eOp, eUn, eCall, eVar, eC, eFr, eTup, eTupR, eAnd, eOr, eNot, eIf, eChain, eIndex, eSl, nLst, nList, nListR, nLc, nLc2, nCall, nSorted, nRep, tOf, tAndJ, tOrJ, tNotJ, tTrue, iSeq, iR1, iR2, iR3, rg1, rg2, evA, pNo, pSo, startE, hide, rd, hide_v, hide_o, hide_n, rd_v, rd_o, rd_n, bind_one, bind_many, setAll, List.map, List.replicate, List.length, List.cons_append, List.nil_append, List.getElem?_cons_zero, List.getElem?_cons_succ, List.set_cons_zero, List.set_cons_succ, Option.bind_some, ex_some, Option.some.injEq, Slot.own.injEq, Slot.val.injEq, exists_eq_left', true_and, and_true, Bool.false_eq_true, if_false, if_true, reduceIte, wEq, wNe, wAdd_i, wAdd_t, wAdd_l, wAdd_s, wSub_i, wMul_i, wDiv_i, wMod_i, wPow_i, wNeg_i, wLt_i, wLe_i, wGt_i, wGe_i, wIs_n, wIs_b, wIsNot_n, wIsNot_b, wIx_l, wIx_t, wLen_l, wLen_t, wAbs_i, wInt_i, wInt_b, wMax2_i, wMin2_i, wTuple_l, wTuple_t, wB_b, wI_i, seqOf_l, seqOf_t, wIAdd_i, wIAdd_t, wIMul_i, wSl_l, wSl_t, wIn_l, wIn_t, wNotIn_l, wNotIn_t, items_l, items_t, lv_i, lv_b, lv_n, eqv_ii, eqv_bb, isNon_n, isNon_i, isNon_b, isNon_s, isNon_t, isNon_l, Bool.not_true, Bool.not_false, b2n_t, b2n_f, pl_i, pl_b, pl_n, decide_eq_true_eq, sExt, sExtP, wMulT_i, wMulT_t, wRevS_l, wRevS_t]
  refine mapW_ints (fun s => .int (s * s)) (fun s hm R hR => ?_) ?_
  · refine ⟨_, rfl, ?_⟩
    try simp only [sSeq, sSkip, sAsg, sAsgP, sNew, sNewP, sRet, sRetO, sIf, sApp, sAppP, sSet, sAug, sTgt, sTgtP, sPar, sFz, frz, sFor, sForR, sRev, sBrk, sCnt, sDrop, eOp, eUn, eCall, eVar, eC, eFr, eTup, eTupR, eAnd, eOr, eNot, eIf, eChain, eIndex, eSl, nLst, nList, nListR, nLc, nLc2, nCall, nSorted, nRep, tOf, tAndJ, tOrJ, tNotJ, tTrue, iSeq, iR1, iR2, iR3, rg1, rg2, evA, pNo, pSo, startE, hide, rd, hide_v, hide_o, hide_n, rd_v, rd_o, rd_n, bind_one, bind_many, setAll, List.map, List.replicate, List.length, List.cons_append, List.nil_append, List.getElem?_cons_zero, List.getElem?_cons_succ, List.set_cons_zero, List.set_cons_succ, Option.bind_some, ex_some, Option.some.injEq, Slot.own.injEq, Slot.val.injEq, exists_eq_left', true_and, and_true, Bool.false_eq_true, if_false, if_true, reduceIte, wEq, wNe, wAdd_i, wAdd_t, wAdd_l, wAdd_s, wSub_i, wMul_i, wDiv_i, wMod_i, wPow_i, wNeg_i, wLt_i, wLe_i, wGt_i, wGe_i, wIs_n, wIs_b, wIsNot_n, wIsNot_b, wIx_l, wIx_t, wLen_l, wLen_t, wAbs_i, wInt_i, wInt_b, wMax2_i, wMin2_i, wTuple_l, wTuple_t, wB_b, wI_i, seqOf_l, seqOf_t, wIAdd_i, wIAdd_t, wIMul_i, wSl_l, wSl_t, wIn_l, wIn_t, wNotIn_l, wNotIn_t, items_l, items_t, lv_i, lv_b, lv_n, eqv_ii, eqv_bb, isNon_n, isNon_i, isNon_b, isNon_s, isNon_t, isNon_l, Bool.not_true, Bool.not_false, b2n_t, b2n_f, pl_i, pl_b, pl_n, decide_eq_true_eq, sExt, sExtP, wMulT_i, wMulT_t, wRevS_l, wRevS_t, wipeE]
    exact ⟨sm_mul (hs s hm) (hs s hm), hR⟩
  · have e : ss.map (fun s => PyData.int (s * s)) = (ss.map fun s => s * s).map PyData.int := by rw [List.map_map]; rfl
    rw [e]
    refine ⟨_, rfl, ?_⟩
    try simp only [sSeq, sSkip, sAsg, sAsgP, sNew, sNewP, sRet, sRetO, sIf, sApp, sAppP, sSet, sAug, sTgt, sTgtP, sPar, sFz, frz, sFor, sForR, sRev, sBrk, sCnt, sDrop, eOp, eUn, eCall, eVar, eC, eFr, eTup, eTupR, eAnd, eOr, eNot, eIf, eChain, eIndex, eSl, nLst, nList, nListR, nLc, nLc2, nCall, nSorted, nRep, tOf, tAndJ, tOrJ, tNotJ, tTrue, iSeq, iR1, iR2, iR3, rg1, rg2, evA, pNo, pSo, startE, hide, rd, hide_v, hide_o, hide_n, rd_v, rd_o, rd_n, bind_one, bind_many, setAll, List.map, List.replicate, List.length, List.cons_append, List.nil_append, List.getElem?_cons_zero, List.getElem?_cons_succ, List.set_cons_zero, List.set_cons_succ, Option.bind_some, ex_some, Option.some.injEq, Slot.own.injEq, Slot.val.injEq, exists_eq_left', true_and, and_true, Bool.false_eq_true, if_false, if_true, reduceIte, wEq, wNe, wAdd_i, wAdd_t, wAdd_l, wAdd_s, wSub_i, wMul_i, wDiv_i, wMod_i, wPow_i, wNeg_i, wLt_i, wLe_i, wGt_i, wGe_i, wIs_n, wIs_b, wIsNot_n, wIsNot_b, wIx_l, wIx_t, wLen_l, wLen_t, wAbs_i, wInt_i, wInt_b, wMax2_i, wMin2_i, wTuple_l, wTuple_t, wB_b, wI_i, seqOf_l, seqOf_t, wIAdd_i, wIAdd_t, wIMul_i, wSl_l, wSl_t, wIn_l, wIn_t, wNotIn_l, wNotIn_t, items_l, items_t, lv_i, lv_b, lv_n, eqv_ii, eqv_bb, isNon_n, isNon_i, isNon_b, isNon_s, isNon_t, isNon_l, Bool.not_true, Bool.not_false, b2n_t, b2n_f, pl_i, pl_b, pl_n, decide_eq_true_eq, sExt, sExtP, wMulT_i, wMulT_t, wRevS_l, wRevS_t, List.length_map]
    have : ss.length ≠ 0 := fun c => hne (List.eq_nil_of_length_eq_zero c)
    refine ⟨_, _, rfl, by omega, ?_, q⟩
    rw [Int.natAbs_natCast]
    exact Nat.lt_of_le_of_lt hl (Nat.lt_of_lt_of_le (show 16000000 < 2 ^ 24 by decide) (Nat.pow_le_pow_right (by decide) (by decide)))
/-! raised_to: 0=samples 1=top 2=loud 3=sample -/
def m_raised_to : SX := (sSeq (sAsg 2 (eCall S_loudest [(eVar 0)]))
      (sRet (eUn wTuple (eFr (nLc (iSeq (eVar 0)) (.one 3) [3] tTrue (eIf (tOf (eOp wGt (eVar 2) (eC (.int 0)))) (eCall S_toward_zero_levels [(eOp wMul (eVar 3) (eVar 1)), (eVar 2)]) (eVar 3)))))))
def rz (l top s : Int) : Int := if 0 < l then tz (s * top) l else s
def raisedL (ss : List Int) (top : Int) : List Int := ss.map (rz (loud ss) top)
def S_raised_to : WL := fun ds Q => ∃ (ss : List Int) (top : Int), ds = [T ss, .int top] ∧ ss.length ≤ 16000000 ∧ (∀ s ∈ ss, Sm s) ∧ Sm top ∧ Q (T (raisedL ss top))
theorem loud_sm {ss : List Int} (h : ∀ s ∈ ss, Sm s) : Sm (loud ss) := by
  obtain ⟨h1, h2, _⟩ := foldl_max (ss.map fun s => ((s.natAbs : Nat) : Int)) 0
  unfold Sm loud
  rcases h1 with e | e
  · rw [e]; exact Nat.pow_pos (by decide)
  · obtain ⟨s, hs, e2⟩ := List.mem_map.mp e
    rw [← e2, Int.natAbs_natCast]
    exact h s hs
theorem map_T (f : Int → Int) (ss : List Int) : ss.map (fun s => PyData.int (f s)) = (ss.map f).map PyData.int := by rw [List.map_map]; rfl
theorem wp_raised_to (ds : List D) (QD : D → Prop) (h : S_raised_to ds QD) : m_raised_to (startE 4 ds) ⟨fun _ => QD .none, QD, noB, noB, fun es => QD (.list es)⟩ := by
  obtain ⟨ss, top, rfl, hl, hs, ht, q⟩ := h
  have hlo := loud_sm hs
  unfold m_raised_to
  try simp only [sSeq, sSkip, sAsg, sAsgP, sNew, sNewP, sRet, sRetO, sIf, sApp, sAppP, sSet, sAug, sTgt, sTgtP, sPar, sFz, frz, sFor, sForR, sRev, sBrk, sCnt, sDrop, eOp, eUn, eCall, eVar, eC, eFr, eTup, eTupR, eAnd, eOr, eNot, eIf, eChain, eIndex, eSl, nLst, nList, nListR, nLc, nLc2, nCall, nSorted, nRep, tOf, tAndJ, tOrJ, tNotJ, tTrue, iSeq, iR1, iR2, iR3, rg1, rg2, evA, pNo, pSo, startE, hide, rd, hide_v, hide_o, hide_n, rd_v, rd_o, rd_n, bind_one, bind_many, setAll, List.map, List.replicate, List.length, List.cons_append, List.nil_append, List.getElem?_cons_zero, List.getElem?_cons_succ, List.set_cons_zero, List.set_cons_succ, Option.bind_some, ex_some, Option.some.injEq, Slot.own.injEq, Slot.val.injEq, exists_eq_left', true_and, and_true, Bool.false_eq_true, if_false, if_true, reduceIte, wEq, wNe, wAdd_i, wAdd_t, wAdd_l, wAdd_s, wSub_i, wMul_i, wDiv_i, wMod_i, wPow_i, wNeg_i, wLt_i, wLe_i, wGt_i, wGe_i, wIs_n, wIs_b, wIsNot_n, wIsNot_b, wIx_l, wIx_t, wLen_l, wLen_t, wAbs_i, wInt_i, wInt_b, wMax2_i, wMin2_i, wTuple_l, wTuple_t, wB_b, wI_i, seqOf_l, seqOf_t, wIAdd_i, wIAdd_t, wIMul_i, wSl_l, wSl_t, wIn_l, wIn_t, wNotIn_l, wNotIn_t, items_l, items_t, lv_i, lv_b, lv_n, eqv_ii, eqv_bb, isNon_n, isNon_i, isNon_b, isNon_s, isNon_t, isNon_l, Bool.not_true, Bool.not_false, b2n_t, b2n_f, pl_i, pl_b, pl_n, decide_eq_true_eq, sExt, sExtP, wMulT_i, wMulT_t, wRevS_l, wRevS_t]
  refine ⟨ss, rfl, hl, ?_⟩
  try simp only [sSeq, sSkip, sAsg, sAsgP, sNew, sNewP, sRet, sRetO, sIf, sApp, sAppP, sSet, sAug, sTgt, sTgtP, sPar, sFz, frz, sFor, sForR, sRev, sBrk, sCnt, sDrop, eOp, eUn, eCall, eVar, eC, eFr, eTup, eTupR, eAnd, eOr, eNot, eIf, eChain, eIndex, eSl, nLst, nList, nListR, nLc, nLc2, nCall, nSorted, nRep, tOf, tAndJ, tOrJ, tNotJ, tTrue, iSeq, iR1, iR2, iR3, rg1, rg2, evA, pNo, pSo, startE, hide, rd, hide_v, hide_o, hide_n, rd_v, rd_o, rd_n, bind_one, bind_many, setAll, List.map, List.replicate, List.length, List.cons_append, List.nil_append, List.getElem?_cons_zero, List.getElem?_cons_succ, List.set_cons_zero, List.set_cons_succ, Option.bind_some, ex_some, Option.some.injEq, Slot.own.injEq, Slot.val.injEq, exists_eq_left', true_and, and_true, Bool.false_eq_true, if_false, if_true, reduceIte, wEq, wNe, wAdd_i, wAdd_t, wAdd_l, wAdd_s, wSub_i, wMul_i, wDiv_i, wMod_i, wPow_i, wNeg_i, wLt_i, wLe_i, wGt_i, wGe_i, wIs_n, wIs_b, wIsNot_n, wIsNot_b, wIx_l, wIx_t, wLen_l, wLen_t, wAbs_i, wInt_i, wInt_b, wMax2_i, wMin2_i, wTuple_l, wTuple_t, wB_b, wI_i, seqOf_l, seqOf_t, wIAdd_i, wIAdd_t, wIMul_i, wSl_l, wSl_t, wIn_l, wIn_t, wNotIn_l, wNotIn_t, items_l, items_t, lv_i, lv_b, lv_n, eqv_ii, eqv_bb, isNon_n, isNon_i, isNon_b, isNon_s, isNon_t, isNon_l, Bool.not_true, Bool.not_false, b2n_t, b2n_f, pl_i, pl_b, pl_n, decide_eq_true_eq, sExt, sExtP, wMulT_i, wMulT_t, wRevS_l, wRevS_t]
  refine mapW_ints (fun s => .int (rz (loud ss) top s)) (fun s hm R hR => ?_) ?_
  · refine ⟨_, rfl, ?_⟩
    unfold rz at hR
    try simp only [sSeq, sSkip, sAsg, sAsgP, sNew, sNewP, sRet, sRetO, sIf, sApp, sAppP, sSet, sAug, sTgt, sTgtP, sPar, sFz, frz, sFor, sForR, sRev, sBrk, sCnt, sDrop, eOp, eUn, eCall, eVar, eC, eFr, eTup, eTupR, eAnd, eOr, eNot, eIf, eChain, eIndex, eSl, nLst, nList, nListR, nLc, nLc2, nCall, nSorted, nRep, tOf, tAndJ, tOrJ, tNotJ, tTrue, iSeq, iR1, iR2, iR3, rg1, rg2, evA, pNo, pSo, startE, hide, rd, hide_v, hide_o, hide_n, rd_v, rd_o, rd_n, bind_one, bind_many, setAll, List.map, List.replicate, List.length, List.cons_append, List.nil_append, List.getElem?_cons_zero, List.getElem?_cons_succ, List.set_cons_zero, List.set_cons_succ, Option.bind_some, ex_some, Option.some.injEq, Slot.own.injEq, Slot.val.injEq, exists_eq_left', true_and, and_true, Bool.false_eq_true, if_false, if_true, reduceIte, wEq, wNe, wAdd_i, wAdd_t, wAdd_l, wAdd_s, wSub_i, wMul_i, wDiv_i, wMod_i, wPow_i, wNeg_i, wLt_i, wLe_i, wGt_i, wGe_i, wIs_n, wIs_b, wIsNot_n, wIsNot_b, wIx_l, wIx_t, wLen_l, wLen_t, wAbs_i, wInt_i, wInt_b, wMax2_i, wMin2_i, wTuple_l, wTuple_t, wB_b, wI_i, seqOf_l, seqOf_t, wIAdd_i, wIAdd_t, wIMul_i, wSl_l, wSl_t, wIn_l, wIn_t, wNotIn_l, wNotIn_t, items_l, items_t, lv_i, lv_b, lv_n, eqv_ii, eqv_bb, isNon_n, isNon_i, isNon_b, isNon_s, isNon_t, isNon_l, Bool.not_true, Bool.not_false, b2n_t, b2n_f, pl_i, pl_b, pl_n, decide_eq_true_eq, sExt, sExtP, wMulT_i, wMulT_t, wRevS_l, wRevS_t, wipeE]
    split
    · rename_i c
      rw [if_pos c] at hR
      refine ⟨sm_mul (hs s hm) ht, _, _, rfl, c, Nat.lt_of_lt_of_le hlo (Nat.pow_le_pow_right (by decide) (by decide)), hR⟩
    · rename_i c
      rw [if_neg c] at hR
      exact hR
  · rw [map_T]
    exact q
/-! cut_at: 0=samples 1=top 2=sample -/
def m_cut_at : SX := (sRet (eUn wTuple (eFr (nLc (iSeq (eVar 0)) (.one 2) [2] tTrue (eCall wMax2 [(eCall wMin2 [(eVar 2), (eVar 1)]), (eUn wNeg (eVar 1))])))))
def cutL (ss : List Int) (top : Int) : List Int := ss.map fun s => max (min s top) (-top)
def S_cut_at : WL := fun ds Q => ∃ (ss : List Int) (top : Int), ds = [T ss, .int top] ∧ Q (T (cutL ss top))
theorem wp_cut_at (ds : List D) (QD : D → Prop) (h : S_cut_at ds QD) : m_cut_at (startE 3 ds) ⟨fun _ => QD .none, QD, noB, noB, fun es => QD (.list es)⟩ := by
  obtain ⟨ss, top, rfl, q⟩ := h
  unfold m_cut_at
  try simp only [sSeq, sSkip, sAsg, sAsgP, sNew, sNewP, sRet, sRetO, sIf, sApp, sAppP, sSet, sAug, sTgt, sTgtP, sPar, sFz, frz, sFor, sForR, sRev, sBrk, sCnt, sDrop, eOp, eUn, eCall, eVar, eC, eFr, eTup, eTupR, eAnd, eOr, eNot, eIf, eChain, eIndex, eSl, nLst, nList, nListR, nLc, nLc2, nCall, nSorted, nRep, tOf, tAndJ, tOrJ, tNotJ, tTrue, iSeq, iR1, iR2, iR3, rg1, rg2, evA, pNo, pSo, startE, hide, rd, hide_v, hide_o, hide_n, rd_v, rd_o, rd_n, bind_one, bind_many, setAll, List.map, List.replicate, List.length, List.cons_append, List.nil_append, List.getElem?_cons_zero, List.getElem?_cons_succ, List.set_cons_zero, List.set_cons_succ, Option.bind_some, ex_some, Option.some.injEq, Slot.own.injEq, Slot.val.injEq, exists_eq_left', true_and, and_true, Bool.false_eq_true, if_false, if_true, reduceIte, wEq, wNe, wAdd_i, wAdd_t, wAdd_l, wAdd_s, wSub_i, wMul_i, wDiv_i, wMod_i, wPow_i, wNeg_i, wLt_i, wLe_i, wGt_i, wGe_i, wIs_n, wIs_b, wIsNot_n, wIsNot_b, wIx_l, wIx_t, wLen_l, wLen_t, wAbs_i, wInt_i, wInt_b, wMax2_i, wMin2_i, wTuple_l, wTuple_t, wB_b, wI_i, seqOf_l, seqOf_t, wIAdd_i, wIAdd_t, wIMul_i, wSl_l, wSl_t, wIn_l, wIn_t, wNotIn_l, wNotIn_t, items_l, items_t, lv_i, lv_b, lv_n, eqv_ii, eqv_bb, isNon_n, isNon_i, isNon_b, isNon_s, isNon_t, isNon_l, Bool.not_true, Bool.not_false, b2n_t, b2n_f, pl_i, pl_b, pl_n, decide_eq_true_eq, sExt, sExtP, wMulT_i, wMulT_t, wRevS_l, wRevS_t]
  refine mapW_ints (fun s => .int (max (min s top) (-top))) (fun s hm R hR => ?_) ?_
  · refine ⟨_, rfl, ?_⟩
    try simp only [sSeq, sSkip, sAsg, sAsgP, sNew, sNewP, sRet, sRetO, sIf, sApp, sAppP, sSet, sAug, sTgt, sTgtP, sPar, sFz, frz, sFor, sForR, sRev, sBrk, sCnt, sDrop, eOp, eUn, eCall, eVar, eC, eFr, eTup, eTupR, eAnd, eOr, eNot, eIf, eChain, eIndex, eSl, nLst, nList, nListR, nLc, nLc2, nCall, nSorted, nRep, tOf, tAndJ, tOrJ, tNotJ, tTrue, iSeq, iR1, iR2, iR3, rg1, rg2, evA, pNo, pSo, startE, hide, rd, hide_v, hide_o, hide_n, rd_v, rd_o, rd_n, bind_one, bind_many, setAll, List.map, List.replicate, List.length, List.cons_append, List.nil_append, List.getElem?_cons_zero, List.getElem?_cons_succ, List.set_cons_zero, List.set_cons_succ, Option.bind_some, ex_some, Option.some.injEq, Slot.own.injEq, Slot.val.injEq, exists_eq_left', true_and, and_true, Bool.false_eq_true, if_false, if_true, reduceIte, wEq, wNe, wAdd_i, wAdd_t, wAdd_l, wAdd_s, wSub_i, wMul_i, wDiv_i, wMod_i, wPow_i, wNeg_i, wLt_i, wLe_i, wGt_i, wGe_i, wIs_n, wIs_b, wIsNot_n, wIsNot_b, wIx_l, wIx_t, wLen_l, wLen_t, wAbs_i, wInt_i, wInt_b, wMax2_i, wMin2_i, wTuple_l, wTuple_t, wB_b, wI_i, seqOf_l, seqOf_t, wIAdd_i, wIAdd_t, wIMul_i, wSl_l, wSl_t, wIn_l, wIn_t, wNotIn_l, wNotIn_t, items_l, items_t, lv_i, lv_b, lv_n, eqv_ii, eqv_bb, isNon_n, isNon_i, isNon_b, isNon_s, isNon_t, isNon_l, Bool.not_true, Bool.not_false, b2n_t, b2n_f, pl_i, pl_b, pl_n, decide_eq_true_eq, sExt, sExtP, wMulT_i, wMulT_t, wRevS_l, wRevS_t, wipeE]
    exact hR
  · rw [map_T]
    exact q
theorem rgD_get0 {hi : Int} {i : Nat} {d : D} (h : (rgD 0 hi)[i]? = some d) : d = .int (i : Int) ∧ (i : Int) < hi := by
  have := rgD_get h
  rw [Int.zero_add] at this
  exact this
/-! ## quiet_spans -/
def spansF (L : Nat) : List Bool → Nat → Nat → List (Int × Int)
  | [], a, b => if b + L ≤ a then [((b : Int), (a : Int))] else []
  | l :: r, a, b => if l = true then (if b + L ≤ a then [((b : Int), (a : Int))] else []) ++ spansF L r (a + 1) (a + 1) else spansF L r (a + 1) b
def flags (ss : List Int) (bound : Int) : List Bool := ss.map fun s => decide (bound < (s.natAbs : Int))
def spansN (L : Nat) (ss : List Int) (bound : Int) : List (Int × Int) := spansF L (flags ss bound) 0 0
abbrev spans (ss : List Int) (bound : Int) : List (Int × Int) := spansN 1 ss bound
/-! quiet_spans: 0=samples 1=bound 2=least 3=found 4=begin 5=at -/
def m_quiet_spans_b3 : SX := (sIf (tOrJ (tOf (eOp wEq (eVar 5) (eCall wLen [(eVar 0)]))) (tOf (eOp wGt (eCall wAbs [(eOp wIx (eVar 0) (eVar 5))]) (eVar 1)))) (sSeq (sIf (tOf (eOp wGe (eOp wSub (eVar 5) (eVar 4)) (eVar 2))) (sApp 3 (eTup [(eVar 4), (eVar 5)])) sSkip)
      (sAsg 4 (eOp wAdd (eVar 5) (eC (.int 1))))) sSkip)
def m_quiet_spans_r3 : SX := (sRet (eUn wTuple (eVar 3)))
def m_quiet_spans : SX := (sSeq (sNew 3 (nLst []))
      (sSeq (sAsg 4 (eC (.int 0)))
      (sSeq (sForR (iR1 (eOp wAdd (eCall wLen [(eVar 0)]) (eC (.int 1)))) (.one 5) m_quiet_spans_b3)
      m_quiet_spans_r3)))
def S_quiet_spans : WL := fun ds Q => ∃ (ss : List Int) (bound : Int) (L : Nat), ds = [T ss, .int bound, .int (L : Int)] ∧ ss.length ≤ 16000000 ∧ Q (.tuple ((spansN L ss bound).map P2))
theorem wp_quiet_spans (ds : List D) (QD : D → Prop) (h : S_quiet_spans ds QD) : m_quiet_spans (startE 6 ds) ⟨fun _ => QD .none, QD, noB, noB, fun es => QD (.list es)⟩ := by
  obtain ⟨ss, bound, L, rfl, hl, q⟩ := h
  have hz : sizeLine = 16777216 := sizeLine_eq
  unfold m_quiet_spans
  try simp only [sSeq, sSkip, sAsg, sAsgP, sNew, sNewP, sRet, sRetO, sIf, sApp, sAppP, sSet, sAug, sTgt, sTgtP, sPar, sFz, frz, sFor, sForR, sRev, sBrk, sCnt, sDrop, eOp, eUn, eCall, eVar, eC, eFr, eTup, eTupR, eAnd, eOr, eNot, eIf, eChain, eIndex, eSl, nLst, nList, nListR, nLc, nLc2, nCall, nSorted, nRep, tOf, tAndJ, tOrJ, tNotJ, tTrue, iSeq, iR1, iR2, iR3, rg1, rg2, evA, pNo, pSo, startE, hide, rd, hide_v, hide_o, hide_n, rd_v, rd_o, rd_n, bind_one, bind_many, setAll, List.map, List.replicate, List.length, List.cons_append, List.nil_append, List.getElem?_cons_zero, List.getElem?_cons_succ, List.set_cons_zero, List.set_cons_succ, Option.bind_some, ex_some, Option.some.injEq, Slot.own.injEq, Slot.val.injEq, exists_eq_left', true_and, and_true, Bool.false_eq_true, if_false, if_true, reduceIte, wEq, wNe, wAdd_i, wAdd_t, wAdd_l, wAdd_s, wSub_i, wMul_i, wDiv_i, wMod_i, wPow_i, wNeg_i, wLt_i, wLe_i, wGt_i, wGe_i, wIs_n, wIs_b, wIsNot_n, wIsNot_b, wIx_l, wIx_t, wLen_l, wLen_t, wAbs_i, wInt_i, wInt_b, wMax2_i, wMin2_i, wTuple_l, wTuple_t, wB_b, wI_i, seqOf_l, seqOf_t, wIAdd_i, wIAdd_t, wIMul_i, wSl_l, wSl_t, wIn_l, wIn_t, wNotIn_l, wNotIn_t, items_l, items_t, lv_i, lv_b, lv_n, eqv_ii, eqv_bb, isNon_n, isNon_i, isNon_b, isNon_s, isNon_t, isNon_l, Bool.not_true, Bool.not_false, b2n_t, b2n_f, pl_i, pl_b, pl_n, decide_eq_true_eq, sExt, sExtP, wMulT_i, wMulT_t, wRevS_l, wRevS_t, List.length_map]
  refine ⟨⟨by decide, by decide, by omega, by omega, by omega⟩, ?_⟩
  refine forW_inv (fun i e => ∃ (fs : List (Int × Int)) (b : Nat) (s5 : Slot), fs.length ≤ i ∧ ((i ≤ ss.length ∧ fs ++ spansF L ((flags ss bound).drop i) i b = spansN L ss bound) ∨ (i = ss.length + 1 ∧ fs = spansN L ss bound)) ∧
    e = [.val (T ss), .val (.int bound), .val (.int (L : Int)), .own (fs.map P2), .val (.int (b : Nat)), s5]) ⟨[], 0, _, Nat.zero_le _, .inl ⟨Nat.zero_le _, rfl⟩, rfl⟩ ?_ ?_
  · rintro i d e hi ⟨fs, b, s5, hfl, hc, rfl⟩ R hR
    obtain ⟨rfl, hlt⟩ := rgD_get0 hi
    have hil : i ≤ ss.length := by omega
    have hc' : fs ++ spansF L ((flags ss bound).drop i) i b = spansN L ss bound := by
      rcases hc with c | c
      · exact c.2
      · omega
    refine ⟨_, rfl, ?_⟩
    unfold m_quiet_spans_b3
    have hfs : fs.length < sizeLine := by omega
    try simp only [sSeq, sSkip, sAsg, sAsgP, sNew, sNewP, sRet, sRetO, sIf, sApp, sAppP, sSet, sAug, sTgt, sTgtP, sPar, sFz, frz, sFor, sForR, sRev, sBrk, sCnt, sDrop, eOp, eUn, eCall, eVar, eC, eFr, eTup, eTupR, eAnd, eOr, eNot, eIf, eChain, eIndex, eSl, nLst, nList, nListR, nLc, nLc2, nCall, nSorted, nRep, tOf, tAndJ, tOrJ, tNotJ, tTrue, iSeq, iR1, iR2, iR3, rg1, rg2, evA, pNo, pSo, startE, hide, rd, hide_v, hide_o, hide_n, rd_v, rd_o, rd_n, bind_one, bind_many, setAll, List.map, List.replicate, List.length, List.cons_append, List.nil_append, List.getElem?_cons_zero, List.getElem?_cons_succ, List.set_cons_zero, List.set_cons_succ, Option.bind_some, ex_some, Option.some.injEq, Slot.own.injEq, Slot.val.injEq, exists_eq_left', true_and, and_true, Bool.false_eq_true, if_false, if_true, reduceIte, wEq, wNe, wAdd_i, wAdd_t, wAdd_l, wAdd_s, wSub_i, wMul_i, wDiv_i, wMod_i, wPow_i, wNeg_i, wLt_i, wLe_i, wGt_i, wGe_i, wIs_n, wIs_b, wIsNot_n, wIsNot_b, wIx_l, wIx_t, wLen_l, wLen_t, wAbs_i, wInt_i, wInt_b, wMax2_i, wMin2_i, wTuple_l, wTuple_t, wB_b, wI_i, seqOf_l, seqOf_t, wIAdd_i, wIAdd_t, wIMul_i, wSl_l, wSl_t, wIn_l, wIn_t, wNotIn_l, wNotIn_t, items_l, items_t, lv_i, lv_b, lv_n, eqv_ii, eqv_bb, isNon_n, isNon_i, isNon_b, isNon_s, isNon_t, isNon_l, Bool.not_true, Bool.not_false, b2n_t, b2n_f, pl_i, pl_b, pl_n, decide_eq_true_eq, sExt, sExtP, wMulT_i, wMulT_t, wRevS_l, wRevS_t, List.length_map]
    by_cases he : i = ss.length
    · subst he
      rw [if_pos (by omega)]
      have hd : (flags ss bound).drop ss.length = [] := List.drop_of_length_le (by unfold flags; rw [List.length_map]; exact Nat.le_refl _)
      rw [hd] at hc'
      by_cases hb : b + L ≤ ss.length
      · rw [if_pos (by omega)]
        refine ⟨hfs, hR _ ⟨fs ++ [((b : Int), (ss.length : Int))], ss.length + 1, .val (.int (ss.length : Int)), by rw [List.length_append]; simp; omega, .inr ⟨rfl, ?_⟩, ?_⟩⟩
        · unfold spansF at hc'
          rw [if_pos hb] at hc'
          exact hc'
        · rw [List.map_append]
          rfl
      · rw [if_neg (by omega)]
        refine hR _ ⟨fs, ss.length + 1, .val (.int (ss.length : Int)), by omega, .inr ⟨rfl, ?_⟩, ?_⟩
        · unfold spansF at hc'
          rw [if_neg hb, List.append_nil] at hc'
          exact hc'
        · rfl
    · have hil2 : i < ss.length := by omega
      rw [if_neg (by omega)]
      have hs : ss[i]? = some ss[i] := List.getElem?_eq_getElem hil2
      have hat : atI (ss.map PyData.int) (i : Int) = some (.int ss[i]) := atI_at (i := i) (by omega) (by rw [List.getElem?_map, hs]; rfl)
      have hd : (flags ss bound).drop i = decide (bound < (ss[i].natAbs : Int)) :: (flags ss bound).drop (i + 1) := by
        unfold flags
        rw [List.drop_eq_getElem_cons (by rw [List.length_map]; exact hil2), List.getElem_map]
      rw [hd] at hc'
      try simp only [sSeq, sSkip, sAsg, sAsgP, sNew, sNewP, sRet, sRetO, sIf, sApp, sAppP, sSet, sAug, sTgt, sTgtP, sPar, sFz, frz, sFor, sForR, sRev, sBrk, sCnt, sDrop, eOp, eUn, eCall, eVar, eC, eFr, eTup, eTupR, eAnd, eOr, eNot, eIf, eChain, eIndex, eSl, nLst, nList, nListR, nLc, nLc2, nCall, nSorted, nRep, tOf, tAndJ, tOrJ, tNotJ, tTrue, iSeq, iR1, iR2, iR3, rg1, rg2, evA, pNo, pSo, startE, hide, rd, hide_v, hide_o, hide_n, rd_v, rd_o, rd_n, bind_one, bind_many, setAll, List.map, List.replicate, List.length, List.cons_append, List.nil_append, List.getElem?_cons_zero, List.getElem?_cons_succ, List.set_cons_zero, List.set_cons_succ, Option.bind_some, ex_some, Option.some.injEq, Slot.own.injEq, Slot.val.injEq, exists_eq_left', true_and, and_true, Bool.false_eq_true, if_false, if_true, reduceIte, wEq, wNe, wAdd_i, wAdd_t, wAdd_l, wAdd_s, wSub_i, wMul_i, wDiv_i, wMod_i, wPow_i, wNeg_i, wLt_i, wLe_i, wGt_i, wGe_i, wIs_n, wIs_b, wIsNot_n, wIsNot_b, wIx_l, wIx_t, wLen_l, wLen_t, wAbs_i, wInt_i, wInt_b, wMax2_i, wMin2_i, wTuple_l, wTuple_t, wB_b, wI_i, seqOf_l, seqOf_t, wIAdd_i, wIAdd_t, wIMul_i, wSl_l, wSl_t, wIn_l, wIn_t, wNotIn_l, wNotIn_t, items_l, items_t, lv_i, lv_b, lv_n, eqv_ii, eqv_bb, isNon_n, isNon_i, isNon_b, isNon_s, isNon_t, isNon_l, Bool.not_true, Bool.not_false, b2n_t, b2n_f, pl_i, pl_b, pl_n, decide_eq_true_eq, sExt, sExtP, wMulT_i, wMulT_t, wRevS_l, wRevS_t, hat]
      by_cases hb : bound < (ss[i].natAbs : Int)
      · rw [if_pos hb]
        rw [decide_eq_true hb] at hc'
        unfold spansF at hc'
        rw [if_pos rfl] at hc'
        by_cases hb2 : b + L ≤ i
        · rw [if_pos (by omega)]
          rw [if_pos hb2, ← List.append_assoc] at hc'
          refine ⟨hfs, hR _ ⟨fs ++ [((b : Int), (i : Int))], i + 1, .val (.int (i : Int)), by rw [List.length_append]; simp; omega, .inl ⟨hil2, hc'⟩, ?_⟩⟩
          rw [List.map_append]
          rfl
        · rw [if_neg (by omega)]
          rw [if_neg hb2, List.nil_append] at hc'
          refine hR _ ⟨fs, i + 1, .val (.int (i : Int)), by omega, .inl ⟨hil2, hc'⟩, ?_⟩
          rfl
      · rw [if_neg hb]
        rw [decide_eq_false hb] at hc'
        unfold spansF at hc'
        rw [if_neg Bool.false_ne_true] at hc'
        exact hR _ ⟨fs, b, _, by omega, .inl ⟨hil2, hc'⟩, rfl⟩
  · rintro e ⟨fs, b, s5, hfl, hc, rfl⟩
    rw [rgD_length] at hc
    have : fs = spansN L ss bound := by
      rcases hc with c | c
      · omega
      · exact c.2
    subst this
    unfold m_quiet_spans_r3
    try simp only [sSeq, sSkip, sAsg, sAsgP, sNew, sNewP, sRet, sRetO, sIf, sApp, sAppP, sSet, sAug, sTgt, sTgtP, sPar, sFz, frz, sFor, sForR, sRev, sBrk, sCnt, sDrop, eOp, eUn, eCall, eVar, eC, eFr, eTup, eTupR, eAnd, eOr, eNot, eIf, eChain, eIndex, eSl, nLst, nList, nListR, nLc, nLc2, nCall, nSorted, nRep, tOf, tAndJ, tOrJ, tNotJ, tTrue, iSeq, iR1, iR2, iR3, rg1, rg2, evA, pNo, pSo, startE, hide, rd, hide_v, hide_o, hide_n, rd_v, rd_o, rd_n, bind_one, bind_many, setAll, List.map, List.replicate, List.length, List.cons_append, List.nil_append, List.getElem?_cons_zero, List.getElem?_cons_succ, List.set_cons_zero, List.set_cons_succ, Option.bind_some, ex_some, Option.some.injEq, Slot.own.injEq, Slot.val.injEq, exists_eq_left', true_and, and_true, Bool.false_eq_true, if_false, if_true, reduceIte, wEq, wNe, wAdd_i, wAdd_t, wAdd_l, wAdd_s, wSub_i, wMul_i, wDiv_i, wMod_i, wPow_i, wNeg_i, wLt_i, wLe_i, wGt_i, wGe_i, wIs_n, wIs_b, wIsNot_n, wIsNot_b, wIx_l, wIx_t, wLen_l, wLen_t, wAbs_i, wInt_i, wInt_b, wMax2_i, wMin2_i, wTuple_l, wTuple_t, wB_b, wI_i, seqOf_l, seqOf_t, wIAdd_i, wIAdd_t, wIMul_i, wSl_l, wSl_t, wIn_l, wIn_t, wNotIn_l, wNotIn_t, items_l, items_t, lv_i, lv_b, lv_n, eqv_ii, eqv_bb, isNon_n, isNon_i, isNon_b, isNon_s, isNon_t, isNon_l, Bool.not_true, Bool.not_false, b2n_t, b2n_f, pl_i, pl_b, pl_n, decide_eq_true_eq, sExt, sExtP, wMulT_i, wMulT_t, wRevS_l, wRevS_t]
    exact q
/-! ## mixed -/
theorem fracP_bound {n d : Int} (h : d ≠ 0) : (fracP n d).1.natAbs ≤ n.natAbs ∧ 0 < (fracP n d).2 ∧ (fracP n d).2.natAbs ≤ d.natAbs := by
  obtain ⟨g0, g1⟩ := gcd_facts (n := n) h
  have gd := Int.gcd_dvd_natAbs_right n d
  unfold fracP
  generalize Int.gcd n d = g at g0 g1 gd
  have e1 : ∀ x : Int, ((if d < 0 then -1 else 1) * x / (g : Int)).natAbs ≤ x.natAbs ∨ True := fun _ => .inr trivial
  have key : ∀ x : Int, ((if d < 0 then -1 else 1) * x : Int).natAbs = x.natAbs := fun x => by
    split <;> (rw [Int.natAbs_mul]; simp)
  have sd : (if d < 0 then -1 else 1) * d = (d.natAbs : Int) := by
    split <;> omega
  have dv : ∀ y : Int, (y / (g : Int)).natAbs ≤ y.natAbs := fun y => by
    rcases Int.le_total 0 y with c | c
    · have h1 := Int.ediv_le_self (g : Int) c
      have h2 := Int.ediv_nonneg c (show (0 : Int) ≤ g by omega)
      omega
    · have h1 : y ≤ y / (g : Int) := by
        have h3 := Int.ediv_mul_le y (show (g : Int) ≠ 0 by omega)
        have h4 := Int.lt_ediv_add_one_mul_self y (show (0 : Int) < g by omega)
        rcases Int.lt_or_le (y / (g : Int)) y with c2 | c2
        · have : (y / (g : Int) + 1) * (g : Int) ≤ y * g := Int.mul_le_mul_of_nonneg_right (by omega) (by omega)
          have h5 : y * (g : Int) ≤ y * 1 := Int.mul_le_mul_of_nonpos_left c (by omega)
          omega
        · exact c2
      have h2 : y / (g : Int) ≤ 0 := Int.ediv_nonpos_of_nonpos_of_neg c (by omega)
      omega
  refine ⟨?_, ?_, ?_⟩
  · have := dv ((if d < 0 then -1 else 1) * n)
    rw [key] at this
    exact this
  · show 0 < (if d < 0 then -1 else 1) * d / (g : Int)
    rw [sd]
    exact Int.ediv_pos_of_pos_of_dvd (by omega) (by omega) (by exact_mod_cast gd)
  · have := dv ((if d < 0 then -1 else 1) * d)
    rw [key] at this
    exact this
def mx (p r : Int × Int) (x y : Int) : Int := tz (plusP (plusP (0, 1) (timesP (x, 1) p)) (timesP (y, 1) r)).1 (plusP (plusP (0, 1) (timesP (x, 1) p)) (timesP (y, 1) r)).2
/-- a small part -/
def Pt (p : Int × Int) : Prop := 0 < p.2 ∧ p.1.natAbs < 2 ^ 20 ∧ p.2.natAbs < 2 ^ 20
abbrev S3 (i : Int) : Prop := i.natAbs < 2 ^ 300
theorem pow_mono {i : Int} {a b : Nat} (h : i.natAbs < 2 ^ a) (hab : a ≤ b) : i.natAbs < 2 ^ b := Nat.lt_of_lt_of_le h (Nat.pow_le_pow_right (by decide) hab)
theorem mx_steps {p r : Int × Int} (hp : Pt p) (hr : Pt r) {x y : Int} (hx : S3 x) (hy : S3 y) :
    (0 < (timesP (x, 1) p).2 ∧ Sm (timesP (x, 1) p).1 ∧ Sm (timesP (x, 1) p).2) ∧ (0 < (timesP (y, 1) r).2 ∧ Sm (timesP (y, 1) r).1 ∧ Sm (timesP (y, 1) r).2) ∧
    (0 < (plusP (0, 1) (timesP (x, 1) p)).2 ∧ Sm (plusP (0, 1) (timesP (x, 1) p)).1 ∧ Sm (plusP (0, 1) (timesP (x, 1) p)).2) ∧
    (0 < (plusP (plusP (0, 1) (timesP (x, 1) p)) (timesP (y, 1) r)).2 ∧ (plusP (plusP (0, 1) (timesP (x, 1) p)) (timesP (y, 1) r)).2.natAbs < 2 ^ 8000) := by
  have t : ∀ {p : Int × Int} {x : Int}, Pt p → S3 x → 0 < (timesP (x, 1) p).2 ∧ (timesP (x, 1) p).1.natAbs < 2 ^ 320 ∧ (timesP (x, 1) p).2.natAbs < 2 ^ 20 := fun {p x} hp hx => by
    have b := fracP_bound (n := x * p.1) (d := 1 * p.2) (by have := hp.1; omega)
    refine ⟨b.2.1, Nat.lt_of_le_of_lt b.1 (abs_mul_lt (a := 300) (b := 20) hx hp.2.1), Nat.lt_of_le_of_lt b.2.2 ?_⟩
    rw [Int.one_mul]
    exact hp.2.2
  have t1 := t hp hx
  have t2 := t hr hy
  have p1 := fracP_bound (n := 0 * (timesP (x, 1) p).2 + (timesP (x, 1) p).1 * 1) (d := 1 * (timesP (x, 1) p).2) (by have := t1.1; omega)
  rw [Int.zero_mul, Int.zero_add, Int.mul_one, Int.one_mul] at p1
  have e1 : plusP (0, 1) (timesP (x, 1) p) = fracP (timesP (x, 1) p).1 (timesP (x, 1) p).2 := by
    unfold plusP
    simp only [Int.zero_mul, Int.zero_add, Int.mul_one, Int.one_mul]
  rw [← e1] at p1
  have q1 : (plusP (0, 1) (timesP (x, 1) p)).1.natAbs < 2 ^ 320 := Nat.lt_of_le_of_lt p1.1 t1.2.1
  have q2 : (plusP (0, 1) (timesP (x, 1) p)).2.natAbs < 2 ^ 20 := Nat.lt_of_le_of_lt p1.2.2 t1.2.2
  have p2 := fracP_bound (n := (plusP (0, 1) (timesP (x, 1) p)).1 * (timesP (y, 1) r).2 + (timesP (y, 1) r).1 * (plusP (0, 1) (timesP (x, 1) p)).2) (d := (plusP (0, 1) (timesP (x, 1) p)).2 * (timesP (y, 1) r).2) (Int.mul_ne_zero (by have := p1.2.1; omega) (by have := t2.1; omega))
  refine ⟨⟨t1.1, pow_mono t1.2.1 (by decide), pow_mono t1.2.2 (by decide)⟩, ⟨t2.1, pow_mono t2.2.1 (by decide), pow_mono t2.2.2 (by decide)⟩, ⟨p1.2.1, pow_mono q1 (by decide), pow_mono q2 (by decide)⟩, p2.2.1, ?_⟩
  exact Nat.lt_of_le_of_lt p2.2.2 (pow_mono (abs_mul_lt q2 t2.2.2) (by decide))
/-! mixed: 0=rows 1=parts 2=found 3=at 4=total 5=row -/
def m_mixed_b4 : SX := (sAsg 4 (eCall S_plus_of [(eVar 4), (eCall S_times_of [(eTup [(eOp wIx (eOp wIx (eVar 0) (eVar 5)) (eVar 3)), (eC (.int 1))]), (eOp wIx (eVar 1) (eVar 5))])]))
def m_mixed_r4 : SX := (sApp 2 (eCall S_toward_zero_levels [(eOp wIx (eVar 4) (eC (.int 0))), (eOp wIx (eVar 4) (eC (.int 1)))]))
def m_mixed_b2 : SX := (sSeq (sAsg 4 (eTup [(eC (.int 0)), (eC (.int 1))]))
      (sSeq (sForR (iR1 (eCall wLen [(eVar 0)])) (.one 5) m_mixed_b4)
      m_mixed_r4))
def m_mixed_r2 : SX := (sRet (eUn wTuple (eVar 2)))
def m_mixed : SX := (sSeq (sNew 2 (nLst []))
      (sSeq (sForR (iR1 (eIf (tOf (eOp wGt (eCall wLen [(eVar 0)]) (eC (.int 0)))) (eCall wLen [(eOp wIx (eVar 0) (eC (.int 0)))]) (eC (.int 0)))) (.one 3) m_mixed_b2)
      m_mixed_r2))
def mixL (p r : Int × Int) (a b : List Int) : List Int := List.zipWith (mx p r) a b
def S_mixed : WL := fun ds Q => ∃ (a b : List Int) (p r : Int × Int), ds = [.tuple [T a, T b], .tuple [P2 p, P2 r]] ∧ a.length = b.length ∧ a.length ≤ 1000000 ∧ (∀ s ∈ a, S3 s) ∧ (∀ s ∈ b, S3 s) ∧ Pt p ∧ Pt r ∧ Q (T (mixL p r a b))
theorem wp_mixed (ds : List D) (QD : D → Prop) (h : S_mixed ds QD) : m_mixed (startE 6 ds) ⟨fun _ => QD .none, QD, noB, noB, fun es => QD (.list es)⟩ := by
  obtain ⟨a, b, p, r, rfl, hab, hl, ha, hb, hp, hr, q⟩ := h
  have hz : sizeLine = 16777216 := sizeLine_eq
  unfold m_mixed
  try simp only [sSeq, sSkip, sAsg, sAsgP, sNew, sNewP, sRet, sRetO, sIf, sApp, sAppP, sSet, sAug, sTgt, sTgtP, sPar, sFz, frz, sFor, sForR, sRev, sBrk, sCnt, sDrop, eOp, eUn, eCall, eVar, eC, eFr, eTup, eTupR, eAnd, eOr, eNot, eIf, eChain, eIndex, eSl, nLst, nList, nListR, nLc, nLc2, nCall, nSorted, nRep, tOf, tAndJ, tOrJ, tNotJ, tTrue, iSeq, iR1, iR2, iR3, rg1, rg2, evA, pNo, pSo, startE, hide, rd, hide_v, hide_o, hide_n, rd_v, rd_o, rd_n, bind_one, bind_many, setAll, List.map, List.replicate, List.length, List.cons_append, List.nil_append, List.getElem?_cons_zero, List.getElem?_cons_succ, List.set_cons_zero, List.set_cons_succ, Option.bind_some, ex_some, Option.some.injEq, Slot.own.injEq, Slot.val.injEq, exists_eq_left', true_and, and_true, Bool.false_eq_true, if_false, if_true, reduceIte, wEq, wNe, wAdd_i, wAdd_t, wAdd_l, wAdd_s, wSub_i, wMul_i, wDiv_i, wMod_i, wPow_i, wNeg_i, wLt_i, wLe_i, wGt_i, wGe_i, wIs_n, wIs_b, wIsNot_n, wIsNot_b, wIx_l, wIx_t, wLen_l, wLen_t, wAbs_i, wInt_i, wInt_b, wMax2_i, wMin2_i, wTuple_l, wTuple_t, wB_b, wI_i, seqOf_l, seqOf_t, wIAdd_i, wIAdd_t, wIMul_i, wSl_l, wSl_t, wIn_l, wIn_t, wNotIn_l, wNotIn_t, items_l, items_t, lv_i, lv_b, lv_n, eqv_ii, eqv_bb, isNon_n, isNon_i, isNon_b, isNon_s, isNon_t, isNon_l, Bool.not_true, Bool.not_false, b2n_t, b2n_f, pl_i, pl_b, pl_n, decide_eq_true_eq, sExt, sExtP, wMulT_i, wMulT_t, wRevS_l, wRevS_t, List.length_map, at0]
  rw [if_pos (by simp)]
  refine ⟨⟨by decide, by decide, by omega, by omega, by omega⟩, ?_⟩
  refine forW_inv (fun i e => i ≤ a.length ∧ ∃ (s3 s4 s5 : Slot), e = [.val (.tuple [T a, T b]), .val (.tuple [P2 p, P2 r]), .own (((mixL p r a b).take i).map PyData.int), s3, s4, s5]) ⟨Nat.zero_le _, _, _, _, rfl⟩ ?_ ?_
  · rintro i d e hi ⟨hil0, s3, s4, s5, rfl⟩ R hR
    obtain ⟨rfl, hlt⟩ := rgD_get0 hi
    have hil : i < a.length := by omega
    have hib : i < b.length := by omega
    refine ⟨_, rfl, ?_⟩
    unfold m_mixed_b2
    try simp only [sSeq, sSkip, sAsg, sAsgP, sNew, sNewP, sRet, sRetO, sIf, sApp, sAppP, sSet, sAug, sTgt, sTgtP, sPar, sFz, frz, sFor, sForR, sRev, sBrk, sCnt, sDrop, eOp, eUn, eCall, eVar, eC, eFr, eTup, eTupR, eAnd, eOr, eNot, eIf, eChain, eIndex, eSl, nLst, nList, nListR, nLc, nLc2, nCall, nSorted, nRep, tOf, tAndJ, tOrJ, tNotJ, tTrue, iSeq, iR1, iR2, iR3, rg1, rg2, evA, pNo, pSo, startE, hide, rd, hide_v, hide_o, hide_n, rd_v, rd_o, rd_n, bind_one, bind_many, setAll, List.map, List.replicate, List.length, List.cons_append, List.nil_append, List.getElem?_cons_zero, List.getElem?_cons_succ, List.set_cons_zero, List.set_cons_succ, Option.bind_some, ex_some, Option.some.injEq, Slot.own.injEq, Slot.val.injEq, exists_eq_left', true_and, and_true, Bool.false_eq_true, if_false, if_true, reduceIte, wEq, wNe, wAdd_i, wAdd_t, wAdd_l, wAdd_s, wSub_i, wMul_i, wDiv_i, wMod_i, wPow_i, wNeg_i, wLt_i, wLe_i, wGt_i, wGe_i, wIs_n, wIs_b, wIsNot_n, wIsNot_b, wIx_l, wIx_t, wLen_l, wLen_t, wAbs_i, wInt_i, wInt_b, wMax2_i, wMin2_i, wTuple_l, wTuple_t, wB_b, wI_i, seqOf_l, seqOf_t, wIAdd_i, wIAdd_t, wIMul_i, wSl_l, wSl_t, wIn_l, wIn_t, wNotIn_l, wNotIn_t, items_l, items_t, lv_i, lv_b, lv_n, eqv_ii, eqv_bb, isNon_n, isNon_i, isNon_b, isNon_s, isNon_t, isNon_l, Bool.not_true, Bool.not_false, b2n_t, b2n_f, pl_i, pl_b, pl_n, decide_eq_true_eq, sExt, sExtP, wMulT_i, wMulT_t, wRevS_l, wRevS_t]
    refine ⟨⟨by decide, by decide, by decide, by decide, by decide⟩, ?_⟩
    have e2 : rgD 0 (0 + 1 + 1 : Nat) = [.int 0, .int 1] := by rfl
    rw [e2]
    have ra : atI (a.map PyData.int) (i : Int) = some (.int a[i]) := atI_at (i := i) (by omega) (by rw [List.getElem?_map, List.getElem?_eq_getElem hil]; rfl)
    have rb : atI (b.map PyData.int) (i : Int) = some (.int b[i]) := atI_at (i := i) (by omega) (by rw [List.getElem?_map, List.getElem?_eq_getElem hib]; rfl)
    obtain ⟨c1, c2, c3, c4⟩ := mx_steps hp hr (ha a[i] (List.getElem_mem hil)) (hb b[i] (List.getElem_mem hib))
    have sp : ∀ {p : Int × Int}, Pt p → p.2 ≠ 0 ∧ Sm p.1 ∧ Sm p.2 := fun {p} h => ⟨by have := h.1; omega, pow_mono h.2.1 (by decide), pow_mono h.2.2 (by decide)⟩
    have hsx := pow_mono (ha a[i] (List.getElem_mem hil)) (show 300 ≤ 1000 by decide)
    have hsy := pow_mono (hb b[i] (List.getElem_mem hib)) (show 300 ≤ 1000 by decide)
    have one : Sm 1 := by show 1 < 2 ^ 1000; exact Nat.one_lt_two_pow (by decide)
    have zero : Sm 0 := Nat.pow_pos (by decide)
    unfold forW
    refine ⟨_, rfl, ?_⟩
    unfold m_mixed_b4
    try simp only [sSeq, sSkip, sAsg, sAsgP, sNew, sNewP, sRet, sRetO, sIf, sApp, sAppP, sSet, sAug, sTgt, sTgtP, sPar, sFz, frz, sFor, sForR, sRev, sBrk, sCnt, sDrop, eOp, eUn, eCall, eVar, eC, eFr, eTup, eTupR, eAnd, eOr, eNot, eIf, eChain, eIndex, eSl, nLst, nList, nListR, nLc, nLc2, nCall, nSorted, nRep, tOf, tAndJ, tOrJ, tNotJ, tTrue, iSeq, iR1, iR2, iR3, rg1, rg2, evA, pNo, pSo, startE, hide, rd, hide_v, hide_o, hide_n, rd_v, rd_o, rd_n, bind_one, bind_many, setAll, List.map, List.replicate, List.length, List.cons_append, List.nil_append, List.getElem?_cons_zero, List.getElem?_cons_succ, List.set_cons_zero, List.set_cons_succ, Option.bind_some, ex_some, Option.some.injEq, Slot.own.injEq, Slot.val.injEq, exists_eq_left', true_and, and_true, Bool.false_eq_true, if_false, if_true, reduceIte, wEq, wNe, wAdd_i, wAdd_t, wAdd_l, wAdd_s, wSub_i, wMul_i, wDiv_i, wMod_i, wPow_i, wNeg_i, wLt_i, wLe_i, wGt_i, wGe_i, wIs_n, wIs_b, wIsNot_n, wIsNot_b, wIx_l, wIx_t, wLen_l, wLen_t, wAbs_i, wInt_i, wInt_b, wMax2_i, wMin2_i, wTuple_l, wTuple_t, wB_b, wI_i, seqOf_l, seqOf_t, wIAdd_i, wIAdd_t, wIMul_i, wSl_l, wSl_t, wIn_l, wIn_t, wNotIn_l, wNotIn_t, items_l, items_t, lv_i, lv_b, lv_n, eqv_ii, eqv_bb, isNon_n, isNon_i, isNon_b, isNon_s, isNon_t, isNon_l, Bool.not_true, Bool.not_false, b2n_t, b2n_f, pl_i, pl_b, pl_n, decide_eq_true_eq, sExt, sExtP, wMulT_i, wMulT_t, wRevS_l, wRevS_t, at0, at1, ra]
    refine ⟨(a[i], 1), p, rfl, (show (1 : Int) ≠ 0 by decide), (sp hp).1, hsx, one, (sp hp).2.1, (sp hp).2.2, ?_⟩
    refine ⟨(0, 1), _, rfl, (show (1 : Int) ≠ 0 by decide), by omega, zero, one, c1.2.1, c1.2.2, ?_⟩
    unfold forW
    refine ⟨_, rfl, ?_⟩
    try simp only [sSeq, sSkip, sAsg, sAsgP, sNew, sNewP, sRet, sRetO, sIf, sApp, sAppP, sSet, sAug, sTgt, sTgtP, sPar, sFz, frz, sFor, sForR, sRev, sBrk, sCnt, sDrop, eOp, eUn, eCall, eVar, eC, eFr, eTup, eTupR, eAnd, eOr, eNot, eIf, eChain, eIndex, eSl, nLst, nList, nListR, nLc, nLc2, nCall, nSorted, nRep, tOf, tAndJ, tOrJ, tNotJ, tTrue, iSeq, iR1, iR2, iR3, rg1, rg2, evA, pNo, pSo, startE, hide, rd, hide_v, hide_o, hide_n, rd_v, rd_o, rd_n, bind_one, bind_many, setAll, List.map, List.replicate, List.length, List.cons_append, List.nil_append, List.getElem?_cons_zero, List.getElem?_cons_succ, List.set_cons_zero, List.set_cons_succ, Option.bind_some, ex_some, Option.some.injEq, Slot.own.injEq, Slot.val.injEq, exists_eq_left', true_and, and_true, Bool.false_eq_true, if_false, if_true, reduceIte, wEq, wNe, wAdd_i, wAdd_t, wAdd_l, wAdd_s, wSub_i, wMul_i, wDiv_i, wMod_i, wPow_i, wNeg_i, wLt_i, wLe_i, wGt_i, wGe_i, wIs_n, wIs_b, wIsNot_n, wIsNot_b, wIx_l, wIx_t, wLen_l, wLen_t, wAbs_i, wInt_i, wInt_b, wMax2_i, wMin2_i, wTuple_l, wTuple_t, wB_b, wI_i, seqOf_l, seqOf_t, wIAdd_i, wIAdd_t, wIMul_i, wSl_l, wSl_t, wIn_l, wIn_t, wNotIn_l, wNotIn_t, items_l, items_t, lv_i, lv_b, lv_n, eqv_ii, eqv_bb, isNon_n, isNon_i, isNon_b, isNon_s, isNon_t, isNon_l, Bool.not_true, Bool.not_false, b2n_t, b2n_f, pl_i, pl_b, pl_n, decide_eq_true_eq, sExt, sExtP, wMulT_i, wMulT_t, wRevS_l, wRevS_t, at0, at1, rb]
    refine ⟨(b[i], 1), r, rfl, (show (1 : Int) ≠ 0 by decide), (sp hr).1, hsy, one, (sp hr).2.1, (sp hr).2.2, ?_⟩
    refine ⟨_, _, rfl, by omega, by omega, c3.2.1, c3.2.2, c2.2.1, c2.2.2, ?_⟩
    unfold forW m_mixed_r4
    have tl : ((mixL p r a b).take i).length < sizeLine := by rw [List.length_take]; omega
    try simp only [sSeq, sSkip, sAsg, sAsgP, sNew, sNewP, sRet, sRetO, sIf, sApp, sAppP, sSet, sAug, sTgt, sTgtP, sPar, sFz, frz, sFor, sForR, sRev, sBrk, sCnt, sDrop, eOp, eUn, eCall, eVar, eC, eFr, eTup, eTupR, eAnd, eOr, eNot, eIf, eChain, eIndex, eSl, nLst, nList, nListR, nLc, nLc2, nCall, nSorted, nRep, tOf, tAndJ, tOrJ, tNotJ, tTrue, iSeq, iR1, iR2, iR3, rg1, rg2, evA, pNo, pSo, startE, hide, rd, hide_v, hide_o, hide_n, rd_v, rd_o, rd_n, bind_one, bind_many, setAll, List.map, List.replicate, List.length, List.cons_append, List.nil_append, List.getElem?_cons_zero, List.getElem?_cons_succ, List.set_cons_zero, List.set_cons_succ, Option.bind_some, ex_some, Option.some.injEq, Slot.own.injEq, Slot.val.injEq, exists_eq_left', true_and, and_true, Bool.false_eq_true, if_false, if_true, reduceIte, wEq, wNe, wAdd_i, wAdd_t, wAdd_l, wAdd_s, wSub_i, wMul_i, wDiv_i, wMod_i, wPow_i, wNeg_i, wLt_i, wLe_i, wGt_i, wGe_i, wIs_n, wIs_b, wIsNot_n, wIsNot_b, wIx_l, wIx_t, wLen_l, wLen_t, wAbs_i, wInt_i, wInt_b, wMax2_i, wMin2_i, wTuple_l, wTuple_t, wB_b, wI_i, seqOf_l, seqOf_t, wIAdd_i, wIAdd_t, wIMul_i, wSl_l, wSl_t, wIn_l, wIn_t, wNotIn_l, wNotIn_t, items_l, items_t, lv_i, lv_b, lv_n, eqv_ii, eqv_bb, isNon_n, isNon_i, isNon_b, isNon_s, isNon_t, isNon_l, Bool.not_true, Bool.not_false, b2n_t, b2n_f, pl_i, pl_b, pl_n, decide_eq_true_eq, sExt, sExtP, wMulT_i, wMulT_t, wRevS_l, wRevS_t, at0, at1, List.length_map]
    refine ⟨tl, _, _, rfl, c4.1, c4.2, hR _ ⟨hil, ?_⟩⟩
    iterate 3 apply Exists.intro
    have hm : (mixL p r a b)[i]? = some (mx p r a[i] b[i]) := by
      unfold mixL
      rw [List.getElem?_zipWith, List.getElem?_eq_getElem hil, List.getElem?_eq_getElem hib]
    rw [List.take_succ, hm, List.map_append]
    rfl
  · rintro e ⟨_, s3, s4, s5, rfl⟩
    unfold m_mixed_r2
    try simp only [sSeq, sSkip, sAsg, sAsgP, sNew, sNewP, sRet, sRetO, sIf, sApp, sAppP, sSet, sAug, sTgt, sTgtP, sPar, sFz, frz, sFor, sForR, sRev, sBrk, sCnt, sDrop, eOp, eUn, eCall, eVar, eC, eFr, eTup, eTupR, eAnd, eOr, eNot, eIf, eChain, eIndex, eSl, nLst, nList, nListR, nLc, nLc2, nCall, nSorted, nRep, tOf, tAndJ, tOrJ, tNotJ, tTrue, iSeq, iR1, iR2, iR3, rg1, rg2, evA, pNo, pSo, startE, hide, rd, hide_v, hide_o, hide_n, rd_v, rd_o, rd_n, bind_one, bind_many, setAll, List.map, List.replicate, List.length, List.cons_append, List.nil_append, List.getElem?_cons_zero, List.getElem?_cons_succ, List.set_cons_zero, List.set_cons_succ, Option.bind_some, ex_some, Option.some.injEq, Slot.own.injEq, Slot.val.injEq, exists_eq_left', true_and, and_true, Bool.false_eq_true, if_false, if_true, reduceIte, wEq, wNe, wAdd_i, wAdd_t, wAdd_l, wAdd_s, wSub_i, wMul_i, wDiv_i, wMod_i, wPow_i, wNeg_i, wLt_i, wLe_i, wGt_i, wGe_i, wIs_n, wIs_b, wIsNot_n, wIsNot_b, wIx_l, wIx_t, wLen_l, wLen_t, wAbs_i, wInt_i, wInt_b, wMax2_i, wMin2_i, wTuple_l, wTuple_t, wB_b, wI_i, seqOf_l, seqOf_t, wIAdd_i, wIAdd_t, wIMul_i, wSl_l, wSl_t, wIn_l, wIn_t, wNotIn_l, wNotIn_t, items_l, items_t, lv_i, lv_b, lv_n, eqv_ii, eqv_bb, isNon_n, isNon_i, isNon_b, isNon_s, isNon_t, isNon_l, Bool.not_true, Bool.not_false, b2n_t, b2n_f, pl_i, pl_b, pl_n, decide_eq_true_eq, sExt, sExtP, wMulT_i, wMulT_t, wRevS_l, wRevS_t]
    have e3 : (rgD 0 (a.length : Int)).length = a.length := by rw [rgD_length]; omega
    rw [e3, List.take_of_length_le (by unfold mixL; rw [List.length_zipWith]; omega)]
    exact q

/-! ## faded -/
theorem rg_nat (n : Nat) : rgD 0 (n : Int) = (List.range n).map fun i : Nat => PyData.int (i : Int) := by
  unfold rgD rgI
  rw [List.map_map]
  have : ((n : Int) - 0).toNat = n := by omega
  rw [this]
  refine List.map_congr_left fun i _ => ?_
  show PyData.int (0 + (i : Int)) = _
  rw [Int.zero_add]
def onN (g : Nat → D) : D → D
  | .int i => g i.toNat
  | _ => .none
/-- over range(n) -/
theorem mapW_rg {f : D → (Option D → Prop) → Prop} (g : Nat → D) {n : Nat} {k : Int} (hk : k = n) {Q : List D → Prop} (h : ∀ i, i < n → ∀ R : Option D → Prop, R (some (g i)) → f (.int (i : Int)) R) (q : Q ((List.range n).map g)) : mapW f (rgD 0 k) Q := by
  subst hk
  rw [rg_nat]
  refine mapW_map (onN g) (fun d hd R hR => ?_) ?_
  · obtain ⟨i, hi, rfl⟩ := List.mem_map.mp hd
    refine h i (List.mem_range.mp hi) R ?_
    have : onN g (.int (i : Int)) = g i := by show g (i : Int).toNat = g i; rw [Int.toNat_natCast]
    rw [← this]
    exact hR
  · rw [List.map_map]
    have : onN g ∘ (fun i : Nat => PyData.int (i : Int)) = g := by
      funext i
      show g (i : Int).toNat = g i
      rw [Int.toNat_natCast]
    rw [this]
    exact q
theorem getD_at {ss : List Int} {i : Nat} {k : Int} (hk : k = i) (h : i < ss.length) : atI (ss.map PyData.int) k = some (.int (ss.getD i 0)) := by
  refine atI_at hk ?_
  rw [List.getElem?_map, List.getElem?_eq_getElem h, List.getD_eq_getElem?_getD, List.getElem?_eq_getElem h]
  rfl
theorem getD_mem {ss : List Int} {i : Nat} (h : i < ss.length) : ss.getD i 0 ∈ ss := by
  rw [List.getD_eq_getElem?_getD, List.getElem?_eq_getElem h]
  exact List.getElem_mem h
theorem cut_nat {α : Type} {xs : List α} {a b : Nat} {i j : Int} (hi : i = a) (hj : j = b) (h1 : a ≤ xs.length) (h2 : b ≤ xs.length) : J.cutD xs (some i) (some j) = (xs.drop a).take (b - a) := by
  subst hi hj
  unfold J.cutD
  rw [HT.sIx_nat, HT.sIx_nat, Nat.min_eq_left h1, Nat.min_eq_left h2]
theorem cut_to {α : Type} {xs : List α} {b : Nat} {j : Int} (hj : j = b) (h2 : b ≤ xs.length) : J.cutD xs none (some j) = xs.take b := by
  subst hj
  unfold J.cutD
  rw [HT.sIx_nat, HT.sIx_none, Nat.min_eq_left h2]
  simp
theorem cut_from {α : Type} {xs : List α} {a : Nat} {i : Int} (hi : i = a) (h1 : a ≤ xs.length) : J.cutD xs (some i) none = xs.drop a := by
  subst hi
  unfold J.cutD
  rw [HT.sIx_nat, HT.sIx_none, Nat.min_eq_left h1, List.take_of_length_le (by rw [List.length_drop]; exact Nat.le_refl _)]
def fadeL (ss : List Int) (f l : Nat) : List Int := ss.take f ++ (List.range (l - f)).map (fun i => tz (ss.getD (f + i) 0 * (((l : Int) - f) - i)) ((l : Int) - f)) ++ List.replicate (ss.length - l) 0
/-! faded: 0=samples 1=first 2=last 3=n 4=down 5=at -/
def m_faded : SX := (sSeq (sAsg 3 (eOp wSub (eVar 2) (eVar 1)))
      (sSeq (sAsg 4 (eUn wTuple (eFr (nLc (iR1 (eVar 3)) (.one 5) [5] tTrue (eCall S_toward_zero_levels [(eOp wMul (eOp wIx (eVar 0) (eOp wAdd (eVar 1) (eVar 5))) (eOp wSub (eVar 3) (eVar 5))), (eVar 3)])))))
      (sRet (eOp wAdd (eOp wAdd (eSl (eVar 0) pNo (pSo (eVar 1))) (eVar 4)) (eOp wMulT (eTup [(eC (.int 0))]) (eOp wSub (eCall wLen [(eVar 0)]) (eVar 2)))))))
def S_faded : WL := fun ds Q => ∃ (ss : List Int) (f l : Nat), ds = [T ss, .int (f : Int), .int (l : Int)] ∧ f ≤ l ∧ l ≤ ss.length ∧ ss.length ≤ 1000 ∧ (∀ s ∈ ss, Sm s) ∧ Q (T (fadeL ss f l))
theorem wp_faded (ds : List D) (QD : D → Prop) (h : S_faded ds QD) : m_faded (startE 6 ds) ⟨fun _ => QD .none, QD, noB, noB, fun es => QD (.list es)⟩ := by
  obtain ⟨ss, f, l, rfl, hfl, hl, hb, hs, q⟩ := h
  have hz : sizeLine = 16777216 := sizeLine_eq
  have h1000 : (1000 : Nat) < 2 ^ 1000 := Nat.lt_of_lt_of_le (show 1000 < 2 ^ 10 by decide) (Nat.pow_le_pow_right (by decide) (by decide))
  unfold m_faded
  try simp only [sSeq, sSkip, sAsg, sAsgP, sNew, sNewP, sRet, sRetO, sIf, sApp, sAppP, sSet, sAug, sTgt, sTgtP, sPar, sFz, frz, sFor, sForR, sRev, sBrk, sCnt, sDrop, eOp, eUn, eCall, eVar, eC, eFr, eTup, eTupR, eAnd, eOr, eNot, eIf, eChain, eIndex, eSl, nLst, nList, nListR, nLc, nLc2, nCall, nSorted, nRep, tOf, tAndJ, tOrJ, tNotJ, tTrue, iSeq, iR1, iR2, iR3, rg1, rg2, evA, pNo, pSo, startE, hide, rd, hide_v, hide_o, hide_n, rd_v, rd_o, rd_n, bind_one, bind_many, setAll, List.map, List.replicate, List.length, List.cons_append, List.nil_append, List.getElem?_cons_zero, List.getElem?_cons_succ, List.set_cons_zero, List.set_cons_succ, Option.bind_some, ex_some, Option.some.injEq, Slot.own.injEq, Slot.val.injEq, exists_eq_left', true_and, and_true, Bool.false_eq_true, if_false, if_true, reduceIte, wEq, wNe, wAdd_i, wAdd_t, wAdd_l, wAdd_s, wSub_i, wMul_i, wDiv_i, wMod_i, wPow_i, wNeg_i, wLt_i, wLe_i, wGt_i, wGe_i, wIs_n, wIs_b, wIsNot_n, wIsNot_b, wIx_l, wIx_t, wLen_l, wLen_t, wAbs_i, wInt_i, wInt_b, wMax2_i, wMin2_i, wTuple_l, wTuple_t, wB_b, wI_i, seqOf_l, seqOf_t, wIAdd_i, wIAdd_t, wIMul_i, wSl_l, wSl_t, wIn_l, wIn_t, wNotIn_l, wNotIn_t, items_l, items_t, lv_i, lv_b, lv_n, eqv_ii, eqv_bb, isNon_n, isNon_i, isNon_b, isNon_s, isNon_t, isNon_l, Bool.not_true, Bool.not_false, b2n_t, b2n_f, pl_i, pl_b, pl_n, decide_eq_true_eq, sExt, sExtP, wMulT_i, wMulT_t, wRevS_l, wRevS_t]
  refine ⟨⟨by decide, by decide, by omega, by omega, by omega⟩, ?_⟩
  refine mapW_rg (fun i => .int (tz (ss.getD (f + i) 0 * (((l : Int) - f) - i)) ((l : Int) - f))) (n := l - f) (by omega) (fun i hi R hR => ?_) ?_
  · refine ⟨_, rfl, ?_⟩
    try simp only [sSeq, sSkip, sAsg, sAsgP, sNew, sNewP, sRet, sRetO, sIf, sApp, sAppP, sSet, sAug, sTgt, sTgtP, sPar, sFz, frz, sFor, sForR, sRev, sBrk, sCnt, sDrop, eOp, eUn, eCall, eVar, eC, eFr, eTup, eTupR, eAnd, eOr, eNot, eIf, eChain, eIndex, eSl, nLst, nList, nListR, nLc, nLc2, nCall, nSorted, nRep, tOf, tAndJ, tOrJ, tNotJ, tTrue, iSeq, iR1, iR2, iR3, rg1, rg2, evA, pNo, pSo, startE, hide, rd, hide_v, hide_o, hide_n, rd_v, rd_o, rd_n, bind_one, bind_many, setAll, List.map, List.replicate, List.length, List.cons_append, List.nil_append, List.getElem?_cons_zero, List.getElem?_cons_succ, List.set_cons_zero, List.set_cons_succ, Option.bind_some, ex_some, Option.some.injEq, Slot.own.injEq, Slot.val.injEq, exists_eq_left', true_and, and_true, Bool.false_eq_true, if_false, if_true, reduceIte, wEq, wNe, wAdd_i, wAdd_t, wAdd_l, wAdd_s, wSub_i, wMul_i, wDiv_i, wMod_i, wPow_i, wNeg_i, wLt_i, wLe_i, wGt_i, wGe_i, wIs_n, wIs_b, wIsNot_n, wIsNot_b, wIx_l, wIx_t, wLen_l, wLen_t, wAbs_i, wInt_i, wInt_b, wMax2_i, wMin2_i, wTuple_l, wTuple_t, wB_b, wI_i, seqOf_l, seqOf_t, wIAdd_i, wIAdd_t, wIMul_i, wSl_l, wSl_t, wIn_l, wIn_t, wNotIn_l, wNotIn_t, items_l, items_t, lv_i, lv_b, lv_n, eqv_ii, eqv_bb, isNon_n, isNon_i, isNon_b, isNon_s, isNon_t, isNon_l, Bool.not_true, Bool.not_false, b2n_t, b2n_f, pl_i, pl_b, pl_n, decide_eq_true_eq, sExt, sExtP, wMulT_i, wMulT_t, wRevS_l, wRevS_t, wipeE]
    refine ⟨_, getD_at (i := f + i) (by omega) (by omega), ?_⟩
    try simp only [sSeq, sSkip, sAsg, sAsgP, sNew, sNewP, sRet, sRetO, sIf, sApp, sAppP, sSet, sAug, sTgt, sTgtP, sPar, sFz, frz, sFor, sForR, sRev, sBrk, sCnt, sDrop, eOp, eUn, eCall, eVar, eC, eFr, eTup, eTupR, eAnd, eOr, eNot, eIf, eChain, eIndex, eSl, nLst, nList, nListR, nLc, nLc2, nCall, nSorted, nRep, tOf, tAndJ, tOrJ, tNotJ, tTrue, iSeq, iR1, iR2, iR3, rg1, rg2, evA, pNo, pSo, startE, hide, rd, hide_v, hide_o, hide_n, rd_v, rd_o, rd_n, bind_one, bind_many, setAll, List.map, List.replicate, List.length, List.cons_append, List.nil_append, List.getElem?_cons_zero, List.getElem?_cons_succ, List.set_cons_zero, List.set_cons_succ, Option.bind_some, ex_some, Option.some.injEq, Slot.own.injEq, Slot.val.injEq, exists_eq_left', true_and, and_true, Bool.false_eq_true, if_false, if_true, reduceIte, wEq, wNe, wAdd_i, wAdd_t, wAdd_l, wAdd_s, wSub_i, wMul_i, wDiv_i, wMod_i, wPow_i, wNeg_i, wLt_i, wLe_i, wGt_i, wGe_i, wIs_n, wIs_b, wIsNot_n, wIsNot_b, wIx_l, wIx_t, wLen_l, wLen_t, wAbs_i, wInt_i, wInt_b, wMax2_i, wMin2_i, wTuple_l, wTuple_t, wB_b, wI_i, seqOf_l, seqOf_t, wIAdd_i, wIAdd_t, wIMul_i, wSl_l, wSl_t, wIn_l, wIn_t, wNotIn_l, wNotIn_t, items_l, items_t, lv_i, lv_b, lv_n, eqv_ii, eqv_bb, isNon_n, isNon_i, isNon_b, isNon_s, isNon_t, isNon_l, Bool.not_true, Bool.not_false, b2n_t, b2n_f, pl_i, pl_b, pl_n, decide_eq_true_eq, sExt, sExtP, wMulT_i, wMulT_t, wRevS_l, wRevS_t]
    refine ⟨sm_mul (hs _ (getD_mem (by omega))) (by show Int.natAbs _ < _; omega), _, _, rfl, by omega, ?_, hR⟩
    exact Nat.lt_of_lt_of_le (show ((l : Int) - f).natAbs < 2 ^ 1000 by omega) (Nat.pow_le_pow_right (by decide) (by decide))
  · have e1 : (List.range (l - f)).map (fun i => PyData.int (tz (ss.getD (f + i) 0 * (((l : Int) - f) - i)) ((l : Int) - f))) = ((List.range (l - f)).map fun i => tz (ss.getD (f + i) 0 * (((l : Int) - f) - i)) ((l : Int) - f)).map PyData.int := by rw [List.map_map]; rfl
    rw [e1]
    have e2 : J.cutD (ss.map PyData.int) none (some (f : Int)) = (ss.take f).map PyData.int := by rw [cut_to rfl (by rw [List.length_map]; omega), List.map_take]
    try simp only [sSeq, sSkip, sAsg, sAsgP, sNew, sNewP, sRet, sRetO, sIf, sApp, sAppP, sSet, sAug, sTgt, sTgtP, sPar, sFz, frz, sFor, sForR, sRev, sBrk, sCnt, sDrop, eOp, eUn, eCall, eVar, eC, eFr, eTup, eTupR, eAnd, eOr, eNot, eIf, eChain, eIndex, eSl, nLst, nList, nListR, nLc, nLc2, nCall, nSorted, nRep, tOf, tAndJ, tOrJ, tNotJ, tTrue, iSeq, iR1, iR2, iR3, rg1, rg2, evA, pNo, pSo, startE, hide, rd, hide_v, hide_o, hide_n, rd_v, rd_o, rd_n, bind_one, bind_many, setAll, List.map, List.replicate, List.length, List.cons_append, List.nil_append, List.getElem?_cons_zero, List.getElem?_cons_succ, List.set_cons_zero, List.set_cons_succ, Option.bind_some, ex_some, Option.some.injEq, Slot.own.injEq, Slot.val.injEq, exists_eq_left', true_and, and_true, Bool.false_eq_true, if_false, if_true, reduceIte, wEq, wNe, wAdd_i, wAdd_t, wAdd_l, wAdd_s, wSub_i, wMul_i, wDiv_i, wMod_i, wPow_i, wNeg_i, wLt_i, wLe_i, wGt_i, wGe_i, wIs_n, wIs_b, wIsNot_n, wIsNot_b, wIx_l, wIx_t, wLen_l, wLen_t, wAbs_i, wInt_i, wInt_b, wMax2_i, wMin2_i, wTuple_l, wTuple_t, wB_b, wI_i, seqOf_l, seqOf_t, wIAdd_i, wIAdd_t, wIMul_i, wSl_l, wSl_t, wIn_l, wIn_t, wNotIn_l, wNotIn_t, items_l, items_t, lv_i, lv_b, lv_n, eqv_ii, eqv_bb, isNon_n, isNon_i, isNon_b, isNon_s, isNon_t, isNon_l, Bool.not_true, Bool.not_false, b2n_t, b2n_f, pl_i, pl_b, pl_n, decide_eq_true_eq, sExt, sExtP, wMulT_i, wMulT_t, wRevS_l, wRevS_t, e2, List.length_map, List.length_append, List.length_take, List.length_range]
    refine ⟨by omega, by omega, by omega, by decide, ?_, ?_⟩
    · rw [PyProof.Rows.lm_len_rep_flat]
      simp only [List.length_cons, List.length_nil]
      omega
    · have e3 : (List.replicate (((ss.length : Nat) : Int) - (l : Int)).toNat [PyData.int 0]).flatten = (List.replicate (ss.length - l) (0 : Int)).map PyData.int := by
        rw [show (((ss.length : Nat) : Int) - (l : Int)).toNat = ss.length - l by omega, List.map_replicate]
        exact List.flatten_replicate_singleton
      rw [e3, ← List.map_append, ← List.map_append]
      exact q
/-! ## played -/
def atS (ss : List Int) (b e i : Nat) : Int := ss.getD (if i < e then i else b + (i - b) % (e - b)) 0
def playedL (ss : List Int) (b e m : Nat) : List Int := (List.range m).map (atS ss b e)
theorem at_ix {ss : List Int} {b e i : Nat} (hbe : b < e) (he : e ≤ ss.length) : (if i < e then i else b + (i - b) % (e - b)) < ss.length := by
  split
  · omega
  · have := Nat.mod_lt (i - b) (show 0 < e - b by omega)
    omega
/-! sample_at: 0=samples 1=begin 2=end 3=at -/
def m_sample_at : SX := (sRet (eIf (tOf (eOp wLt (eVar 3) (eVar 2))) (eOp wIx (eVar 0) (eVar 3)) (eOp wIx (eVar 0) (eOp wAdd (eVar 1) (eOp wMod (eOp wSub (eVar 3) (eVar 1)) (eOp wSub (eVar 2) (eVar 1)))))))
def S_sample_at : WL := fun ds Q => ∃ (ss : List Int) (b e i : Nat), ds = [T ss, .int (b : Int), .int (e : Int), .int (i : Int)] ∧ b < e ∧ e ≤ ss.length ∧ Q (.int (atS ss b e i))
theorem wp_sample_at (ds : List D) (QD : D → Prop) (h : S_sample_at ds QD) : m_sample_at (startE 4 ds) ⟨fun _ => QD .none, QD, noB, noB, fun es => QD (.list es)⟩ := by
  obtain ⟨ss, b, e, i, rfl, hbe, he, q⟩ := h
  have hix := at_ix (i := i) hbe he
  unfold atS at q
  unfold m_sample_at
  try simp only [sSeq, sSkip, sAsg, sAsgP, sNew, sNewP, sRet, sRetO, sIf, sApp, sAppP, sSet, sAug, sTgt, sTgtP, sPar, sFz, frz, sFor, sForR, sRev, sBrk, sCnt, sDrop, eOp, eUn, eCall, eVar, eC, eFr, eTup, eTupR, eAnd, eOr, eNot, eIf, eChain, eIndex, eSl, nLst, nList, nListR, nLc, nLc2, nCall, nSorted, nRep, tOf, tAndJ, tOrJ, tNotJ, tTrue, iSeq, iR1, iR2, iR3, rg1, rg2, evA, pNo, pSo, startE, hide, rd, hide_v, hide_o, hide_n, rd_v, rd_o, rd_n, bind_one, bind_many, setAll, List.map, List.replicate, List.length, List.cons_append, List.nil_append, List.getElem?_cons_zero, List.getElem?_cons_succ, List.set_cons_zero, List.set_cons_succ, Option.bind_some, ex_some, Option.some.injEq, Slot.own.injEq, Slot.val.injEq, exists_eq_left', true_and, and_true, Bool.false_eq_true, if_false, if_true, reduceIte, wEq, wNe, wAdd_i, wAdd_t, wAdd_l, wAdd_s, wSub_i, wMul_i, wDiv_i, wMod_i, wPow_i, wNeg_i, wLt_i, wLe_i, wGt_i, wGe_i, wIs_n, wIs_b, wIsNot_n, wIsNot_b, wIx_l, wIx_t, wLen_l, wLen_t, wAbs_i, wInt_i, wInt_b, wMax2_i, wMin2_i, wTuple_l, wTuple_t, wB_b, wI_i, seqOf_l, seqOf_t, wIAdd_i, wIAdd_t, wIMul_i, wSl_l, wSl_t, wIn_l, wIn_t, wNotIn_l, wNotIn_t, items_l, items_t, lv_i, lv_b, lv_n, eqv_ii, eqv_bb, isNon_n, isNon_i, isNon_b, isNon_s, isNon_t, isNon_l, Bool.not_true, Bool.not_false, b2n_t, b2n_f, pl_i, pl_b, pl_n, decide_eq_true_eq, sExt, sExtP, wMulT_i, wMulT_t, wRevS_l, wRevS_t]
  split
  · rename_i c
    rw [if_pos (by omega)] at q hix
    exact ⟨_, getD_at rfl hix, q⟩
  · rename_i c
    rw [if_neg (by omega)] at q hix
    refine ⟨by omega, _, getD_at (i := b + (i - b) % (e - b)) ?_ hix, q⟩
    rw [Int.natCast_add, Int.natCast_emod, Int.natCast_sub (by omega), Int.natCast_sub (by omega)]
/-! played: 0=samples 1=begin 2=end 3=many 4=at -/
def m_played : SX := (sRet (eUn wTuple (eFr (nLc (iR1 (eVar 3)) (.one 4) [4] tTrue (eCall S_sample_at [(eVar 0), (eVar 1), (eVar 2), (eVar 4)])))))
def S_played : WL := fun ds Q => ∃ (ss : List Int) (b e m : Nat), ds = [T ss, .int (b : Int), .int (e : Int), .int (m : Int)] ∧ b < e ∧ e ≤ ss.length ∧ m ≤ 1000000 ∧ Q (T (playedL ss b e m))
theorem wp_played (ds : List D) (QD : D → Prop) (h : S_played ds QD) : m_played (startE 5 ds) ⟨fun _ => QD .none, QD, noB, noB, fun es => QD (.list es)⟩ := by
  obtain ⟨ss, b, e, m, rfl, hbe, he, hm, q⟩ := h
  unfold m_played
  try simp only [sSeq, sSkip, sAsg, sAsgP, sNew, sNewP, sRet, sRetO, sIf, sApp, sAppP, sSet, sAug, sTgt, sTgtP, sPar, sFz, frz, sFor, sForR, sRev, sBrk, sCnt, sDrop, eOp, eUn, eCall, eVar, eC, eFr, eTup, eTupR, eAnd, eOr, eNot, eIf, eChain, eIndex, eSl, nLst, nList, nListR, nLc, nLc2, nCall, nSorted, nRep, tOf, tAndJ, tOrJ, tNotJ, tTrue, iSeq, iR1, iR2, iR3, rg1, rg2, evA, pNo, pSo, startE, hide, rd, hide_v, hide_o, hide_n, rd_v, rd_o, rd_n, bind_one, bind_many, setAll, List.map, List.replicate, List.length, List.cons_append, List.nil_append, List.getElem?_cons_zero, List.getElem?_cons_succ, List.set_cons_zero, List.set_cons_succ, Option.bind_some, ex_some, Option.some.injEq, Slot.own.injEq, Slot.val.injEq, exists_eq_left', true_and, and_true, Bool.false_eq_true, if_false, if_true, reduceIte, wEq, wNe, wAdd_i, wAdd_t, wAdd_l, wAdd_s, wSub_i, wMul_i, wDiv_i, wMod_i, wPow_i, wNeg_i, wLt_i, wLe_i, wGt_i, wGe_i, wIs_n, wIs_b, wIsNot_n, wIsNot_b, wIx_l, wIx_t, wLen_l, wLen_t, wAbs_i, wInt_i, wInt_b, wMax2_i, wMin2_i, wTuple_l, wTuple_t, wB_b, wI_i, seqOf_l, seqOf_t, wIAdd_i, wIAdd_t, wIMul_i, wSl_l, wSl_t, wIn_l, wIn_t, wNotIn_l, wNotIn_t, items_l, items_t, lv_i, lv_b, lv_n, eqv_ii, eqv_bb, isNon_n, isNon_i, isNon_b, isNon_s, isNon_t, isNon_l, Bool.not_true, Bool.not_false, b2n_t, b2n_f, pl_i, pl_b, pl_n, decide_eq_true_eq, sExt, sExtP, wMulT_i, wMulT_t, wRevS_l, wRevS_t]
  refine ⟨⟨by decide, by decide, by omega, by omega, by omega⟩, ?_⟩
  refine mapW_rg (fun i => .int (atS ss b e i)) rfl (fun i hi R hR => ?_) ?_
  · refine ⟨_, rfl, ?_⟩
    try simp only [sSeq, sSkip, sAsg, sAsgP, sNew, sNewP, sRet, sRetO, sIf, sApp, sAppP, sSet, sAug, sTgt, sTgtP, sPar, sFz, frz, sFor, sForR, sRev, sBrk, sCnt, sDrop, eOp, eUn, eCall, eVar, eC, eFr, eTup, eTupR, eAnd, eOr, eNot, eIf, eChain, eIndex, eSl, nLst, nList, nListR, nLc, nLc2, nCall, nSorted, nRep, tOf, tAndJ, tOrJ, tNotJ, tTrue, iSeq, iR1, iR2, iR3, rg1, rg2, evA, pNo, pSo, startE, hide, rd, hide_v, hide_o, hide_n, rd_v, rd_o, rd_n, bind_one, bind_many, setAll, List.map, List.replicate, List.length, List.cons_append, List.nil_append, List.getElem?_cons_zero, List.getElem?_cons_succ, List.set_cons_zero, List.set_cons_succ, Option.bind_some, ex_some, Option.some.injEq, Slot.own.injEq, Slot.val.injEq, exists_eq_left', true_and, and_true, Bool.false_eq_true, if_false, if_true, reduceIte, wEq, wNe, wAdd_i, wAdd_t, wAdd_l, wAdd_s, wSub_i, wMul_i, wDiv_i, wMod_i, wPow_i, wNeg_i, wLt_i, wLe_i, wGt_i, wGe_i, wIs_n, wIs_b, wIsNot_n, wIsNot_b, wIx_l, wIx_t, wLen_l, wLen_t, wAbs_i, wInt_i, wInt_b, wMax2_i, wMin2_i, wTuple_l, wTuple_t, wB_b, wI_i, seqOf_l, seqOf_t, wIAdd_i, wIAdd_t, wIMul_i, wSl_l, wSl_t, wIn_l, wIn_t, wNotIn_l, wNotIn_t, items_l, items_t, lv_i, lv_b, lv_n, eqv_ii, eqv_bb, isNon_n, isNon_i, isNon_b, isNon_s, isNon_t, isNon_l, Bool.not_true, Bool.not_false, b2n_t, b2n_f, pl_i, pl_b, pl_n, decide_eq_true_eq, sExt, sExtP, wMulT_i, wMulT_t, wRevS_l, wRevS_t, wipeE]
    exact ⟨ss, b, e, i, rfl, hbe, he, hR⟩
  · have e1 : (List.range m).map (fun i => PyData.int (atS ss b e i)) = (playedL ss b e m).map PyData.int := by unfold playedL; rw [List.map_map]; rfl
    rw [e1]
    exact q
/-! jump_of: 0=samples 1=begin 2=end -/
def m_jump_of : SX := (sRet (eCall wAbs [(eOp wSub (eOp wIx (eVar 0) (eOp wSub (eVar 2) (eC (.int 1)))) (eOp wIx (eVar 0) (eVar 1)))]))
def jumpS (ss : List Int) (b e : Nat) : Int := ((ss.getD (e - 1) 0 - ss.getD b 0).natAbs : Nat)
def S_jump_of : WL := fun ds Q => ∃ (ss : List Int) (b e : Nat), ds = [T ss, .int (b : Int), .int (e : Int)] ∧ b < e ∧ e ≤ ss.length ∧ Q (.int (jumpS ss b e))
theorem wp_jump_of (ds : List D) (QD : D → Prop) (h : S_jump_of ds QD) : m_jump_of (startE 3 ds) ⟨fun _ => QD .none, QD, noB, noB, fun es => QD (.list es)⟩ := by
  obtain ⟨ss, b, e, rfl, hbe, he, q⟩ := h
  unfold m_jump_of
  try simp only [sSeq, sSkip, sAsg, sAsgP, sNew, sNewP, sRet, sRetO, sIf, sApp, sAppP, sSet, sAug, sTgt, sTgtP, sPar, sFz, frz, sFor, sForR, sRev, sBrk, sCnt, sDrop, eOp, eUn, eCall, eVar, eC, eFr, eTup, eTupR, eAnd, eOr, eNot, eIf, eChain, eIndex, eSl, nLst, nList, nListR, nLc, nLc2, nCall, nSorted, nRep, tOf, tAndJ, tOrJ, tNotJ, tTrue, iSeq, iR1, iR2, iR3, rg1, rg2, evA, pNo, pSo, startE, hide, rd, hide_v, hide_o, hide_n, rd_v, rd_o, rd_n, bind_one, bind_many, setAll, List.map, List.replicate, List.length, List.cons_append, List.nil_append, List.getElem?_cons_zero, List.getElem?_cons_succ, List.set_cons_zero, List.set_cons_succ, Option.bind_some, ex_some, Option.some.injEq, Slot.own.injEq, Slot.val.injEq, exists_eq_left', true_and, and_true, Bool.false_eq_true, if_false, if_true, reduceIte, wEq, wNe, wAdd_i, wAdd_t, wAdd_l, wAdd_s, wSub_i, wMul_i, wDiv_i, wMod_i, wPow_i, wNeg_i, wLt_i, wLe_i, wGt_i, wGe_i, wIs_n, wIs_b, wIsNot_n, wIsNot_b, wIx_l, wIx_t, wLen_l, wLen_t, wAbs_i, wInt_i, wInt_b, wMax2_i, wMin2_i, wTuple_l, wTuple_t, wB_b, wI_i, seqOf_l, seqOf_t, wIAdd_i, wIAdd_t, wIMul_i, wSl_l, wSl_t, wIn_l, wIn_t, wNotIn_l, wNotIn_t, items_l, items_t, lv_i, lv_b, lv_n, eqv_ii, eqv_bb, isNon_n, isNon_i, isNon_b, isNon_s, isNon_t, isNon_l, Bool.not_true, Bool.not_false, b2n_t, b2n_f, pl_i, pl_b, pl_n, decide_eq_true_eq, sExt, sExtP, wMulT_i, wMulT_t, wRevS_l, wRevS_t]
  refine ⟨_, getD_at (i := e - 1) (by omega) (by omega), ?_⟩
  refine ⟨_, getD_at (i := b) rfl (by omega), ?_⟩
  try simp only [sSeq, sSkip, sAsg, sAsgP, sNew, sNewP, sRet, sRetO, sIf, sApp, sAppP, sSet, sAug, sTgt, sTgtP, sPar, sFz, frz, sFor, sForR, sRev, sBrk, sCnt, sDrop, eOp, eUn, eCall, eVar, eC, eFr, eTup, eTupR, eAnd, eOr, eNot, eIf, eChain, eIndex, eSl, nLst, nList, nListR, nLc, nLc2, nCall, nSorted, nRep, tOf, tAndJ, tOrJ, tNotJ, tTrue, iSeq, iR1, iR2, iR3, rg1, rg2, evA, pNo, pSo, startE, hide, rd, hide_v, hide_o, hide_n, rd_v, rd_o, rd_n, bind_one, bind_many, setAll, List.map, List.replicate, List.length, List.cons_append, List.nil_append, List.getElem?_cons_zero, List.getElem?_cons_succ, List.set_cons_zero, List.set_cons_succ, Option.bind_some, ex_some, Option.some.injEq, Slot.own.injEq, Slot.val.injEq, exists_eq_left', true_and, and_true, Bool.false_eq_true, if_false, if_true, reduceIte, wEq, wNe, wAdd_i, wAdd_t, wAdd_l, wAdd_s, wSub_i, wMul_i, wDiv_i, wMod_i, wPow_i, wNeg_i, wLt_i, wLe_i, wGt_i, wGe_i, wIs_n, wIs_b, wIsNot_n, wIsNot_b, wIx_l, wIx_t, wLen_l, wLen_t, wAbs_i, wInt_i, wInt_b, wMax2_i, wMin2_i, wTuple_l, wTuple_t, wB_b, wI_i, seqOf_l, seqOf_t, wIAdd_i, wIAdd_t, wIMul_i, wSl_l, wSl_t, wIn_l, wIn_t, wNotIn_l, wNotIn_t, items_l, items_t, lv_i, lv_b, lv_n, eqv_ii, eqv_bb, isNon_n, isNon_i, isNon_b, isNon_s, isNon_t, isNon_l, Bool.not_true, Bool.not_false, b2n_t, b2n_f, pl_i, pl_b, pl_n, decide_eq_true_eq, sExt, sExtP, wMulT_i, wMulT_t, wRevS_l, wRevS_t]
  exact q
/-! ## best_loop -/
abbrev C3 := Int × Nat × Nat
def lexC (x y : C3) : Bool := decide (x.1 < y.1 ∨ (x.1 = y.1 ∧ (x.2.1 < y.2.1 ∨ (x.2.1 = y.2.1 ∧ x.2.2 < y.2.2))))
def encC (x : C3) : D := .tuple [.int x.1, .tuple [.int (x.2.1 : Int), .int (x.2.2 : Int)]]
def encC' (x : C3) : D := .tuple [.int x.1, .int (x.2.1 : Int), .int (x.2.2 : Int)]
def upC (a : Option C3) (y : C3) : Option C3 := match a with
  | none => some y
  | some a => if lexC y a = true then some y else some a
def rowC (ss : List Int) (least b : Nat) : List C3 := (List.range (ss.length + 1 - (b + least))).map fun k => (jumpS ss b (b + least + k), b, b + least + k)
def candC (ss : List Int) (least : Nat) : List C3 := (List.range ss.length).flatMap (rowC ss least)
def bestC (ss : List Int) (least : Nat) : Option C3 := (candC ss least).foldl upC none
def bestD (o : Option C3) : D := match o with
  | none => .none
  | some x => .tuple [.int (x.2.1 : Int), .int (x.2.2 : Int)]
theorem dlt_i (i j : Int) : dLt (.int i) (.int j) = decide (i < j) := PySem.W.dataLt_int i j
theorem dlt_t1 {x y : D} (h : PySem.W.alike x y = true) : dLt (.tuple [x]) (.tuple [y]) = if PyData.eqv x y = true then false else dLt x y := by
  unfold dLt
  rw [PySem.W.dataLt_tuple, PySem.W.dataLt_cons h]
  rfl
theorem dlt_t2 {x y u v : D} (h : PySem.W.alike x y = true) : dLt (.tuple [x, u]) (.tuple [y, v]) = if PyData.eqv x y = true then dLt (.tuple [u]) (.tuple [v]) else dLt x y := by
  unfold dLt
  rw [PySem.W.dataLt_tuple, PySem.W.dataLt_cons h, PySem.W.dataLt_tuple]
theorem dlt_t3 {x y u v a b : D} (h : PySem.W.alike x y = true) : dLt (.tuple [x, u, a]) (.tuple [y, v, b]) = if PyData.eqv x y = true then dLt (.tuple [u, a]) (.tuple [v, b]) else dLt x y := by
  unfold dLt
  rw [PySem.W.dataLt_tuple, PySem.W.dataLt_cons h, PySem.W.dataLt_tuple]
theorem dlt_p (i j k l : Int) : dLt (.tuple [.int i, .int j]) (.tuple [.int k, .int l]) = decide (i < k ∨ (i = k ∧ j < l)) := by
  rw [dlt_t2 rfl, dlt_t1 rfl, eqv_ii, eqv_ii, dlt_i, dlt_i]
  by_cases h : i = k
  · subst h
    by_cases h2 : j = l
    · subst h2; simp
    · simp [h2]
  · simp [h]
theorem dlt_C (x y : C3) : dLt (encC x) (encC y) = lexC x y := by
  obtain ⟨a, b, c⟩ := x
  obtain ⟨a', b', c'⟩ := y
  unfold encC lexC
  rw [dlt_t2 rfl, dlt_t1 rfl, eqv_ii, dlt_i, dlt_p]
  have e : PyData.eqv (.tuple [.int (b : Int), .int (c : Int)]) (.tuple [.int (b' : Int), .int (c' : Int)]) = decide (b = b' ∧ c = c') := by
    rw [PyData.eqv, PyData.eqvAll, PyData.eqvAll, PyData.eqvAll, eqv_ii, eqv_ii, Bool.and_true, Bool.eq_iff_iff, Bool.and_eq_true, decide_eq_true_eq, decide_eq_true_eq, decide_eq_true_eq]
    omega
  rw [e]
  simp only
  rw [Bool.eq_iff_iff]
  split
  · split
    · simp_all
    · simp_all
      omega
  · simp_all
theorem dlt_C' (x y : C3) : dLt (encC' x) (encC' y) = lexC x y := by
  obtain ⟨a, b, c⟩ := x
  obtain ⟨a', b', c'⟩ := y
  unfold encC' lexC
  rw [dlt_t3 rfl, eqv_ii, dlt_i, dlt_p]
  simp only
  rw [Bool.eq_iff_iff]
  split
  · simp_all
    omega
  · simp_all
theorem fold_some (l : List C3) (a : C3) : ∃ b, l.foldl upC (some a) = some b ∧ PySem.W.minD (encC a) (l.map encC) = encC b := by
  induction l generalizing a with
  | nil => exact ⟨a, rfl, rfl⟩
  | cons y l ih =>
    rw [List.foldl_cons, List.map_cons]
    show ∃ b, l.foldl upC (if lexC y a = true then some y else some a) = some b ∧ PySem.W.minD (if PySem.W.dataLt (encC y) (encC a) = true then encC y else encC a) (l.map encC) = encC b
    have e : PySem.W.dataLt (encC y) (encC a) = lexC y a := dlt_C y a
    rw [e]
    split
    · exact ih y
    · exact ih a
theorem lv_C (l : List C3) : (l.map encC).all (lv lvl) = true := by
  rw [List.all_map]
  exact List.all_eq_true.mpr fun _ _ => rfl
theorem alike_C (l : List C3) : PySem.W.AlikeAll (l.map encC) := ⟨fun x hx y hy => by
  obtain ⟨a, _, rfl⟩ := List.mem_map.mp hx
  obtain ⟨b, _, rfl⟩ := List.mem_map.mp hy
  rfl, fun x hx => by
  obtain ⟨a, _, rfl⟩ := List.mem_map.mp hx
  intro h
  cases h⟩
/-! best_loop: 0=samples 1=least 2=told 3=begin 4=end -/
def m_best_loop_b2 : SX := (sExt 2 (nLc (iR2 (eOp wAdd (eVar 3) (eVar 1)) (eOp wAdd (eCall wLen [(eVar 0)]) (eC (.int 1)))) (.one 4) [4] tTrue (eTup [(eCall S_jump_of [(eVar 0), (eVar 3), (eVar 4)]), (eTup [(eVar 3), (eVar 4)])])))
def m_best_loop_r2 : SX := (sRet (eIf (tOf (eOp wGt (eCall wLen [(eVar 2)]) (eC (.int 0)))) (eOp wIx (eCall wMin1 [(eVar 2)]) (eC (.int 1))) (eC .none)))
def m_best_loop : SX := (sSeq (sNew 2 (nLst []))
      (sSeq (sForR (iR1 (eCall wLen [(eVar 0)])) (.one 3) m_best_loop_b2)
      m_best_loop_r2))
def S_best_loop : WL := fun ds Q => ∃ (ss : List Int) (least : Nat), ds = [T ss, .int (least : Int)] ∧ 1 ≤ least ∧ least ≤ 1000 ∧ ss.length ≤ 1000 ∧ Q (bestD (bestC ss least))
theorem rg2_nat (a b : Nat) : rgD (a : Int) (b : Int) = (List.range (b - a)).map fun i : Nat => PyData.int ((a + i : Nat) : Int) := by
  unfold rgD rgI
  rw [List.map_map]
  have : ((b : Int) - a).toNat = b - a := by omega
  rw [this]
  refine List.map_congr_left fun i _ => ?_
  show PyData.int ((a : Int) + (i : Int)) = _
  rw [Int.natCast_add]
theorem mapW_nats {f : D → (Option D → Prop) → Prop} (g : Nat → D) {α : Type} {l : List α} (v : α → Nat) {Q : List D → Prop} (h : ∀ a ∈ l, ∀ R : Option D → Prop, R (some (g (v a))) → f (.int ((v a : Nat) : Int)) R) (q : Q (l.map fun a => g (v a))) : mapW f (l.map fun a => PyData.int ((v a : Nat) : Int)) Q := by
  refine mapW_map (onN g) (fun d hd R hR => ?_) ?_
  · obtain ⟨a, ha, rfl⟩ := List.mem_map.mp hd
    refine h a ha R ?_
    have : onN g (.int ((v a : Nat) : Int)) = g (v a) := by show g ((v a : Nat) : Int).toNat = _; rw [Int.toNat_natCast]
    rw [← this]
    exact hR
  · rw [List.map_map]
    have : (onN g ∘ fun a => PyData.int ((v a : Nat) : Int)) = fun a => g (v a) := by
      funext a
      show g ((v a : Nat) : Int).toNat = _
      rw [Int.toNat_natCast]
    rw [this]
    exact q
theorem cand_len (ss : List Int) (least i : Nat) : ((List.range i).flatMap (rowC ss least)).length ≤ i * (ss.length + 1) := by
  induction i with
  | zero => simp
  | succ i ih =>
    rw [List.range_succ, List.flatMap_append, List.length_append, Nat.succ_mul]
    have : ([i].flatMap (rowC ss least)).length ≤ ss.length + 1 := by
      simp [rowC]
    omega
theorem wp_best_loop (ds : List D) (QD : D → Prop) (h : S_best_loop ds QD) : m_best_loop (startE 5 ds) ⟨fun _ => QD .none, QD, noB, noB, fun es => QD (.list es)⟩ := by
  obtain ⟨ss, least, rfl, hl1, hl2, hb, q⟩ := h
  have hz : sizeLine = 16777216 := sizeLine_eq
  unfold m_best_loop
  try simp only [sSeq, sSkip, sAsg, sAsgP, sNew, sNewP, sRet, sRetO, sIf, sApp, sAppP, sSet, sAug, sTgt, sTgtP, sPar, sFz, frz, sFor, sForR, sRev, sBrk, sCnt, sDrop, eOp, eUn, eCall, eVar, eC, eFr, eTup, eTupR, eAnd, eOr, eNot, eIf, eChain, eIndex, eSl, nLst, nList, nListR, nLc, nLc2, nCall, nSorted, nRep, tOf, tAndJ, tOrJ, tNotJ, tTrue, iSeq, iR1, iR2, iR3, rg1, rg2, evA, pNo, pSo, startE, hide, rd, hide_v, hide_o, hide_n, rd_v, rd_o, rd_n, bind_one, bind_many, setAll, List.map, List.replicate, List.length, List.cons_append, List.nil_append, List.getElem?_cons_zero, List.getElem?_cons_succ, List.set_cons_zero, List.set_cons_succ, Option.bind_some, ex_some, Option.some.injEq, Slot.own.injEq, Slot.val.injEq, exists_eq_left', true_and, and_true, Bool.false_eq_true, if_false, if_true, reduceIte, wEq, wNe, wAdd_i, wAdd_t, wAdd_l, wAdd_s, wSub_i, wMul_i, wDiv_i, wMod_i, wPow_i, wNeg_i, wLt_i, wLe_i, wGt_i, wGe_i, wIs_n, wIs_b, wIsNot_n, wIsNot_b, wIx_l, wIx_t, wLen_l, wLen_t, wAbs_i, wInt_i, wInt_b, wMax2_i, wMin2_i, wTuple_l, wTuple_t, wB_b, wI_i, seqOf_l, seqOf_t, wIAdd_i, wIAdd_t, wIMul_i, wSl_l, wSl_t, wIn_l, wIn_t, wNotIn_l, wNotIn_t, items_l, items_t, lv_i, lv_b, lv_n, eqv_ii, eqv_bb, isNon_n, isNon_i, isNon_b, isNon_s, isNon_t, isNon_l, Bool.not_true, Bool.not_false, b2n_t, b2n_f, pl_i, pl_b, pl_n, decide_eq_true_eq, sExt, sExtP, wMulT_i, wMulT_t, wRevS_l, wRevS_t, List.length_map]
  refine ⟨⟨by decide, by decide, by omega, by omega, by omega⟩, ?_⟩
  refine forW_inv (fun i e => i ≤ ss.length ∧ ∃ s3, e = [.val (T ss), .val (.int (least : Int)), .own (((List.range i).flatMap (rowC ss least)).map encC), s3, .no]) ⟨Nat.zero_le _, _, rfl⟩ ?_ ?_
  · rintro i d e hi ⟨_, s3, rfl⟩ R hR
    obtain ⟨rfl, hlt⟩ := rgD_get0 hi
    have hil : i < ss.length := by omega
    refine ⟨_, rfl, ?_⟩
    unfold m_best_loop_b2
    try simp only [sSeq, sSkip, sAsg, sAsgP, sNew, sNewP, sRet, sRetO, sIf, sApp, sAppP, sSet, sAug, sTgt, sTgtP, sPar, sFz, frz, sFor, sForR, sRev, sBrk, sCnt, sDrop, eOp, eUn, eCall, eVar, eC, eFr, eTup, eTupR, eAnd, eOr, eNot, eIf, eChain, eIndex, eSl, nLst, nList, nListR, nLc, nLc2, nCall, nSorted, nRep, tOf, tAndJ, tOrJ, tNotJ, tTrue, iSeq, iR1, iR2, iR3, rg1, rg2, evA, pNo, pSo, startE, hide, rd, hide_v, hide_o, hide_n, rd_v, rd_o, rd_n, bind_one, bind_many, setAll, List.map, List.replicate, List.length, List.cons_append, List.nil_append, List.getElem?_cons_zero, List.getElem?_cons_succ, List.set_cons_zero, List.set_cons_succ, Option.bind_some, ex_some, Option.some.injEq, Slot.own.injEq, Slot.val.injEq, exists_eq_left', true_and, and_true, Bool.false_eq_true, if_false, if_true, reduceIte, wEq, wNe, wAdd_i, wAdd_t, wAdd_l, wAdd_s, wSub_i, wMul_i, wDiv_i, wMod_i, wPow_i, wNeg_i, wLt_i, wLe_i, wGt_i, wGe_i, wIs_n, wIs_b, wIsNot_n, wIsNot_b, wIx_l, wIx_t, wLen_l, wLen_t, wAbs_i, wInt_i, wInt_b, wMax2_i, wMin2_i, wTuple_l, wTuple_t, wB_b, wI_i, seqOf_l, seqOf_t, wIAdd_i, wIAdd_t, wIMul_i, wSl_l, wSl_t, wIn_l, wIn_t, wNotIn_l, wNotIn_t, items_l, items_t, lv_i, lv_b, lv_n, eqv_ii, eqv_bb, isNon_n, isNon_i, isNon_b, isNon_s, isNon_t, isNon_l, Bool.not_true, Bool.not_false, b2n_t, b2n_f, pl_i, pl_b, pl_n, decide_eq_true_eq, sExt, sExtP, wMulT_i, wMulT_t, wRevS_l, wRevS_t, List.length_map]
    refine ⟨⟨by omega, by omega, by omega, by omega, by omega⟩, ?_⟩
    have e1 : rgD ((i : Int) + (least : Int)) ((ss.length : Int) + 1) = (List.range (ss.length + 1 - (i + least))).map fun k : Nat => PyData.int ((i + least + k : Nat) : Int) := by
      have := rg2_nat (i + least) (ss.length + 1)
      rw [Int.natCast_add, Int.natCast_add] at this
      exact this
    rw [e1]
    refine mapW_nats (fun e => encC (jumpS ss i e, i, e)) (fun k : Nat => i + least + k) (fun k hk R hR => ?_) ?_
    · have hk' := List.mem_range.mp hk
      refine ⟨_, rfl, ?_⟩
      try simp only [sSeq, sSkip, sAsg, sAsgP, sNew, sNewP, sRet, sRetO, sIf, sApp, sAppP, sSet, sAug, sTgt, sTgtP, sPar, sFz, frz, sFor, sForR, sRev, sBrk, sCnt, sDrop, eOp, eUn, eCall, eVar, eC, eFr, eTup, eTupR, eAnd, eOr, eNot, eIf, eChain, eIndex, eSl, nLst, nList, nListR, nLc, nLc2, nCall, nSorted, nRep, tOf, tAndJ, tOrJ, tNotJ, tTrue, iSeq, iR1, iR2, iR3, rg1, rg2, evA, pNo, pSo, startE, hide, rd, hide_v, hide_o, hide_n, rd_v, rd_o, rd_n, bind_one, bind_many, setAll, List.map, List.replicate, List.length, List.cons_append, List.nil_append, List.getElem?_cons_zero, List.getElem?_cons_succ, List.set_cons_zero, List.set_cons_succ, Option.bind_some, ex_some, Option.some.injEq, Slot.own.injEq, Slot.val.injEq, exists_eq_left', true_and, and_true, Bool.false_eq_true, if_false, if_true, reduceIte, wEq, wNe, wAdd_i, wAdd_t, wAdd_l, wAdd_s, wSub_i, wMul_i, wDiv_i, wMod_i, wPow_i, wNeg_i, wLt_i, wLe_i, wGt_i, wGe_i, wIs_n, wIs_b, wIsNot_n, wIsNot_b, wIx_l, wIx_t, wLen_l, wLen_t, wAbs_i, wInt_i, wInt_b, wMax2_i, wMin2_i, wTuple_l, wTuple_t, wB_b, wI_i, seqOf_l, seqOf_t, wIAdd_i, wIAdd_t, wIMul_i, wSl_l, wSl_t, wIn_l, wIn_t, wNotIn_l, wNotIn_t, items_l, items_t, lv_i, lv_b, lv_n, eqv_ii, eqv_bb, isNon_n, isNon_i, isNon_b, isNon_s, isNon_t, isNon_l, Bool.not_true, Bool.not_false, b2n_t, b2n_f, pl_i, pl_b, pl_n, decide_eq_true_eq, sExt, sExtP, wMulT_i, wMulT_t, wRevS_l, wRevS_t, wipeE]
      exact ⟨ss, i, i + least + k, rfl, by omega, by omega, hR⟩
    · have hc := cand_len ss least i
      have hc2 : i * (ss.length + 1) ≤ 1000 * 1001 := Nat.mul_le_mul (by omega) (by omega)
      refine ⟨by rw [List.length_map, List.length_range]; omega, hR _ ⟨hil, .val (.int (i : Int)), ?_⟩⟩
      rw [List.range_succ, List.flatMap_append, List.map_append]
      have e9 : ([i].flatMap (rowC ss least)).map encC = (List.range (ss.length + 1 - (i + least))).map fun k : Nat => encC (jumpS ss i (i + least + k), i, i + least + k) := by
        rw [List.flatMap_singleton]
        unfold rowC
        rw [List.map_map]
        rfl
      rw [e9]
  · rintro e ⟨_, s3, rfl⟩
    have e3 : (rgD 0 (ss.length : Int)).length = ss.length := by rw [rgD_length]; omega
    rw [e3]
    unfold m_best_loop_r2
    try simp only [sSeq, sSkip, sAsg, sAsgP, sNew, sNewP, sRet, sRetO, sIf, sApp, sAppP, sSet, sAug, sTgt, sTgtP, sPar, sFz, frz, sFor, sForR, sRev, sBrk, sCnt, sDrop, eOp, eUn, eCall, eVar, eC, eFr, eTup, eTupR, eAnd, eOr, eNot, eIf, eChain, eIndex, eSl, nLst, nList, nListR, nLc, nLc2, nCall, nSorted, nRep, tOf, tAndJ, tOrJ, tNotJ, tTrue, iSeq, iR1, iR2, iR3, rg1, rg2, evA, pNo, pSo, startE, hide, rd, hide_v, hide_o, hide_n, rd_v, rd_o, rd_n, bind_one, bind_many, setAll, List.map, List.replicate, List.length, List.cons_append, List.nil_append, List.getElem?_cons_zero, List.getElem?_cons_succ, List.set_cons_zero, List.set_cons_succ, Option.bind_some, ex_some, Option.some.injEq, Slot.own.injEq, Slot.val.injEq, exists_eq_left', true_and, and_true, Bool.false_eq_true, if_false, if_true, reduceIte, wEq, wNe, wAdd_i, wAdd_t, wAdd_l, wAdd_s, wSub_i, wMul_i, wDiv_i, wMod_i, wPow_i, wNeg_i, wLt_i, wLe_i, wGt_i, wGe_i, wIs_n, wIs_b, wIsNot_n, wIsNot_b, wIx_l, wIx_t, wLen_l, wLen_t, wAbs_i, wInt_i, wInt_b, wMax2_i, wMin2_i, wTuple_l, wTuple_t, wB_b, wI_i, seqOf_l, seqOf_t, wIAdd_i, wIAdd_t, wIMul_i, wSl_l, wSl_t, wIn_l, wIn_t, wNotIn_l, wNotIn_t, items_l, items_t, lv_i, lv_b, lv_n, eqv_ii, eqv_bb, isNon_n, isNon_i, isNon_b, isNon_s, isNon_t, isNon_l, Bool.not_true, Bool.not_false, b2n_t, b2n_f, pl_i, pl_b, pl_n, decide_eq_true_eq, sExt, sExtP, wMulT_i, wMulT_t, wRevS_l, wRevS_t, List.length_map]
    have ec : (List.range ss.length).flatMap (rowC ss least) = candC ss least := rfl
    rw [ec]
    unfold bestC at q
    cases hc : candC ss least with
    | nil =>
      rw [hc] at q
      rw [if_neg (by simp)]
      exact q
    | cons c cs =>
      rw [hc] at q
      obtain ⟨b, h1, h2⟩ := fold_some cs c
      rw [if_pos (by simp)]
      refine ⟨encC c, cs.map encC, rfl, lv_C (c :: cs), alike_C (c :: cs), ?_⟩
      rw [h2]
      have q' : QD (bestD (cs.foldl upC (some c))) := q
      rw [h1] at q'
      show wIx (encC b) (.int 1) QD
      unfold encC
      try simp only [sSeq, sSkip, sAsg, sAsgP, sNew, sNewP, sRet, sRetO, sIf, sApp, sAppP, sSet, sAug, sTgt, sTgtP, sPar, sFz, frz, sFor, sForR, sRev, sBrk, sCnt, sDrop, eOp, eUn, eCall, eVar, eC, eFr, eTup, eTupR, eAnd, eOr, eNot, eIf, eChain, eIndex, eSl, nLst, nList, nListR, nLc, nLc2, nCall, nSorted, nRep, tOf, tAndJ, tOrJ, tNotJ, tTrue, iSeq, iR1, iR2, iR3, rg1, rg2, evA, pNo, pSo, startE, hide, rd, hide_v, hide_o, hide_n, rd_v, rd_o, rd_n, bind_one, bind_many, setAll, List.map, List.replicate, List.length, List.cons_append, List.nil_append, List.getElem?_cons_zero, List.getElem?_cons_succ, List.set_cons_zero, List.set_cons_succ, Option.bind_some, ex_some, Option.some.injEq, Slot.own.injEq, Slot.val.injEq, exists_eq_left', true_and, and_true, Bool.false_eq_true, if_false, if_true, reduceIte, wEq, wNe, wAdd_i, wAdd_t, wAdd_l, wAdd_s, wSub_i, wMul_i, wDiv_i, wMod_i, wPow_i, wNeg_i, wLt_i, wLe_i, wGt_i, wGe_i, wIs_n, wIs_b, wIsNot_n, wIsNot_b, wIx_l, wIx_t, wLen_l, wLen_t, wAbs_i, wInt_i, wInt_b, wMax2_i, wMin2_i, wTuple_l, wTuple_t, wB_b, wI_i, seqOf_l, seqOf_t, wIAdd_i, wIAdd_t, wIMul_i, wSl_l, wSl_t, wIn_l, wIn_t, wNotIn_l, wNotIn_t, items_l, items_t, lv_i, lv_b, lv_n, eqv_ii, eqv_bb, isNon_n, isNon_i, isNon_b, isNon_s, isNon_t, isNon_l, Bool.not_true, Bool.not_false, b2n_t, b2n_f, pl_i, pl_b, pl_n, decide_eq_true_eq, sExt, sExtP, wMulT_i, wMulT_t, wRevS_l, wRevS_t, at1]
      exact q'
/-! ## blended -/
def bl (ss : List Int) (b e w k : Nat) : Int := tz (((w : Int) - k) * ss.getD (e - w + k) 0 + (k : Int) * ss.getD (b - w + k) 0) w
def blendL (ss : List Int) (b e w : Nat) : Nat → List Int
  | 0 => ss
  | k + 1 => (blendL ss b e w k).set (e - w + k) (bl ss b e w k)
theorem blend_len (ss : List Int) (b e w : Nat) : ∀ k, (blendL ss b e w k).length = ss.length
  | 0 => rfl
  | k + 1 => by
    show ((blendL ss b e w k).set _ _).length = _
    rw [List.length_set, blend_len ss b e w k]
/-! blended: 0=samples 1=begin 2=end 3=wide 4=found 5=step 6=own 7=other -/
def m_blended_b2 : SX := (sSeq (sPar 6 7 [(eOp wIx (eVar 0) (eOp wAdd (eOp wSub (eVar 2) (eVar 3)) (eVar 5))), (eOp wIx (eVar 0) (eOp wAdd (eOp wSub (eVar 1) (eVar 3)) (eVar 5)))])
      (sSet 4 (eCall S_toward_zero_loops [(eOp wAdd (eOp wMul (eOp wSub (eVar 3) (eVar 5)) (eVar 6)) (eOp wMul (eVar 5) (eVar 7))), (eVar 3)]) (eOp wAdd (eOp wSub (eVar 2) (eVar 3)) (eVar 5))))
def m_blended_r2 : SX := (sRet (eUn wTuple (eVar 4)))
def m_blended : SX := (sSeq (sNew 4 (nList (eVar 0)))
      (sSeq (sForR (iR1 (eVar 3)) (.one 5) m_blended_b2)
      m_blended_r2))
def S_blended : WL := fun ds Q => ∃ (ss : List Int) (b e w : Nat), ds = [T ss, .int (b : Int), .int (e : Int), .int (w : Int)] ∧ b < e ∧ e ≤ ss.length ∧ 0 < w ∧ w ≤ b ∧ ss.length ≤ 1000 ∧ (∀ s ∈ ss, Sm s) ∧ Q (T (blendL ss b e w w))
theorem wp_blended (ds : List D) (QD : D → Prop) (h : S_blended ds QD) : m_blended (startE 8 ds) ⟨fun _ => QD .none, QD, noB, noB, fun es => QD (.list es)⟩ := by
  obtain ⟨ss, b, e, w, rfl, hbe, he, hw0, hw, hl, hs, q⟩ := h
  have h1000 : (1000 : Nat) < 2 ^ 1000 := Nat.lt_of_lt_of_le (show 1000 < 2 ^ 10 by decide) (Nat.pow_le_pow_right (by decide) (by decide))
  unfold m_blended
  try simp only [sSeq, sSkip, sAsg, sAsgP, sNew, sNewP, sRet, sRetO, sIf, sApp, sAppP, sSet, sAug, sTgt, sTgtP, sPar, sFz, frz, sFor, sForR, sRev, sBrk, sCnt, sDrop, eOp, eUn, eCall, eVar, eC, eFr, eTup, eTupR, eAnd, eOr, eNot, eIf, eChain, eIndex, eSl, nLst, nList, nListR, nLc, nLc2, nCall, nSorted, nRep, tOf, tAndJ, tOrJ, tNotJ, tTrue, iSeq, iR1, iR2, iR3, rg1, rg2, evA, pNo, pSo, startE, hide, rd, hide_v, hide_o, hide_n, rd_v, rd_o, rd_n, bind_one, bind_many, setAll, List.map, List.replicate, List.length, List.cons_append, List.nil_append, List.getElem?_cons_zero, List.getElem?_cons_succ, List.set_cons_zero, List.set_cons_succ, Option.bind_some, ex_some, Option.some.injEq, Slot.own.injEq, Slot.val.injEq, exists_eq_left', true_and, and_true, Bool.false_eq_true, if_false, if_true, reduceIte, wEq, wNe, wAdd_i, wAdd_t, wAdd_l, wAdd_s, wSub_i, wMul_i, wDiv_i, wMod_i, wPow_i, wNeg_i, wLt_i, wLe_i, wGt_i, wGe_i, wIs_n, wIs_b, wIsNot_n, wIsNot_b, wIx_l, wIx_t, wLen_l, wLen_t, wAbs_i, wInt_i, wInt_b, wMax2_i, wMin2_i, wTuple_l, wTuple_t, wB_b, wI_i, seqOf_l, seqOf_t, wIAdd_i, wIAdd_t, wIMul_i, wSl_l, wSl_t, wIn_l, wIn_t, wNotIn_l, wNotIn_t, items_l, items_t, lv_i, lv_b, lv_n, eqv_ii, eqv_bb, isNon_n, isNon_i, isNon_b, isNon_s, isNon_t, isNon_l, Bool.not_true, Bool.not_false, b2n_t, b2n_f, pl_i, pl_b, pl_n, decide_eq_true_eq, sExt, sExtP, wMulT_i, wMulT_t, wRevS_l, wRevS_t]
  refine ⟨⟨by decide, by decide, by omega, by omega, by omega⟩, ?_⟩
  refine forW_inv (fun i en => i ≤ w ∧ ∃ s5 s6 s7, en = [.val (T ss), .val (.int (b : Int)), .val (.int (e : Int)), .val (.int (w : Int)), .own ((blendL ss b e w i).map PyData.int), s5, s6, s7]) ⟨Nat.zero_le _, _, _, _, rfl⟩ ?_ ?_
  · rintro i d en hi ⟨_, s5, s6, s7, rfl⟩ R hR
    obtain ⟨rfl, hlt⟩ := rgD_get0 hi
    refine ⟨_, rfl, ?_⟩
    unfold m_blended_b2
    have a1 := getD_at (ss := ss) (i := e - w + i) (k := (e : Int) - (w : Int) + (i : Int)) (by omega) (by omega)
    have a2 := getD_at (ss := ss) (i := b - w + i) (k := (b : Int) - (w : Int) + (i : Int)) (by omega) (by omega)
    have m1 := hs _ (getD_mem (ss := ss) (i := e - w + i) (by omega))
    have m2 := hs _ (getD_mem (ss := ss) (i := b - w + i) (by omega))
    have hix : ixN (blendL ss b e w i).length ((e : Int) - (w : Int) + (i : Int)) = some (e - w + i) := by
      rw [blend_len, ixN_some (by omega) (by omega)]
      congr 1
      omega
    try simp only [sSeq, sSkip, sAsg, sAsgP, sNew, sNewP, sRet, sRetO, sIf, sApp, sAppP, sSet, sAug, sTgt, sTgtP, sPar, sFz, frz, sFor, sForR, sRev, sBrk, sCnt, sDrop, eOp, eUn, eCall, eVar, eC, eFr, eTup, eTupR, eAnd, eOr, eNot, eIf, eChain, eIndex, eSl, nLst, nList, nListR, nLc, nLc2, nCall, nSorted, nRep, tOf, tAndJ, tOrJ, tNotJ, tTrue, iSeq, iR1, iR2, iR3, rg1, rg2, evA, pNo, pSo, startE, hide, rd, hide_v, hide_o, hide_n, rd_v, rd_o, rd_n, bind_one, bind_many, setAll, List.map, List.replicate, List.length, List.cons_append, List.nil_append, List.getElem?_cons_zero, List.getElem?_cons_succ, List.set_cons_zero, List.set_cons_succ, Option.bind_some, ex_some, Option.some.injEq, Slot.own.injEq, Slot.val.injEq, exists_eq_left', true_and, and_true, Bool.false_eq_true, if_false, if_true, reduceIte, wEq, wNe, wAdd_i, wAdd_t, wAdd_l, wAdd_s, wSub_i, wMul_i, wDiv_i, wMod_i, wPow_i, wNeg_i, wLt_i, wLe_i, wGt_i, wGe_i, wIs_n, wIs_b, wIsNot_n, wIsNot_b, wIx_l, wIx_t, wLen_l, wLen_t, wAbs_i, wInt_i, wInt_b, wMax2_i, wMin2_i, wTuple_l, wTuple_t, wB_b, wI_i, seqOf_l, seqOf_t, wIAdd_i, wIAdd_t, wIMul_i, wSl_l, wSl_t, wIn_l, wIn_t, wNotIn_l, wNotIn_t, items_l, items_t, lv_i, lv_b, lv_n, eqv_ii, eqv_bb, isNon_n, isNon_i, isNon_b, isNon_s, isNon_t, isNon_l, Bool.not_true, Bool.not_false, b2n_t, b2n_f, pl_i, pl_b, pl_n, decide_eq_true_eq, sExt, sExtP, wMulT_i, wMulT_t, wRevS_l, wRevS_t, a1, a2, List.length_map, hix]
    refine ⟨sm_mul (by show Int.natAbs _ < _; omega) m1, sm_mul (by show Int.natAbs _ < _; omega) m2, _, _, rfl, by omega, ?_, rfl, ?_⟩
    · exact Nat.lt_of_lt_of_le (show (w : Int).natAbs < 2 ^ 1000 by omega) (Nat.pow_le_pow_right (by decide) (by decide))
    · refine hR _ ⟨by omega, .val (.int (i : Int)), .val (.int (ss.getD (e - w + i) 0)), .val (.int (ss.getD (b - w + i) 0)), ?_⟩
      rw [← List.map_set]
      rfl
  · rintro en ⟨_, s5, s6, s7, rfl⟩
    have e3 : (rgD 0 (w : Int)).length = w := by rw [rgD_length]; omega
    rw [e3]
    unfold m_blended_r2
    try simp only [sSeq, sSkip, sAsg, sAsgP, sNew, sNewP, sRet, sRetO, sIf, sApp, sAppP, sSet, sAug, sTgt, sTgtP, sPar, sFz, frz, sFor, sForR, sRev, sBrk, sCnt, sDrop, eOp, eUn, eCall, eVar, eC, eFr, eTup, eTupR, eAnd, eOr, eNot, eIf, eChain, eIndex, eSl, nLst, nList, nListR, nLc, nLc2, nCall, nSorted, nRep, tOf, tAndJ, tOrJ, tNotJ, tTrue, iSeq, iR1, iR2, iR3, rg1, rg2, evA, pNo, pSo, startE, hide, rd, hide_v, hide_o, hide_n, rd_v, rd_o, rd_n, bind_one, bind_many, setAll, List.map, List.replicate, List.length, List.cons_append, List.nil_append, List.getElem?_cons_zero, List.getElem?_cons_succ, List.set_cons_zero, List.set_cons_succ, Option.bind_some, ex_some, Option.some.injEq, Slot.own.injEq, Slot.val.injEq, exists_eq_left', true_and, and_true, Bool.false_eq_true, if_false, if_true, reduceIte, wEq, wNe, wAdd_i, wAdd_t, wAdd_l, wAdd_s, wSub_i, wMul_i, wDiv_i, wMod_i, wPow_i, wNeg_i, wLt_i, wLe_i, wGt_i, wGe_i, wIs_n, wIs_b, wIsNot_n, wIsNot_b, wIx_l, wIx_t, wLen_l, wLen_t, wAbs_i, wInt_i, wInt_b, wMax2_i, wMin2_i, wTuple_l, wTuple_t, wB_b, wI_i, seqOf_l, seqOf_t, wIAdd_i, wIAdd_t, wIMul_i, wSl_l, wSl_t, wIn_l, wIn_t, wNotIn_l, wNotIn_t, items_l, items_t, lv_i, lv_b, lv_n, eqv_ii, eqv_bb, isNon_n, isNon_i, isNon_b, isNon_s, isNon_t, isNon_l, Bool.not_true, Bool.not_false, b2n_t, b2n_f, pl_i, pl_b, pl_n, decide_eq_true_eq, sExt, sExtP, wMulT_i, wMulT_t, wRevS_l, wRevS_t]
    exact q
/-! ## unchanged_from -/
def firstD (o : Option Nat) : D := match o with
  | none => .none
  | some i => .int (i : Int)
def manyU (b e o : Nat) : Nat := max e o + (e - b) * (o - b)
def firstU (ss : List Int) (b e o : Nat) : Option Nat := (List.range (manyU b e o)).find? fun i => decide (atS ss b e i ≠ atS ss b o i)
/-! unchanged_from: 0=samples 1=begin 2=end 3=other 4=many 5=at -/
def m_unchanged_from_b2 : SX := (sIf (tOf (eOp wNe (eCall S_sample_at [(eVar 0), (eVar 1), (eVar 2), (eVar 5)]) (eCall S_sample_at [(eVar 0), (eVar 1), (eVar 3), (eVar 5)]))) (sRet (eVar 5)) sSkip)
def m_unchanged_from_r2 : SX := (sRet (eC .none))
def m_unchanged_from : SX := (sSeq (sAsg 4 (eOp wAdd (eCall wMax2 [(eVar 2), (eVar 3)]) (eOp wMul (eOp wSub (eVar 2) (eVar 1)) (eOp wSub (eVar 3) (eVar 1)))))
      (sSeq (sForR (iR1 (eVar 4)) (.one 5) m_unchanged_from_b2)
      m_unchanged_from_r2))
def S_unchanged_from : WL := fun ds Q => ∃ (ss : List Int) (b e o : Nat), ds = [T ss, .int (b : Int), .int (e : Int), .int (o : Int)] ∧ b < e ∧ e ≤ ss.length ∧ b < o ∧ o ≤ ss.length ∧ ss.length ≤ 1000 ∧ Q (firstD (firstU ss b e o))
theorem many_cast {b e o : Nat} (h1 : b < e) (h2 : b < o) : max (e : Int) (o : Int) + ((e : Int) - b) * ((o : Int) - b) = ((manyU b e o : Nat) : Int) := by
  unfold manyU
  rw [Int.natCast_add, Int.natCast_mul, Int.natCast_sub (by omega), Int.natCast_sub (by omega)]
  omega
theorem find_none_take {α : Type} {p : α → Bool} {l : List α} {i : Nat} (h : ∀ j x, j < i → l[j]? = some x → p x = false) : (l.take i).find? p = none := by
  rw [List.find?_eq_none]
  intro x hx
  obtain ⟨j, hj⟩ := List.mem_iff_getElem?.mp hx
  rw [List.getElem?_take] at hj
  split at hj
  · rename_i c
    rw [h j x c hj]
    exact Bool.false_ne_true
  · cases hj
theorem wp_unchanged_from (ds : List D) (QD : D → Prop) (h : S_unchanged_from ds QD) : m_unchanged_from (startE 6 ds) ⟨fun _ => QD .none, QD, noB, noB, fun es => QD (.list es)⟩ := by
  obtain ⟨ss, b, e, o, rfl, hbe, he, hbo, ho, hl, q⟩ := h
  have hm : manyU b e o ≤ 2000000 := by
    unfold manyU
    have : (e - b) * (o - b) ≤ 1000 * 1000 := Nat.mul_le_mul (by omega) (by omega)
    omega
  have h1000 : (1000 : Nat) < 2 ^ 1000 := Nat.lt_of_lt_of_le (show 1000 < 2 ^ 10 by decide) (Nat.pow_le_pow_right (by decide) (by decide))
  unfold m_unchanged_from
  try simp only [sSeq, sSkip, sAsg, sAsgP, sNew, sNewP, sRet, sRetO, sIf, sApp, sAppP, sSet, sAug, sTgt, sTgtP, sPar, sFz, frz, sFor, sForR, sRev, sBrk, sCnt, sDrop, eOp, eUn, eCall, eVar, eC, eFr, eTup, eTupR, eAnd, eOr, eNot, eIf, eChain, eIndex, eSl, nLst, nList, nListR, nLc, nLc2, nCall, nSorted, nRep, tOf, tAndJ, tOrJ, tNotJ, tTrue, iSeq, iR1, iR2, iR3, rg1, rg2, evA, pNo, pSo, startE, hide, rd, hide_v, hide_o, hide_n, rd_v, rd_o, rd_n, bind_one, bind_many, setAll, List.map, List.replicate, List.length, List.cons_append, List.nil_append, List.getElem?_cons_zero, List.getElem?_cons_succ, List.set_cons_zero, List.set_cons_succ, Option.bind_some, ex_some, Option.some.injEq, Slot.own.injEq, Slot.val.injEq, exists_eq_left', true_and, and_true, Bool.false_eq_true, if_false, if_true, reduceIte, wEq, wNe, wAdd_i, wAdd_t, wAdd_l, wAdd_s, wSub_i, wMul_i, wDiv_i, wMod_i, wPow_i, wNeg_i, wLt_i, wLe_i, wGt_i, wGe_i, wIs_n, wIs_b, wIsNot_n, wIsNot_b, wIx_l, wIx_t, wLen_l, wLen_t, wAbs_i, wInt_i, wInt_b, wMax2_i, wMin2_i, wTuple_l, wTuple_t, wB_b, wI_i, seqOf_l, seqOf_t, wIAdd_i, wIAdd_t, wIMul_i, wSl_l, wSl_t, wIn_l, wIn_t, wNotIn_l, wNotIn_t, items_l, items_t, lv_i, lv_b, lv_n, eqv_ii, eqv_bb, isNon_n, isNon_i, isNon_b, isNon_s, isNon_t, isNon_l, Bool.not_true, Bool.not_false, b2n_t, b2n_f, pl_i, pl_b, pl_n, decide_eq_true_eq, sExt, sExtP, wMulT_i, wMulT_t, wRevS_l, wRevS_t, many_cast hbe hbo]
  refine ⟨sm_mul (by show Int.natAbs _ < _; omega) (by show Int.natAbs _ < _; omega), ⟨by decide, by decide, by omega, by omega, by omega⟩, ?_⟩
  refine forW_inv (fun i en => i ≤ manyU b e o ∧ (∀ j, j < i → atS ss b e j = atS ss b o j) ∧ ∃ s5, en = [.val (T ss), .val (.int (b : Int)), .val (.int (e : Int)), .val (.int (o : Int)), .val (.int (manyU b e o : Nat)), s5]) ⟨Nat.zero_le _, by omega, _, rfl⟩ ?_ ?_
  · rintro i d en hi ⟨_, hj, s5, rfl⟩ R hR
    obtain ⟨rfl, hlt⟩ := rgD_get0 hi
    refine ⟨_, rfl, ?_⟩
    unfold m_unchanged_from_b2
    try simp only [sSeq, sSkip, sAsg, sAsgP, sNew, sNewP, sRet, sRetO, sIf, sApp, sAppP, sSet, sAug, sTgt, sTgtP, sPar, sFz, frz, sFor, sForR, sRev, sBrk, sCnt, sDrop, eOp, eUn, eCall, eVar, eC, eFr, eTup, eTupR, eAnd, eOr, eNot, eIf, eChain, eIndex, eSl, nLst, nList, nListR, nLc, nLc2, nCall, nSorted, nRep, tOf, tAndJ, tOrJ, tNotJ, tTrue, iSeq, iR1, iR2, iR3, rg1, rg2, evA, pNo, pSo, startE, hide, rd, hide_v, hide_o, hide_n, rd_v, rd_o, rd_n, bind_one, bind_many, setAll, List.map, List.replicate, List.length, List.cons_append, List.nil_append, List.getElem?_cons_zero, List.getElem?_cons_succ, List.set_cons_zero, List.set_cons_succ, Option.bind_some, ex_some, Option.some.injEq, Slot.own.injEq, Slot.val.injEq, exists_eq_left', true_and, and_true, Bool.false_eq_true, if_false, if_true, reduceIte, wEq, wNe, wAdd_i, wAdd_t, wAdd_l, wAdd_s, wSub_i, wMul_i, wDiv_i, wMod_i, wPow_i, wNeg_i, wLt_i, wLe_i, wGt_i, wGe_i, wIs_n, wIs_b, wIsNot_n, wIsNot_b, wIx_l, wIx_t, wLen_l, wLen_t, wAbs_i, wInt_i, wInt_b, wMax2_i, wMin2_i, wTuple_l, wTuple_t, wB_b, wI_i, seqOf_l, seqOf_t, wIAdd_i, wIAdd_t, wIMul_i, wSl_l, wSl_t, wIn_l, wIn_t, wNotIn_l, wNotIn_t, items_l, items_t, lv_i, lv_b, lv_n, eqv_ii, eqv_bb, isNon_n, isNon_i, isNon_b, isNon_s, isNon_t, isNon_l, Bool.not_true, Bool.not_false, b2n_t, b2n_f, pl_i, pl_b, pl_n, decide_eq_true_eq, sExt, sExtP, wMulT_i, wMulT_t, wRevS_l, wRevS_t]
    refine ⟨ss, b, e, i, rfl, hbe, he, ss, b, o, i, rfl, hbo, ho, ?_⟩
    try simp only [sSeq, sSkip, sAsg, sAsgP, sNew, sNewP, sRet, sRetO, sIf, sApp, sAppP, sSet, sAug, sTgt, sTgtP, sPar, sFz, frz, sFor, sForR, sRev, sBrk, sCnt, sDrop, eOp, eUn, eCall, eVar, eC, eFr, eTup, eTupR, eAnd, eOr, eNot, eIf, eChain, eIndex, eSl, nLst, nList, nListR, nLc, nLc2, nCall, nSorted, nRep, tOf, tAndJ, tOrJ, tNotJ, tTrue, iSeq, iR1, iR2, iR3, rg1, rg2, evA, pNo, pSo, startE, hide, rd, hide_v, hide_o, hide_n, rd_v, rd_o, rd_n, bind_one, bind_many, setAll, List.map, List.replicate, List.length, List.cons_append, List.nil_append, List.getElem?_cons_zero, List.getElem?_cons_succ, List.set_cons_zero, List.set_cons_succ, Option.bind_some, ex_some, Option.some.injEq, Slot.own.injEq, Slot.val.injEq, exists_eq_left', true_and, and_true, Bool.false_eq_true, if_false, if_true, reduceIte, wEq, wNe, wAdd_i, wAdd_t, wAdd_l, wAdd_s, wSub_i, wMul_i, wDiv_i, wMod_i, wPow_i, wNeg_i, wLt_i, wLe_i, wGt_i, wGe_i, wIs_n, wIs_b, wIsNot_n, wIsNot_b, wIx_l, wIx_t, wLen_l, wLen_t, wAbs_i, wInt_i, wInt_b, wMax2_i, wMin2_i, wTuple_l, wTuple_t, wB_b, wI_i, seqOf_l, seqOf_t, wIAdd_i, wIAdd_t, wIMul_i, wSl_l, wSl_t, wIn_l, wIn_t, wNotIn_l, wNotIn_t, items_l, items_t, lv_i, lv_b, lv_n, eqv_ii, eqv_bb, isNon_n, isNon_i, isNon_b, isNon_s, isNon_t, isNon_l, Bool.not_true, Bool.not_false, b2n_t, b2n_f, pl_i, pl_b, pl_n, decide_eq_true_eq, sExt, sExtP, wMulT_i, wMulT_t, wRevS_l, wRevS_t]
    by_cases c : atS ss b e i = atS ss b o i
    · rw [if_neg (by simp [c])]
      refine hR _ ⟨by omega, fun j hj2 => ?_, _, rfl⟩
      rcases Nat.lt_or_eq_of_le (Nat.le_of_lt_succ hj2) with c2 | c2
      · exact hj j c2
      · rw [c2]; exact c
    · rw [if_pos (by simp [c])]
      have hf : firstU ss b e o = some i := by
        unfold firstU
        rw [List.find?_eq_some_iff_getElem]
        refine ⟨by simp [c], i, by rw [List.length_range]; omega, by rw [List.getElem_range], fun j hj2 => ?_⟩
        rw [List.getElem_range]
        simp [hj j hj2]
      rw [hf] at q
      exact q
  · rintro en ⟨_, hj, s5, rfl⟩
    have e3 : (rgD 0 (manyU b e o : Int)).length = manyU b e o := by rw [rgD_length]; omega
    rw [e3] at hj
    unfold m_unchanged_from_r2
    try simp only [sSeq, sSkip, sAsg, sAsgP, sNew, sNewP, sRet, sRetO, sIf, sApp, sAppP, sSet, sAug, sTgt, sTgtP, sPar, sFz, frz, sFor, sForR, sRev, sBrk, sCnt, sDrop, eOp, eUn, eCall, eVar, eC, eFr, eTup, eTupR, eAnd, eOr, eNot, eIf, eChain, eIndex, eSl, nLst, nList, nListR, nLc, nLc2, nCall, nSorted, nRep, tOf, tAndJ, tOrJ, tNotJ, tTrue, iSeq, iR1, iR2, iR3, rg1, rg2, evA, pNo, pSo, startE, hide, rd, hide_v, hide_o, hide_n, rd_v, rd_o, rd_n, bind_one, bind_many, setAll, List.map, List.replicate, List.length, List.cons_append, List.nil_append, List.getElem?_cons_zero, List.getElem?_cons_succ, List.set_cons_zero, List.set_cons_succ, Option.bind_some, ex_some, Option.some.injEq, Slot.own.injEq, Slot.val.injEq, exists_eq_left', true_and, and_true, Bool.false_eq_true, if_false, if_true, reduceIte, wEq, wNe, wAdd_i, wAdd_t, wAdd_l, wAdd_s, wSub_i, wMul_i, wDiv_i, wMod_i, wPow_i, wNeg_i, wLt_i, wLe_i, wGt_i, wGe_i, wIs_n, wIs_b, wIsNot_n, wIsNot_b, wIx_l, wIx_t, wLen_l, wLen_t, wAbs_i, wInt_i, wInt_b, wMax2_i, wMin2_i, wTuple_l, wTuple_t, wB_b, wI_i, seqOf_l, seqOf_t, wIAdd_i, wIAdd_t, wIMul_i, wSl_l, wSl_t, wIn_l, wIn_t, wNotIn_l, wNotIn_t, items_l, items_t, lv_i, lv_b, lv_n, eqv_ii, eqv_bb, isNon_n, isNon_i, isNon_b, isNon_s, isNon_t, isNon_l, Bool.not_true, Bool.not_false, b2n_t, b2n_f, pl_i, pl_b, pl_n, decide_eq_true_eq, sExt, sExtP, wMulT_i, wMulT_t, wRevS_l, wRevS_t]
    have hf : firstU ss b e o = none := by
      unfold firstU
      rw [List.find?_eq_none]
      intro i hi
      simp [hj i (List.mem_range.mp hi)]
    rw [hf] at q
    exact q
/-! ## the law's own helpers -/
/-! _law_divisor: 0=one 1=other -/
def m__law_divisor_b3 : SX := (sPar 0 1 [(eVar 1), (eOp wMod (eCall wInt [(eVar 0)]) (eVar 1))])
def m__law_divisor_r3 : SX := (sRet (eVar 0))
def m__law_divisor : SX := (sSeq (sAsg 0 (eCall wMax2 [(eVar 0), (eUn wNeg (eVar 0))]))
      (sSeq (sAsg 1 (eCall wMax2 [(eVar 1), (eUn wNeg (eVar 1))]))
      (sSeq (sWhile (tOf (eOp wGt (eVar 1) (eC (.int 0)))) m__law_divisor_b3)
      m__law_divisor_r3)))
abbrev S__law_divisor : WL := S_common_divisor
theorem wp__law_divisor (ds : List D) (QD : D → Prop) (h : S__law_divisor ds QD) : m__law_divisor (startE 2 ds) ⟨fun _ => QD .none, QD, noB, noB, fun es => QD (.list es)⟩ := by
  obtain ⟨n, d, rfl, q⟩ := h
  unfold m__law_divisor
  try simp only [sSeq, sSkip, sAsg, sAsgP, sNew, sNewP, sRet, sRetO, sIf, sApp, sAppP, sSet, sAug, sTgt, sTgtP, sPar, sFz, frz, sFor, sForR, sRev, sBrk, sCnt, sDrop, eOp, eUn, eCall, eVar, eC, eFr, eTup, eTupR, eAnd, eOr, eNot, eIf, eChain, eIndex, eSl, nLst, nList, nListR, nLc, nLc2, nCall, nSorted, nRep, tOf, tAndJ, tOrJ, tNotJ, tTrue, iSeq, iR1, iR2, iR3, rg1, rg2, evA, pNo, pSo, startE, hide, rd, hide_v, hide_o, hide_n, rd_v, rd_o, rd_n, bind_one, bind_many, setAll, List.map, List.replicate, List.length, List.cons_append, List.nil_append, List.getElem?_cons_zero, List.getElem?_cons_succ, List.set_cons_zero, List.set_cons_succ, Option.bind_some, ex_some, Option.some.injEq, Slot.own.injEq, Slot.val.injEq, exists_eq_left', true_and, and_true, Bool.false_eq_true, if_false, if_true, reduceIte, wEq, wNe, wAdd_i, wAdd_t, wAdd_l, wAdd_s, wSub_i, wMul_i, wDiv_i, wMod_i, wPow_i, wNeg_i, wLt_i, wLe_i, wGt_i, wGe_i, wIs_n, wIs_b, wIsNot_n, wIsNot_b, wIx_l, wIx_t, wLen_l, wLen_t, wAbs_i, wInt_i, wInt_b, wMax2_i, wMin2_i, wTuple_l, wTuple_t, wB_b, wI_i, seqOf_l, seqOf_t, wIAdd_i, wIAdd_t, wIMul_i, wSl_l, wSl_t, wIn_l, wIn_t, wNotIn_l, wNotIn_t, items_l, items_t, lv_i, lv_b, lv_n, eqv_ii, eqv_bb, isNon_n, isNon_i, isNon_b, isNon_s, isNon_t, isNon_l, Bool.not_true, Bool.not_false, b2n_t, b2n_f, pl_i, pl_b, pl_n, decide_eq_true_eq, sExt, sExtP, wMulT_i, wMulT_t, wRevS_l, wRevS_t]
  refine while_dn (fun k e => ∃ a : Nat, Nat.gcd a k = Int.gcd n d ∧ e = [.val (.int (a : Nat)), .val (.int (k : Nat))]) d.natAbs ⟨n.natAbs, rfl, by rw [show max n (-n) = (n.natAbs : Int) by omega, show max d (-d) = (d.natAbs : Int) by omega]; rfl⟩ ?_
  rintro k e ⟨a, hg, rfl⟩ R hR
  unfold m__law_divisor_b3 m__law_divisor_r3
  try simp only [sSeq, sSkip, sAsg, sAsgP, sNew, sNewP, sRet, sRetO, sIf, sApp, sAppP, sSet, sAug, sTgt, sTgtP, sPar, sFz, frz, sFor, sForR, sRev, sBrk, sCnt, sDrop, eOp, eUn, eCall, eVar, eC, eFr, eTup, eTupR, eAnd, eOr, eNot, eIf, eChain, eIndex, eSl, nLst, nList, nListR, nLc, nLc2, nCall, nSorted, nRep, tOf, tAndJ, tOrJ, tNotJ, tTrue, iSeq, iR1, iR2, iR3, rg1, rg2, evA, pNo, pSo, startE, hide, rd, hide_v, hide_o, hide_n, rd_v, rd_o, rd_n, bind_one, bind_many, setAll, List.map, List.replicate, List.length, List.cons_append, List.nil_append, List.getElem?_cons_zero, List.getElem?_cons_succ, List.set_cons_zero, List.set_cons_succ, Option.bind_some, ex_some, Option.some.injEq, Slot.own.injEq, Slot.val.injEq, exists_eq_left', true_and, and_true, Bool.false_eq_true, if_false, if_true, reduceIte, wEq, wNe, wAdd_i, wAdd_t, wAdd_l, wAdd_s, wSub_i, wMul_i, wDiv_i, wMod_i, wPow_i, wNeg_i, wLt_i, wLe_i, wGt_i, wGe_i, wIs_n, wIs_b, wIsNot_n, wIsNot_b, wIx_l, wIx_t, wLen_l, wLen_t, wAbs_i, wInt_i, wInt_b, wMax2_i, wMin2_i, wTuple_l, wTuple_t, wB_b, wI_i, seqOf_l, seqOf_t, wIAdd_i, wIAdd_t, wIMul_i, wSl_l, wSl_t, wIn_l, wIn_t, wNotIn_l, wNotIn_t, items_l, items_t, lv_i, lv_b, lv_n, eqv_ii, eqv_bb, isNon_n, isNon_i, isNon_b, isNon_s, isNon_t, isNon_l, Bool.not_true, Bool.not_false, b2n_t, b2n_f, pl_i, pl_b, pl_n, decide_eq_true_eq, sExt, sExtP, wMulT_i, wMulT_t, wRevS_l, wRevS_t]
  split
  · rename_i hlt
    refine ⟨hlt, hR (a % k) _ (Nat.mod_lt _ (by omega)) ⟨k, by rw [gcd_step, hg], ?_⟩⟩
    rw [Int.natCast_emod]
  · rename_i hlt
    have : k = 0 := by omega
    subst this
    rw [Nat.gcd_zero_right] at hg
    rw [hg]
    exact q
/-! _law_ratio: 0=n 1=d 2=common -/
def m__law_ratio_r2 : SX := (sRet (eTup [(eOp wDiv (eVar 0) (eVar 2)), (eOp wDiv (eVar 1) (eVar 2))]))
def m__law_ratio : SX := (sSeq (sAsg 2 (eCall S__law_divisor [(eVar 0), (eVar 1)]))
      (sSeq (sIf (tOf (eOp wLt (eVar 1) (eC (.int 0)))) (sAsg 2 (eUn wNeg (eVar 2))) sSkip)
      m__law_ratio_r2))
def S__law_ratio : WL := fun ds Q => ∃ n d : Int, ds = [.int n, .int d] ∧ 0 < d ∧ d < 1000000 ∧ Q (P2 (fracP n d))
theorem wp__law_ratio (ds : List D) (QD : D → Prop) (h : S__law_ratio ds QD) : m__law_ratio (startE 3 ds) ⟨fun _ => QD .none, QD, noB, noB, fun es => QD (.list es)⟩ := by
  obtain ⟨n, d, rfl, hd, hb, q⟩ := h
  have hg := gcd_facts (n := n) (show d ≠ 0 by omega)
  unfold m__law_ratio
  try simp only [sSeq, sSkip, sAsg, sAsgP, sNew, sNewP, sRet, sRetO, sIf, sApp, sAppP, sSet, sAug, sTgt, sTgtP, sPar, sFz, frz, sFor, sForR, sRev, sBrk, sCnt, sDrop, eOp, eUn, eCall, eVar, eC, eFr, eTup, eTupR, eAnd, eOr, eNot, eIf, eChain, eIndex, eSl, nLst, nList, nListR, nLc, nLc2, nCall, nSorted, nRep, tOf, tAndJ, tOrJ, tNotJ, tTrue, iSeq, iR1, iR2, iR3, rg1, rg2, evA, pNo, pSo, startE, hide, rd, hide_v, hide_o, hide_n, rd_v, rd_o, rd_n, bind_one, bind_many, setAll, List.map, List.replicate, List.length, List.cons_append, List.nil_append, List.getElem?_cons_zero, List.getElem?_cons_succ, List.set_cons_zero, List.set_cons_succ, Option.bind_some, ex_some, Option.some.injEq, Slot.own.injEq, Slot.val.injEq, exists_eq_left', true_and, and_true, Bool.false_eq_true, if_false, if_true, reduceIte, wEq, wNe, wAdd_i, wAdd_t, wAdd_l, wAdd_s, wSub_i, wMul_i, wDiv_i, wMod_i, wPow_i, wNeg_i, wLt_i, wLe_i, wGt_i, wGe_i, wIs_n, wIs_b, wIsNot_n, wIsNot_b, wIx_l, wIx_t, wLen_l, wLen_t, wAbs_i, wInt_i, wInt_b, wMax2_i, wMin2_i, wTuple_l, wTuple_t, wB_b, wI_i, seqOf_l, seqOf_t, wIAdd_i, wIAdd_t, wIMul_i, wSl_l, wSl_t, wIn_l, wIn_t, wNotIn_l, wNotIn_t, items_l, items_t, lv_i, lv_b, lv_n, eqv_ii, eqv_bb, isNon_n, isNon_i, isNon_b, isNon_s, isNon_t, isNon_l, Bool.not_true, Bool.not_false, b2n_t, b2n_f, pl_i, pl_b, pl_n, decide_eq_true_eq, sExt, sExtP, wMulT_i, wMulT_t, wRevS_l, wRevS_t]
  refine ⟨n, d, rfl, ?_⟩
  try simp only [sSeq, sSkip, sAsg, sAsgP, sNew, sNewP, sRet, sRetO, sIf, sApp, sAppP, sSet, sAug, sTgt, sTgtP, sPar, sFz, frz, sFor, sForR, sRev, sBrk, sCnt, sDrop, eOp, eUn, eCall, eVar, eC, eFr, eTup, eTupR, eAnd, eOr, eNot, eIf, eChain, eIndex, eSl, nLst, nList, nListR, nLc, nLc2, nCall, nSorted, nRep, tOf, tAndJ, tOrJ, tNotJ, tTrue, iSeq, iR1, iR2, iR3, rg1, rg2, evA, pNo, pSo, startE, hide, rd, hide_v, hide_o, hide_n, rd_v, rd_o, rd_n, bind_one, bind_many, setAll, List.map, List.replicate, List.length, List.cons_append, List.nil_append, List.getElem?_cons_zero, List.getElem?_cons_succ, List.set_cons_zero, List.set_cons_succ, Option.bind_some, ex_some, Option.some.injEq, Slot.own.injEq, Slot.val.injEq, exists_eq_left', true_and, and_true, Bool.false_eq_true, if_false, if_true, reduceIte, wEq, wNe, wAdd_i, wAdd_t, wAdd_l, wAdd_s, wSub_i, wMul_i, wDiv_i, wMod_i, wPow_i, wNeg_i, wLt_i, wLe_i, wGt_i, wGe_i, wIs_n, wIs_b, wIsNot_n, wIsNot_b, wIx_l, wIx_t, wLen_l, wLen_t, wAbs_i, wInt_i, wInt_b, wMax2_i, wMin2_i, wTuple_l, wTuple_t, wB_b, wI_i, seqOf_l, seqOf_t, wIAdd_i, wIAdd_t, wIMul_i, wSl_l, wSl_t, wIn_l, wIn_t, wNotIn_l, wNotIn_t, items_l, items_t, lv_i, lv_b, lv_n, eqv_ii, eqv_bb, isNon_n, isNon_i, isNon_b, isNon_s, isNon_t, isNon_l, Bool.not_true, Bool.not_false, b2n_t, b2n_f, pl_i, pl_b, pl_n, decide_eq_true_eq, sExt, sExtP, wMulT_i, wMulT_t, wRevS_l, wRevS_t]
  rw [if_neg (by omega)]
  unfold m__law_ratio_r2
  try simp only [sSeq, sSkip, sAsg, sAsgP, sNew, sNewP, sRet, sRetO, sIf, sApp, sAppP, sSet, sAug, sTgt, sTgtP, sPar, sFz, frz, sFor, sForR, sRev, sBrk, sCnt, sDrop, eOp, eUn, eCall, eVar, eC, eFr, eTup, eTupR, eAnd, eOr, eNot, eIf, eChain, eIndex, eSl, nLst, nList, nListR, nLc, nLc2, nCall, nSorted, nRep, tOf, tAndJ, tOrJ, tNotJ, tTrue, iSeq, iR1, iR2, iR3, rg1, rg2, evA, pNo, pSo, startE, hide, rd, hide_v, hide_o, hide_n, rd_v, rd_o, rd_n, bind_one, bind_many, setAll, List.map, List.replicate, List.length, List.cons_append, List.nil_append, List.getElem?_cons_zero, List.getElem?_cons_succ, List.set_cons_zero, List.set_cons_succ, Option.bind_some, ex_some, Option.some.injEq, Slot.own.injEq, Slot.val.injEq, exists_eq_left', true_and, and_true, Bool.false_eq_true, if_false, if_true, reduceIte, wEq, wNe, wAdd_i, wAdd_t, wAdd_l, wAdd_s, wSub_i, wMul_i, wDiv_i, wMod_i, wPow_i, wNeg_i, wLt_i, wLe_i, wGt_i, wGe_i, wIs_n, wIs_b, wIsNot_n, wIsNot_b, wIx_l, wIx_t, wLen_l, wLen_t, wAbs_i, wInt_i, wInt_b, wMax2_i, wMin2_i, wTuple_l, wTuple_t, wB_b, wI_i, seqOf_l, seqOf_t, wIAdd_i, wIAdd_t, wIMul_i, wSl_l, wSl_t, wIn_l, wIn_t, wNotIn_l, wNotIn_t, items_l, items_t, lv_i, lv_b, lv_n, eqv_ii, eqv_bb, isNon_n, isNon_i, isNon_b, isNon_s, isNon_t, isNon_l, Bool.not_true, Bool.not_false, b2n_t, b2n_f, pl_i, pl_b, pl_n, decide_eq_true_eq, sExt, sExtP, wMulT_i, wMulT_t, wRevS_l, wRevS_t]
  unfold fracP at q
  rw [if_neg (by omega), Int.one_mul, Int.one_mul] at q
  exact ⟨div_s (by omega), div_s (by omega), q⟩
/-! _law_samples: 0=draws 1=script 2=many 3=wide 4=scale 5=k -/
def m__law_samples : SX := (sSeq (sAsg 3 (eOp wIx (eFr (nLst [(eC (.int 2)), (eC (.int 9)), (eC (.int 200))])) (eCall S__law_take [(eVar 0), (eC (.int 3))])))
      (sSeq (sAsg 4 (eOp wIx (eFr (nLst [(eC (.int 1)), (eC (.int 1)), (eOp wAdd (eC (.int 1)) (eCall wAbs [(eCall S__law_cell [(eVar 1), (eCall S__law_take [(eVar 0), (eC (.int 64))])])]))])) (eCall S__law_take [(eVar 0), (eC (.int 3))])))
      (sRet (eUn wTuple (eFr (nLc (iR1 (eVar 2)) (.one 5) [5] tTrue (eOp wMul (eOp wSub (eCall S__law_take [(eVar 0), (eOp wAdd (eOp wMul (eC (.int 2)) (eVar 3)) (eC (.int 1)))]) (eVar 3)) (eVar 4))))))))
def S__law_samples : WL := fun ds Q => ∃ (ns : List Int) (many : Nat), ds = [.dict [], .list (ns.map PyData.int), .int (many : Int)] ∧ ns.length ≤ 63 ∧ many ≤ 100 ∧ ∀ ss : List Int, ss.length = many → (∀ s ∈ ss, S3 s) → Q (T ss)
theorem ints_of : ∀ (l : List D) (P : Int → Prop), (∀ d ∈ l, ∃ z : Int, d = .int z ∧ P z) → ∃ ss : List Int, l = ss.map PyData.int ∧ ∀ s ∈ ss, P s
  | [], _, _ => ⟨[], rfl, by simp⟩
  | a :: l, P, h => by
    obtain ⟨z, rfl, hz⟩ := h a (by simp)
    obtain ⟨ss, rfl, hs⟩ := ints_of l P fun d hd => h d (by simp [hd])
    exact ⟨z :: ss, rfl, fun s hm => by
      rcases List.mem_cons.mp hm with rfl | hm
      · exact hz
      · exact hs s hm⟩
theorem ints_of' {rs : List D} {l : List D} {P : Int → Prop} (hrs : rs.length = l.length) (h : ∀ (i : Nat) (d r : D), l[i]? = some d → rs[i]? = some r → ∃ z : Int, r = .int z ∧ P z) : ∃ ss : List Int, rs = ss.map PyData.int ∧ (∀ s ∈ ss, P s) ∧ ss.length = l.length := by
  obtain ⟨ss, e, hs⟩ := ints_of rs P fun d hd => by
    obtain ⟨k, hk⟩ := List.mem_iff_getElem?.mp hd
    have hkl : k < l.length := by rw [← hrs]; exact (List.getElem?_eq_some_iff.mp hk).1
    exact h k _ d (List.getElem?_eq_getElem hkl) hk
  refine ⟨ss, e, hs, ?_⟩
  rw [e, List.length_map] at hrs
  exact hrs
theorem wp__law_samples (ds : List D) (QD : D → Prop) (h : S__law_samples ds QD) : m__law_samples (startE 6 ds) ⟨fun _ => QD .none, QD, noB, noB, fun es => QD (.list es)⟩ := by
  obtain ⟨ns, many, rfl, hl, hm, q⟩ := h
  unfold m__law_samples
  try simp only [sSeq, sSkip, sAsg, sAsgP, sNew, sNewP, sRet, sRetO, sIf, sApp, sAppP, sSet, sAug, sTgt, sTgtP, sPar, sFz, frz, sFor, sForR, sRev, sBrk, sCnt, sDrop, eOp, eUn, eCall, eVar, eC, eFr, eTup, eTupR, eAnd, eOr, eNot, eIf, eChain, eIndex, eSl, nLst, nList, nListR, nLc, nLc2, nCall, nSorted, nRep, tOf, tAndJ, tOrJ, tNotJ, tTrue, iSeq, iR1, iR2, iR3, rg1, rg2, evA, pNo, pSo, startE, hide, rd, hide_v, hide_o, hide_n, rd_v, rd_o, rd_n, bind_one, bind_many, setAll, List.map, List.replicate, List.length, List.cons_append, List.nil_append, List.getElem?_cons_zero, List.getElem?_cons_succ, List.set_cons_zero, List.set_cons_succ, Option.bind_some, ex_some, Option.some.injEq, Slot.own.injEq, Slot.val.injEq, exists_eq_left', true_and, and_true, Bool.false_eq_true, if_false, if_true, reduceIte, wEq, wNe, wAdd_i, wAdd_t, wAdd_l, wAdd_s, wSub_i, wMul_i, wDiv_i, wMod_i, wPow_i, wNeg_i, wLt_i, wLe_i, wGt_i, wGe_i, wIs_n, wIs_b, wIsNot_n, wIsNot_b, wIx_l, wIx_t, wLen_l, wLen_t, wAbs_i, wInt_i, wInt_b, wMax2_i, wMin2_i, wTuple_l, wTuple_t, wB_b, wI_i, seqOf_l, seqOf_t, wIAdd_i, wIAdd_t, wIMul_i, wSl_l, wSl_t, wIn_l, wIn_t, wNotIn_l, wNotIn_t, items_l, items_t, lv_i, lv_b, lv_n, eqv_ii, eqv_bb, isNon_n, isNon_i, isNon_b, isNon_s, isNon_t, isNon_l, Bool.not_true, Bool.not_false, b2n_t, b2n_f, pl_i, pl_b, pl_n, decide_eq_true_eq, sExt, sExtP, wMulT_i, wMulT_t, wRevS_l, wRevS_t]
  refine ⟨3, rfl, by decide, fun r r0 r1 => ?_⟩
  obtain ⟨w, hw, hw2⟩ : ∃ w : Int, atI [PyData.int 2, .int 9, .int 200] r = some (.int w) ∧ 0 < w ∧ w ≤ 200 := by
    have : r = 0 ∨ r = 1 ∨ r = 2 := by omega
    rcases this with rfl | rfl | rfl <;> exact ⟨_, rfl, by decide⟩
  try simp only [sSeq, sSkip, sAsg, sAsgP, sNew, sNewP, sRet, sRetO, sIf, sApp, sAppP, sSet, sAug, sTgt, sTgtP, sPar, sFz, frz, sFor, sForR, sRev, sBrk, sCnt, sDrop, eOp, eUn, eCall, eVar, eC, eFr, eTup, eTupR, eAnd, eOr, eNot, eIf, eChain, eIndex, eSl, nLst, nList, nListR, nLc, nLc2, nCall, nSorted, nRep, tOf, tAndJ, tOrJ, tNotJ, tTrue, iSeq, iR1, iR2, iR3, rg1, rg2, evA, pNo, pSo, startE, hide, rd, hide_v, hide_o, hide_n, rd_v, rd_o, rd_n, bind_one, bind_many, setAll, List.map, List.replicate, List.length, List.cons_append, List.nil_append, List.getElem?_cons_zero, List.getElem?_cons_succ, List.set_cons_zero, List.set_cons_succ, Option.bind_some, ex_some, Option.some.injEq, Slot.own.injEq, Slot.val.injEq, exists_eq_left', true_and, and_true, Bool.false_eq_true, if_false, if_true, reduceIte, wEq, wNe, wAdd_i, wAdd_t, wAdd_l, wAdd_s, wSub_i, wMul_i, wDiv_i, wMod_i, wPow_i, wNeg_i, wLt_i, wLe_i, wGt_i, wGe_i, wIs_n, wIs_b, wIsNot_n, wIsNot_b, wIx_l, wIx_t, wLen_l, wLen_t, wAbs_i, wInt_i, wInt_b, wMax2_i, wMin2_i, wTuple_l, wTuple_t, wB_b, wI_i, seqOf_l, seqOf_t, wIAdd_i, wIAdd_t, wIMul_i, wSl_l, wSl_t, wIn_l, wIn_t, wNotIn_l, wNotIn_t, items_l, items_t, lv_i, lv_b, lv_n, eqv_ii, eqv_bb, isNon_n, isNon_i, isNon_b, isNon_s, isNon_t, isNon_l, Bool.not_true, Bool.not_false, b2n_t, b2n_f, pl_i, pl_b, pl_n, decide_eq_true_eq, sExt, sExtP, wMulT_i, wMulT_t, wRevS_l, wRevS_t, hw]
  refine ⟨64, rfl, by decide, fun at_ _ _ => ?_⟩
  refine ⟨ns, at_, rfl, hl, fun far hfar => ?_⟩
  try simp only [sSeq, sSkip, sAsg, sAsgP, sNew, sNewP, sRet, sRetO, sIf, sApp, sAppP, sSet, sAug, sTgt, sTgtP, sPar, sFz, frz, sFor, sForR, sRev, sBrk, sCnt, sDrop, eOp, eUn, eCall, eVar, eC, eFr, eTup, eTupR, eAnd, eOr, eNot, eIf, eChain, eIndex, eSl, nLst, nList, nListR, nLc, nLc2, nCall, nSorted, nRep, tOf, tAndJ, tOrJ, tNotJ, tTrue, iSeq, iR1, iR2, iR3, rg1, rg2, evA, pNo, pSo, startE, hide, rd, hide_v, hide_o, hide_n, rd_v, rd_o, rd_n, bind_one, bind_many, setAll, List.map, List.replicate, List.length, List.cons_append, List.nil_append, List.getElem?_cons_zero, List.getElem?_cons_succ, List.set_cons_zero, List.set_cons_succ, Option.bind_some, ex_some, Option.some.injEq, Slot.own.injEq, Slot.val.injEq, exists_eq_left', true_and, and_true, Bool.false_eq_true, if_false, if_true, reduceIte, wEq, wNe, wAdd_i, wAdd_t, wAdd_l, wAdd_s, wSub_i, wMul_i, wDiv_i, wMod_i, wPow_i, wNeg_i, wLt_i, wLe_i, wGt_i, wGe_i, wIs_n, wIs_b, wIsNot_n, wIsNot_b, wIx_l, wIx_t, wLen_l, wLen_t, wAbs_i, wInt_i, wInt_b, wMax2_i, wMin2_i, wTuple_l, wTuple_t, wB_b, wI_i, seqOf_l, seqOf_t, wIAdd_i, wIAdd_t, wIMul_i, wSl_l, wSl_t, wIn_l, wIn_t, wNotIn_l, wNotIn_t, items_l, items_t, lv_i, lv_b, lv_n, eqv_ii, eqv_bb, isNon_n, isNon_i, isNon_b, isNon_s, isNon_t, isNon_l, Bool.not_true, Bool.not_false, b2n_t, b2n_f, pl_i, pl_b, pl_n, decide_eq_true_eq, sExt, sExtP, wMulT_i, wMulT_t, wRevS_l, wRevS_t]
  refine ⟨3, rfl, by decide, fun r2 p0 p1 => ?_⟩
  have b60 : (10 : Nat) ^ 60 < 2 ^ 200 := by decide
  obtain ⟨sc, hsc, hsc2⟩ : ∃ sc : Int, atI [PyData.int 1, .int 1, .int (1 + (far.natAbs : Nat))] r2 = some (.int sc) ∧ sc.natAbs < 2 ^ 201 := by
    have : r2 = 0 ∨ r2 = 1 ∨ r2 = 2 := by omega
    rcases this with rfl | rfl | rfl
    · exact ⟨_, rfl, by decide⟩
    · exact ⟨_, rfl, by decide⟩
    · refine ⟨_, rfl, ?_⟩
      have : (2 : Nat) ^ 201 = 2 ^ 200 + 2 ^ 200 := by decide
      omega
  try simp only [sSeq, sSkip, sAsg, sAsgP, sNew, sNewP, sRet, sRetO, sIf, sApp, sAppP, sSet, sAug, sTgt, sTgtP, sPar, sFz, frz, sFor, sForR, sRev, sBrk, sCnt, sDrop, eOp, eUn, eCall, eVar, eC, eFr, eTup, eTupR, eAnd, eOr, eNot, eIf, eChain, eIndex, eSl, nLst, nList, nListR, nLc, nLc2, nCall, nSorted, nRep, tOf, tAndJ, tOrJ, tNotJ, tTrue, iSeq, iR1, iR2, iR3, rg1, rg2, evA, pNo, pSo, startE, hide, rd, hide_v, hide_o, hide_n, rd_v, rd_o, rd_n, bind_one, bind_many, setAll, List.map, List.replicate, List.length, List.cons_append, List.nil_append, List.getElem?_cons_zero, List.getElem?_cons_succ, List.set_cons_zero, List.set_cons_succ, Option.bind_some, ex_some, Option.some.injEq, Slot.own.injEq, Slot.val.injEq, exists_eq_left', true_and, and_true, Bool.false_eq_true, if_false, if_true, reduceIte, wEq, wNe, wAdd_i, wAdd_t, wAdd_l, wAdd_s, wSub_i, wMul_i, wDiv_i, wMod_i, wPow_i, wNeg_i, wLt_i, wLe_i, wGt_i, wGe_i, wIs_n, wIs_b, wIsNot_n, wIsNot_b, wIx_l, wIx_t, wLen_l, wLen_t, wAbs_i, wInt_i, wInt_b, wMax2_i, wMin2_i, wTuple_l, wTuple_t, wB_b, wI_i, seqOf_l, seqOf_t, wIAdd_i, wIAdd_t, wIMul_i, wSl_l, wSl_t, wIn_l, wIn_t, wNotIn_l, wNotIn_t, items_l, items_t, lv_i, lv_b, lv_n, eqv_ii, eqv_bb, isNon_n, isNon_i, isNon_b, isNon_s, isNon_t, isNon_l, Bool.not_true, Bool.not_false, b2n_t, b2n_f, pl_i, pl_b, pl_n, decide_eq_true_eq, sExt, sExtP, wMulT_i, wMulT_t, wRevS_l, wRevS_t]
  refine ⟨_, hsc, ⟨by decide, by decide, by omega, by omega, by omega⟩, ?_⟩
  refine mapW_all (fun _ r => ∃ z : Int, r = .int z ∧ S3 z) (fun d hd R hR => ?_) fun rs hrs hall => ?_
  · refine ⟨_, rfl, ?_⟩
    try simp only [sSeq, sSkip, sAsg, sAsgP, sNew, sNewP, sRet, sRetO, sIf, sApp, sAppP, sSet, sAug, sTgt, sTgtP, sPar, sFz, frz, sFor, sForR, sRev, sBrk, sCnt, sDrop, eOp, eUn, eCall, eVar, eC, eFr, eTup, eTupR, eAnd, eOr, eNot, eIf, eChain, eIndex, eSl, nLst, nList, nListR, nLc, nLc2, nCall, nSorted, nRep, tOf, tAndJ, tOrJ, tNotJ, tTrue, iSeq, iR1, iR2, iR3, rg1, rg2, evA, pNo, pSo, startE, hide, rd, hide_v, hide_o, hide_n, rd_v, rd_o, rd_n, bind_one, bind_many, setAll, List.map, List.replicate, List.length, List.cons_append, List.nil_append, List.getElem?_cons_zero, List.getElem?_cons_succ, List.set_cons_zero, List.set_cons_succ, Option.bind_some, ex_some, Option.some.injEq, Slot.own.injEq, Slot.val.injEq, exists_eq_left', true_and, and_true, Bool.false_eq_true, if_false, if_true, reduceIte, wEq, wNe, wAdd_i, wAdd_t, wAdd_l, wAdd_s, wSub_i, wMul_i, wDiv_i, wMod_i, wPow_i, wNeg_i, wLt_i, wLe_i, wGt_i, wGe_i, wIs_n, wIs_b, wIsNot_n, wIsNot_b, wIx_l, wIx_t, wLen_l, wLen_t, wAbs_i, wInt_i, wInt_b, wMax2_i, wMin2_i, wTuple_l, wTuple_t, wB_b, wI_i, seqOf_l, seqOf_t, wIAdd_i, wIAdd_t, wIMul_i, wSl_l, wSl_t, wIn_l, wIn_t, wNotIn_l, wNotIn_t, items_l, items_t, lv_i, lv_b, lv_n, eqv_ii, eqv_bb, isNon_n, isNon_i, isNon_b, isNon_s, isNon_t, isNon_l, Bool.not_true, Bool.not_false, b2n_t, b2n_f, pl_i, pl_b, pl_n, decide_eq_true_eq, sExt, sExtP, wMulT_i, wMulT_t, wRevS_l, wRevS_t, wipeE]
    refine ⟨mul_l (by decide), _, rfl, by omega, fun x x0 x1 => ?_⟩
    try simp only [sSeq, sSkip, sAsg, sAsgP, sNew, sNewP, sRet, sRetO, sIf, sApp, sAppP, sSet, sAug, sTgt, sTgtP, sPar, sFz, frz, sFor, sForR, sRev, sBrk, sCnt, sDrop, eOp, eUn, eCall, eVar, eC, eFr, eTup, eTupR, eAnd, eOr, eNot, eIf, eChain, eIndex, eSl, nLst, nList, nListR, nLc, nLc2, nCall, nSorted, nRep, tOf, tAndJ, tOrJ, tNotJ, tTrue, iSeq, iR1, iR2, iR3, rg1, rg2, evA, pNo, pSo, startE, hide, rd, hide_v, hide_o, hide_n, rd_v, rd_o, rd_n, bind_one, bind_many, setAll, List.map, List.replicate, List.length, List.cons_append, List.nil_append, List.getElem?_cons_zero, List.getElem?_cons_succ, List.set_cons_zero, List.set_cons_succ, Option.bind_some, ex_some, Option.some.injEq, Slot.own.injEq, Slot.val.injEq, exists_eq_left', true_and, and_true, Bool.false_eq_true, if_false, if_true, reduceIte, wEq, wNe, wAdd_i, wAdd_t, wAdd_l, wAdd_s, wSub_i, wMul_i, wDiv_i, wMod_i, wPow_i, wNeg_i, wLt_i, wLe_i, wGt_i, wGe_i, wIs_n, wIs_b, wIsNot_n, wIsNot_b, wIx_l, wIx_t, wLen_l, wLen_t, wAbs_i, wInt_i, wInt_b, wMax2_i, wMin2_i, wTuple_l, wTuple_t, wB_b, wI_i, seqOf_l, seqOf_t, wIAdd_i, wIAdd_t, wIMul_i, wSl_l, wSl_t, wIn_l, wIn_t, wNotIn_l, wNotIn_t, items_l, items_t, lv_i, lv_b, lv_n, eqv_ii, eqv_bb, isNon_n, isNon_i, isNon_b, isNon_s, isNon_t, isNon_l, Bool.not_true, Bool.not_false, b2n_t, b2n_f, pl_i, pl_b, pl_n, decide_eq_true_eq, sExt, sExtP, wMulT_i, wMulT_t, wRevS_l, wRevS_t]
    have hx : (x - w).natAbs < 2 ^ 20 := by
      have : (2 : Nat) ^ 20 = 1048576 := by decide
      omega
    exact ⟨mul_b hx hsc2, hR _ ⟨_, rfl, pow_mono (abs_mul_lt hx hsc2) (by decide)⟩⟩
  · obtain ⟨ss, rfl, h1, h2⟩ := ints_of' hrs hall
    exact q ss (by rw [h2, rgD_length]; omega) h1
/-! ## playing -/
theorem played_len (ss : List Int) (b e m : Nat) : (playedL ss b e m).length = m := by unfold playedL; rw [List.length_map, List.length_range]
theorem played_get {ss : List Int} {b e m i : Nat} (h : i < m) : (playedL ss b e m)[i]? = some (atS ss b e i) := by
  unfold playedL
  rw [List.getElem?_map, List.getElem?_range h]
  rfl
theorem at_lt {ss : List Int} {b e i : Nat} (h : i < e) : atS ss b e i = ss.getD i 0 := by unfold atS; rw [if_pos h]
theorem at_ge {ss : List Int} {b e i : Nat} (h : e ≤ i) : atS ss b e i = ss.getD (b + (i - b) % (e - b)) 0 := by unfold atS; rw [if_neg (by omega)]
theorem at_mem {ss : List Int} {b e : Nat} (i : Nat) (hbe : b < e) (he : e ≤ ss.length) : atS ss b e i ∈ ss := getD_mem (at_ix hbe he)
/-- once more round -/
theorem at_round {ss : List Int} {b e i : Nat} (hbe : b < e) (hi : b ≤ i) : atS ss b e (i + (e - b)) = atS ss b e i := by
  rw [at_ge (by omega)]
  have h1 : (i + (e - b) - b) % (e - b) = (i - b) % (e - b) := by
    rw [show i + (e - b) - b = (i - b) + (e - b) by omega, Nat.add_mod_right]
  rw [h1]
  by_cases c : i < e
  · rw [at_lt c, Nat.mod_eq_of_lt (by omega)]
    congr 1
    omega
  · rw [at_ge (by omega)]
theorem at_rounds {ss : List Int} {b e i : Nat} (hbe : b < e) (hi : b ≤ i) : ∀ k, atS ss b e (i + k * (e - b)) = atS ss b e i
  | 0 => by rw [Nat.zero_mul, Nat.add_zero]
  | k + 1 => by
    rw [Nat.succ_mul, ← Nat.add_assoc, at_round hbe (by omega), at_rounds hbe hi k]
theorem played_take {ss : List Int} {b e m n : Nat} (h : n ≤ m) : (playedL ss b e m).take n = playedL ss b e n := by
  unfold playedL
  rw [← List.map_take, List.take_range, Nat.min_eq_left h]
theorem played_e {ss : List Int} {b e m : Nat} (h : m ≤ e) (he : e ≤ ss.length) : playedL ss b e m = ss.take m := by
  refine List.ext_getElem? fun i => ?_
  by_cases c : i < m
  · rw [played_get c, at_lt (by omega), List.getElem?_take_of_lt c, List.getD_eq_getElem?_getD, List.getElem?_eq_getElem (by omega)]
    rfl
  · rw [List.getElem?_eq_none (by rw [played_len]; omega), List.getElem?_eq_none (by rw [List.length_take]; omega)]
theorem played_more {ss : List Int} {b e m : Nat} (hbe : b < e) (he : e ≤ ss.length) (k : Nat) (hm : m = e + k * (e - b)) : playedL ss b e m ++ (ss.drop b).take (e - b) = playedL ss b e (m + (e - b)) := by
  refine List.ext_getElem? fun i => ?_
  by_cases c : i < m
  · rw [List.getElem?_append_left (by rw [played_len]; exact c), played_get c, played_get (by omega)]
  · rw [List.getElem?_append_right (by rw [played_len]; omega), played_len]
    by_cases d : i - m < e - b
    · rw [played_get (by omega), List.getElem?_take_of_lt d, List.getElem?_drop, List.getElem?_eq_getElem (by omega)]
      have h1 : i = (b + (i - m)) + (k + 1) * (e - b) := by rw [Nat.succ_mul]; omega
      have h2 : atS ss b e i = atS ss b e (b + (i - m)) := by
        conv => lhs; rw [h1]
        exact at_rounds hbe (by omega) (k + 1)
      rw [h2, at_lt (by omega), List.getD_eq_getElem?_getD, List.getElem?_eq_getElem (by omega)]
      rfl
    · rw [List.getElem?_eq_none (by rw [List.length_take]; omega), List.getElem?_eq_none (by rw [played_len]; omega)]
/-! _law_played: 0=samples 1=begin 2=end 3=many 4=found 5=turn -/
def m__law_played_b2 : SX := (sIf (tOf (eOp wLt (eCall wLen [(eVar 4)]) (eVar 3))) (sAsg 4 (eOp wAdd (eVar 4) (eFr (nList (eSl (eVar 0) (pSo (eVar 1)) (pSo (eVar 2))))))) sSkip)
def m__law_played_r2 : SX := (sRet (eUn wTuple (eSl (eVar 4) pNo (pSo (eVar 3)))))
def m__law_played : SX := (sSeq (sAsg 4 (eFr (nList (eSl (eVar 0) pNo (pSo (eVar 2))))))
      (sSeq (sForR (iR1 (eVar 3)) (.one 5) m__law_played_b2)
      m__law_played_r2))
def S__law_played : WL := fun ds Q => ∃ (ss : List Int) (b e m : Nat), ds = [T ss, .int (b : Int), .int (e : Int), .int (m : Int)] ∧ b < e ∧ e ≤ ss.length ∧ ss.length ≤ 1000 ∧ m ≤ 1000000 ∧ Q (T (playedL ss b e m))
theorem wp__law_played (ds : List D) (QD : D → Prop) (h : S__law_played ds QD) : m__law_played (startE 6 ds) ⟨fun _ => QD .none, QD, noB, noB, fun es => QD (.list es)⟩ := by
  obtain ⟨ss, b, e, m, rfl, hbe, he, hl, hm, q⟩ := h
  have hz : sizeLine = 16777216 := sizeLine_eq
  unfold m__law_played
  try simp only [sSeq, sSkip, sAsg, sAsgP, sNew, sNewP, sRet, sRetO, sIf, sApp, sAppP, sSet, sAug, sTgt, sTgtP, sPar, sFz, frz, sFor, sForR, sRev, sBrk, sCnt, sDrop, eOp, eUn, eCall, eVar, eC, eFr, eTup, eTupR, eAnd, eOr, eNot, eIf, eChain, eIndex, eSl, nLst, nList, nListR, nLc, nLc2, nCall, nSorted, nRep, tOf, tAndJ, tOrJ, tNotJ, tTrue, iSeq, iR1, iR2, iR3, rg1, rg2, evA, pNo, pSo, startE, hide, rd, hide_v, hide_o, hide_n, rd_v, rd_o, rd_n, bind_one, bind_many, setAll, List.map, List.replicate, List.length, List.cons_append, List.nil_append, List.getElem?_cons_zero, List.getElem?_cons_succ, List.set_cons_zero, List.set_cons_succ, Option.bind_some, ex_some, Option.some.injEq, Slot.own.injEq, Slot.val.injEq, exists_eq_left', true_and, and_true, Bool.false_eq_true, if_false, if_true, reduceIte, wEq, wNe, wAdd_i, wAdd_t, wAdd_l, wAdd_s, wSub_i, wMul_i, wDiv_i, wMod_i, wPow_i, wNeg_i, wLt_i, wLe_i, wGt_i, wGe_i, wIs_n, wIs_b, wIsNot_n, wIsNot_b, wIx_l, wIx_t, wLen_l, wLen_t, wAbs_i, wInt_i, wInt_b, wMax2_i, wMin2_i, wTuple_l, wTuple_t, wB_b, wI_i, seqOf_l, seqOf_t, wIAdd_i, wIAdd_t, wIMul_i, wSl_l, wSl_t, wIn_l, wIn_t, wNotIn_l, wNotIn_t, items_l, items_t, lv_i, lv_b, lv_n, eqv_ii, eqv_bb, isNon_n, isNon_i, isNon_b, isNon_s, isNon_t, isNon_l, Bool.not_true, Bool.not_false, b2n_t, b2n_f, pl_i, pl_b, pl_n, decide_eq_true_eq, sExt, sExtP, wMulT_i, wMulT_t, wRevS_l, wRevS_t]
  have e0 : J.cutD (ss.map PyData.int) none (some (e : Int)) = (playedL ss b e e).map PyData.int := by
    rw [cut_to rfl (by rw [List.length_map]; exact he), played_e (Nat.le_refl _) he, List.map_take]
  rw [e0]
  refine ⟨⟨by decide, by decide, by omega, by omega, by omega⟩, ?_⟩
  refine forW_inv (fun t en => ∃ (k : Nat) (s5 : Slot), (m ≤ e + k * (e - b) ∨ t ≤ k) ∧ en = [.val (T ss), .val (.int (b : Int)), .val (.int (e : Int)), .val (.int (m : Int)), .val (.list ((playedL ss b e (e + k * (e - b))).map PyData.int)), s5]) ⟨0, _, .inr (Nat.le_refl _), by rw [Nat.zero_mul, Nat.add_zero]⟩ ?_ ?_
  · rintro t d en ht ⟨k, s5, hk, rfl⟩ R hR
    obtain ⟨rfl, hlt⟩ := rgD_get0 ht
    refine ⟨_, rfl, ?_⟩
    unfold m__law_played_b2
    try simp only [sSeq, sSkip, sAsg, sAsgP, sNew, sNewP, sRet, sRetO, sIf, sApp, sAppP, sSet, sAug, sTgt, sTgtP, sPar, sFz, frz, sFor, sForR, sRev, sBrk, sCnt, sDrop, eOp, eUn, eCall, eVar, eC, eFr, eTup, eTupR, eAnd, eOr, eNot, eIf, eChain, eIndex, eSl, nLst, nList, nListR, nLc, nLc2, nCall, nSorted, nRep, tOf, tAndJ, tOrJ, tNotJ, tTrue, iSeq, iR1, iR2, iR3, rg1, rg2, evA, pNo, pSo, startE, hide, rd, hide_v, hide_o, hide_n, rd_v, rd_o, rd_n, bind_one, bind_many, setAll, List.map, List.replicate, List.length, List.cons_append, List.nil_append, List.getElem?_cons_zero, List.getElem?_cons_succ, List.set_cons_zero, List.set_cons_succ, Option.bind_some, ex_some, Option.some.injEq, Slot.own.injEq, Slot.val.injEq, exists_eq_left', true_and, and_true, Bool.false_eq_true, if_false, if_true, reduceIte, wEq, wNe, wAdd_i, wAdd_t, wAdd_l, wAdd_s, wSub_i, wMul_i, wDiv_i, wMod_i, wPow_i, wNeg_i, wLt_i, wLe_i, wGt_i, wGe_i, wIs_n, wIs_b, wIsNot_n, wIsNot_b, wIx_l, wIx_t, wLen_l, wLen_t, wAbs_i, wInt_i, wInt_b, wMax2_i, wMin2_i, wTuple_l, wTuple_t, wB_b, wI_i, seqOf_l, seqOf_t, wIAdd_i, wIAdd_t, wIMul_i, wSl_l, wSl_t, wIn_l, wIn_t, wNotIn_l, wNotIn_t, items_l, items_t, lv_i, lv_b, lv_n, eqv_ii, eqv_bb, isNon_n, isNon_i, isNon_b, isNon_s, isNon_t, isNon_l, Bool.not_true, Bool.not_false, b2n_t, b2n_f, pl_i, pl_b, pl_n, decide_eq_true_eq, sExt, sExtP, wMulT_i, wMulT_t, wRevS_l, wRevS_t, List.length_map, played_len]
    by_cases c : e + k * (e - b) < m
    · rw [if_pos (by omega)]
      have e1 : J.cutD (ss.map PyData.int) (some (b : Int)) (some (e : Int)) = ((ss.drop b).take (e - b)).map PyData.int := by
        rw [cut_nat rfl rfl (by rw [List.length_map]; omega) (by rw [List.length_map]; omega), List.map_take, List.map_drop]
      try simp only [sSeq, sSkip, sAsg, sAsgP, sNew, sNewP, sRet, sRetO, sIf, sApp, sAppP, sSet, sAug, sTgt, sTgtP, sPar, sFz, frz, sFor, sForR, sRev, sBrk, sCnt, sDrop, eOp, eUn, eCall, eVar, eC, eFr, eTup, eTupR, eAnd, eOr, eNot, eIf, eChain, eIndex, eSl, nLst, nList, nListR, nLc, nLc2, nCall, nSorted, nRep, tOf, tAndJ, tOrJ, tNotJ, tTrue, iSeq, iR1, iR2, iR3, rg1, rg2, evA, pNo, pSo, startE, hide, rd, hide_v, hide_o, hide_n, rd_v, rd_o, rd_n, bind_one, bind_many, setAll, List.map, List.replicate, List.length, List.cons_append, List.nil_append, List.getElem?_cons_zero, List.getElem?_cons_succ, List.set_cons_zero, List.set_cons_succ, Option.bind_some, ex_some, Option.some.injEq, Slot.own.injEq, Slot.val.injEq, exists_eq_left', true_and, and_true, Bool.false_eq_true, if_false, if_true, reduceIte, wEq, wNe, wAdd_i, wAdd_t, wAdd_l, wAdd_s, wSub_i, wMul_i, wDiv_i, wMod_i, wPow_i, wNeg_i, wLt_i, wLe_i, wGt_i, wGe_i, wIs_n, wIs_b, wIsNot_n, wIsNot_b, wIx_l, wIx_t, wLen_l, wLen_t, wAbs_i, wInt_i, wInt_b, wMax2_i, wMin2_i, wTuple_l, wTuple_t, wB_b, wI_i, seqOf_l, seqOf_t, wIAdd_i, wIAdd_t, wIMul_i, wSl_l, wSl_t, wIn_l, wIn_t, wNotIn_l, wNotIn_t, items_l, items_t, lv_i, lv_b, lv_n, eqv_ii, eqv_bb, isNon_n, isNon_i, isNon_b, isNon_s, isNon_t, isNon_l, Bool.not_true, Bool.not_false, b2n_t, b2n_f, pl_i, pl_b, pl_n, decide_eq_true_eq, sExt, sExtP, wMulT_i, wMulT_t, wRevS_l, wRevS_t, e1, List.length_map, List.length_take, List.length_drop]
      refine ⟨by omega, ?_⟩
      refine hR _ ⟨k + 1, .val (.int (t : Int)), .inr (by omega), ?_⟩
      rw [Nat.succ_mul, ← Nat.add_assoc, ← played_more hbe he k rfl, List.map_append]
    · rw [if_neg (by omega)]
      exact hR _ ⟨k, .val (.int (t : Int)), .inl (by omega), rfl⟩
  · rintro en ⟨k, s5, hk, rfl⟩
    rw [rgD_length] at hk
    have hmk : m ≤ e + k * (e - b) := by
      rcases hk with c | c
      · exact c
      · have : k ≤ k * (e - b) := Nat.le_mul_of_pos_right k (by omega)
        omega
    unfold m__law_played_r2
    have e2 : J.cutD ((playedL ss b e (e + k * (e - b))).map PyData.int) none (some (m : Int)) = (playedL ss b e m).map PyData.int := by
      rw [cut_to rfl (by rw [List.length_map, played_len]; exact hmk), ← List.map_take, played_take hmk]
    try simp only [sSeq, sSkip, sAsg, sAsgP, sNew, sNewP, sRet, sRetO, sIf, sApp, sAppP, sSet, sAug, sTgt, sTgtP, sPar, sFz, frz, sFor, sForR, sRev, sBrk, sCnt, sDrop, eOp, eUn, eCall, eVar, eC, eFr, eTup, eTupR, eAnd, eOr, eNot, eIf, eChain, eIndex, eSl, nLst, nList, nListR, nLc, nLc2, nCall, nSorted, nRep, tOf, tAndJ, tOrJ, tNotJ, tTrue, iSeq, iR1, iR2, iR3, rg1, rg2, evA, pNo, pSo, startE, hide, rd, hide_v, hide_o, hide_n, rd_v, rd_o, rd_n, bind_one, bind_many, setAll, List.map, List.replicate, List.length, List.cons_append, List.nil_append, List.getElem?_cons_zero, List.getElem?_cons_succ, List.set_cons_zero, List.set_cons_succ, Option.bind_some, ex_some, Option.some.injEq, Slot.own.injEq, Slot.val.injEq, exists_eq_left', true_and, and_true, Bool.false_eq_true, if_false, if_true, reduceIte, wEq, wNe, wAdd_i, wAdd_t, wAdd_l, wAdd_s, wSub_i, wMul_i, wDiv_i, wMod_i, wPow_i, wNeg_i, wLt_i, wLe_i, wGt_i, wGe_i, wIs_n, wIs_b, wIsNot_n, wIsNot_b, wIx_l, wIx_t, wLen_l, wLen_t, wAbs_i, wInt_i, wInt_b, wMax2_i, wMin2_i, wTuple_l, wTuple_t, wB_b, wI_i, seqOf_l, seqOf_t, wIAdd_i, wIAdd_t, wIMul_i, wSl_l, wSl_t, wIn_l, wIn_t, wNotIn_l, wNotIn_t, items_l, items_t, lv_i, lv_b, lv_n, eqv_ii, eqv_bb, isNon_n, isNon_i, isNon_b, isNon_s, isNon_t, isNon_l, Bool.not_true, Bool.not_false, b2n_t, b2n_f, pl_i, pl_b, pl_n, decide_eq_true_eq, sExt, sExtP, wMulT_i, wMulT_t, wRevS_l, wRevS_t, e2]
    exact q
/-! ## quiet spans, played -/
def cnt (x : Nat) (l : List (Int × Int)) : Nat := (l.filter fun p => decide (p.1 ≤ (x : Int)) && decide ((x : Int) < p.2)).length
theorem cnt_app (x : Nat) (l m : List (Int × Int)) : cnt x (l ++ m) = cnt x l + cnt x m := by unfold cnt; rw [List.filter_append, List.length_append]
theorem cnt_one (x b a : Nat) : cnt x [((b : Int), (a : Int))] = if b ≤ x ∧ x < a then 1 else 0 := by
  unfold cnt
  rw [List.filter_cons]
  by_cases c : b ≤ x ∧ x < a
  · rw [if_pos c, if_pos (by simp; omega)]
    rfl
  · rw [if_neg c, if_neg (by simp; omega)]
    rfl
theorem cnt_run (x b a : Nat) : cnt x (if b + 1 ≤ a then [((b : Int), (a : Int))] else []) = if b ≤ x ∧ x < a then 1 else 0 := by
  by_cases c : b + 1 ≤ a
  · rw [if_pos c, cnt_one]
  · rw [if_neg c, if_neg (by omega)]
    rfl
theorem cnt_spans (x : Nat) : ∀ (F : List Bool) (a b : Nat), b ≤ a → cnt x (spansF 1 F a b) = if x < b then 0 else if x < a then 1 else match F[x - a]? with | some false => 1 | _ => 0
  | [], a, b, h => by
    unfold spansF
    rw [cnt_run]
    by_cases c1 : x < b
    · rw [if_pos c1, if_neg (by omega)]
    · rw [if_neg c1]
      by_cases c2 : x < a
      · rw [if_pos c2, if_pos (by omega)]
      · rw [if_neg c2, if_neg (by omega)]
        rfl
  | l :: r, a, b, h => by
    unfold spansF
    cases l with
    | true =>
      rw [if_pos rfl, cnt_app, cnt_run, cnt_spans x r (a + 1) (a + 1) (Nat.le_refl _)]
      by_cases c1 : x < b
      · rw [if_pos c1, if_neg (by omega), if_pos (by omega)]
      · rw [if_neg c1]
        by_cases c2 : x < a
        · rw [if_pos c2, if_pos (by omega), if_pos (by omega)]
        · rw [if_neg c2, if_neg (by omega)]
          by_cases c3 : x = a
          · subst c3
            rw [if_pos (by omega), Nat.sub_self]
            rfl
          · rw [if_neg (by omega), if_neg (by omega), show x - a = (x - (a + 1)) + 1 by omega, List.getElem?_cons_succ, Nat.zero_add]
    | false =>
      rw [if_neg Bool.false_ne_true, cnt_spans x r (a + 1) b (by omega)]
      by_cases c1 : x < b
      · rw [if_pos c1, if_pos c1]
      · rw [if_neg c1, if_neg c1]
        by_cases c2 : x < a
        · rw [if_pos c2, if_pos (by omega)]
        · rw [if_neg c2]
          by_cases c3 : x = a
          · subst c3
            rw [if_pos (by omega), Nat.sub_self]
            rfl
          · rw [if_neg (by omega), show x - a = (x - (a + 1)) + 1 by omega, List.getElem?_cons_succ]
theorem spans_ge : ∀ (F : List Bool) (a b : Nat), ∀ p ∈ spansF 1 F a b, (a : Int) ≤ p.2
  | [], a, b, p, h => by
    unfold spansF at h
    split at h
    · rw [List.mem_singleton] at h; subst h; exact Int.le_refl _
    · cases h
  | l :: r, a, b, p, h => by
    unfold spansF at h
    split at h
    · rcases List.mem_append.mp h with h | h
      · split at h
        · rw [List.mem_singleton] at h; subst h; exact Int.le_refl _
        · cases h
      · have := spans_ge r (a + 1) (a + 1) p h
        omega
    · have := spans_ge r (a + 1) b p h
      omega
/-- what ends ahead of e hangs on what stands ahead of e alone -/
theorem spans_cut (e : Nat) : ∀ (G H1 H2 : List Bool) (a b : Nat), a + G.length = e → (spansF 1 (G ++ H1) a b).filter (fun p => decide (p.2 < (e : Int))) = (spansF 1 (G ++ H2) a b).filter (fun p => decide (p.2 < (e : Int)))
  | [], H1, H2, a, b, h => by
    have : a = e := by simpa using h
    subst this
    have nil : ∀ H : List Bool, (spansF 1 ([] ++ H) a b).filter (fun p => decide (p.2 < (a : Int))) = [] := fun H => by
      rw [List.filter_eq_nil_iff]
      intro p hp
      have := spans_ge _ _ _ p hp
      simp
      omega
    rw [nil, nil]
  | l :: G, H1, H2, a, b, h => by
    have h' : a + 1 + G.length = e := by simp at h; omega
    rw [List.cons_append, List.cons_append]
    unfold spansF
    cases l with
    | true => rw [if_pos rfl, if_pos rfl, List.filter_append, List.filter_append, spans_cut e G H1 H2 _ _ h']
    | false => rw [if_neg Bool.false_ne_true, if_neg Bool.false_ne_true, spans_cut e G H1 H2 _ _ h']
theorem spans_lt : ∀ (F : List Bool) (a b : Nat), (spansF 1 F a b).length ≤ F.length + 1
  | [], a, b => by unfold spansF; split <;> simp
  | l :: r, a, b => by
    unfold spansF
    split
    · have := spans_lt r (a + 1) (a + 1)
      rw [List.length_append]
      simp only [List.length_cons]
      have : (if b + 1 ≤ a then [((b : Int), (a : Int))] else []).length ≤ 1 := by split <;> simp
      omega
    · have := spans_lt r (a + 1) b
      simp only [List.length_cons]
      omega
theorem eqv_P2 (l : List (Int × Int)) : PyData.eqv (.list (l.map P2)) (.list (l.map P2)) = true := by
  rw [PyData.eqv]
  induction l with
  | nil => rfl
  | cons a l ih =>
    rw [List.map_cons, PyData.eqvAll, ih, Bool.and_true]
    show PyData.eqv (.tuple [.int a.1, .int a.2]) (.tuple [.int a.1, .int a.2]) = true
    rw [PyData.eqv, PyData.eqvAll, PyData.eqvAll, PyData.eqvAll, eqv_ii, eqv_ii]
    simp
theorem lv_P2 (l : List (Int × Int)) : lv lvl (.list (l.map P2)) = true := by
  show (l.map P2).all (lv 11) = true
  rw [List.all_map]
  exact List.all_eq_true.mpr fun _ _ => rfl
theorem loud_nn (ss : List Int) : 0 ≤ loud ss := (foldl_max _ _).2.1
/-- how many spans lie over a place -/
theorem cnt_at {ss : List Int} {bound : Int} {x : Nat} (hx : x < ss.length) : cnt x (spans ss bound) = if bound < ((ss.getD x 0).natAbs : Int) then 0 else 1 := by
  unfold spans spansN
  rw [cnt_spans _ _ _ _ (Nat.le_refl _), if_neg (by omega), if_neg (by omega), Nat.sub_zero]
  unfold flags
  rw [List.getElem?_map, List.getElem?_eq_getElem hx, List.getD_eq_getElem?_getD, List.getElem?_eq_getElem hx]
  show (match some (decide (bound < (ss[x].natAbs : Int))) with | some false => 1 | _ => 0) = if bound < ((ss[x]).natAbs : Int) then 0 else 1
  by_cases c : bound < (ss[x].natAbs : Int)
  · rw [decide_eq_true c, if_pos c]
  · rw [decide_eq_false c, if_neg c]
theorem ones_len (x : Nat) (l : List (Int × Int)) : (l.filterMap fun p => if p.1 ≤ (x : Int) ∧ (x : Int) < p.2 then some (PyData.int 1) else none).length = cnt x l := by
  unfold cnt
  induction l with
  | nil => rfl
  | cons p l ih =>
    rw [List.filterMap_cons, List.filter_cons]
    by_cases c : p.1 ≤ (x : Int) ∧ (x : Int) < p.2
    · rw [if_pos c, if_pos (by simp; omega)]
      simp only [List.length_cons, ih]
    · rw [if_neg c, if_neg (by simp; omega)]
      exact ih
theorem keep_filter (e : Int) (l : List (Int × Int)) : (l.filterMap fun p => if p.2 < e then some (P2 p) else none) = (l.filter fun p => decide (p.2 < e)).map P2 := by
  induction l with
  | nil => rfl
  | cons p l ih =>
    rw [List.filterMap_cons, List.filter_cons]
    by_cases c : p.2 < e
    · rw [if_pos c, if_pos (decide_eq_true c), List.map_cons, ih]
    · rw [if_neg c, if_neg (by simp; omega)]
      exact ih
/-! _law_quiet_right: 0=samples 1=begin 2=end 3=length 4=whole 5=bound 6=spans 7=k 8=alone 9=first 10=later 11=loud 12=span 13=low 14=high -/
def m__law_quiet_right_b7 : SX := (sSeq (sAsg 9 (eCall wLen [(eFr (nLc (iSeq (eVar 6)) (.many [13, 14]) [13, 14] (tAndJ (tOf (eOp wLe (eVar 13) (eVar 7))) (tOf (eOp wLt (eVar 7) (eVar 14)))) (eC (.int 1))))]))
      (sSeq (sAsg 10 (eCall wLen [(eFr (nLc (iSeq (eVar 6)) (.many [13, 14]) [13, 14] (tAndJ (tOf (eOp wLe (eVar 13) (eOp wAdd (eVar 7) (eVar 3)))) (tOf (eOp wLt (eOp wAdd (eVar 7) (eVar 3)) (eVar 14)))) (eC (.int 1))))]))
      (sSeq (sAsg 11 (eOp wGt (eCall wMax2 [(eOp wIx (eVar 4) (eVar 7)), (eUn wNeg (eOp wIx (eVar 4) (eVar 7)))]) (eVar 5)))
      (sIf (tOrJ (tOf (eOp wNe (eVar 9) (eVar 10))) (tOf (eOp wNe (eVar 9) (eCall wInt [(eNot (eVar 11))])))) (sRet (eC (.bool false))) sSkip))))
def m__law_quiet_right_r7 : SX := (sSeq (sAsg 8 (eFr (nLc (iSeq (eCall S_quiet_spans [(eSl (eVar 0) pNo (pSo (eVar 2))), (eVar 5), (eC (.int 1))])) (.one 12) [12] (tOf (eOp wLt (eOp wIx (eVar 12) (eC (.int 1))) (eVar 2))) (eVar 12))))
      (sRet (eOp wEq (eFr (nLc (iSeq (eVar 6)) (.one 12) [12] (tOf (eOp wLt (eOp wIx (eVar 12) (eC (.int 1))) (eVar 2))) (eVar 12))) (eVar 8))))
def m__law_quiet_right_r5 : SX := (sSeq (sForR (iR2 (eVar 1) (eOp wAdd (eVar 1) (eOp wMul (eC (.int 3)) (eVar 3)))) (.one 7) m__law_quiet_right_b7)
      m__law_quiet_right_r7)
def m__law_quiet_right : SX := (sSeq (sAsg 3 (eOp wSub (eVar 2) (eVar 1)))
      (sSeq (sAsg 4 (eCall S_played [(eVar 0), (eVar 1), (eVar 2), (eOp wAdd (eVar 1) (eOp wMul (eC (.int 4)) (eVar 3)))]))
      (sSeq (sAsg 5 (eOp wDiv (eCall S_loudest [(eVar 0)]) (eC (.int 2))))
      (sSeq (sAsg 6 (eCall S_quiet_spans [(eVar 4), (eVar 5), (eC (.int 1))]))
      (sSeq (sIf (tNotJ (tOf (eUn (wIsi "tuple") (eVar 6)))) (sRet (eC (.bool false))) sSkip)
      m__law_quiet_right_r5)))))
def S__law_quiet_right : WL := fun ds Q => ∃ (ss : List Int) (b e : Nat), ds = [T ss, .int (b : Int), .int (e : Int)] ∧ b < e ∧ e ≤ ss.length ∧ ss.length ≤ 100 ∧ Q (.bool true)
theorem wp__law_quiet_right (ds : List D) (QD : D → Prop) (h : S__law_quiet_right ds QD) : m__law_quiet_right (startE 15 ds) ⟨fun _ => QD .none, QD, noB, noB, fun es => QD (.list es)⟩ := by
  obtain ⟨ss, b, e, rfl, hbe, he, hl, q⟩ := h
  unfold m__law_quiet_right
  try simp only [sSeq, sSkip, sAsg, sAsgP, sNew, sNewP, sRet, sRetO, sIf, sApp, sAppP, sSet, sAug, sTgt, sTgtP, sPar, sFz, frz, sFor, sForR, sRev, sBrk, sCnt, sDrop, eOp, eUn, eCall, eVar, eC, eFr, eTup, eTupR, eAnd, eOr, eNot, eIf, eChain, eIndex, eSl, nLst, nList, nListR, nLc, nLc2, nCall, nSorted, nRep, tOf, tAndJ, tOrJ, tNotJ, tTrue, iSeq, iR1, iR2, iR3, rg1, rg2, evA, pNo, pSo, startE, hide, rd, hide_v, hide_o, hide_n, rd_v, rd_o, rd_n, bind_one, bind_many, setAll, List.map, List.replicate, List.length, List.cons_append, List.nil_append, List.getElem?_cons_zero, List.getElem?_cons_succ, List.set_cons_zero, List.set_cons_succ, Option.bind_some, ex_some, Option.some.injEq, Slot.own.injEq, Slot.val.injEq, exists_eq_left', true_and, and_true, Bool.false_eq_true, if_false, if_true, reduceIte, wEq, wNe, wAdd_i, wAdd_t, wAdd_l, wAdd_s, wSub_i, wMul_i, wDiv_i, wMod_i, wPow_i, wNeg_i, wLt_i, wLe_i, wGt_i, wGe_i, wIs_n, wIs_b, wIsNot_n, wIsNot_b, wIx_l, wIx_t, wLen_l, wLen_t, wAbs_i, wInt_i, wInt_b, wMax2_i, wMin2_i, wTuple_l, wTuple_t, wB_b, wI_i, seqOf_l, seqOf_t, wIAdd_i, wIAdd_t, wIMul_i, wSl_l, wSl_t, wIn_l, wIn_t, wNotIn_l, wNotIn_t, items_l, items_t, lv_i, lv_b, lv_n, eqv_ii, eqv_bb, isNon_n, isNon_i, isNon_b, isNon_s, isNon_t, isNon_l, Bool.not_true, Bool.not_false, b2n_t, b2n_f, pl_i, pl_b, pl_n, decide_eq_true_eq, sExt, sExtP, wMulT_i, wMulT_t, wRevS_l, wRevS_t]
  refine ⟨mul_l (by decide), ss, b, e, b + 4 * (e - b), ?_, hbe, he, by omega, ?_⟩
  · rw [show (b : Int) + 4 * ((e : Int) - b) = ((b + 4 * (e - b) : Nat) : Int) by omega]
  try simp only [sSeq, sSkip, sAsg, sAsgP, sNew, sNewP, sRet, sRetO, sIf, sApp, sAppP, sSet, sAug, sTgt, sTgtP, sPar, sFz, frz, sFor, sForR, sRev, sBrk, sCnt, sDrop, eOp, eUn, eCall, eVar, eC, eFr, eTup, eTupR, eAnd, eOr, eNot, eIf, eChain, eIndex, eSl, nLst, nList, nListR, nLc, nLc2, nCall, nSorted, nRep, tOf, tAndJ, tOrJ, tNotJ, tTrue, iSeq, iR1, iR2, iR3, rg1, rg2, evA, pNo, pSo, startE, hide, rd, hide_v, hide_o, hide_n, rd_v, rd_o, rd_n, bind_one, bind_many, setAll, List.map, List.replicate, List.length, List.cons_append, List.nil_append, List.getElem?_cons_zero, List.getElem?_cons_succ, List.set_cons_zero, List.set_cons_succ, Option.bind_some, ex_some, Option.some.injEq, Slot.own.injEq, Slot.val.injEq, exists_eq_left', true_and, and_true, Bool.false_eq_true, if_false, if_true, reduceIte, wEq, wNe, wAdd_i, wAdd_t, wAdd_l, wAdd_s, wSub_i, wMul_i, wDiv_i, wMod_i, wPow_i, wNeg_i, wLt_i, wLe_i, wGt_i, wGe_i, wIs_n, wIs_b, wIsNot_n, wIsNot_b, wIx_l, wIx_t, wLen_l, wLen_t, wAbs_i, wInt_i, wInt_b, wMax2_i, wMin2_i, wTuple_l, wTuple_t, wB_b, wI_i, seqOf_l, seqOf_t, wIAdd_i, wIAdd_t, wIMul_i, wSl_l, wSl_t, wIn_l, wIn_t, wNotIn_l, wNotIn_t, items_l, items_t, lv_i, lv_b, lv_n, eqv_ii, eqv_bb, isNon_n, isNon_i, isNon_b, isNon_s, isNon_t, isNon_l, Bool.not_true, Bool.not_false, b2n_t, b2n_f, pl_i, pl_b, pl_n, decide_eq_true_eq, sExt, sExtP, wMulT_i, wMulT_t, wRevS_l, wRevS_t]
  refine ⟨ss, rfl, by omega, ?_⟩
  try simp only [sSeq, sSkip, sAsg, sAsgP, sNew, sNewP, sRet, sRetO, sIf, sApp, sAppP, sSet, sAug, sTgt, sTgtP, sPar, sFz, frz, sFor, sForR, sRev, sBrk, sCnt, sDrop, eOp, eUn, eCall, eVar, eC, eFr, eTup, eTupR, eAnd, eOr, eNot, eIf, eChain, eIndex, eSl, nLst, nList, nListR, nLc, nLc2, nCall, nSorted, nRep, tOf, tAndJ, tOrJ, tNotJ, tTrue, iSeq, iR1, iR2, iR3, rg1, rg2, evA, pNo, pSo, startE, hide, rd, hide_v, hide_o, hide_n, rd_v, rd_o, rd_n, bind_one, bind_many, setAll, List.map, List.replicate, List.length, List.cons_append, List.nil_append, List.getElem?_cons_zero, List.getElem?_cons_succ, List.set_cons_zero, List.set_cons_succ, Option.bind_some, ex_some, Option.some.injEq, Slot.own.injEq, Slot.val.injEq, exists_eq_left', true_and, and_true, Bool.false_eq_true, if_false, if_true, reduceIte, wEq, wNe, wAdd_i, wAdd_t, wAdd_l, wAdd_s, wSub_i, wMul_i, wDiv_i, wMod_i, wPow_i, wNeg_i, wLt_i, wLe_i, wGt_i, wGe_i, wIs_n, wIs_b, wIsNot_n, wIsNot_b, wIx_l, wIx_t, wLen_l, wLen_t, wAbs_i, wInt_i, wInt_b, wMax2_i, wMin2_i, wTuple_l, wTuple_t, wB_b, wI_i, seqOf_l, seqOf_t, wIAdd_i, wIAdd_t, wIMul_i, wSl_l, wSl_t, wIn_l, wIn_t, wNotIn_l, wNotIn_t, items_l, items_t, lv_i, lv_b, lv_n, eqv_ii, eqv_bb, isNon_n, isNon_i, isNon_b, isNon_s, isNon_t, isNon_l, Bool.not_true, Bool.not_false, b2n_t, b2n_f, pl_i, pl_b, pl_n, decide_eq_true_eq, sExt, sExtP, wMulT_i, wMulT_t, wRevS_l, wRevS_t]
  refine ⟨div_s (by decide), ?_⟩
  generalize hbd : loud ss / 2 = bound
  generalize hW : playedL ss b e (b + 4 * (e - b)) = W
  have hWl : W.length = b + 4 * (e - b) := by rw [← hW, played_len]
  have hWg : ∀ i, i < b + 4 * (e - b) → W.getD i 0 = atS ss b e i := fun i hi => by
    rw [← hW, List.getD_eq_getElem?_getD, played_get hi]
    rfl
  refine ⟨W, bound, 1, rfl, by omega, ?_⟩
  try simp only [sSeq, sSkip, sAsg, sAsgP, sNew, sNewP, sRet, sRetO, sIf, sApp, sAppP, sSet, sAug, sTgt, sTgtP, sPar, sFz, frz, sFor, sForR, sRev, sBrk, sCnt, sDrop, eOp, eUn, eCall, eVar, eC, eFr, eTup, eTupR, eAnd, eOr, eNot, eIf, eChain, eIndex, eSl, nLst, nList, nListR, nLc, nLc2, nCall, nSorted, nRep, tOf, tAndJ, tOrJ, tNotJ, tTrue, iSeq, iR1, iR2, iR3, rg1, rg2, evA, pNo, pSo, startE, hide, rd, hide_v, hide_o, hide_n, rd_v, rd_o, rd_n, bind_one, bind_many, setAll, List.map, List.replicate, List.length, List.cons_append, List.nil_append, List.getElem?_cons_zero, List.getElem?_cons_succ, List.set_cons_zero, List.set_cons_succ, Option.bind_some, ex_some, Option.some.injEq, Slot.own.injEq, Slot.val.injEq, exists_eq_left', true_and, and_true, Bool.false_eq_true, if_false, if_true, reduceIte, wEq, wNe, wAdd_i, wAdd_t, wAdd_l, wAdd_s, wSub_i, wMul_i, wDiv_i, wMod_i, wPow_i, wNeg_i, wLt_i, wLe_i, wGt_i, wGe_i, wIs_n, wIs_b, wIsNot_n, wIsNot_b, wIx_l, wIx_t, wLen_l, wLen_t, wAbs_i, wInt_i, wInt_b, wMax2_i, wMin2_i, wTuple_l, wTuple_t, wB_b, wI_i, seqOf_l, seqOf_t, wIAdd_i, wIAdd_t, wIMul_i, wSl_l, wSl_t, wIn_l, wIn_t, wNotIn_l, wNotIn_t, items_l, items_t, lv_i, lv_b, lv_n, eqv_ii, eqv_bb, isNon_n, isNon_i, isNon_b, isNon_s, isNon_t, isNon_l, Bool.not_true, Bool.not_false, b2n_t, b2n_f, pl_i, pl_b, pl_n, decide_eq_true_eq, sExt, sExtP, wMulT_i, wMulT_t, wRevS_l, wRevS_t, wIsi, isTy]
  rw [if_neg (by decide)]
  unfold m__law_quiet_right_r5
  try simp only [sSeq, sSkip, sAsg, sAsgP, sNew, sNewP, sRet, sRetO, sIf, sApp, sAppP, sSet, sAug, sTgt, sTgtP, sPar, sFz, frz, sFor, sForR, sRev, sBrk, sCnt, sDrop, eOp, eUn, eCall, eVar, eC, eFr, eTup, eTupR, eAnd, eOr, eNot, eIf, eChain, eIndex, eSl, nLst, nList, nListR, nLc, nLc2, nCall, nSorted, nRep, tOf, tAndJ, tOrJ, tNotJ, tTrue, iSeq, iR1, iR2, iR3, rg1, rg2, evA, pNo, pSo, startE, hide, rd, hide_v, hide_o, hide_n, rd_v, rd_o, rd_n, bind_one, bind_many, setAll, List.map, List.replicate, List.length, List.cons_append, List.nil_append, List.getElem?_cons_zero, List.getElem?_cons_succ, List.set_cons_zero, List.set_cons_succ, Option.bind_some, ex_some, Option.some.injEq, Slot.own.injEq, Slot.val.injEq, exists_eq_left', true_and, and_true, Bool.false_eq_true, if_false, if_true, reduceIte, wEq, wNe, wAdd_i, wAdd_t, wAdd_l, wAdd_s, wSub_i, wMul_i, wDiv_i, wMod_i, wPow_i, wNeg_i, wLt_i, wLe_i, wGt_i, wGe_i, wIs_n, wIs_b, wIsNot_n, wIsNot_b, wIx_l, wIx_t, wLen_l, wLen_t, wAbs_i, wInt_i, wInt_b, wMax2_i, wMin2_i, wTuple_l, wTuple_t, wB_b, wI_i, seqOf_l, seqOf_t, wIAdd_i, wIAdd_t, wIMul_i, wSl_l, wSl_t, wIn_l, wIn_t, wNotIn_l, wNotIn_t, items_l, items_t, lv_i, lv_b, lv_n, eqv_ii, eqv_bb, isNon_n, isNon_i, isNon_b, isNon_s, isNon_t, isNon_l, Bool.not_true, Bool.not_false, b2n_t, b2n_f, pl_i, pl_b, pl_n, decide_eq_true_eq, sExt, sExtP, wMulT_i, wMulT_t, wRevS_l, wRevS_t]
  refine ⟨mul_l (by decide), ⟨by omega, by omega, by omega, by omega, by omega⟩, ?_⟩
  rw [show (b : Int) + 3 * ((e : Int) - b) = ((b + 3 * (e - b) : Nat) : Int) by omega]
  refine forW_inv (fun i en => ∃ s7 s9 s10 s11, en = [.val (T ss), .val (.int (b : Int)), .val (.int (e : Int)), .val (.int ((e : Int) - b)), .val (T W), .val (.int bound), .val (.tuple ((spans W bound).map P2)), s7, .no, s9, s10, s11, .no, .no, .no]) ⟨_, _, _, _, rfl⟩ ?_ ?_
  · rintro i d en hi ⟨s7, s9, s10, s11, rfl⟩ R hR
    obtain ⟨rfl, hlt⟩ := rgD_get hi
    have hk : (b : Int) + (i : Int) = ((b + i : Nat) : Int) := by omega
    have hk2 : ((b + i : Nat) : Int) + ((e : Int) - b) = ((b + i + (e - b) : Nat) : Int) := by omega
    rw [hk]
    have hx1 : b + i < b + 3 * (e - b) := by omega
    refine ⟨_, rfl, ?_⟩
    unfold m__law_quiet_right_b7
    try simp only [sSeq, sSkip, sAsg, sAsgP, sNew, sNewP, sRet, sRetO, sIf, sApp, sAppP, sSet, sAug, sTgt, sTgtP, sPar, sFz, frz, sFor, sForR, sRev, sBrk, sCnt, sDrop, eOp, eUn, eCall, eVar, eC, eFr, eTup, eTupR, eAnd, eOr, eNot, eIf, eChain, eIndex, eSl, nLst, nList, nListR, nLc, nLc2, nCall, nSorted, nRep, tOf, tAndJ, tOrJ, tNotJ, tTrue, iSeq, iR1, iR2, iR3, rg1, rg2, evA, pNo, pSo, startE, hide, rd, hide_v, hide_o, hide_n, rd_v, rd_o, rd_n, bind_one, bind_many, setAll, List.map, List.replicate, List.length, List.cons_append, List.nil_append, List.getElem?_cons_zero, List.getElem?_cons_succ, List.set_cons_zero, List.set_cons_succ, Option.bind_some, ex_some, Option.some.injEq, Slot.own.injEq, Slot.val.injEq, exists_eq_left', true_and, and_true, Bool.false_eq_true, if_false, if_true, reduceIte, wEq, wNe, wAdd_i, wAdd_t, wAdd_l, wAdd_s, wSub_i, wMul_i, wDiv_i, wMod_i, wPow_i, wNeg_i, wLt_i, wLe_i, wGt_i, wGe_i, wIs_n, wIs_b, wIsNot_n, wIsNot_b, wIx_l, wIx_t, wLen_l, wLen_t, wAbs_i, wInt_i, wInt_b, wMax2_i, wMin2_i, wTuple_l, wTuple_t, wB_b, wI_i, seqOf_l, seqOf_t, wIAdd_i, wIAdd_t, wIMul_i, wSl_l, wSl_t, wIn_l, wIn_t, wNotIn_l, wNotIn_t, items_l, items_t, lv_i, lv_b, lv_n, eqv_ii, eqv_bb, isNon_n, isNon_i, isNon_b, isNon_s, isNon_t, isNon_l, Bool.not_true, Bool.not_false, b2n_t, b2n_f, pl_i, pl_b, pl_n, decide_eq_true_eq, sExt, sExtP, wMulT_i, wMulT_t, wRevS_l, wRevS_t, hk2]
    refine mapW_enc P2 (fun p => if p.1 ≤ ((b + i : Nat) : Int) ∧ ((b + i : Nat) : Int) < p.2 then some (PyData.int 1) else none) (fun p _ R hR => ?_) ?_
    · refine ⟨_, rfl, ?_⟩
      try simp only [sSeq, sSkip, sAsg, sAsgP, sNew, sNewP, sRet, sRetO, sIf, sApp, sAppP, sSet, sAug, sTgt, sTgtP, sPar, sFz, frz, sFor, sForR, sRev, sBrk, sCnt, sDrop, eOp, eUn, eCall, eVar, eC, eFr, eTup, eTupR, eAnd, eOr, eNot, eIf, eChain, eIndex, eSl, nLst, nList, nListR, nLc, nLc2, nCall, nSorted, nRep, tOf, tAndJ, tOrJ, tNotJ, tTrue, iSeq, iR1, iR2, iR3, rg1, rg2, evA, pNo, pSo, startE, hide, rd, hide_v, hide_o, hide_n, rd_v, rd_o, rd_n, bind_one, bind_many, setAll, List.map, List.replicate, List.length, List.cons_append, List.nil_append, List.getElem?_cons_zero, List.getElem?_cons_succ, List.set_cons_zero, List.set_cons_succ, Option.bind_some, ex_some, Option.some.injEq, Slot.own.injEq, Slot.val.injEq, exists_eq_left', true_and, and_true, Bool.false_eq_true, if_false, if_true, reduceIte, wEq, wNe, wAdd_i, wAdd_t, wAdd_l, wAdd_s, wSub_i, wMul_i, wDiv_i, wMod_i, wPow_i, wNeg_i, wLt_i, wLe_i, wGt_i, wGe_i, wIs_n, wIs_b, wIsNot_n, wIsNot_b, wIx_l, wIx_t, wLen_l, wLen_t, wAbs_i, wInt_i, wInt_b, wMax2_i, wMin2_i, wTuple_l, wTuple_t, wB_b, wI_i, seqOf_l, seqOf_t, wIAdd_i, wIAdd_t, wIMul_i, wSl_l, wSl_t, wIn_l, wIn_t, wNotIn_l, wNotIn_t, items_l, items_t, lv_i, lv_b, lv_n, eqv_ii, eqv_bb, isNon_n, isNon_i, isNon_b, isNon_s, isNon_t, isNon_l, Bool.not_true, Bool.not_false, b2n_t, b2n_f, pl_i, pl_b, pl_n, decide_eq_true_eq, sExt, sExtP, wMulT_i, wMulT_t, wRevS_l, wRevS_t, wipeE]
      by_cases c1 : p.1 ≤ ((b + i : Nat) : Int)
      · by_cases c2 : ((b + i : Nat) : Int) < p.2
        · rw [if_pos c1, if_pos c2]
          rw [if_pos ⟨c1, c2⟩] at hR
          exact hR
        · rw [if_pos c1, if_neg c2]
          rw [if_neg (fun z => c2 z.2)] at hR
          exact hR
      · rw [if_neg c1]
        rw [if_neg (fun z => c1 z.1)] at hR
        exact hR
    try simp only [sSeq, sSkip, sAsg, sAsgP, sNew, sNewP, sRet, sRetO, sIf, sApp, sAppP, sSet, sAug, sTgt, sTgtP, sPar, sFz, frz, sFor, sForR, sRev, sBrk, sCnt, sDrop, eOp, eUn, eCall, eVar, eC, eFr, eTup, eTupR, eAnd, eOr, eNot, eIf, eChain, eIndex, eSl, nLst, nList, nListR, nLc, nLc2, nCall, nSorted, nRep, tOf, tAndJ, tOrJ, tNotJ, tTrue, iSeq, iR1, iR2, iR3, rg1, rg2, evA, pNo, pSo, startE, hide, rd, hide_v, hide_o, hide_n, rd_v, rd_o, rd_n, bind_one, bind_many, setAll, List.map, List.replicate, List.length, List.cons_append, List.nil_append, List.getElem?_cons_zero, List.getElem?_cons_succ, List.set_cons_zero, List.set_cons_succ, Option.bind_some, ex_some, Option.some.injEq, Slot.own.injEq, Slot.val.injEq, exists_eq_left', true_and, and_true, Bool.false_eq_true, if_false, if_true, reduceIte, wEq, wNe, wAdd_i, wAdd_t, wAdd_l, wAdd_s, wSub_i, wMul_i, wDiv_i, wMod_i, wPow_i, wNeg_i, wLt_i, wLe_i, wGt_i, wGe_i, wIs_n, wIs_b, wIsNot_n, wIsNot_b, wIx_l, wIx_t, wLen_l, wLen_t, wAbs_i, wInt_i, wInt_b, wMax2_i, wMin2_i, wTuple_l, wTuple_t, wB_b, wI_i, seqOf_l, seqOf_t, wIAdd_i, wIAdd_t, wIMul_i, wSl_l, wSl_t, wIn_l, wIn_t, wNotIn_l, wNotIn_t, items_l, items_t, lv_i, lv_b, lv_n, eqv_ii, eqv_bb, isNon_n, isNon_i, isNon_b, isNon_s, isNon_t, isNon_l, Bool.not_true, Bool.not_false, b2n_t, b2n_f, pl_i, pl_b, pl_n, decide_eq_true_eq, sExt, sExtP, wMulT_i, wMulT_t, wRevS_l, wRevS_t, ones_len, cnt_at (ss := W) (bound := bound) (show b + i < W.length by omega), hk2]
    refine mapW_enc P2 (fun p => if p.1 ≤ ((b + i + (e - b) : Nat) : Int) ∧ ((b + i + (e - b) : Nat) : Int) < p.2 then some (PyData.int 1) else none) (fun p _ R hR => ?_) ?_
    · refine ⟨_, rfl, ?_⟩
      try simp only [sSeq, sSkip, sAsg, sAsgP, sNew, sNewP, sRet, sRetO, sIf, sApp, sAppP, sSet, sAug, sTgt, sTgtP, sPar, sFz, frz, sFor, sForR, sRev, sBrk, sCnt, sDrop, eOp, eUn, eCall, eVar, eC, eFr, eTup, eTupR, eAnd, eOr, eNot, eIf, eChain, eIndex, eSl, nLst, nList, nListR, nLc, nLc2, nCall, nSorted, nRep, tOf, tAndJ, tOrJ, tNotJ, tTrue, iSeq, iR1, iR2, iR3, rg1, rg2, evA, pNo, pSo, startE, hide, rd, hide_v, hide_o, hide_n, rd_v, rd_o, rd_n, bind_one, bind_many, setAll, List.map, List.replicate, List.length, List.cons_append, List.nil_append, List.getElem?_cons_zero, List.getElem?_cons_succ, List.set_cons_zero, List.set_cons_succ, Option.bind_some, ex_some, Option.some.injEq, Slot.own.injEq, Slot.val.injEq, exists_eq_left', true_and, and_true, Bool.false_eq_true, if_false, if_true, reduceIte, wEq, wNe, wAdd_i, wAdd_t, wAdd_l, wAdd_s, wSub_i, wMul_i, wDiv_i, wMod_i, wPow_i, wNeg_i, wLt_i, wLe_i, wGt_i, wGe_i, wIs_n, wIs_b, wIsNot_n, wIsNot_b, wIx_l, wIx_t, wLen_l, wLen_t, wAbs_i, wInt_i, wInt_b, wMax2_i, wMin2_i, wTuple_l, wTuple_t, wB_b, wI_i, seqOf_l, seqOf_t, wIAdd_i, wIAdd_t, wIMul_i, wSl_l, wSl_t, wIn_l, wIn_t, wNotIn_l, wNotIn_t, items_l, items_t, lv_i, lv_b, lv_n, eqv_ii, eqv_bb, isNon_n, isNon_i, isNon_b, isNon_s, isNon_t, isNon_l, Bool.not_true, Bool.not_false, b2n_t, b2n_f, pl_i, pl_b, pl_n, decide_eq_true_eq, sExt, sExtP, wMulT_i, wMulT_t, wRevS_l, wRevS_t, wipeE, hk2]
      by_cases c1 : p.1 ≤ ((b + i + (e - b) : Nat) : Int)
      · by_cases c2 : ((b + i + (e - b) : Nat) : Int) < p.2
        · rw [if_pos c1, if_pos c2]
          rw [if_pos ⟨c1, c2⟩] at hR
          exact hR
        · rw [if_pos c1, if_neg c2]
          rw [if_neg (fun z => c2 z.2)] at hR
          exact hR
      · rw [if_neg c1]
        rw [if_neg (fun z => c1 z.1)] at hR
        exact hR
    have hper : W.getD (b + i + (e - b)) 0 = W.getD (b + i) 0 := by
      rw [hWg _ (by omega), hWg _ (by omega), at_round hbe (by omega)]
    have ga := getD_at (ss := W) (i := b + i) (k := ((b + i : Nat) : Int)) rfl (by omega)
    try simp only [sSeq, sSkip, sAsg, sAsgP, sNew, sNewP, sRet, sRetO, sIf, sApp, sAppP, sSet, sAug, sTgt, sTgtP, sPar, sFz, frz, sFor, sForR, sRev, sBrk, sCnt, sDrop, eOp, eUn, eCall, eVar, eC, eFr, eTup, eTupR, eAnd, eOr, eNot, eIf, eChain, eIndex, eSl, nLst, nList, nListR, nLc, nLc2, nCall, nSorted, nRep, tOf, tAndJ, tOrJ, tNotJ, tTrue, iSeq, iR1, iR2, iR3, rg1, rg2, evA, pNo, pSo, startE, hide, rd, hide_v, hide_o, hide_n, rd_v, rd_o, rd_n, bind_one, bind_many, setAll, List.map, List.replicate, List.length, List.cons_append, List.nil_append, List.getElem?_cons_zero, List.getElem?_cons_succ, List.set_cons_zero, List.set_cons_succ, Option.bind_some, ex_some, Option.some.injEq, Slot.own.injEq, Slot.val.injEq, exists_eq_left', true_and, and_true, Bool.false_eq_true, if_false, if_true, reduceIte, wEq, wNe, wAdd_i, wAdd_t, wAdd_l, wAdd_s, wSub_i, wMul_i, wDiv_i, wMod_i, wPow_i, wNeg_i, wLt_i, wLe_i, wGt_i, wGe_i, wIs_n, wIs_b, wIsNot_n, wIsNot_b, wIx_l, wIx_t, wLen_l, wLen_t, wAbs_i, wInt_i, wInt_b, wMax2_i, wMin2_i, wTuple_l, wTuple_t, wB_b, wI_i, seqOf_l, seqOf_t, wIAdd_i, wIAdd_t, wIMul_i, wSl_l, wSl_t, wIn_l, wIn_t, wNotIn_l, wNotIn_t, items_l, items_t, lv_i, lv_b, lv_n, eqv_ii, eqv_bb, isNon_n, isNon_i, isNon_b, isNon_s, isNon_t, isNon_l, Bool.not_true, Bool.not_false, b2n_t, b2n_f, pl_i, pl_b, pl_n, decide_eq_true_eq, sExt, sExtP, wMulT_i, wMulT_t, wRevS_l, wRevS_t, ones_len, cnt_at (ss := W) (bound := bound) (show b + i + (e - b) < W.length by omega), hper, ga]
    have e7 : max (W.getD (b + i) 0) (-W.getD (b + i) 0) = ((W.getD (b + i) 0).natAbs : Int) := by omega
    rw [e7]
    rw [if_neg (by simp)]
    by_cases c : bound < ((W.getD (b + i) 0).natAbs : Int)
    · rw [if_pos c, decide_eq_true c]
      try simp only [sSeq, sSkip, sAsg, sAsgP, sNew, sNewP, sRet, sRetO, sIf, sApp, sAppP, sSet, sAug, sTgt, sTgtP, sPar, sFz, frz, sFor, sForR, sRev, sBrk, sCnt, sDrop, eOp, eUn, eCall, eVar, eC, eFr, eTup, eTupR, eAnd, eOr, eNot, eIf, eChain, eIndex, eSl, nLst, nList, nListR, nLc, nLc2, nCall, nSorted, nRep, tOf, tAndJ, tOrJ, tNotJ, tTrue, iSeq, iR1, iR2, iR3, rg1, rg2, evA, pNo, pSo, startE, hide, rd, hide_v, hide_o, hide_n, rd_v, rd_o, rd_n, bind_one, bind_many, setAll, List.map, List.replicate, List.length, List.cons_append, List.nil_append, List.getElem?_cons_zero, List.getElem?_cons_succ, List.set_cons_zero, List.set_cons_succ, Option.bind_some, ex_some, Option.some.injEq, Slot.own.injEq, Slot.val.injEq, exists_eq_left', true_and, and_true, Bool.false_eq_true, if_false, if_true, reduceIte, wEq, wNe, wAdd_i, wAdd_t, wAdd_l, wAdd_s, wSub_i, wMul_i, wDiv_i, wMod_i, wPow_i, wNeg_i, wLt_i, wLe_i, wGt_i, wGe_i, wIs_n, wIs_b, wIsNot_n, wIsNot_b, wIx_l, wIx_t, wLen_l, wLen_t, wAbs_i, wInt_i, wInt_b, wMax2_i, wMin2_i, wTuple_l, wTuple_t, wB_b, wI_i, seqOf_l, seqOf_t, wIAdd_i, wIAdd_t, wIMul_i, wSl_l, wSl_t, wIn_l, wIn_t, wNotIn_l, wNotIn_t, items_l, items_t, lv_i, lv_b, lv_n, eqv_ii, eqv_bb, isNon_n, isNon_i, isNon_b, isNon_s, isNon_t, isNon_l, Bool.not_true, Bool.not_false, b2n_t, b2n_f, pl_i, pl_b, pl_n, decide_eq_true_eq, sExt, sExtP, wMulT_i, wMulT_t, wRevS_l, wRevS_t]
      rw [if_neg (by decide)]
      exact hR _ ⟨_, _, _, _, rfl⟩
    · rw [if_neg c, decide_eq_false c]
      try simp only [sSeq, sSkip, sAsg, sAsgP, sNew, sNewP, sRet, sRetO, sIf, sApp, sAppP, sSet, sAug, sTgt, sTgtP, sPar, sFz, frz, sFor, sForR, sRev, sBrk, sCnt, sDrop, eOp, eUn, eCall, eVar, eC, eFr, eTup, eTupR, eAnd, eOr, eNot, eIf, eChain, eIndex, eSl, nLst, nList, nListR, nLc, nLc2, nCall, nSorted, nRep, tOf, tAndJ, tOrJ, tNotJ, tTrue, iSeq, iR1, iR2, iR3, rg1, rg2, evA, pNo, pSo, startE, hide, rd, hide_v, hide_o, hide_n, rd_v, rd_o, rd_n, bind_one, bind_many, setAll, List.map, List.replicate, List.length, List.cons_append, List.nil_append, List.getElem?_cons_zero, List.getElem?_cons_succ, List.set_cons_zero, List.set_cons_succ, Option.bind_some, ex_some, Option.some.injEq, Slot.own.injEq, Slot.val.injEq, exists_eq_left', true_and, and_true, Bool.false_eq_true, if_false, if_true, reduceIte, wEq, wNe, wAdd_i, wAdd_t, wAdd_l, wAdd_s, wSub_i, wMul_i, wDiv_i, wMod_i, wPow_i, wNeg_i, wLt_i, wLe_i, wGt_i, wGe_i, wIs_n, wIs_b, wIsNot_n, wIsNot_b, wIx_l, wIx_t, wLen_l, wLen_t, wAbs_i, wInt_i, wInt_b, wMax2_i, wMin2_i, wTuple_l, wTuple_t, wB_b, wI_i, seqOf_l, seqOf_t, wIAdd_i, wIAdd_t, wIMul_i, wSl_l, wSl_t, wIn_l, wIn_t, wNotIn_l, wNotIn_t, items_l, items_t, lv_i, lv_b, lv_n, eqv_ii, eqv_bb, isNon_n, isNon_i, isNon_b, isNon_s, isNon_t, isNon_l, Bool.not_true, Bool.not_false, b2n_t, b2n_f, pl_i, pl_b, pl_n, decide_eq_true_eq, sExt, sExtP, wMulT_i, wMulT_t, wRevS_l, wRevS_t]
      rw [if_neg (by decide)]
      exact hR _ ⟨_, _, _, _, rfl⟩
  · rintro en ⟨s7, s9, s10, s11, rfl⟩
    unfold m__law_quiet_right_r7
    have e2 : J.cutD (ss.map PyData.int) none (some (e : Int)) = (ss.take e).map PyData.int := by rw [cut_to rfl (by rw [List.length_map]; omega), List.map_take]
    try simp only [sSeq, sSkip, sAsg, sAsgP, sNew, sNewP, sRet, sRetO, sIf, sApp, sAppP, sSet, sAug, sTgt, sTgtP, sPar, sFz, frz, sFor, sForR, sRev, sBrk, sCnt, sDrop, eOp, eUn, eCall, eVar, eC, eFr, eTup, eTupR, eAnd, eOr, eNot, eIf, eChain, eIndex, eSl, nLst, nList, nListR, nLc, nLc2, nCall, nSorted, nRep, tOf, tAndJ, tOrJ, tNotJ, tTrue, iSeq, iR1, iR2, iR3, rg1, rg2, evA, pNo, pSo, startE, hide, rd, hide_v, hide_o, hide_n, rd_v, rd_o, rd_n, bind_one, bind_many, setAll, List.map, List.replicate, List.length, List.cons_append, List.nil_append, List.getElem?_cons_zero, List.getElem?_cons_succ, List.set_cons_zero, List.set_cons_succ, Option.bind_some, ex_some, Option.some.injEq, Slot.own.injEq, Slot.val.injEq, exists_eq_left', true_and, and_true, Bool.false_eq_true, if_false, if_true, reduceIte, wEq, wNe, wAdd_i, wAdd_t, wAdd_l, wAdd_s, wSub_i, wMul_i, wDiv_i, wMod_i, wPow_i, wNeg_i, wLt_i, wLe_i, wGt_i, wGe_i, wIs_n, wIs_b, wIsNot_n, wIsNot_b, wIx_l, wIx_t, wLen_l, wLen_t, wAbs_i, wInt_i, wInt_b, wMax2_i, wMin2_i, wTuple_l, wTuple_t, wB_b, wI_i, seqOf_l, seqOf_t, wIAdd_i, wIAdd_t, wIMul_i, wSl_l, wSl_t, wIn_l, wIn_t, wNotIn_l, wNotIn_t, items_l, items_t, lv_i, lv_b, lv_n, eqv_ii, eqv_bb, isNon_n, isNon_i, isNon_b, isNon_s, isNon_t, isNon_l, Bool.not_true, Bool.not_false, b2n_t, b2n_f, pl_i, pl_b, pl_n, decide_eq_true_eq, sExt, sExtP, wMulT_i, wMulT_t, wRevS_l, wRevS_t, e2]
    refine ⟨ss.take e, bound, 1, rfl, by rw [List.length_take]; omega, ?_⟩
    try simp only [sSeq, sSkip, sAsg, sAsgP, sNew, sNewP, sRet, sRetO, sIf, sApp, sAppP, sSet, sAug, sTgt, sTgtP, sPar, sFz, frz, sFor, sForR, sRev, sBrk, sCnt, sDrop, eOp, eUn, eCall, eVar, eC, eFr, eTup, eTupR, eAnd, eOr, eNot, eIf, eChain, eIndex, eSl, nLst, nList, nListR, nLc, nLc2, nCall, nSorted, nRep, tOf, tAndJ, tOrJ, tNotJ, tTrue, iSeq, iR1, iR2, iR3, rg1, rg2, evA, pNo, pSo, startE, hide, rd, hide_v, hide_o, hide_n, rd_v, rd_o, rd_n, bind_one, bind_many, setAll, List.map, List.replicate, List.length, List.cons_append, List.nil_append, List.getElem?_cons_zero, List.getElem?_cons_succ, List.set_cons_zero, List.set_cons_succ, Option.bind_some, ex_some, Option.some.injEq, Slot.own.injEq, Slot.val.injEq, exists_eq_left', true_and, and_true, Bool.false_eq_true, if_false, if_true, reduceIte, wEq, wNe, wAdd_i, wAdd_t, wAdd_l, wAdd_s, wSub_i, wMul_i, wDiv_i, wMod_i, wPow_i, wNeg_i, wLt_i, wLe_i, wGt_i, wGe_i, wIs_n, wIs_b, wIsNot_n, wIsNot_b, wIx_l, wIx_t, wLen_l, wLen_t, wAbs_i, wInt_i, wInt_b, wMax2_i, wMin2_i, wTuple_l, wTuple_t, wB_b, wI_i, seqOf_l, seqOf_t, wIAdd_i, wIAdd_t, wIMul_i, wSl_l, wSl_t, wIn_l, wIn_t, wNotIn_l, wNotIn_t, items_l, items_t, lv_i, lv_b, lv_n, eqv_ii, eqv_bb, isNon_n, isNon_i, isNon_b, isNon_s, isNon_t, isNon_l, Bool.not_true, Bool.not_false, b2n_t, b2n_f, pl_i, pl_b, pl_n, decide_eq_true_eq, sExt, sExtP, wMulT_i, wMulT_t, wRevS_l, wRevS_t]
    refine mapW_enc P2 (fun p => if p.2 < (e : Int) then some (P2 p) else none) (fun p _ R hR => ?_) ?_
    · refine ⟨_, rfl, ?_⟩
      try simp only [sSeq, sSkip, sAsg, sAsgP, sNew, sNewP, sRet, sRetO, sIf, sApp, sAppP, sSet, sAug, sTgt, sTgtP, sPar, sFz, frz, sFor, sForR, sRev, sBrk, sCnt, sDrop, eOp, eUn, eCall, eVar, eC, eFr, eTup, eTupR, eAnd, eOr, eNot, eIf, eChain, eIndex, eSl, nLst, nList, nListR, nLc, nLc2, nCall, nSorted, nRep, tOf, tAndJ, tOrJ, tNotJ, tTrue, iSeq, iR1, iR2, iR3, rg1, rg2, evA, pNo, pSo, startE, hide, rd, hide_v, hide_o, hide_n, rd_v, rd_o, rd_n, bind_one, bind_many, setAll, List.map, List.replicate, List.length, List.cons_append, List.nil_append, List.getElem?_cons_zero, List.getElem?_cons_succ, List.set_cons_zero, List.set_cons_succ, Option.bind_some, ex_some, Option.some.injEq, Slot.own.injEq, Slot.val.injEq, exists_eq_left', true_and, and_true, Bool.false_eq_true, if_false, if_true, reduceIte, wEq, wNe, wAdd_i, wAdd_t, wAdd_l, wAdd_s, wSub_i, wMul_i, wDiv_i, wMod_i, wPow_i, wNeg_i, wLt_i, wLe_i, wGt_i, wGe_i, wIs_n, wIs_b, wIsNot_n, wIsNot_b, wIx_l, wIx_t, wLen_l, wLen_t, wAbs_i, wInt_i, wInt_b, wMax2_i, wMin2_i, wTuple_l, wTuple_t, wB_b, wI_i, seqOf_l, seqOf_t, wIAdd_i, wIAdd_t, wIMul_i, wSl_l, wSl_t, wIn_l, wIn_t, wNotIn_l, wNotIn_t, items_l, items_t, lv_i, lv_b, lv_n, eqv_ii, eqv_bb, isNon_n, isNon_i, isNon_b, isNon_s, isNon_t, isNon_l, Bool.not_true, Bool.not_false, b2n_t, b2n_f, pl_i, pl_b, pl_n, decide_eq_true_eq, sExt, sExtP, wMulT_i, wMulT_t, wRevS_l, wRevS_t, wipeE, at1]
      split
      · rename_i c; rw [if_pos c] at hR; exact hR
      · rename_i c; rw [if_neg c] at hR; exact hR
    rw [keep_filter]
    refine mapW_enc P2 (fun p => if p.2 < (e : Int) then some (P2 p) else none) (fun p _ R hR => ?_) ?_
    · refine ⟨_, rfl, ?_⟩
      try simp only [sSeq, sSkip, sAsg, sAsgP, sNew, sNewP, sRet, sRetO, sIf, sApp, sAppP, sSet, sAug, sTgt, sTgtP, sPar, sFz, frz, sFor, sForR, sRev, sBrk, sCnt, sDrop, eOp, eUn, eCall, eVar, eC, eFr, eTup, eTupR, eAnd, eOr, eNot, eIf, eChain, eIndex, eSl, nLst, nList, nListR, nLc, nLc2, nCall, nSorted, nRep, tOf, tAndJ, tOrJ, tNotJ, tTrue, iSeq, iR1, iR2, iR3, rg1, rg2, evA, pNo, pSo, startE, hide, rd, hide_v, hide_o, hide_n, rd_v, rd_o, rd_n, bind_one, bind_many, setAll, List.map, List.replicate, List.length, List.cons_append, List.nil_append, List.getElem?_cons_zero, List.getElem?_cons_succ, List.set_cons_zero, List.set_cons_succ, Option.bind_some, ex_some, Option.some.injEq, Slot.own.injEq, Slot.val.injEq, exists_eq_left', true_and, and_true, Bool.false_eq_true, if_false, if_true, reduceIte, wEq, wNe, wAdd_i, wAdd_t, wAdd_l, wAdd_s, wSub_i, wMul_i, wDiv_i, wMod_i, wPow_i, wNeg_i, wLt_i, wLe_i, wGt_i, wGe_i, wIs_n, wIs_b, wIsNot_n, wIsNot_b, wIx_l, wIx_t, wLen_l, wLen_t, wAbs_i, wInt_i, wInt_b, wMax2_i, wMin2_i, wTuple_l, wTuple_t, wB_b, wI_i, seqOf_l, seqOf_t, wIAdd_i, wIAdd_t, wIMul_i, wSl_l, wSl_t, wIn_l, wIn_t, wNotIn_l, wNotIn_t, items_l, items_t, lv_i, lv_b, lv_n, eqv_ii, eqv_bb, isNon_n, isNon_i, isNon_b, isNon_s, isNon_t, isNon_l, Bool.not_true, Bool.not_false, b2n_t, b2n_f, pl_i, pl_b, pl_n, decide_eq_true_eq, sExt, sExtP, wMulT_i, wMulT_t, wRevS_l, wRevS_t, wipeE, at1]
      split
      · rename_i c; rw [if_pos c] at hR; exact hR
      · rename_i c; rw [if_neg c] at hR; exact hR
    rw [keep_filter]
    have hsame : (spans W bound).filter (fun p => decide (p.2 < (e : Int))) = (spans (ss.take e) bound).filter (fun p => decide (p.2 < (e : Int))) := by
      have hWe : W = ss.take e ++ W.drop e := by
        have h1 : W.take e = ss.take e := by
          rw [← hW, played_take (by omega), played_e (Nat.le_refl _) he]
        rw [← h1, List.take_append_drop]
      have f1 : flags W bound = flags (ss.take e) bound ++ flags (W.drop e) bound := by
        conv => lhs; rw [hWe]
        unfold flags
        rw [List.map_append]
      unfold spans spansN
      rw [f1]
      have f2 : flags (ss.take e) bound = flags (ss.take e) bound ++ [] := (List.append_nil _).symm
      conv => rhs; rw [f2]
      exact spans_cut e _ _ _ 0 0 (by unfold flags; rw [List.length_map, List.length_take]; omega)
    rw [hsame]
    refine ⟨lv_P2 _, lv_P2 _, ?_⟩
    rw [eqv_P2]
    exact q
/-! ## levels -/
theorem tp_T {ss : List Int} (h : ss.length ≤ 16000000) : tp 8 (T ss) = true := by
  show (decide ((ss.map PyData.int).length ≤ 16000000) && (ss.map PyData.int).all (tp 7)) = true
  rw [List.length_map, decide_eq_true h, Bool.true_and, List.all_map]
  exact List.all_eq_true.mpr fun _ _ => rfl
theorem tp_P2 (p : Int × Int) : tp 8 (P2 p) = true := rfl
theorem tp_i {n : Nat} {i : Int} : tp n (.int i) = true := by cases n <;> rfl
theorem getD_map {ss : List Int} (f : Int → Int) {i : Nat} (h : i < ss.length) : (ss.map f).getD i 0 = f (ss.getD i 0) := by
  rw [List.getD_eq_getElem?_getD, List.getD_eq_getElem?_getD, List.getElem?_map, List.getElem?_eq_getElem h]
  rfl
theorem played_map {ss : List Int} {b e m : Nat} (hbe : b < e) (he : e ≤ ss.length) (f : Int → Int) : playedL (ss.map f) b e m = (playedL ss b e m).map f := by
  unfold playedL
  rw [List.map_map]
  refine List.map_congr_left fun i _ => ?_
  exact getD_map f (at_ix hbe he)
theorem played_zip {as bs : List Int} {b e m : Nat} (hbe : b < e) (ha : e ≤ as.length) (hb : e ≤ bs.length) (g : Int → Int → Int) : playedL (List.zipWith g as bs) b e m = List.zipWith g (playedL as b e m) (playedL bs b e m) := by
  refine List.ext_getElem? fun i => ?_
  rw [List.getElem?_zipWith]
  by_cases c : i < m
  · rw [played_get c, played_get c, played_get c]
    have h1 := at_ix (ss := as) (i := i) hbe ha
    have h2 := at_ix (ss := bs) (i := i) hbe hb
    unfold atS
    generalize (if i < e then i else b + (i - b) % (e - b)) = j at h1 h2
    rw [List.getD_eq_getElem?_getD, List.getD_eq_getElem?_getD, List.getD_eq_getElem?_getD, List.getElem?_zipWith, List.getElem?_eq_getElem h1, List.getElem?_eq_getElem h2]
    rfl
  · rw [List.getElem?_eq_none (by rw [played_len]; omega), List.getElem?_eq_none (l := playedL as b e m) (by rw [played_len]; omega)]
theorem played_mem {ss : List Int} {b e m : Nat} (hbe : b < e) (he : e ≤ ss.length) : ∀ s ∈ playedL ss b e m, s ∈ ss := fun s h => by
  unfold playedL at h
  obtain ⟨i, _, rfl⟩ := List.mem_map.mp h
  exact at_mem i hbe he
theorem loud_le {A B : List Int} (h : ∀ s ∈ A, s ∈ B) : loud A ≤ loud B := by
  obtain ⟨h1, _, _⟩ := foldl_max (A.map fun s => ((s.natAbs : Nat) : Int)) 0
  obtain ⟨_, h2, h3⟩ := foldl_max (B.map fun s => ((s.natAbs : Nat) : Int)) 0
  unfold loud
  rcases h1 with e | e
  · rw [e]; exact h2
  · obtain ⟨s, hs, e2⟩ := List.mem_map.mp e
    rw [← e2]
    exact h3 _ (List.mem_map.mpr ⟨s, h s hs, rfl⟩)
/-- as far as it is played -/
theorem loud_reached {ss : List Int} {b e m : Nat} (hbe : b < e) (he : e ≤ ss.length) : loud (ss.take (min m e)) = loud (playedL ss b e m) := by
  refine Int.le_antisymm (loud_le fun s hs => ?_) (loud_le fun s hs => ?_)
  · obtain ⟨i, hi⟩ := List.mem_iff_getElem?.mp hs
    rw [List.getElem?_take] at hi
    split at hi
    · rename_i c
      have : (playedL ss b e m)[i]? = some s := by
        rw [played_get (by omega), at_lt (by omega), List.getD_eq_getElem?_getD, hi]
        rfl
      exact List.mem_of_getElem? this
    · cases hi
  · unfold playedL at hs
    obtain ⟨i, hi, rfl⟩ := List.mem_map.mp hs
    have him := List.mem_range.mp hi
    have key : ∀ j, j < min m e → ss.getD j 0 ∈ ss.take (min m e) := fun j hj => by
      have : (ss.take (min m e))[j]? = some (ss.getD j 0) := by
        rw [List.getElem?_take_of_lt hj, List.getD_eq_getElem?_getD, List.getElem?_eq_getElem (by omega)]
        rfl
      exact List.mem_of_getElem? this
    by_cases c : i < e
    · rw [at_lt c]
      exact key i (by omega)
    · rw [at_ge (by omega)]
      have := Nat.mod_lt (i - b) (show 0 < e - b by omega)
      exact key _ (by omega)
theorem fracP_scale {r n d : Int} (hr : 0 < r) (hd : 0 < d) : fracP (r * n) (r * d) = fracP n d := by
  have hrd : 0 < r * d := Int.mul_pos hr hd
  unfold fracP
  rw [if_neg (by omega), if_neg (by omega), Int.one_mul, Int.one_mul, Int.one_mul, Int.one_mul]
  have hg : ((Int.gcd (r * n) (r * d) : Nat) : Int) = r * ((Int.gcd n d : Nat) : Int) := by
    rw [Int.gcd_mul_left, Int.natCast_mul]
    rw [Int.natAbs_of_nonneg (by omega)]
  rw [hg, Int.mul_ediv_mul_of_pos _ _ hr, Int.mul_ediv_mul_of_pos _ _ hr]
theorem long_sum {ss : List Int} {b e : Nat} (hbe : b < e) (he : e ≤ ss.length) (f : Int → Int) : ∀ r : Nat, (((playedL ss b e (b + r * (e - b))).drop b).map f).sum = (r : Int) * ((((ss.drop b).take (e - b)).map f).sum)
  | 0 => by
    rw [Nat.zero_mul, List.drop_of_length_le (by rw [played_len]; omega)]
    simp
  | 1 => by
    rw [Nat.one_mul, show b + (e - b) = e by omega, played_e (Nat.le_refl _) he, List.drop_take]
    simp
  | r + 2 => by
    have ih := long_sum hbe he f (r + 1)
    have hm : b + (r + 1) * (e - b) = e + r * (e - b) := by rw [Nat.succ_mul]; omega
    have hmm : b + (r + 2) * (e - b) = b + (r + 1) * (e - b) + (e - b) := by rw [Nat.succ_mul (r + 1)]; omega
    rw [hmm, ← played_more hbe he r hm, List.drop_append_of_le_length (by rw [played_len]; omega), List.map_append, List.sum_append, ih]
    rw [show ((r + 2 : Nat) : Int) = ((r + 1 : Nat) : Int) + 1 by omega, Int.add_mul, Int.one_mul]
theorem mean_long {ss : List Int} {b e r : Nat} (hbe : b < e) (he : e ≤ ss.length) (hr : 0 < r) : meanS ((playedL ss b e (b + r * (e - b))).drop b) = meanS ((ss.drop b).take (e - b)) := by
  unfold meanS
  rw [long_sum hbe he, List.length_drop, played_len, List.length_take, List.length_drop]
  have h1 : ((b + r * (e - b) - b : Nat) : Int) = (r : Int) * ((min (e - b) (ss.length - b) : Nat) : Int) := by
    rw [Nat.min_eq_left (by omega), ← Int.natCast_mul]
    congr 1
    omega
  rw [h1]
  exact fracP_scale (by omega) (by rw [Nat.min_eq_left (by omega)]; omega)
theorem fade_take {ss : List Int} {f l : Nat} (hf : f ≤ l) (hl : l ≤ ss.length) : (fadeL ss f l).take f = ss.take f := by
  unfold fadeL
  rw [List.append_assoc, List.take_append_of_le_length (by rw [List.length_take]; omega), List.take_take, Nat.min_self]
theorem fade_len {ss : List Int} {f l : Nat} (hf : f ≤ l) (hl : l ≤ ss.length) : (fadeL ss f l).length = ss.length := by
  unfold fadeL
  rw [List.length_append, List.length_append, List.length_take, List.length_map, List.length_range, List.length_replicate]
  omega
theorem ratio_pt {n d : Int} (h0 : 0 < d) (h1 : d < 1000) (h2 : n.natAbs < 1000) : Pt (fracP n d) := by
  obtain ⟨a, b, c⟩ := fracP_bound (n := n) (show d ≠ 0 by omega)
  have : (2 : Nat) ^ 20 = 1048576 := by decide
  exact ⟨b, by omega, by omega⟩
/-! _law_levels_right: 0=draws 1=samples 2=begin 3=end 4=many 5=told 6=top 7=reached 8=own 9=other 10=parts 11=both 12=rounds 13=long 14=fade 15=sample -/
def m__law_levels_right_r21 : SX := (sSeq (sAsg 14 (eCall S__law_take [(eVar 0), (eOp wAdd (eVar 4) (eC (.int 1)))]))
      (sRet (eAnd (eCall S__law_same [(eSl (eCall S_faded [(eVar 5), (eVar 14), (eVar 4)]) pNo (pSo (eVar 14))), (eCall S_played [(eVar 1), (eVar 2), (eVar 3), (eVar 14)])]) (eCall S__law_quiet_right [(eVar 1), (eVar 2), (eVar 3)]))))
def m__law_levels_right_r17 : SX := (sSeq (sAsg 12 (eOp wAdd (eC (.int 1)) (eCall S__law_take [(eVar 0), (eC (.int 4))])))
      (sSeq (sAsg 13 (eCall S_played [(eVar 1), (eVar 2), (eVar 3), (eOp wAdd (eVar 2) (eOp wMul (eVar 12) (eOp wSub (eVar 3) (eVar 2))))]))
      (sSeq (sIf (tOrJ (tNotJ (tOf (eUn (wIsi "tuple") (eVar 13)))) (tNotJ (tOf (eCall S__law_same [(eCall S_mean_square [(eSl (eVar 13) (pSo (eVar 2)) pNo)]), (eCall S_mean_square [(eSl (eVar 1) (pSo (eVar 2)) (pSo (eVar 3)))])])))) (sRet (eC (.bool false))) sSkip)
      m__law_levels_right_r21)))
def m__law_levels_right_r12 : SX := (sSeq (sAsg 9 (eUn wTuple (eFr (nLc (iSeq (eVar 1)) (.one 15) [15] tTrue (eOp wSub (eCall S__law_take [(eVar 0), (eC (.int 19))]) (eC (.int 9)))))))
      (sSeq (sAsg 10 (eTup [(eCall S__law_ratio [(eOp wSub (eCall S__law_take [(eVar 0), (eC (.int 9))]) (eC (.int 4))), (eOp wAdd (eC (.int 1)) (eCall S__law_take [(eVar 0), (eC (.int 5))]))]), (eCall S__law_ratio [(eOp wSub (eCall S__law_take [(eVar 0), (eC (.int 9))]) (eC (.int 4))), (eOp wAdd (eC (.int 1)) (eCall S__law_take [(eVar 0), (eC (.int 5))]))])]))
      (sSeq (sAsg 11 (eCall S_mixed [(eTup [(eVar 1), (eVar 9)]), (eVar 10)]))
      (sSeq (sIf (tOrJ (tNotJ (tOf (eUn (wIsi "tuple") (eVar 11)))) (tNotJ (tOf (eCall S__law_same [(eCall S_played [(eVar 11), (eVar 2), (eVar 3), (eVar 4)]), (eCall S_mixed [(eTup [(eVar 5), (eCall S_played [(eVar 9), (eVar 2), (eVar 3), (eVar 4)])]), (eVar 10)])])))) (sRet (eC (.bool false))) sSkip)
      m__law_levels_right_r17))))
def m__law_levels_right_r10 : SX := (sSeq (sIf (tAndJ (tOf (eOp wEq (eCall S_loudest [(eVar 7)]) (eCall S_loudest [(eVar 1)]))) (tNotJ (tOf (eCall S__law_same [(eCall S_played [(eCall S_raised_to [(eVar 1), (eVar 6)]), (eVar 2), (eVar 3), (eVar 4)]), (eCall S_raised_to [(eVar 5), (eVar 6)])])))) (sRet (eC (.bool false))) sSkip)
      m__law_levels_right_r12)
def m__law_levels_right_r6 : SX := (sSeq (sAsg 7 (eSl (eVar 1) pNo (pSo (eCall wMin2 [(eVar 4), (eVar 3)]))))
      (sSeq (sAsg 8 (eCall wMax1 [(eOp wAdd (eFr (nLst [(eC (.int 0))])) (eFr (nLc (iSeq (eVar 5)) (.one 15) [15] tTrue (eCall wMax2 [(eVar 15), (eUn wNeg (eVar 15))]))))]))
      (sSeq (sIf (tOrJ (tNotJ (tOf (eCall S__law_same [(eCall S_loudest [(eVar 5)]), (eVar 8)]))) (tNotJ (tOf (eCall S__law_same [(eCall S_loudest [(eVar 7)]), (eVar 8)])))) (sRet (eC (.bool false))) sSkip)
      m__law_levels_right_r10)))
def m__law_levels_right_r3 : SX := (sSeq (sAsg 6 (eCall S__law_take [(eVar 0), (eC (.int 30))]))
      (sSeq (sIf (tNotJ (tOf (eCall S__law_same [(eCall S_played [(eCall S_cut_at [(eVar 1), (eVar 6)]), (eVar 2), (eVar 3), (eVar 4)]), (eCall S_cut_at [(eVar 5), (eVar 6)])]))) (sRet (eC (.bool false))) sSkip)
      m__law_levels_right_r6))
def m__law_levels_right : SX := (sSeq (sAsg 4 (eCall S__law_take [(eVar 0), (eC (.int 61))]))
      (sSeq (sAsg 5 (eCall S_played [(eVar 1), (eVar 2), (eVar 3), (eVar 4)]))
      (sSeq (sIf (tNotJ (tOf (eCall S__law_same [(eVar 5), (eCall S__law_played [(eVar 1), (eVar 2), (eVar 3), (eVar 4)])]))) (sRet (eC (.bool false))) sSkip)
      m__law_levels_right_r3)))
def S__law_levels_right : WL := fun ds Q => ∃ (ss : List Int) (b e : Nat), ds = [.dict [], T ss, .int (b : Int), .int (e : Int)] ∧ b < e ∧ e ≤ ss.length ∧ ss.length ≤ 100 ∧ (∀ s ∈ ss, S3 s) ∧ Q (.bool true)
theorem s3_sm {i : Int} (h : S3 i) : Sm i := pow_mono h (by decide)
theorem wp__law_levels_right (ds : List D) (QD : D → Prop) (h : S__law_levels_right ds QD) : m__law_levels_right (startE 16 ds) ⟨fun _ => QD .none, QD, noB, noB, fun es => QD (.list es)⟩ := by
  obtain ⟨ss, b, e, rfl, hbe, he, hl, hs, q⟩ := h
  unfold m__law_levels_right
  try simp only [sSeq, sSkip, sAsg, sAsgP, sNew, sNewP, sRet, sRetO, sIf, sApp, sAppP, sSet, sAug, sTgt, sTgtP, sPar, sFz, frz, sFor, sForR, sRev, sBrk, sCnt, sDrop, eOp, eUn, eCall, eVar, eC, eFr, eTup, eTupR, eAnd, eOr, eNot, eIf, eChain, eIndex, eSl, nLst, nList, nListR, nLc, nLc2, nCall, nSorted, nRep, tOf, tAndJ, tOrJ, tNotJ, tTrue, iSeq, iR1, iR2, iR3, rg1, rg2, evA, pNo, pSo, startE, hide, rd, hide_v, hide_o, hide_n, rd_v, rd_o, rd_n, bind_one, bind_many, setAll, List.map, List.replicate, List.length, List.cons_append, List.nil_append, List.getElem?_cons_zero, List.getElem?_cons_succ, List.set_cons_zero, List.set_cons_succ, Option.bind_some, ex_some, Option.some.injEq, Slot.own.injEq, Slot.val.injEq, exists_eq_left', true_and, and_true, Bool.false_eq_true, if_false, if_true, reduceIte, wEq, wNe, wAdd_i, wAdd_t, wAdd_l, wAdd_s, wSub_i, wMul_i, wDiv_i, wMod_i, wPow_i, wNeg_i, wLt_i, wLe_i, wGt_i, wGe_i, wIs_n, wIs_b, wIsNot_n, wIsNot_b, wIx_l, wIx_t, wLen_l, wLen_t, wAbs_i, wInt_i, wInt_b, wMax2_i, wMin2_i, wTuple_l, wTuple_t, wB_b, wI_i, seqOf_l, seqOf_t, wIAdd_i, wIAdd_t, wIMul_i, wSl_l, wSl_t, wIn_l, wIn_t, wNotIn_l, wNotIn_t, items_l, items_t, lv_i, lv_b, lv_n, eqv_ii, eqv_bb, isNon_n, isNon_i, isNon_b, isNon_s, isNon_t, isNon_l, Bool.not_true, Bool.not_false, b2n_t, b2n_f, pl_i, pl_b, pl_n, decide_eq_true_eq, sExt, sExtP, wMulT_i, wMulT_t, wRevS_l, wRevS_t]
  refine ⟨61, rfl, by decide, fun m' m0 m1 => ?_⟩
  obtain ⟨m, rfl⟩ := Int.eq_ofNat_of_zero_le m0
  have hm : m < 61 := by omega
  try simp only [sSeq, sSkip, sAsg, sAsgP, sNew, sNewP, sRet, sRetO, sIf, sApp, sAppP, sSet, sAug, sTgt, sTgtP, sPar, sFz, frz, sFor, sForR, sRev, sBrk, sCnt, sDrop, eOp, eUn, eCall, eVar, eC, eFr, eTup, eTupR, eAnd, eOr, eNot, eIf, eChain, eIndex, eSl, nLst, nList, nListR, nLc, nLc2, nCall, nSorted, nRep, tOf, tAndJ, tOrJ, tNotJ, tTrue, iSeq, iR1, iR2, iR3, rg1, rg2, evA, pNo, pSo, startE, hide, rd, hide_v, hide_o, hide_n, rd_v, rd_o, rd_n, bind_one, bind_many, setAll, List.map, List.replicate, List.length, List.cons_append, List.nil_append, List.getElem?_cons_zero, List.getElem?_cons_succ, List.set_cons_zero, List.set_cons_succ, Option.bind_some, ex_some, Option.some.injEq, Slot.own.injEq, Slot.val.injEq, exists_eq_left', true_and, and_true, Bool.false_eq_true, if_false, if_true, reduceIte, wEq, wNe, wAdd_i, wAdd_t, wAdd_l, wAdd_s, wSub_i, wMul_i, wDiv_i, wMod_i, wPow_i, wNeg_i, wLt_i, wLe_i, wGt_i, wGe_i, wIs_n, wIs_b, wIsNot_n, wIsNot_b, wIx_l, wIx_t, wLen_l, wLen_t, wAbs_i, wInt_i, wInt_b, wMax2_i, wMin2_i, wTuple_l, wTuple_t, wB_b, wI_i, seqOf_l, seqOf_t, wIAdd_i, wIAdd_t, wIMul_i, wSl_l, wSl_t, wIn_l, wIn_t, wNotIn_l, wNotIn_t, items_l, items_t, lv_i, lv_b, lv_n, eqv_ii, eqv_bb, isNon_n, isNon_i, isNon_b, isNon_s, isNon_t, isNon_l, Bool.not_true, Bool.not_false, b2n_t, b2n_f, pl_i, pl_b, pl_n, decide_eq_true_eq, sExt, sExtP, wMulT_i, wMulT_t, wRevS_l, wRevS_t]
  refine ⟨ss, b, e, m, rfl, hbe, he, by omega, ?_⟩
  try simp only [sSeq, sSkip, sAsg, sAsgP, sNew, sNewP, sRet, sRetO, sIf, sApp, sAppP, sSet, sAug, sTgt, sTgtP, sPar, sFz, frz, sFor, sForR, sRev, sBrk, sCnt, sDrop, eOp, eUn, eCall, eVar, eC, eFr, eTup, eTupR, eAnd, eOr, eNot, eIf, eChain, eIndex, eSl, nLst, nList, nListR, nLc, nLc2, nCall, nSorted, nRep, tOf, tAndJ, tOrJ, tNotJ, tTrue, iSeq, iR1, iR2, iR3, rg1, rg2, evA, pNo, pSo, startE, hide, rd, hide_v, hide_o, hide_n, rd_v, rd_o, rd_n, bind_one, bind_many, setAll, List.map, List.replicate, List.length, List.cons_append, List.nil_append, List.getElem?_cons_zero, List.getElem?_cons_succ, List.set_cons_zero, List.set_cons_succ, Option.bind_some, ex_some, Option.some.injEq, Slot.own.injEq, Slot.val.injEq, exists_eq_left', true_and, and_true, Bool.false_eq_true, if_false, if_true, reduceIte, wEq, wNe, wAdd_i, wAdd_t, wAdd_l, wAdd_s, wSub_i, wMul_i, wDiv_i, wMod_i, wPow_i, wNeg_i, wLt_i, wLe_i, wGt_i, wGe_i, wIs_n, wIs_b, wIsNot_n, wIsNot_b, wIx_l, wIx_t, wLen_l, wLen_t, wAbs_i, wInt_i, wInt_b, wMax2_i, wMin2_i, wTuple_l, wTuple_t, wB_b, wI_i, seqOf_l, seqOf_t, wIAdd_i, wIAdd_t, wIMul_i, wSl_l, wSl_t, wIn_l, wIn_t, wNotIn_l, wNotIn_t, items_l, items_t, lv_i, lv_b, lv_n, eqv_ii, eqv_bb, isNon_n, isNon_i, isNon_b, isNon_s, isNon_t, isNon_l, Bool.not_true, Bool.not_false, b2n_t, b2n_f, pl_i, pl_b, pl_n, decide_eq_true_eq, sExt, sExtP, wMulT_i, wMulT_t, wRevS_l, wRevS_t]
  have htm : ∀ n, n ≤ 1000 → tp 8 (T (playedL ss b e n)) = true := fun n hn => tp_T (by rw [played_len]; omega)
  refine ⟨ss, b, e, m, rfl, hbe, he, by omega, by omega, _, rfl, htm m (by omega), ?_⟩
  try simp only [sSeq, sSkip, sAsg, sAsgP, sNew, sNewP, sRet, sRetO, sIf, sApp, sAppP, sSet, sAug, sTgt, sTgtP, sPar, sFz, frz, sFor, sForR, sRev, sBrk, sCnt, sDrop, eOp, eUn, eCall, eVar, eC, eFr, eTup, eTupR, eAnd, eOr, eNot, eIf, eChain, eIndex, eSl, nLst, nList, nListR, nLc, nLc2, nCall, nSorted, nRep, tOf, tAndJ, tOrJ, tNotJ, tTrue, iSeq, iR1, iR2, iR3, rg1, rg2, evA, pNo, pSo, startE, hide, rd, hide_v, hide_o, hide_n, rd_v, rd_o, rd_n, bind_one, bind_many, setAll, List.map, List.replicate, List.length, List.cons_append, List.nil_append, List.getElem?_cons_zero, List.getElem?_cons_succ, List.set_cons_zero, List.set_cons_succ, Option.bind_some, ex_some, Option.some.injEq, Slot.own.injEq, Slot.val.injEq, exists_eq_left', true_and, and_true, Bool.false_eq_true, if_false, if_true, reduceIte, wEq, wNe, wAdd_i, wAdd_t, wAdd_l, wAdd_s, wSub_i, wMul_i, wDiv_i, wMod_i, wPow_i, wNeg_i, wLt_i, wLe_i, wGt_i, wGe_i, wIs_n, wIs_b, wIsNot_n, wIsNot_b, wIx_l, wIx_t, wLen_l, wLen_t, wAbs_i, wInt_i, wInt_b, wMax2_i, wMin2_i, wTuple_l, wTuple_t, wB_b, wI_i, seqOf_l, seqOf_t, wIAdd_i, wIAdd_t, wIMul_i, wSl_l, wSl_t, wIn_l, wIn_t, wNotIn_l, wNotIn_t, items_l, items_t, lv_i, lv_b, lv_n, eqv_ii, eqv_bb, isNon_n, isNon_i, isNon_b, isNon_s, isNon_t, isNon_l, Bool.not_true, Bool.not_false, b2n_t, b2n_f, pl_i, pl_b, pl_n, decide_eq_true_eq, sExt, sExtP, wMulT_i, wMulT_t, wRevS_l, wRevS_t]
  unfold m__law_levels_right_r3
  try simp only [sSeq, sSkip, sAsg, sAsgP, sNew, sNewP, sRet, sRetO, sIf, sApp, sAppP, sSet, sAug, sTgt, sTgtP, sPar, sFz, frz, sFor, sForR, sRev, sBrk, sCnt, sDrop, eOp, eUn, eCall, eVar, eC, eFr, eTup, eTupR, eAnd, eOr, eNot, eIf, eChain, eIndex, eSl, nLst, nList, nListR, nLc, nLc2, nCall, nSorted, nRep, tOf, tAndJ, tOrJ, tNotJ, tTrue, iSeq, iR1, iR2, iR3, rg1, rg2, evA, pNo, pSo, startE, hide, rd, hide_v, hide_o, hide_n, rd_v, rd_o, rd_n, bind_one, bind_many, setAll, List.map, List.replicate, List.length, List.cons_append, List.nil_append, List.getElem?_cons_zero, List.getElem?_cons_succ, List.set_cons_zero, List.set_cons_succ, Option.bind_some, ex_some, Option.some.injEq, Slot.own.injEq, Slot.val.injEq, exists_eq_left', true_and, and_true, Bool.false_eq_true, if_false, if_true, reduceIte, wEq, wNe, wAdd_i, wAdd_t, wAdd_l, wAdd_s, wSub_i, wMul_i, wDiv_i, wMod_i, wPow_i, wNeg_i, wLt_i, wLe_i, wGt_i, wGe_i, wIs_n, wIs_b, wIsNot_n, wIsNot_b, wIx_l, wIx_t, wLen_l, wLen_t, wAbs_i, wInt_i, wInt_b, wMax2_i, wMin2_i, wTuple_l, wTuple_t, wB_b, wI_i, seqOf_l, seqOf_t, wIAdd_i, wIAdd_t, wIMul_i, wSl_l, wSl_t, wIn_l, wIn_t, wNotIn_l, wNotIn_t, items_l, items_t, lv_i, lv_b, lv_n, eqv_ii, eqv_bb, isNon_n, isNon_i, isNon_b, isNon_s, isNon_t, isNon_l, Bool.not_true, Bool.not_false, b2n_t, b2n_f, pl_i, pl_b, pl_n, decide_eq_true_eq, sExt, sExtP, wMulT_i, wMulT_t, wRevS_l, wRevS_t]
  refine ⟨30, rfl, by decide, fun top t0 t1 => ?_⟩
  try simp only [sSeq, sSkip, sAsg, sAsgP, sNew, sNewP, sRet, sRetO, sIf, sApp, sAppP, sSet, sAug, sTgt, sTgtP, sPar, sFz, frz, sFor, sForR, sRev, sBrk, sCnt, sDrop, eOp, eUn, eCall, eVar, eC, eFr, eTup, eTupR, eAnd, eOr, eNot, eIf, eChain, eIndex, eSl, nLst, nList, nListR, nLc, nLc2, nCall, nSorted, nRep, tOf, tAndJ, tOrJ, tNotJ, tTrue, iSeq, iR1, iR2, iR3, rg1, rg2, evA, pNo, pSo, startE, hide, rd, hide_v, hide_o, hide_n, rd_v, rd_o, rd_n, bind_one, bind_many, setAll, List.map, List.replicate, List.length, List.cons_append, List.nil_append, List.getElem?_cons_zero, List.getElem?_cons_succ, List.set_cons_zero, List.set_cons_succ, Option.bind_some, ex_some, Option.some.injEq, Slot.own.injEq, Slot.val.injEq, exists_eq_left', true_and, and_true, Bool.false_eq_true, if_false, if_true, reduceIte, wEq, wNe, wAdd_i, wAdd_t, wAdd_l, wAdd_s, wSub_i, wMul_i, wDiv_i, wMod_i, wPow_i, wNeg_i, wLt_i, wLe_i, wGt_i, wGe_i, wIs_n, wIs_b, wIsNot_n, wIsNot_b, wIx_l, wIx_t, wLen_l, wLen_t, wAbs_i, wInt_i, wInt_b, wMax2_i, wMin2_i, wTuple_l, wTuple_t, wB_b, wI_i, seqOf_l, seqOf_t, wIAdd_i, wIAdd_t, wIMul_i, wSl_l, wSl_t, wIn_l, wIn_t, wNotIn_l, wNotIn_t, items_l, items_t, lv_i, lv_b, lv_n, eqv_ii, eqv_bb, isNon_n, isNon_i, isNon_b, isNon_s, isNon_t, isNon_l, Bool.not_true, Bool.not_false, b2n_t, b2n_f, pl_i, pl_b, pl_n, decide_eq_true_eq, sExt, sExtP, wMulT_i, wMulT_t, wRevS_l, wRevS_t]
  have smt : Sm top := by
    have : (30 : Nat) < 2 ^ 1000 := Nat.lt_of_lt_of_le (show 30 < 2 ^ 10 by decide) (Nat.pow_le_pow_right (by decide) (by decide))
    show Int.natAbs _ < _
    omega
  refine ⟨ss, top, rfl, ?_⟩
  refine ⟨cutL ss top, b, e, m, rfl, hbe, by unfold cutL; rw [List.length_map]; exact he, by omega, ?_⟩
  refine ⟨playedL ss b e m, top, rfl, ?_⟩
  have e1 : playedL (cutL ss top) b e m = cutL (playedL ss b e m) top := played_map hbe he _
  rw [e1]
  refine ⟨_, rfl, tp_T (by unfold cutL; rw [List.length_map, played_len]; omega), ?_⟩
  try simp only [sSeq, sSkip, sAsg, sAsgP, sNew, sNewP, sRet, sRetO, sIf, sApp, sAppP, sSet, sAug, sTgt, sTgtP, sPar, sFz, frz, sFor, sForR, sRev, sBrk, sCnt, sDrop, eOp, eUn, eCall, eVar, eC, eFr, eTup, eTupR, eAnd, eOr, eNot, eIf, eChain, eIndex, eSl, nLst, nList, nListR, nLc, nLc2, nCall, nSorted, nRep, tOf, tAndJ, tOrJ, tNotJ, tTrue, iSeq, iR1, iR2, iR3, rg1, rg2, evA, pNo, pSo, startE, hide, rd, hide_v, hide_o, hide_n, rd_v, rd_o, rd_n, bind_one, bind_many, setAll, List.map, List.replicate, List.length, List.cons_append, List.nil_append, List.getElem?_cons_zero, List.getElem?_cons_succ, List.set_cons_zero, List.set_cons_succ, Option.bind_some, ex_some, Option.some.injEq, Slot.own.injEq, Slot.val.injEq, exists_eq_left', true_and, and_true, Bool.false_eq_true, if_false, if_true, reduceIte, wEq, wNe, wAdd_i, wAdd_t, wAdd_l, wAdd_s, wSub_i, wMul_i, wDiv_i, wMod_i, wPow_i, wNeg_i, wLt_i, wLe_i, wGt_i, wGe_i, wIs_n, wIs_b, wIsNot_n, wIsNot_b, wIx_l, wIx_t, wLen_l, wLen_t, wAbs_i, wInt_i, wInt_b, wMax2_i, wMin2_i, wTuple_l, wTuple_t, wB_b, wI_i, seqOf_l, seqOf_t, wIAdd_i, wIAdd_t, wIMul_i, wSl_l, wSl_t, wIn_l, wIn_t, wNotIn_l, wNotIn_t, items_l, items_t, lv_i, lv_b, lv_n, eqv_ii, eqv_bb, isNon_n, isNon_i, isNon_b, isNon_s, isNon_t, isNon_l, Bool.not_true, Bool.not_false, b2n_t, b2n_f, pl_i, pl_b, pl_n, decide_eq_true_eq, sExt, sExtP, wMulT_i, wMulT_t, wRevS_l, wRevS_t]
  unfold m__law_levels_right_r6
  have e2 : J.cutD (ss.map PyData.int) none (some (min (m : Int) (e : Int))) = (ss.take (min m e)).map PyData.int := by rw [cut_to (b := min m e) (by omega) (by rw [List.length_map]; omega), List.map_take]
  try simp only [sSeq, sSkip, sAsg, sAsgP, sNew, sNewP, sRet, sRetO, sIf, sApp, sAppP, sSet, sAug, sTgt, sTgtP, sPar, sFz, frz, sFor, sForR, sRev, sBrk, sCnt, sDrop, eOp, eUn, eCall, eVar, eC, eFr, eTup, eTupR, eAnd, eOr, eNot, eIf, eChain, eIndex, eSl, nLst, nList, nListR, nLc, nLc2, nCall, nSorted, nRep, tOf, tAndJ, tOrJ, tNotJ, tTrue, iSeq, iR1, iR2, iR3, rg1, rg2, evA, pNo, pSo, startE, hide, rd, hide_v, hide_o, hide_n, rd_v, rd_o, rd_n, bind_one, bind_many, setAll, List.map, List.replicate, List.length, List.cons_append, List.nil_append, List.getElem?_cons_zero, List.getElem?_cons_succ, List.set_cons_zero, List.set_cons_succ, Option.bind_some, ex_some, Option.some.injEq, Slot.own.injEq, Slot.val.injEq, exists_eq_left', true_and, and_true, Bool.false_eq_true, if_false, if_true, reduceIte, wEq, wNe, wAdd_i, wAdd_t, wAdd_l, wAdd_s, wSub_i, wMul_i, wDiv_i, wMod_i, wPow_i, wNeg_i, wLt_i, wLe_i, wGt_i, wGe_i, wIs_n, wIs_b, wIsNot_n, wIsNot_b, wIx_l, wIx_t, wLen_l, wLen_t, wAbs_i, wInt_i, wInt_b, wMax2_i, wMin2_i, wTuple_l, wTuple_t, wB_b, wI_i, seqOf_l, seqOf_t, wIAdd_i, wIAdd_t, wIMul_i, wSl_l, wSl_t, wIn_l, wIn_t, wNotIn_l, wNotIn_t, items_l, items_t, lv_i, lv_b, lv_n, eqv_ii, eqv_bb, isNon_n, isNon_i, isNon_b, isNon_s, isNon_t, isNon_l, Bool.not_true, Bool.not_false, b2n_t, b2n_f, pl_i, pl_b, pl_n, decide_eq_true_eq, sExt, sExtP, wMulT_i, wMulT_t, wRevS_l, wRevS_t, e2]
  refine mapW_ints (fun s => .int (max s (-s))) (fun s _ R hR => ?_) ?_
  · refine ⟨_, rfl, ?_⟩
    try simp only [sSeq, sSkip, sAsg, sAsgP, sNew, sNewP, sRet, sRetO, sIf, sApp, sAppP, sSet, sAug, sTgt, sTgtP, sPar, sFz, frz, sFor, sForR, sRev, sBrk, sCnt, sDrop, eOp, eUn, eCall, eVar, eC, eFr, eTup, eTupR, eAnd, eOr, eNot, eIf, eChain, eIndex, eSl, nLst, nList, nListR, nLc, nLc2, nCall, nSorted, nRep, tOf, tAndJ, tOrJ, tNotJ, tTrue, iSeq, iR1, iR2, iR3, rg1, rg2, evA, pNo, pSo, startE, hide, rd, hide_v, hide_o, hide_n, rd_v, rd_o, rd_n, bind_one, bind_many, setAll, List.map, List.replicate, List.length, List.cons_append, List.nil_append, List.getElem?_cons_zero, List.getElem?_cons_succ, List.set_cons_zero, List.set_cons_succ, Option.bind_some, ex_some, Option.some.injEq, Slot.own.injEq, Slot.val.injEq, exists_eq_left', true_and, and_true, Bool.false_eq_true, if_false, if_true, reduceIte, wEq, wNe, wAdd_i, wAdd_t, wAdd_l, wAdd_s, wSub_i, wMul_i, wDiv_i, wMod_i, wPow_i, wNeg_i, wLt_i, wLe_i, wGt_i, wGe_i, wIs_n, wIs_b, wIsNot_n, wIsNot_b, wIx_l, wIx_t, wLen_l, wLen_t, wAbs_i, wInt_i, wInt_b, wMax2_i, wMin2_i, wTuple_l, wTuple_t, wB_b, wI_i, seqOf_l, seqOf_t, wIAdd_i, wIAdd_t, wIMul_i, wSl_l, wSl_t, wIn_l, wIn_t, wNotIn_l, wNotIn_t, items_l, items_t, lv_i, lv_b, lv_n, eqv_ii, eqv_bb, isNon_n, isNon_i, isNon_b, isNon_s, isNon_t, isNon_l, Bool.not_true, Bool.not_false, b2n_t, b2n_f, pl_i, pl_b, pl_n, decide_eq_true_eq, sExt, sExtP, wMulT_i, wMulT_t, wRevS_l, wRevS_t, wipeE]
    exact hR
  have hz : sizeLine = 16777216 := sizeLine_eq
  refine ⟨by rw [List.length_map, played_len]; omega, ?_⟩
  have e3 : (playedL ss b e m).map (fun s => PyData.int (max s (-s))) = ((playedL ss b e m).map fun s => ((s.natAbs : Nat) : Int)).map PyData.int := by
    rw [List.map_map]
    refine List.map_congr_left fun s _ => ?_
    show PyData.int (max s (-s)) = PyData.int ((s.natAbs : Nat) : Int)
    congr 1
    omega
  rw [e3]
  refine max_ints ?_
  have e4 : ((playedL ss b e m).map fun s => ((s.natAbs : Nat) : Int)).foldl max 0 = loud (playedL ss b e m) := rfl
  rw [e4]
  try simp only [sSeq, sSkip, sAsg, sAsgP, sNew, sNewP, sRet, sRetO, sIf, sApp, sAppP, sSet, sAug, sTgt, sTgtP, sPar, sFz, frz, sFor, sForR, sRev, sBrk, sCnt, sDrop, eOp, eUn, eCall, eVar, eC, eFr, eTup, eTupR, eAnd, eOr, eNot, eIf, eChain, eIndex, eSl, nLst, nList, nListR, nLc, nLc2, nCall, nSorted, nRep, tOf, tAndJ, tOrJ, tNotJ, tTrue, iSeq, iR1, iR2, iR3, rg1, rg2, evA, pNo, pSo, startE, hide, rd, hide_v, hide_o, hide_n, rd_v, rd_o, rd_n, bind_one, bind_many, setAll, List.map, List.replicate, List.length, List.cons_append, List.nil_append, List.getElem?_cons_zero, List.getElem?_cons_succ, List.set_cons_zero, List.set_cons_succ, Option.bind_some, ex_some, Option.some.injEq, Slot.own.injEq, Slot.val.injEq, exists_eq_left', true_and, and_true, Bool.false_eq_true, if_false, if_true, reduceIte, wEq, wNe, wAdd_i, wAdd_t, wAdd_l, wAdd_s, wSub_i, wMul_i, wDiv_i, wMod_i, wPow_i, wNeg_i, wLt_i, wLe_i, wGt_i, wGe_i, wIs_n, wIs_b, wIsNot_n, wIsNot_b, wIx_l, wIx_t, wLen_l, wLen_t, wAbs_i, wInt_i, wInt_b, wMax2_i, wMin2_i, wTuple_l, wTuple_t, wB_b, wI_i, seqOf_l, seqOf_t, wIAdd_i, wIAdd_t, wIMul_i, wSl_l, wSl_t, wIn_l, wIn_t, wNotIn_l, wNotIn_t, items_l, items_t, lv_i, lv_b, lv_n, eqv_ii, eqv_bb, isNon_n, isNon_i, isNon_b, isNon_s, isNon_t, isNon_l, Bool.not_true, Bool.not_false, b2n_t, b2n_f, pl_i, pl_b, pl_n, decide_eq_true_eq, sExt, sExtP, wMulT_i, wMulT_t, wRevS_l, wRevS_t]
  refine ⟨playedL ss b e m, rfl, by rw [played_len]; omega, _, rfl, tp_i, ?_⟩
  try simp only [sSeq, sSkip, sAsg, sAsgP, sNew, sNewP, sRet, sRetO, sIf, sApp, sAppP, sSet, sAug, sTgt, sTgtP, sPar, sFz, frz, sFor, sForR, sRev, sBrk, sCnt, sDrop, eOp, eUn, eCall, eVar, eC, eFr, eTup, eTupR, eAnd, eOr, eNot, eIf, eChain, eIndex, eSl, nLst, nList, nListR, nLc, nLc2, nCall, nSorted, nRep, tOf, tAndJ, tOrJ, tNotJ, tTrue, iSeq, iR1, iR2, iR3, rg1, rg2, evA, pNo, pSo, startE, hide, rd, hide_v, hide_o, hide_n, rd_v, rd_o, rd_n, bind_one, bind_many, setAll, List.map, List.replicate, List.length, List.cons_append, List.nil_append, List.getElem?_cons_zero, List.getElem?_cons_succ, List.set_cons_zero, List.set_cons_succ, Option.bind_some, ex_some, Option.some.injEq, Slot.own.injEq, Slot.val.injEq, exists_eq_left', true_and, and_true, Bool.false_eq_true, if_false, if_true, reduceIte, wEq, wNe, wAdd_i, wAdd_t, wAdd_l, wAdd_s, wSub_i, wMul_i, wDiv_i, wMod_i, wPow_i, wNeg_i, wLt_i, wLe_i, wGt_i, wGe_i, wIs_n, wIs_b, wIsNot_n, wIsNot_b, wIx_l, wIx_t, wLen_l, wLen_t, wAbs_i, wInt_i, wInt_b, wMax2_i, wMin2_i, wTuple_l, wTuple_t, wB_b, wI_i, seqOf_l, seqOf_t, wIAdd_i, wIAdd_t, wIMul_i, wSl_l, wSl_t, wIn_l, wIn_t, wNotIn_l, wNotIn_t, items_l, items_t, lv_i, lv_b, lv_n, eqv_ii, eqv_bb, isNon_n, isNon_i, isNon_b, isNon_s, isNon_t, isNon_l, Bool.not_true, Bool.not_false, b2n_t, b2n_f, pl_i, pl_b, pl_n, decide_eq_true_eq, sExt, sExtP, wMulT_i, wMulT_t, wRevS_l, wRevS_t]
  refine ⟨ss.take (min m e), rfl, by rw [List.length_take]; omega, ?_⟩
  rw [loud_reached hbe he]
  refine ⟨_, rfl, tp_i, ?_⟩
  try simp only [sSeq, sSkip, sAsg, sAsgP, sNew, sNewP, sRet, sRetO, sIf, sApp, sAppP, sSet, sAug, sTgt, sTgtP, sPar, sFz, frz, sFor, sForR, sRev, sBrk, sCnt, sDrop, eOp, eUn, eCall, eVar, eC, eFr, eTup, eTupR, eAnd, eOr, eNot, eIf, eChain, eIndex, eSl, nLst, nList, nListR, nLc, nLc2, nCall, nSorted, nRep, tOf, tAndJ, tOrJ, tNotJ, tTrue, iSeq, iR1, iR2, iR3, rg1, rg2, evA, pNo, pSo, startE, hide, rd, hide_v, hide_o, hide_n, rd_v, rd_o, rd_n, bind_one, bind_many, setAll, List.map, List.replicate, List.length, List.cons_append, List.nil_append, List.getElem?_cons_zero, List.getElem?_cons_succ, List.set_cons_zero, List.set_cons_succ, Option.bind_some, ex_some, Option.some.injEq, Slot.own.injEq, Slot.val.injEq, exists_eq_left', true_and, and_true, Bool.false_eq_true, if_false, if_true, reduceIte, wEq, wNe, wAdd_i, wAdd_t, wAdd_l, wAdd_s, wSub_i, wMul_i, wDiv_i, wMod_i, wPow_i, wNeg_i, wLt_i, wLe_i, wGt_i, wGe_i, wIs_n, wIs_b, wIsNot_n, wIsNot_b, wIx_l, wIx_t, wLen_l, wLen_t, wAbs_i, wInt_i, wInt_b, wMax2_i, wMin2_i, wTuple_l, wTuple_t, wB_b, wI_i, seqOf_l, seqOf_t, wIAdd_i, wIAdd_t, wIMul_i, wSl_l, wSl_t, wIn_l, wIn_t, wNotIn_l, wNotIn_t, items_l, items_t, lv_i, lv_b, lv_n, eqv_ii, eqv_bb, isNon_n, isNon_i, isNon_b, isNon_s, isNon_t, isNon_l, Bool.not_true, Bool.not_false, b2n_t, b2n_f, pl_i, pl_b, pl_n, decide_eq_true_eq, sExt, sExtP, wMulT_i, wMulT_t, wRevS_l, wRevS_t]
  unfold m__law_levels_right_r10
  try simp only [sSeq, sSkip, sAsg, sAsgP, sNew, sNewP, sRet, sRetO, sIf, sApp, sAppP, sSet, sAug, sTgt, sTgtP, sPar, sFz, frz, sFor, sForR, sRev, sBrk, sCnt, sDrop, eOp, eUn, eCall, eVar, eC, eFr, eTup, eTupR, eAnd, eOr, eNot, eIf, eChain, eIndex, eSl, nLst, nList, nListR, nLc, nLc2, nCall, nSorted, nRep, tOf, tAndJ, tOrJ, tNotJ, tTrue, iSeq, iR1, iR2, iR3, rg1, rg2, evA, pNo, pSo, startE, hide, rd, hide_v, hide_o, hide_n, rd_v, rd_o, rd_n, bind_one, bind_many, setAll, List.map, List.replicate, List.length, List.cons_append, List.nil_append, List.getElem?_cons_zero, List.getElem?_cons_succ, List.set_cons_zero, List.set_cons_succ, Option.bind_some, ex_some, Option.some.injEq, Slot.own.injEq, Slot.val.injEq, exists_eq_left', true_and, and_true, Bool.false_eq_true, if_false, if_true, reduceIte, wEq, wNe, wAdd_i, wAdd_t, wAdd_l, wAdd_s, wSub_i, wMul_i, wDiv_i, wMod_i, wPow_i, wNeg_i, wLt_i, wLe_i, wGt_i, wGe_i, wIs_n, wIs_b, wIsNot_n, wIsNot_b, wIx_l, wIx_t, wLen_l, wLen_t, wAbs_i, wInt_i, wInt_b, wMax2_i, wMin2_i, wTuple_l, wTuple_t, wB_b, wI_i, seqOf_l, seqOf_t, wIAdd_i, wIAdd_t, wIMul_i, wSl_l, wSl_t, wIn_l, wIn_t, wNotIn_l, wNotIn_t, items_l, items_t, lv_i, lv_b, lv_n, eqv_ii, eqv_bb, isNon_n, isNon_i, isNon_b, isNon_s, isNon_t, isNon_l, Bool.not_true, Bool.not_false, b2n_t, b2n_f, pl_i, pl_b, pl_n, decide_eq_true_eq, sExt, sExtP, wMulT_i, wMulT_t, wRevS_l, wRevS_t]
  refine ⟨ss.take (min m e), rfl, by rw [List.length_take]; omega, ?_⟩
  refine ⟨ss, rfl, by omega, ?_⟩
  rw [loud_reached hbe he]
  try simp only [sSeq, sSkip, sAsg, sAsgP, sNew, sNewP, sRet, sRetO, sIf, sApp, sAppP, sSet, sAug, sTgt, sTgtP, sPar, sFz, frz, sFor, sForR, sRev, sBrk, sCnt, sDrop, eOp, eUn, eCall, eVar, eC, eFr, eTup, eTupR, eAnd, eOr, eNot, eIf, eChain, eIndex, eSl, nLst, nList, nListR, nLc, nLc2, nCall, nSorted, nRep, tOf, tAndJ, tOrJ, tNotJ, tTrue, iSeq, iR1, iR2, iR3, rg1, rg2, evA, pNo, pSo, startE, hide, rd, hide_v, hide_o, hide_n, rd_v, rd_o, rd_n, bind_one, bind_many, setAll, List.map, List.replicate, List.length, List.cons_append, List.nil_append, List.getElem?_cons_zero, List.getElem?_cons_succ, List.set_cons_zero, List.set_cons_succ, Option.bind_some, ex_some, Option.some.injEq, Slot.own.injEq, Slot.val.injEq, exists_eq_left', true_and, and_true, Bool.false_eq_true, if_false, if_true, reduceIte, wEq, wNe, wAdd_i, wAdd_t, wAdd_l, wAdd_s, wSub_i, wMul_i, wDiv_i, wMod_i, wPow_i, wNeg_i, wLt_i, wLe_i, wGt_i, wGe_i, wIs_n, wIs_b, wIsNot_n, wIsNot_b, wIx_l, wIx_t, wLen_l, wLen_t, wAbs_i, wInt_i, wInt_b, wMax2_i, wMin2_i, wTuple_l, wTuple_t, wB_b, wI_i, seqOf_l, seqOf_t, wIAdd_i, wIAdd_t, wIMul_i, wSl_l, wSl_t, wIn_l, wIn_t, wNotIn_l, wNotIn_t, items_l, items_t, lv_i, lv_b, lv_n, eqv_ii, eqv_bb, isNon_n, isNon_i, isNon_b, isNon_s, isNon_t, isNon_l, Bool.not_true, Bool.not_false, b2n_t, b2n_f, pl_i, pl_b, pl_n, decide_eq_true_eq, sExt, sExtP, wMulT_i, wMulT_t, wRevS_l, wRevS_t]
  have hsm : ∀ s ∈ ss, Sm s := fun s h => s3_sm (hs s h)
  have hpm : ∀ {n : Nat}, ∀ s ∈ playedL ss b e n, S3 s := fun s h => hs s (played_mem hbe he s h)
  -- what stands behind the test
  have rest : ∀ (sv : En), sv = [.val (.dict []), .val (T ss), .val (.int (b : Int)), .val (.int (e : Int)), .val (.int (m : Int)), .val (T (playedL ss b e m)), .val (.int top), .val (T (ss.take (min m e))), .val (.int (loud (playedL ss b e m))), .no, .no, .no, .no, .no, .no, .no] →
      m__law_levels_right_r12 sv ⟨fun _ => QD .none, QD, noB, noB, fun es => QD (.list es)⟩ := by
    rintro sv rfl
    unfold m__law_levels_right_r12
    try simp only [sSeq, sSkip, sAsg, sAsgP, sNew, sNewP, sRet, sRetO, sIf, sApp, sAppP, sSet, sAug, sTgt, sTgtP, sPar, sFz, frz, sFor, sForR, sRev, sBrk, sCnt, sDrop, eOp, eUn, eCall, eVar, eC, eFr, eTup, eTupR, eAnd, eOr, eNot, eIf, eChain, eIndex, eSl, nLst, nList, nListR, nLc, nLc2, nCall, nSorted, nRep, tOf, tAndJ, tOrJ, tNotJ, tTrue, iSeq, iR1, iR2, iR3, rg1, rg2, evA, pNo, pSo, startE, hide, rd, hide_v, hide_o, hide_n, rd_v, rd_o, rd_n, bind_one, bind_many, setAll, List.map, List.replicate, List.length, List.cons_append, List.nil_append, List.getElem?_cons_zero, List.getElem?_cons_succ, List.set_cons_zero, List.set_cons_succ, Option.bind_some, ex_some, Option.some.injEq, Slot.own.injEq, Slot.val.injEq, exists_eq_left', true_and, and_true, Bool.false_eq_true, if_false, if_true, reduceIte, wEq, wNe, wAdd_i, wAdd_t, wAdd_l, wAdd_s, wSub_i, wMul_i, wDiv_i, wMod_i, wPow_i, wNeg_i, wLt_i, wLe_i, wGt_i, wGe_i, wIs_n, wIs_b, wIsNot_n, wIsNot_b, wIx_l, wIx_t, wLen_l, wLen_t, wAbs_i, wInt_i, wInt_b, wMax2_i, wMin2_i, wTuple_l, wTuple_t, wB_b, wI_i, seqOf_l, seqOf_t, wIAdd_i, wIAdd_t, wIMul_i, wSl_l, wSl_t, wIn_l, wIn_t, wNotIn_l, wNotIn_t, items_l, items_t, lv_i, lv_b, lv_n, eqv_ii, eqv_bb, isNon_n, isNon_i, isNon_b, isNon_s, isNon_t, isNon_l, Bool.not_true, Bool.not_false, b2n_t, b2n_f, pl_i, pl_b, pl_n, decide_eq_true_eq, sExt, sExtP, wMulT_i, wMulT_t, wRevS_l, wRevS_t]
    refine mapW_all (fun _ r => ∃ z : Int, r = .int z ∧ S3 z) (fun d hd R hR => ?_) fun rs hrs hall => ?_
    · refine ⟨_, rfl, ?_⟩
      try simp only [sSeq, sSkip, sAsg, sAsgP, sNew, sNewP, sRet, sRetO, sIf, sApp, sAppP, sSet, sAug, sTgt, sTgtP, sPar, sFz, frz, sFor, sForR, sRev, sBrk, sCnt, sDrop, eOp, eUn, eCall, eVar, eC, eFr, eTup, eTupR, eAnd, eOr, eNot, eIf, eChain, eIndex, eSl, nLst, nList, nListR, nLc, nLc2, nCall, nSorted, nRep, tOf, tAndJ, tOrJ, tNotJ, tTrue, iSeq, iR1, iR2, iR3, rg1, rg2, evA, pNo, pSo, startE, hide, rd, hide_v, hide_o, hide_n, rd_v, rd_o, rd_n, bind_one, bind_many, setAll, List.map, List.replicate, List.length, List.cons_append, List.nil_append, List.getElem?_cons_zero, List.getElem?_cons_succ, List.set_cons_zero, List.set_cons_succ, Option.bind_some, ex_some, Option.some.injEq, Slot.own.injEq, Slot.val.injEq, exists_eq_left', true_and, and_true, Bool.false_eq_true, if_false, if_true, reduceIte, wEq, wNe, wAdd_i, wAdd_t, wAdd_l, wAdd_s, wSub_i, wMul_i, wDiv_i, wMod_i, wPow_i, wNeg_i, wLt_i, wLe_i, wGt_i, wGe_i, wIs_n, wIs_b, wIsNot_n, wIsNot_b, wIx_l, wIx_t, wLen_l, wLen_t, wAbs_i, wInt_i, wInt_b, wMax2_i, wMin2_i, wTuple_l, wTuple_t, wB_b, wI_i, seqOf_l, seqOf_t, wIAdd_i, wIAdd_t, wIMul_i, wSl_l, wSl_t, wIn_l, wIn_t, wNotIn_l, wNotIn_t, items_l, items_t, lv_i, lv_b, lv_n, eqv_ii, eqv_bb, isNon_n, isNon_i, isNon_b, isNon_s, isNon_t, isNon_l, Bool.not_true, Bool.not_false, b2n_t, b2n_f, pl_i, pl_b, pl_n, decide_eq_true_eq, sExt, sExtP, wMulT_i, wMulT_t, wRevS_l, wRevS_t, wipeE]
      refine ⟨_, rfl, by decide, fun x x0 x1 => ?_⟩
      try simp only [sSeq, sSkip, sAsg, sAsgP, sNew, sNewP, sRet, sRetO, sIf, sApp, sAppP, sSet, sAug, sTgt, sTgtP, sPar, sFz, frz, sFor, sForR, sRev, sBrk, sCnt, sDrop, eOp, eUn, eCall, eVar, eC, eFr, eTup, eTupR, eAnd, eOr, eNot, eIf, eChain, eIndex, eSl, nLst, nList, nListR, nLc, nLc2, nCall, nSorted, nRep, tOf, tAndJ, tOrJ, tNotJ, tTrue, iSeq, iR1, iR2, iR3, rg1, rg2, evA, pNo, pSo, startE, hide, rd, hide_v, hide_o, hide_n, rd_v, rd_o, rd_n, bind_one, bind_many, setAll, List.map, List.replicate, List.length, List.cons_append, List.nil_append, List.getElem?_cons_zero, List.getElem?_cons_succ, List.set_cons_zero, List.set_cons_succ, Option.bind_some, ex_some, Option.some.injEq, Slot.own.injEq, Slot.val.injEq, exists_eq_left', true_and, and_true, Bool.false_eq_true, if_false, if_true, reduceIte, wEq, wNe, wAdd_i, wAdd_t, wAdd_l, wAdd_s, wSub_i, wMul_i, wDiv_i, wMod_i, wPow_i, wNeg_i, wLt_i, wLe_i, wGt_i, wGe_i, wIs_n, wIs_b, wIsNot_n, wIsNot_b, wIx_l, wIx_t, wLen_l, wLen_t, wAbs_i, wInt_i, wInt_b, wMax2_i, wMin2_i, wTuple_l, wTuple_t, wB_b, wI_i, seqOf_l, seqOf_t, wIAdd_i, wIAdd_t, wIMul_i, wSl_l, wSl_t, wIn_l, wIn_t, wNotIn_l, wNotIn_t, items_l, items_t, lv_i, lv_b, lv_n, eqv_ii, eqv_bb, isNon_n, isNon_i, isNon_b, isNon_s, isNon_t, isNon_l, Bool.not_true, Bool.not_false, b2n_t, b2n_f, pl_i, pl_b, pl_n, decide_eq_true_eq, sExt, sExtP, wMulT_i, wMulT_t, wRevS_l, wRevS_t]
      refine hR _ ⟨_, rfl, ?_⟩
      have : (20 : Nat) < 2 ^ 300 := Nat.lt_of_lt_of_le (show 20 < 2 ^ 10 by decide) (Nat.pow_le_pow_right (by decide) (by decide))
      show Int.natAbs _ < _
      omega
    obtain ⟨ot, rfl, ho, hol⟩ := ints_of' hrs hall
    rw [List.length_map] at hol
    try simp only [sSeq, sSkip, sAsg, sAsgP, sNew, sNewP, sRet, sRetO, sIf, sApp, sAppP, sSet, sAug, sTgt, sTgtP, sPar, sFz, frz, sFor, sForR, sRev, sBrk, sCnt, sDrop, eOp, eUn, eCall, eVar, eC, eFr, eTup, eTupR, eAnd, eOr, eNot, eIf, eChain, eIndex, eSl, nLst, nList, nListR, nLc, nLc2, nCall, nSorted, nRep, tOf, tAndJ, tOrJ, tNotJ, tTrue, iSeq, iR1, iR2, iR3, rg1, rg2, evA, pNo, pSo, startE, hide, rd, hide_v, hide_o, hide_n, rd_v, rd_o, rd_n, bind_one, bind_many, setAll, List.map, List.replicate, List.length, List.cons_append, List.nil_append, List.getElem?_cons_zero, List.getElem?_cons_succ, List.set_cons_zero, List.set_cons_succ, Option.bind_some, ex_some, Option.some.injEq, Slot.own.injEq, Slot.val.injEq, exists_eq_left', true_and, and_true, Bool.false_eq_true, if_false, if_true, reduceIte, wEq, wNe, wAdd_i, wAdd_t, wAdd_l, wAdd_s, wSub_i, wMul_i, wDiv_i, wMod_i, wPow_i, wNeg_i, wLt_i, wLe_i, wGt_i, wGe_i, wIs_n, wIs_b, wIsNot_n, wIsNot_b, wIx_l, wIx_t, wLen_l, wLen_t, wAbs_i, wInt_i, wInt_b, wMax2_i, wMin2_i, wTuple_l, wTuple_t, wB_b, wI_i, seqOf_l, seqOf_t, wIAdd_i, wIAdd_t, wIMul_i, wSl_l, wSl_t, wIn_l, wIn_t, wNotIn_l, wNotIn_t, items_l, items_t, lv_i, lv_b, lv_n, eqv_ii, eqv_bb, isNon_n, isNon_i, isNon_b, isNon_s, isNon_t, isNon_l, Bool.not_true, Bool.not_false, b2n_t, b2n_f, pl_i, pl_b, pl_n, decide_eq_true_eq, sExt, sExtP, wMulT_i, wMulT_t, wRevS_l, wRevS_t]
    refine ⟨_, rfl, by decide, fun n1 a0 a1 => ?_⟩
    try simp only [sSeq, sSkip, sAsg, sAsgP, sNew, sNewP, sRet, sRetO, sIf, sApp, sAppP, sSet, sAug, sTgt, sTgtP, sPar, sFz, frz, sFor, sForR, sRev, sBrk, sCnt, sDrop, eOp, eUn, eCall, eVar, eC, eFr, eTup, eTupR, eAnd, eOr, eNot, eIf, eChain, eIndex, eSl, nLst, nList, nListR, nLc, nLc2, nCall, nSorted, nRep, tOf, tAndJ, tOrJ, tNotJ, tTrue, iSeq, iR1, iR2, iR3, rg1, rg2, evA, pNo, pSo, startE, hide, rd, hide_v, hide_o, hide_n, rd_v, rd_o, rd_n, bind_one, bind_many, setAll, List.map, List.replicate, List.length, List.cons_append, List.nil_append, List.getElem?_cons_zero, List.getElem?_cons_succ, List.set_cons_zero, List.set_cons_succ, Option.bind_some, ex_some, Option.some.injEq, Slot.own.injEq, Slot.val.injEq, exists_eq_left', true_and, and_true, Bool.false_eq_true, if_false, if_true, reduceIte, wEq, wNe, wAdd_i, wAdd_t, wAdd_l, wAdd_s, wSub_i, wMul_i, wDiv_i, wMod_i, wPow_i, wNeg_i, wLt_i, wLe_i, wGt_i, wGe_i, wIs_n, wIs_b, wIsNot_n, wIsNot_b, wIx_l, wIx_t, wLen_l, wLen_t, wAbs_i, wInt_i, wInt_b, wMax2_i, wMin2_i, wTuple_l, wTuple_t, wB_b, wI_i, seqOf_l, seqOf_t, wIAdd_i, wIAdd_t, wIMul_i, wSl_l, wSl_t, wIn_l, wIn_t, wNotIn_l, wNotIn_t, items_l, items_t, lv_i, lv_b, lv_n, eqv_ii, eqv_bb, isNon_n, isNon_i, isNon_b, isNon_s, isNon_t, isNon_l, Bool.not_true, Bool.not_false, b2n_t, b2n_f, pl_i, pl_b, pl_n, decide_eq_true_eq, sExt, sExtP, wMulT_i, wMulT_t, wRevS_l, wRevS_t]
    refine ⟨_, rfl, by decide, fun d1 b0 b1 => ?_⟩
    try simp only [sSeq, sSkip, sAsg, sAsgP, sNew, sNewP, sRet, sRetO, sIf, sApp, sAppP, sSet, sAug, sTgt, sTgtP, sPar, sFz, frz, sFor, sForR, sRev, sBrk, sCnt, sDrop, eOp, eUn, eCall, eVar, eC, eFr, eTup, eTupR, eAnd, eOr, eNot, eIf, eChain, eIndex, eSl, nLst, nList, nListR, nLc, nLc2, nCall, nSorted, nRep, tOf, tAndJ, tOrJ, tNotJ, tTrue, iSeq, iR1, iR2, iR3, rg1, rg2, evA, pNo, pSo, startE, hide, rd, hide_v, hide_o, hide_n, rd_v, rd_o, rd_n, bind_one, bind_many, setAll, List.map, List.replicate, List.length, List.cons_append, List.nil_append, List.getElem?_cons_zero, List.getElem?_cons_succ, List.set_cons_zero, List.set_cons_succ, Option.bind_some, ex_some, Option.some.injEq, Slot.own.injEq, Slot.val.injEq, exists_eq_left', true_and, and_true, Bool.false_eq_true, if_false, if_true, reduceIte, wEq, wNe, wAdd_i, wAdd_t, wAdd_l, wAdd_s, wSub_i, wMul_i, wDiv_i, wMod_i, wPow_i, wNeg_i, wLt_i, wLe_i, wGt_i, wGe_i, wIs_n, wIs_b, wIsNot_n, wIsNot_b, wIx_l, wIx_t, wLen_l, wLen_t, wAbs_i, wInt_i, wInt_b, wMax2_i, wMin2_i, wTuple_l, wTuple_t, wB_b, wI_i, seqOf_l, seqOf_t, wIAdd_i, wIAdd_t, wIMul_i, wSl_l, wSl_t, wIn_l, wIn_t, wNotIn_l, wNotIn_t, items_l, items_t, lv_i, lv_b, lv_n, eqv_ii, eqv_bb, isNon_n, isNon_i, isNon_b, isNon_s, isNon_t, isNon_l, Bool.not_true, Bool.not_false, b2n_t, b2n_f, pl_i, pl_b, pl_n, decide_eq_true_eq, sExt, sExtP, wMulT_i, wMulT_t, wRevS_l, wRevS_t]
    refine ⟨_, _, rfl, by omega, by omega, ?_⟩
    refine ⟨_, rfl, by decide, fun n2 a2 a3 => ?_⟩
    try simp only [sSeq, sSkip, sAsg, sAsgP, sNew, sNewP, sRet, sRetO, sIf, sApp, sAppP, sSet, sAug, sTgt, sTgtP, sPar, sFz, frz, sFor, sForR, sRev, sBrk, sCnt, sDrop, eOp, eUn, eCall, eVar, eC, eFr, eTup, eTupR, eAnd, eOr, eNot, eIf, eChain, eIndex, eSl, nLst, nList, nListR, nLc, nLc2, nCall, nSorted, nRep, tOf, tAndJ, tOrJ, tNotJ, tTrue, iSeq, iR1, iR2, iR3, rg1, rg2, evA, pNo, pSo, startE, hide, rd, hide_v, hide_o, hide_n, rd_v, rd_o, rd_n, bind_one, bind_many, setAll, List.map, List.replicate, List.length, List.cons_append, List.nil_append, List.getElem?_cons_zero, List.getElem?_cons_succ, List.set_cons_zero, List.set_cons_succ, Option.bind_some, ex_some, Option.some.injEq, Slot.own.injEq, Slot.val.injEq, exists_eq_left', true_and, and_true, Bool.false_eq_true, if_false, if_true, reduceIte, wEq, wNe, wAdd_i, wAdd_t, wAdd_l, wAdd_s, wSub_i, wMul_i, wDiv_i, wMod_i, wPow_i, wNeg_i, wLt_i, wLe_i, wGt_i, wGe_i, wIs_n, wIs_b, wIsNot_n, wIsNot_b, wIx_l, wIx_t, wLen_l, wLen_t, wAbs_i, wInt_i, wInt_b, wMax2_i, wMin2_i, wTuple_l, wTuple_t, wB_b, wI_i, seqOf_l, seqOf_t, wIAdd_i, wIAdd_t, wIMul_i, wSl_l, wSl_t, wIn_l, wIn_t, wNotIn_l, wNotIn_t, items_l, items_t, lv_i, lv_b, lv_n, eqv_ii, eqv_bb, isNon_n, isNon_i, isNon_b, isNon_s, isNon_t, isNon_l, Bool.not_true, Bool.not_false, b2n_t, b2n_f, pl_i, pl_b, pl_n, decide_eq_true_eq, sExt, sExtP, wMulT_i, wMulT_t, wRevS_l, wRevS_t]
    refine ⟨_, rfl, by decide, fun d2 b2 b3 => ?_⟩
    try simp only [sSeq, sSkip, sAsg, sAsgP, sNew, sNewP, sRet, sRetO, sIf, sApp, sAppP, sSet, sAug, sTgt, sTgtP, sPar, sFz, frz, sFor, sForR, sRev, sBrk, sCnt, sDrop, eOp, eUn, eCall, eVar, eC, eFr, eTup, eTupR, eAnd, eOr, eNot, eIf, eChain, eIndex, eSl, nLst, nList, nListR, nLc, nLc2, nCall, nSorted, nRep, tOf, tAndJ, tOrJ, tNotJ, tTrue, iSeq, iR1, iR2, iR3, rg1, rg2, evA, pNo, pSo, startE, hide, rd, hide_v, hide_o, hide_n, rd_v, rd_o, rd_n, bind_one, bind_many, setAll, List.map, List.replicate, List.length, List.cons_append, List.nil_append, List.getElem?_cons_zero, List.getElem?_cons_succ, List.set_cons_zero, List.set_cons_succ, Option.bind_some, ex_some, Option.some.injEq, Slot.own.injEq, Slot.val.injEq, exists_eq_left', true_and, and_true, Bool.false_eq_true, if_false, if_true, reduceIte, wEq, wNe, wAdd_i, wAdd_t, wAdd_l, wAdd_s, wSub_i, wMul_i, wDiv_i, wMod_i, wPow_i, wNeg_i, wLt_i, wLe_i, wGt_i, wGe_i, wIs_n, wIs_b, wIsNot_n, wIsNot_b, wIx_l, wIx_t, wLen_l, wLen_t, wAbs_i, wInt_i, wInt_b, wMax2_i, wMin2_i, wTuple_l, wTuple_t, wB_b, wI_i, seqOf_l, seqOf_t, wIAdd_i, wIAdd_t, wIMul_i, wSl_l, wSl_t, wIn_l, wIn_t, wNotIn_l, wNotIn_t, items_l, items_t, lv_i, lv_b, lv_n, eqv_ii, eqv_bb, isNon_n, isNon_i, isNon_b, isNon_s, isNon_t, isNon_l, Bool.not_true, Bool.not_false, b2n_t, b2n_f, pl_i, pl_b, pl_n, decide_eq_true_eq, sExt, sExtP, wMulT_i, wMulT_t, wRevS_l, wRevS_t]
    refine ⟨_, _, rfl, by omega, by omega, ?_⟩
    have P1 := ratio_pt (n := n1 - 4) (d := 1 + d1) (by omega) (by omega) (by omega)
    have P2' := ratio_pt (n := n2 - 4) (d := 1 + d2) (by omega) (by omega) (by omega)
    generalize fracP (n1 - 4) (1 + d1) = p at P1
    generalize fracP (n2 - 4) (1 + d2) = r at P2'
    refine ⟨ss, ot, p, r, rfl, hol.symm, by omega, hs, ho, P1, P2', ?_⟩
    try simp only [sSeq, sSkip, sAsg, sAsgP, sNew, sNewP, sRet, sRetO, sIf, sApp, sAppP, sSet, sAug, sTgt, sTgtP, sPar, sFz, frz, sFor, sForR, sRev, sBrk, sCnt, sDrop, eOp, eUn, eCall, eVar, eC, eFr, eTup, eTupR, eAnd, eOr, eNot, eIf, eChain, eIndex, eSl, nLst, nList, nListR, nLc, nLc2, nCall, nSorted, nRep, tOf, tAndJ, tOrJ, tNotJ, tTrue, iSeq, iR1, iR2, iR3, rg1, rg2, evA, pNo, pSo, startE, hide, rd, hide_v, hide_o, hide_n, rd_v, rd_o, rd_n, bind_one, bind_many, setAll, List.map, List.replicate, List.length, List.cons_append, List.nil_append, List.getElem?_cons_zero, List.getElem?_cons_succ, List.set_cons_zero, List.set_cons_succ, Option.bind_some, ex_some, Option.some.injEq, Slot.own.injEq, Slot.val.injEq, exists_eq_left', true_and, and_true, Bool.false_eq_true, if_false, if_true, reduceIte, wEq, wNe, wAdd_i, wAdd_t, wAdd_l, wAdd_s, wSub_i, wMul_i, wDiv_i, wMod_i, wPow_i, wNeg_i, wLt_i, wLe_i, wGt_i, wGe_i, wIs_n, wIs_b, wIsNot_n, wIsNot_b, wIx_l, wIx_t, wLen_l, wLen_t, wAbs_i, wInt_i, wInt_b, wMax2_i, wMin2_i, wTuple_l, wTuple_t, wB_b, wI_i, seqOf_l, seqOf_t, wIAdd_i, wIAdd_t, wIMul_i, wSl_l, wSl_t, wIn_l, wIn_t, wNotIn_l, wNotIn_t, items_l, items_t, lv_i, lv_b, lv_n, eqv_ii, eqv_bb, isNon_n, isNon_i, isNon_b, isNon_s, isNon_t, isNon_l, Bool.not_true, Bool.not_false, b2n_t, b2n_f, pl_i, pl_b, pl_n, decide_eq_true_eq, sExt, sExtP, wMulT_i, wMulT_t, wRevS_l, wRevS_t, wIsi, isTy]
    rw [if_neg (by decide)]
    have mlen : (mixL p r ss ot).length = ss.length := by unfold mixL; rw [List.length_zipWith, hol]; omega
    refine ⟨mixL p r ss ot, b, e, m, rfl, hbe, by rw [mlen]; exact he, by omega, ?_⟩
    refine ⟨ot, b, e, m, rfl, hbe, by rw [hol]; exact he, by omega, ?_⟩
    refine ⟨playedL ss b e m, playedL ot b e m, p, r, rfl, by rw [played_len, played_len], by rw [played_len]; omega, hpm, fun s h => ho s (played_mem hbe (by rw [hol]; exact he) s h), P1, P2', ?_⟩
    have e5 : playedL (mixL p r ss ot) b e m = mixL p r (playedL ss b e m) (playedL ot b e m) := played_zip hbe he (by rw [hol]; exact he) _
    rw [← e5]
    refine ⟨_, rfl, tp_T (by rw [played_len]; omega), ?_⟩
    try simp only [sSeq, sSkip, sAsg, sAsgP, sNew, sNewP, sRet, sRetO, sIf, sApp, sAppP, sSet, sAug, sTgt, sTgtP, sPar, sFz, frz, sFor, sForR, sRev, sBrk, sCnt, sDrop, eOp, eUn, eCall, eVar, eC, eFr, eTup, eTupR, eAnd, eOr, eNot, eIf, eChain, eIndex, eSl, nLst, nList, nListR, nLc, nLc2, nCall, nSorted, nRep, tOf, tAndJ, tOrJ, tNotJ, tTrue, iSeq, iR1, iR2, iR3, rg1, rg2, evA, pNo, pSo, startE, hide, rd, hide_v, hide_o, hide_n, rd_v, rd_o, rd_n, bind_one, bind_many, setAll, List.map, List.replicate, List.length, List.cons_append, List.nil_append, List.getElem?_cons_zero, List.getElem?_cons_succ, List.set_cons_zero, List.set_cons_succ, Option.bind_some, ex_some, Option.some.injEq, Slot.own.injEq, Slot.val.injEq, exists_eq_left', true_and, and_true, Bool.false_eq_true, if_false, if_true, reduceIte, wEq, wNe, wAdd_i, wAdd_t, wAdd_l, wAdd_s, wSub_i, wMul_i, wDiv_i, wMod_i, wPow_i, wNeg_i, wLt_i, wLe_i, wGt_i, wGe_i, wIs_n, wIs_b, wIsNot_n, wIsNot_b, wIx_l, wIx_t, wLen_l, wLen_t, wAbs_i, wInt_i, wInt_b, wMax2_i, wMin2_i, wTuple_l, wTuple_t, wB_b, wI_i, seqOf_l, seqOf_t, wIAdd_i, wIAdd_t, wIMul_i, wSl_l, wSl_t, wIn_l, wIn_t, wNotIn_l, wNotIn_t, items_l, items_t, lv_i, lv_b, lv_n, eqv_ii, eqv_bb, isNon_n, isNon_i, isNon_b, isNon_s, isNon_t, isNon_l, Bool.not_true, Bool.not_false, b2n_t, b2n_f, pl_i, pl_b, pl_n, decide_eq_true_eq, sExt, sExtP, wMulT_i, wMulT_t, wRevS_l, wRevS_t]
    unfold m__law_levels_right_r17
    try simp only [sSeq, sSkip, sAsg, sAsgP, sNew, sNewP, sRet, sRetO, sIf, sApp, sAppP, sSet, sAug, sTgt, sTgtP, sPar, sFz, frz, sFor, sForR, sRev, sBrk, sCnt, sDrop, eOp, eUn, eCall, eVar, eC, eFr, eTup, eTupR, eAnd, eOr, eNot, eIf, eChain, eIndex, eSl, nLst, nList, nListR, nLc, nLc2, nCall, nSorted, nRep, tOf, tAndJ, tOrJ, tNotJ, tTrue, iSeq, iR1, iR2, iR3, rg1, rg2, evA, pNo, pSo, startE, hide, rd, hide_v, hide_o, hide_n, rd_v, rd_o, rd_n, bind_one, bind_many, setAll, List.map, List.replicate, List.length, List.cons_append, List.nil_append, List.getElem?_cons_zero, List.getElem?_cons_succ, List.set_cons_zero, List.set_cons_succ, Option.bind_some, ex_some, Option.some.injEq, Slot.own.injEq, Slot.val.injEq, exists_eq_left', true_and, and_true, Bool.false_eq_true, if_false, if_true, reduceIte, wEq, wNe, wAdd_i, wAdd_t, wAdd_l, wAdd_s, wSub_i, wMul_i, wDiv_i, wMod_i, wPow_i, wNeg_i, wLt_i, wLe_i, wGt_i, wGe_i, wIs_n, wIs_b, wIsNot_n, wIsNot_b, wIx_l, wIx_t, wLen_l, wLen_t, wAbs_i, wInt_i, wInt_b, wMax2_i, wMin2_i, wTuple_l, wTuple_t, wB_b, wI_i, seqOf_l, seqOf_t, wIAdd_i, wIAdd_t, wIMul_i, wSl_l, wSl_t, wIn_l, wIn_t, wNotIn_l, wNotIn_t, items_l, items_t, lv_i, lv_b, lv_n, eqv_ii, eqv_bb, isNon_n, isNon_i, isNon_b, isNon_s, isNon_t, isNon_l, Bool.not_true, Bool.not_false, b2n_t, b2n_f, pl_i, pl_b, pl_n, decide_eq_true_eq, sExt, sExtP, wMulT_i, wMulT_t, wRevS_l, wRevS_t]
    refine ⟨_, rfl, by decide, fun rr' c0 c1 => ?_⟩
    obtain ⟨rr, rfl⟩ := Int.eq_ofNat_of_zero_le c0
    have hrr : rr < 4 := by omega
    try simp only [sSeq, sSkip, sAsg, sAsgP, sNew, sNewP, sRet, sRetO, sIf, sApp, sAppP, sSet, sAug, sTgt, sTgtP, sPar, sFz, frz, sFor, sForR, sRev, sBrk, sCnt, sDrop, eOp, eUn, eCall, eVar, eC, eFr, eTup, eTupR, eAnd, eOr, eNot, eIf, eChain, eIndex, eSl, nLst, nList, nListR, nLc, nLc2, nCall, nSorted, nRep, tOf, tAndJ, tOrJ, tNotJ, tTrue, iSeq, iR1, iR2, iR3, rg1, rg2, evA, pNo, pSo, startE, hide, rd, hide_v, hide_o, hide_n, rd_v, rd_o, rd_n, bind_one, bind_many, setAll, List.map, List.replicate, List.length, List.cons_append, List.nil_append, List.getElem?_cons_zero, List.getElem?_cons_succ, List.set_cons_zero, List.set_cons_succ, Option.bind_some, ex_some, Option.some.injEq, Slot.own.injEq, Slot.val.injEq, exists_eq_left', true_and, and_true, Bool.false_eq_true, if_false, if_true, reduceIte, wEq, wNe, wAdd_i, wAdd_t, wAdd_l, wAdd_s, wSub_i, wMul_i, wDiv_i, wMod_i, wPow_i, wNeg_i, wLt_i, wLe_i, wGt_i, wGe_i, wIs_n, wIs_b, wIsNot_n, wIsNot_b, wIx_l, wIx_t, wLen_l, wLen_t, wAbs_i, wInt_i, wInt_b, wMax2_i, wMin2_i, wTuple_l, wTuple_t, wB_b, wI_i, seqOf_l, seqOf_t, wIAdd_i, wIAdd_t, wIMul_i, wSl_l, wSl_t, wIn_l, wIn_t, wNotIn_l, wNotIn_t, items_l, items_t, lv_i, lv_b, lv_n, eqv_ii, eqv_bb, isNon_n, isNon_i, isNon_b, isNon_s, isNon_t, isNon_l, Bool.not_true, Bool.not_false, b2n_t, b2n_f, pl_i, pl_b, pl_n, decide_eq_true_eq, sExt, sExtP, wMulT_i, wMulT_t, wRevS_l, wRevS_t]
    have hrl : (1 + rr) * (e - b) ≤ 400 := Nat.le_trans (Nat.mul_le_mul (show 1 + rr ≤ 4 by omega) (show e - b ≤ 100 by omega)) (by decide)
    refine ⟨mul_l (by omega), ss, b, e, b + (1 + rr) * (e - b), ?_, hbe, he, by omega, ?_⟩
    · rw [show (b : Int) + (1 + (rr : Int)) * ((e : Int) - b) = ((b + (1 + rr) * (e - b) : Nat) : Int) by rw [Int.natCast_add, Int.natCast_mul, Int.natCast_sub (by omega), Int.natCast_add]; rfl]
    try simp only [sSeq, sSkip, sAsg, sAsgP, sNew, sNewP, sRet, sRetO, sIf, sApp, sAppP, sSet, sAug, sTgt, sTgtP, sPar, sFz, frz, sFor, sForR, sRev, sBrk, sCnt, sDrop, eOp, eUn, eCall, eVar, eC, eFr, eTup, eTupR, eAnd, eOr, eNot, eIf, eChain, eIndex, eSl, nLst, nList, nListR, nLc, nLc2, nCall, nSorted, nRep, tOf, tAndJ, tOrJ, tNotJ, tTrue, iSeq, iR1, iR2, iR3, rg1, rg2, evA, pNo, pSo, startE, hide, rd, hide_v, hide_o, hide_n, rd_v, rd_o, rd_n, bind_one, bind_many, setAll, List.map, List.replicate, List.length, List.cons_append, List.nil_append, List.getElem?_cons_zero, List.getElem?_cons_succ, List.set_cons_zero, List.set_cons_succ, Option.bind_some, ex_some, Option.some.injEq, Slot.own.injEq, Slot.val.injEq, exists_eq_left', true_and, and_true, Bool.false_eq_true, if_false, if_true, reduceIte, wEq, wNe, wAdd_i, wAdd_t, wAdd_l, wAdd_s, wSub_i, wMul_i, wDiv_i, wMod_i, wPow_i, wNeg_i, wLt_i, wLe_i, wGt_i, wGe_i, wIs_n, wIs_b, wIsNot_n, wIsNot_b, wIx_l, wIx_t, wLen_l, wLen_t, wAbs_i, wInt_i, wInt_b, wMax2_i, wMin2_i, wTuple_l, wTuple_t, wB_b, wI_i, seqOf_l, seqOf_t, wIAdd_i, wIAdd_t, wIMul_i, wSl_l, wSl_t, wIn_l, wIn_t, wNotIn_l, wNotIn_t, items_l, items_t, lv_i, lv_b, lv_n, eqv_ii, eqv_bb, isNon_n, isNon_i, isNon_b, isNon_s, isNon_t, isNon_l, Bool.not_true, Bool.not_false, b2n_t, b2n_f, pl_i, pl_b, pl_n, decide_eq_true_eq, sExt, sExtP, wMulT_i, wMulT_t, wRevS_l, wRevS_t, wIsi, isTy]
    rw [if_neg (by decide)]
    have e6 : J.cutD ((playedL ss b e (b + (1 + rr) * (e - b))).map PyData.int) (some (b : Int)) none = ((playedL ss b e (b + (1 + rr) * (e - b))).drop b).map PyData.int := by
      rw [cut_from rfl (by rw [List.length_map, played_len]; omega), List.map_drop]
    have e7 : J.cutD (ss.map PyData.int) (some (b : Int)) (some (e : Int)) = ((ss.drop b).take (e - b)).map PyData.int := by
      rw [cut_nat rfl rfl (by rw [List.length_map]; omega) (by rw [List.length_map]; omega), List.map_take, List.map_drop]
    have hpos : 0 < (1 + rr) * (e - b) := Nat.mul_pos (by omega) (by omega)
    try simp only [sSeq, sSkip, sAsg, sAsgP, sNew, sNewP, sRet, sRetO, sIf, sApp, sAppP, sSet, sAug, sTgt, sTgtP, sPar, sFz, frz, sFor, sForR, sRev, sBrk, sCnt, sDrop, eOp, eUn, eCall, eVar, eC, eFr, eTup, eTupR, eAnd, eOr, eNot, eIf, eChain, eIndex, eSl, nLst, nList, nListR, nLc, nLc2, nCall, nSorted, nRep, tOf, tAndJ, tOrJ, tNotJ, tTrue, iSeq, iR1, iR2, iR3, rg1, rg2, evA, pNo, pSo, startE, hide, rd, hide_v, hide_o, hide_n, rd_v, rd_o, rd_n, bind_one, bind_many, setAll, List.map, List.replicate, List.length, List.cons_append, List.nil_append, List.getElem?_cons_zero, List.getElem?_cons_succ, List.set_cons_zero, List.set_cons_succ, Option.bind_some, ex_some, Option.some.injEq, Slot.own.injEq, Slot.val.injEq, exists_eq_left', true_and, and_true, Bool.false_eq_true, if_false, if_true, reduceIte, wEq, wNe, wAdd_i, wAdd_t, wAdd_l, wAdd_s, wSub_i, wMul_i, wDiv_i, wMod_i, wPow_i, wNeg_i, wLt_i, wLe_i, wGt_i, wGe_i, wIs_n, wIs_b, wIsNot_n, wIsNot_b, wIx_l, wIx_t, wLen_l, wLen_t, wAbs_i, wInt_i, wInt_b, wMax2_i, wMin2_i, wTuple_l, wTuple_t, wB_b, wI_i, seqOf_l, seqOf_t, wIAdd_i, wIAdd_t, wIMul_i, wSl_l, wSl_t, wIn_l, wIn_t, wNotIn_l, wNotIn_t, items_l, items_t, lv_i, lv_b, lv_n, eqv_ii, eqv_bb, isNon_n, isNon_i, isNon_b, isNon_s, isNon_t, isNon_l, Bool.not_true, Bool.not_false, b2n_t, b2n_f, pl_i, pl_b, pl_n, decide_eq_true_eq, sExt, sExtP, wMulT_i, wMulT_t, wRevS_l, wRevS_t, e6, e7]
    refine ⟨_, rfl, ?_, by rw [List.length_drop, played_len]; omega, fun s h => s3_sm (hpm s (List.mem_of_mem_drop h)), ?_⟩
    · intro c
      have := congrArg List.length c
      rw [List.length_drop, played_len] at this
      simp at this
      omega
    refine ⟨_, rfl, ?_, by rw [List.length_take, List.length_drop]; omega, fun s h => hsm s (List.mem_of_mem_drop (List.mem_of_mem_take h)), ?_⟩
    · intro c
      have := congrArg List.length c
      rw [List.length_take, List.length_drop] at this
      simp at this
      omega
    rw [mean_long hbe he (by omega)]
    refine ⟨_, rfl, tp_P2 _, ?_⟩
    try simp only [sSeq, sSkip, sAsg, sAsgP, sNew, sNewP, sRet, sRetO, sIf, sApp, sAppP, sSet, sAug, sTgt, sTgtP, sPar, sFz, frz, sFor, sForR, sRev, sBrk, sCnt, sDrop, eOp, eUn, eCall, eVar, eC, eFr, eTup, eTupR, eAnd, eOr, eNot, eIf, eChain, eIndex, eSl, nLst, nList, nListR, nLc, nLc2, nCall, nSorted, nRep, tOf, tAndJ, tOrJ, tNotJ, tTrue, iSeq, iR1, iR2, iR3, rg1, rg2, evA, pNo, pSo, startE, hide, rd, hide_v, hide_o, hide_n, rd_v, rd_o, rd_n, bind_one, bind_many, setAll, List.map, List.replicate, List.length, List.cons_append, List.nil_append, List.getElem?_cons_zero, List.getElem?_cons_succ, List.set_cons_zero, List.set_cons_succ, Option.bind_some, ex_some, Option.some.injEq, Slot.own.injEq, Slot.val.injEq, exists_eq_left', true_and, and_true, Bool.false_eq_true, if_false, if_true, reduceIte, wEq, wNe, wAdd_i, wAdd_t, wAdd_l, wAdd_s, wSub_i, wMul_i, wDiv_i, wMod_i, wPow_i, wNeg_i, wLt_i, wLe_i, wGt_i, wGe_i, wIs_n, wIs_b, wIsNot_n, wIsNot_b, wIx_l, wIx_t, wLen_l, wLen_t, wAbs_i, wInt_i, wInt_b, wMax2_i, wMin2_i, wTuple_l, wTuple_t, wB_b, wI_i, seqOf_l, seqOf_t, wIAdd_i, wIAdd_t, wIMul_i, wSl_l, wSl_t, wIn_l, wIn_t, wNotIn_l, wNotIn_t, items_l, items_t, lv_i, lv_b, lv_n, eqv_ii, eqv_bb, isNon_n, isNon_i, isNon_b, isNon_s, isNon_t, isNon_l, Bool.not_true, Bool.not_false, b2n_t, b2n_f, pl_i, pl_b, pl_n, decide_eq_true_eq, sExt, sExtP, wMulT_i, wMulT_t, wRevS_l, wRevS_t]
    unfold m__law_levels_right_r21
    try simp only [sSeq, sSkip, sAsg, sAsgP, sNew, sNewP, sRet, sRetO, sIf, sApp, sAppP, sSet, sAug, sTgt, sTgtP, sPar, sFz, frz, sFor, sForR, sRev, sBrk, sCnt, sDrop, eOp, eUn, eCall, eVar, eC, eFr, eTup, eTupR, eAnd, eOr, eNot, eIf, eChain, eIndex, eSl, nLst, nList, nListR, nLc, nLc2, nCall, nSorted, nRep, tOf, tAndJ, tOrJ, tNotJ, tTrue, iSeq, iR1, iR2, iR3, rg1, rg2, evA, pNo, pSo, startE, hide, rd, hide_v, hide_o, hide_n, rd_v, rd_o, rd_n, bind_one, bind_many, setAll, List.map, List.replicate, List.length, List.cons_append, List.nil_append, List.getElem?_cons_zero, List.getElem?_cons_succ, List.set_cons_zero, List.set_cons_succ, Option.bind_some, ex_some, Option.some.injEq, Slot.own.injEq, Slot.val.injEq, exists_eq_left', true_and, and_true, Bool.false_eq_true, if_false, if_true, reduceIte, wEq, wNe, wAdd_i, wAdd_t, wAdd_l, wAdd_s, wSub_i, wMul_i, wDiv_i, wMod_i, wPow_i, wNeg_i, wLt_i, wLe_i, wGt_i, wGe_i, wIs_n, wIs_b, wIsNot_n, wIsNot_b, wIx_l, wIx_t, wLen_l, wLen_t, wAbs_i, wInt_i, wInt_b, wMax2_i, wMin2_i, wTuple_l, wTuple_t, wB_b, wI_i, seqOf_l, seqOf_t, wIAdd_i, wIAdd_t, wIMul_i, wSl_l, wSl_t, wIn_l, wIn_t, wNotIn_l, wNotIn_t, items_l, items_t, lv_i, lv_b, lv_n, eqv_ii, eqv_bb, isNon_n, isNon_i, isNon_b, isNon_s, isNon_t, isNon_l, Bool.not_true, Bool.not_false, b2n_t, b2n_f, pl_i, pl_b, pl_n, decide_eq_true_eq, sExt, sExtP, wMulT_i, wMulT_t, wRevS_l, wRevS_t]
    refine ⟨_, rfl, by omega, fun fd' f0 f1 => ?_⟩
    obtain ⟨fd, rfl⟩ := Int.eq_ofNat_of_zero_le f0
    have hfd : fd ≤ m := by omega
    try simp only [sSeq, sSkip, sAsg, sAsgP, sNew, sNewP, sRet, sRetO, sIf, sApp, sAppP, sSet, sAug, sTgt, sTgtP, sPar, sFz, frz, sFor, sForR, sRev, sBrk, sCnt, sDrop, eOp, eUn, eCall, eVar, eC, eFr, eTup, eTupR, eAnd, eOr, eNot, eIf, eChain, eIndex, eSl, nLst, nList, nListR, nLc, nLc2, nCall, nSorted, nRep, tOf, tAndJ, tOrJ, tNotJ, tTrue, iSeq, iR1, iR2, iR3, rg1, rg2, evA, pNo, pSo, startE, hide, rd, hide_v, hide_o, hide_n, rd_v, rd_o, rd_n, bind_one, bind_many, setAll, List.map, List.replicate, List.length, List.cons_append, List.nil_append, List.getElem?_cons_zero, List.getElem?_cons_succ, List.set_cons_zero, List.set_cons_succ, Option.bind_some, ex_some, Option.some.injEq, Slot.own.injEq, Slot.val.injEq, exists_eq_left', true_and, and_true, Bool.false_eq_true, if_false, if_true, reduceIte, wEq, wNe, wAdd_i, wAdd_t, wAdd_l, wAdd_s, wSub_i, wMul_i, wDiv_i, wMod_i, wPow_i, wNeg_i, wLt_i, wLe_i, wGt_i, wGe_i, wIs_n, wIs_b, wIsNot_n, wIsNot_b, wIx_l, wIx_t, wLen_l, wLen_t, wAbs_i, wInt_i, wInt_b, wMax2_i, wMin2_i, wTuple_l, wTuple_t, wB_b, wI_i, seqOf_l, seqOf_t, wIAdd_i, wIAdd_t, wIMul_i, wSl_l, wSl_t, wIn_l, wIn_t, wNotIn_l, wNotIn_t, items_l, items_t, lv_i, lv_b, lv_n, eqv_ii, eqv_bb, isNon_n, isNon_i, isNon_b, isNon_s, isNon_t, isNon_l, Bool.not_true, Bool.not_false, b2n_t, b2n_f, pl_i, pl_b, pl_n, decide_eq_true_eq, sExt, sExtP, wMulT_i, wMulT_t, wRevS_l, wRevS_t]
    refine ⟨playedL ss b e m, fd, m, rfl, hfd, by rw [played_len]; exact Nat.le_refl _, by rw [played_len]; omega, fun s h => s3_sm (hpm s h), ?_⟩
    have e8 : J.cutD ((fadeL (playedL ss b e m) fd m).map PyData.int) none (some (fd : Int)) = (playedL ss b e fd).map PyData.int := by
      rw [cut_to rfl (by rw [List.length_map, fade_len hfd (by rw [played_len]; exact Nat.le_refl _), played_len]; exact hfd), ← List.map_take, fade_take hfd (by rw [played_len]; exact Nat.le_refl _), played_take hfd]
    try simp only [sSeq, sSkip, sAsg, sAsgP, sNew, sNewP, sRet, sRetO, sIf, sApp, sAppP, sSet, sAug, sTgt, sTgtP, sPar, sFz, frz, sFor, sForR, sRev, sBrk, sCnt, sDrop, eOp, eUn, eCall, eVar, eC, eFr, eTup, eTupR, eAnd, eOr, eNot, eIf, eChain, eIndex, eSl, nLst, nList, nListR, nLc, nLc2, nCall, nSorted, nRep, tOf, tAndJ, tOrJ, tNotJ, tTrue, iSeq, iR1, iR2, iR3, rg1, rg2, evA, pNo, pSo, startE, hide, rd, hide_v, hide_o, hide_n, rd_v, rd_o, rd_n, bind_one, bind_many, setAll, List.map, List.replicate, List.length, List.cons_append, List.nil_append, List.getElem?_cons_zero, List.getElem?_cons_succ, List.set_cons_zero, List.set_cons_succ, Option.bind_some, ex_some, Option.some.injEq, Slot.own.injEq, Slot.val.injEq, exists_eq_left', true_and, and_true, Bool.false_eq_true, if_false, if_true, reduceIte, wEq, wNe, wAdd_i, wAdd_t, wAdd_l, wAdd_s, wSub_i, wMul_i, wDiv_i, wMod_i, wPow_i, wNeg_i, wLt_i, wLe_i, wGt_i, wGe_i, wIs_n, wIs_b, wIsNot_n, wIsNot_b, wIx_l, wIx_t, wLen_l, wLen_t, wAbs_i, wInt_i, wInt_b, wMax2_i, wMin2_i, wTuple_l, wTuple_t, wB_b, wI_i, seqOf_l, seqOf_t, wIAdd_i, wIAdd_t, wIMul_i, wSl_l, wSl_t, wIn_l, wIn_t, wNotIn_l, wNotIn_t, items_l, items_t, lv_i, lv_b, lv_n, eqv_ii, eqv_bb, isNon_n, isNon_i, isNon_b, isNon_s, isNon_t, isNon_l, Bool.not_true, Bool.not_false, b2n_t, b2n_f, pl_i, pl_b, pl_n, decide_eq_true_eq, sExt, sExtP, wMulT_i, wMulT_t, wRevS_l, wRevS_t, e8]
    refine ⟨ss, b, e, fd, rfl, hbe, he, by omega, _, rfl, htm fd (by omega), ?_⟩
    try simp only [sSeq, sSkip, sAsg, sAsgP, sNew, sNewP, sRet, sRetO, sIf, sApp, sAppP, sSet, sAug, sTgt, sTgtP, sPar, sFz, frz, sFor, sForR, sRev, sBrk, sCnt, sDrop, eOp, eUn, eCall, eVar, eC, eFr, eTup, eTupR, eAnd, eOr, eNot, eIf, eChain, eIndex, eSl, nLst, nList, nListR, nLc, nLc2, nCall, nSorted, nRep, tOf, tAndJ, tOrJ, tNotJ, tTrue, iSeq, iR1, iR2, iR3, rg1, rg2, evA, pNo, pSo, startE, hide, rd, hide_v, hide_o, hide_n, rd_v, rd_o, rd_n, bind_one, bind_many, setAll, List.map, List.replicate, List.length, List.cons_append, List.nil_append, List.getElem?_cons_zero, List.getElem?_cons_succ, List.set_cons_zero, List.set_cons_succ, Option.bind_some, ex_some, Option.some.injEq, Slot.own.injEq, Slot.val.injEq, exists_eq_left', true_and, and_true, Bool.false_eq_true, if_false, if_true, reduceIte, wEq, wNe, wAdd_i, wAdd_t, wAdd_l, wAdd_s, wSub_i, wMul_i, wDiv_i, wMod_i, wPow_i, wNeg_i, wLt_i, wLe_i, wGt_i, wGe_i, wIs_n, wIs_b, wIsNot_n, wIsNot_b, wIx_l, wIx_t, wLen_l, wLen_t, wAbs_i, wInt_i, wInt_b, wMax2_i, wMin2_i, wTuple_l, wTuple_t, wB_b, wI_i, seqOf_l, seqOf_t, wIAdd_i, wIAdd_t, wIMul_i, wSl_l, wSl_t, wIn_l, wIn_t, wNotIn_l, wNotIn_t, items_l, items_t, lv_i, lv_b, lv_n, eqv_ii, eqv_bb, isNon_n, isNon_i, isNon_b, isNon_s, isNon_t, isNon_l, Bool.not_true, Bool.not_false, b2n_t, b2n_f, pl_i, pl_b, pl_n, decide_eq_true_eq, sExt, sExtP, wMulT_i, wMulT_t, wRevS_l, wRevS_t]
    exact ⟨ss, b, e, rfl, hbe, he, hl, q⟩
  by_cases hc : loud (playedL ss b e m) = loud ss
  · rw [if_pos hc]
    refine ⟨ss, top, rfl, by omega, hsm, smt, ?_⟩
    refine ⟨raisedL ss top, b, e, m, rfl, hbe, by unfold raisedL; rw [List.length_map]; exact he, by omega, ?_⟩
    refine ⟨playedL ss b e m, top, rfl, by rw [played_len]; omega, fun s h => s3_sm (hpm s h), smt, ?_⟩
    have e9 : playedL (raisedL ss top) b e m = raisedL (playedL ss b e m) top := by
      unfold raisedL
      rw [hc]
      exact played_map hbe he _
    rw [e9]
    refine ⟨_, rfl, tp_T (by unfold raisedL; rw [List.length_map, played_len]; omega), ?_⟩
    try simp only [sSeq, sSkip, sAsg, sAsgP, sNew, sNewP, sRet, sRetO, sIf, sApp, sAppP, sSet, sAug, sTgt, sTgtP, sPar, sFz, frz, sFor, sForR, sRev, sBrk, sCnt, sDrop, eOp, eUn, eCall, eVar, eC, eFr, eTup, eTupR, eAnd, eOr, eNot, eIf, eChain, eIndex, eSl, nLst, nList, nListR, nLc, nLc2, nCall, nSorted, nRep, tOf, tAndJ, tOrJ, tNotJ, tTrue, iSeq, iR1, iR2, iR3, rg1, rg2, evA, pNo, pSo, startE, hide, rd, hide_v, hide_o, hide_n, rd_v, rd_o, rd_n, bind_one, bind_many, setAll, List.map, List.replicate, List.length, List.cons_append, List.nil_append, List.getElem?_cons_zero, List.getElem?_cons_succ, List.set_cons_zero, List.set_cons_succ, Option.bind_some, ex_some, Option.some.injEq, Slot.own.injEq, Slot.val.injEq, exists_eq_left', true_and, and_true, Bool.false_eq_true, if_false, if_true, reduceIte, wEq, wNe, wAdd_i, wAdd_t, wAdd_l, wAdd_s, wSub_i, wMul_i, wDiv_i, wMod_i, wPow_i, wNeg_i, wLt_i, wLe_i, wGt_i, wGe_i, wIs_n, wIs_b, wIsNot_n, wIsNot_b, wIx_l, wIx_t, wLen_l, wLen_t, wAbs_i, wInt_i, wInt_b, wMax2_i, wMin2_i, wTuple_l, wTuple_t, wB_b, wI_i, seqOf_l, seqOf_t, wIAdd_i, wIAdd_t, wIMul_i, wSl_l, wSl_t, wIn_l, wIn_t, wNotIn_l, wNotIn_t, items_l, items_t, lv_i, lv_b, lv_n, eqv_ii, eqv_bb, isNon_n, isNon_i, isNon_b, isNon_s, isNon_t, isNon_l, Bool.not_true, Bool.not_false, b2n_t, b2n_f, pl_i, pl_b, pl_n, decide_eq_true_eq, sExt, sExtP, wMulT_i, wMulT_t, wRevS_l, wRevS_t]
    exact rest _ rfl
  · rw [if_neg hc]
    exact rest _ rfl
/-! ## blended by parts -/
/-- p is n over d -/
def Eq2 (p : Int × Int) (n d : Int) : Prop := 0 < p.2 ∧ p.1 * d = n * p.2
theorem fracP_eq {n d : Int} (hd : 0 < d) : Eq2 (fracP n d) n d := by
  obtain ⟨_, h2, _⟩ := fracP_bound (n := n) (show d ≠ 0 by omega)
  refine ⟨h2, ?_⟩
  unfold fracP
  rw [if_neg (by omega), Int.one_mul, Int.one_mul]
  have g1 : ((Int.gcd n d : Nat) : Int) ∣ n := Int.gcd_dvd_left n d
  have g2 : ((Int.gcd n d : Nat) : Int) ∣ d := Int.gcd_dvd_right n d
  obtain ⟨g0, _⟩ := gcd_facts (n := n) (show d ≠ 0 by omega)
  generalize ((Int.gcd n d : Nat) : Int) = g at g1 g2
  by_cases hg : g = 0
  · subst hg
    have := Int.zero_dvd.mp g2
    omega
  obtain ⟨a, rfl⟩ := g1
  obtain ⟨c, rfl⟩ := g2
  rw [Int.mul_ediv_cancel_left _ hg, Int.mul_ediv_cancel_left _ hg]
  rw [Int.mul_left_comm, Int.mul_assoc, Int.mul_left_comm g a c]
theorem tz_eq {p : Int × Int} {n d : Int} (h : Eq2 p n d) (hd : 0 < d) : tz p.1 p.2 = tz n d := by
  obtain ⟨h0, he⟩ := h
  have key : ∀ a c : Int, a * d = c * p.2 → a / p.2 = c / d := fun a c h => by
    rw [← Int.mul_ediv_mul_of_pos_left a p.2 hd, h, Int.mul_comm p.2 d, Int.mul_ediv_mul_of_pos_left c d h0]
  have hs : 0 ≤ p.1 ↔ 0 ≤ n := by
    constructor
    · intro c
      have : 0 ≤ n * p.2 := by rw [← he]; exact Int.mul_nonneg c (by omega)
      exact Int.nonneg_of_mul_nonneg_left this h0
    · intro c
      have : 0 ≤ p.1 * d := by rw [he]; exact Int.mul_nonneg c (by omega)
      exact Int.nonneg_of_mul_nonneg_left this hd
  unfold tz
  by_cases c : 0 ≤ n
  · rw [if_pos (hs.mpr c), if_pos c, key _ _ he]
  · rw [if_neg (fun z => c (hs.mp z)), if_neg c, key (-p.1) (-n) (by rw [Int.neg_mul, Int.neg_mul, he])]
theorem mx_blend {w k x y : Int} (hw : 0 < w) : mx (fracP (w - k) w) (fracP k w) x y = tz ((w - k) * x + k * y) w := by
  unfold mx
  refine tz_eq ?_ hw
  obtain ⟨p0, pe⟩ := fracP_eq (n := w - k) hw
  obtain ⟨r0, re⟩ := fracP_eq (n := k) hw
  generalize fracP (w - k) w = p at p0 pe
  generalize fracP k w = r at r0 re
  obtain ⟨a0, ae⟩ := fracP_eq (n := x * p.1) (d := 1 * p.2) (by omega)
  obtain ⟨b0, be⟩ := fracP_eq (n := y * r.1) (d := 1 * r.2) (by omega)
  have ea : timesP (x, 1) p = fracP (x * p.1) (1 * p.2) := rfl
  have eb : timesP (y, 1) r = fracP (y * r.1) (1 * r.2) := rfl
  rw [← ea] at a0 ae
  rw [← eb] at b0 be
  generalize timesP (x, 1) p = A at a0 ae
  generalize timesP (y, 1) r = B at b0 be
  obtain ⟨c0, ce⟩ := fracP_eq (n := 0 * A.2 + A.1 * 1) (d := 1 * A.2) (by omega)
  have ec : plusP (0, 1) A = fracP (0 * A.2 + A.1 * 1) (1 * A.2) := rfl
  rw [← ec] at c0 ce
  generalize plusP (0, 1) A = C at c0 ce
  obtain ⟨d0, de⟩ := fracP_eq (n := C.1 * B.2 + B.1 * C.2) (d := C.2 * B.2) (Int.mul_pos c0 b0)
  have ed : plusP C B = fracP (C.1 * B.2 + B.1 * C.2) (C.2 * B.2) := rfl
  rw [← ed] at d0 de
  generalize plusP C B = E at d0 de
  refine ⟨d0, ?_⟩
  rw [Int.one_mul] at ae be ce
  rw [Int.zero_mul, Int.zero_add, Int.mul_one] at ce
  -- A.1 w = (w - k) x A.2; B.1 w = k y B.2; C.1 w = (w - k) x C.2
  have fa : A.1 * w = (w - k) * x * A.2 := by
    have h1 : A.1 * w * p.2 = (w - k) * x * A.2 * p.2 := by
      calc A.1 * w * p.2 = (A.1 * p.2) * w := by rw [Int.mul_assoc, Int.mul_comm w, ← Int.mul_assoc]
        _ = x * p.1 * A.2 * w := by rw [ae]
        _ = x * A.2 * (p.1 * w) := by rw [Int.mul_assoc (x * p.1), Int.mul_comm A.2 w, ← Int.mul_assoc, Int.mul_assoc x p.1 w, Int.mul_assoc x, Int.mul_comm (p.1 * w) A.2, ← Int.mul_assoc]
        _ = x * A.2 * ((w - k) * p.2) := by rw [pe]
        _ = (w - k) * x * A.2 * p.2 := by rw [← Int.mul_assoc, Int.mul_comm (x * A.2) (w - k), ← Int.mul_assoc]
    exact Int.eq_of_mul_eq_mul_right (by omega) h1
  have fb : B.1 * w = k * y * B.2 := by
    have h1 : B.1 * w * r.2 = k * y * B.2 * r.2 := by
      calc B.1 * w * r.2 = (B.1 * r.2) * w := by rw [Int.mul_assoc, Int.mul_comm w, ← Int.mul_assoc]
        _ = y * r.1 * B.2 * w := by rw [be]
        _ = y * B.2 * (r.1 * w) := by rw [Int.mul_assoc (y * r.1), Int.mul_comm B.2 w, ← Int.mul_assoc, Int.mul_assoc y r.1 w, Int.mul_assoc y, Int.mul_comm (r.1 * w) B.2, ← Int.mul_assoc]
        _ = y * B.2 * (k * r.2) := by rw [re]
        _ = k * y * B.2 * r.2 := by rw [← Int.mul_assoc, Int.mul_comm (y * B.2) k, ← Int.mul_assoc]
    exact Int.eq_of_mul_eq_mul_right (by omega) h1
  have fc : C.1 * w = (w - k) * x * C.2 := by
    have h1 : C.1 * w * A.2 = (w - k) * x * C.2 * A.2 := by
      calc C.1 * w * A.2 = (C.1 * A.2) * w := by rw [Int.mul_assoc, Int.mul_comm w, ← Int.mul_assoc]
        _ = A.1 * C.2 * w := by rw [ce]
        _ = (A.1 * w) * C.2 := by rw [Int.mul_assoc, Int.mul_comm C.2 w, ← Int.mul_assoc]
        _ = (w - k) * x * A.2 * C.2 := by rw [fa]
        _ = (w - k) * x * C.2 * A.2 := by rw [Int.mul_assoc, Int.mul_comm A.2, ← Int.mul_assoc]
    exact Int.eq_of_mul_eq_mul_right (by omega) h1
  have h1 : E.1 * w * (C.2 * B.2) = ((w - k) * x + k * y) * E.2 * (C.2 * B.2) := by
    calc E.1 * w * (C.2 * B.2) = (E.1 * (C.2 * B.2)) * w := by rw [Int.mul_assoc, Int.mul_comm w, ← Int.mul_assoc]
      _ = (C.1 * B.2 + B.1 * C.2) * E.2 * w := by rw [de]
      _ = (C.1 * w * B.2 + B.1 * w * C.2) * E.2 := by
        rw [Int.mul_assoc, Int.mul_comm E.2 w, ← Int.mul_assoc, Int.add_mul, Int.mul_assoc C.1, Int.mul_comm B.2 w, ← Int.mul_assoc, Int.mul_assoc B.1, Int.mul_comm C.2 w, ← Int.mul_assoc]
      _ = ((w - k) * x * C.2 * B.2 + k * y * B.2 * C.2) * E.2 := by rw [fc, fb]
      _ = ((w - k) * x + k * y) * (C.2 * B.2) * E.2 := by
        rw [Int.add_mul ((w - k) * x), Int.mul_assoc ((w - k) * x), Int.mul_assoc (k * y), Int.mul_comm B.2 C.2]
      _ = ((w - k) * x + k * y) * E.2 * (C.2 * B.2) := by rw [Int.mul_assoc, Int.mul_comm (C.2 * B.2) E.2, ← Int.mul_assoc]
  have hpos := Int.mul_pos c0 b0
  exact Int.eq_of_mul_eq_mul_right (by omega) h1
theorem blend_first {ss : List Int} {b e w : Nat} (hbe : w ≤ e) (he : e ≤ ss.length) (hw : 0 < w) : ∀ k, 0 < k → k ≤ w → (blendL ss b e w k).getD (e - w) 0 = bl ss b e w 0
  | 0, h, _ => by omega
  | 1, _, _ => by
    show (ss.set (e - w + 0) _).getD (e - w) 0 = _
    rw [List.getD_eq_getElem?_getD, Nat.add_zero, List.getElem?_set_self (by omega)]
    rfl
  | k + 2, _, h => by
    show ((blendL ss b e w (k + 1)).set (e - w + (k + 1)) _).getD (e - w) 0 = _
    rw [List.getD_eq_getElem?_getD, List.getElem?_set_ne (by omega), ← List.getD_eq_getElem?_getD]
    exact blend_first hbe he hw (k + 1) (by omega) (by omega)
theorem fade_first {l : List Int} {w : Nat} (hl : l.length = w) (hw : 0 < w) : (fadeL l 0 w).getD 0 0 = tz (l.getD 0 0 * w) w := by
  unfold fadeL
  rw [List.take_zero, List.nil_append]
  obtain ⟨n, rfl⟩ : ∃ n, w = n + 1 := ⟨w - 1, by omega⟩
  rw [Nat.sub_zero, List.range_succ_eq_map, List.map_cons]
  show tz (l.getD (0 + 0) 0 * ((((n + 1 : Nat) : Int) - ((0 : Nat) : Int)) - ((0 : Nat) : Int))) (((n + 1 : Nat) : Int) - ((0 : Nat) : Int)) = _
  simp
/-! _law_blended_right: 0=draws 1=samples 2=begin 3=end 4=most 5=wide 6=due 7=k 8=told 9=down 10=up 11=one 12=other -/
def m__law_blended_right_b6 : SX := (sSeq (sAsg 11 (eOp wIx (eVar 1) (eOp wAdd (eOp wSub (eVar 3) (eVar 5)) (eVar 7))))
      (sSeq (sAsg 12 (eOp wIx (eVar 1) (eOp wAdd (eOp wSub (eVar 2) (eVar 5)) (eVar 7))))
      (sSet 6 (eOp wIx (eCall S_mixed [(eTup [(eTup [(eVar 11)]), (eTup [(eVar 12)])]), (eTup [(eCall S__law_ratio [(eOp wSub (eVar 5) (eVar 7)), (eVar 5)]), (eCall S__law_ratio [(eVar 7), (eVar 5)])])]) (eC (.int 0))) (eOp wAdd (eOp wSub (eVar 3) (eVar 5)) (eVar 7)))))
def m__law_blended_right_r11 : SX := (sSeq (sAsg 9 (eCall S_faded [(eSl (eVar 1) (pSo (eOp wSub (eVar 3) (eVar 5))) (pSo (eVar 3))), (eC (.int 0)), (eVar 5)]))
      (sSeq (sAsg 10 (eCall S_faded [(eOp wAdd (eUn wRevS (eSl (eVar 1) (pSo (eOp wSub (eVar 2) (eVar 5))) (pSo (eVar 2)))) (eTup [(eC (.int 0))])), (eC (.int 0)), (eOp wAdd (eVar 5) (eC (.int 1)))]))
      (sRet (eAnd (eUn (wIsi "tuple") (eVar 9)) (eAnd (eUn (wIsi "tuple") (eVar 10)) (eAnd (eCall S__law_same [(eOp wIx (eVar 8) (eOp wSub (eVar 3) (eVar 5))), (eOp wIx (eVar 9) (eC (.int 0)))]) (eOp wEq (eCall wLen [(eVar 10)]) (eOp wAdd (eVar 5) (eC (.int 1))))))))))
def m__law_blended_right_r6 : SX := (sSeq (sAsg 8 (eCall S_blended [(eVar 1), (eVar 2), (eVar 3), (eVar 5)]))
      (sSeq (sIf (tNotJ (tOf (eCall S__law_same [(eVar 8), (eUn wTuple (eVar 6))]))) (sRet (eC (.bool false))) sSkip)
      m__law_blended_right_r11))
def m__law_blended_right_r2 : SX := (sSeq (sAsg 5 (eOp wAdd (eC (.int 1)) (eCall S__law_take [(eVar 0), (eVar 4)])))
      (sSeq (sNew 6 (nList (eVar 1)))
      (sSeq (sForR (iR1 (eVar 5)) (.one 7) m__law_blended_right_b6)
      m__law_blended_right_r6)))
def m__law_blended_right : SX := (sSeq (sAsg 4 (eCall wMin2 [(eVar 2), (eOp wSub (eVar 3) (eVar 2))]))
      (sSeq (sIf (tOf (eOp wEq (eVar 4) (eC (.int 0)))) (sRet (eC (.bool true))) sSkip)
      m__law_blended_right_r2))
def S__law_blended_right : WL := fun ds Q => ∃ (ss : List Int) (b e : Nat), ds = [.dict [], T ss, .int (b : Int), .int (e : Int)] ∧ b < e ∧ e ≤ ss.length ∧ ss.length ≤ 100 ∧ (∀ s ∈ ss, S3 s) ∧ Q (.bool true)
theorem wp__law_blended_right (ds : List D) (QD : D → Prop) (h : S__law_blended_right ds QD) : m__law_blended_right (startE 13 ds) ⟨fun _ => QD .none, QD, noB, noB, fun es => QD (.list es)⟩ := by
  obtain ⟨ss, b, e, rfl, hbe, he, hl, hs, q⟩ := h
  unfold m__law_blended_right
  try simp only [sSeq, sSkip, sAsg, sAsgP, sNew, sNewP, sRet, sRetO, sIf, sApp, sAppP, sSet, sAug, sTgt, sTgtP, sPar, sFz, frz, sFor, sForR, sRev, sBrk, sCnt, sDrop, eOp, eUn, eCall, eVar, eC, eFr, eTup, eTupR, eAnd, eOr, eNot, eIf, eChain, eIndex, eSl, nLst, nList, nListR, nLc, nLc2, nCall, nSorted, nRep, tOf, tAndJ, tOrJ, tNotJ, tTrue, iSeq, iR1, iR2, iR3, rg1, rg2, evA, pNo, pSo, startE, hide, rd, hide_v, hide_o, hide_n, rd_v, rd_o, rd_n, bind_one, bind_many, setAll, List.map, List.replicate, List.length, List.cons_append, List.nil_append, List.getElem?_cons_zero, List.getElem?_cons_succ, List.set_cons_zero, List.set_cons_succ, Option.bind_some, ex_some, Option.some.injEq, Slot.own.injEq, Slot.val.injEq, exists_eq_left', true_and, and_true, Bool.false_eq_true, if_false, if_true, reduceIte, wEq, wNe, wAdd_i, wAdd_t, wAdd_l, wAdd_s, wSub_i, wMul_i, wDiv_i, wMod_i, wPow_i, wNeg_i, wLt_i, wLe_i, wGt_i, wGe_i, wIs_n, wIs_b, wIsNot_n, wIsNot_b, wIx_l, wIx_t, wLen_l, wLen_t, wAbs_i, wInt_i, wInt_b, wMax2_i, wMin2_i, wTuple_l, wTuple_t, wB_b, wI_i, seqOf_l, seqOf_t, wIAdd_i, wIAdd_t, wIMul_i, wSl_l, wSl_t, wIn_l, wIn_t, wNotIn_l, wNotIn_t, items_l, items_t, lv_i, lv_b, lv_n, eqv_ii, eqv_bb, isNon_n, isNon_i, isNon_b, isNon_s, isNon_t, isNon_l, Bool.not_true, Bool.not_false, b2n_t, b2n_f, pl_i, pl_b, pl_n, decide_eq_true_eq, sExt, sExtP, wMulT_i, wMulT_t, wRevS_l, wRevS_t]
  split
  · exact q
  rename_i hmost
  unfold m__law_blended_right_r2
  try simp only [sSeq, sSkip, sAsg, sAsgP, sNew, sNewP, sRet, sRetO, sIf, sApp, sAppP, sSet, sAug, sTgt, sTgtP, sPar, sFz, frz, sFor, sForR, sRev, sBrk, sCnt, sDrop, eOp, eUn, eCall, eVar, eC, eFr, eTup, eTupR, eAnd, eOr, eNot, eIf, eChain, eIndex, eSl, nLst, nList, nListR, nLc, nLc2, nCall, nSorted, nRep, tOf, tAndJ, tOrJ, tNotJ, tTrue, iSeq, iR1, iR2, iR3, rg1, rg2, evA, pNo, pSo, startE, hide, rd, hide_v, hide_o, hide_n, rd_v, rd_o, rd_n, bind_one, bind_many, setAll, List.map, List.replicate, List.length, List.cons_append, List.nil_append, List.getElem?_cons_zero, List.getElem?_cons_succ, List.set_cons_zero, List.set_cons_succ, Option.bind_some, ex_some, Option.some.injEq, Slot.own.injEq, Slot.val.injEq, exists_eq_left', true_and, and_true, Bool.false_eq_true, if_false, if_true, reduceIte, wEq, wNe, wAdd_i, wAdd_t, wAdd_l, wAdd_s, wSub_i, wMul_i, wDiv_i, wMod_i, wPow_i, wNeg_i, wLt_i, wLe_i, wGt_i, wGe_i, wIs_n, wIs_b, wIsNot_n, wIsNot_b, wIx_l, wIx_t, wLen_l, wLen_t, wAbs_i, wInt_i, wInt_b, wMax2_i, wMin2_i, wTuple_l, wTuple_t, wB_b, wI_i, seqOf_l, seqOf_t, wIAdd_i, wIAdd_t, wIMul_i, wSl_l, wSl_t, wIn_l, wIn_t, wNotIn_l, wNotIn_t, items_l, items_t, lv_i, lv_b, lv_n, eqv_ii, eqv_bb, isNon_n, isNon_i, isNon_b, isNon_s, isNon_t, isNon_l, Bool.not_true, Bool.not_false, b2n_t, b2n_f, pl_i, pl_b, pl_n, decide_eq_true_eq, sExt, sExtP, wMulT_i, wMulT_t, wRevS_l, wRevS_t]
  refine ⟨_, rfl, by omega, fun w' w0 w1 => ?_⟩
  obtain ⟨w, hw⟩ := Int.eq_ofNat_of_zero_le (show 0 ≤ 1 + w' by omega)
  have hw0 : 0 < w := by omega
  have hwb : w ≤ b := by omega
  try simp only [sSeq, sSkip, sAsg, sAsgP, sNew, sNewP, sRet, sRetO, sIf, sApp, sAppP, sSet, sAug, sTgt, sTgtP, sPar, sFz, frz, sFor, sForR, sRev, sBrk, sCnt, sDrop, eOp, eUn, eCall, eVar, eC, eFr, eTup, eTupR, eAnd, eOr, eNot, eIf, eChain, eIndex, eSl, nLst, nList, nListR, nLc, nLc2, nCall, nSorted, nRep, tOf, tAndJ, tOrJ, tNotJ, tTrue, iSeq, iR1, iR2, iR3, rg1, rg2, evA, pNo, pSo, startE, hide, rd, hide_v, hide_o, hide_n, rd_v, rd_o, rd_n, bind_one, bind_many, setAll, List.map, List.replicate, List.length, List.cons_append, List.nil_append, List.getElem?_cons_zero, List.getElem?_cons_succ, List.set_cons_zero, List.set_cons_succ, Option.bind_some, ex_some, Option.some.injEq, Slot.own.injEq, Slot.val.injEq, exists_eq_left', true_and, and_true, Bool.false_eq_true, if_false, if_true, reduceIte, wEq, wNe, wAdd_i, wAdd_t, wAdd_l, wAdd_s, wSub_i, wMul_i, wDiv_i, wMod_i, wPow_i, wNeg_i, wLt_i, wLe_i, wGt_i, wGe_i, wIs_n, wIs_b, wIsNot_n, wIsNot_b, wIx_l, wIx_t, wLen_l, wLen_t, wAbs_i, wInt_i, wInt_b, wMax2_i, wMin2_i, wTuple_l, wTuple_t, wB_b, wI_i, seqOf_l, seqOf_t, wIAdd_i, wIAdd_t, wIMul_i, wSl_l, wSl_t, wIn_l, wIn_t, wNotIn_l, wNotIn_t, items_l, items_t, lv_i, lv_b, lv_n, eqv_ii, eqv_bb, isNon_n, isNon_i, isNon_b, isNon_s, isNon_t, isNon_l, Bool.not_true, Bool.not_false, b2n_t, b2n_f, pl_i, pl_b, pl_n, decide_eq_true_eq, sExt, sExtP, wMulT_i, wMulT_t, wRevS_l, wRevS_t, hw]
  refine ⟨⟨by decide, by decide, by omega, by omega, by omega⟩, ?_⟩
  refine forW_inv (fun i en => i ≤ w ∧ ∃ s7 s11 s12, en = [.val (.dict []), .val (T ss), .val (.int (b : Int)), .val (.int (e : Int)), .val (.int (min (b : Int) ((e : Int) - b))), .val (.int (w : Int)), .own ((blendL ss b e w i).map PyData.int), s7, .no, .no, .no, s11, s12]) ⟨Nat.zero_le _, _, _, _, rfl⟩ ?_ ?_
  · rintro i d en hi ⟨_, s7, s11, s12, rfl⟩ R hR
    obtain ⟨rfl, hlt⟩ := rgD_get0 hi
    refine ⟨_, rfl, ?_⟩
    unfold m__law_blended_right_b6
    have a1 := getD_at (ss := ss) (i := e - w + i) (k := (e : Int) - (w : Int) + (i : Int)) (by omega) (by omega)
    have a2 := getD_at (ss := ss) (i := b - w + i) (k := (b : Int) - (w : Int) + (i : Int)) (by omega) (by omega)
    have m1 := hs _ (getD_mem (ss := ss) (i := e - w + i) (by omega))
    have m2 := hs _ (getD_mem (ss := ss) (i := b - w + i) (by omega))
    have hix : ixN (blendL ss b e w i).length ((e : Int) - (w : Int) + (i : Int)) = some (e - w + i) := by
      rw [blend_len, ixN_some (by omega) (by omega)]
      congr 1
      omega
    try simp only [sSeq, sSkip, sAsg, sAsgP, sNew, sNewP, sRet, sRetO, sIf, sApp, sAppP, sSet, sAug, sTgt, sTgtP, sPar, sFz, frz, sFor, sForR, sRev, sBrk, sCnt, sDrop, eOp, eUn, eCall, eVar, eC, eFr, eTup, eTupR, eAnd, eOr, eNot, eIf, eChain, eIndex, eSl, nLst, nList, nListR, nLc, nLc2, nCall, nSorted, nRep, tOf, tAndJ, tOrJ, tNotJ, tTrue, iSeq, iR1, iR2, iR3, rg1, rg2, evA, pNo, pSo, startE, hide, rd, hide_v, hide_o, hide_n, rd_v, rd_o, rd_n, bind_one, bind_many, setAll, List.map, List.replicate, List.length, List.cons_append, List.nil_append, List.getElem?_cons_zero, List.getElem?_cons_succ, List.set_cons_zero, List.set_cons_succ, Option.bind_some, ex_some, Option.some.injEq, Slot.own.injEq, Slot.val.injEq, exists_eq_left', true_and, and_true, Bool.false_eq_true, if_false, if_true, reduceIte, wEq, wNe, wAdd_i, wAdd_t, wAdd_l, wAdd_s, wSub_i, wMul_i, wDiv_i, wMod_i, wPow_i, wNeg_i, wLt_i, wLe_i, wGt_i, wGe_i, wIs_n, wIs_b, wIsNot_n, wIsNot_b, wIx_l, wIx_t, wLen_l, wLen_t, wAbs_i, wInt_i, wInt_b, wMax2_i, wMin2_i, wTuple_l, wTuple_t, wB_b, wI_i, seqOf_l, seqOf_t, wIAdd_i, wIAdd_t, wIMul_i, wSl_l, wSl_t, wIn_l, wIn_t, wNotIn_l, wNotIn_t, items_l, items_t, lv_i, lv_b, lv_n, eqv_ii, eqv_bb, isNon_n, isNon_i, isNon_b, isNon_s, isNon_t, isNon_l, Bool.not_true, Bool.not_false, b2n_t, b2n_f, pl_i, pl_b, pl_n, decide_eq_true_eq, sExt, sExtP, wMulT_i, wMulT_t, wRevS_l, wRevS_t, a1, a2, List.length_map, hix]
    refine ⟨(w : Int) - i, w, rfl, by omega, by omega, ?_⟩
    refine ⟨(i : Int), w, rfl, by omega, by omega, ?_⟩
    refine ⟨[ss.getD (e - w + i) 0], [ss.getD (b - w + i) 0], fracP ((w : Int) - i) w, fracP i w, rfl, rfl, (show 1 ≤ 1000000 by decide), ?_, ?_, ratio_pt (by omega) (by omega) (by omega), ratio_pt (by omega) (by omega) (by omega), ?_⟩
    · intro s h
      rw [List.mem_singleton] at h
      rw [h]
      exact m1
    · intro s h
      rw [List.mem_singleton] at h
      rw [h]
      exact m2
    have e0 : T (mixL (fracP ((w : Int) - i) w) (fracP i w) [ss.getD (e - w + i) 0] [ss.getD (b - w + i) 0]) = .tuple [.int (bl ss b e w i)] := by
      show PyData.tuple [.int (mx _ _ _ _)] = _
      rw [mx_blend (by omega)]
      rfl
    rw [e0]
    try simp only [sSeq, sSkip, sAsg, sAsgP, sNew, sNewP, sRet, sRetO, sIf, sApp, sAppP, sSet, sAug, sTgt, sTgtP, sPar, sFz, frz, sFor, sForR, sRev, sBrk, sCnt, sDrop, eOp, eUn, eCall, eVar, eC, eFr, eTup, eTupR, eAnd, eOr, eNot, eIf, eChain, eIndex, eSl, nLst, nList, nListR, nLc, nLc2, nCall, nSorted, nRep, tOf, tAndJ, tOrJ, tNotJ, tTrue, iSeq, iR1, iR2, iR3, rg1, rg2, evA, pNo, pSo, startE, hide, rd, hide_v, hide_o, hide_n, rd_v, rd_o, rd_n, bind_one, bind_many, setAll, List.map, List.replicate, List.length, List.cons_append, List.nil_append, List.getElem?_cons_zero, List.getElem?_cons_succ, List.set_cons_zero, List.set_cons_succ, Option.bind_some, ex_some, Option.some.injEq, Slot.own.injEq, Slot.val.injEq, exists_eq_left', true_and, and_true, Bool.false_eq_true, if_false, if_true, reduceIte, wEq, wNe, wAdd_i, wAdd_t, wAdd_l, wAdd_s, wSub_i, wMul_i, wDiv_i, wMod_i, wPow_i, wNeg_i, wLt_i, wLe_i, wGt_i, wGe_i, wIs_n, wIs_b, wIsNot_n, wIsNot_b, wIx_l, wIx_t, wLen_l, wLen_t, wAbs_i, wInt_i, wInt_b, wMax2_i, wMin2_i, wTuple_l, wTuple_t, wB_b, wI_i, seqOf_l, seqOf_t, wIAdd_i, wIAdd_t, wIMul_i, wSl_l, wSl_t, wIn_l, wIn_t, wNotIn_l, wNotIn_t, items_l, items_t, lv_i, lv_b, lv_n, eqv_ii, eqv_bb, isNon_n, isNon_i, isNon_b, isNon_s, isNon_t, isNon_l, Bool.not_true, Bool.not_false, b2n_t, b2n_f, pl_i, pl_b, pl_n, decide_eq_true_eq, sExt, sExtP, wMulT_i, wMulT_t, wRevS_l, wRevS_t]
    refine ⟨_, rfl, rfl, hR _ ⟨by omega, .val (.int (i : Int)), .val (.int (ss.getD (e - w + i) 0)), .val (.int (ss.getD (b - w + i) 0)), ?_⟩⟩
    rw [← List.map_set]
    rfl
  · rintro en ⟨_, s7, s11, s12, rfl⟩
    have e3 : (rgD 0 (w : Int)).length = w := by rw [rgD_length]; omega
    rw [e3]
    unfold m__law_blended_right_r6
    try simp only [sSeq, sSkip, sAsg, sAsgP, sNew, sNewP, sRet, sRetO, sIf, sApp, sAppP, sSet, sAug, sTgt, sTgtP, sPar, sFz, frz, sFor, sForR, sRev, sBrk, sCnt, sDrop, eOp, eUn, eCall, eVar, eC, eFr, eTup, eTupR, eAnd, eOr, eNot, eIf, eChain, eIndex, eSl, nLst, nList, nListR, nLc, nLc2, nCall, nSorted, nRep, tOf, tAndJ, tOrJ, tNotJ, tTrue, iSeq, iR1, iR2, iR3, rg1, rg2, evA, pNo, pSo, startE, hide, rd, hide_v, hide_o, hide_n, rd_v, rd_o, rd_n, bind_one, bind_many, setAll, List.map, List.replicate, List.length, List.cons_append, List.nil_append, List.getElem?_cons_zero, List.getElem?_cons_succ, List.set_cons_zero, List.set_cons_succ, Option.bind_some, ex_some, Option.some.injEq, Slot.own.injEq, Slot.val.injEq, exists_eq_left', true_and, and_true, Bool.false_eq_true, if_false, if_true, reduceIte, wEq, wNe, wAdd_i, wAdd_t, wAdd_l, wAdd_s, wSub_i, wMul_i, wDiv_i, wMod_i, wPow_i, wNeg_i, wLt_i, wLe_i, wGt_i, wGe_i, wIs_n, wIs_b, wIsNot_n, wIsNot_b, wIx_l, wIx_t, wLen_l, wLen_t, wAbs_i, wInt_i, wInt_b, wMax2_i, wMin2_i, wTuple_l, wTuple_t, wB_b, wI_i, seqOf_l, seqOf_t, wIAdd_i, wIAdd_t, wIMul_i, wSl_l, wSl_t, wIn_l, wIn_t, wNotIn_l, wNotIn_t, items_l, items_t, lv_i, lv_b, lv_n, eqv_ii, eqv_bb, isNon_n, isNon_i, isNon_b, isNon_s, isNon_t, isNon_l, Bool.not_true, Bool.not_false, b2n_t, b2n_f, pl_i, pl_b, pl_n, decide_eq_true_eq, sExt, sExtP, wMulT_i, wMulT_t, wRevS_l, wRevS_t]
    refine ⟨ss, b, e, w, rfl, hbe, he, hw0, hwb, by omega, fun s h => s3_sm (hs s h), ?_⟩
    try simp only [sSeq, sSkip, sAsg, sAsgP, sNew, sNewP, sRet, sRetO, sIf, sApp, sAppP, sSet, sAug, sTgt, sTgtP, sPar, sFz, frz, sFor, sForR, sRev, sBrk, sCnt, sDrop, eOp, eUn, eCall, eVar, eC, eFr, eTup, eTupR, eAnd, eOr, eNot, eIf, eChain, eIndex, eSl, nLst, nList, nListR, nLc, nLc2, nCall, nSorted, nRep, tOf, tAndJ, tOrJ, tNotJ, tTrue, iSeq, iR1, iR2, iR3, rg1, rg2, evA, pNo, pSo, startE, hide, rd, hide_v, hide_o, hide_n, rd_v, rd_o, rd_n, bind_one, bind_many, setAll, List.map, List.replicate, List.length, List.cons_append, List.nil_append, List.getElem?_cons_zero, List.getElem?_cons_succ, List.set_cons_zero, List.set_cons_succ, Option.bind_some, ex_some, Option.some.injEq, Slot.own.injEq, Slot.val.injEq, exists_eq_left', true_and, and_true, Bool.false_eq_true, if_false, if_true, reduceIte, wEq, wNe, wAdd_i, wAdd_t, wAdd_l, wAdd_s, wSub_i, wMul_i, wDiv_i, wMod_i, wPow_i, wNeg_i, wLt_i, wLe_i, wGt_i, wGe_i, wIs_n, wIs_b, wIsNot_n, wIsNot_b, wIx_l, wIx_t, wLen_l, wLen_t, wAbs_i, wInt_i, wInt_b, wMax2_i, wMin2_i, wTuple_l, wTuple_t, wB_b, wI_i, seqOf_l, seqOf_t, wIAdd_i, wIAdd_t, wIMul_i, wSl_l, wSl_t, wIn_l, wIn_t, wNotIn_l, wNotIn_t, items_l, items_t, lv_i, lv_b, lv_n, eqv_ii, eqv_bb, isNon_n, isNon_i, isNon_b, isNon_s, isNon_t, isNon_l, Bool.not_true, Bool.not_false, b2n_t, b2n_f, pl_i, pl_b, pl_n, decide_eq_true_eq, sExt, sExtP, wMulT_i, wMulT_t, wRevS_l, wRevS_t]
    refine ⟨_, rfl, tp_T (by rw [blend_len]; omega), ?_⟩
    try simp only [sSeq, sSkip, sAsg, sAsgP, sNew, sNewP, sRet, sRetO, sIf, sApp, sAppP, sSet, sAug, sTgt, sTgtP, sPar, sFz, frz, sFor, sForR, sRev, sBrk, sCnt, sDrop, eOp, eUn, eCall, eVar, eC, eFr, eTup, eTupR, eAnd, eOr, eNot, eIf, eChain, eIndex, eSl, nLst, nList, nListR, nLc, nLc2, nCall, nSorted, nRep, tOf, tAndJ, tOrJ, tNotJ, tTrue, iSeq, iR1, iR2, iR3, rg1, rg2, evA, pNo, pSo, startE, hide, rd, hide_v, hide_o, hide_n, rd_v, rd_o, rd_n, bind_one, bind_many, setAll, List.map, List.replicate, List.length, List.cons_append, List.nil_append, List.getElem?_cons_zero, List.getElem?_cons_succ, List.set_cons_zero, List.set_cons_succ, Option.bind_some, ex_some, Option.some.injEq, Slot.own.injEq, Slot.val.injEq, exists_eq_left', true_and, and_true, Bool.false_eq_true, if_false, if_true, reduceIte, wEq, wNe, wAdd_i, wAdd_t, wAdd_l, wAdd_s, wSub_i, wMul_i, wDiv_i, wMod_i, wPow_i, wNeg_i, wLt_i, wLe_i, wGt_i, wGe_i, wIs_n, wIs_b, wIsNot_n, wIsNot_b, wIx_l, wIx_t, wLen_l, wLen_t, wAbs_i, wInt_i, wInt_b, wMax2_i, wMin2_i, wTuple_l, wTuple_t, wB_b, wI_i, seqOf_l, seqOf_t, wIAdd_i, wIAdd_t, wIMul_i, wSl_l, wSl_t, wIn_l, wIn_t, wNotIn_l, wNotIn_t, items_l, items_t, lv_i, lv_b, lv_n, eqv_ii, eqv_bb, isNon_n, isNon_i, isNon_b, isNon_s, isNon_t, isNon_l, Bool.not_true, Bool.not_false, b2n_t, b2n_f, pl_i, pl_b, pl_n, decide_eq_true_eq, sExt, sExtP, wMulT_i, wMulT_t, wRevS_l, wRevS_t]
    unfold m__law_blended_right_r11
    have c1 : J.cutD (ss.map PyData.int) (some ((e : Int) - w)) (some (e : Int)) = ((ss.drop (e - w)).take w).map PyData.int := by
      rw [cut_nat (a := e - w) (b := e) (by omega) rfl (by rw [List.length_map]; omega) (by rw [List.length_map]; omega), List.map_take, List.map_drop, show e - (e - w) = w by omega]
    have c2 : J.cutD (ss.map PyData.int) (some ((b : Int) - w)) (some (b : Int)) = ((ss.drop (b - w)).take w).map PyData.int := by
      rw [cut_nat (a := b - w) (b := b) (by omega) rfl (by rw [List.length_map]; omega) (by rw [List.length_map]; omega), List.map_take, List.map_drop, show b - (b - w) = w by omega]
    have l1 : ((ss.drop (e - w)).take w).length = w := by rw [List.length_take, List.length_drop]; omega
    have l2 : ((ss.drop (b - w)).take w).length = w := by rw [List.length_take, List.length_drop]; omega
    have e5 : (((ss.drop (b - w)).take w).map PyData.int).reverse ++ [PyData.int 0] = (((ss.drop (b - w)).take w).reverse ++ [0]).map PyData.int := by rw [List.map_append, List.map_reverse]; rfl
    have hz : sizeLine = 16777216 := sizeLine_eq
    have a3 := getD_at (ss := blendL ss b e w w) (i := e - w) (k := (e : Int) - w) (by omega) (by rw [blend_len]; omega)
    try simp only [sSeq, sSkip, sAsg, sAsgP, sNew, sNewP, sRet, sRetO, sIf, sApp, sAppP, sSet, sAug, sTgt, sTgtP, sPar, sFz, frz, sFor, sForR, sRev, sBrk, sCnt, sDrop, eOp, eUn, eCall, eVar, eC, eFr, eTup, eTupR, eAnd, eOr, eNot, eIf, eChain, eIndex, eSl, nLst, nList, nListR, nLc, nLc2, nCall, nSorted, nRep, tOf, tAndJ, tOrJ, tNotJ, tTrue, iSeq, iR1, iR2, iR3, rg1, rg2, evA, pNo, pSo, startE, hide, rd, hide_v, hide_o, hide_n, rd_v, rd_o, rd_n, bind_one, bind_many, setAll, List.map, List.replicate, List.length, List.cons_append, List.nil_append, List.getElem?_cons_zero, List.getElem?_cons_succ, List.set_cons_zero, List.set_cons_succ, Option.bind_some, ex_some, Option.some.injEq, Slot.own.injEq, Slot.val.injEq, exists_eq_left', true_and, and_true, Bool.false_eq_true, if_false, if_true, reduceIte, wEq, wNe, wAdd_i, wAdd_t, wAdd_l, wAdd_s, wSub_i, wMul_i, wDiv_i, wMod_i, wPow_i, wNeg_i, wLt_i, wLe_i, wGt_i, wGe_i, wIs_n, wIs_b, wIsNot_n, wIsNot_b, wIx_l, wIx_t, wLen_l, wLen_t, wAbs_i, wInt_i, wInt_b, wMax2_i, wMin2_i, wTuple_l, wTuple_t, wB_b, wI_i, seqOf_l, seqOf_t, wIAdd_i, wIAdd_t, wIMul_i, wSl_l, wSl_t, wIn_l, wIn_t, wNotIn_l, wNotIn_t, items_l, items_t, lv_i, lv_b, lv_n, eqv_ii, eqv_bb, isNon_n, isNon_i, isNon_b, isNon_s, isNon_t, isNon_l, Bool.not_true, Bool.not_false, b2n_t, b2n_f, pl_i, pl_b, pl_n, decide_eq_true_eq, sExt, sExtP, wMulT_i, wMulT_t, wRevS_l, wRevS_t, c1, c2, List.length_reverse, List.length_map, l2, e5]
    refine ⟨(ss.drop (e - w)).take w, 0, w, rfl, Nat.zero_le _, by rw [l1]; exact Nat.le_refl _, by omega, fun s h => s3_sm (hs s (List.mem_of_mem_drop (List.mem_of_mem_take h))), ?_⟩
    try simp only [sSeq, sSkip, sAsg, sAsgP, sNew, sNewP, sRet, sRetO, sIf, sApp, sAppP, sSet, sAug, sTgt, sTgtP, sPar, sFz, frz, sFor, sForR, sRev, sBrk, sCnt, sDrop, eOp, eUn, eCall, eVar, eC, eFr, eTup, eTupR, eAnd, eOr, eNot, eIf, eChain, eIndex, eSl, nLst, nList, nListR, nLc, nLc2, nCall, nSorted, nRep, tOf, tAndJ, tOrJ, tNotJ, tTrue, iSeq, iR1, iR2, iR3, rg1, rg2, evA, pNo, pSo, startE, hide, rd, hide_v, hide_o, hide_n, rd_v, rd_o, rd_n, bind_one, bind_many, setAll, List.map, List.replicate, List.length, List.cons_append, List.nil_append, List.getElem?_cons_zero, List.getElem?_cons_succ, List.set_cons_zero, List.set_cons_succ, Option.bind_some, ex_some, Option.some.injEq, Slot.own.injEq, Slot.val.injEq, exists_eq_left', true_and, and_true, Bool.false_eq_true, if_false, if_true, reduceIte, wEq, wNe, wAdd_i, wAdd_t, wAdd_l, wAdd_s, wSub_i, wMul_i, wDiv_i, wMod_i, wPow_i, wNeg_i, wLt_i, wLe_i, wGt_i, wGe_i, wIs_n, wIs_b, wIsNot_n, wIsNot_b, wIx_l, wIx_t, wLen_l, wLen_t, wAbs_i, wInt_i, wInt_b, wMax2_i, wMin2_i, wTuple_l, wTuple_t, wB_b, wI_i, seqOf_l, seqOf_t, wIAdd_i, wIAdd_t, wIMul_i, wSl_l, wSl_t, wIn_l, wIn_t, wNotIn_l, wNotIn_t, items_l, items_t, lv_i, lv_b, lv_n, eqv_ii, eqv_bb, isNon_n, isNon_i, isNon_b, isNon_s, isNon_t, isNon_l, Bool.not_true, Bool.not_false, b2n_t, b2n_f, pl_i, pl_b, pl_n, decide_eq_true_eq, sExt, sExtP, wMulT_i, wMulT_t, wRevS_l, wRevS_t]
    refine ⟨by omega, _, 0, w + 1, rfl, Nat.zero_le _, by rw [List.length_append, List.length_reverse, l2]; exact Nat.le_refl _, by rw [List.length_append, List.length_reverse, l2]; simp; omega, ?_, ?_⟩
    · intro s h
      rcases List.mem_append.mp h with h | h
      · exact s3_sm (hs s (List.mem_of_mem_drop (List.mem_of_mem_take (List.mem_reverse.mp h))))
      · rw [List.mem_singleton] at h
        rw [h]
        exact Nat.pow_pos (by decide)
    try simp only [sSeq, sSkip, sAsg, sAsgP, sNew, sNewP, sRet, sRetO, sIf, sApp, sAppP, sSet, sAug, sTgt, sTgtP, sPar, sFz, frz, sFor, sForR, sRev, sBrk, sCnt, sDrop, eOp, eUn, eCall, eVar, eC, eFr, eTup, eTupR, eAnd, eOr, eNot, eIf, eChain, eIndex, eSl, nLst, nList, nListR, nLc, nLc2, nCall, nSorted, nRep, tOf, tAndJ, tOrJ, tNotJ, tTrue, iSeq, iR1, iR2, iR3, rg1, rg2, evA, pNo, pSo, startE, hide, rd, hide_v, hide_o, hide_n, rd_v, rd_o, rd_n, bind_one, bind_many, setAll, List.map, List.replicate, List.length, List.cons_append, List.nil_append, List.getElem?_cons_zero, List.getElem?_cons_succ, List.set_cons_zero, List.set_cons_succ, Option.bind_some, ex_some, Option.some.injEq, Slot.own.injEq, Slot.val.injEq, exists_eq_left', true_and, and_true, Bool.false_eq_true, if_false, if_true, reduceIte, wEq, wNe, wAdd_i, wAdd_t, wAdd_l, wAdd_s, wSub_i, wMul_i, wDiv_i, wMod_i, wPow_i, wNeg_i, wLt_i, wLe_i, wGt_i, wGe_i, wIs_n, wIs_b, wIsNot_n, wIsNot_b, wIx_l, wIx_t, wLen_l, wLen_t, wAbs_i, wInt_i, wInt_b, wMax2_i, wMin2_i, wTuple_l, wTuple_t, wB_b, wI_i, seqOf_l, seqOf_t, wIAdd_i, wIAdd_t, wIMul_i, wSl_l, wSl_t, wIn_l, wIn_t, wNotIn_l, wNotIn_t, items_l, items_t, lv_i, lv_b, lv_n, eqv_ii, eqv_bb, isNon_n, isNon_i, isNon_b, isNon_s, isNon_t, isNon_l, Bool.not_true, Bool.not_false, b2n_t, b2n_f, pl_i, pl_b, pl_n, decide_eq_true_eq, sExt, sExtP, wMulT_i, wMulT_t, wRevS_l, wRevS_t, wIsi, isTy]
    have k1 : (("tuple" : String) == "tuple") = true := by decide
    have f1 : (fadeL ((ss.drop (e - w)).take w) 0 w).length = w := by rw [fade_len (Nat.zero_le _) (by rw [l1]; exact Nat.le_refl _), l1]
    have f2 : (fadeL (((ss.drop (b - w)).take w).reverse ++ [0]) 0 (w + 1)).length = w + 1 := by
      rw [fade_len (Nat.zero_le _) (by rw [List.length_append, List.length_reverse, l2]; exact Nat.le_refl _), List.length_append, List.length_reverse, l2]
      rfl
    have a4 := getD_at (ss := fadeL ((ss.drop (e - w)).take w) 0 w) (i := 0) (k := 0) rfl (by omega)
    try simp only [sSeq, sSkip, sAsg, sAsgP, sNew, sNewP, sRet, sRetO, sIf, sApp, sAppP, sSet, sAug, sTgt, sTgtP, sPar, sFz, frz, sFor, sForR, sRev, sBrk, sCnt, sDrop, eOp, eUn, eCall, eVar, eC, eFr, eTup, eTupR, eAnd, eOr, eNot, eIf, eChain, eIndex, eSl, nLst, nList, nListR, nLc, nLc2, nCall, nSorted, nRep, tOf, tAndJ, tOrJ, tNotJ, tTrue, iSeq, iR1, iR2, iR3, rg1, rg2, evA, pNo, pSo, startE, hide, rd, hide_v, hide_o, hide_n, rd_v, rd_o, rd_n, bind_one, bind_many, setAll, List.map, List.replicate, List.length, List.cons_append, List.nil_append, List.getElem?_cons_zero, List.getElem?_cons_succ, List.set_cons_zero, List.set_cons_succ, Option.bind_some, ex_some, Option.some.injEq, Slot.own.injEq, Slot.val.injEq, exists_eq_left', true_and, and_true, Bool.false_eq_true, if_false, if_true, reduceIte, wEq, wNe, wAdd_i, wAdd_t, wAdd_l, wAdd_s, wSub_i, wMul_i, wDiv_i, wMod_i, wPow_i, wNeg_i, wLt_i, wLe_i, wGt_i, wGe_i, wIs_n, wIs_b, wIsNot_n, wIsNot_b, wIx_l, wIx_t, wLen_l, wLen_t, wAbs_i, wInt_i, wInt_b, wMax2_i, wMin2_i, wTuple_l, wTuple_t, wB_b, wI_i, seqOf_l, seqOf_t, wIAdd_i, wIAdd_t, wIMul_i, wSl_l, wSl_t, wIn_l, wIn_t, wNotIn_l, wNotIn_t, items_l, items_t, lv_i, lv_b, lv_n, eqv_ii, eqv_bb, isNon_n, isNon_i, isNon_b, isNon_s, isNon_t, isNon_l, Bool.not_true, Bool.not_false, b2n_t, b2n_f, pl_i, pl_b, pl_n, decide_eq_true_eq, sExt, sExtP, wMulT_i, wMulT_t, wRevS_l, wRevS_t, k1, a3, a4]
    have e6 : (blendL ss b e w w).getD (e - w) 0 = (fadeL ((ss.drop (e - w)).take w) 0 w).getD 0 0 := by
      rw [blend_first (by omega) he hw0 w hw0 (Nat.le_refl _), fade_first l1 hw0]
      have e8 : ((ss.drop (e - w)).take w).getD 0 0 = ss.getD (e - w) 0 := by
        rw [List.getD_eq_getElem?_getD, List.getElem?_take_of_lt hw0, List.getElem?_drop, Nat.add_zero, List.getD_eq_getElem?_getD]
      rw [e8]
      unfold bl
      simp [Int.mul_comm]
    rw [e6]
    refine ⟨_, rfl, tp_i, ?_⟩
    try simp only [sSeq, sSkip, sAsg, sAsgP, sNew, sNewP, sRet, sRetO, sIf, sApp, sAppP, sSet, sAug, sTgt, sTgtP, sPar, sFz, frz, sFor, sForR, sRev, sBrk, sCnt, sDrop, eOp, eUn, eCall, eVar, eC, eFr, eTup, eTupR, eAnd, eOr, eNot, eIf, eChain, eIndex, eSl, nLst, nList, nListR, nLc, nLc2, nCall, nSorted, nRep, tOf, tAndJ, tOrJ, tNotJ, tTrue, iSeq, iR1, iR2, iR3, rg1, rg2, evA, pNo, pSo, startE, hide, rd, hide_v, hide_o, hide_n, rd_v, rd_o, rd_n, bind_one, bind_many, setAll, List.map, List.replicate, List.length, List.cons_append, List.nil_append, List.getElem?_cons_zero, List.getElem?_cons_succ, List.set_cons_zero, List.set_cons_succ, Option.bind_some, ex_some, Option.some.injEq, Slot.own.injEq, Slot.val.injEq, exists_eq_left', true_and, and_true, Bool.false_eq_true, if_false, if_true, reduceIte, wEq, wNe, wAdd_i, wAdd_t, wAdd_l, wAdd_s, wSub_i, wMul_i, wDiv_i, wMod_i, wPow_i, wNeg_i, wLt_i, wLe_i, wGt_i, wGe_i, wIs_n, wIs_b, wIsNot_n, wIsNot_b, wIx_l, wIx_t, wLen_l, wLen_t, wAbs_i, wInt_i, wInt_b, wMax2_i, wMin2_i, wTuple_l, wTuple_t, wB_b, wI_i, seqOf_l, seqOf_t, wIAdd_i, wIAdd_t, wIMul_i, wSl_l, wSl_t, wIn_l, wIn_t, wNotIn_l, wNotIn_t, items_l, items_t, lv_i, lv_b, lv_n, eqv_ii, eqv_bb, isNon_n, isNon_i, isNon_b, isNon_s, isNon_t, isNon_l, Bool.not_true, Bool.not_false, b2n_t, b2n_f, pl_i, pl_b, pl_n, decide_eq_true_eq, sExt, sExtP, wMulT_i, wMulT_t, wRevS_l, wRevS_t, List.length_map, f2]
    have e7 : ((w + 1 : Nat) : Int) = (w : Int) + 1 := by omega
    rw [e7]
    try simp only [sSeq, sSkip, sAsg, sAsgP, sNew, sNewP, sRet, sRetO, sIf, sApp, sAppP, sSet, sAug, sTgt, sTgtP, sPar, sFz, frz, sFor, sForR, sRev, sBrk, sCnt, sDrop, eOp, eUn, eCall, eVar, eC, eFr, eTup, eTupR, eAnd, eOr, eNot, eIf, eChain, eIndex, eSl, nLst, nList, nListR, nLc, nLc2, nCall, nSorted, nRep, tOf, tAndJ, tOrJ, tNotJ, tTrue, iSeq, iR1, iR2, iR3, rg1, rg2, evA, pNo, pSo, startE, hide, rd, hide_v, hide_o, hide_n, rd_v, rd_o, rd_n, bind_one, bind_many, setAll, List.map, List.replicate, List.length, List.cons_append, List.nil_append, List.getElem?_cons_zero, List.getElem?_cons_succ, List.set_cons_zero, List.set_cons_succ, Option.bind_some, ex_some, Option.some.injEq, Slot.own.injEq, Slot.val.injEq, exists_eq_left', true_and, and_true, Bool.false_eq_true, if_false, if_true, reduceIte, wEq, wNe, wAdd_i, wAdd_t, wAdd_l, wAdd_s, wSub_i, wMul_i, wDiv_i, wMod_i, wPow_i, wNeg_i, wLt_i, wLe_i, wGt_i, wGe_i, wIs_n, wIs_b, wIsNot_n, wIsNot_b, wIx_l, wIx_t, wLen_l, wLen_t, wAbs_i, wInt_i, wInt_b, wMax2_i, wMin2_i, wTuple_l, wTuple_t, wB_b, wI_i, seqOf_l, seqOf_t, wIAdd_i, wIAdd_t, wIMul_i, wSl_l, wSl_t, wIn_l, wIn_t, wNotIn_l, wNotIn_t, items_l, items_t, lv_i, lv_b, lv_n, eqv_ii, eqv_bb, isNon_n, isNon_i, isNon_b, isNon_s, isNon_t, isNon_l, Bool.not_true, Bool.not_false, b2n_t, b2n_f, pl_i, pl_b, pl_n, decide_eq_true_eq, sExt, sExtP, wMulT_i, wMulT_t, wRevS_l, wRevS_t, decide_true]
    exact q

/-! ## loops -/
def encB : Option C3 → D
  | none => .none
  | some x => encC' x
theorem at3_1 {a b c : D} : atI [a, b, c] 1 = some b := rfl
theorem at3_2 {a b c : D} : atI [a, b, c] 2 = some c := rfl
theorem bestD_tp (o : Option C3) : tp 8 (bestD o) = true := by cases o <;> rfl
theorem firstD_tp (o : Option Nat) : tp 8 (firstD o) = true := by cases o <;> rfl
theorem upC_none (y : C3) : upC none y = some y := rfl
theorem upC_some (a y : C3) : upC (some a) y = if lexC y a = true then some y else some a := rfl
theorem jump_eq {ss : List Int} {b e : Nat} : max (ss.getD (e - 1) 0 - ss.getD b 0) (ss.getD b 0 - ss.getD (e - 1) 0) = jumpS ss b e := by unfold jumpS; omega
/-! _law_loops_right: 0=draws 1=samples 2=least 3=best 4=begin 5=due 6=one 7=other 8=many 9=first 10=second 11=unlike 12=end 13=jump 14=k -/
def m__law_loops_right_b4 : SX := (sSeq (sAsg 13 (eCall wMax2 [(eOp wSub (eOp wIx (eVar 1) (eOp wSub (eVar 12) (eC (.int 1)))) (eOp wIx (eVar 1) (eVar 4))), (eOp wSub (eOp wIx (eVar 1) (eVar 4)) (eOp wIx (eVar 1) (eOp wSub (eVar 12) (eC (.int 1)))))]))
      (sSeq (sIf (tNotJ (tOf (eCall S__law_same [(eCall S_jump_of [(eVar 1), (eVar 4), (eVar 12)]), (eVar 13)]))) (sRet (eC (.bool false))) sSkip)
      (sIf (tOrJ (tOf (eOp wIs (eVar 3) (eC .none))) (tOf (eOp wLt (eTup [(eVar 13), (eVar 4), (eVar 12)]) (eVar 3)))) (sAsg 3 (eTup [(eVar 13), (eVar 4), (eVar 12)])) sSkip)))
def m__law_loops_right_b3 : SX := (sForR (iR2 (eOp wAdd (eVar 4) (eVar 2)) (eOp wAdd (eCall wLen [(eVar 1)]) (eC (.int 1)))) (.one 12) m__law_loops_right_b4)
def m__law_loops_right_r23 : SX := (sRet (eCall S__law_same [(eCall S_unchanged_from [(eVar 1), (eVar 4), (eVar 6), (eVar 7)]), (eVar 5)]))
def m__law_loops_right_r13 : SX := (sSeq (sAsg 4 (eCall S__law_take [(eVar 0), (eCall wLen [(eVar 1)])]))
      (sSeq (sAsg 6 (eOp wAdd (eOp wAdd (eVar 4) (eC (.int 1))) (eCall S__law_take [(eVar 0), (eOp wSub (eCall wLen [(eVar 1)]) (eVar 4))])))
      (sSeq (sAsg 7 (eOp wAdd (eOp wAdd (eVar 4) (eC (.int 1))) (eCall S__law_take [(eVar 0), (eOp wSub (eCall wLen [(eVar 1)]) (eVar 4))])))
      (sSeq (sAsg 8 (eOp wAdd (eCall wMax2 [(eVar 6), (eVar 7)]) (eOp wMul (eOp wSub (eVar 6) (eVar 4)) (eOp wSub (eVar 7) (eVar 4)))))
      (sSeq (sAsg 9 (eCall S__law_played [(eVar 1), (eVar 4), (eVar 6), (eVar 8)]))
      (sSeq (sAsg 10 (eCall S__law_played [(eVar 1), (eVar 4), (eVar 7), (eVar 8)]))
      (sSeq (sAsg 11 (eFr (nLc (iR1 (eVar 8)) (.one 14) [14] (tOf (eOp wNe (eOp wIx (eVar 9) (eVar 14)) (eOp wIx (eVar 10) (eVar 14)))) (eVar 14))))
      (sSeq (sAsg 5 (eC .none))
      (sSeq (sIf (tOf (eOp wGt (eCall wLen [(eVar 11)]) (eC (.int 0)))) (sAsg 5 (eOp wIx (eVar 11) (eC (.int 0)))) sSkip)
      m__law_loops_right_r23)))))))))
def m__law_loops_right_r11 : SX := (sSeq (sIf (tNotJ (tOf (eCall S__law_same [(eCall S_best_loop [(eVar 1), (eVar 2)]), (eVar 5)]))) (sRet (eC (.bool false))) sSkip)
      m__law_loops_right_r13)
def m__law_loops_right_r3 : SX := (sSeq (sAsg 5 (eC .none))
      (sSeq (sIf (tOf (eOp wIsNot (eVar 3) (eC .none))) (sAsg 5 (eTup [(eOp wIx (eVar 3) (eC (.int 1))), (eOp wIx (eVar 3) (eC (.int 2)))])) sSkip)
      m__law_loops_right_r11))
def m__law_loops_right : SX := (sSeq (sAsg 2 (eOp wAdd (eC (.int 1)) (eCall S__law_take [(eVar 0), (eC (.int 5))])))
      (sSeq (sAsg 3 (eC .none))
      (sSeq (sForR (iR1 (eCall wLen [(eVar 1)])) (.one 4) m__law_loops_right_b3)
      m__law_loops_right_r3)))
def S__law_loops_right : WL := fun ds Q => ∃ ss : List Int, ds = [.dict [], T ss] ∧ 0 < ss.length ∧ ss.length ≤ 100 ∧ Q (.bool true)
theorem isNon_encB (o : Option C3) : isNon (encB o) = o.isNone := by cases o <;> rfl
theorem row_len (ss : List Int) (least i : Nat) : (rowC ss least i).length = ss.length + 1 - (i + least) := by unfold rowC; rw [List.length_map, List.length_range]
theorem wp__law_loops_right (ds : List D) (QD : D → Prop) (h : S__law_loops_right ds QD) : m__law_loops_right (startE 15 ds) ⟨fun _ => QD .none, QD, noB, noB, fun es => QD (.list es)⟩ := by
  obtain ⟨ss, rfl, h0, hl, q⟩ := h
  unfold m__law_loops_right
  try simp only [sSeq, sSkip, sAsg, sAsgP, sNew, sNewP, sRet, sRetO, sIf, sApp, sAppP, sSet, sAug, sTgt, sTgtP, sPar, sFz, frz, sFor, sForR, sRev, sBrk, sCnt, sDrop, eOp, eUn, eCall, eVar, eC, eFr, eTup, eTupR, eAnd, eOr, eNot, eIf, eChain, eIndex, eSl, nLst, nList, nListR, nLc, nLc2, nCall, nSorted, nRep, tOf, tAndJ, tOrJ, tNotJ, tTrue, iSeq, iR1, iR2, iR3, rg1, rg2, evA, pNo, pSo, startE, hide, rd, hide_v, hide_o, hide_n, rd_v, rd_o, rd_n, bind_one, bind_many, setAll, List.map, List.replicate, List.length, List.cons_append, List.nil_append, List.getElem?_cons_zero, List.getElem?_cons_succ, List.set_cons_zero, List.set_cons_succ, Option.bind_some, ex_some, Option.some.injEq, Slot.own.injEq, Slot.val.injEq, exists_eq_left', true_and, and_true, Bool.false_eq_true, if_false, if_true, reduceIte, wEq, wNe, wAdd_i, wAdd_t, wAdd_l, wAdd_s, wSub_i, wMul_i, wDiv_i, wMod_i, wPow_i, wNeg_i, wLt_i, wLe_i, wGt_i, wGe_i, wIs_n, wIs_b, wIsNot_n, wIsNot_b, wIx_l, wIx_t, wLen_l, wLen_t, wAbs_i, wInt_i, wInt_b, wMax2_i, wMin2_i, wTuple_l, wTuple_t, wB_b, wI_i, seqOf_l, seqOf_t, wIAdd_i, wIAdd_t, wIMul_i, wSl_l, wSl_t, wIn_l, wIn_t, wNotIn_l, wNotIn_t, items_l, items_t, lv_i, lv_b, lv_n, eqv_ii, eqv_bb, isNon_n, isNon_i, isNon_b, isNon_s, isNon_t, isNon_l, Bool.not_true, Bool.not_false, b2n_t, b2n_f, pl_i, pl_b, pl_n, decide_eq_true_eq, sExt, sExtP, wMulT_i, wMulT_t, wRevS_l, wRevS_t]
  refine ⟨_, rfl, by decide, fun l' l0 l1 => ?_⟩
  obtain ⟨least, hle⟩ := Int.eq_ofNat_of_zero_le (show 0 ≤ 1 + l' by omega)
  try simp only [sSeq, sSkip, sAsg, sAsgP, sNew, sNewP, sRet, sRetO, sIf, sApp, sAppP, sSet, sAug, sTgt, sTgtP, sPar, sFz, frz, sFor, sForR, sRev, sBrk, sCnt, sDrop, eOp, eUn, eCall, eVar, eC, eFr, eTup, eTupR, eAnd, eOr, eNot, eIf, eChain, eIndex, eSl, nLst, nList, nListR, nLc, nLc2, nCall, nSorted, nRep, tOf, tAndJ, tOrJ, tNotJ, tTrue, iSeq, iR1, iR2, iR3, rg1, rg2, evA, pNo, pSo, startE, hide, rd, hide_v, hide_o, hide_n, rd_v, rd_o, rd_n, bind_one, bind_many, setAll, List.map, List.replicate, List.length, List.cons_append, List.nil_append, List.getElem?_cons_zero, List.getElem?_cons_succ, List.set_cons_zero, List.set_cons_succ, Option.bind_some, ex_some, Option.some.injEq, Slot.own.injEq, Slot.val.injEq, exists_eq_left', true_and, and_true, Bool.false_eq_true, if_false, if_true, reduceIte, wEq, wNe, wAdd_i, wAdd_t, wAdd_l, wAdd_s, wSub_i, wMul_i, wDiv_i, wMod_i, wPow_i, wNeg_i, wLt_i, wLe_i, wGt_i, wGe_i, wIs_n, wIs_b, wIsNot_n, wIsNot_b, wIx_l, wIx_t, wLen_l, wLen_t, wAbs_i, wInt_i, wInt_b, wMax2_i, wMin2_i, wTuple_l, wTuple_t, wB_b, wI_i, seqOf_l, seqOf_t, wIAdd_i, wIAdd_t, wIMul_i, wSl_l, wSl_t, wIn_l, wIn_t, wNotIn_l, wNotIn_t, items_l, items_t, lv_i, lv_b, lv_n, eqv_ii, eqv_bb, isNon_n, isNon_i, isNon_b, isNon_s, isNon_t, isNon_l, Bool.not_true, Bool.not_false, b2n_t, b2n_f, pl_i, pl_b, pl_n, decide_eq_true_eq, sExt, sExtP, wMulT_i, wMulT_t, wRevS_l, wRevS_t, hle, List.length_map]
  refine ⟨⟨by decide, by decide, by omega, by omega, by omega⟩, ?_⟩
  refine forW_inv (fun i en => i ≤ ss.length ∧ ∃ s4 s12 s13, en = [.val (.dict []), .val (T ss), .val (.int (least : Int)), .val (encB (((List.range i).flatMap (rowC ss least)).foldl upC none)), s4, .no, .no, .no, .no, .no, .no, .no, s12, s13, .no]) ⟨Nat.zero_le _, _, _, _, rfl⟩ ?_ ?_
  · rintro i d en hi ⟨_, s4, s12, s13, rfl⟩ R hR
    obtain ⟨rfl, hlt⟩ := rgD_get0 hi
    have hil : i < ss.length := by omega
    refine ⟨_, rfl, ?_⟩
    unfold m__law_loops_right_b3
    try simp only [sSeq, sSkip, sAsg, sAsgP, sNew, sNewP, sRet, sRetO, sIf, sApp, sAppP, sSet, sAug, sTgt, sTgtP, sPar, sFz, frz, sFor, sForR, sRev, sBrk, sCnt, sDrop, eOp, eUn, eCall, eVar, eC, eFr, eTup, eTupR, eAnd, eOr, eNot, eIf, eChain, eIndex, eSl, nLst, nList, nListR, nLc, nLc2, nCall, nSorted, nRep, tOf, tAndJ, tOrJ, tNotJ, tTrue, iSeq, iR1, iR2, iR3, rg1, rg2, evA, pNo, pSo, startE, hide, rd, hide_v, hide_o, hide_n, rd_v, rd_o, rd_n, bind_one, bind_many, setAll, List.map, List.replicate, List.length, List.cons_append, List.nil_append, List.getElem?_cons_zero, List.getElem?_cons_succ, List.set_cons_zero, List.set_cons_succ, Option.bind_some, ex_some, Option.some.injEq, Slot.own.injEq, Slot.val.injEq, exists_eq_left', true_and, and_true, Bool.false_eq_true, if_false, if_true, reduceIte, wEq, wNe, wAdd_i, wAdd_t, wAdd_l, wAdd_s, wSub_i, wMul_i, wDiv_i, wMod_i, wPow_i, wNeg_i, wLt_i, wLe_i, wGt_i, wGe_i, wIs_n, wIs_b, wIsNot_n, wIsNot_b, wIx_l, wIx_t, wLen_l, wLen_t, wAbs_i, wInt_i, wInt_b, wMax2_i, wMin2_i, wTuple_l, wTuple_t, wB_b, wI_i, seqOf_l, seqOf_t, wIAdd_i, wIAdd_t, wIMul_i, wSl_l, wSl_t, wIn_l, wIn_t, wNotIn_l, wNotIn_t, items_l, items_t, lv_i, lv_b, lv_n, eqv_ii, eqv_bb, isNon_n, isNon_i, isNon_b, isNon_s, isNon_t, isNon_l, Bool.not_true, Bool.not_false, b2n_t, b2n_f, pl_i, pl_b, pl_n, decide_eq_true_eq, sExt, sExtP, wMulT_i, wMulT_t, wRevS_l, wRevS_t, List.length_map]
    refine ⟨⟨by omega, by omega, by omega, by omega, by omega⟩, ?_⟩
    have e1 : rgD ((i : Int) + (least : Int)) ((ss.length : Int) + 1) = (List.range (ss.length + 1 - (i + least))).map fun k : Nat => PyData.int ((i + least + k : Nat) : Int) := by
      have := rg2_nat (i + least) (ss.length + 1)
      rw [Int.natCast_add, Int.natCast_add] at this
      exact this
    rw [e1]
    generalize hacc : ((List.range i).flatMap (rowC ss least)).foldl upC none = acc
    refine forW_inv (fun t en => ∃ s12 s13, en = [.val (.dict []), .val (T ss), .val (.int (least : Int)), .val (encB (((rowC ss least i).take t).foldl upC acc)), .val (.int (i : Int)), .no, .no, .no, .no, .no, .no, .no, s12, s13, .no]) ⟨_, _, rfl⟩ ?_ ?_
    · rintro t d en ht ⟨s12, s13, rfl⟩ R2 hR2
      rw [List.getElem?_map] at ht
      obtain ⟨t', ht', rfl⟩ := Option.map_eq_some_iff.mp ht
      obtain ⟨t1, t2⟩ := List.getElem?_eq_some_iff.mp ht'
      rw [List.getElem_range] at t2
      subst t2
      rw [List.length_range] at t1
      refine ⟨_, rfl, ?_⟩
      unfold m__law_loops_right_b4
      have g1 := getD_at (ss := ss) (i := i + least + t - 1) (k := ((i + least + t : Nat) : Int) - 1) (by omega) (by omega)
      have g2 := getD_at (ss := ss) (i := i) (k := (i : Int)) rfl hil
      try simp only [sSeq, sSkip, sAsg, sAsgP, sNew, sNewP, sRet, sRetO, sIf, sApp, sAppP, sSet, sAug, sTgt, sTgtP, sPar, sFz, frz, sFor, sForR, sRev, sBrk, sCnt, sDrop, eOp, eUn, eCall, eVar, eC, eFr, eTup, eTupR, eAnd, eOr, eNot, eIf, eChain, eIndex, eSl, nLst, nList, nListR, nLc, nLc2, nCall, nSorted, nRep, tOf, tAndJ, tOrJ, tNotJ, tTrue, iSeq, iR1, iR2, iR3, rg1, rg2, evA, pNo, pSo, startE, hide, rd, hide_v, hide_o, hide_n, rd_v, rd_o, rd_n, bind_one, bind_many, setAll, List.map, List.replicate, List.length, List.cons_append, List.nil_append, List.getElem?_cons_zero, List.getElem?_cons_succ, List.set_cons_zero, List.set_cons_succ, Option.bind_some, ex_some, Option.some.injEq, Slot.own.injEq, Slot.val.injEq, exists_eq_left', true_and, and_true, Bool.false_eq_true, if_false, if_true, reduceIte, wEq, wNe, wAdd_i, wAdd_t, wAdd_l, wAdd_s, wSub_i, wMul_i, wDiv_i, wMod_i, wPow_i, wNeg_i, wLt_i, wLe_i, wGt_i, wGe_i, wIs_n, wIs_b, wIsNot_n, wIsNot_b, wIx_l, wIx_t, wLen_l, wLen_t, wAbs_i, wInt_i, wInt_b, wMax2_i, wMin2_i, wTuple_l, wTuple_t, wB_b, wI_i, seqOf_l, seqOf_t, wIAdd_i, wIAdd_t, wIMul_i, wSl_l, wSl_t, wIn_l, wIn_t, wNotIn_l, wNotIn_t, items_l, items_t, lv_i, lv_b, lv_n, eqv_ii, eqv_bb, isNon_n, isNon_i, isNon_b, isNon_s, isNon_t, isNon_l, Bool.not_true, Bool.not_false, b2n_t, b2n_f, pl_i, pl_b, pl_n, decide_eq_true_eq, sExt, sExtP, wMulT_i, wMulT_t, wRevS_l, wRevS_t, g1, g2, jump_eq]
      refine ⟨ss, i, i + least + t, rfl, by omega, by omega, _, rfl, tp_i, ?_⟩
      have hrow : (rowC ss least i)[t]? = some (jumpS ss i (i + least + t), i, i + least + t) := by
        unfold rowC
        rw [List.getElem?_map, List.getElem?_range t1]
        rfl
      have hfold : ((rowC ss least i).take (t + 1)).foldl upC acc = upC (((rowC ss least i).take t).foldl upC acc) (jumpS ss i (i + least + t), i, i + least + t) := by
        rw [List.take_succ, hrow, List.foldl_append]
        rfl
      try simp only [sSeq, sSkip, sAsg, sAsgP, sNew, sNewP, sRet, sRetO, sIf, sApp, sAppP, sSet, sAug, sTgt, sTgtP, sPar, sFz, frz, sFor, sForR, sRev, sBrk, sCnt, sDrop, eOp, eUn, eCall, eVar, eC, eFr, eTup, eTupR, eAnd, eOr, eNot, eIf, eChain, eIndex, eSl, nLst, nList, nListR, nLc, nLc2, nCall, nSorted, nRep, tOf, tAndJ, tOrJ, tNotJ, tTrue, iSeq, iR1, iR2, iR3, rg1, rg2, evA, pNo, pSo, startE, hide, rd, hide_v, hide_o, hide_n, rd_v, rd_o, rd_n, bind_one, bind_many, setAll, List.map, List.replicate, List.length, List.cons_append, List.nil_append, List.getElem?_cons_zero, List.getElem?_cons_succ, List.set_cons_zero, List.set_cons_succ, Option.bind_some, ex_some, Option.some.injEq, Slot.own.injEq, Slot.val.injEq, exists_eq_left', true_and, and_true, Bool.false_eq_true, if_false, if_true, reduceIte, wEq, wNe, wAdd_i, wAdd_t, wAdd_l, wAdd_s, wSub_i, wMul_i, wDiv_i, wMod_i, wPow_i, wNeg_i, wLt_i, wLe_i, wGt_i, wGe_i, wIs_n, wIs_b, wIsNot_n, wIsNot_b, wIx_l, wIx_t, wLen_l, wLen_t, wAbs_i, wInt_i, wInt_b, wMax2_i, wMin2_i, wTuple_l, wTuple_t, wB_b, wI_i, seqOf_l, seqOf_t, wIAdd_i, wIAdd_t, wIMul_i, wSl_l, wSl_t, wIn_l, wIn_t, wNotIn_l, wNotIn_t, items_l, items_t, lv_i, lv_b, lv_n, eqv_ii, eqv_bb, isNon_n, isNon_i, isNon_b, isNon_s, isNon_t, isNon_l, Bool.not_true, Bool.not_false, b2n_t, b2n_f, pl_i, pl_b, pl_n, decide_eq_true_eq, sExt, sExtP, wMulT_i, wMulT_t, wRevS_l, wRevS_t, isNon_encB]
      have hR3 : ∀ o : Option C3, o = ((rowC ss least i).take (t + 1)).foldl upC acc → R2 [.val (.dict []), .val (T ss), .val (.int (least : Int)), .val (encB o), .val (.int (i : Int)), .no, .no, .no, .no, .no, .no, .no, .val (.int ((i + least + t : Nat) : Int)), .val (.int (jumpS ss i (i + least + t))), .no] := fun o ho => hR2 _ ⟨.val (.int ((i + least + t : Nat) : Int)), .val (.int (jumpS ss i (i + least + t))), by rw [ho]⟩
      cases ho : ((rowC ss least i).take t).foldl upC acc with
      | none =>
        rw [if_pos (show (none : Option C3).isNone = true from rfl)]
        have := hR3 (some (jumpS ss i (i + least + t), i, i + least + t)) (by rw [hfold, ho]; rfl)
        exact this
      | some a =>
        rw [if_neg (by simp)]
        show CmpOk (encC' (jumpS ss i (i + least + t), i, i + least + t)) (encC' a) ∧ wB (.bool (dLt (encC' (jumpS ss i (i + least + t), i, i + least + t)) (encC' a))) _
        rw [dlt_C']
        refine ⟨⟨rfl, rfl, rfl, by intro c; cases c⟩, ?_⟩
        try simp only [sSeq, sSkip, sAsg, sAsgP, sNew, sNewP, sRet, sRetO, sIf, sApp, sAppP, sSet, sAug, sTgt, sTgtP, sPar, sFz, frz, sFor, sForR, sRev, sBrk, sCnt, sDrop, eOp, eUn, eCall, eVar, eC, eFr, eTup, eTupR, eAnd, eOr, eNot, eIf, eChain, eIndex, eSl, nLst, nList, nListR, nLc, nLc2, nCall, nSorted, nRep, tOf, tAndJ, tOrJ, tNotJ, tTrue, iSeq, iR1, iR2, iR3, rg1, rg2, evA, pNo, pSo, startE, hide, rd, hide_v, hide_o, hide_n, rd_v, rd_o, rd_n, bind_one, bind_many, setAll, List.map, List.replicate, List.length, List.cons_append, List.nil_append, List.getElem?_cons_zero, List.getElem?_cons_succ, List.set_cons_zero, List.set_cons_succ, Option.bind_some, ex_some, Option.some.injEq, Slot.own.injEq, Slot.val.injEq, exists_eq_left', true_and, and_true, Bool.false_eq_true, if_false, if_true, reduceIte, wEq, wNe, wAdd_i, wAdd_t, wAdd_l, wAdd_s, wSub_i, wMul_i, wDiv_i, wMod_i, wPow_i, wNeg_i, wLt_i, wLe_i, wGt_i, wGe_i, wIs_n, wIs_b, wIsNot_n, wIsNot_b, wIx_l, wIx_t, wLen_l, wLen_t, wAbs_i, wInt_i, wInt_b, wMax2_i, wMin2_i, wTuple_l, wTuple_t, wB_b, wI_i, seqOf_l, seqOf_t, wIAdd_i, wIAdd_t, wIMul_i, wSl_l, wSl_t, wIn_l, wIn_t, wNotIn_l, wNotIn_t, items_l, items_t, lv_i, lv_b, lv_n, eqv_ii, eqv_bb, isNon_n, isNon_i, isNon_b, isNon_s, isNon_t, isNon_l, Bool.not_true, Bool.not_false, b2n_t, b2n_f, pl_i, pl_b, pl_n, decide_eq_true_eq, sExt, sExtP, wMulT_i, wMulT_t, wRevS_l, wRevS_t]
        split
        · rename_i c
          have := hR3 (some (jumpS ss i (i + least + t), i, i + least + t)) (by rw [hfold, ho, upC_some, if_pos c])
          exact this
        · rename_i c
          have := hR3 (some a) (by rw [hfold, ho, upC_some, if_neg c])
          exact this
    · rintro en ⟨s12, s13, rfl⟩
      refine hR _ ⟨hil, .val (.int (i : Int)), s12, s13, ?_⟩
      have e3 : ((List.range (ss.length + 1 - (i + least))).map fun k : Nat => PyData.int ((i + least + k : Nat) : Int)).length = (rowC ss least i).length := by rw [List.length_map, List.length_range, row_len]
      rw [e3, List.take_length, List.range_succ, List.flatMap_append, List.foldl_append, hacc, List.flatMap_singleton]
  · rintro en ⟨_, s4, s12, s13, rfl⟩
    have e3 : (rgD 0 (ss.length : Int)).length = ss.length := by rw [rgD_length]; omega
    rw [e3]
    have ec : (List.range ss.length).flatMap (rowC ss least) = candC ss least := rfl
    have eb : (candC ss least).foldl upC none = bestC ss least := rfl
    rw [ec, eb]
    have tail : ∀ s4 s5 s12 s13 : Slot, m__law_loops_right_r13 [.val (.dict []), .val (T ss), .val (.int (least : Int)), .val (encB (bestC ss least)), s4, s5, .no, .no, .no, .no, .no, .no, s12, s13, .no] ⟨fun _ => QD .none, QD, noB, noB, fun es => QD (.list es)⟩ := by
      intro s4 s5 s12 s13
      unfold m__law_loops_right_r13
      try simp only [sSeq, sSkip, sAsg, sAsgP, sNew, sNewP, sRet, sRetO, sIf, sApp, sAppP, sSet, sAug, sTgt, sTgtP, sPar, sFz, frz, sFor, sForR, sRev, sBrk, sCnt, sDrop, eOp, eUn, eCall, eVar, eC, eFr, eTup, eTupR, eAnd, eOr, eNot, eIf, eChain, eIndex, eSl, nLst, nList, nListR, nLc, nLc2, nCall, nSorted, nRep, tOf, tAndJ, tOrJ, tNotJ, tTrue, iSeq, iR1, iR2, iR3, rg1, rg2, evA, pNo, pSo, startE, hide, rd, hide_v, hide_o, hide_n, rd_v, rd_o, rd_n, bind_one, bind_many, setAll, List.map, List.replicate, List.length, List.cons_append, List.nil_append, List.getElem?_cons_zero, List.getElem?_cons_succ, List.set_cons_zero, List.set_cons_succ, Option.bind_some, ex_some, Option.some.injEq, Slot.own.injEq, Slot.val.injEq, exists_eq_left', true_and, and_true, Bool.false_eq_true, if_false, if_true, reduceIte, wEq, wNe, wAdd_i, wAdd_t, wAdd_l, wAdd_s, wSub_i, wMul_i, wDiv_i, wMod_i, wPow_i, wNeg_i, wLt_i, wLe_i, wGt_i, wGe_i, wIs_n, wIs_b, wIsNot_n, wIsNot_b, wIx_l, wIx_t, wLen_l, wLen_t, wAbs_i, wInt_i, wInt_b, wMax2_i, wMin2_i, wTuple_l, wTuple_t, wB_b, wI_i, seqOf_l, seqOf_t, wIAdd_i, wIAdd_t, wIMul_i, wSl_l, wSl_t, wIn_l, wIn_t, wNotIn_l, wNotIn_t, items_l, items_t, lv_i, lv_b, lv_n, eqv_ii, eqv_bb, isNon_n, isNon_i, isNon_b, isNon_s, isNon_t, isNon_l, Bool.not_true, Bool.not_false, b2n_t, b2n_f, pl_i, pl_b, pl_n, decide_eq_true_eq, sExt, sExtP, wMulT_i, wMulT_t, wRevS_l, wRevS_t, List.length_map]
      refine ⟨_, rfl, by omega, fun b' b0 b1 => ?_⟩
      obtain ⟨b, rfl⟩ := Int.eq_ofNat_of_zero_le b0
      try simp only [sSeq, sSkip, sAsg, sAsgP, sNew, sNewP, sRet, sRetO, sIf, sApp, sAppP, sSet, sAug, sTgt, sTgtP, sPar, sFz, frz, sFor, sForR, sRev, sBrk, sCnt, sDrop, eOp, eUn, eCall, eVar, eC, eFr, eTup, eTupR, eAnd, eOr, eNot, eIf, eChain, eIndex, eSl, nLst, nList, nListR, nLc, nLc2, nCall, nSorted, nRep, tOf, tAndJ, tOrJ, tNotJ, tTrue, iSeq, iR1, iR2, iR3, rg1, rg2, evA, pNo, pSo, startE, hide, rd, hide_v, hide_o, hide_n, rd_v, rd_o, rd_n, bind_one, bind_many, setAll, List.map, List.replicate, List.length, List.cons_append, List.nil_append, List.getElem?_cons_zero, List.getElem?_cons_succ, List.set_cons_zero, List.set_cons_succ, Option.bind_some, ex_some, Option.some.injEq, Slot.own.injEq, Slot.val.injEq, exists_eq_left', true_and, and_true, Bool.false_eq_true, if_false, if_true, reduceIte, wEq, wNe, wAdd_i, wAdd_t, wAdd_l, wAdd_s, wSub_i, wMul_i, wDiv_i, wMod_i, wPow_i, wNeg_i, wLt_i, wLe_i, wGt_i, wGe_i, wIs_n, wIs_b, wIsNot_n, wIsNot_b, wIx_l, wIx_t, wLen_l, wLen_t, wAbs_i, wInt_i, wInt_b, wMax2_i, wMin2_i, wTuple_l, wTuple_t, wB_b, wI_i, seqOf_l, seqOf_t, wIAdd_i, wIAdd_t, wIMul_i, wSl_l, wSl_t, wIn_l, wIn_t, wNotIn_l, wNotIn_t, items_l, items_t, lv_i, lv_b, lv_n, eqv_ii, eqv_bb, isNon_n, isNon_i, isNon_b, isNon_s, isNon_t, isNon_l, Bool.not_true, Bool.not_false, b2n_t, b2n_f, pl_i, pl_b, pl_n, decide_eq_true_eq, sExt, sExtP, wMulT_i, wMulT_t, wRevS_l, wRevS_t, List.length_map]
      refine ⟨_, rfl, by omega, fun x' x0 x1 => ?_⟩
      obtain ⟨x, rfl⟩ := Int.eq_ofNat_of_zero_le x0
      have ee : (b : Int) + 1 + (x : Int) = ((b + 1 + x : Nat) : Int) := by omega
      try simp only [sSeq, sSkip, sAsg, sAsgP, sNew, sNewP, sRet, sRetO, sIf, sApp, sAppP, sSet, sAug, sTgt, sTgtP, sPar, sFz, frz, sFor, sForR, sRev, sBrk, sCnt, sDrop, eOp, eUn, eCall, eVar, eC, eFr, eTup, eTupR, eAnd, eOr, eNot, eIf, eChain, eIndex, eSl, nLst, nList, nListR, nLc, nLc2, nCall, nSorted, nRep, tOf, tAndJ, tOrJ, tNotJ, tTrue, iSeq, iR1, iR2, iR3, rg1, rg2, evA, pNo, pSo, startE, hide, rd, hide_v, hide_o, hide_n, rd_v, rd_o, rd_n, bind_one, bind_many, setAll, List.map, List.replicate, List.length, List.cons_append, List.nil_append, List.getElem?_cons_zero, List.getElem?_cons_succ, List.set_cons_zero, List.set_cons_succ, Option.bind_some, ex_some, Option.some.injEq, Slot.own.injEq, Slot.val.injEq, exists_eq_left', true_and, and_true, Bool.false_eq_true, if_false, if_true, reduceIte, wEq, wNe, wAdd_i, wAdd_t, wAdd_l, wAdd_s, wSub_i, wMul_i, wDiv_i, wMod_i, wPow_i, wNeg_i, wLt_i, wLe_i, wGt_i, wGe_i, wIs_n, wIs_b, wIsNot_n, wIsNot_b, wIx_l, wIx_t, wLen_l, wLen_t, wAbs_i, wInt_i, wInt_b, wMax2_i, wMin2_i, wTuple_l, wTuple_t, wB_b, wI_i, seqOf_l, seqOf_t, wIAdd_i, wIAdd_t, wIMul_i, wSl_l, wSl_t, wIn_l, wIn_t, wNotIn_l, wNotIn_t, items_l, items_t, lv_i, lv_b, lv_n, eqv_ii, eqv_bb, isNon_n, isNon_i, isNon_b, isNon_s, isNon_t, isNon_l, Bool.not_true, Bool.not_false, b2n_t, b2n_f, pl_i, pl_b, pl_n, decide_eq_true_eq, sExt, sExtP, wMulT_i, wMulT_t, wRevS_l, wRevS_t, List.length_map, ee]
      refine ⟨_, rfl, by omega, fun y' y0 y1 => ?_⟩
      obtain ⟨y, rfl⟩ := Int.eq_ofNat_of_zero_le y0
      have eo : (b : Int) + 1 + (y : Int) = ((b + 1 + y : Nat) : Int) := by omega
      try simp only [sSeq, sSkip, sAsg, sAsgP, sNew, sNewP, sRet, sRetO, sIf, sApp, sAppP, sSet, sAug, sTgt, sTgtP, sPar, sFz, frz, sFor, sForR, sRev, sBrk, sCnt, sDrop, eOp, eUn, eCall, eVar, eC, eFr, eTup, eTupR, eAnd, eOr, eNot, eIf, eChain, eIndex, eSl, nLst, nList, nListR, nLc, nLc2, nCall, nSorted, nRep, tOf, tAndJ, tOrJ, tNotJ, tTrue, iSeq, iR1, iR2, iR3, rg1, rg2, evA, pNo, pSo, startE, hide, rd, hide_v, hide_o, hide_n, rd_v, rd_o, rd_n, bind_one, bind_many, setAll, List.map, List.replicate, List.length, List.cons_append, List.nil_append, List.getElem?_cons_zero, List.getElem?_cons_succ, List.set_cons_zero, List.set_cons_succ, Option.bind_some, ex_some, Option.some.injEq, Slot.own.injEq, Slot.val.injEq, exists_eq_left', true_and, and_true, Bool.false_eq_true, if_false, if_true, reduceIte, wEq, wNe, wAdd_i, wAdd_t, wAdd_l, wAdd_s, wSub_i, wMul_i, wDiv_i, wMod_i, wPow_i, wNeg_i, wLt_i, wLe_i, wGt_i, wGe_i, wIs_n, wIs_b, wIsNot_n, wIsNot_b, wIx_l, wIx_t, wLen_l, wLen_t, wAbs_i, wInt_i, wInt_b, wMax2_i, wMin2_i, wTuple_l, wTuple_t, wB_b, wI_i, seqOf_l, seqOf_t, wIAdd_i, wIAdd_t, wIMul_i, wSl_l, wSl_t, wIn_l, wIn_t, wNotIn_l, wNotIn_t, items_l, items_t, lv_i, lv_b, lv_n, eqv_ii, eqv_bb, isNon_n, isNon_i, isNon_b, isNon_s, isNon_t, isNon_l, Bool.not_true, Bool.not_false, b2n_t, b2n_f, pl_i, pl_b, pl_n, decide_eq_true_eq, sExt, sExtP, wMulT_i, wMulT_t, wRevS_l, wRevS_t, eo]
      have hb1 : b < b + 1 + x := by omega
      have hb2 : b < b + 1 + y := by omega
      have hm : manyU b (b + 1 + x) (b + 1 + y) ≤ 20000 := by
        unfold manyU
        have : (b + 1 + x - b) * (b + 1 + y - b) ≤ 100 * 100 := Nat.mul_le_mul (by omega) (by omega)
        omega
      have em := many_cast hb1 hb2
      refine ⟨mul_l (by omega), ?_⟩
      rw [em]
      refine ⟨ss, b, b + 1 + x, manyU b (b + 1 + x) (b + 1 + y), rfl, hb1, by omega, by omega, by omega, ?_⟩
      try simp only [sSeq, sSkip, sAsg, sAsgP, sNew, sNewP, sRet, sRetO, sIf, sApp, sAppP, sSet, sAug, sTgt, sTgtP, sPar, sFz, frz, sFor, sForR, sRev, sBrk, sCnt, sDrop, eOp, eUn, eCall, eVar, eC, eFr, eTup, eTupR, eAnd, eOr, eNot, eIf, eChain, eIndex, eSl, nLst, nList, nListR, nLc, nLc2, nCall, nSorted, nRep, tOf, tAndJ, tOrJ, tNotJ, tTrue, iSeq, iR1, iR2, iR3, rg1, rg2, evA, pNo, pSo, startE, hide, rd, hide_v, hide_o, hide_n, rd_v, rd_o, rd_n, bind_one, bind_many, setAll, List.map, List.replicate, List.length, List.cons_append, List.nil_append, List.getElem?_cons_zero, List.getElem?_cons_succ, List.set_cons_zero, List.set_cons_succ, Option.bind_some, ex_some, Option.some.injEq, Slot.own.injEq, Slot.val.injEq, exists_eq_left', true_and, and_true, Bool.false_eq_true, if_false, if_true, reduceIte, wEq, wNe, wAdd_i, wAdd_t, wAdd_l, wAdd_s, wSub_i, wMul_i, wDiv_i, wMod_i, wPow_i, wNeg_i, wLt_i, wLe_i, wGt_i, wGe_i, wIs_n, wIs_b, wIsNot_n, wIsNot_b, wIx_l, wIx_t, wLen_l, wLen_t, wAbs_i, wInt_i, wInt_b, wMax2_i, wMin2_i, wTuple_l, wTuple_t, wB_b, wI_i, seqOf_l, seqOf_t, wIAdd_i, wIAdd_t, wIMul_i, wSl_l, wSl_t, wIn_l, wIn_t, wNotIn_l, wNotIn_t, items_l, items_t, lv_i, lv_b, lv_n, eqv_ii, eqv_bb, isNon_n, isNon_i, isNon_b, isNon_s, isNon_t, isNon_l, Bool.not_true, Bool.not_false, b2n_t, b2n_f, pl_i, pl_b, pl_n, decide_eq_true_eq, sExt, sExtP, wMulT_i, wMulT_t, wRevS_l, wRevS_t]
      refine ⟨ss, b, b + 1 + y, manyU b (b + 1 + x) (b + 1 + y), rfl, hb2, by omega, by omega, by omega, ?_⟩
      try simp only [sSeq, sSkip, sAsg, sAsgP, sNew, sNewP, sRet, sRetO, sIf, sApp, sAppP, sSet, sAug, sTgt, sTgtP, sPar, sFz, frz, sFor, sForR, sRev, sBrk, sCnt, sDrop, eOp, eUn, eCall, eVar, eC, eFr, eTup, eTupR, eAnd, eOr, eNot, eIf, eChain, eIndex, eSl, nLst, nList, nListR, nLc, nLc2, nCall, nSorted, nRep, tOf, tAndJ, tOrJ, tNotJ, tTrue, iSeq, iR1, iR2, iR3, rg1, rg2, evA, pNo, pSo, startE, hide, rd, hide_v, hide_o, hide_n, rd_v, rd_o, rd_n, bind_one, bind_many, setAll, List.map, List.replicate, List.length, List.cons_append, List.nil_append, List.getElem?_cons_zero, List.getElem?_cons_succ, List.set_cons_zero, List.set_cons_succ, Option.bind_some, ex_some, Option.some.injEq, Slot.own.injEq, Slot.val.injEq, exists_eq_left', true_and, and_true, Bool.false_eq_true, if_false, if_true, reduceIte, wEq, wNe, wAdd_i, wAdd_t, wAdd_l, wAdd_s, wSub_i, wMul_i, wDiv_i, wMod_i, wPow_i, wNeg_i, wLt_i, wLe_i, wGt_i, wGe_i, wIs_n, wIs_b, wIsNot_n, wIsNot_b, wIx_l, wIx_t, wLen_l, wLen_t, wAbs_i, wInt_i, wInt_b, wMax2_i, wMin2_i, wTuple_l, wTuple_t, wB_b, wI_i, seqOf_l, seqOf_t, wIAdd_i, wIAdd_t, wIMul_i, wSl_l, wSl_t, wIn_l, wIn_t, wNotIn_l, wNotIn_t, items_l, items_t, lv_i, lv_b, lv_n, eqv_ii, eqv_bb, isNon_n, isNon_i, isNon_b, isNon_s, isNon_t, isNon_l, Bool.not_true, Bool.not_false, b2n_t, b2n_f, pl_i, pl_b, pl_n, decide_eq_true_eq, sExt, sExtP, wMulT_i, wMulT_t, wRevS_l, wRevS_t]
      generalize hM : manyU b (b + 1 + x) (b + 1 + y) = M at hm
      refine ⟨⟨by decide, by decide, by omega, by omega, by omega⟩, ?_⟩
      rw [rg_nat]
      refine mapW_enc (fun k : Nat => PyData.int (k : Int)) (fun k => if atS ss b (b + 1 + x) k ≠ atS ss b (b + 1 + y) k then some (PyData.int (k : Int)) else none) (fun k hk R hR => ?_) ?_
      · have hkM := List.mem_range.mp hk
        refine ⟨_, rfl, ?_⟩
        have p1 : atI ((playedL ss b (b + 1 + x) M).map PyData.int) (k : Int) = some (.int (atS ss b (b + 1 + x) k)) := atI_at rfl (by rw [List.getElem?_map, played_get hkM]; rfl)
        have p2 : atI ((playedL ss b (b + 1 + y) M).map PyData.int) (k : Int) = some (.int (atS ss b (b + 1 + y) k)) := atI_at rfl (by rw [List.getElem?_map, played_get hkM]; rfl)
        try simp only [sSeq, sSkip, sAsg, sAsgP, sNew, sNewP, sRet, sRetO, sIf, sApp, sAppP, sSet, sAug, sTgt, sTgtP, sPar, sFz, frz, sFor, sForR, sRev, sBrk, sCnt, sDrop, eOp, eUn, eCall, eVar, eC, eFr, eTup, eTupR, eAnd, eOr, eNot, eIf, eChain, eIndex, eSl, nLst, nList, nListR, nLc, nLc2, nCall, nSorted, nRep, tOf, tAndJ, tOrJ, tNotJ, tTrue, iSeq, iR1, iR2, iR3, rg1, rg2, evA, pNo, pSo, startE, hide, rd, hide_v, hide_o, hide_n, rd_v, rd_o, rd_n, bind_one, bind_many, setAll, List.map, List.replicate, List.length, List.cons_append, List.nil_append, List.getElem?_cons_zero, List.getElem?_cons_succ, List.set_cons_zero, List.set_cons_succ, Option.bind_some, ex_some, Option.some.injEq, Slot.own.injEq, Slot.val.injEq, exists_eq_left', true_and, and_true, Bool.false_eq_true, if_false, if_true, reduceIte, wEq, wNe, wAdd_i, wAdd_t, wAdd_l, wAdd_s, wSub_i, wMul_i, wDiv_i, wMod_i, wPow_i, wNeg_i, wLt_i, wLe_i, wGt_i, wGe_i, wIs_n, wIs_b, wIsNot_n, wIsNot_b, wIx_l, wIx_t, wLen_l, wLen_t, wAbs_i, wInt_i, wInt_b, wMax2_i, wMin2_i, wTuple_l, wTuple_t, wB_b, wI_i, seqOf_l, seqOf_t, wIAdd_i, wIAdd_t, wIMul_i, wSl_l, wSl_t, wIn_l, wIn_t, wNotIn_l, wNotIn_t, items_l, items_t, lv_i, lv_b, lv_n, eqv_ii, eqv_bb, isNon_n, isNon_i, isNon_b, isNon_s, isNon_t, isNon_l, Bool.not_true, Bool.not_false, b2n_t, b2n_f, pl_i, pl_b, pl_n, decide_eq_true_eq, sExt, sExtP, wMulT_i, wMulT_t, wRevS_l, wRevS_t, wipeE, p1, p2]
        by_cases c : atS ss b (b + 1 + x) k = atS ss b (b + 1 + y) k
        · rw [if_neg (by simp [c])]
          rw [if_neg (by simp [c])] at hR
          exact hR
        · rw [if_pos (by simp [c])]
          rw [if_pos c] at hR
          exact hR
      have ef : ∀ l : List Nat, (l.filterMap fun k => if atS ss b (b + 1 + x) k ≠ atS ss b (b + 1 + y) k then some (PyData.int (k : Int)) else none) = (l.filter fun k => decide (atS ss b (b + 1 + x) k ≠ atS ss b (b + 1 + y) k)).map fun k : Nat => PyData.int (k : Int) := by
        intro l
        induction l with
        | nil => rfl
        | cons a l ih =>
          rw [List.filterMap_cons, List.filter_cons]
          by_cases c : atS ss b (b + 1 + x) a = atS ss b (b + 1 + y) a
          · rw [if_neg (by simp [c]), if_neg (by simp [c])]
            exact ih
          · rw [if_pos c, if_pos (by simp [c]), List.map_cons, ih]
      rw [ef]
      have hu : firstU ss b (b + 1 + x) (b + 1 + y) = ((List.range M).filter fun k => decide (atS ss b (b + 1 + x) k ≠ atS ss b (b + 1 + y) k)).head? := by
        unfold firstU
        rw [hM, List.head?_filter]
      try simp only [sSeq, sSkip, sAsg, sAsgP, sNew, sNewP, sRet, sRetO, sIf, sApp, sAppP, sSet, sAug, sTgt, sTgtP, sPar, sFz, frz, sFor, sForR, sRev, sBrk, sCnt, sDrop, eOp, eUn, eCall, eVar, eC, eFr, eTup, eTupR, eAnd, eOr, eNot, eIf, eChain, eIndex, eSl, nLst, nList, nListR, nLc, nLc2, nCall, nSorted, nRep, tOf, tAndJ, tOrJ, tNotJ, tTrue, iSeq, iR1, iR2, iR3, rg1, rg2, evA, pNo, pSo, startE, hide, rd, hide_v, hide_o, hide_n, rd_v, rd_o, rd_n, bind_one, bind_many, setAll, List.map, List.replicate, List.length, List.cons_append, List.nil_append, List.getElem?_cons_zero, List.getElem?_cons_succ, List.set_cons_zero, List.set_cons_succ, Option.bind_some, ex_some, Option.some.injEq, Slot.own.injEq, Slot.val.injEq, exists_eq_left', true_and, and_true, Bool.false_eq_true, if_false, if_true, reduceIte, wEq, wNe, wAdd_i, wAdd_t, wAdd_l, wAdd_s, wSub_i, wMul_i, wDiv_i, wMod_i, wPow_i, wNeg_i, wLt_i, wLe_i, wGt_i, wGe_i, wIs_n, wIs_b, wIsNot_n, wIsNot_b, wIx_l, wIx_t, wLen_l, wLen_t, wAbs_i, wInt_i, wInt_b, wMax2_i, wMin2_i, wTuple_l, wTuple_t, wB_b, wI_i, seqOf_l, seqOf_t, wIAdd_i, wIAdd_t, wIMul_i, wSl_l, wSl_t, wIn_l, wIn_t, wNotIn_l, wNotIn_t, items_l, items_t, lv_i, lv_b, lv_n, eqv_ii, eqv_bb, isNon_n, isNon_i, isNon_b, isNon_s, isNon_t, isNon_l, Bool.not_true, Bool.not_false, b2n_t, b2n_f, pl_i, pl_b, pl_n, decide_eq_true_eq, sExt, sExtP, wMulT_i, wMulT_t, wRevS_l, wRevS_t, List.length_map]
      cases hc : (List.range M).filter fun k => decide (atS ss b (b + 1 + x) k ≠ atS ss b (b + 1 + y) k) with
      | nil =>
        rw [hc] at hu
        rw [if_neg (by simp)]
        unfold m__law_loops_right_r23
        try simp only [sSeq, sSkip, sAsg, sAsgP, sNew, sNewP, sRet, sRetO, sIf, sApp, sAppP, sSet, sAug, sTgt, sTgtP, sPar, sFz, frz, sFor, sForR, sRev, sBrk, sCnt, sDrop, eOp, eUn, eCall, eVar, eC, eFr, eTup, eTupR, eAnd, eOr, eNot, eIf, eChain, eIndex, eSl, nLst, nList, nListR, nLc, nLc2, nCall, nSorted, nRep, tOf, tAndJ, tOrJ, tNotJ, tTrue, iSeq, iR1, iR2, iR3, rg1, rg2, evA, pNo, pSo, startE, hide, rd, hide_v, hide_o, hide_n, rd_v, rd_o, rd_n, bind_one, bind_many, setAll, List.map, List.replicate, List.length, List.cons_append, List.nil_append, List.getElem?_cons_zero, List.getElem?_cons_succ, List.set_cons_zero, List.set_cons_succ, Option.bind_some, ex_some, Option.some.injEq, Slot.own.injEq, Slot.val.injEq, exists_eq_left', true_and, and_true, Bool.false_eq_true, if_false, if_true, reduceIte, wEq, wNe, wAdd_i, wAdd_t, wAdd_l, wAdd_s, wSub_i, wMul_i, wDiv_i, wMod_i, wPow_i, wNeg_i, wLt_i, wLe_i, wGt_i, wGe_i, wIs_n, wIs_b, wIsNot_n, wIsNot_b, wIx_l, wIx_t, wLen_l, wLen_t, wAbs_i, wInt_i, wInt_b, wMax2_i, wMin2_i, wTuple_l, wTuple_t, wB_b, wI_i, seqOf_l, seqOf_t, wIAdd_i, wIAdd_t, wIMul_i, wSl_l, wSl_t, wIn_l, wIn_t, wNotIn_l, wNotIn_t, items_l, items_t, lv_i, lv_b, lv_n, eqv_ii, eqv_bb, isNon_n, isNon_i, isNon_b, isNon_s, isNon_t, isNon_l, Bool.not_true, Bool.not_false, b2n_t, b2n_f, pl_i, pl_b, pl_n, decide_eq_true_eq, sExt, sExtP, wMulT_i, wMulT_t, wRevS_l, wRevS_t]
        refine ⟨ss, b, b + 1 + x, b + 1 + y, rfl, hb1, by omega, hb2, by omega, by omega, ?_⟩
        rw [hu]
        exact ⟨_, rfl, rfl, q⟩
      | cons k ks =>
        rw [hc] at hu
        rw [if_pos (by simp)]
        refine ⟨.int (k : Int), atI_at (i := 0) rfl rfl, ?_⟩
        unfold m__law_loops_right_r23
        try simp only [sSeq, sSkip, sAsg, sAsgP, sNew, sNewP, sRet, sRetO, sIf, sApp, sAppP, sSet, sAug, sTgt, sTgtP, sPar, sFz, frz, sFor, sForR, sRev, sBrk, sCnt, sDrop, eOp, eUn, eCall, eVar, eC, eFr, eTup, eTupR, eAnd, eOr, eNot, eIf, eChain, eIndex, eSl, nLst, nList, nListR, nLc, nLc2, nCall, nSorted, nRep, tOf, tAndJ, tOrJ, tNotJ, tTrue, iSeq, iR1, iR2, iR3, rg1, rg2, evA, pNo, pSo, startE, hide, rd, hide_v, hide_o, hide_n, rd_v, rd_o, rd_n, bind_one, bind_many, setAll, List.map, List.replicate, List.length, List.cons_append, List.nil_append, List.getElem?_cons_zero, List.getElem?_cons_succ, List.set_cons_zero, List.set_cons_succ, Option.bind_some, ex_some, Option.some.injEq, Slot.own.injEq, Slot.val.injEq, exists_eq_left', true_and, and_true, Bool.false_eq_true, if_false, if_true, reduceIte, wEq, wNe, wAdd_i, wAdd_t, wAdd_l, wAdd_s, wSub_i, wMul_i, wDiv_i, wMod_i, wPow_i, wNeg_i, wLt_i, wLe_i, wGt_i, wGe_i, wIs_n, wIs_b, wIsNot_n, wIsNot_b, wIx_l, wIx_t, wLen_l, wLen_t, wAbs_i, wInt_i, wInt_b, wMax2_i, wMin2_i, wTuple_l, wTuple_t, wB_b, wI_i, seqOf_l, seqOf_t, wIAdd_i, wIAdd_t, wIMul_i, wSl_l, wSl_t, wIn_l, wIn_t, wNotIn_l, wNotIn_t, items_l, items_t, lv_i, lv_b, lv_n, eqv_ii, eqv_bb, isNon_n, isNon_i, isNon_b, isNon_s, isNon_t, isNon_l, Bool.not_true, Bool.not_false, b2n_t, b2n_f, pl_i, pl_b, pl_n, decide_eq_true_eq, sExt, sExtP, wMulT_i, wMulT_t, wRevS_l, wRevS_t]
        refine ⟨ss, b, b + 1 + x, b + 1 + y, rfl, hb1, by omega, hb2, by omega, by omega, ?_⟩
        rw [hu]
        exact ⟨_, rfl, rfl, q⟩
    show m__law_loops_right_r3 _ _
    unfold m__law_loops_right_r3
    try simp only [sSeq, sSkip, sAsg, sAsgP, sNew, sNewP, sRet, sRetO, sIf, sApp, sAppP, sSet, sAug, sTgt, sTgtP, sPar, sFz, frz, sFor, sForR, sRev, sBrk, sCnt, sDrop, eOp, eUn, eCall, eVar, eC, eFr, eTup, eTupR, eAnd, eOr, eNot, eIf, eChain, eIndex, eSl, nLst, nList, nListR, nLc, nLc2, nCall, nSorted, nRep, tOf, tAndJ, tOrJ, tNotJ, tTrue, iSeq, iR1, iR2, iR3, rg1, rg2, evA, pNo, pSo, startE, hide, rd, hide_v, hide_o, hide_n, rd_v, rd_o, rd_n, bind_one, bind_many, setAll, List.map, List.replicate, List.length, List.cons_append, List.nil_append, List.getElem?_cons_zero, List.getElem?_cons_succ, List.set_cons_zero, List.set_cons_succ, Option.bind_some, ex_some, Option.some.injEq, Slot.own.injEq, Slot.val.injEq, exists_eq_left', true_and, and_true, Bool.false_eq_true, if_false, if_true, reduceIte, wEq, wNe, wAdd_i, wAdd_t, wAdd_l, wAdd_s, wSub_i, wMul_i, wDiv_i, wMod_i, wPow_i, wNeg_i, wLt_i, wLe_i, wGt_i, wGe_i, wIs_n, wIs_b, wIsNot_n, wIsNot_b, wIx_l, wIx_t, wLen_l, wLen_t, wAbs_i, wInt_i, wInt_b, wMax2_i, wMin2_i, wTuple_l, wTuple_t, wB_b, wI_i, seqOf_l, seqOf_t, wIAdd_i, wIAdd_t, wIMul_i, wSl_l, wSl_t, wIn_l, wIn_t, wNotIn_l, wNotIn_t, items_l, items_t, lv_i, lv_b, lv_n, eqv_ii, eqv_bb, isNon_n, isNon_i, isNon_b, isNon_s, isNon_t, isNon_l, Bool.not_true, Bool.not_false, b2n_t, b2n_f, pl_i, pl_b, pl_n, decide_eq_true_eq, sExt, sExtP, wMulT_i, wMulT_t, wRevS_l, wRevS_t, isNon_encB]
    have fin : ∀ s5 : D, s5 = bestD (bestC ss least) → m__law_loops_right_r11 [.val (.dict []), .val (T ss), .val (.int (least : Int)), .val (encB (bestC ss least)), s4, .val s5, .no, .no, .no, .no, .no, .no, s12, s13, .no] ⟨fun _ => QD .none, QD, noB, noB, fun es => QD (.list es)⟩ := by
      rintro s5 rfl
      unfold m__law_loops_right_r11
      try simp only [sSeq, sSkip, sAsg, sAsgP, sNew, sNewP, sRet, sRetO, sIf, sApp, sAppP, sSet, sAug, sTgt, sTgtP, sPar, sFz, frz, sFor, sForR, sRev, sBrk, sCnt, sDrop, eOp, eUn, eCall, eVar, eC, eFr, eTup, eTupR, eAnd, eOr, eNot, eIf, eChain, eIndex, eSl, nLst, nList, nListR, nLc, nLc2, nCall, nSorted, nRep, tOf, tAndJ, tOrJ, tNotJ, tTrue, iSeq, iR1, iR2, iR3, rg1, rg2, evA, pNo, pSo, startE, hide, rd, hide_v, hide_o, hide_n, rd_v, rd_o, rd_n, bind_one, bind_many, setAll, List.map, List.replicate, List.length, List.cons_append, List.nil_append, List.getElem?_cons_zero, List.getElem?_cons_succ, List.set_cons_zero, List.set_cons_succ, Option.bind_some, ex_some, Option.some.injEq, Slot.own.injEq, Slot.val.injEq, exists_eq_left', true_and, and_true, Bool.false_eq_true, if_false, if_true, reduceIte, wEq, wNe, wAdd_i, wAdd_t, wAdd_l, wAdd_s, wSub_i, wMul_i, wDiv_i, wMod_i, wPow_i, wNeg_i, wLt_i, wLe_i, wGt_i, wGe_i, wIs_n, wIs_b, wIsNot_n, wIsNot_b, wIx_l, wIx_t, wLen_l, wLen_t, wAbs_i, wInt_i, wInt_b, wMax2_i, wMin2_i, wTuple_l, wTuple_t, wB_b, wI_i, seqOf_l, seqOf_t, wIAdd_i, wIAdd_t, wIMul_i, wSl_l, wSl_t, wIn_l, wIn_t, wNotIn_l, wNotIn_t, items_l, items_t, lv_i, lv_b, lv_n, eqv_ii, eqv_bb, isNon_n, isNon_i, isNon_b, isNon_s, isNon_t, isNon_l, Bool.not_true, Bool.not_false, b2n_t, b2n_f, pl_i, pl_b, pl_n, decide_eq_true_eq, sExt, sExtP, wMulT_i, wMulT_t, wRevS_l, wRevS_t]
      refine ⟨ss, least, rfl, by omega, by omega, by omega, _, rfl, bestD_tp _, ?_⟩
      try simp only [sSeq, sSkip, sAsg, sAsgP, sNew, sNewP, sRet, sRetO, sIf, sApp, sAppP, sSet, sAug, sTgt, sTgtP, sPar, sFz, frz, sFor, sForR, sRev, sBrk, sCnt, sDrop, eOp, eUn, eCall, eVar, eC, eFr, eTup, eTupR, eAnd, eOr, eNot, eIf, eChain, eIndex, eSl, nLst, nList, nListR, nLc, nLc2, nCall, nSorted, nRep, tOf, tAndJ, tOrJ, tNotJ, tTrue, iSeq, iR1, iR2, iR3, rg1, rg2, evA, pNo, pSo, startE, hide, rd, hide_v, hide_o, hide_n, rd_v, rd_o, rd_n, bind_one, bind_many, setAll, List.map, List.replicate, List.length, List.cons_append, List.nil_append, List.getElem?_cons_zero, List.getElem?_cons_succ, List.set_cons_zero, List.set_cons_succ, Option.bind_some, ex_some, Option.some.injEq, Slot.own.injEq, Slot.val.injEq, exists_eq_left', true_and, and_true, Bool.false_eq_true, if_false, if_true, reduceIte, wEq, wNe, wAdd_i, wAdd_t, wAdd_l, wAdd_s, wSub_i, wMul_i, wDiv_i, wMod_i, wPow_i, wNeg_i, wLt_i, wLe_i, wGt_i, wGe_i, wIs_n, wIs_b, wIsNot_n, wIsNot_b, wIx_l, wIx_t, wLen_l, wLen_t, wAbs_i, wInt_i, wInt_b, wMax2_i, wMin2_i, wTuple_l, wTuple_t, wB_b, wI_i, seqOf_l, seqOf_t, wIAdd_i, wIAdd_t, wIMul_i, wSl_l, wSl_t, wIn_l, wIn_t, wNotIn_l, wNotIn_t, items_l, items_t, lv_i, lv_b, lv_n, eqv_ii, eqv_bb, isNon_n, isNon_i, isNon_b, isNon_s, isNon_t, isNon_l, Bool.not_true, Bool.not_false, b2n_t, b2n_f, pl_i, pl_b, pl_n, decide_eq_true_eq, sExt, sExtP, wMulT_i, wMulT_t, wRevS_l, wRevS_t]
      exact tail _ _ _ _
    cases hb : bestC ss least with
    | none =>
      rw [hb] at fin
      rw [if_neg (by simp)]
      exact fin _ rfl
    | some x =>
      rw [hb] at fin
      rw [if_pos (by simp)]
      have e0 : encB (some x) = .tuple [.int x.1, .int (x.2.1 : Int), .int (x.2.2 : Int)] := rfl
      rw [e0]
      try simp only [sSeq, sSkip, sAsg, sAsgP, sNew, sNewP, sRet, sRetO, sIf, sApp, sAppP, sSet, sAug, sTgt, sTgtP, sPar, sFz, frz, sFor, sForR, sRev, sBrk, sCnt, sDrop, eOp, eUn, eCall, eVar, eC, eFr, eTup, eTupR, eAnd, eOr, eNot, eIf, eChain, eIndex, eSl, nLst, nList, nListR, nLc, nLc2, nCall, nSorted, nRep, tOf, tAndJ, tOrJ, tNotJ, tTrue, iSeq, iR1, iR2, iR3, rg1, rg2, evA, pNo, pSo, startE, hide, rd, hide_v, hide_o, hide_n, rd_v, rd_o, rd_n, bind_one, bind_many, setAll, List.map, List.replicate, List.length, List.cons_append, List.nil_append, List.getElem?_cons_zero, List.getElem?_cons_succ, List.set_cons_zero, List.set_cons_succ, Option.bind_some, ex_some, Option.some.injEq, Slot.own.injEq, Slot.val.injEq, exists_eq_left', true_and, and_true, Bool.false_eq_true, if_false, if_true, reduceIte, wEq, wNe, wAdd_i, wAdd_t, wAdd_l, wAdd_s, wSub_i, wMul_i, wDiv_i, wMod_i, wPow_i, wNeg_i, wLt_i, wLe_i, wGt_i, wGe_i, wIs_n, wIs_b, wIsNot_n, wIsNot_b, wIx_l, wIx_t, wLen_l, wLen_t, wAbs_i, wInt_i, wInt_b, wMax2_i, wMin2_i, wTuple_l, wTuple_t, wB_b, wI_i, seqOf_l, seqOf_t, wIAdd_i, wIAdd_t, wIMul_i, wSl_l, wSl_t, wIn_l, wIn_t, wNotIn_l, wNotIn_t, items_l, items_t, lv_i, lv_b, lv_n, eqv_ii, eqv_bb, isNon_n, isNon_i, isNon_b, isNon_s, isNon_t, isNon_l, Bool.not_true, Bool.not_false, b2n_t, b2n_f, pl_i, pl_b, pl_n, decide_eq_true_eq, sExt, sExtP, wMulT_i, wMulT_t, wRevS_l, wRevS_t, at3_1, at3_2]
      exact fin _ rfl
/-! ## the law -/
/-! law: 0=script 1=draws 2=k 3=samples 4=begin 5=end 6=at 7=due -/
def m_law_b2 : SX := (sSeq (sAsg 3 (eCall S__law_samples [(eVar 1), (eVar 0), (eOp wAdd (eC (.int 1)) (eCall S__law_take [(eVar 1), (eOp wIx (eFr (nLst [(eC (.int 6)), (eC (.int 24)), (eC (.int 12))])) (eVar 2))]))]))
      (sSeq (sAsg 4 (eCall S__law_take [(eVar 1), (eCall wLen [(eVar 3)])]))
      (sSeq (sAsg 5 (eOp wAdd (eOp wAdd (eVar 4) (eC (.int 1))) (eCall S__law_take [(eVar 1), (eOp wSub (eCall wLen [(eVar 3)]) (eVar 4))])))
      (sSeq (sIf (tOrJ (tNotJ (tOf (eCall S__law_levels_right [(eVar 1), (eVar 3), (eVar 4), (eVar 5)]))) (tOrJ (tNotJ (tOf (eCall S__law_blended_right [(eVar 1), (eVar 3), (eVar 4), (eVar 5)]))) (tNotJ (tOf (eCall S__law_loops_right [(eVar 1), (eVar 3)]))))) (sRet (eC (.bool false))) sSkip)
      (sSeq (sAsg 6 (eCall wAbs [(eCall S__law_cell [(eVar 0), (eCall S__law_take [(eVar 1), (eC (.int 64))])])]))
      (sSeq (sAsg 7 (eOp wIx (eVar 3) (eCall wMin2 [(eVar 6), (eOp wSub (eVar 5) (eC (.int 1)))])))
      (sSeq (sIf (tOf (eOp wGe (eVar 6) (eVar 5))) (sAsg 7 (eOp wIx (eVar 3) (eOp wAdd (eVar 4) (eOp wMod (eCall wInt [(eOp wSub (eVar 6) (eVar 4))]) (eOp wSub (eVar 5) (eVar 4)))))) sSkip)
      (sIf (tNotJ (tOf (eCall S__law_same [(eCall S_sample_at [(eVar 3), (eVar 4), (eVar 5), (eVar 6)]), (eVar 7)]))) (sRet (eC (.bool false))) sSkip))))))))
def m_law_r14 : SX := (sRet (eAnd (eCall S__law_same [(eCall S_blended [(eTup [(eC (.int 8)), (eC (.int 0)), (eC (.int 6)), (eC (.int 2))]), (eC (.int 2)), (eC (.int 4)), (eC (.int 2))]), (eTup [(eC (.int 8)), (eC (.int 0)), (eC (.int 6)), (eC (.int 1))])]) (eCall S__law_same [(eCall S_quiet_spans [(eCall S_played [(eTup [(eC (.int 9)), (eC (.int 0)), (eC (.int 0))]), (eC (.int 1)), (eC (.int 3)), (eC (.int 6))]), (eC (.int 1)), (eC (.int 2))]), (eTup [(eTup [(eC (.int 1)), (eC (.int 6))])])])))
def m_law_r2 : SX := (sSeq (sIf (tOrJ (tNotJ (tOf (eCall S__law_same [(eCall S_played [(eTup [(eC (.int 1)), (eC (.int 2)), (eC (.int 3)), (eC (.int 4))]), (eC (.int 1)), (eC (.int 3)), (eC (.int 7))]), (eTup [(eC (.int 1)), (eC (.int 2)), (eC (.int 3)), (eC (.int 2)), (eC (.int 3)), (eC (.int 2)), (eC (.int 3))])]))) (tNotJ (tOf (eCall S__law_same [(eCall S_blended [(eTup [(eC (.int 0)), (eC (.int 9)), (eC (.int 4)), (eUn wNeg (eC (.int 5)))]), (eC (.int 1)), (eC (.int 4)), (eC (.int 1))]), (eTup [(eC (.int 0)), (eC (.int 9)), (eC (.int 4)), (eUn wNeg (eC (.int 5)))])])))) (sRet (eC (.bool false))) sSkip)
      m_law_r14)
def m_law : SX := (sSeq (sAsg 1 (eCall S__law_draws [(eVar 0), (eC (.int 420))]))
      (sSeq (sForR (iR1 (eC (.int 3))) (.one 2) m_law_b2)
      m_law_r2))
abbrev S_law : WL := SLaw
theorem wp_law (ds : List D) (QD : D → Prop) (h : S_law ds QD) : m_law (startE 8 ds) ⟨fun _ => QD .none, QD, noB, noB, fun es => QD (.list es)⟩ := by
  obtain ⟨ns, rfl, hl, q⟩ := h
  unfold m_law
  try simp only [sSeq, sSkip, sAsg, sAsgP, sNew, sNewP, sRet, sRetO, sIf, sApp, sAppP, sSet, sAug, sTgt, sTgtP, sPar, sFz, frz, sFor, sForR, sRev, sBrk, sCnt, sDrop, eOp, eUn, eCall, eVar, eC, eFr, eTup, eTupR, eAnd, eOr, eNot, eIf, eChain, eIndex, eSl, nLst, nList, nListR, nLc, nLc2, nCall, nSorted, nRep, tOf, tAndJ, tOrJ, tNotJ, tTrue, iSeq, iR1, iR2, iR3, rg1, rg2, evA, pNo, pSo, startE, hide, rd, hide_v, hide_o, hide_n, rd_v, rd_o, rd_n, bind_one, bind_many, setAll, List.map, List.replicate, List.length, List.cons_append, List.nil_append, List.getElem?_cons_zero, List.getElem?_cons_succ, List.set_cons_zero, List.set_cons_succ, Option.bind_some, ex_some, Option.some.injEq, Slot.own.injEq, Slot.val.injEq, exists_eq_left', true_and, and_true, Bool.false_eq_true, if_false, if_true, reduceIte, wEq, wNe, wAdd_i, wAdd_t, wAdd_l, wAdd_s, wSub_i, wMul_i, wDiv_i, wMod_i, wPow_i, wNeg_i, wLt_i, wLe_i, wGt_i, wGe_i, wIs_n, wIs_b, wIsNot_n, wIsNot_b, wIx_l, wIx_t, wLen_l, wLen_t, wAbs_i, wInt_i, wInt_b, wMax2_i, wMin2_i, wTuple_l, wTuple_t, wB_b, wI_i, seqOf_l, seqOf_t, wIAdd_i, wIAdd_t, wIMul_i, wSl_l, wSl_t, wIn_l, wIn_t, wNotIn_l, wNotIn_t, items_l, items_t, lv_i, lv_b, lv_n, eqv_ii, eqv_bb, isNon_n, isNon_i, isNon_b, isNon_s, isNon_t, isNon_l, Bool.not_true, Bool.not_false, b2n_t, b2n_f, pl_i, pl_b, pl_n, decide_eq_true_eq, sExt, sExtP, wMulT_i, wMulT_t, wRevS_l, wRevS_t]
  refine ⟨ns, _, rfl, hl, by decide, by decide, ?_⟩
  try simp only [sSeq, sSkip, sAsg, sAsgP, sNew, sNewP, sRet, sRetO, sIf, sApp, sAppP, sSet, sAug, sTgt, sTgtP, sPar, sFz, frz, sFor, sForR, sRev, sBrk, sCnt, sDrop, eOp, eUn, eCall, eVar, eC, eFr, eTup, eTupR, eAnd, eOr, eNot, eIf, eChain, eIndex, eSl, nLst, nList, nListR, nLc, nLc2, nCall, nSorted, nRep, tOf, tAndJ, tOrJ, tNotJ, tTrue, iSeq, iR1, iR2, iR3, rg1, rg2, evA, pNo, pSo, startE, hide, rd, hide_v, hide_o, hide_n, rd_v, rd_o, rd_n, bind_one, bind_many, setAll, List.map, List.replicate, List.length, List.cons_append, List.nil_append, List.getElem?_cons_zero, List.getElem?_cons_succ, List.set_cons_zero, List.set_cons_succ, Option.bind_some, ex_some, Option.some.injEq, Slot.own.injEq, Slot.val.injEq, exists_eq_left', true_and, and_true, Bool.false_eq_true, if_false, if_true, reduceIte, wEq, wNe, wAdd_i, wAdd_t, wAdd_l, wAdd_s, wSub_i, wMul_i, wDiv_i, wMod_i, wPow_i, wNeg_i, wLt_i, wLe_i, wGt_i, wGe_i, wIs_n, wIs_b, wIsNot_n, wIsNot_b, wIx_l, wIx_t, wLen_l, wLen_t, wAbs_i, wInt_i, wInt_b, wMax2_i, wMin2_i, wTuple_l, wTuple_t, wB_b, wI_i, seqOf_l, seqOf_t, wIAdd_i, wIAdd_t, wIMul_i, wSl_l, wSl_t, wIn_l, wIn_t, wNotIn_l, wNotIn_t, items_l, items_t, lv_i, lv_b, lv_n, eqv_ii, eqv_bb, isNon_n, isNon_i, isNon_b, isNon_s, isNon_t, isNon_l, Bool.not_true, Bool.not_false, b2n_t, b2n_f, pl_i, pl_b, pl_n, decide_eq_true_eq, sExt, sExtP, wMulT_i, wMulT_t, wRevS_l, wRevS_t]
  refine ⟨⟨by decide, by decide, by decide, by decide, by decide⟩, ?_⟩
  refine forW_inv (fun i e => ∃ s2 s3 s4 s5 s6 s7, e = [.val (.list (ns.map PyData.int)), .val (.dict []), s2, s3, s4, s5, s6, s7]) ⟨_, _, _, _, _, _, rfl⟩ ?_ ?_
  · rintro i d en hi ⟨s2, s3, s4, s5, s6, s7, rfl⟩ R hR
    obtain ⟨rfl, hlt⟩ := rgD_get0 hi
    refine ⟨_, rfl, ?_⟩
    unfold m_law_b2
    obtain ⟨mk, hmk, hmk2⟩ : ∃ mk : Int, atI [PyData.int 6, .int 24, .int 12] (i : Int) = some (.int mk) ∧ 0 < mk ∧ mk ≤ 24 := by
      have : i = 0 ∨ i = 1 ∨ i = 2 := by omega
      rcases this with rfl | rfl | rfl <;> exact ⟨_, rfl, by decide⟩
    try simp only [sSeq, sSkip, sAsg, sAsgP, sNew, sNewP, sRet, sRetO, sIf, sApp, sAppP, sSet, sAug, sTgt, sTgtP, sPar, sFz, frz, sFor, sForR, sRev, sBrk, sCnt, sDrop, eOp, eUn, eCall, eVar, eC, eFr, eTup, eTupR, eAnd, eOr, eNot, eIf, eChain, eIndex, eSl, nLst, nList, nListR, nLc, nLc2, nCall, nSorted, nRep, tOf, tAndJ, tOrJ, tNotJ, tTrue, iSeq, iR1, iR2, iR3, rg1, rg2, evA, pNo, pSo, startE, hide, rd, hide_v, hide_o, hide_n, rd_v, rd_o, rd_n, bind_one, bind_many, setAll, List.map, List.replicate, List.length, List.cons_append, List.nil_append, List.getElem?_cons_zero, List.getElem?_cons_succ, List.set_cons_zero, List.set_cons_succ, Option.bind_some, ex_some, Option.some.injEq, Slot.own.injEq, Slot.val.injEq, exists_eq_left', true_and, and_true, Bool.false_eq_true, if_false, if_true, reduceIte, wEq, wNe, wAdd_i, wAdd_t, wAdd_l, wAdd_s, wSub_i, wMul_i, wDiv_i, wMod_i, wPow_i, wNeg_i, wLt_i, wLe_i, wGt_i, wGe_i, wIs_n, wIs_b, wIsNot_n, wIsNot_b, wIx_l, wIx_t, wLen_l, wLen_t, wAbs_i, wInt_i, wInt_b, wMax2_i, wMin2_i, wTuple_l, wTuple_t, wB_b, wI_i, seqOf_l, seqOf_t, wIAdd_i, wIAdd_t, wIMul_i, wSl_l, wSl_t, wIn_l, wIn_t, wNotIn_l, wNotIn_t, items_l, items_t, lv_i, lv_b, lv_n, eqv_ii, eqv_bb, isNon_n, isNon_i, isNon_b, isNon_s, isNon_t, isNon_l, Bool.not_true, Bool.not_false, b2n_t, b2n_f, pl_i, pl_b, pl_n, decide_eq_true_eq, sExt, sExtP, wMulT_i, wMulT_t, wRevS_l, wRevS_t, hmk]
    refine ⟨mk, rfl, hmk2.1, fun r r0 r1 => ?_⟩
    obtain ⟨many, hmany⟩ := Int.eq_ofNat_of_zero_le (show 0 ≤ 1 + r by omega)
    try simp only [sSeq, sSkip, sAsg, sAsgP, sNew, sNewP, sRet, sRetO, sIf, sApp, sAppP, sSet, sAug, sTgt, sTgtP, sPar, sFz, frz, sFor, sForR, sRev, sBrk, sCnt, sDrop, eOp, eUn, eCall, eVar, eC, eFr, eTup, eTupR, eAnd, eOr, eNot, eIf, eChain, eIndex, eSl, nLst, nList, nListR, nLc, nLc2, nCall, nSorted, nRep, tOf, tAndJ, tOrJ, tNotJ, tTrue, iSeq, iR1, iR2, iR3, rg1, rg2, evA, pNo, pSo, startE, hide, rd, hide_v, hide_o, hide_n, rd_v, rd_o, rd_n, bind_one, bind_many, setAll, List.map, List.replicate, List.length, List.cons_append, List.nil_append, List.getElem?_cons_zero, List.getElem?_cons_succ, List.set_cons_zero, List.set_cons_succ, Option.bind_some, ex_some, Option.some.injEq, Slot.own.injEq, Slot.val.injEq, exists_eq_left', true_and, and_true, Bool.false_eq_true, if_false, if_true, reduceIte, wEq, wNe, wAdd_i, wAdd_t, wAdd_l, wAdd_s, wSub_i, wMul_i, wDiv_i, wMod_i, wPow_i, wNeg_i, wLt_i, wLe_i, wGt_i, wGe_i, wIs_n, wIs_b, wIsNot_n, wIsNot_b, wIx_l, wIx_t, wLen_l, wLen_t, wAbs_i, wInt_i, wInt_b, wMax2_i, wMin2_i, wTuple_l, wTuple_t, wB_b, wI_i, seqOf_l, seqOf_t, wIAdd_i, wIAdd_t, wIMul_i, wSl_l, wSl_t, wIn_l, wIn_t, wNotIn_l, wNotIn_t, items_l, items_t, lv_i, lv_b, lv_n, eqv_ii, eqv_bb, isNon_n, isNon_i, isNon_b, isNon_s, isNon_t, isNon_l, Bool.not_true, Bool.not_false, b2n_t, b2n_f, pl_i, pl_b, pl_n, decide_eq_true_eq, sExt, sExtP, wMulT_i, wMulT_t, wRevS_l, wRevS_t, hmany]
    refine ⟨ns, many, rfl, hl, by omega, fun ss hss hs3 => ?_⟩
    have hpos : 0 < ss.length := by omega
    have h100 : ss.length ≤ 100 := by omega
    try simp only [sSeq, sSkip, sAsg, sAsgP, sNew, sNewP, sRet, sRetO, sIf, sApp, sAppP, sSet, sAug, sTgt, sTgtP, sPar, sFz, frz, sFor, sForR, sRev, sBrk, sCnt, sDrop, eOp, eUn, eCall, eVar, eC, eFr, eTup, eTupR, eAnd, eOr, eNot, eIf, eChain, eIndex, eSl, nLst, nList, nListR, nLc, nLc2, nCall, nSorted, nRep, tOf, tAndJ, tOrJ, tNotJ, tTrue, iSeq, iR1, iR2, iR3, rg1, rg2, evA, pNo, pSo, startE, hide, rd, hide_v, hide_o, hide_n, rd_v, rd_o, rd_n, bind_one, bind_many, setAll, List.map, List.replicate, List.length, List.cons_append, List.nil_append, List.getElem?_cons_zero, List.getElem?_cons_succ, List.set_cons_zero, List.set_cons_succ, Option.bind_some, ex_some, Option.some.injEq, Slot.own.injEq, Slot.val.injEq, exists_eq_left', true_and, and_true, Bool.false_eq_true, if_false, if_true, reduceIte, wEq, wNe, wAdd_i, wAdd_t, wAdd_l, wAdd_s, wSub_i, wMul_i, wDiv_i, wMod_i, wPow_i, wNeg_i, wLt_i, wLe_i, wGt_i, wGe_i, wIs_n, wIs_b, wIsNot_n, wIsNot_b, wIx_l, wIx_t, wLen_l, wLen_t, wAbs_i, wInt_i, wInt_b, wMax2_i, wMin2_i, wTuple_l, wTuple_t, wB_b, wI_i, seqOf_l, seqOf_t, wIAdd_i, wIAdd_t, wIMul_i, wSl_l, wSl_t, wIn_l, wIn_t, wNotIn_l, wNotIn_t, items_l, items_t, lv_i, lv_b, lv_n, eqv_ii, eqv_bb, isNon_n, isNon_i, isNon_b, isNon_s, isNon_t, isNon_l, Bool.not_true, Bool.not_false, b2n_t, b2n_f, pl_i, pl_b, pl_n, decide_eq_true_eq, sExt, sExtP, wMulT_i, wMulT_t, wRevS_l, wRevS_t, List.length_map]
    refine ⟨_, rfl, by omega, fun b' b0 b1 => ?_⟩
    obtain ⟨b, rfl⟩ := Int.eq_ofNat_of_zero_le b0
    try simp only [sSeq, sSkip, sAsg, sAsgP, sNew, sNewP, sRet, sRetO, sIf, sApp, sAppP, sSet, sAug, sTgt, sTgtP, sPar, sFz, frz, sFor, sForR, sRev, sBrk, sCnt, sDrop, eOp, eUn, eCall, eVar, eC, eFr, eTup, eTupR, eAnd, eOr, eNot, eIf, eChain, eIndex, eSl, nLst, nList, nListR, nLc, nLc2, nCall, nSorted, nRep, tOf, tAndJ, tOrJ, tNotJ, tTrue, iSeq, iR1, iR2, iR3, rg1, rg2, evA, pNo, pSo, startE, hide, rd, hide_v, hide_o, hide_n, rd_v, rd_o, rd_n, bind_one, bind_many, setAll, List.map, List.replicate, List.length, List.cons_append, List.nil_append, List.getElem?_cons_zero, List.getElem?_cons_succ, List.set_cons_zero, List.set_cons_succ, Option.bind_some, ex_some, Option.some.injEq, Slot.own.injEq, Slot.val.injEq, exists_eq_left', true_and, and_true, Bool.false_eq_true, if_false, if_true, reduceIte, wEq, wNe, wAdd_i, wAdd_t, wAdd_l, wAdd_s, wSub_i, wMul_i, wDiv_i, wMod_i, wPow_i, wNeg_i, wLt_i, wLe_i, wGt_i, wGe_i, wIs_n, wIs_b, wIsNot_n, wIsNot_b, wIx_l, wIx_t, wLen_l, wLen_t, wAbs_i, wInt_i, wInt_b, wMax2_i, wMin2_i, wTuple_l, wTuple_t, wB_b, wI_i, seqOf_l, seqOf_t, wIAdd_i, wIAdd_t, wIMul_i, wSl_l, wSl_t, wIn_l, wIn_t, wNotIn_l, wNotIn_t, items_l, items_t, lv_i, lv_b, lv_n, eqv_ii, eqv_bb, isNon_n, isNon_i, isNon_b, isNon_s, isNon_t, isNon_l, Bool.not_true, Bool.not_false, b2n_t, b2n_f, pl_i, pl_b, pl_n, decide_eq_true_eq, sExt, sExtP, wMulT_i, wMulT_t, wRevS_l, wRevS_t, List.length_map]
    refine ⟨_, rfl, by omega, fun x' x0 x1 => ?_⟩
    obtain ⟨x, rfl⟩ := Int.eq_ofNat_of_zero_le x0
    obtain ⟨e, he⟩ : ∃ e : Nat, e = b + 1 + x := ⟨_, rfl⟩
    have ee : (b : Int) + 1 + (x : Int) = (e : Int) := by omega
    have hbe : b < e := by omega
    have hel : e ≤ ss.length := by omega
    try simp only [sSeq, sSkip, sAsg, sAsgP, sNew, sNewP, sRet, sRetO, sIf, sApp, sAppP, sSet, sAug, sTgt, sTgtP, sPar, sFz, frz, sFor, sForR, sRev, sBrk, sCnt, sDrop, eOp, eUn, eCall, eVar, eC, eFr, eTup, eTupR, eAnd, eOr, eNot, eIf, eChain, eIndex, eSl, nLst, nList, nListR, nLc, nLc2, nCall, nSorted, nRep, tOf, tAndJ, tOrJ, tNotJ, tTrue, iSeq, iR1, iR2, iR3, rg1, rg2, evA, pNo, pSo, startE, hide, rd, hide_v, hide_o, hide_n, rd_v, rd_o, rd_n, bind_one, bind_many, setAll, List.map, List.replicate, List.length, List.cons_append, List.nil_append, List.getElem?_cons_zero, List.getElem?_cons_succ, List.set_cons_zero, List.set_cons_succ, Option.bind_some, ex_some, Option.some.injEq, Slot.own.injEq, Slot.val.injEq, exists_eq_left', true_and, and_true, Bool.false_eq_true, if_false, if_true, reduceIte, wEq, wNe, wAdd_i, wAdd_t, wAdd_l, wAdd_s, wSub_i, wMul_i, wDiv_i, wMod_i, wPow_i, wNeg_i, wLt_i, wLe_i, wGt_i, wGe_i, wIs_n, wIs_b, wIsNot_n, wIsNot_b, wIx_l, wIx_t, wLen_l, wLen_t, wAbs_i, wInt_i, wInt_b, wMax2_i, wMin2_i, wTuple_l, wTuple_t, wB_b, wI_i, seqOf_l, seqOf_t, wIAdd_i, wIAdd_t, wIMul_i, wSl_l, wSl_t, wIn_l, wIn_t, wNotIn_l, wNotIn_t, items_l, items_t, lv_i, lv_b, lv_n, eqv_ii, eqv_bb, isNon_n, isNon_i, isNon_b, isNon_s, isNon_t, isNon_l, Bool.not_true, Bool.not_false, b2n_t, b2n_f, pl_i, pl_b, pl_n, decide_eq_true_eq, sExt, sExtP, wMulT_i, wMulT_t, wRevS_l, wRevS_t, ee]
    refine ⟨ss, b, e, rfl, hbe, hel, h100, hs3, ?_⟩
    try simp only [sSeq, sSkip, sAsg, sAsgP, sNew, sNewP, sRet, sRetO, sIf, sApp, sAppP, sSet, sAug, sTgt, sTgtP, sPar, sFz, frz, sFor, sForR, sRev, sBrk, sCnt, sDrop, eOp, eUn, eCall, eVar, eC, eFr, eTup, eTupR, eAnd, eOr, eNot, eIf, eChain, eIndex, eSl, nLst, nList, nListR, nLc, nLc2, nCall, nSorted, nRep, tOf, tAndJ, tOrJ, tNotJ, tTrue, iSeq, iR1, iR2, iR3, rg1, rg2, evA, pNo, pSo, startE, hide, rd, hide_v, hide_o, hide_n, rd_v, rd_o, rd_n, bind_one, bind_many, setAll, List.map, List.replicate, List.length, List.cons_append, List.nil_append, List.getElem?_cons_zero, List.getElem?_cons_succ, List.set_cons_zero, List.set_cons_succ, Option.bind_some, ex_some, Option.some.injEq, Slot.own.injEq, Slot.val.injEq, exists_eq_left', true_and, and_true, Bool.false_eq_true, if_false, if_true, reduceIte, wEq, wNe, wAdd_i, wAdd_t, wAdd_l, wAdd_s, wSub_i, wMul_i, wDiv_i, wMod_i, wPow_i, wNeg_i, wLt_i, wLe_i, wGt_i, wGe_i, wIs_n, wIs_b, wIsNot_n, wIsNot_b, wIx_l, wIx_t, wLen_l, wLen_t, wAbs_i, wInt_i, wInt_b, wMax2_i, wMin2_i, wTuple_l, wTuple_t, wB_b, wI_i, seqOf_l, seqOf_t, wIAdd_i, wIAdd_t, wIMul_i, wSl_l, wSl_t, wIn_l, wIn_t, wNotIn_l, wNotIn_t, items_l, items_t, lv_i, lv_b, lv_n, eqv_ii, eqv_bb, isNon_n, isNon_i, isNon_b, isNon_s, isNon_t, isNon_l, Bool.not_true, Bool.not_false, b2n_t, b2n_f, pl_i, pl_b, pl_n, decide_eq_true_eq, sExt, sExtP, wMulT_i, wMulT_t, wRevS_l, wRevS_t]
    refine ⟨ss, b, e, rfl, hbe, hel, h100, hs3, ?_⟩
    try simp only [sSeq, sSkip, sAsg, sAsgP, sNew, sNewP, sRet, sRetO, sIf, sApp, sAppP, sSet, sAug, sTgt, sTgtP, sPar, sFz, frz, sFor, sForR, sRev, sBrk, sCnt, sDrop, eOp, eUn, eCall, eVar, eC, eFr, eTup, eTupR, eAnd, eOr, eNot, eIf, eChain, eIndex, eSl, nLst, nList, nListR, nLc, nLc2, nCall, nSorted, nRep, tOf, tAndJ, tOrJ, tNotJ, tTrue, iSeq, iR1, iR2, iR3, rg1, rg2, evA, pNo, pSo, startE, hide, rd, hide_v, hide_o, hide_n, rd_v, rd_o, rd_n, bind_one, bind_many, setAll, List.map, List.replicate, List.length, List.cons_append, List.nil_append, List.getElem?_cons_zero, List.getElem?_cons_succ, List.set_cons_zero, List.set_cons_succ, Option.bind_some, ex_some, Option.some.injEq, Slot.own.injEq, Slot.val.injEq, exists_eq_left', true_and, and_true, Bool.false_eq_true, if_false, if_true, reduceIte, wEq, wNe, wAdd_i, wAdd_t, wAdd_l, wAdd_s, wSub_i, wMul_i, wDiv_i, wMod_i, wPow_i, wNeg_i, wLt_i, wLe_i, wGt_i, wGe_i, wIs_n, wIs_b, wIsNot_n, wIsNot_b, wIx_l, wIx_t, wLen_l, wLen_t, wAbs_i, wInt_i, wInt_b, wMax2_i, wMin2_i, wTuple_l, wTuple_t, wB_b, wI_i, seqOf_l, seqOf_t, wIAdd_i, wIAdd_t, wIMul_i, wSl_l, wSl_t, wIn_l, wIn_t, wNotIn_l, wNotIn_t, items_l, items_t, lv_i, lv_b, lv_n, eqv_ii, eqv_bb, isNon_n, isNon_i, isNon_b, isNon_s, isNon_t, isNon_l, Bool.not_true, Bool.not_false, b2n_t, b2n_f, pl_i, pl_b, pl_n, decide_eq_true_eq, sExt, sExtP, wMulT_i, wMulT_t, wRevS_l, wRevS_t]
    refine ⟨ss, rfl, hpos, h100, ?_⟩
    try simp only [sSeq, sSkip, sAsg, sAsgP, sNew, sNewP, sRet, sRetO, sIf, sApp, sAppP, sSet, sAug, sTgt, sTgtP, sPar, sFz, frz, sFor, sForR, sRev, sBrk, sCnt, sDrop, eOp, eUn, eCall, eVar, eC, eFr, eTup, eTupR, eAnd, eOr, eNot, eIf, eChain, eIndex, eSl, nLst, nList, nListR, nLc, nLc2, nCall, nSorted, nRep, tOf, tAndJ, tOrJ, tNotJ, tTrue, iSeq, iR1, iR2, iR3, rg1, rg2, evA, pNo, pSo, startE, hide, rd, hide_v, hide_o, hide_n, rd_v, rd_o, rd_n, bind_one, bind_many, setAll, List.map, List.replicate, List.length, List.cons_append, List.nil_append, List.getElem?_cons_zero, List.getElem?_cons_succ, List.set_cons_zero, List.set_cons_succ, Option.bind_some, ex_some, Option.some.injEq, Slot.own.injEq, Slot.val.injEq, exists_eq_left', true_and, and_true, Bool.false_eq_true, if_false, if_true, reduceIte, wEq, wNe, wAdd_i, wAdd_t, wAdd_l, wAdd_s, wSub_i, wMul_i, wDiv_i, wMod_i, wPow_i, wNeg_i, wLt_i, wLe_i, wGt_i, wGe_i, wIs_n, wIs_b, wIsNot_n, wIsNot_b, wIx_l, wIx_t, wLen_l, wLen_t, wAbs_i, wInt_i, wInt_b, wMax2_i, wMin2_i, wTuple_l, wTuple_t, wB_b, wI_i, seqOf_l, seqOf_t, wIAdd_i, wIAdd_t, wIMul_i, wSl_l, wSl_t, wIn_l, wIn_t, wNotIn_l, wNotIn_t, items_l, items_t, lv_i, lv_b, lv_n, eqv_ii, eqv_bb, isNon_n, isNon_i, isNon_b, isNon_s, isNon_t, isNon_l, Bool.not_true, Bool.not_false, b2n_t, b2n_f, pl_i, pl_b, pl_n, decide_eq_true_eq, sExt, sExtP, wMulT_i, wMulT_t, wRevS_l, wRevS_t]
    refine ⟨_, rfl, by decide, fun at_ _ _ => ?_⟩
    refine ⟨ns, at_, rfl, hl, fun far hfar => ?_⟩
    generalize hf : far.natAbs = a
    have g1 := getD_at (ss := ss) (i := min a (e - 1)) (k := min (a : Int) ((e : Int) - 1)) (by omega) (by omega)
    try simp only [sSeq, sSkip, sAsg, sAsgP, sNew, sNewP, sRet, sRetO, sIf, sApp, sAppP, sSet, sAug, sTgt, sTgtP, sPar, sFz, frz, sFor, sForR, sRev, sBrk, sCnt, sDrop, eOp, eUn, eCall, eVar, eC, eFr, eTup, eTupR, eAnd, eOr, eNot, eIf, eChain, eIndex, eSl, nLst, nList, nListR, nLc, nLc2, nCall, nSorted, nRep, tOf, tAndJ, tOrJ, tNotJ, tTrue, iSeq, iR1, iR2, iR3, rg1, rg2, evA, pNo, pSo, startE, hide, rd, hide_v, hide_o, hide_n, rd_v, rd_o, rd_n, bind_one, bind_many, setAll, List.map, List.replicate, List.length, List.cons_append, List.nil_append, List.getElem?_cons_zero, List.getElem?_cons_succ, List.set_cons_zero, List.set_cons_succ, Option.bind_some, ex_some, Option.some.injEq, Slot.own.injEq, Slot.val.injEq, exists_eq_left', true_and, and_true, Bool.false_eq_true, if_false, if_true, reduceIte, wEq, wNe, wAdd_i, wAdd_t, wAdd_l, wAdd_s, wSub_i, wMul_i, wDiv_i, wMod_i, wPow_i, wNeg_i, wLt_i, wLe_i, wGt_i, wGe_i, wIs_n, wIs_b, wIsNot_n, wIsNot_b, wIx_l, wIx_t, wLen_l, wLen_t, wAbs_i, wInt_i, wInt_b, wMax2_i, wMin2_i, wTuple_l, wTuple_t, wB_b, wI_i, seqOf_l, seqOf_t, wIAdd_i, wIAdd_t, wIMul_i, wSl_l, wSl_t, wIn_l, wIn_t, wNotIn_l, wNotIn_t, items_l, items_t, lv_i, lv_b, lv_n, eqv_ii, eqv_bb, isNon_n, isNon_i, isNon_b, isNon_s, isNon_t, isNon_l, Bool.not_true, Bool.not_false, b2n_t, b2n_f, pl_i, pl_b, pl_n, decide_eq_true_eq, sExt, sExtP, wMulT_i, wMulT_t, wRevS_l, wRevS_t, hf, g1]
    by_cases c : e ≤ a
    · rw [if_pos (by omega)]
      have hmod := Nat.mod_lt (a - b) (show 0 < e - b by omega)
      have g2 := getD_at (ss := ss) (i := b + (a - b) % (e - b)) (k := (b : Int) + ((a : Int) - (b : Int)) % ((e : Int) - (b : Int))) (by
        rw [Int.natCast_add, Int.natCast_emod, Int.natCast_sub (by omega), Int.natCast_sub (by omega)]) (by omega)
      try simp only [sSeq, sSkip, sAsg, sAsgP, sNew, sNewP, sRet, sRetO, sIf, sApp, sAppP, sSet, sAug, sTgt, sTgtP, sPar, sFz, frz, sFor, sForR, sRev, sBrk, sCnt, sDrop, eOp, eUn, eCall, eVar, eC, eFr, eTup, eTupR, eAnd, eOr, eNot, eIf, eChain, eIndex, eSl, nLst, nList, nListR, nLc, nLc2, nCall, nSorted, nRep, tOf, tAndJ, tOrJ, tNotJ, tTrue, iSeq, iR1, iR2, iR3, rg1, rg2, evA, pNo, pSo, startE, hide, rd, hide_v, hide_o, hide_n, rd_v, rd_o, rd_n, bind_one, bind_many, setAll, List.map, List.replicate, List.length, List.cons_append, List.nil_append, List.getElem?_cons_zero, List.getElem?_cons_succ, List.set_cons_zero, List.set_cons_succ, Option.bind_some, ex_some, Option.some.injEq, Slot.own.injEq, Slot.val.injEq, exists_eq_left', true_and, and_true, Bool.false_eq_true, if_false, if_true, reduceIte, wEq, wNe, wAdd_i, wAdd_t, wAdd_l, wAdd_s, wSub_i, wMul_i, wDiv_i, wMod_i, wPow_i, wNeg_i, wLt_i, wLe_i, wGt_i, wGe_i, wIs_n, wIs_b, wIsNot_n, wIsNot_b, wIx_l, wIx_t, wLen_l, wLen_t, wAbs_i, wInt_i, wInt_b, wMax2_i, wMin2_i, wTuple_l, wTuple_t, wB_b, wI_i, seqOf_l, seqOf_t, wIAdd_i, wIAdd_t, wIMul_i, wSl_l, wSl_t, wIn_l, wIn_t, wNotIn_l, wNotIn_t, items_l, items_t, lv_i, lv_b, lv_n, eqv_ii, eqv_bb, isNon_n, isNon_i, isNon_b, isNon_s, isNon_t, isNon_l, Bool.not_true, Bool.not_false, b2n_t, b2n_f, pl_i, pl_b, pl_n, decide_eq_true_eq, sExt, sExtP, wMulT_i, wMulT_t, wRevS_l, wRevS_t, g2]
      refine ⟨by omega, ss, b, e, a, rfl, hbe, hel, ?_⟩
      rw [at_ge c]
      refine ⟨_, rfl, tp_i, ?_⟩
      try simp only [sSeq, sSkip, sAsg, sAsgP, sNew, sNewP, sRet, sRetO, sIf, sApp, sAppP, sSet, sAug, sTgt, sTgtP, sPar, sFz, frz, sFor, sForR, sRev, sBrk, sCnt, sDrop, eOp, eUn, eCall, eVar, eC, eFr, eTup, eTupR, eAnd, eOr, eNot, eIf, eChain, eIndex, eSl, nLst, nList, nListR, nLc, nLc2, nCall, nSorted, nRep, tOf, tAndJ, tOrJ, tNotJ, tTrue, iSeq, iR1, iR2, iR3, rg1, rg2, evA, pNo, pSo, startE, hide, rd, hide_v, hide_o, hide_n, rd_v, rd_o, rd_n, bind_one, bind_many, setAll, List.map, List.replicate, List.length, List.cons_append, List.nil_append, List.getElem?_cons_zero, List.getElem?_cons_succ, List.set_cons_zero, List.set_cons_succ, Option.bind_some, ex_some, Option.some.injEq, Slot.own.injEq, Slot.val.injEq, exists_eq_left', true_and, and_true, Bool.false_eq_true, if_false, if_true, reduceIte, wEq, wNe, wAdd_i, wAdd_t, wAdd_l, wAdd_s, wSub_i, wMul_i, wDiv_i, wMod_i, wPow_i, wNeg_i, wLt_i, wLe_i, wGt_i, wGe_i, wIs_n, wIs_b, wIsNot_n, wIsNot_b, wIx_l, wIx_t, wLen_l, wLen_t, wAbs_i, wInt_i, wInt_b, wMax2_i, wMin2_i, wTuple_l, wTuple_t, wB_b, wI_i, seqOf_l, seqOf_t, wIAdd_i, wIAdd_t, wIMul_i, wSl_l, wSl_t, wIn_l, wIn_t, wNotIn_l, wNotIn_t, items_l, items_t, lv_i, lv_b, lv_n, eqv_ii, eqv_bb, isNon_n, isNon_i, isNon_b, isNon_s, isNon_t, isNon_l, Bool.not_true, Bool.not_false, b2n_t, b2n_f, pl_i, pl_b, pl_n, decide_eq_true_eq, sExt, sExtP, wMulT_i, wMulT_t, wRevS_l, wRevS_t]
      exact hR _ ⟨_, _, _, _, _, _, rfl⟩
    · rw [if_neg (by omega)]
      refine ⟨ss, b, e, a, rfl, hbe, hel, ?_⟩
      rw [at_lt (by omega), Nat.min_eq_left (by omega)]
      refine ⟨_, rfl, tp_i, ?_⟩
      try simp only [sSeq, sSkip, sAsg, sAsgP, sNew, sNewP, sRet, sRetO, sIf, sApp, sAppP, sSet, sAug, sTgt, sTgtP, sPar, sFz, frz, sFor, sForR, sRev, sBrk, sCnt, sDrop, eOp, eUn, eCall, eVar, eC, eFr, eTup, eTupR, eAnd, eOr, eNot, eIf, eChain, eIndex, eSl, nLst, nList, nListR, nLc, nLc2, nCall, nSorted, nRep, tOf, tAndJ, tOrJ, tNotJ, tTrue, iSeq, iR1, iR2, iR3, rg1, rg2, evA, pNo, pSo, startE, hide, rd, hide_v, hide_o, hide_n, rd_v, rd_o, rd_n, bind_one, bind_many, setAll, List.map, List.replicate, List.length, List.cons_append, List.nil_append, List.getElem?_cons_zero, List.getElem?_cons_succ, List.set_cons_zero, List.set_cons_succ, Option.bind_some, ex_some, Option.some.injEq, Slot.own.injEq, Slot.val.injEq, exists_eq_left', true_and, and_true, Bool.false_eq_true, if_false, if_true, reduceIte, wEq, wNe, wAdd_i, wAdd_t, wAdd_l, wAdd_s, wSub_i, wMul_i, wDiv_i, wMod_i, wPow_i, wNeg_i, wLt_i, wLe_i, wGt_i, wGe_i, wIs_n, wIs_b, wIsNot_n, wIsNot_b, wIx_l, wIx_t, wLen_l, wLen_t, wAbs_i, wInt_i, wInt_b, wMax2_i, wMin2_i, wTuple_l, wTuple_t, wB_b, wI_i, seqOf_l, seqOf_t, wIAdd_i, wIAdd_t, wIMul_i, wSl_l, wSl_t, wIn_l, wIn_t, wNotIn_l, wNotIn_t, items_l, items_t, lv_i, lv_b, lv_n, eqv_ii, eqv_bb, isNon_n, isNon_i, isNon_b, isNon_s, isNon_t, isNon_l, Bool.not_true, Bool.not_false, b2n_t, b2n_f, pl_i, pl_b, pl_n, decide_eq_true_eq, sExt, sExtP, wMulT_i, wMulT_t, wRevS_l, wRevS_t]
      exact hR _ ⟨_, _, _, _, _, _, rfl⟩
  · rintro en ⟨s2, s3, s4, s5, s6, s7, rfl⟩
    show m_law_r2 _ _
    unfold m_law_r2
    have sm : ∀ l : List Int, (∀ s ∈ l, s.natAbs < 16) → ∀ s ∈ l, Sm s := fun l h s hs => Nat.lt_of_lt_of_le (h s hs) (Nat.le_trans (show 16 ≤ 2 ^ 4 by decide) (Nat.pow_le_pow_right (by decide) (by decide)))
    try simp only [sSeq, sSkip, sAsg, sAsgP, sNew, sNewP, sRet, sRetO, sIf, sApp, sAppP, sSet, sAug, sTgt, sTgtP, sPar, sFz, frz, sFor, sForR, sRev, sBrk, sCnt, sDrop, eOp, eUn, eCall, eVar, eC, eFr, eTup, eTupR, eAnd, eOr, eNot, eIf, eChain, eIndex, eSl, nLst, nList, nListR, nLc, nLc2, nCall, nSorted, nRep, tOf, tAndJ, tOrJ, tNotJ, tTrue, iSeq, iR1, iR2, iR3, rg1, rg2, evA, pNo, pSo, startE, hide, rd, hide_v, hide_o, hide_n, rd_v, rd_o, rd_n, bind_one, bind_many, setAll, List.map, List.replicate, List.length, List.cons_append, List.nil_append, List.getElem?_cons_zero, List.getElem?_cons_succ, List.set_cons_zero, List.set_cons_succ, Option.bind_some, ex_some, Option.some.injEq, Slot.own.injEq, Slot.val.injEq, exists_eq_left', true_and, and_true, Bool.false_eq_true, if_false, if_true, reduceIte, wEq, wNe, wAdd_i, wAdd_t, wAdd_l, wAdd_s, wSub_i, wMul_i, wDiv_i, wMod_i, wPow_i, wNeg_i, wLt_i, wLe_i, wGt_i, wGe_i, wIs_n, wIs_b, wIsNot_n, wIsNot_b, wIx_l, wIx_t, wLen_l, wLen_t, wAbs_i, wInt_i, wInt_b, wMax2_i, wMin2_i, wTuple_l, wTuple_t, wB_b, wI_i, seqOf_l, seqOf_t, wIAdd_i, wIAdd_t, wIMul_i, wSl_l, wSl_t, wIn_l, wIn_t, wNotIn_l, wNotIn_t, items_l, items_t, lv_i, lv_b, lv_n, eqv_ii, eqv_bb, isNon_n, isNon_i, isNon_b, isNon_s, isNon_t, isNon_l, Bool.not_true, Bool.not_false, b2n_t, b2n_f, pl_i, pl_b, pl_n, decide_eq_true_eq, sExt, sExtP, wMulT_i, wMulT_t, wRevS_l, wRevS_t]
    refine ⟨[1, 2, 3, 4], 1, 3, 7, rfl, by decide, by decide, by decide, _, rfl, by decide +kernel, ?_⟩
    try simp only [sSeq, sSkip, sAsg, sAsgP, sNew, sNewP, sRet, sRetO, sIf, sApp, sAppP, sSet, sAug, sTgt, sTgtP, sPar, sFz, frz, sFor, sForR, sRev, sBrk, sCnt, sDrop, eOp, eUn, eCall, eVar, eC, eFr, eTup, eTupR, eAnd, eOr, eNot, eIf, eChain, eIndex, eSl, nLst, nList, nListR, nLc, nLc2, nCall, nSorted, nRep, tOf, tAndJ, tOrJ, tNotJ, tTrue, iSeq, iR1, iR2, iR3, rg1, rg2, evA, pNo, pSo, startE, hide, rd, hide_v, hide_o, hide_n, rd_v, rd_o, rd_n, bind_one, bind_many, setAll, List.map, List.replicate, List.length, List.cons_append, List.nil_append, List.getElem?_cons_zero, List.getElem?_cons_succ, List.set_cons_zero, List.set_cons_succ, Option.bind_some, ex_some, Option.some.injEq, Slot.own.injEq, Slot.val.injEq, exists_eq_left', true_and, and_true, Bool.false_eq_true, if_false, if_true, reduceIte, wEq, wNe, wAdd_i, wAdd_t, wAdd_l, wAdd_s, wSub_i, wMul_i, wDiv_i, wMod_i, wPow_i, wNeg_i, wLt_i, wLe_i, wGt_i, wGe_i, wIs_n, wIs_b, wIsNot_n, wIsNot_b, wIx_l, wIx_t, wLen_l, wLen_t, wAbs_i, wInt_i, wInt_b, wMax2_i, wMin2_i, wTuple_l, wTuple_t, wB_b, wI_i, seqOf_l, seqOf_t, wIAdd_i, wIAdd_t, wIMul_i, wSl_l, wSl_t, wIn_l, wIn_t, wNotIn_l, wNotIn_t, items_l, items_t, lv_i, lv_b, lv_n, eqv_ii, eqv_bb, isNon_n, isNon_i, isNon_b, isNon_s, isNon_t, isNon_l, Bool.not_true, Bool.not_false, b2n_t, b2n_f, pl_i, pl_b, pl_n, decide_eq_true_eq, sExt, sExtP, wMulT_i, wMulT_t, wRevS_l, wRevS_t]
    refine ⟨[0, 9, 4, -5], 1, 4, 1, rfl, by decide, by decide, by decide, by decide, by decide, sm _ (by decide), _, rfl, by decide +kernel, ?_⟩
    try simp only [sSeq, sSkip, sAsg, sAsgP, sNew, sNewP, sRet, sRetO, sIf, sApp, sAppP, sSet, sAug, sTgt, sTgtP, sPar, sFz, frz, sFor, sForR, sRev, sBrk, sCnt, sDrop, eOp, eUn, eCall, eVar, eC, eFr, eTup, eTupR, eAnd, eOr, eNot, eIf, eChain, eIndex, eSl, nLst, nList, nListR, nLc, nLc2, nCall, nSorted, nRep, tOf, tAndJ, tOrJ, tNotJ, tTrue, iSeq, iR1, iR2, iR3, rg1, rg2, evA, pNo, pSo, startE, hide, rd, hide_v, hide_o, hide_n, rd_v, rd_o, rd_n, bind_one, bind_many, setAll, List.map, List.replicate, List.length, List.cons_append, List.nil_append, List.getElem?_cons_zero, List.getElem?_cons_succ, List.set_cons_zero, List.set_cons_succ, Option.bind_some, ex_some, Option.some.injEq, Slot.own.injEq, Slot.val.injEq, exists_eq_left', true_and, and_true, Bool.false_eq_true, if_false, if_true, reduceIte, wEq, wNe, wAdd_i, wAdd_t, wAdd_l, wAdd_s, wSub_i, wMul_i, wDiv_i, wMod_i, wPow_i, wNeg_i, wLt_i, wLe_i, wGt_i, wGe_i, wIs_n, wIs_b, wIsNot_n, wIsNot_b, wIx_l, wIx_t, wLen_l, wLen_t, wAbs_i, wInt_i, wInt_b, wMax2_i, wMin2_i, wTuple_l, wTuple_t, wB_b, wI_i, seqOf_l, seqOf_t, wIAdd_i, wIAdd_t, wIMul_i, wSl_l, wSl_t, wIn_l, wIn_t, wNotIn_l, wNotIn_t, items_l, items_t, lv_i, lv_b, lv_n, eqv_ii, eqv_bb, isNon_n, isNon_i, isNon_b, isNon_s, isNon_t, isNon_l, Bool.not_true, Bool.not_false, b2n_t, b2n_f, pl_i, pl_b, pl_n, decide_eq_true_eq, sExt, sExtP, wMulT_i, wMulT_t, wRevS_l, wRevS_t]
    unfold m_law_r14
    try simp only [sSeq, sSkip, sAsg, sAsgP, sNew, sNewP, sRet, sRetO, sIf, sApp, sAppP, sSet, sAug, sTgt, sTgtP, sPar, sFz, frz, sFor, sForR, sRev, sBrk, sCnt, sDrop, eOp, eUn, eCall, eVar, eC, eFr, eTup, eTupR, eAnd, eOr, eNot, eIf, eChain, eIndex, eSl, nLst, nList, nListR, nLc, nLc2, nCall, nSorted, nRep, tOf, tAndJ, tOrJ, tNotJ, tTrue, iSeq, iR1, iR2, iR3, rg1, rg2, evA, pNo, pSo, startE, hide, rd, hide_v, hide_o, hide_n, rd_v, rd_o, rd_n, bind_one, bind_many, setAll, List.map, List.replicate, List.length, List.cons_append, List.nil_append, List.getElem?_cons_zero, List.getElem?_cons_succ, List.set_cons_zero, List.set_cons_succ, Option.bind_some, ex_some, Option.some.injEq, Slot.own.injEq, Slot.val.injEq, exists_eq_left', true_and, and_true, Bool.false_eq_true, if_false, if_true, reduceIte, wEq, wNe, wAdd_i, wAdd_t, wAdd_l, wAdd_s, wSub_i, wMul_i, wDiv_i, wMod_i, wPow_i, wNeg_i, wLt_i, wLe_i, wGt_i, wGe_i, wIs_n, wIs_b, wIsNot_n, wIsNot_b, wIx_l, wIx_t, wLen_l, wLen_t, wAbs_i, wInt_i, wInt_b, wMax2_i, wMin2_i, wTuple_l, wTuple_t, wB_b, wI_i, seqOf_l, seqOf_t, wIAdd_i, wIAdd_t, wIMul_i, wSl_l, wSl_t, wIn_l, wIn_t, wNotIn_l, wNotIn_t, items_l, items_t, lv_i, lv_b, lv_n, eqv_ii, eqv_bb, isNon_n, isNon_i, isNon_b, isNon_s, isNon_t, isNon_l, Bool.not_true, Bool.not_false, b2n_t, b2n_f, pl_i, pl_b, pl_n, decide_eq_true_eq, sExt, sExtP, wMulT_i, wMulT_t, wRevS_l, wRevS_t]
    refine ⟨[8, 0, 6, 2], 2, 4, 2, rfl, by decide, by decide, by decide, by decide, by decide, sm _ (by decide), _, rfl, by decide +kernel, ?_⟩
    try simp only [sSeq, sSkip, sAsg, sAsgP, sNew, sNewP, sRet, sRetO, sIf, sApp, sAppP, sSet, sAug, sTgt, sTgtP, sPar, sFz, frz, sFor, sForR, sRev, sBrk, sCnt, sDrop, eOp, eUn, eCall, eVar, eC, eFr, eTup, eTupR, eAnd, eOr, eNot, eIf, eChain, eIndex, eSl, nLst, nList, nListR, nLc, nLc2, nCall, nSorted, nRep, tOf, tAndJ, tOrJ, tNotJ, tTrue, iSeq, iR1, iR2, iR3, rg1, rg2, evA, pNo, pSo, startE, hide, rd, hide_v, hide_o, hide_n, rd_v, rd_o, rd_n, bind_one, bind_many, setAll, List.map, List.replicate, List.length, List.cons_append, List.nil_append, List.getElem?_cons_zero, List.getElem?_cons_succ, List.set_cons_zero, List.set_cons_succ, Option.bind_some, ex_some, Option.some.injEq, Slot.own.injEq, Slot.val.injEq, exists_eq_left', true_and, and_true, Bool.false_eq_true, if_false, if_true, reduceIte, wEq, wNe, wAdd_i, wAdd_t, wAdd_l, wAdd_s, wSub_i, wMul_i, wDiv_i, wMod_i, wPow_i, wNeg_i, wLt_i, wLe_i, wGt_i, wGe_i, wIs_n, wIs_b, wIsNot_n, wIsNot_b, wIx_l, wIx_t, wLen_l, wLen_t, wAbs_i, wInt_i, wInt_b, wMax2_i, wMin2_i, wTuple_l, wTuple_t, wB_b, wI_i, seqOf_l, seqOf_t, wIAdd_i, wIAdd_t, wIMul_i, wSl_l, wSl_t, wIn_l, wIn_t, wNotIn_l, wNotIn_t, items_l, items_t, lv_i, lv_b, lv_n, eqv_ii, eqv_bb, isNon_n, isNon_i, isNon_b, isNon_s, isNon_t, isNon_l, Bool.not_true, Bool.not_false, b2n_t, b2n_f, pl_i, pl_b, pl_n, decide_eq_true_eq, sExt, sExtP, wMulT_i, wMulT_t, wRevS_l, wRevS_t]
    refine ⟨[9, 0, 0], 1, 3, 6, rfl, by decide, by decide, by decide, ?_⟩
    refine ⟨playedL [9, 0, 0] 1 3 6, 1, 2, rfl, by rw [played_len]; decide, _, rfl, by decide +kernel, ?_⟩
    exact q

end Lk72
namespace Lk72
open PySem PySem.Spec PyProof.Rows L2 J
def top (i : Nat) : Stmt := PySem.Challenge.pw_wordslit_k72_whole_loops_and_their_level.main.body.getD i (.Pass ⟨0, 0, 0, 0⟩)
structure Txt (mg : Str → Option Value) : Prop where
  b_abs : mg "abs" = none
  b_max : mg "max" = none
  b_sum : mg "sum" = none
  b_len : mg "len" = none
  b_tuple : mg "tuple" = none
  b_min : mg "min" = none
  b_range : mg "range" = none
  b_list : mg "list" = none
  b_int : mg "int" = none
  b_isinstance : mg "isinstance" = none
  b_bool : mg "bool" = none
  b_str : mg "str" = none
abbrev s_common_divisor : Stmt := top 1
abbrev N_common_divisor : List Str := ["one", "other"]
theorem sc_common_divisor : FnScope N_common_divisor ["one", "other"] (defScope s_common_divisor) := ⟨rfl, rfl, rfl, by decide +kernel, rfl, by decide +kernel, by decide +kernel⟩
abbrev s_fraction : Stmt := top 2
abbrev N_fraction : List Str := ["n", "d", "sign", "divisor"]
theorem sc_fraction : FnScope N_fraction ["n", "d"] (defScope s_fraction) := ⟨rfl, rfl, rfl, by decide +kernel, rfl, by decide +kernel, by decide +kernel⟩
abbrev s_plus_of : Stmt := top 3
abbrev N_plus_of : List Str := ["one", "other"]
theorem sc_plus_of : FnScope N_plus_of ["one", "other"] (defScope s_plus_of) := ⟨rfl, rfl, rfl, by decide +kernel, rfl, by decide +kernel, by decide +kernel⟩
abbrev s_times_of : Stmt := top 4
abbrev N_times_of : List Str := ["one", "other"]
theorem sc_times_of : FnScope N_times_of ["one", "other"] (defScope s_times_of) := ⟨rfl, rfl, rfl, by decide +kernel, rfl, by decide +kernel, by decide +kernel⟩
abbrev s_toward_zero_levels : Stmt := top 6
abbrev N_toward_zero_levels : List Str := ["n", "d"]
theorem sc_toward_zero_levels : FnScope N_toward_zero_levels ["n", "d"] (defScope s_toward_zero_levels) := ⟨rfl, rfl, rfl, by decide +kernel, rfl, by decide +kernel, by decide +kernel⟩
abbrev s_loudest : Stmt := top 8
abbrev N_loudest : List Str := ["samples", "sample"]
theorem sc_loudest : FnScope N_loudest ["samples"] (defScope s_loudest) := ⟨rfl, rfl, rfl, by decide +kernel, rfl, by decide +kernel, by decide +kernel⟩
abbrev s_mean_square : Stmt := top 9
abbrev N_mean_square : List Str := ["samples", "sample"]
theorem sc_mean_square : FnScope N_mean_square ["samples"] (defScope s_mean_square) := ⟨rfl, rfl, rfl, by decide +kernel, rfl, by decide +kernel, by decide +kernel⟩
abbrev s_raised_to : Stmt := top 10
abbrev N_raised_to : List Str := ["samples", "top", "loud", "sample"]
theorem sc_raised_to : FnScope N_raised_to ["samples", "top"] (defScope s_raised_to) := ⟨rfl, rfl, rfl, by decide +kernel, rfl, by decide +kernel, by decide +kernel⟩
abbrev s_cut_at : Stmt := top 11
abbrev N_cut_at : List Str := ["samples", "top", "sample"]
theorem sc_cut_at : FnScope N_cut_at ["samples", "top"] (defScope s_cut_at) := ⟨rfl, rfl, rfl, by decide +kernel, rfl, by decide +kernel, by decide +kernel⟩
abbrev s_quiet_spans : Stmt := top 12
abbrev N_quiet_spans : List Str := ["samples", "bound", "least", "found", "begin", "at"]
theorem sc_quiet_spans : FnScope N_quiet_spans ["samples", "bound", "least"] (defScope s_quiet_spans) := ⟨rfl, rfl, rfl, by decide +kernel, rfl, by decide +kernel, by decide +kernel⟩
abbrev s_mixed : Stmt := top 13
abbrev N_mixed : List Str := ["rows", "parts", "found", "at", "total", "row"]
theorem sc_mixed : FnScope N_mixed ["rows", "parts"] (defScope s_mixed) := ⟨rfl, rfl, rfl, by decide +kernel, rfl, by decide +kernel, by decide +kernel⟩
abbrev s_faded : Stmt := top 14
abbrev N_faded : List Str := ["samples", "first", "last", "n", "down", "at"]
theorem sc_faded : FnScope N_faded ["samples", "first", "last"] (defScope s_faded) := ⟨rfl, rfl, rfl, by decide +kernel, rfl, by decide +kernel, by decide +kernel⟩
abbrev s_sample_at : Stmt := top 16
abbrev N_sample_at : List Str := ["samples", "begin", "end", "at"]
theorem sc_sample_at : FnScope N_sample_at ["samples", "begin", "end", "at"] (defScope s_sample_at) := ⟨rfl, rfl, rfl, by decide +kernel, rfl, by decide +kernel, by decide +kernel⟩
abbrev s_played : Stmt := top 17
abbrev N_played : List Str := ["samples", "begin", "end", "many", "at"]
theorem sc_played : FnScope N_played ["samples", "begin", "end", "many"] (defScope s_played) := ⟨rfl, rfl, rfl, by decide +kernel, rfl, by decide +kernel, by decide +kernel⟩
abbrev s_jump_of : Stmt := top 18
abbrev N_jump_of : List Str := ["samples", "begin", "end"]
theorem sc_jump_of : FnScope N_jump_of ["samples", "begin", "end"] (defScope s_jump_of) := ⟨rfl, rfl, rfl, by decide +kernel, rfl, by decide +kernel, by decide +kernel⟩
abbrev s_best_loop : Stmt := top 19
abbrev N_best_loop : List Str := ["samples", "least", "told", "begin", "end"]
theorem sc_best_loop : FnScope N_best_loop ["samples", "least"] (defScope s_best_loop) := ⟨rfl, rfl, rfl, by decide +kernel, rfl, by decide +kernel, by decide +kernel⟩
abbrev s_toward_zero_loops : Stmt := top 20
abbrev N_toward_zero_loops : List Str := ["n", "d"]
theorem sc_toward_zero_loops : FnScope N_toward_zero_loops ["n", "d"] (defScope s_toward_zero_loops) := ⟨rfl, rfl, rfl, by decide +kernel, rfl, by decide +kernel, by decide +kernel⟩
abbrev s_blended : Stmt := top 22
abbrev N_blended : List Str := ["samples", "begin", "end", "wide", "found", "step", "own", "other"]
theorem sc_blended : FnScope N_blended ["samples", "begin", "end", "wide"] (defScope s_blended) := ⟨rfl, rfl, rfl, by decide +kernel, rfl, by decide +kernel, by decide +kernel⟩
abbrev s_unchanged_from : Stmt := top 23
abbrev N_unchanged_from : List Str := ["samples", "begin", "end", "other", "many", "at"]
theorem sc_unchanged_from : FnScope N_unchanged_from ["samples", "begin", "end", "other"] (defScope s_unchanged_from) := ⟨rfl, rfl, rfl, by decide +kernel, rfl, by decide +kernel, by decide +kernel⟩
abbrev s__law_draws : Stmt := top 25
abbrev N__law_draws : List Str := ["script", "many", "cells", "rest", "draws", "k", "at", "cell", "once"]
theorem sc__law_draws : FnScope N__law_draws ["script", "many"] (defScope s__law_draws) := ⟨rfl, rfl, rfl, by decide +kernel, rfl, by decide +kernel, by decide +kernel⟩
abbrev s__law_take : Stmt := top 26
abbrev N__law_take : List Str := ["draws", "many"]
theorem sc__law_take : FnScope N__law_take ["draws", "many"] (defScope s__law_take) := ⟨rfl, rfl, rfl, by decide +kernel, rfl, by decide +kernel, by decide +kernel⟩
abbrev s__law_cell : Stmt := top 27
abbrev N__law_cell : List Str := ["script", "at", "cell"]
theorem sc__law_cell : FnScope N__law_cell ["script", "at"] (defScope s__law_cell) := ⟨rfl, rfl, rfl, by decide +kernel, rfl, by decide +kernel, by decide +kernel⟩
abbrev s__law_same : Stmt := top 28
abbrev N__law_same : List Str := ["actual", "due", "k"]
theorem sc__law_same : FnScope N__law_same ["actual", "due"] (defScope s__law_same) := ⟨rfl, rfl, rfl, by decide +kernel, rfl, by decide +kernel, by decide +kernel⟩
abbrev s__law_divisor : Stmt := top 29
abbrev N__law_divisor : List Str := ["one", "other"]
theorem sc__law_divisor : FnScope N__law_divisor ["one", "other"] (defScope s__law_divisor) := ⟨rfl, rfl, rfl, by decide +kernel, rfl, by decide +kernel, by decide +kernel⟩
abbrev s__law_ratio : Stmt := top 30
abbrev N__law_ratio : List Str := ["n", "d", "common"]
theorem sc__law_ratio : FnScope N__law_ratio ["n", "d"] (defScope s__law_ratio) := ⟨rfl, rfl, rfl, by decide +kernel, rfl, by decide +kernel, by decide +kernel⟩
abbrev s__law_samples : Stmt := top 31
abbrev N__law_samples : List Str := ["draws", "script", "many", "wide", "scale", "k"]
theorem sc__law_samples : FnScope N__law_samples ["draws", "script", "many"] (defScope s__law_samples) := ⟨rfl, rfl, rfl, by decide +kernel, rfl, by decide +kernel, by decide +kernel⟩
abbrev s__law_played : Stmt := top 32
abbrev N__law_played : List Str := ["samples", "begin", "end", "many", "found", "turn"]
theorem sc__law_played : FnScope N__law_played ["samples", "begin", "end", "many"] (defScope s__law_played) := ⟨rfl, rfl, rfl, by decide +kernel, rfl, by decide +kernel, by decide +kernel⟩
abbrev s__law_quiet_right : Stmt := top 34
abbrev N__law_quiet_right : List Str := ["samples", "begin", "end", "length", "whole", "bound", "spans", "k", "alone", "first", "later", "loud", "span", "low", "high"]
theorem sc__law_quiet_right : FnScope N__law_quiet_right ["samples", "begin", "end"] (defScope s__law_quiet_right) := ⟨rfl, rfl, rfl, by decide +kernel, rfl, by decide +kernel, by decide +kernel⟩
abbrev s__law_levels_right : Stmt := top 33
abbrev N__law_levels_right : List Str := ["draws", "samples", "begin", "end", "many", "told", "top", "reached", "own", "other", "parts", "both", "rounds", "long", "fade", "sample"]
theorem sc__law_levels_right : FnScope N__law_levels_right ["draws", "samples", "begin", "end"] (defScope s__law_levels_right) := ⟨rfl, rfl, rfl, by decide +kernel, rfl, by decide +kernel, by decide +kernel⟩
abbrev s__law_blended_right : Stmt := top 35
abbrev N__law_blended_right : List Str := ["draws", "samples", "begin", "end", "most", "wide", "due", "k", "told", "down", "up", "one", "other"]
theorem sc__law_blended_right : FnScope N__law_blended_right ["draws", "samples", "begin", "end"] (defScope s__law_blended_right) := ⟨rfl, rfl, rfl, by decide +kernel, rfl, by decide +kernel, by decide +kernel⟩
abbrev s__law_loops_right : Stmt := top 36
abbrev N__law_loops_right : List Str := ["draws", "samples", "least", "best", "begin", "due", "one", "other", "many", "first", "second", "unlike", "end", "jump", "k"]
theorem sc__law_loops_right : FnScope N__law_loops_right ["draws", "samples"] (defScope s__law_loops_right) := ⟨rfl, rfl, rfl, by decide +kernel, rfl, by decide +kernel, by decide +kernel⟩
abbrev s_law : Stmt := top 37
abbrev N_law : List Str := ["script", "draws", "k", "samples", "begin", "end", "at", "due"]
theorem sc_law : FnScope N_law ["script"] (defScope s_law) := ⟨rfl, rfl, rfl, by decide +kernel, rfl, by decide +kernel, by decide +kernel⟩
section
variable {P : Program} {w : World} {K : PySem.W.Frag} {mg : Str → Option Value} {base : Heap}
theorem hb_common_divisor {fa : Addr} (T : Txt mg)  : ∀ (cdv : Value) (A : Around) (outer : List Env) (s : Shared) (H : Hp) (E : XK), Room 0 (A.deeper (envOfC "common_divisor" (defScope s_common_divisor) s.heap.objs.size fa cdv)) → DSs (cxOf CX0 P w K mg base N_common_divisor "common_divisor" (defScope s_common_divisor) fa cdv A outer s H E).nox (defBody s_common_divisor) m_common_divisor :=
  fun cdv A outer s H E hr => (ss_cons (s_par 0 1 rfl sc_common_divisor.nd (da_cons (d_callB call_absJ rfl T.b_abs (by decide +kernel) (da_cons (d_var 0) da_nil)) (da_cons (d_callB call_absJ rfl T.b_abs (by decide +kernel) (da_cons (d_var 1) da_nil)) da_nil)))
      (ss_cons (s_while PassesOwn.never (dt_cmp (op_gtJ (hu65 hr)) (d_var 1) d_int (nomark _)) (ss_one (s_par 0 1 rfl sc_common_divisor.nd (da_cons (d_var 1) (da_cons (d_op op_modJ (d_var 0) (d_var 1)) da_nil)))))
      (ss_one (s_ret (d_var 0)))))
theorem G_common_divisor {fa : Addr} {fd : FuncData} (F : Fun K "common_divisor" "common_divisor" s_common_divisor fa fd) (T : Txt mg)  : JFn P w K mg base 1 fa fd ["one", "other"] S_common_divisor := fn_j F sc_common_divisor (hb_common_divisor T ) fun ds QD _ h => wp_common_divisor ds QD h
theorem hb_fraction {fa : Addr} (T : Txt mg) {f_common_divisor : Addr} {fd_common_divisor : FuncData} (G_common_divisor : JFn P w K mg base 1 f_common_divisor fd_common_divisor ["one", "other"] S_common_divisor) (R_common_divisor : Rf K mg "common_divisor" ["one", "other"] f_common_divisor fd_common_divisor) : ∀ (cdv : Value) (A : Around) (outer : List Env) (s : Shared) (H : Hp) (E : XK), Room 1 (A.deeper (envOfC "fraction" (defScope s_fraction) s.heap.objs.size fa cdv)) → DSs (cxOf CX0 P w K mg base N_fraction "fraction" (defScope s_fraction) fa cdv A outer s H E).nox (defBody s_fraction) m_fraction :=
  fun cdv A outer s H E hr => (ss_cons (s_asg 2 sc_fraction.nd (d_if (dt_cmp (op_ltJ (hu65 hr)) (d_var 1) d_int (nomark _)) (d_un un_negJ d_int) d_int))
      (ss_cons (s_asg 3 sc_fraction.nd (d_fn G_common_divisor R_common_divisor (hr.mono (by decide)) rfl pass0 (da_cons (d_var 0) (da_cons (d_var 1) da_nil))))
      (ss_one (s_ret (d_tup (da_cons (d_op op_divJ (d_op op_mulJ (d_var 2) (d_var 0)) (d_var 3)) (da_cons (d_op op_divJ (d_op op_mulJ (d_var 2) (d_var 1)) (d_var 3)) da_nil)))))))
theorem G_fraction {fa : Addr} {fd : FuncData} (F : Fun K "fraction" "fraction" s_fraction fa fd) (T : Txt mg) {f_common_divisor : Addr} {fd_common_divisor : FuncData} (G_common_divisor : JFn P w K mg base 1 f_common_divisor fd_common_divisor ["one", "other"] S_common_divisor) (R_common_divisor : Rf K mg "common_divisor" ["one", "other"] f_common_divisor fd_common_divisor) : JFn P w K mg base 2 fa fd ["n", "d"] S_fraction := fn_j F sc_fraction (hb_fraction T G_common_divisor R_common_divisor) fun ds QD _ h => wp_fraction ds QD h
theorem hb_plus_of {fa : Addr} (T : Txt mg) {f_fraction : Addr} {fd_fraction : FuncData} (G_fraction : JFn P w K mg base 2 f_fraction fd_fraction ["n", "d"] S_fraction) (R_fraction : Rf K mg "fraction" ["n", "d"] f_fraction fd_fraction) : ∀ (cdv : Value) (A : Around) (outer : List Env) (s : Shared) (H : Hp) (E : XK), Room 2 (A.deeper (envOfC "plus_of" (defScope s_plus_of) s.heap.objs.size fa cdv)) → DSs (cxOf CX0 P w K mg base N_plus_of "plus_of" (defScope s_plus_of) fa cdv A outer s H E).nox (defBody s_plus_of) m_plus_of :=
  fun cdv A outer s H E hr => (ss_one (s_ret (d_fn G_fraction R_fraction (hr.mono (by decide)) rfl pass0 (da_cons (d_op op_addJ (d_op op_mulJ (d_ix (d_var 0) d_int) (d_ix (d_var 1) d_int)) (d_op op_mulJ (d_ix (d_var 1) d_int) (d_ix (d_var 0) d_int))) (da_cons (d_op op_mulJ (d_ix (d_var 0) d_int) (d_ix (d_var 1) d_int)) da_nil)))))
theorem G_plus_of {fa : Addr} {fd : FuncData} (F : Fun K "plus_of" "plus_of" s_plus_of fa fd) (T : Txt mg) {f_fraction : Addr} {fd_fraction : FuncData} (G_fraction : JFn P w K mg base 2 f_fraction fd_fraction ["n", "d"] S_fraction) (R_fraction : Rf K mg "fraction" ["n", "d"] f_fraction fd_fraction) : JFn P w K mg base 3 fa fd ["one", "other"] S_plus_of := fn_j F sc_plus_of (hb_plus_of T G_fraction R_fraction) fun ds QD _ h => wp_plus_of ds QD h
theorem hb_times_of {fa : Addr} (T : Txt mg) {f_fraction : Addr} {fd_fraction : FuncData} (G_fraction : JFn P w K mg base 2 f_fraction fd_fraction ["n", "d"] S_fraction) (R_fraction : Rf K mg "fraction" ["n", "d"] f_fraction fd_fraction) : ∀ (cdv : Value) (A : Around) (outer : List Env) (s : Shared) (H : Hp) (E : XK), Room 2 (A.deeper (envOfC "times_of" (defScope s_times_of) s.heap.objs.size fa cdv)) → DSs (cxOf CX0 P w K mg base N_times_of "times_of" (defScope s_times_of) fa cdv A outer s H E).nox (defBody s_times_of) m_times_of :=
  fun cdv A outer s H E hr => (ss_one (s_ret (d_fn G_fraction R_fraction (hr.mono (by decide)) rfl pass0 (da_cons (d_op op_mulJ (d_ix (d_var 0) d_int) (d_ix (d_var 1) d_int)) (da_cons (d_op op_mulJ (d_ix (d_var 0) d_int) (d_ix (d_var 1) d_int)) da_nil)))))
theorem G_times_of {fa : Addr} {fd : FuncData} (F : Fun K "times_of" "times_of" s_times_of fa fd) (T : Txt mg) {f_fraction : Addr} {fd_fraction : FuncData} (G_fraction : JFn P w K mg base 2 f_fraction fd_fraction ["n", "d"] S_fraction) (R_fraction : Rf K mg "fraction" ["n", "d"] f_fraction fd_fraction) : JFn P w K mg base 3 fa fd ["one", "other"] S_times_of := fn_j F sc_times_of (hb_times_of T G_fraction R_fraction) fun ds QD _ h => wp_times_of ds QD h
theorem hb_toward_zero_levels {fa : Addr} (T : Txt mg)  : ∀ (cdv : Value) (A : Around) (outer : List Env) (s : Shared) (H : Hp) (E : XK), Room 0 (A.deeper (envOfC "toward_zero" (defScope s_toward_zero_levels) s.heap.objs.size fa cdv)) → DSs (cxOf CX0 P w K mg base N_toward_zero_levels "toward_zero" (defScope s_toward_zero_levels) fa cdv A outer s H E).nox (defBody s_toward_zero_levels) m_toward_zero_levels :=
  fun cdv A outer s H E hr => (ss_one (s_ret (d_if (dt_cmp (op_geJ (hu65 hr)) (d_var 0) d_int (nomark _)) (d_op op_divJ (d_var 0) (d_var 1)) (d_un un_negJ (d_op op_divJ (d_un un_negJ (d_var 0)) (d_var 1))))))
theorem G_toward_zero_levels {fa : Addr} {fd : FuncData} (F : Fun K "toward_zero" "toward_zero" s_toward_zero_levels fa fd) (T : Txt mg)  : JFn P w K mg base 1 fa fd ["n", "d"] S_toward_zero_levels := fn_j F sc_toward_zero_levels (hb_toward_zero_levels T ) fun ds QD _ h => wp_toward_zero_levels ds QD h
theorem hb_loudest {fa : Addr} (T : Txt mg)  : ∀ (cdv : Value) (A : Around) (outer : List Env) (s : Shared) (H : Hp) (E : XK), Room 0 (A.deeper (envOfC "loudest" (defScope s_loudest) s.heap.objs.size fa cdv)) → DSs (cxOf CX0 P w K mg base N_loudest "loudest" (defScope s_loudest) fa cdv A outer s H E).nox (defBody s_loudest) m_loudest :=
  fun cdv A outer s H E hr => (ss_one (s_ret (d_callB (call_max1J rfl (hu65 hr)) rfl T.b_max (by decide +kernel) (da_cons (d_op op_addJ (d_of_n (n_lst (da_cons d_int da_nil))) (d_of_n (n_lc (own := [("sample", 1)]) rfl sc_loudest.nd (di_seq (d_var 0)) (blkOk_by (N := N_loudest) (sc := defScope s_loudest) (by decide +kernel)) (fun _ _ _ _ _ => (dg_name 1 sc_loudest.nd)) (fun _ _ _ _ _ => dts_nil) (fun _ _ _ _ _ => (d_callB call_absJ rfl T.b_abs (by decide +kernel) (da_cons (d_var 1) da_nil)))))) da_nil))))
theorem G_loudest {fa : Addr} {fd : FuncData} (F : Fun K "loudest" "loudest" s_loudest fa fd) (T : Txt mg)  : JFn P w K mg base 1 fa fd ["samples"] S_loudest := fn_j F sc_loudest (hb_loudest T ) fun ds QD _ h => wp_loudest ds QD h
theorem hb_mean_square {fa : Addr} (T : Txt mg) {f_fraction : Addr} {fd_fraction : FuncData} (G_fraction : JFn P w K mg base 2 f_fraction fd_fraction ["n", "d"] S_fraction) (R_fraction : Rf K mg "fraction" ["n", "d"] f_fraction fd_fraction) : ∀ (cdv : Value) (A : Around) (outer : List Env) (s : Shared) (H : Hp) (E : XK), Room 2 (A.deeper (envOfC "mean_square" (defScope s_mean_square) s.heap.objs.size fa cdv)) → DSs (cxOf CX0 P w K mg base N_mean_square "mean_square" (defScope s_mean_square) fa cdv A outer s H E).nox (defBody s_mean_square) m_mean_square :=
  fun cdv A outer s H E hr => (ss_one (s_ret (d_fn G_fraction R_fraction (hr.mono (by decide)) rfl pass0 (da_cons (d_callB (call_sumJ rfl) rfl T.b_sum (by decide +kernel) (da_cons (d_of_n (n_lc (own := [("sample", 1)]) rfl sc_mean_square.nd (di_seq (d_var 0)) (blkOk_by (N := N_mean_square) (sc := defScope s_mean_square) (by decide +kernel)) (fun _ _ _ _ _ => (dg_name 1 sc_mean_square.nd)) (fun _ _ _ _ _ => dts_nil) (fun _ _ _ _ _ => (d_op op_mulJ (d_var 1) (d_var 1))))) da_nil)) (da_cons (d_callB call_lenJ rfl T.b_len boot_len (da_cons (d_var 0) da_nil)) da_nil)))))
theorem G_mean_square {fa : Addr} {fd : FuncData} (F : Fun K "mean_square" "mean_square" s_mean_square fa fd) (T : Txt mg) {f_fraction : Addr} {fd_fraction : FuncData} (G_fraction : JFn P w K mg base 2 f_fraction fd_fraction ["n", "d"] S_fraction) (R_fraction : Rf K mg "fraction" ["n", "d"] f_fraction fd_fraction) : JFn P w K mg base 3 fa fd ["samples"] S_mean_square := fn_j F sc_mean_square (hb_mean_square T G_fraction R_fraction) fun ds QD _ h => wp_mean_square ds QD h
theorem hb_raised_to {fa : Addr} (T : Txt mg) {f_loudest : Addr} {fd_loudest : FuncData} (G_loudest : JFn P w K mg base 1 f_loudest fd_loudest ["samples"] S_loudest) (R_loudest : Rf K mg "loudest" ["samples"] f_loudest fd_loudest) {f_toward_zero_levels : Addr} {fd_toward_zero_levels : FuncData} (G_toward_zero_levels : JFn P w K mg base 1 f_toward_zero_levels fd_toward_zero_levels ["n", "d"] S_toward_zero_levels) (R_toward_zero_levels : Rf K mg "toward_zero_levels" ["n", "d"] f_toward_zero_levels fd_toward_zero_levels) : ∀ (cdv : Value) (A : Around) (outer : List Env) (s : Shared) (H : Hp) (E : XK), Room 1 (A.deeper (envOfC "raised_to" (defScope s_raised_to) s.heap.objs.size fa cdv)) → DSs (cxOf CX0 P w K mg base N_raised_to "raised_to" (defScope s_raised_to) fa cdv A outer s H E).nox (defBody s_raised_to) m_raised_to :=
  fun cdv A outer s H E hr => (ss_cons (s_asg 2 sc_raised_to.nd (d_fn G_loudest R_loudest (hr.mono (by decide)) rfl pass0 (da_cons (d_var 0) da_nil)))
      (ss_one (s_ret (d_tuple rfl T.b_tuple (d_of_n (n_lc (own := [("sample", 3)]) rfl sc_raised_to.nd (di_seq (d_var 0)) (blkOk_by (N := N_raised_to) (sc := defScope s_raised_to) (by decide +kernel)) (fun _ _ _ _ _ => (dg_name 3 sc_raised_to.nd)) (fun _ _ _ _ _ => dts_nil) (fun _ _ _ _ _ => (d_if (dt_cmp (op_gtJ (hu65 hr)) (d_var 2) d_int (nomark _)) (d_fn G_toward_zero_levels R_toward_zero_levels (hr.mono (by decide)) rfl pass0 (da_cons (d_op op_mulJ (d_var 3) (d_var 1)) (da_cons (d_var 2) da_nil))) (d_var 3)))))))))
theorem G_raised_to {fa : Addr} {fd : FuncData} (F : Fun K "raised_to" "raised_to" s_raised_to fa fd) (T : Txt mg) {f_loudest : Addr} {fd_loudest : FuncData} (G_loudest : JFn P w K mg base 1 f_loudest fd_loudest ["samples"] S_loudest) (R_loudest : Rf K mg "loudest" ["samples"] f_loudest fd_loudest) {f_toward_zero_levels : Addr} {fd_toward_zero_levels : FuncData} (G_toward_zero_levels : JFn P w K mg base 1 f_toward_zero_levels fd_toward_zero_levels ["n", "d"] S_toward_zero_levels) (R_toward_zero_levels : Rf K mg "toward_zero_levels" ["n", "d"] f_toward_zero_levels fd_toward_zero_levels) : JFn P w K mg base 2 fa fd ["samples", "top"] S_raised_to := fn_j F sc_raised_to (hb_raised_to T G_loudest R_loudest G_toward_zero_levels R_toward_zero_levels) fun ds QD _ h => wp_raised_to ds QD h
theorem hb_cut_at {fa : Addr} (T : Txt mg)  : ∀ (cdv : Value) (A : Around) (outer : List Env) (s : Shared) (H : Hp) (E : XK), Room 0 (A.deeper (envOfC "cut_at" (defScope s_cut_at) s.heap.objs.size fa cdv)) → DSs (cxOf CX0 P w K mg base N_cut_at "cut_at" (defScope s_cut_at) fa cdv A outer s H E).nox (defBody s_cut_at) m_cut_at :=
  fun cdv A outer s H E hr => (ss_one (s_ret (d_tuple rfl T.b_tuple (d_of_n (n_lc (own := [("sample", 2)]) rfl sc_cut_at.nd (di_seq (d_var 0)) (blkOk_by (N := N_cut_at) (sc := defScope s_cut_at) (by decide +kernel)) (fun _ _ _ _ _ => (dg_name 2 sc_cut_at.nd)) (fun _ _ _ _ _ => dts_nil) (fun _ _ _ _ _ => (d_callB (call_max2J rfl) rfl T.b_max (by decide +kernel) (da_cons (d_callB (call_min2J rfl) rfl T.b_min (by decide +kernel) (da_cons (d_var 2) (da_cons (d_var 1) da_nil))) (da_cons (d_un un_negJ (d_var 1)) da_nil)))))))))
theorem G_cut_at {fa : Addr} {fd : FuncData} (F : Fun K "cut_at" "cut_at" s_cut_at fa fd) (T : Txt mg)  : JFn P w K mg base 1 fa fd ["samples", "top"] S_cut_at := fn_j F sc_cut_at (hb_cut_at T ) fun ds QD _ h => wp_cut_at ds QD h
theorem hb_quiet_spans {fa : Addr} (T : Txt mg)  : ∀ (cdv : Value) (A : Around) (outer : List Env) (s : Shared) (H : Hp) (E : XK), Room 0 (A.deeper (envOfC "quiet_spans" (defScope s_quiet_spans) s.heap.objs.size fa cdv)) → DSs (cxOf CX0 P w K mg base N_quiet_spans "quiet_spans" (defScope s_quiet_spans) fa cdv A outer s H E).nox (defBody s_quiet_spans) m_quiet_spans :=
  fun cdv A outer s H E hr => (ss_cons (s_new 3 sc_quiet_spans.nd (n_lst da_nil))
      (ss_cons (s_asg 4 sc_quiet_spans.nd d_int)
      (ss_cons (s_forR PassesOwn.never rfl (dia_r1 rfl T.b_range (d_op op_addJ (d_callB call_lenJ rfl T.b_len boot_len (da_cons (d_var 0) da_nil)) d_int)) (dg_name 5 sc_quiet_spans.nd) (ss_one (s_if (dt_w (dw_or (dt_cmp (op_eqJ (hu64 hr)) (d_var 5) (d_callB call_lenJ rfl T.b_len boot_len (da_cons (d_var 0) da_nil)) (nomark _)) (dw_or1 (dt_cmp (op_gtJ (hu65 hr)) (d_callB call_absJ rfl T.b_abs (by decide +kernel) (da_cons (d_ix (d_var 0) (d_var 5)) da_nil)) (d_var 1) (nomark _))))) (ss_cons (s_if (dt_cmp (op_geJ (hu65 hr)) (d_op op_subJ (d_var 5) (d_var 4)) (d_var 2) (nomark _)) (ss_one (s_app 3 (d_tup (da_cons (d_var 4) (da_cons (d_var 5) da_nil))))) ss_nil)
      (ss_one (s_asg 4 sc_quiet_spans.nd (d_op op_addJ (d_var 5) d_int)))) ss_nil)))
      (ss_one (s_ret (d_tuple rfl T.b_tuple (d_var 3)))))))
theorem G_quiet_spans {fa : Addr} {fd : FuncData} (F : Fun K "quiet_spans" "quiet_spans" s_quiet_spans fa fd) (T : Txt mg)  : JFn P w K mg base 1 fa fd ["samples", "bound", "least"] S_quiet_spans := fn_j F sc_quiet_spans (hb_quiet_spans T ) fun ds QD _ h => wp_quiet_spans ds QD h
theorem hb_mixed {fa : Addr} (T : Txt mg) {f_plus_of : Addr} {fd_plus_of : FuncData} (G_plus_of : JFn P w K mg base 3 f_plus_of fd_plus_of ["one", "other"] S_plus_of) (R_plus_of : Rf K mg "plus_of" ["one", "other"] f_plus_of fd_plus_of) {f_times_of : Addr} {fd_times_of : FuncData} (G_times_of : JFn P w K mg base 3 f_times_of fd_times_of ["one", "other"] S_times_of) (R_times_of : Rf K mg "times_of" ["one", "other"] f_times_of fd_times_of) {f_toward_zero_levels : Addr} {fd_toward_zero_levels : FuncData} (G_toward_zero_levels : JFn P w K mg base 1 f_toward_zero_levels fd_toward_zero_levels ["n", "d"] S_toward_zero_levels) (R_toward_zero_levels : Rf K mg "toward_zero_levels" ["n", "d"] f_toward_zero_levels fd_toward_zero_levels) : ∀ (cdv : Value) (A : Around) (outer : List Env) (s : Shared) (H : Hp) (E : XK), Room 3 (A.deeper (envOfC "mixed" (defScope s_mixed) s.heap.objs.size fa cdv)) → DSs (cxOf CX0 P w K mg base N_mixed "mixed" (defScope s_mixed) fa cdv A outer s H E).nox (defBody s_mixed) m_mixed :=
  fun cdv A outer s H E hr => (ss_cons (s_new 2 sc_mixed.nd (n_lst da_nil))
      (ss_cons (s_forR PassesOwn.never rfl (dia_r1 rfl T.b_range (d_if (dt_cmp (op_gtJ (hu65 hr)) (d_callB call_lenJ rfl T.b_len boot_len (da_cons (d_var 0) da_nil)) d_int (nomark _)) (d_callB call_lenJ rfl T.b_len boot_len (da_cons (d_ix (d_var 0) d_int) da_nil)) d_int)) (dg_name 3 sc_mixed.nd) (ss_cons (s_asg 4 sc_mixed.nd (d_tup (da_cons d_int (da_cons d_int da_nil))))
      (ss_cons (s_forR PassesOwn.never rfl (dia_r1 rfl T.b_range (d_callB call_lenJ rfl T.b_len boot_len (da_cons (d_var 0) da_nil))) (dg_name 5 sc_mixed.nd) (ss_one (s_asg 4 sc_mixed.nd (d_fn G_plus_of R_plus_of (hr.mono (by decide)) rfl pass0 (da_cons (d_var 4) (da_cons (d_fn G_times_of R_times_of (hr.mono (by decide)) rfl pass0 (da_cons (d_tup (da_cons (d_ix (d_ix (d_var 0) (d_var 5)) (d_var 3)) (da_cons d_int da_nil))) (da_cons (d_ix (d_var 1) (d_var 5)) da_nil))) da_nil))))))
      (ss_one (s_app 2 (d_fn G_toward_zero_levels R_toward_zero_levels (hr.mono (by decide)) rfl pass0 (da_cons (d_ix (d_var 4) d_int) (da_cons (d_ix (d_var 4) d_int) da_nil))))))))
      (ss_one (s_ret (d_tuple rfl T.b_tuple (d_var 2))))))
theorem G_mixed {fa : Addr} {fd : FuncData} (F : Fun K "mixed" "mixed" s_mixed fa fd) (T : Txt mg) {f_plus_of : Addr} {fd_plus_of : FuncData} (G_plus_of : JFn P w K mg base 3 f_plus_of fd_plus_of ["one", "other"] S_plus_of) (R_plus_of : Rf K mg "plus_of" ["one", "other"] f_plus_of fd_plus_of) {f_times_of : Addr} {fd_times_of : FuncData} (G_times_of : JFn P w K mg base 3 f_times_of fd_times_of ["one", "other"] S_times_of) (R_times_of : Rf K mg "times_of" ["one", "other"] f_times_of fd_times_of) {f_toward_zero_levels : Addr} {fd_toward_zero_levels : FuncData} (G_toward_zero_levels : JFn P w K mg base 1 f_toward_zero_levels fd_toward_zero_levels ["n", "d"] S_toward_zero_levels) (R_toward_zero_levels : Rf K mg "toward_zero_levels" ["n", "d"] f_toward_zero_levels fd_toward_zero_levels) : JFn P w K mg base 4 fa fd ["rows", "parts"] S_mixed := fn_j F sc_mixed (hb_mixed T G_plus_of R_plus_of G_times_of R_times_of G_toward_zero_levels R_toward_zero_levels) fun ds QD _ h => wp_mixed ds QD h
theorem hb_faded {fa : Addr} (T : Txt mg) {f_toward_zero_levels : Addr} {fd_toward_zero_levels : FuncData} (G_toward_zero_levels : JFn P w K mg base 1 f_toward_zero_levels fd_toward_zero_levels ["n", "d"] S_toward_zero_levels) (R_toward_zero_levels : Rf K mg "toward_zero_levels" ["n", "d"] f_toward_zero_levels fd_toward_zero_levels) : ∀ (cdv : Value) (A : Around) (outer : List Env) (s : Shared) (H : Hp) (E : XK), Room 1 (A.deeper (envOfC "faded" (defScope s_faded) s.heap.objs.size fa cdv)) → DSs (cxOf CX0 P w K mg base N_faded "faded" (defScope s_faded) fa cdv A outer s H E).nox (defBody s_faded) m_faded :=
  fun cdv A outer s H E hr => (ss_cons (s_asg 3 sc_faded.nd (d_op op_subJ (d_var 2) (d_var 1)))
      (ss_cons (s_asg 4 sc_faded.nd (d_tuple rfl T.b_tuple (d_of_n (n_lc (own := [("at", 5)]) rfl sc_faded.nd (di_a (dia_r1 rfl T.b_range (d_var 3))) (blkOk_by (N := N_faded) (sc := defScope s_faded) (by decide +kernel)) (fun _ _ _ _ _ => (dg_name 5 sc_faded.nd)) (fun _ _ _ _ _ => dts_nil) (fun _ _ _ _ _ => (d_fn G_toward_zero_levels R_toward_zero_levels (hr.mono (by decide)) rfl pass0 (da_cons (d_op op_mulJ (d_ix (d_var 0) (d_op op_addJ (d_var 1) (d_var 5))) (d_op op_subJ (d_var 3) (d_var 5))) (da_cons (d_var 3) da_nil))))))))
      (ss_one (s_ret (d_op op_addJ (d_op op_addJ (d_sl (d_var 0) dp_no (dp_so (d_var 1))) (d_var 4)) (d_op op_mulTJ (d_tup (da_cons d_int da_nil)) (d_op op_subJ (d_callB call_lenJ rfl T.b_len boot_len (da_cons (d_var 0) da_nil)) (d_var 2))))))))
theorem G_faded {fa : Addr} {fd : FuncData} (F : Fun K "faded" "faded" s_faded fa fd) (T : Txt mg) {f_toward_zero_levels : Addr} {fd_toward_zero_levels : FuncData} (G_toward_zero_levels : JFn P w K mg base 1 f_toward_zero_levels fd_toward_zero_levels ["n", "d"] S_toward_zero_levels) (R_toward_zero_levels : Rf K mg "toward_zero_levels" ["n", "d"] f_toward_zero_levels fd_toward_zero_levels) : JFn P w K mg base 2 fa fd ["samples", "first", "last"] S_faded := fn_j F sc_faded (hb_faded T G_toward_zero_levels R_toward_zero_levels) fun ds QD _ h => wp_faded ds QD h
theorem hb_sample_at {fa : Addr} (T : Txt mg)  : ∀ (cdv : Value) (A : Around) (outer : List Env) (s : Shared) (H : Hp) (E : XK), Room 0 (A.deeper (envOfC "sample_at" (defScope s_sample_at) s.heap.objs.size fa cdv)) → DSs (cxOf CX0 P w K mg base N_sample_at "sample_at" (defScope s_sample_at) fa cdv A outer s H E).nox (defBody s_sample_at) m_sample_at :=
  fun cdv A outer s H E hr => (ss_one (s_ret (d_if (dt_cmp (op_ltJ (hu65 hr)) (d_var 3) (d_var 2) (nomark _)) (d_ix (d_var 0) (d_var 3)) (d_ix (d_var 0) (d_op op_addJ (d_var 1) (d_op op_modJ (d_op op_subJ (d_var 3) (d_var 1)) (d_op op_subJ (d_var 2) (d_var 1))))))))
theorem G_sample_at {fa : Addr} {fd : FuncData} (F : Fun K "sample_at" "sample_at" s_sample_at fa fd) (T : Txt mg)  : JFn P w K mg base 1 fa fd ["samples", "begin", "end", "at"] S_sample_at := fn_j F sc_sample_at (hb_sample_at T ) fun ds QD _ h => wp_sample_at ds QD h
theorem hb_played {fa : Addr} (T : Txt mg) {f_sample_at : Addr} {fd_sample_at : FuncData} (G_sample_at : JFn P w K mg base 1 f_sample_at fd_sample_at ["samples", "begin", "end", "at"] S_sample_at) (R_sample_at : Rf K mg "sample_at" ["samples", "begin", "end", "at"] f_sample_at fd_sample_at) : ∀ (cdv : Value) (A : Around) (outer : List Env) (s : Shared) (H : Hp) (E : XK), Room 1 (A.deeper (envOfC "played" (defScope s_played) s.heap.objs.size fa cdv)) → DSs (cxOf CX0 P w K mg base N_played "played" (defScope s_played) fa cdv A outer s H E).nox (defBody s_played) m_played :=
  fun cdv A outer s H E hr => (ss_one (s_ret (d_tuple rfl T.b_tuple (d_of_n (n_lc (own := [("at", 4)]) rfl sc_played.nd (di_a (dia_r1 rfl T.b_range (d_var 3))) (blkOk_by (N := N_played) (sc := defScope s_played) (by decide +kernel)) (fun _ _ _ _ _ => (dg_name 4 sc_played.nd)) (fun _ _ _ _ _ => dts_nil) (fun _ _ _ _ _ => (d_fn G_sample_at R_sample_at (hr.mono (by decide)) rfl pass0 (da_cons (d_var 0) (da_cons (d_var 1) (da_cons (d_var 2) (da_cons (d_var 4) da_nil)))))))))))
theorem G_played {fa : Addr} {fd : FuncData} (F : Fun K "played" "played" s_played fa fd) (T : Txt mg) {f_sample_at : Addr} {fd_sample_at : FuncData} (G_sample_at : JFn P w K mg base 1 f_sample_at fd_sample_at ["samples", "begin", "end", "at"] S_sample_at) (R_sample_at : Rf K mg "sample_at" ["samples", "begin", "end", "at"] f_sample_at fd_sample_at) : JFn P w K mg base 2 fa fd ["samples", "begin", "end", "many"] S_played := fn_j F sc_played (hb_played T G_sample_at R_sample_at) fun ds QD _ h => wp_played ds QD h
theorem hb_jump_of {fa : Addr} (T : Txt mg)  : ∀ (cdv : Value) (A : Around) (outer : List Env) (s : Shared) (H : Hp) (E : XK), Room 0 (A.deeper (envOfC "jump_of" (defScope s_jump_of) s.heap.objs.size fa cdv)) → DSs (cxOf CX0 P w K mg base N_jump_of "jump_of" (defScope s_jump_of) fa cdv A outer s H E).nox (defBody s_jump_of) m_jump_of :=
  fun cdv A outer s H E hr => (ss_one (s_ret (d_callB call_absJ rfl T.b_abs (by decide +kernel) (da_cons (d_op op_subJ (d_ix (d_var 0) (d_op op_subJ (d_var 2) d_int)) (d_ix (d_var 0) (d_var 1))) da_nil))))
theorem G_jump_of {fa : Addr} {fd : FuncData} (F : Fun K "jump_of" "jump_of" s_jump_of fa fd) (T : Txt mg)  : JFn P w K mg base 1 fa fd ["samples", "begin", "end"] S_jump_of := fn_j F sc_jump_of (hb_jump_of T ) fun ds QD _ h => wp_jump_of ds QD h
theorem hb_best_loop {fa : Addr} (T : Txt mg) {f_jump_of : Addr} {fd_jump_of : FuncData} (G_jump_of : JFn P w K mg base 1 f_jump_of fd_jump_of ["samples", "begin", "end"] S_jump_of) (R_jump_of : Rf K mg "jump_of" ["samples", "begin", "end"] f_jump_of fd_jump_of) : ∀ (cdv : Value) (A : Around) (outer : List Env) (s : Shared) (H : Hp) (E : XK), Room 1 (A.deeper (envOfC "best_loop" (defScope s_best_loop) s.heap.objs.size fa cdv)) → DSs (cxOf CX0 P w K mg base N_best_loop "best_loop" (defScope s_best_loop) fa cdv A outer s H E).nox (defBody s_best_loop) m_best_loop :=
  fun cdv A outer s H E hr => (ss_cons (s_new 2 sc_best_loop.nd (n_lst da_nil))
      (ss_cons (s_forR PassesOwn.never rfl (dia_r1 rfl T.b_range (d_callB call_lenJ rfl T.b_len boot_len (da_cons (d_var 0) da_nil))) (dg_name 3 sc_best_loop.nd) (ss_one (s_ext 2 sc_best_loop.nd (n_lc (own := [("end", 4)]) rfl sc_best_loop.nd (di_a (dia_r2 rfl T.b_range (d_op op_addJ (d_var 3) (d_var 1)) (d_op op_addJ (d_callB call_lenJ rfl T.b_len boot_len (da_cons (d_var 0) da_nil)) d_int))) (blkOk_by (N := N_best_loop) (sc := defScope s_best_loop) (by decide +kernel)) (fun _ _ _ _ _ => (dg_name 4 sc_best_loop.nd)) (fun _ _ _ _ _ => dts_nil) (fun _ _ _ _ _ => (d_tup (da_cons (d_fn G_jump_of R_jump_of (hr.mono (by decide)) rfl pass0 (da_cons (d_var 0) (da_cons (d_var 3) (da_cons (d_var 4) da_nil)))) (da_cons (d_tup (da_cons (d_var 3) (da_cons (d_var 4) da_nil))) da_nil))))))))
      (ss_one (s_ret (d_if (dt_cmp (op_gtJ (hu65 hr)) (d_callB call_lenJ rfl T.b_len boot_len (da_cons (d_var 2) da_nil)) d_int (nomark _)) (d_ix (d_callB (call_min1J rfl (hu65 hr)) rfl T.b_min (by decide +kernel) (da_cons (d_var 2) da_nil)) d_int) d_non)))))
theorem G_best_loop {fa : Addr} {fd : FuncData} (F : Fun K "best_loop" "best_loop" s_best_loop fa fd) (T : Txt mg) {f_jump_of : Addr} {fd_jump_of : FuncData} (G_jump_of : JFn P w K mg base 1 f_jump_of fd_jump_of ["samples", "begin", "end"] S_jump_of) (R_jump_of : Rf K mg "jump_of" ["samples", "begin", "end"] f_jump_of fd_jump_of) : JFn P w K mg base 2 fa fd ["samples", "least"] S_best_loop := fn_j F sc_best_loop (hb_best_loop T G_jump_of R_jump_of) fun ds QD _ h => wp_best_loop ds QD h
theorem hb_toward_zero_loops {fa : Addr} (T : Txt mg)  : ∀ (cdv : Value) (A : Around) (outer : List Env) (s : Shared) (H : Hp) (E : XK), Room 0 (A.deeper (envOfC "toward_zero" (defScope s_toward_zero_loops) s.heap.objs.size fa cdv)) → DSs (cxOf CX0 P w K mg base N_toward_zero_loops "toward_zero" (defScope s_toward_zero_loops) fa cdv A outer s H E).nox (defBody s_toward_zero_loops) m_toward_zero_loops :=
  fun cdv A outer s H E hr => (ss_one (s_ret (d_if (dt_cmp (op_geJ (hu65 hr)) (d_var 0) d_int (nomark _)) (d_op op_divJ (d_var 0) (d_var 1)) (d_un un_negJ (d_op op_divJ (d_un un_negJ (d_var 0)) (d_var 1))))))
theorem G_toward_zero_loops {fa : Addr} {fd : FuncData} (F : Fun K "toward_zero" "toward_zero" s_toward_zero_loops fa fd) (T : Txt mg)  : JFn P w K mg base 1 fa fd ["n", "d"] S_toward_zero_loops := fn_j F sc_toward_zero_loops (hb_toward_zero_loops T ) fun ds QD _ h => wp_toward_zero_loops ds QD h
theorem hb_blended {fa : Addr} (T : Txt mg) {f_toward_zero_loops : Addr} {fd_toward_zero_loops : FuncData} (G_toward_zero_loops : JFn P w K mg base 1 f_toward_zero_loops fd_toward_zero_loops ["n", "d"] S_toward_zero_loops) (R_toward_zero_loops : Rf K mg "toward_zero_loops" ["n", "d"] f_toward_zero_loops fd_toward_zero_loops) : ∀ (cdv : Value) (A : Around) (outer : List Env) (s : Shared) (H : Hp) (E : XK), Room 1 (A.deeper (envOfC "blended" (defScope s_blended) s.heap.objs.size fa cdv)) → DSs (cxOf CX0 P w K mg base N_blended "blended" (defScope s_blended) fa cdv A outer s H E).nox (defBody s_blended) m_blended :=
  fun cdv A outer s H E hr => (ss_cons (s_new 4 sc_blended.nd (n_list rfl T.b_list (d_var 0)))
      (ss_cons (s_forR PassesOwn.never rfl (dia_r1 rfl T.b_range (d_var 3)) (dg_name 5 sc_blended.nd) (ss_cons (s_par 6 7 rfl sc_blended.nd (da_cons (d_ix (d_var 0) (d_op op_addJ (d_op op_subJ (d_var 2) (d_var 3)) (d_var 5))) (da_cons (d_ix (d_var 0) (d_op op_addJ (d_op op_subJ (d_var 1) (d_var 3)) (d_var 5))) da_nil)))
      (ss_one (s_set 4 (d_op op_addJ (d_op op_subJ (d_var 2) (d_var 3)) (d_var 5)) (d_fn G_toward_zero_loops R_toward_zero_loops (hr.mono (by decide)) rfl pass0 (da_cons (d_op op_addJ (d_op op_mulJ (d_op op_subJ (d_var 3) (d_var 5)) (d_var 6)) (d_op op_mulJ (d_var 5) (d_var 7))) (da_cons (d_var 3) da_nil)))))))
      (ss_one (s_ret (d_tuple rfl T.b_tuple (d_var 4))))))
theorem G_blended {fa : Addr} {fd : FuncData} (F : Fun K "blended" "blended" s_blended fa fd) (T : Txt mg) {f_toward_zero_loops : Addr} {fd_toward_zero_loops : FuncData} (G_toward_zero_loops : JFn P w K mg base 1 f_toward_zero_loops fd_toward_zero_loops ["n", "d"] S_toward_zero_loops) (R_toward_zero_loops : Rf K mg "toward_zero_loops" ["n", "d"] f_toward_zero_loops fd_toward_zero_loops) : JFn P w K mg base 2 fa fd ["samples", "begin", "end", "wide"] S_blended := fn_j F sc_blended (hb_blended T G_toward_zero_loops R_toward_zero_loops) fun ds QD _ h => wp_blended ds QD h
theorem hb_unchanged_from {fa : Addr} (T : Txt mg) {f_sample_at : Addr} {fd_sample_at : FuncData} (G_sample_at : JFn P w K mg base 1 f_sample_at fd_sample_at ["samples", "begin", "end", "at"] S_sample_at) (R_sample_at : Rf K mg "sample_at" ["samples", "begin", "end", "at"] f_sample_at fd_sample_at) : ∀ (cdv : Value) (A : Around) (outer : List Env) (s : Shared) (H : Hp) (E : XK), Room 1 (A.deeper (envOfC "unchanged_from" (defScope s_unchanged_from) s.heap.objs.size fa cdv)) → DSs (cxOf CX0 P w K mg base N_unchanged_from "unchanged_from" (defScope s_unchanged_from) fa cdv A outer s H E).nox (defBody s_unchanged_from) m_unchanged_from :=
  fun cdv A outer s H E hr => (ss_cons (s_asg 4 sc_unchanged_from.nd (d_op op_addJ (d_callB (call_max2J rfl) rfl T.b_max (by decide +kernel) (da_cons (d_var 2) (da_cons (d_var 3) da_nil))) (d_op op_mulJ (d_op op_subJ (d_var 2) (d_var 1)) (d_op op_subJ (d_var 3) (d_var 1)))))
      (ss_cons (s_forR PassesOwn.never rfl (dia_r1 rfl T.b_range (d_var 4)) (dg_name 5 sc_unchanged_from.nd) (ss_one (s_if (dt_cmp (op_neJ (hu64 hr)) (d_fn G_sample_at R_sample_at (hr.mono (by decide)) rfl pass0 (da_cons (d_var 0) (da_cons (d_var 1) (da_cons (d_var 2) (da_cons (d_var 5) da_nil))))) (d_fn G_sample_at R_sample_at (hr.mono (by decide)) rfl pass0 (da_cons (d_var 0) (da_cons (d_var 1) (da_cons (d_var 3) (da_cons (d_var 5) da_nil))))) (nomark _)) (ss_one (s_ret (d_var 5))) ss_nil)))
      (ss_one (s_ret d_non))))
theorem G_unchanged_from {fa : Addr} {fd : FuncData} (F : Fun K "unchanged_from" "unchanged_from" s_unchanged_from fa fd) (T : Txt mg) {f_sample_at : Addr} {fd_sample_at : FuncData} (G_sample_at : JFn P w K mg base 1 f_sample_at fd_sample_at ["samples", "begin", "end", "at"] S_sample_at) (R_sample_at : Rf K mg "sample_at" ["samples", "begin", "end", "at"] f_sample_at fd_sample_at) : JFn P w K mg base 2 fa fd ["samples", "begin", "end", "other"] S_unchanged_from := fn_j F sc_unchanged_from (hb_unchanged_from T G_sample_at R_sample_at) fun ds QD _ h => wp_unchanged_from ds QD h
theorem hb__law_draws {fa : Addr} (T : Txt mg)  : ∀ (cdv : Value) (A : Around) (outer : List Env) (s : Shared) (H : Hp) (E : XK), Room 0 (A.deeper (envOfC "_law_draws" (defScope s__law_draws) s.heap.objs.size fa cdv)) → DSs (cxOf CX0 P w K mg base N__law_draws "_law_draws" (defScope s__law_draws) fa cdv A outer s H E).nox (defBody s__law_draws) m_draws :=
  fun cdv A outer s H E hr => (ss_cons (new_ok (ps_lc (i := 2) (own := [("cell", 7)]) rfl sc__law_draws.nd rfl rfl (sw_true rfl rfl rfl (by decide +kernel)) (di_seq (d_var 0)) (blkOk_by (N := N__law_draws) (sc := defScope s__law_draws) (by decide +kernel)) (fun _ _ _ _ _ => (dg_name 7 sc__law_draws.nd)) (fun _ _ _ _ _ => dts_nil) (fun _ _ _ _ _ => (d_callTy call_intJ rfl T.b_int boot_int (da_cons (d_var 7) da_nil))) (by decide) (by intro _; rfl)))
      (ss_cons (s_if (dt_cmp (op_eqJ (hu64 hr)) (d_callB call_lenJ rfl T.b_len boot_len (da_cons (d_var 2) da_nil)) d_int (nomark _)) (ss_one (s_app 2 d_int)) ss_nil)
      (ss_cons (s_newP 3 sc__law_draws.nd (n_list rfl T.b_list (d_var 2)))
      (ss_cons (s_new 4 sc__law_draws.nd (n_lst da_nil))
      (ss_cons (s_forR PassesOwn.never rfl (dia_r1 rfl T.b_range (d_var 1)) (dg_name 5 sc__law_draws.nd) (ss_cons (s_asgP 6 sc__law_draws.nd (d_op op_modJ (d_var 5) (d_callB call_lenJ rfl T.b_len boot_len (da_cons (d_var 2) da_nil))))
      (ss_one (s_if (dt_w (dw_and (dt_cmp (op_geJ (hu65 hr)) (d_ix (d_var 2) (d_var 6)) (d_op op_powJ d_int d_int) (nomark _)) (dw_and1 (dt_cmp (op_gtJ (hu65 hr)) (d_ix (d_var 3) (d_var 6)) d_int (nomark _))))) (ss_cons (s_appP 4 (d_op op_modJ (d_callTy call_intJ rfl T.b_int boot_int (da_cons (d_ix (d_var 3) (d_var 6)) da_nil)) d_int))
      (ss_one (s_set 3 (d_var 6) (d_op op_divJ (d_ix (d_var 3) (d_var 6)) d_int)))) (ss_cons (s_asgP 8 sc__law_draws.nd (d_op op_modJ (d_callTy call_intJ rfl T.b_int boot_int (da_cons (d_op op_addJ (d_op op_addJ (d_op op_mulJ (d_ix (d_var 2) (d_var 6)) d_int) (d_op op_mulJ (d_var 5) d_int)) d_int) da_nil)) d_int))
      (ss_one (s_app 4 (d_op op_modJ (d_callTy call_intJ rfl T.b_int boot_int (da_cons (d_op op_addJ (d_op op_addJ (d_op op_mulJ (d_var 8) (d_var 8)) (d_op op_mulJ d_int (d_var 8))) (d_var 5)) da_nil)) d_int))))))))
      (ss_cons (s_rev 4)
      (ss_one (s_retO 4))))))))
theorem G__law_draws {fa : Addr} {fd : FuncData} (F : Fun K "_law_draws" "_law_draws" s__law_draws fa fd) (T : Txt mg)  : JFn P w K mg base 1 fa fd ["script", "many"] S__law_draws := pile_of (fnN_j F sc__law_draws (hb__law_draws T ) fun ds QD _ h => wp_draws ds QD h) draws_pile
theorem hb__law_take {fa : Addr} (T : Txt mg) : ∀ (cdv : Value) (A : Around) (outer : List Env) (s : Shared) (H : Hp) (E : XK), Room 0 (A.deeper (envOfC "_law_take" (defScope s__law_take) s.heap.objs.size fa cdv)) → PSs (cxOf CX0 P w K mg base N__law_take "_law_take" (defScope s__law_take) fa cdv A outer s H E).nox (defBody s__law_take) (tTake K) :=
  fun cdv A outer s H E hr => by
  refine pssW (pss_cons (ps_if (pt_cmpR op_eq (pe_callB call_len_seq rfl T.b_len boot_len (pa_cons (pv 0) pa_nil)) pe_int (nomark _)) (pss_one (ps_ret pe_int)) pss_nil)
    (pss_one (ps_ret (pe_op op_mod (pe_callTy call_int1 rfl T.b_int boot_int (pa_cons (pe_bm0 PySem.F.plainAttrs_list PySem.F.slot_list_pop PySem.F.type_list_pop mt_pop (pv 0)) pa_nil)) (pv 1))))) fun E σ H h => ?_
  obtain ⟨a, ns, n, rfl, ha, hns, hn, q0, q1⟩ := h
  refine ⟨_, rfl, ⟨a, ns.map V.int, rfl, .inl (SqL.of ha), rfl, ?_⟩⟩
  rw [dec_int, List.length_map]
  refine ⟨_, rfl, ?_⟩
  cases ns with
  | nil => exact q0 rfl
  | cons m ms =>
    rw [if_neg (by simp; omega)]
    obtain ⟨z, hz⟩ : ∃ z, (m :: ms)[(m :: ms).length - 1]? = some z := ⟨_, List.getElem?_eq_getElem (by simp)⟩
    refine ⟨_, rfl, .inl ⟨rfl, _, SqL.of ha⟩, a, _, .int z, rfl, rfl, ha, ?_, .inl ⟨_, rfl, _, rfl, z, n, rfl, rfl, hn, ?_⟩⟩
    · rw [List.length_map, List.getElem?_map, hz]
      rfl
    · rw [← List.map_dropLast]
      exact q1 z (hns z (List.mem_of_getElem? hz)) (by simp)
theorem G__law_take {fa : Addr} {fd : FuncData} (F : Fun K "_law_take" "_law_take" s__law_take fa fd) (T : Txt mg) : JFn P w K mg base 1 fa fd ["draws", "many"] S__law_take := take_j F sc__law_take (hb__law_take T)
theorem hb__law_cell {fa : Addr} (T : Txt mg)  : ∀ (cdv : Value) (A : Around) (outer : List Env) (s : Shared) (H : Hp) (E : XK), Room 0 (A.deeper (envOfC "_law_cell" (defScope s__law_cell) s.heap.objs.size fa cdv)) → DSs (cxOf CX0 P w K mg base N__law_cell "_law_cell" (defScope s__law_cell) fa cdv A outer s H E).nox (defBody s__law_cell) m_cell1 :=
  fun cdv A outer s H E hr => (ss_cons (s_if (dt_cmp (op_eqJ (hu64 hr)) (d_callB call_lenJ rfl T.b_len boot_len (da_cons (d_var 0) da_nil)) d_int (nomark _)) (ss_one (s_ret d_int)) ss_nil)
      (ss_cons (s_asg 2 sc__law_cell.nd (d_callTy call_intJ rfl T.b_int boot_int (da_cons (d_ix (d_var 0) (d_op op_modJ (d_callTy call_intJ rfl T.b_int boot_int (da_cons (d_var 1) da_nil)) (d_callB call_lenJ rfl T.b_len boot_len (da_cons (d_var 0) da_nil)))) da_nil)))
      (ss_one (s_ret (d_op op_mulJ (d_op op_modJ (d_callB call_absJ rfl T.b_abs (by decide +kernel) (da_cons (d_var 2) da_nil)) (d_op op_powJ d_int d_int)) (d_ix (d_of_n (n_lst (da_cons d_int (da_cons (d_un un_negJ d_int) da_nil)))) (d_callTy call_intJ rfl T.b_int boot_int (da_cons (d_cmp (op_ltJ (hu65 hr)) (d_var 2) d_int (nomark _)) da_nil))))))))
theorem G__law_cell {fa : Addr} {fd : FuncData} (F : Fun K "_law_cell" "_law_cell" s__law_cell fa fd) (T : Txt mg)  : JFn P w K mg base 1 fa fd ["script", "at"] S__law_cell := fn_j F sc__law_cell (hb__law_cell T ) fun ds QD _ h => wp_cell1 ds QD h
theorem hb__law_same {fa : Addr} {fd : FuncData} {k : Nat} {S : WL} (T : Txt mg) (G__law_same : JFn P w K mg base k fa fd ["actual", "due"] S) (R__law_same : Rf K mg "_law_same" ["actual", "due"] fa fd) : ∀ (cdv : Value) (A : Around) (outer : List Env) (s : Shared) (H : Hp) (E : XK), Room k (A.deeper (envOfC "_law_same" (defScope s__law_same) s.heap.objs.size fa cdv)) → DSs (cxOf CX0 P w K mg base N__law_same "_law_same" (defScope s__law_same) fa cdv A outer s H E).nox (defBody s__law_same) (m_same S) :=
  fun cdv A outer s H E hr => (ss_cons (s_if (dt_val (d_isi "bool" (by decide +kernel) (by decide +kernel) rfl T.b_isinstance rfl T.b_bool (d_var 1))) (ss_one (s_ret (d_and (d_isi "bool" (by decide +kernel) (by decide +kernel) rfl T.b_isinstance rfl T.b_bool (d_var 0)) (d_one (d_cmp (op_eqJ (hu64 hr)) (d_var 0) (d_var 1) (nomark _)))))) ss_nil)
      (ss_cons (s_if (dt_val (d_isi "int" (by decide +kernel) (by decide +kernel) rfl T.b_isinstance rfl T.b_int (d_var 1))) (ss_one (s_ret (d_and (d_isi "int" (by decide +kernel) (by decide +kernel) rfl T.b_isinstance rfl T.b_int (d_var 0)) (d_and (d_not (d_isi "bool" (by decide +kernel) (by decide +kernel) rfl T.b_isinstance rfl T.b_bool (d_var 0))) (d_one (d_cmp (op_eqJ (hu64 hr)) (d_var 0) (d_var 1) (nomark _))))))) ss_nil)
      (ss_cons (s_if (dt_val (d_isi "str" (by decide +kernel) (by decide +kernel) rfl T.b_isinstance rfl T.b_str (d_var 1))) (ss_one (s_ret (d_and (d_isi "str" (by decide +kernel) (by decide +kernel) rfl T.b_isinstance rfl T.b_str (d_var 0)) (d_one (d_cmp (op_eqJ (hu64 hr)) (d_var 0) (d_var 1) (nomark _)))))) ss_nil)
      (ss_cons (s_if (dt_cmp op_isJ (d_var 1) d_non (nomark _)) (ss_one (s_ret (d_cmp op_isJ (d_var 0) d_non (nomark _)))) ss_nil)
      (ss_cons (s_if (dt_w (dw_or (dt_not (dt_val (d_isi "tuple" (by decide +kernel) (by decide +kernel) rfl T.b_isinstance rfl T.b_tuple (d_var 0)))) (dw_or1 (dt_cmp (op_neJ (hu64 hr)) (d_callB call_lenJ rfl T.b_len boot_len (da_cons (d_var 0) da_nil)) (d_callB call_lenJ rfl T.b_len boot_len (da_cons (d_var 1) da_nil)) (nomark _))))) (ss_one (s_ret d_bl)) ss_nil)
      (ss_cons (s_forR PassesOwn.never rfl (dia_r1 rfl T.b_range (d_callB call_lenJ rfl T.b_len boot_len (da_cons (d_var 1) da_nil))) (dg_name 2 sc__law_same.nd) (ss_one (s_if (dt_not (dt_val (d_fn G__law_same R__law_same hr rfl pass0 (da_cons (d_ix (d_var 0) (d_var 2)) (da_cons (d_ix (d_var 1) (d_var 2)) da_nil))))) (ss_one (s_ret d_bl)) ss_nil)))
      (ss_one (s_ret d_bl))))))))
theorem G__law_same_n {fa : Addr} {fd : FuncData} (F : Fun K "_law_same" "_law_same" s__law_same fa fd) (T : Txt mg) (R : Rf K mg "_law_same" ["actual", "due"] fa fd) : ∀ n : Nat, JFn P w K mg base (n + 1) fa fd ["actual", "due"] (S_same n)
  | 0 => fn_j F sc__law_same (hb__law_same T no_j R) (fun ds QD _ h => wp_same 0 _ (fun m h => by cases h) ds QD h)
  | n + 1 => fn_j F sc__law_same (hb__law_same T (G__law_same_n F T R n) R) (fun ds QD _ h => wp_same (n + 1) _ (fun m h => by cases h; exact fun _ _ h => h) ds QD h)
theorem G__law_same {fa : Addr} {fd : FuncData} (F : Fun K "_law_same" "_law_same" s__law_same fa fd) (T : Txt mg) (R : Rf K mg "_law_same" ["actual", "due"] fa fd) : JFn P w K mg base 9 fa fd ["actual", "due"] S__law_same := G__law_same_n F T R 8
theorem hb__law_divisor {fa : Addr} (T : Txt mg)  : ∀ (cdv : Value) (A : Around) (outer : List Env) (s : Shared) (H : Hp) (E : XK), Room 0 (A.deeper (envOfC "_law_divisor" (defScope s__law_divisor) s.heap.objs.size fa cdv)) → DSs (cxOf CX0 P w K mg base N__law_divisor "_law_divisor" (defScope s__law_divisor) fa cdv A outer s H E).nox (defBody s__law_divisor) m__law_divisor :=
  fun cdv A outer s H E hr => (ss_cons (s_asg 0 sc__law_divisor.nd (d_callB (call_max2J rfl) rfl T.b_max (by decide +kernel) (da_cons (d_var 0) (da_cons (d_un un_negJ (d_var 0)) da_nil))))
      (ss_cons (s_asg 1 sc__law_divisor.nd (d_callB (call_max2J rfl) rfl T.b_max (by decide +kernel) (da_cons (d_var 1) (da_cons (d_un un_negJ (d_var 1)) da_nil))))
      (ss_cons (s_while PassesOwn.never (dt_cmp (op_gtJ (hu65 hr)) (d_var 1) d_int (nomark _)) (ss_one (s_par 0 1 rfl sc__law_divisor.nd (da_cons (d_var 1) (da_cons (d_op op_modJ (d_callTy call_intJ rfl T.b_int boot_int (da_cons (d_var 0) da_nil)) (d_var 1)) da_nil)))))
      (ss_one (s_ret (d_var 0))))))
theorem G__law_divisor {fa : Addr} {fd : FuncData} (F : Fun K "_law_divisor" "_law_divisor" s__law_divisor fa fd) (T : Txt mg)  : JFn P w K mg base 1 fa fd ["one", "other"] S__law_divisor := fn_j F sc__law_divisor (hb__law_divisor T ) fun ds QD _ h => wp__law_divisor ds QD h
theorem hb__law_ratio {fa : Addr} (T : Txt mg) {f__law_divisor : Addr} {fd__law_divisor : FuncData} (G__law_divisor : JFn P w K mg base 1 f__law_divisor fd__law_divisor ["one", "other"] S__law_divisor) (R__law_divisor : Rf K mg "_law_divisor" ["one", "other"] f__law_divisor fd__law_divisor) : ∀ (cdv : Value) (A : Around) (outer : List Env) (s : Shared) (H : Hp) (E : XK), Room 1 (A.deeper (envOfC "_law_ratio" (defScope s__law_ratio) s.heap.objs.size fa cdv)) → DSs (cxOf CX0 P w K mg base N__law_ratio "_law_ratio" (defScope s__law_ratio) fa cdv A outer s H E).nox (defBody s__law_ratio) m__law_ratio :=
  fun cdv A outer s H E hr => (ss_cons (s_asg 2 sc__law_ratio.nd (d_fn G__law_divisor R__law_divisor (hr.mono (by decide)) rfl pass0 (da_cons (d_var 0) (da_cons (d_var 1) da_nil))))
      (ss_cons (s_if (dt_cmp (op_ltJ (hu65 hr)) (d_var 1) d_int (nomark _)) (ss_one (s_asg 2 sc__law_ratio.nd (d_un un_negJ (d_var 2)))) ss_nil)
      (ss_one (s_ret (d_tup (da_cons (d_op op_divJ (d_var 0) (d_var 2)) (da_cons (d_op op_divJ (d_var 1) (d_var 2)) da_nil)))))))
theorem G__law_ratio {fa : Addr} {fd : FuncData} (F : Fun K "_law_ratio" "_law_ratio" s__law_ratio fa fd) (T : Txt mg) {f__law_divisor : Addr} {fd__law_divisor : FuncData} (G__law_divisor : JFn P w K mg base 1 f__law_divisor fd__law_divisor ["one", "other"] S__law_divisor) (R__law_divisor : Rf K mg "_law_divisor" ["one", "other"] f__law_divisor fd__law_divisor) : JFn P w K mg base 2 fa fd ["n", "d"] S__law_ratio := fn_j F sc__law_ratio (hb__law_ratio T G__law_divisor R__law_divisor) fun ds QD _ h => wp__law_ratio ds QD h
theorem hb__law_samples {fa : Addr} (T : Txt mg) {f__law_take : Addr} {fd__law_take : FuncData} (G__law_take : JFn P w K mg base 1 f__law_take fd__law_take ["draws", "many"] S__law_take) (R__law_take : Rf K mg "_law_take" ["draws", "many"] f__law_take fd__law_take) {f__law_cell : Addr} {fd__law_cell : FuncData} (G__law_cell : JFn P w K mg base 1 f__law_cell fd__law_cell ["script", "at"] S__law_cell) (R__law_cell : Rf K mg "_law_cell" ["script", "at"] f__law_cell fd__law_cell) : ∀ (cdv : Value) (A : Around) (outer : List Env) (s : Shared) (H : Hp) (E : XK), Room 1 (A.deeper (envOfC "_law_samples" (defScope s__law_samples) s.heap.objs.size fa cdv)) → DSs (cxOf CX0 P w K mg base N__law_samples "_law_samples" (defScope s__law_samples) fa cdv A outer s H E).nox (defBody s__law_samples) m__law_samples :=
  fun cdv A outer s H E hr => (ss_cons (s_asg 3 sc__law_samples.nd (d_ix (d_of_n (n_lst (da_cons d_int (da_cons d_int (da_cons d_int da_nil))))) (d_fn G__law_take R__law_take (hr.mono (by decide)) rfl pass0 (da_cons (d_var 0) (da_cons d_int da_nil)))))
      (ss_cons (s_asg 4 sc__law_samples.nd (d_ix (d_of_n (n_lst (da_cons d_int (da_cons d_int (da_cons (d_op op_addJ d_int (d_callB call_absJ rfl T.b_abs (by decide +kernel) (da_cons (d_fn G__law_cell R__law_cell (hr.mono (by decide)) rfl pass0 (da_cons (d_var 1) (da_cons (d_fn G__law_take R__law_take (hr.mono (by decide)) rfl pass0 (da_cons (d_var 0) (da_cons d_int da_nil))) da_nil))) da_nil))) da_nil))))) (d_fn G__law_take R__law_take (hr.mono (by decide)) rfl pass0 (da_cons (d_var 0) (da_cons d_int da_nil)))))
      (ss_one (s_ret (d_tuple rfl T.b_tuple (d_of_n (n_lc (own := [("k", 5)]) rfl sc__law_samples.nd (di_a (dia_r1 rfl T.b_range (d_var 2))) (blkOk_by (N := N__law_samples) (sc := defScope s__law_samples) (by decide +kernel)) (fun _ _ _ _ _ => (dg_name 5 sc__law_samples.nd)) (fun _ _ _ _ _ => dts_nil) (fun _ _ _ _ _ => (d_op op_mulJ (d_op op_subJ (d_fn G__law_take R__law_take (hr.mono (by decide)) rfl pass0 (da_cons (d_var 0) (da_cons (d_op op_addJ (d_op op_mulJ d_int (d_var 3)) d_int) da_nil))) (d_var 3)) (d_var 4))))))))))
theorem G__law_samples {fa : Addr} {fd : FuncData} (F : Fun K "_law_samples" "_law_samples" s__law_samples fa fd) (T : Txt mg) {f__law_take : Addr} {fd__law_take : FuncData} (G__law_take : JFn P w K mg base 1 f__law_take fd__law_take ["draws", "many"] S__law_take) (R__law_take : Rf K mg "_law_take" ["draws", "many"] f__law_take fd__law_take) {f__law_cell : Addr} {fd__law_cell : FuncData} (G__law_cell : JFn P w K mg base 1 f__law_cell fd__law_cell ["script", "at"] S__law_cell) (R__law_cell : Rf K mg "_law_cell" ["script", "at"] f__law_cell fd__law_cell) : JFn P w K mg base 2 fa fd ["draws", "script", "many"] S__law_samples := fn_j F sc__law_samples (hb__law_samples T G__law_take R__law_take G__law_cell R__law_cell) fun ds QD _ h => wp__law_samples ds QD h
theorem hb__law_played {fa : Addr} (T : Txt mg)  : ∀ (cdv : Value) (A : Around) (outer : List Env) (s : Shared) (H : Hp) (E : XK), Room 0 (A.deeper (envOfC "_law_played" (defScope s__law_played) s.heap.objs.size fa cdv)) → DSs (cxOf CX0 P w K mg base N__law_played "_law_played" (defScope s__law_played) fa cdv A outer s H E).nox (defBody s__law_played) m__law_played :=
  fun cdv A outer s H E hr => (ss_cons (s_asg 4 sc__law_played.nd (d_of_n (n_list rfl T.b_list (d_sl (d_var 0) dp_no (dp_so (d_var 2))))))
      (ss_cons (s_forR PassesOwn.never rfl (dia_r1 rfl T.b_range (d_var 3)) (dg_name 5 sc__law_played.nd) (ss_one (s_if (dt_cmp (op_ltJ (hu65 hr)) (d_callB call_lenJ rfl T.b_len boot_len (da_cons (d_var 4) da_nil)) (d_var 3) (nomark _)) (ss_one (s_asg 4 sc__law_played.nd (d_op op_addJ (d_var 4) (d_of_n (n_list rfl T.b_list (d_sl (d_var 0) (dp_so (d_var 1)) (dp_so (d_var 2)))))))) ss_nil)))
      (ss_one (s_ret (d_tuple rfl T.b_tuple (d_sl (d_var 4) dp_no (dp_so (d_var 3))))))))
theorem G__law_played {fa : Addr} {fd : FuncData} (F : Fun K "_law_played" "_law_played" s__law_played fa fd) (T : Txt mg)  : JFn P w K mg base 1 fa fd ["samples", "begin", "end", "many"] S__law_played := fn_j F sc__law_played (hb__law_played T ) fun ds QD _ h => wp__law_played ds QD h
theorem hb__law_quiet_right {fa : Addr} (T : Txt mg) {f_played : Addr} {fd_played : FuncData} (G_played : JFn P w K mg base 2 f_played fd_played ["samples", "begin", "end", "many"] S_played) (R_played : Rf K mg "played" ["samples", "begin", "end", "many"] f_played fd_played) {f_loudest : Addr} {fd_loudest : FuncData} (G_loudest : JFn P w K mg base 1 f_loudest fd_loudest ["samples"] S_loudest) (R_loudest : Rf K mg "loudest" ["samples"] f_loudest fd_loudest) {f_quiet_spans : Addr} {fd_quiet_spans : FuncData} (G_quiet_spans : JFn P w K mg base 1 f_quiet_spans fd_quiet_spans ["samples", "bound", "least"] S_quiet_spans) (R_quiet_spans : Rf K mg "quiet_spans" ["samples", "bound", "least"] f_quiet_spans fd_quiet_spans) : ∀ (cdv : Value) (A : Around) (outer : List Env) (s : Shared) (H : Hp) (E : XK), Room 2 (A.deeper (envOfC "_law_quiet_right" (defScope s__law_quiet_right) s.heap.objs.size fa cdv)) → DSs (cxOf CX0 P w K mg base N__law_quiet_right "_law_quiet_right" (defScope s__law_quiet_right) fa cdv A outer s H E).nox (defBody s__law_quiet_right) m__law_quiet_right :=
  fun cdv A outer s H E hr => (ss_cons (s_asg 3 sc__law_quiet_right.nd (d_op op_subJ (d_var 2) (d_var 1)))
      (ss_cons (s_asg 4 sc__law_quiet_right.nd (d_fn G_played R_played (hr.mono (by decide)) rfl pass0 (da_cons (d_var 0) (da_cons (d_var 1) (da_cons (d_var 2) (da_cons (d_op op_addJ (d_var 1) (d_op op_mulJ d_int (d_var 3))) da_nil))))))
      (ss_cons (s_asg 5 sc__law_quiet_right.nd (d_op op_divJ (d_fn G_loudest R_loudest (hr.mono (by decide)) rfl pass0 (da_cons (d_var 0) da_nil)) d_int))
      (ss_cons (s_asg 6 sc__law_quiet_right.nd (d_fn G_quiet_spans R_quiet_spans (hr.mono (by decide)) rfl pass0 (da_cons (d_var 4) (da_cons (d_var 5) (da_cons d_int da_nil)))))
      (ss_cons (s_if (dt_not (dt_val (d_isi "tuple" (by decide +kernel) (by decide +kernel) rfl T.b_isinstance rfl T.b_tuple (d_var 6)))) (ss_one (s_ret d_bl)) ss_nil)
      (ss_cons (s_forR PassesOwn.never rfl (dia_r2 rfl T.b_range (d_var 1) (d_op op_addJ (d_var 1) (d_op op_mulJ d_int (d_var 3)))) (dg_name 7 sc__law_quiet_right.nd) (ss_cons (s_asg 9 sc__law_quiet_right.nd (d_callB call_lenJ rfl T.b_len boot_len (da_cons (d_of_n (n_lc (own := [("low", 13), ("high", 14)]) rfl sc__law_quiet_right.nd (di_seq (d_var 6)) (blkOk_by (N := N__law_quiet_right) (sc := defScope s__law_quiet_right) (by decide +kernel)) (fun _ _ _ _ _ => (dg_tup rfl (dgs_cons 13 sc__law_quiet_right.nd (dgs_cons 14 sc__law_quiet_right.nd dgs_nil)))) (fun _ _ _ _ _ => (dts_one (dt_w (dw_and (dt_cmp (op_leJ (hu65 hr)) (d_var 13) (d_var 7) (nomark _)) (dw_and1 (dt_cmp (op_ltJ (hu65 hr)) (d_var 7) (d_var 14) (nomark _))))))) (fun _ _ _ _ _ => d_int))) da_nil)))
      (ss_cons (s_asg 10 sc__law_quiet_right.nd (d_callB call_lenJ rfl T.b_len boot_len (da_cons (d_of_n (n_lc (own := [("low", 13), ("high", 14)]) rfl sc__law_quiet_right.nd (di_seq (d_var 6)) (blkOk_by (N := N__law_quiet_right) (sc := defScope s__law_quiet_right) (by decide +kernel)) (fun _ _ _ _ _ => (dg_tup rfl (dgs_cons 13 sc__law_quiet_right.nd (dgs_cons 14 sc__law_quiet_right.nd dgs_nil)))) (fun _ _ _ _ _ => (dts_one (dt_w (dw_and (dt_cmp (op_leJ (hu65 hr)) (d_var 13) (d_op op_addJ (d_var 7) (d_var 3)) (nomark _)) (dw_and1 (dt_cmp (op_ltJ (hu65 hr)) (d_op op_addJ (d_var 7) (d_var 3)) (d_var 14) (nomark _))))))) (fun _ _ _ _ _ => d_int))) da_nil)))
      (ss_cons (s_asg 11 sc__law_quiet_right.nd (d_cmp (op_gtJ (hu65 hr)) (d_callB (call_max2J rfl) rfl T.b_max (by decide +kernel) (da_cons (d_ix (d_var 4) (d_var 7)) (da_cons (d_un un_negJ (d_ix (d_var 4) (d_var 7))) da_nil))) (d_var 5) (nomark _)))
      (ss_one (s_if (dt_w (dw_or (dt_cmp (op_neJ (hu64 hr)) (d_var 9) (d_var 10) (nomark _)) (dw_or1 (dt_cmp (op_neJ (hu64 hr)) (d_var 9) (d_callTy call_intJ rfl T.b_int boot_int (da_cons (d_not (d_var 11)) da_nil)) (nomark _))))) (ss_one (s_ret d_bl)) ss_nil))))))
      (ss_cons (asgN_ok (ps_lc (i := 8) (own := [("span", 12)]) rfl sc__law_quiet_right.nd rfl rfl (sw_true rfl rfl rfl (by decide +kernel)) (di_seq (d_fn G_quiet_spans R_quiet_spans (hr.mono (by decide)) rfl pass0 (da_cons (d_sl (d_var 0) dp_no (dp_so (d_var 2))) (da_cons (d_var 5) (da_cons d_int da_nil))))) (blkOk_by (N := N__law_quiet_right) (sc := defScope s__law_quiet_right) (by decide +kernel)) (fun _ _ _ _ _ => (dg_name 12 sc__law_quiet_right.nd)) (fun _ _ _ _ _ => (dts_one (dt_cmp (op_ltJ (hu65 hr)) (d_ix (d_var 12) d_int) (d_var 2) (nomark _)))) (fun _ _ _ _ _ => (d_var 12)) (by decide) (by intro _; rfl)))
      (ss_one (s_ret (d_cmp (op_eqJ (hu64 hr)) (d_of_n (n_lc (own := [("span", 12)]) rfl sc__law_quiet_right.nd (di_seq (d_var 6)) (blkOk_by (N := N__law_quiet_right) (sc := defScope s__law_quiet_right) (by decide +kernel)) (fun _ _ _ _ _ => (dg_name 12 sc__law_quiet_right.nd)) (fun _ _ _ _ _ => (dts_one (dt_cmp (op_ltJ (hu65 hr)) (d_ix (d_var 12) d_int) (d_var 2) (nomark _)))) (fun _ _ _ _ _ => (d_var 12)))) (d_var 8) (nomark _)))))))))))
theorem G__law_quiet_right {fa : Addr} {fd : FuncData} (F : Fun K "_law_quiet_right" "_law_quiet_right" s__law_quiet_right fa fd) (T : Txt mg) {f_played : Addr} {fd_played : FuncData} (G_played : JFn P w K mg base 2 f_played fd_played ["samples", "begin", "end", "many"] S_played) (R_played : Rf K mg "played" ["samples", "begin", "end", "many"] f_played fd_played) {f_loudest : Addr} {fd_loudest : FuncData} (G_loudest : JFn P w K mg base 1 f_loudest fd_loudest ["samples"] S_loudest) (R_loudest : Rf K mg "loudest" ["samples"] f_loudest fd_loudest) {f_quiet_spans : Addr} {fd_quiet_spans : FuncData} (G_quiet_spans : JFn P w K mg base 1 f_quiet_spans fd_quiet_spans ["samples", "bound", "least"] S_quiet_spans) (R_quiet_spans : Rf K mg "quiet_spans" ["samples", "bound", "least"] f_quiet_spans fd_quiet_spans) : JFn P w K mg base 3 fa fd ["samples", "begin", "end"] S__law_quiet_right := fn_j F sc__law_quiet_right (hb__law_quiet_right T G_played R_played G_loudest R_loudest G_quiet_spans R_quiet_spans) fun ds QD _ h => wp__law_quiet_right ds QD h
theorem hb__law_levels_right {fa : Addr} (T : Txt mg) {f__law_take : Addr} {fd__law_take : FuncData} (G__law_take : JFn P w K mg base 1 f__law_take fd__law_take ["draws", "many"] S__law_take) (R__law_take : Rf K mg "_law_take" ["draws", "many"] f__law_take fd__law_take) {f_played : Addr} {fd_played : FuncData} (G_played : JFn P w K mg base 2 f_played fd_played ["samples", "begin", "end", "many"] S_played) (R_played : Rf K mg "played" ["samples", "begin", "end", "many"] f_played fd_played) {f__law_same : Addr} {fd__law_same : FuncData} (G__law_same : JFn P w K mg base 9 f__law_same fd__law_same ["actual", "due"] S__law_same) (R__law_same : Rf K mg "_law_same" ["actual", "due"] f__law_same fd__law_same) {f__law_played : Addr} {fd__law_played : FuncData} (G__law_played : JFn P w K mg base 1 f__law_played fd__law_played ["samples", "begin", "end", "many"] S__law_played) (R__law_played : Rf K mg "_law_played" ["samples", "begin", "end", "many"] f__law_played fd__law_played) {f_cut_at : Addr} {fd_cut_at : FuncData} (G_cut_at : JFn P w K mg base 1 f_cut_at fd_cut_at ["samples", "top"] S_cut_at) (R_cut_at : Rf K mg "cut_at" ["samples", "top"] f_cut_at fd_cut_at) {f_loudest : Addr} {fd_loudest : FuncData} (G_loudest : JFn P w K mg base 1 f_loudest fd_loudest ["samples"] S_loudest) (R_loudest : Rf K mg "loudest" ["samples"] f_loudest fd_loudest) {f_raised_to : Addr} {fd_raised_to : FuncData} (G_raised_to : JFn P w K mg base 2 f_raised_to fd_raised_to ["samples", "top"] S_raised_to) (R_raised_to : Rf K mg "raised_to" ["samples", "top"] f_raised_to fd_raised_to) {f__law_ratio : Addr} {fd__law_ratio : FuncData} (G__law_ratio : JFn P w K mg base 2 f__law_ratio fd__law_ratio ["n", "d"] S__law_ratio) (R__law_ratio : Rf K mg "_law_ratio" ["n", "d"] f__law_ratio fd__law_ratio) {f_mixed : Addr} {fd_mixed : FuncData} (G_mixed : JFn P w K mg base 4 f_mixed fd_mixed ["rows", "parts"] S_mixed) (R_mixed : Rf K mg "mixed" ["rows", "parts"] f_mixed fd_mixed) {f_mean_square : Addr} {fd_mean_square : FuncData} (G_mean_square : JFn P w K mg base 3 f_mean_square fd_mean_square ["samples"] S_mean_square) (R_mean_square : Rf K mg "mean_square" ["samples"] f_mean_square fd_mean_square) {f_faded : Addr} {fd_faded : FuncData} (G_faded : JFn P w K mg base 2 f_faded fd_faded ["samples", "first", "last"] S_faded) (R_faded : Rf K mg "faded" ["samples", "first", "last"] f_faded fd_faded) {f__law_quiet_right : Addr} {fd__law_quiet_right : FuncData} (G__law_quiet_right : JFn P w K mg base 3 f__law_quiet_right fd__law_quiet_right ["samples", "begin", "end"] S__law_quiet_right) (R__law_quiet_right : Rf K mg "_law_quiet_right" ["samples", "begin", "end"] f__law_quiet_right fd__law_quiet_right) : ∀ (cdv : Value) (A : Around) (outer : List Env) (s : Shared) (H : Hp) (E : XK), Room 9 (A.deeper (envOfC "_law_levels_right" (defScope s__law_levels_right) s.heap.objs.size fa cdv)) → DSs (cxOf CX0 P w K mg base N__law_levels_right "_law_levels_right" (defScope s__law_levels_right) fa cdv A outer s H E).nox (defBody s__law_levels_right) m__law_levels_right :=
  fun cdv A outer s H E hr => (ss_cons (s_asg 4 sc__law_levels_right.nd (d_fn G__law_take R__law_take (hr.mono (by decide)) rfl pass0 (da_cons (d_var 0) (da_cons d_int da_nil))))
      (ss_cons (s_asg 5 sc__law_levels_right.nd (d_fn G_played R_played (hr.mono (by decide)) rfl pass0 (da_cons (d_var 1) (da_cons (d_var 2) (da_cons (d_var 3) (da_cons (d_var 4) da_nil))))))
      (ss_cons (s_if (dt_not (dt_val (d_fn G__law_same R__law_same (hr.mono (by decide)) rfl pass0 (da_cons (d_var 5) (da_cons (d_fn G__law_played R__law_played (hr.mono (by decide)) rfl pass0 (da_cons (d_var 1) (da_cons (d_var 2) (da_cons (d_var 3) (da_cons (d_var 4) da_nil))))) da_nil))))) (ss_one (s_ret d_bl)) ss_nil)
      (ss_cons (s_asg 6 sc__law_levels_right.nd (d_fn G__law_take R__law_take (hr.mono (by decide)) rfl pass0 (da_cons (d_var 0) (da_cons d_int da_nil))))
      (ss_cons (s_if (dt_not (dt_val (d_fn G__law_same R__law_same (hr.mono (by decide)) rfl pass0 (da_cons (d_fn G_played R_played (hr.mono (by decide)) rfl pass0 (da_cons (d_fn G_cut_at R_cut_at (hr.mono (by decide)) rfl pass0 (da_cons (d_var 1) (da_cons (d_var 6) da_nil))) (da_cons (d_var 2) (da_cons (d_var 3) (da_cons (d_var 4) da_nil))))) (da_cons (d_fn G_cut_at R_cut_at (hr.mono (by decide)) rfl pass0 (da_cons (d_var 5) (da_cons (d_var 6) da_nil))) da_nil))))) (ss_one (s_ret d_bl)) ss_nil)
      (ss_cons (s_asg 7 sc__law_levels_right.nd (d_sl (d_var 1) dp_no (dp_so (d_callB (call_min2J rfl) rfl T.b_min (by decide +kernel) (da_cons (d_var 4) (da_cons (d_var 3) da_nil))))))
      (ss_cons (s_asg 8 sc__law_levels_right.nd (d_callB (call_max1J rfl (hu65 hr)) rfl T.b_max (by decide +kernel) (da_cons (d_op op_addJ (d_of_n (n_lst (da_cons d_int da_nil))) (d_of_n (n_lc (own := [("sample", 15)]) rfl sc__law_levels_right.nd (di_seq (d_var 5)) (blkOk_by (N := N__law_levels_right) (sc := defScope s__law_levels_right) (by decide +kernel)) (fun _ _ _ _ _ => (dg_name 15 sc__law_levels_right.nd)) (fun _ _ _ _ _ => dts_nil) (fun _ _ _ _ _ => (d_callB (call_max2J rfl) rfl T.b_max (by decide +kernel) (da_cons (d_var 15) (da_cons (d_un un_negJ (d_var 15)) da_nil))))))) da_nil)))
      (ss_cons (s_if (dt_w (dw_or (dt_not (dt_val (d_fn G__law_same R__law_same (hr.mono (by decide)) rfl pass0 (da_cons (d_fn G_loudest R_loudest (hr.mono (by decide)) rfl pass0 (da_cons (d_var 5) da_nil)) (da_cons (d_var 8) da_nil))))) (dw_or1 (dt_not (dt_val (d_fn G__law_same R__law_same (hr.mono (by decide)) rfl pass0 (da_cons (d_fn G_loudest R_loudest (hr.mono (by decide)) rfl pass0 (da_cons (d_var 7) da_nil)) (da_cons (d_var 8) da_nil)))))))) (ss_one (s_ret d_bl)) ss_nil)
      (ss_cons (s_if (dt_w (dw_and (dt_cmp (op_eqJ (hu64 hr)) (d_fn G_loudest R_loudest (hr.mono (by decide)) rfl pass0 (da_cons (d_var 7) da_nil)) (d_fn G_loudest R_loudest (hr.mono (by decide)) rfl pass0 (da_cons (d_var 1) da_nil)) (nomark _)) (dw_and1 (dt_not (dt_val (d_fn G__law_same R__law_same (hr.mono (by decide)) rfl pass0 (da_cons (d_fn G_played R_played (hr.mono (by decide)) rfl pass0 (da_cons (d_fn G_raised_to R_raised_to (hr.mono (by decide)) rfl pass0 (da_cons (d_var 1) (da_cons (d_var 6) da_nil))) (da_cons (d_var 2) (da_cons (d_var 3) (da_cons (d_var 4) da_nil))))) (da_cons (d_fn G_raised_to R_raised_to (hr.mono (by decide)) rfl pass0 (da_cons (d_var 5) (da_cons (d_var 6) da_nil))) da_nil)))))))) (ss_one (s_ret d_bl)) ss_nil)
      (ss_cons (s_asg 9 sc__law_levels_right.nd (d_tuple rfl T.b_tuple (d_of_n (n_lc (own := [("sample", 15)]) rfl sc__law_levels_right.nd (di_seq (d_var 1)) (blkOk_by (N := N__law_levels_right) (sc := defScope s__law_levels_right) (by decide +kernel)) (fun _ _ _ _ _ => (dg_name 15 sc__law_levels_right.nd)) (fun _ _ _ _ _ => dts_nil) (fun _ _ _ _ _ => (d_op op_subJ (d_fn G__law_take R__law_take (hr.mono (by decide)) rfl pass0 (da_cons (d_var 0) (da_cons d_int da_nil))) d_int))))))
      (ss_cons (s_asg 10 sc__law_levels_right.nd (d_tup (da_cons (d_fn G__law_ratio R__law_ratio (hr.mono (by decide)) rfl pass0 (da_cons (d_op op_subJ (d_fn G__law_take R__law_take (hr.mono (by decide)) rfl pass0 (da_cons (d_var 0) (da_cons d_int da_nil))) d_int) (da_cons (d_op op_addJ d_int (d_fn G__law_take R__law_take (hr.mono (by decide)) rfl pass0 (da_cons (d_var 0) (da_cons d_int da_nil)))) da_nil))) (da_cons (d_fn G__law_ratio R__law_ratio (hr.mono (by decide)) rfl pass0 (da_cons (d_op op_subJ (d_fn G__law_take R__law_take (hr.mono (by decide)) rfl pass0 (da_cons (d_var 0) (da_cons d_int da_nil))) d_int) (da_cons (d_op op_addJ d_int (d_fn G__law_take R__law_take (hr.mono (by decide)) rfl pass0 (da_cons (d_var 0) (da_cons d_int da_nil)))) da_nil))) da_nil))))
      (ss_cons (s_asg 11 sc__law_levels_right.nd (d_fn G_mixed R_mixed (hr.mono (by decide)) rfl pass0 (da_cons (d_tup (da_cons (d_var 1) (da_cons (d_var 9) da_nil))) (da_cons (d_var 10) da_nil))))
      (ss_cons (s_if (dt_w (dw_or (dt_not (dt_val (d_isi "tuple" (by decide +kernel) (by decide +kernel) rfl T.b_isinstance rfl T.b_tuple (d_var 11)))) (dw_or1 (dt_not (dt_val (d_fn G__law_same R__law_same (hr.mono (by decide)) rfl pass0 (da_cons (d_fn G_played R_played (hr.mono (by decide)) rfl pass0 (da_cons (d_var 11) (da_cons (d_var 2) (da_cons (d_var 3) (da_cons (d_var 4) da_nil))))) (da_cons (d_fn G_mixed R_mixed (hr.mono (by decide)) rfl pass0 (da_cons (d_tup (da_cons (d_var 5) (da_cons (d_fn G_played R_played (hr.mono (by decide)) rfl pass0 (da_cons (d_var 9) (da_cons (d_var 2) (da_cons (d_var 3) (da_cons (d_var 4) da_nil))))) da_nil))) (da_cons (d_var 10) da_nil))) da_nil)))))))) (ss_one (s_ret d_bl)) ss_nil)
      (ss_cons (s_asg 12 sc__law_levels_right.nd (d_op op_addJ d_int (d_fn G__law_take R__law_take (hr.mono (by decide)) rfl pass0 (da_cons (d_var 0) (da_cons d_int da_nil)))))
      (ss_cons (s_asg 13 sc__law_levels_right.nd (d_fn G_played R_played (hr.mono (by decide)) rfl pass0 (da_cons (d_var 1) (da_cons (d_var 2) (da_cons (d_var 3) (da_cons (d_op op_addJ (d_var 2) (d_op op_mulJ (d_var 12) (d_op op_subJ (d_var 3) (d_var 2)))) da_nil))))))
      (ss_cons (s_if (dt_w (dw_or (dt_not (dt_val (d_isi "tuple" (by decide +kernel) (by decide +kernel) rfl T.b_isinstance rfl T.b_tuple (d_var 13)))) (dw_or1 (dt_not (dt_val (d_fn G__law_same R__law_same (hr.mono (by decide)) rfl pass0 (da_cons (d_fn G_mean_square R_mean_square (hr.mono (by decide)) rfl pass0 (da_cons (d_sl (d_var 13) (dp_so (d_var 2)) dp_no) da_nil)) (da_cons (d_fn G_mean_square R_mean_square (hr.mono (by decide)) rfl pass0 (da_cons (d_sl (d_var 1) (dp_so (d_var 2)) (dp_so (d_var 3))) da_nil)) da_nil)))))))) (ss_one (s_ret d_bl)) ss_nil)
      (ss_cons (s_asg 14 sc__law_levels_right.nd (d_fn G__law_take R__law_take (hr.mono (by decide)) rfl pass0 (da_cons (d_var 0) (da_cons (d_op op_addJ (d_var 4) d_int) da_nil))))
      (ss_one (s_ret (d_and (d_fn G__law_same R__law_same (hr.mono (by decide)) rfl pass0 (da_cons (d_sl (d_fn G_faded R_faded (hr.mono (by decide)) rfl pass0 (da_cons (d_var 5) (da_cons (d_var 14) (da_cons (d_var 4) da_nil)))) dp_no (dp_so (d_var 14))) (da_cons (d_fn G_played R_played (hr.mono (by decide)) rfl pass0 (da_cons (d_var 1) (da_cons (d_var 2) (da_cons (d_var 3) (da_cons (d_var 14) da_nil))))) da_nil))) (d_one (d_fn G__law_quiet_right R__law_quiet_right (hr.mono (by decide)) rfl pass0 (da_cons (d_var 1) (da_cons (d_var 2) (da_cons (d_var 3) da_nil)))))))))))))))))))))))))
theorem G__law_levels_right {fa : Addr} {fd : FuncData} (F : Fun K "_law_levels_right" "_law_levels_right" s__law_levels_right fa fd) (T : Txt mg) {f__law_take : Addr} {fd__law_take : FuncData} (G__law_take : JFn P w K mg base 1 f__law_take fd__law_take ["draws", "many"] S__law_take) (R__law_take : Rf K mg "_law_take" ["draws", "many"] f__law_take fd__law_take) {f_played : Addr} {fd_played : FuncData} (G_played : JFn P w K mg base 2 f_played fd_played ["samples", "begin", "end", "many"] S_played) (R_played : Rf K mg "played" ["samples", "begin", "end", "many"] f_played fd_played) {f__law_same : Addr} {fd__law_same : FuncData} (G__law_same : JFn P w K mg base 9 f__law_same fd__law_same ["actual", "due"] S__law_same) (R__law_same : Rf K mg "_law_same" ["actual", "due"] f__law_same fd__law_same) {f__law_played : Addr} {fd__law_played : FuncData} (G__law_played : JFn P w K mg base 1 f__law_played fd__law_played ["samples", "begin", "end", "many"] S__law_played) (R__law_played : Rf K mg "_law_played" ["samples", "begin", "end", "many"] f__law_played fd__law_played) {f_cut_at : Addr} {fd_cut_at : FuncData} (G_cut_at : JFn P w K mg base 1 f_cut_at fd_cut_at ["samples", "top"] S_cut_at) (R_cut_at : Rf K mg "cut_at" ["samples", "top"] f_cut_at fd_cut_at) {f_loudest : Addr} {fd_loudest : FuncData} (G_loudest : JFn P w K mg base 1 f_loudest fd_loudest ["samples"] S_loudest) (R_loudest : Rf K mg "loudest" ["samples"] f_loudest fd_loudest) {f_raised_to : Addr} {fd_raised_to : FuncData} (G_raised_to : JFn P w K mg base 2 f_raised_to fd_raised_to ["samples", "top"] S_raised_to) (R_raised_to : Rf K mg "raised_to" ["samples", "top"] f_raised_to fd_raised_to) {f__law_ratio : Addr} {fd__law_ratio : FuncData} (G__law_ratio : JFn P w K mg base 2 f__law_ratio fd__law_ratio ["n", "d"] S__law_ratio) (R__law_ratio : Rf K mg "_law_ratio" ["n", "d"] f__law_ratio fd__law_ratio) {f_mixed : Addr} {fd_mixed : FuncData} (G_mixed : JFn P w K mg base 4 f_mixed fd_mixed ["rows", "parts"] S_mixed) (R_mixed : Rf K mg "mixed" ["rows", "parts"] f_mixed fd_mixed) {f_mean_square : Addr} {fd_mean_square : FuncData} (G_mean_square : JFn P w K mg base 3 f_mean_square fd_mean_square ["samples"] S_mean_square) (R_mean_square : Rf K mg "mean_square" ["samples"] f_mean_square fd_mean_square) {f_faded : Addr} {fd_faded : FuncData} (G_faded : JFn P w K mg base 2 f_faded fd_faded ["samples", "first", "last"] S_faded) (R_faded : Rf K mg "faded" ["samples", "first", "last"] f_faded fd_faded) {f__law_quiet_right : Addr} {fd__law_quiet_right : FuncData} (G__law_quiet_right : JFn P w K mg base 3 f__law_quiet_right fd__law_quiet_right ["samples", "begin", "end"] S__law_quiet_right) (R__law_quiet_right : Rf K mg "_law_quiet_right" ["samples", "begin", "end"] f__law_quiet_right fd__law_quiet_right) : JFn P w K mg base 10 fa fd ["draws", "samples", "begin", "end"] S__law_levels_right := fn_j F sc__law_levels_right (hb__law_levels_right T G__law_take R__law_take G_played R_played G__law_same R__law_same G__law_played R__law_played G_cut_at R_cut_at G_loudest R_loudest G_raised_to R_raised_to G__law_ratio R__law_ratio G_mixed R_mixed G_mean_square R_mean_square G_faded R_faded G__law_quiet_right R__law_quiet_right) fun ds QD _ h => wp__law_levels_right ds QD h
theorem hb__law_blended_right {fa : Addr} (T : Txt mg) {f__law_take : Addr} {fd__law_take : FuncData} (G__law_take : JFn P w K mg base 1 f__law_take fd__law_take ["draws", "many"] S__law_take) (R__law_take : Rf K mg "_law_take" ["draws", "many"] f__law_take fd__law_take) {f_mixed : Addr} {fd_mixed : FuncData} (G_mixed : JFn P w K mg base 4 f_mixed fd_mixed ["rows", "parts"] S_mixed) (R_mixed : Rf K mg "mixed" ["rows", "parts"] f_mixed fd_mixed) {f__law_ratio : Addr} {fd__law_ratio : FuncData} (G__law_ratio : JFn P w K mg base 2 f__law_ratio fd__law_ratio ["n", "d"] S__law_ratio) (R__law_ratio : Rf K mg "_law_ratio" ["n", "d"] f__law_ratio fd__law_ratio) {f_blended : Addr} {fd_blended : FuncData} (G_blended : JFn P w K mg base 2 f_blended fd_blended ["samples", "begin", "end", "wide"] S_blended) (R_blended : Rf K mg "blended" ["samples", "begin", "end", "wide"] f_blended fd_blended) {f__law_same : Addr} {fd__law_same : FuncData} (G__law_same : JFn P w K mg base 9 f__law_same fd__law_same ["actual", "due"] S__law_same) (R__law_same : Rf K mg "_law_same" ["actual", "due"] f__law_same fd__law_same) {f_faded : Addr} {fd_faded : FuncData} (G_faded : JFn P w K mg base 2 f_faded fd_faded ["samples", "first", "last"] S_faded) (R_faded : Rf K mg "faded" ["samples", "first", "last"] f_faded fd_faded) : ∀ (cdv : Value) (A : Around) (outer : List Env) (s : Shared) (H : Hp) (E : XK), Room 9 (A.deeper (envOfC "_law_blended_right" (defScope s__law_blended_right) s.heap.objs.size fa cdv)) → DSs (cxOf CX0 P w K mg base N__law_blended_right "_law_blended_right" (defScope s__law_blended_right) fa cdv A outer s H E).nox (defBody s__law_blended_right) m__law_blended_right :=
  fun cdv A outer s H E hr => (ss_cons (s_asg 4 sc__law_blended_right.nd (d_callB (call_min2J rfl) rfl T.b_min (by decide +kernel) (da_cons (d_var 2) (da_cons (d_op op_subJ (d_var 3) (d_var 2)) da_nil))))
      (ss_cons (s_if (dt_cmp (op_eqJ (hu64 hr)) (d_var 4) d_int (nomark _)) (ss_one (s_ret d_bl)) ss_nil)
      (ss_cons (s_asg 5 sc__law_blended_right.nd (d_op op_addJ d_int (d_fn G__law_take R__law_take (hr.mono (by decide)) rfl pass0 (da_cons (d_var 0) (da_cons (d_var 4) da_nil)))))
      (ss_cons (s_new 6 sc__law_blended_right.nd (n_list rfl T.b_list (d_var 1)))
      (ss_cons (s_forR PassesOwn.never rfl (dia_r1 rfl T.b_range (d_var 5)) (dg_name 7 sc__law_blended_right.nd) (ss_cons (s_asg 11 sc__law_blended_right.nd (d_ix (d_var 1) (d_op op_addJ (d_op op_subJ (d_var 3) (d_var 5)) (d_var 7))))
      (ss_cons (s_asg 12 sc__law_blended_right.nd (d_ix (d_var 1) (d_op op_addJ (d_op op_subJ (d_var 2) (d_var 5)) (d_var 7))))
      (ss_one (s_set 6 (d_op op_addJ (d_op op_subJ (d_var 3) (d_var 5)) (d_var 7)) (d_ix (d_fn G_mixed R_mixed (hr.mono (by decide)) rfl pass0 (da_cons (d_tup (da_cons (d_tup (da_cons (d_var 11) da_nil)) (da_cons (d_tup (da_cons (d_var 12) da_nil)) da_nil))) (da_cons (d_tup (da_cons (d_fn G__law_ratio R__law_ratio (hr.mono (by decide)) rfl pass0 (da_cons (d_op op_subJ (d_var 5) (d_var 7)) (da_cons (d_var 5) da_nil))) (da_cons (d_fn G__law_ratio R__law_ratio (hr.mono (by decide)) rfl pass0 (da_cons (d_var 7) (da_cons (d_var 5) da_nil))) da_nil))) da_nil))) d_int))))))
      (ss_cons (s_asg 8 sc__law_blended_right.nd (d_fn G_blended R_blended (hr.mono (by decide)) rfl pass0 (da_cons (d_var 1) (da_cons (d_var 2) (da_cons (d_var 3) (da_cons (d_var 5) da_nil))))))
      (ss_cons (s_if (dt_not (dt_val (d_fn G__law_same R__law_same (hr.mono (by decide)) rfl pass0 (da_cons (d_var 8) (da_cons (d_tuple rfl T.b_tuple (d_var 6)) da_nil))))) (ss_one (s_ret d_bl)) ss_nil)
      (ss_cons (s_asg 9 sc__law_blended_right.nd (d_fn G_faded R_faded (hr.mono (by decide)) rfl pass0 (da_cons (d_sl (d_var 1) (dp_so (d_op op_subJ (d_var 3) (d_var 5))) (dp_so (d_var 3))) (da_cons d_int (da_cons (d_var 5) da_nil)))))
      (ss_cons (s_asg 10 sc__law_blended_right.nd (d_fn G_faded R_faded (hr.mono (by decide)) rfl pass0 (da_cons (d_op op_addJ (d_revS (d_sl (d_var 1) (dp_so (d_op op_subJ (d_var 2) (d_var 5))) (dp_so (d_var 2)))) (d_tup (da_cons d_int da_nil))) (da_cons d_int (da_cons (d_op op_addJ (d_var 5) d_int) da_nil)))))
      (ss_one (s_ret (d_and (d_isi "tuple" (by decide +kernel) (by decide +kernel) rfl T.b_isinstance rfl T.b_tuple (d_var 9)) (d_and (d_isi "tuple" (by decide +kernel) (by decide +kernel) rfl T.b_isinstance rfl T.b_tuple (d_var 10)) (d_and (d_fn G__law_same R__law_same (hr.mono (by decide)) rfl pass0 (da_cons (d_ix (d_var 8) (d_op op_subJ (d_var 3) (d_var 5))) (da_cons (d_ix (d_var 9) d_int) da_nil))) (d_one (d_cmp (op_eqJ (hu64 hr)) (d_callB call_lenJ rfl T.b_len boot_len (da_cons (d_var 10) da_nil)) (d_op op_addJ (d_var 5) d_int) (nomark _)))))))))))))))))
theorem G__law_blended_right {fa : Addr} {fd : FuncData} (F : Fun K "_law_blended_right" "_law_blended_right" s__law_blended_right fa fd) (T : Txt mg) {f__law_take : Addr} {fd__law_take : FuncData} (G__law_take : JFn P w K mg base 1 f__law_take fd__law_take ["draws", "many"] S__law_take) (R__law_take : Rf K mg "_law_take" ["draws", "many"] f__law_take fd__law_take) {f_mixed : Addr} {fd_mixed : FuncData} (G_mixed : JFn P w K mg base 4 f_mixed fd_mixed ["rows", "parts"] S_mixed) (R_mixed : Rf K mg "mixed" ["rows", "parts"] f_mixed fd_mixed) {f__law_ratio : Addr} {fd__law_ratio : FuncData} (G__law_ratio : JFn P w K mg base 2 f__law_ratio fd__law_ratio ["n", "d"] S__law_ratio) (R__law_ratio : Rf K mg "_law_ratio" ["n", "d"] f__law_ratio fd__law_ratio) {f_blended : Addr} {fd_blended : FuncData} (G_blended : JFn P w K mg base 2 f_blended fd_blended ["samples", "begin", "end", "wide"] S_blended) (R_blended : Rf K mg "blended" ["samples", "begin", "end", "wide"] f_blended fd_blended) {f__law_same : Addr} {fd__law_same : FuncData} (G__law_same : JFn P w K mg base 9 f__law_same fd__law_same ["actual", "due"] S__law_same) (R__law_same : Rf K mg "_law_same" ["actual", "due"] f__law_same fd__law_same) {f_faded : Addr} {fd_faded : FuncData} (G_faded : JFn P w K mg base 2 f_faded fd_faded ["samples", "first", "last"] S_faded) (R_faded : Rf K mg "faded" ["samples", "first", "last"] f_faded fd_faded) : JFn P w K mg base 10 fa fd ["draws", "samples", "begin", "end"] S__law_blended_right := fn_j F sc__law_blended_right (hb__law_blended_right T G__law_take R__law_take G_mixed R_mixed G__law_ratio R__law_ratio G_blended R_blended G__law_same R__law_same G_faded R_faded) fun ds QD _ h => wp__law_blended_right ds QD h
theorem hb__law_loops_right {fa : Addr} (T : Txt mg) {f__law_take : Addr} {fd__law_take : FuncData} (G__law_take : JFn P w K mg base 1 f__law_take fd__law_take ["draws", "many"] S__law_take) (R__law_take : Rf K mg "_law_take" ["draws", "many"] f__law_take fd__law_take) {f__law_same : Addr} {fd__law_same : FuncData} (G__law_same : JFn P w K mg base 9 f__law_same fd__law_same ["actual", "due"] S__law_same) (R__law_same : Rf K mg "_law_same" ["actual", "due"] f__law_same fd__law_same) {f_jump_of : Addr} {fd_jump_of : FuncData} (G_jump_of : JFn P w K mg base 1 f_jump_of fd_jump_of ["samples", "begin", "end"] S_jump_of) (R_jump_of : Rf K mg "jump_of" ["samples", "begin", "end"] f_jump_of fd_jump_of) {f_best_loop : Addr} {fd_best_loop : FuncData} (G_best_loop : JFn P w K mg base 2 f_best_loop fd_best_loop ["samples", "least"] S_best_loop) (R_best_loop : Rf K mg "best_loop" ["samples", "least"] f_best_loop fd_best_loop) {f__law_played : Addr} {fd__law_played : FuncData} (G__law_played : JFn P w K mg base 1 f__law_played fd__law_played ["samples", "begin", "end", "many"] S__law_played) (R__law_played : Rf K mg "_law_played" ["samples", "begin", "end", "many"] f__law_played fd__law_played) {f_unchanged_from : Addr} {fd_unchanged_from : FuncData} (G_unchanged_from : JFn P w K mg base 2 f_unchanged_from fd_unchanged_from ["samples", "begin", "end", "other"] S_unchanged_from) (R_unchanged_from : Rf K mg "unchanged_from" ["samples", "begin", "end", "other"] f_unchanged_from fd_unchanged_from) : ∀ (cdv : Value) (A : Around) (outer : List Env) (s : Shared) (H : Hp) (E : XK), Room 9 (A.deeper (envOfC "_law_loops_right" (defScope s__law_loops_right) s.heap.objs.size fa cdv)) → DSs (cxOf CX0 P w K mg base N__law_loops_right "_law_loops_right" (defScope s__law_loops_right) fa cdv A outer s H E).nox (defBody s__law_loops_right) m__law_loops_right :=
  fun cdv A outer s H E hr => (ss_cons (s_asg 2 sc__law_loops_right.nd (d_op op_addJ d_int (d_fn G__law_take R__law_take (hr.mono (by decide)) rfl pass0 (da_cons (d_var 0) (da_cons d_int da_nil)))))
      (ss_cons (s_asg 3 sc__law_loops_right.nd d_non)
      (ss_cons (s_forR PassesOwn.never rfl (dia_r1 rfl T.b_range (d_callB call_lenJ rfl T.b_len boot_len (da_cons (d_var 1) da_nil))) (dg_name 4 sc__law_loops_right.nd) (ss_one (s_forR PassesOwn.never rfl (dia_r2 rfl T.b_range (d_op op_addJ (d_var 4) (d_var 2)) (d_op op_addJ (d_callB call_lenJ rfl T.b_len boot_len (da_cons (d_var 1) da_nil)) d_int)) (dg_name 12 sc__law_loops_right.nd) (ss_cons (s_asg 13 sc__law_loops_right.nd (d_callB (call_max2J rfl) rfl T.b_max (by decide +kernel) (da_cons (d_op op_subJ (d_ix (d_var 1) (d_op op_subJ (d_var 12) d_int)) (d_ix (d_var 1) (d_var 4))) (da_cons (d_op op_subJ (d_ix (d_var 1) (d_var 4)) (d_ix (d_var 1) (d_op op_subJ (d_var 12) d_int))) da_nil))))
      (ss_cons (s_if (dt_not (dt_val (d_fn G__law_same R__law_same (hr.mono (by decide)) rfl pass0 (da_cons (d_fn G_jump_of R_jump_of (hr.mono (by decide)) rfl pass0 (da_cons (d_var 1) (da_cons (d_var 4) (da_cons (d_var 12) da_nil)))) (da_cons (d_var 13) da_nil))))) (ss_one (s_ret d_bl)) ss_nil)
      (ss_one (s_if (dt_w (dw_or (dt_cmp op_isJ (d_var 3) d_non (nomark _)) (dw_or1 (dt_cmp (op_ltJ (hu65 hr)) (d_tup (da_cons (d_var 13) (da_cons (d_var 4) (da_cons (d_var 12) da_nil)))) (d_var 3) (nomark _))))) (ss_one (s_asg 3 sc__law_loops_right.nd (d_tup (da_cons (d_var 13) (da_cons (d_var 4) (da_cons (d_var 12) da_nil)))))) ss_nil)))))))
      (ss_cons (s_asg 5 sc__law_loops_right.nd d_non)
      (ss_cons (s_if (dt_cmp op_isNotJ (d_var 3) d_non (nomark _)) (ss_one (s_asg 5 sc__law_loops_right.nd (d_tup (da_cons (d_ix (d_var 3) d_int) (da_cons (d_ix (d_var 3) d_int) da_nil))))) ss_nil)
      (ss_cons (s_if (dt_not (dt_val (d_fn G__law_same R__law_same (hr.mono (by decide)) rfl pass0 (da_cons (d_fn G_best_loop R_best_loop (hr.mono (by decide)) rfl pass0 (da_cons (d_var 1) (da_cons (d_var 2) da_nil))) (da_cons (d_var 5) da_nil))))) (ss_one (s_ret d_bl)) ss_nil)
      (ss_cons (s_asg 4 sc__law_loops_right.nd (d_fn G__law_take R__law_take (hr.mono (by decide)) rfl pass0 (da_cons (d_var 0) (da_cons (d_callB call_lenJ rfl T.b_len boot_len (da_cons (d_var 1) da_nil)) da_nil))))
      (ss_cons (s_asg 6 sc__law_loops_right.nd (d_op op_addJ (d_op op_addJ (d_var 4) d_int) (d_fn G__law_take R__law_take (hr.mono (by decide)) rfl pass0 (da_cons (d_var 0) (da_cons (d_op op_subJ (d_callB call_lenJ rfl T.b_len boot_len (da_cons (d_var 1) da_nil)) (d_var 4)) da_nil)))))
      (ss_cons (s_asg 7 sc__law_loops_right.nd (d_op op_addJ (d_op op_addJ (d_var 4) d_int) (d_fn G__law_take R__law_take (hr.mono (by decide)) rfl pass0 (da_cons (d_var 0) (da_cons (d_op op_subJ (d_callB call_lenJ rfl T.b_len boot_len (da_cons (d_var 1) da_nil)) (d_var 4)) da_nil)))))
      (ss_cons (s_asg 8 sc__law_loops_right.nd (d_op op_addJ (d_callB (call_max2J rfl) rfl T.b_max (by decide +kernel) (da_cons (d_var 6) (da_cons (d_var 7) da_nil))) (d_op op_mulJ (d_op op_subJ (d_var 6) (d_var 4)) (d_op op_subJ (d_var 7) (d_var 4)))))
      (ss_cons (s_asg 9 sc__law_loops_right.nd (d_fn G__law_played R__law_played (hr.mono (by decide)) rfl pass0 (da_cons (d_var 1) (da_cons (d_var 4) (da_cons (d_var 6) (da_cons (d_var 8) da_nil))))))
      (ss_cons (s_asg 10 sc__law_loops_right.nd (d_fn G__law_played R__law_played (hr.mono (by decide)) rfl pass0 (da_cons (d_var 1) (da_cons (d_var 4) (da_cons (d_var 7) (da_cons (d_var 8) da_nil))))))
      (ss_cons (asgN_ok (ps_lc (i := 11) (own := [("k", 14)]) rfl sc__law_loops_right.nd rfl rfl (sw_true rfl rfl rfl (by decide +kernel)) (di_a (dia_r1 rfl T.b_range (d_var 8))) (blkOk_by (N := N__law_loops_right) (sc := defScope s__law_loops_right) (by decide +kernel)) (fun _ _ _ _ _ => (dg_name 14 sc__law_loops_right.nd)) (fun _ _ _ _ _ => (dts_one (dt_cmp (op_neJ (hu64 hr)) (d_ix (d_var 9) (d_var 14)) (d_ix (d_var 10) (d_var 14)) (nomark _)))) (fun _ _ _ _ _ => (d_var 14)) (by decide) (by intro _; rfl)))
      (ss_cons (s_asg 5 sc__law_loops_right.nd d_non)
      (ss_cons (s_if (dt_cmp (op_gtJ (hu65 hr)) (d_callB call_lenJ rfl T.b_len boot_len (da_cons (d_var 11) da_nil)) d_int (nomark _)) (ss_one (s_asg 5 sc__law_loops_right.nd (d_ix (d_var 11) d_int))) ss_nil)
      (ss_one (s_ret (d_fn G__law_same R__law_same (hr.mono (by decide)) rfl pass0 (da_cons (d_fn G_unchanged_from R_unchanged_from (hr.mono (by decide)) rfl pass0 (da_cons (d_var 1) (da_cons (d_var 4) (da_cons (d_var 6) (da_cons (d_var 7) da_nil))))) (da_cons (d_var 5) da_nil))))))))))))))))))))
theorem G__law_loops_right {fa : Addr} {fd : FuncData} (F : Fun K "_law_loops_right" "_law_loops_right" s__law_loops_right fa fd) (T : Txt mg) {f__law_take : Addr} {fd__law_take : FuncData} (G__law_take : JFn P w K mg base 1 f__law_take fd__law_take ["draws", "many"] S__law_take) (R__law_take : Rf K mg "_law_take" ["draws", "many"] f__law_take fd__law_take) {f__law_same : Addr} {fd__law_same : FuncData} (G__law_same : JFn P w K mg base 9 f__law_same fd__law_same ["actual", "due"] S__law_same) (R__law_same : Rf K mg "_law_same" ["actual", "due"] f__law_same fd__law_same) {f_jump_of : Addr} {fd_jump_of : FuncData} (G_jump_of : JFn P w K mg base 1 f_jump_of fd_jump_of ["samples", "begin", "end"] S_jump_of) (R_jump_of : Rf K mg "jump_of" ["samples", "begin", "end"] f_jump_of fd_jump_of) {f_best_loop : Addr} {fd_best_loop : FuncData} (G_best_loop : JFn P w K mg base 2 f_best_loop fd_best_loop ["samples", "least"] S_best_loop) (R_best_loop : Rf K mg "best_loop" ["samples", "least"] f_best_loop fd_best_loop) {f__law_played : Addr} {fd__law_played : FuncData} (G__law_played : JFn P w K mg base 1 f__law_played fd__law_played ["samples", "begin", "end", "many"] S__law_played) (R__law_played : Rf K mg "_law_played" ["samples", "begin", "end", "many"] f__law_played fd__law_played) {f_unchanged_from : Addr} {fd_unchanged_from : FuncData} (G_unchanged_from : JFn P w K mg base 2 f_unchanged_from fd_unchanged_from ["samples", "begin", "end", "other"] S_unchanged_from) (R_unchanged_from : Rf K mg "unchanged_from" ["samples", "begin", "end", "other"] f_unchanged_from fd_unchanged_from) : JFn P w K mg base 10 fa fd ["draws", "samples"] S__law_loops_right := fn_j F sc__law_loops_right (hb__law_loops_right T G__law_take R__law_take G__law_same R__law_same G_jump_of R_jump_of G_best_loop R_best_loop G__law_played R__law_played G_unchanged_from R_unchanged_from) fun ds QD _ h => wp__law_loops_right ds QD h
theorem hb_law {fa : Addr} (T : Txt mg) {f__law_draws : Addr} {fd__law_draws : FuncData} (G__law_draws : JFn P w K mg base 1 f__law_draws fd__law_draws ["script", "many"] S__law_draws) (R__law_draws : Rf K mg "_law_draws" ["script", "many"] f__law_draws fd__law_draws) {f__law_samples : Addr} {fd__law_samples : FuncData} (G__law_samples : JFn P w K mg base 2 f__law_samples fd__law_samples ["draws", "script", "many"] S__law_samples) (R__law_samples : Rf K mg "_law_samples" ["draws", "script", "many"] f__law_samples fd__law_samples) {f__law_take : Addr} {fd__law_take : FuncData} (G__law_take : JFn P w K mg base 1 f__law_take fd__law_take ["draws", "many"] S__law_take) (R__law_take : Rf K mg "_law_take" ["draws", "many"] f__law_take fd__law_take) {f__law_levels_right : Addr} {fd__law_levels_right : FuncData} (G__law_levels_right : JFn P w K mg base 10 f__law_levels_right fd__law_levels_right ["draws", "samples", "begin", "end"] S__law_levels_right) (R__law_levels_right : Rf K mg "_law_levels_right" ["draws", "samples", "begin", "end"] f__law_levels_right fd__law_levels_right) {f__law_blended_right : Addr} {fd__law_blended_right : FuncData} (G__law_blended_right : JFn P w K mg base 10 f__law_blended_right fd__law_blended_right ["draws", "samples", "begin", "end"] S__law_blended_right) (R__law_blended_right : Rf K mg "_law_blended_right" ["draws", "samples", "begin", "end"] f__law_blended_right fd__law_blended_right) {f__law_loops_right : Addr} {fd__law_loops_right : FuncData} (G__law_loops_right : JFn P w K mg base 10 f__law_loops_right fd__law_loops_right ["draws", "samples"] S__law_loops_right) (R__law_loops_right : Rf K mg "_law_loops_right" ["draws", "samples"] f__law_loops_right fd__law_loops_right) {f__law_cell : Addr} {fd__law_cell : FuncData} (G__law_cell : JFn P w K mg base 1 f__law_cell fd__law_cell ["script", "at"] S__law_cell) (R__law_cell : Rf K mg "_law_cell" ["script", "at"] f__law_cell fd__law_cell) {f__law_same : Addr} {fd__law_same : FuncData} (G__law_same : JFn P w K mg base 9 f__law_same fd__law_same ["actual", "due"] S__law_same) (R__law_same : Rf K mg "_law_same" ["actual", "due"] f__law_same fd__law_same) {f_sample_at : Addr} {fd_sample_at : FuncData} (G_sample_at : JFn P w K mg base 1 f_sample_at fd_sample_at ["samples", "begin", "end", "at"] S_sample_at) (R_sample_at : Rf K mg "sample_at" ["samples", "begin", "end", "at"] f_sample_at fd_sample_at) {f_played : Addr} {fd_played : FuncData} (G_played : JFn P w K mg base 2 f_played fd_played ["samples", "begin", "end", "many"] S_played) (R_played : Rf K mg "played" ["samples", "begin", "end", "many"] f_played fd_played) {f_blended : Addr} {fd_blended : FuncData} (G_blended : JFn P w K mg base 2 f_blended fd_blended ["samples", "begin", "end", "wide"] S_blended) (R_blended : Rf K mg "blended" ["samples", "begin", "end", "wide"] f_blended fd_blended) {f_quiet_spans : Addr} {fd_quiet_spans : FuncData} (G_quiet_spans : JFn P w K mg base 1 f_quiet_spans fd_quiet_spans ["samples", "bound", "least"] S_quiet_spans) (R_quiet_spans : Rf K mg "quiet_spans" ["samples", "bound", "least"] f_quiet_spans fd_quiet_spans) : ∀ (cdv : Value) (A : Around) (outer : List Env) (s : Shared) (H : Hp) (E : XK), Room 10 (A.deeper (envOfC "law" (defScope s_law) s.heap.objs.size fa cdv)) → DSs (cxOf CX0 P w K mg base N_law "law" (defScope s_law) fa cdv A outer s H E).nox (defBody s_law) m_law :=
  fun cdv A outer s H E hr => (ss_cons (s_asg 1 sc_law.nd (d_fn G__law_draws R__law_draws (hr.mono (by decide)) rfl pass0 (da_cons (d_var 0) (da_cons d_int da_nil))))
      (ss_cons (s_forR PassesOwn.never rfl (dia_r1 rfl T.b_range d_int) (dg_name 2 sc_law.nd) (ss_cons (s_asg 3 sc_law.nd (d_fn G__law_samples R__law_samples (hr.mono (by decide)) rfl pass0 (da_cons (d_var 1) (da_cons (d_var 0) (da_cons (d_op op_addJ d_int (d_fn G__law_take R__law_take (hr.mono (by decide)) rfl pass0 (da_cons (d_var 1) (da_cons (d_ix (d_of_n (n_lst (da_cons d_int (da_cons d_int (da_cons d_int da_nil))))) (d_var 2)) da_nil)))) da_nil)))))
      (ss_cons (s_asg 4 sc_law.nd (d_fn G__law_take R__law_take (hr.mono (by decide)) rfl pass0 (da_cons (d_var 1) (da_cons (d_callB call_lenJ rfl T.b_len boot_len (da_cons (d_var 3) da_nil)) da_nil))))
      (ss_cons (s_asg 5 sc_law.nd (d_op op_addJ (d_op op_addJ (d_var 4) d_int) (d_fn G__law_take R__law_take (hr.mono (by decide)) rfl pass0 (da_cons (d_var 1) (da_cons (d_op op_subJ (d_callB call_lenJ rfl T.b_len boot_len (da_cons (d_var 3) da_nil)) (d_var 4)) da_nil)))))
      (ss_cons (s_if (dt_w (dw_or (dt_not (dt_val (d_fn G__law_levels_right R__law_levels_right (hr.mono (by decide)) rfl pass0 (da_cons (d_var 1) (da_cons (d_var 3) (da_cons (d_var 4) (da_cons (d_var 5) da_nil))))))) (dw_or (dt_not (dt_val (d_fn G__law_blended_right R__law_blended_right (hr.mono (by decide)) rfl pass0 (da_cons (d_var 1) (da_cons (d_var 3) (da_cons (d_var 4) (da_cons (d_var 5) da_nil))))))) (dw_or1 (dt_not (dt_val (d_fn G__law_loops_right R__law_loops_right (hr.mono (by decide)) rfl pass0 (da_cons (d_var 1) (da_cons (d_var 3) da_nil))))))))) (ss_one (s_ret d_bl)) ss_nil)
      (ss_cons (s_asg 6 sc_law.nd (d_callB call_absJ rfl T.b_abs (by decide +kernel) (da_cons (d_fn G__law_cell R__law_cell (hr.mono (by decide)) rfl pass0 (da_cons (d_var 0) (da_cons (d_fn G__law_take R__law_take (hr.mono (by decide)) rfl pass0 (da_cons (d_var 1) (da_cons d_int da_nil))) da_nil))) da_nil)))
      (ss_cons (s_asg 7 sc_law.nd (d_ix (d_var 3) (d_callB (call_min2J rfl) rfl T.b_min (by decide +kernel) (da_cons (d_var 6) (da_cons (d_op op_subJ (d_var 5) d_int) da_nil)))))
      (ss_cons (s_if (dt_cmp (op_geJ (hu65 hr)) (d_var 6) (d_var 5) (nomark _)) (ss_one (s_asg 7 sc_law.nd (d_ix (d_var 3) (d_op op_addJ (d_var 4) (d_op op_modJ (d_callTy call_intJ rfl T.b_int boot_int (da_cons (d_op op_subJ (d_var 6) (d_var 4)) da_nil)) (d_op op_subJ (d_var 5) (d_var 4))))))) ss_nil)
      (ss_one (s_if (dt_not (dt_val (d_fn G__law_same R__law_same (hr.mono (by decide)) rfl pass0 (da_cons (d_fn G_sample_at R_sample_at (hr.mono (by decide)) rfl pass0 (da_cons (d_var 3) (da_cons (d_var 4) (da_cons (d_var 5) (da_cons (d_var 6) da_nil))))) (da_cons (d_var 7) da_nil))))) (ss_one (s_ret d_bl)) ss_nil))))))))))
      (ss_cons (s_if (dt_w (dw_or (dt_not (dt_val (d_fn G__law_same R__law_same (hr.mono (by decide)) rfl pass0 (da_cons (d_fn G_played R_played (hr.mono (by decide)) rfl pass0 (da_cons (d_tup (da_cons d_int (da_cons d_int (da_cons d_int (da_cons d_int da_nil))))) (da_cons d_int (da_cons d_int (da_cons d_int da_nil))))) (da_cons (d_tup (da_cons d_int (da_cons d_int (da_cons d_int (da_cons d_int (da_cons d_int (da_cons d_int (da_cons d_int da_nil)))))))) da_nil))))) (dw_or1 (dt_not (dt_val (d_fn G__law_same R__law_same (hr.mono (by decide)) rfl pass0 (da_cons (d_fn G_blended R_blended (hr.mono (by decide)) rfl pass0 (da_cons (d_tup (da_cons d_int (da_cons d_int (da_cons d_int (da_cons (d_un un_negJ d_int) da_nil))))) (da_cons d_int (da_cons d_int (da_cons d_int da_nil))))) (da_cons (d_tup (da_cons d_int (da_cons d_int (da_cons d_int (da_cons (d_un un_negJ d_int) da_nil))))) da_nil)))))))) (ss_one (s_ret d_bl)) ss_nil)
      (ss_one (s_ret (d_and (d_fn G__law_same R__law_same (hr.mono (by decide)) rfl pass0 (da_cons (d_fn G_blended R_blended (hr.mono (by decide)) rfl pass0 (da_cons (d_tup (da_cons d_int (da_cons d_int (da_cons d_int (da_cons d_int da_nil))))) (da_cons d_int (da_cons d_int (da_cons d_int da_nil))))) (da_cons (d_tup (da_cons d_int (da_cons d_int (da_cons d_int (da_cons d_int da_nil))))) da_nil))) (d_one (d_fn G__law_same R__law_same (hr.mono (by decide)) rfl pass0 (da_cons (d_fn G_quiet_spans R_quiet_spans (hr.mono (by decide)) rfl pass0 (da_cons (d_fn G_played R_played (hr.mono (by decide)) rfl pass0 (da_cons (d_tup (da_cons d_int (da_cons d_int (da_cons d_int da_nil)))) (da_cons d_int (da_cons d_int (da_cons d_int da_nil))))) (da_cons d_int (da_cons d_int da_nil)))) (da_cons (d_tup (da_cons (d_tup (da_cons d_int (da_cons d_int da_nil))) da_nil)) da_nil))))))))))
theorem G_law {fa : Addr} {fd : FuncData} (F : Fun K "law" "law" s_law fa fd) (T : Txt mg) {f__law_draws : Addr} {fd__law_draws : FuncData} (G__law_draws : JFn P w K mg base 1 f__law_draws fd__law_draws ["script", "many"] S__law_draws) (R__law_draws : Rf K mg "_law_draws" ["script", "many"] f__law_draws fd__law_draws) {f__law_samples : Addr} {fd__law_samples : FuncData} (G__law_samples : JFn P w K mg base 2 f__law_samples fd__law_samples ["draws", "script", "many"] S__law_samples) (R__law_samples : Rf K mg "_law_samples" ["draws", "script", "many"] f__law_samples fd__law_samples) {f__law_take : Addr} {fd__law_take : FuncData} (G__law_take : JFn P w K mg base 1 f__law_take fd__law_take ["draws", "many"] S__law_take) (R__law_take : Rf K mg "_law_take" ["draws", "many"] f__law_take fd__law_take) {f__law_levels_right : Addr} {fd__law_levels_right : FuncData} (G__law_levels_right : JFn P w K mg base 10 f__law_levels_right fd__law_levels_right ["draws", "samples", "begin", "end"] S__law_levels_right) (R__law_levels_right : Rf K mg "_law_levels_right" ["draws", "samples", "begin", "end"] f__law_levels_right fd__law_levels_right) {f__law_blended_right : Addr} {fd__law_blended_right : FuncData} (G__law_blended_right : JFn P w K mg base 10 f__law_blended_right fd__law_blended_right ["draws", "samples", "begin", "end"] S__law_blended_right) (R__law_blended_right : Rf K mg "_law_blended_right" ["draws", "samples", "begin", "end"] f__law_blended_right fd__law_blended_right) {f__law_loops_right : Addr} {fd__law_loops_right : FuncData} (G__law_loops_right : JFn P w K mg base 10 f__law_loops_right fd__law_loops_right ["draws", "samples"] S__law_loops_right) (R__law_loops_right : Rf K mg "_law_loops_right" ["draws", "samples"] f__law_loops_right fd__law_loops_right) {f__law_cell : Addr} {fd__law_cell : FuncData} (G__law_cell : JFn P w K mg base 1 f__law_cell fd__law_cell ["script", "at"] S__law_cell) (R__law_cell : Rf K mg "_law_cell" ["script", "at"] f__law_cell fd__law_cell) {f__law_same : Addr} {fd__law_same : FuncData} (G__law_same : JFn P w K mg base 9 f__law_same fd__law_same ["actual", "due"] S__law_same) (R__law_same : Rf K mg "_law_same" ["actual", "due"] f__law_same fd__law_same) {f_sample_at : Addr} {fd_sample_at : FuncData} (G_sample_at : JFn P w K mg base 1 f_sample_at fd_sample_at ["samples", "begin", "end", "at"] S_sample_at) (R_sample_at : Rf K mg "sample_at" ["samples", "begin", "end", "at"] f_sample_at fd_sample_at) {f_played : Addr} {fd_played : FuncData} (G_played : JFn P w K mg base 2 f_played fd_played ["samples", "begin", "end", "many"] S_played) (R_played : Rf K mg "played" ["samples", "begin", "end", "many"] f_played fd_played) {f_blended : Addr} {fd_blended : FuncData} (G_blended : JFn P w K mg base 2 f_blended fd_blended ["samples", "begin", "end", "wide"] S_blended) (R_blended : Rf K mg "blended" ["samples", "begin", "end", "wide"] f_blended fd_blended) {f_quiet_spans : Addr} {fd_quiet_spans : FuncData} (G_quiet_spans : JFn P w K mg base 1 f_quiet_spans fd_quiet_spans ["samples", "bound", "least"] S_quiet_spans) (R_quiet_spans : Rf K mg "quiet_spans" ["samples", "bound", "least"] f_quiet_spans fd_quiet_spans) : JFn P w K mg base 11 fa fd ["script"] S_law := fn_j F sc_law (hb_law T G__law_draws R__law_draws G__law_samples R__law_samples G__law_take R__law_take G__law_levels_right R__law_levels_right G__law_blended_right R__law_blended_right G__law_loops_right R__law_loops_right G__law_cell R__law_cell G__law_same R__law_same G_sample_at R_sample_at G_played R_played G_blended R_blended G_quiet_spans R_quiet_spans) fun ds QD _ h => wp_law ds QD h
theorem all_mk {l : PySem.W.OpenLaw} {h : Heap} {fa : Addr} (X : K.In h) (G : h.Ns mainGlobals mg) (hfa : mg "law" = some (.ref fa))
  {f_common_divisor : Addr} {od_common_divisor an_common_divisor : Option Addr} {sl_common_divisor : Array (Option Value)} {oc_common_divisor kV_common_divisor dc_common_divisor pm_common_divisor cd_common_divisor ct_common_divisor : Value}
  {f_fraction : Addr} {od_fraction an_fraction : Option Addr} {sl_fraction : Array (Option Value)} {oc_fraction kV_fraction dc_fraction pm_fraction cd_fraction ct_fraction : Value}
  {f_plus_of : Addr} {od_plus_of an_plus_of : Option Addr} {sl_plus_of : Array (Option Value)} {oc_plus_of kV_plus_of dc_plus_of pm_plus_of cd_plus_of ct_plus_of : Value}
  {f_times_of : Addr} {od_times_of an_times_of : Option Addr} {sl_times_of : Array (Option Value)} {oc_times_of kV_times_of dc_times_of pm_times_of cd_times_of ct_times_of : Value}
  {f_toward_zero_levels : Addr} {od_toward_zero_levels an_toward_zero_levels : Option Addr} {sl_toward_zero_levels : Array (Option Value)} {oc_toward_zero_levels kV_toward_zero_levels dc_toward_zero_levels pm_toward_zero_levels cd_toward_zero_levels ct_toward_zero_levels : Value}
  {f_loudest : Addr} {od_loudest an_loudest : Option Addr} {sl_loudest : Array (Option Value)} {oc_loudest kV_loudest dc_loudest pm_loudest cd_loudest ct_loudest : Value}
  {f_mean_square : Addr} {od_mean_square an_mean_square : Option Addr} {sl_mean_square : Array (Option Value)} {oc_mean_square kV_mean_square dc_mean_square pm_mean_square cd_mean_square ct_mean_square : Value}
  {f_raised_to : Addr} {od_raised_to an_raised_to : Option Addr} {sl_raised_to : Array (Option Value)} {oc_raised_to kV_raised_to dc_raised_to pm_raised_to cd_raised_to ct_raised_to : Value}
  {f_cut_at : Addr} {od_cut_at an_cut_at : Option Addr} {sl_cut_at : Array (Option Value)} {oc_cut_at kV_cut_at dc_cut_at pm_cut_at cd_cut_at ct_cut_at : Value}
  {f_quiet_spans : Addr} {od_quiet_spans an_quiet_spans : Option Addr} {sl_quiet_spans : Array (Option Value)} {oc_quiet_spans kV_quiet_spans dc_quiet_spans pm_quiet_spans cd_quiet_spans ct_quiet_spans : Value}
  {f_mixed : Addr} {od_mixed an_mixed : Option Addr} {sl_mixed : Array (Option Value)} {oc_mixed kV_mixed dc_mixed pm_mixed cd_mixed ct_mixed : Value}
  {f_faded : Addr} {od_faded an_faded : Option Addr} {sl_faded : Array (Option Value)} {oc_faded kV_faded dc_faded pm_faded cd_faded ct_faded : Value}
  {f_sample_at : Addr} {od_sample_at an_sample_at : Option Addr} {sl_sample_at : Array (Option Value)} {oc_sample_at kV_sample_at dc_sample_at pm_sample_at cd_sample_at ct_sample_at : Value}
  {f_played : Addr} {od_played an_played : Option Addr} {sl_played : Array (Option Value)} {oc_played kV_played dc_played pm_played cd_played ct_played : Value}
  {f_jump_of : Addr} {od_jump_of an_jump_of : Option Addr} {sl_jump_of : Array (Option Value)} {oc_jump_of kV_jump_of dc_jump_of pm_jump_of cd_jump_of ct_jump_of : Value}
  {f_best_loop : Addr} {od_best_loop an_best_loop : Option Addr} {sl_best_loop : Array (Option Value)} {oc_best_loop kV_best_loop dc_best_loop pm_best_loop cd_best_loop ct_best_loop : Value}
  {f_toward_zero_loops : Addr} {od_toward_zero_loops an_toward_zero_loops : Option Addr} {sl_toward_zero_loops : Array (Option Value)} {oc_toward_zero_loops kV_toward_zero_loops dc_toward_zero_loops pm_toward_zero_loops cd_toward_zero_loops ct_toward_zero_loops : Value}
  {f_blended : Addr} {od_blended an_blended : Option Addr} {sl_blended : Array (Option Value)} {oc_blended kV_blended dc_blended pm_blended cd_blended ct_blended : Value}
  {f_unchanged_from : Addr} {od_unchanged_from an_unchanged_from : Option Addr} {sl_unchanged_from : Array (Option Value)} {oc_unchanged_from kV_unchanged_from dc_unchanged_from pm_unchanged_from cd_unchanged_from ct_unchanged_from : Value}
  {f__law_draws : Addr} {od__law_draws an__law_draws : Option Addr} {sl__law_draws : Array (Option Value)} {oc__law_draws kV__law_draws dc__law_draws pm__law_draws cd__law_draws ct__law_draws : Value}
  {f__law_take : Addr} {od__law_take an__law_take : Option Addr} {sl__law_take : Array (Option Value)} {oc__law_take kV__law_take dc__law_take pm__law_take cd__law_take ct__law_take : Value}
  {f__law_cell : Addr} {od__law_cell an__law_cell : Option Addr} {sl__law_cell : Array (Option Value)} {oc__law_cell kV__law_cell dc__law_cell pm__law_cell cd__law_cell ct__law_cell : Value}
  {f__law_same : Addr} {od__law_same an__law_same : Option Addr} {sl__law_same : Array (Option Value)} {oc__law_same kV__law_same dc__law_same pm__law_same cd__law_same ct__law_same : Value}
  {f__law_divisor : Addr} {od__law_divisor an__law_divisor : Option Addr} {sl__law_divisor : Array (Option Value)} {oc__law_divisor kV__law_divisor dc__law_divisor pm__law_divisor cd__law_divisor ct__law_divisor : Value}
  {f__law_ratio : Addr} {od__law_ratio an__law_ratio : Option Addr} {sl__law_ratio : Array (Option Value)} {oc__law_ratio kV__law_ratio dc__law_ratio pm__law_ratio cd__law_ratio ct__law_ratio : Value}
  {f__law_samples : Addr} {od__law_samples an__law_samples : Option Addr} {sl__law_samples : Array (Option Value)} {oc__law_samples kV__law_samples dc__law_samples pm__law_samples cd__law_samples ct__law_samples : Value}
  {f__law_played : Addr} {od__law_played an__law_played : Option Addr} {sl__law_played : Array (Option Value)} {oc__law_played kV__law_played dc__law_played pm__law_played cd__law_played ct__law_played : Value}
  {f__law_quiet_right : Addr} {od__law_quiet_right an__law_quiet_right : Option Addr} {sl__law_quiet_right : Array (Option Value)} {oc__law_quiet_right kV__law_quiet_right dc__law_quiet_right pm__law_quiet_right cd__law_quiet_right ct__law_quiet_right : Value}
  {f__law_levels_right : Addr} {od__law_levels_right an__law_levels_right : Option Addr} {sl__law_levels_right : Array (Option Value)} {oc__law_levels_right kV__law_levels_right dc__law_levels_right pm__law_levels_right cd__law_levels_right ct__law_levels_right : Value}
  {f__law_blended_right : Addr} {od__law_blended_right an__law_blended_right : Option Addr} {sl__law_blended_right : Array (Option Value)} {oc__law_blended_right kV__law_blended_right dc__law_blended_right pm__law_blended_right cd__law_blended_right ct__law_blended_right : Value}
  {f__law_loops_right : Addr} {od__law_loops_right an__law_loops_right : Option Addr} {sl__law_loops_right : Array (Option Value)} {oc__law_loops_right kV__law_loops_right dc__law_loops_right pm__law_loops_right cd__law_loops_right ct__law_loops_right : Value}
  {f_law : Addr} {od_law an_law : Option Addr} {sl_law : Array (Option Value)} {oc_law kV_law dc_law pm_law cd_law ct_law : Value}
  (a_common_divisor : PySem.W.nsIn K mainGlobals "common_divisor" = some (some (.ref f_common_divisor))) (l_common_divisor : K.lookup f_common_divisor = some ⟨oc_common_divisor, od_common_divisor, .func (PySem.W.fnOf "common_divisor" "common_divisor" (defArgs s_common_divisor) (defBody s_common_divisor) (defScope s_common_divisor) .none kV_common_divisor dc_common_divisor pm_common_divisor an_common_divisor cd_common_divisor ct_common_divisor), sl_common_divisor⟩) (c_common_divisor : PySem.W.codeIn K cd_common_divisor "common_divisor" = true) (k_common_divisor : PySem.W.keepIn K (.ref f_common_divisor) = true)
  (a_fraction : PySem.W.nsIn K mainGlobals "fraction" = some (some (.ref f_fraction))) (l_fraction : K.lookup f_fraction = some ⟨oc_fraction, od_fraction, .func (PySem.W.fnOf "fraction" "fraction" (defArgs s_fraction) (defBody s_fraction) (defScope s_fraction) .none kV_fraction dc_fraction pm_fraction an_fraction cd_fraction ct_fraction), sl_fraction⟩) (c_fraction : PySem.W.codeIn K cd_fraction "fraction" = true) (k_fraction : PySem.W.keepIn K (.ref f_fraction) = true)
  (a_plus_of : PySem.W.nsIn K mainGlobals "plus_of" = some (some (.ref f_plus_of))) (l_plus_of : K.lookup f_plus_of = some ⟨oc_plus_of, od_plus_of, .func (PySem.W.fnOf "plus_of" "plus_of" (defArgs s_plus_of) (defBody s_plus_of) (defScope s_plus_of) .none kV_plus_of dc_plus_of pm_plus_of an_plus_of cd_plus_of ct_plus_of), sl_plus_of⟩) (c_plus_of : PySem.W.codeIn K cd_plus_of "plus_of" = true) (k_plus_of : PySem.W.keepIn K (.ref f_plus_of) = true)
  (a_times_of : PySem.W.nsIn K mainGlobals "times_of" = some (some (.ref f_times_of))) (l_times_of : K.lookup f_times_of = some ⟨oc_times_of, od_times_of, .func (PySem.W.fnOf "times_of" "times_of" (defArgs s_times_of) (defBody s_times_of) (defScope s_times_of) .none kV_times_of dc_times_of pm_times_of an_times_of cd_times_of ct_times_of), sl_times_of⟩) (c_times_of : PySem.W.codeIn K cd_times_of "times_of" = true) (k_times_of : PySem.W.keepIn K (.ref f_times_of) = true)
  (a_toward_zero_levels : PySem.W.nsIn K mainGlobals "toward_zero_levels" = some (some (.ref f_toward_zero_levels))) (l_toward_zero_levels : K.lookup f_toward_zero_levels = some ⟨oc_toward_zero_levels, od_toward_zero_levels, .func (PySem.W.fnOf "toward_zero" "toward_zero" (defArgs s_toward_zero_levels) (defBody s_toward_zero_levels) (defScope s_toward_zero_levels) .none kV_toward_zero_levels dc_toward_zero_levels pm_toward_zero_levels an_toward_zero_levels cd_toward_zero_levels ct_toward_zero_levels), sl_toward_zero_levels⟩) (c_toward_zero_levels : PySem.W.codeIn K cd_toward_zero_levels "toward_zero" = true) (k_toward_zero_levels : PySem.W.keepIn K (.ref f_toward_zero_levels) = true)
  (a_loudest : PySem.W.nsIn K mainGlobals "loudest" = some (some (.ref f_loudest))) (l_loudest : K.lookup f_loudest = some ⟨oc_loudest, od_loudest, .func (PySem.W.fnOf "loudest" "loudest" (defArgs s_loudest) (defBody s_loudest) (defScope s_loudest) .none kV_loudest dc_loudest pm_loudest an_loudest cd_loudest ct_loudest), sl_loudest⟩) (c_loudest : PySem.W.codeIn K cd_loudest "loudest" = true) (k_loudest : PySem.W.keepIn K (.ref f_loudest) = true)
  (a_mean_square : PySem.W.nsIn K mainGlobals "mean_square" = some (some (.ref f_mean_square))) (l_mean_square : K.lookup f_mean_square = some ⟨oc_mean_square, od_mean_square, .func (PySem.W.fnOf "mean_square" "mean_square" (defArgs s_mean_square) (defBody s_mean_square) (defScope s_mean_square) .none kV_mean_square dc_mean_square pm_mean_square an_mean_square cd_mean_square ct_mean_square), sl_mean_square⟩) (c_mean_square : PySem.W.codeIn K cd_mean_square "mean_square" = true) (k_mean_square : PySem.W.keepIn K (.ref f_mean_square) = true)
  (a_raised_to : PySem.W.nsIn K mainGlobals "raised_to" = some (some (.ref f_raised_to))) (l_raised_to : K.lookup f_raised_to = some ⟨oc_raised_to, od_raised_to, .func (PySem.W.fnOf "raised_to" "raised_to" (defArgs s_raised_to) (defBody s_raised_to) (defScope s_raised_to) .none kV_raised_to dc_raised_to pm_raised_to an_raised_to cd_raised_to ct_raised_to), sl_raised_to⟩) (c_raised_to : PySem.W.codeIn K cd_raised_to "raised_to" = true) (k_raised_to : PySem.W.keepIn K (.ref f_raised_to) = true)
  (a_cut_at : PySem.W.nsIn K mainGlobals "cut_at" = some (some (.ref f_cut_at))) (l_cut_at : K.lookup f_cut_at = some ⟨oc_cut_at, od_cut_at, .func (PySem.W.fnOf "cut_at" "cut_at" (defArgs s_cut_at) (defBody s_cut_at) (defScope s_cut_at) .none kV_cut_at dc_cut_at pm_cut_at an_cut_at cd_cut_at ct_cut_at), sl_cut_at⟩) (c_cut_at : PySem.W.codeIn K cd_cut_at "cut_at" = true) (k_cut_at : PySem.W.keepIn K (.ref f_cut_at) = true)
  (a_quiet_spans : PySem.W.nsIn K mainGlobals "quiet_spans" = some (some (.ref f_quiet_spans))) (l_quiet_spans : K.lookup f_quiet_spans = some ⟨oc_quiet_spans, od_quiet_spans, .func (PySem.W.fnOf "quiet_spans" "quiet_spans" (defArgs s_quiet_spans) (defBody s_quiet_spans) (defScope s_quiet_spans) .none kV_quiet_spans dc_quiet_spans pm_quiet_spans an_quiet_spans cd_quiet_spans ct_quiet_spans), sl_quiet_spans⟩) (c_quiet_spans : PySem.W.codeIn K cd_quiet_spans "quiet_spans" = true) (k_quiet_spans : PySem.W.keepIn K (.ref f_quiet_spans) = true)
  (a_mixed : PySem.W.nsIn K mainGlobals "mixed" = some (some (.ref f_mixed))) (l_mixed : K.lookup f_mixed = some ⟨oc_mixed, od_mixed, .func (PySem.W.fnOf "mixed" "mixed" (defArgs s_mixed) (defBody s_mixed) (defScope s_mixed) .none kV_mixed dc_mixed pm_mixed an_mixed cd_mixed ct_mixed), sl_mixed⟩) (c_mixed : PySem.W.codeIn K cd_mixed "mixed" = true) (k_mixed : PySem.W.keepIn K (.ref f_mixed) = true)
  (a_faded : PySem.W.nsIn K mainGlobals "faded" = some (some (.ref f_faded))) (l_faded : K.lookup f_faded = some ⟨oc_faded, od_faded, .func (PySem.W.fnOf "faded" "faded" (defArgs s_faded) (defBody s_faded) (defScope s_faded) .none kV_faded dc_faded pm_faded an_faded cd_faded ct_faded), sl_faded⟩) (c_faded : PySem.W.codeIn K cd_faded "faded" = true) (k_faded : PySem.W.keepIn K (.ref f_faded) = true)
  (a_sample_at : PySem.W.nsIn K mainGlobals "sample_at" = some (some (.ref f_sample_at))) (l_sample_at : K.lookup f_sample_at = some ⟨oc_sample_at, od_sample_at, .func (PySem.W.fnOf "sample_at" "sample_at" (defArgs s_sample_at) (defBody s_sample_at) (defScope s_sample_at) .none kV_sample_at dc_sample_at pm_sample_at an_sample_at cd_sample_at ct_sample_at), sl_sample_at⟩) (c_sample_at : PySem.W.codeIn K cd_sample_at "sample_at" = true) (k_sample_at : PySem.W.keepIn K (.ref f_sample_at) = true)
  (a_played : PySem.W.nsIn K mainGlobals "played" = some (some (.ref f_played))) (l_played : K.lookup f_played = some ⟨oc_played, od_played, .func (PySem.W.fnOf "played" "played" (defArgs s_played) (defBody s_played) (defScope s_played) .none kV_played dc_played pm_played an_played cd_played ct_played), sl_played⟩) (c_played : PySem.W.codeIn K cd_played "played" = true) (k_played : PySem.W.keepIn K (.ref f_played) = true)
  (a_jump_of : PySem.W.nsIn K mainGlobals "jump_of" = some (some (.ref f_jump_of))) (l_jump_of : K.lookup f_jump_of = some ⟨oc_jump_of, od_jump_of, .func (PySem.W.fnOf "jump_of" "jump_of" (defArgs s_jump_of) (defBody s_jump_of) (defScope s_jump_of) .none kV_jump_of dc_jump_of pm_jump_of an_jump_of cd_jump_of ct_jump_of), sl_jump_of⟩) (c_jump_of : PySem.W.codeIn K cd_jump_of "jump_of" = true) (k_jump_of : PySem.W.keepIn K (.ref f_jump_of) = true)
  (a_best_loop : PySem.W.nsIn K mainGlobals "best_loop" = some (some (.ref f_best_loop))) (l_best_loop : K.lookup f_best_loop = some ⟨oc_best_loop, od_best_loop, .func (PySem.W.fnOf "best_loop" "best_loop" (defArgs s_best_loop) (defBody s_best_loop) (defScope s_best_loop) .none kV_best_loop dc_best_loop pm_best_loop an_best_loop cd_best_loop ct_best_loop), sl_best_loop⟩) (c_best_loop : PySem.W.codeIn K cd_best_loop "best_loop" = true) (k_best_loop : PySem.W.keepIn K (.ref f_best_loop) = true)
  (a_toward_zero_loops : PySem.W.nsIn K mainGlobals "toward_zero_loops" = some (some (.ref f_toward_zero_loops))) (l_toward_zero_loops : K.lookup f_toward_zero_loops = some ⟨oc_toward_zero_loops, od_toward_zero_loops, .func (PySem.W.fnOf "toward_zero" "toward_zero" (defArgs s_toward_zero_loops) (defBody s_toward_zero_loops) (defScope s_toward_zero_loops) .none kV_toward_zero_loops dc_toward_zero_loops pm_toward_zero_loops an_toward_zero_loops cd_toward_zero_loops ct_toward_zero_loops), sl_toward_zero_loops⟩) (c_toward_zero_loops : PySem.W.codeIn K cd_toward_zero_loops "toward_zero" = true) (k_toward_zero_loops : PySem.W.keepIn K (.ref f_toward_zero_loops) = true)
  (a_blended : PySem.W.nsIn K mainGlobals "blended" = some (some (.ref f_blended))) (l_blended : K.lookup f_blended = some ⟨oc_blended, od_blended, .func (PySem.W.fnOf "blended" "blended" (defArgs s_blended) (defBody s_blended) (defScope s_blended) .none kV_blended dc_blended pm_blended an_blended cd_blended ct_blended), sl_blended⟩) (c_blended : PySem.W.codeIn K cd_blended "blended" = true) (k_blended : PySem.W.keepIn K (.ref f_blended) = true)
  (a_unchanged_from : PySem.W.nsIn K mainGlobals "unchanged_from" = some (some (.ref f_unchanged_from))) (l_unchanged_from : K.lookup f_unchanged_from = some ⟨oc_unchanged_from, od_unchanged_from, .func (PySem.W.fnOf "unchanged_from" "unchanged_from" (defArgs s_unchanged_from) (defBody s_unchanged_from) (defScope s_unchanged_from) .none kV_unchanged_from dc_unchanged_from pm_unchanged_from an_unchanged_from cd_unchanged_from ct_unchanged_from), sl_unchanged_from⟩) (c_unchanged_from : PySem.W.codeIn K cd_unchanged_from "unchanged_from" = true) (k_unchanged_from : PySem.W.keepIn K (.ref f_unchanged_from) = true)
  (a__law_draws : PySem.W.nsIn K mainGlobals "_law_draws" = some (some (.ref f__law_draws))) (l__law_draws : K.lookup f__law_draws = some ⟨oc__law_draws, od__law_draws, .func (PySem.W.fnOf "_law_draws" "_law_draws" (defArgs s__law_draws) (defBody s__law_draws) (defScope s__law_draws) .none kV__law_draws dc__law_draws pm__law_draws an__law_draws cd__law_draws ct__law_draws), sl__law_draws⟩) (c__law_draws : PySem.W.codeIn K cd__law_draws "_law_draws" = true) (k__law_draws : PySem.W.keepIn K (.ref f__law_draws) = true)
  (a__law_take : PySem.W.nsIn K mainGlobals "_law_take" = some (some (.ref f__law_take))) (l__law_take : K.lookup f__law_take = some ⟨oc__law_take, od__law_take, .func (PySem.W.fnOf "_law_take" "_law_take" (defArgs s__law_take) (defBody s__law_take) (defScope s__law_take) .none kV__law_take dc__law_take pm__law_take an__law_take cd__law_take ct__law_take), sl__law_take⟩) (c__law_take : PySem.W.codeIn K cd__law_take "_law_take" = true) (k__law_take : PySem.W.keepIn K (.ref f__law_take) = true)
  (a__law_cell : PySem.W.nsIn K mainGlobals "_law_cell" = some (some (.ref f__law_cell))) (l__law_cell : K.lookup f__law_cell = some ⟨oc__law_cell, od__law_cell, .func (PySem.W.fnOf "_law_cell" "_law_cell" (defArgs s__law_cell) (defBody s__law_cell) (defScope s__law_cell) .none kV__law_cell dc__law_cell pm__law_cell an__law_cell cd__law_cell ct__law_cell), sl__law_cell⟩) (c__law_cell : PySem.W.codeIn K cd__law_cell "_law_cell" = true) (k__law_cell : PySem.W.keepIn K (.ref f__law_cell) = true)
  (a__law_same : PySem.W.nsIn K mainGlobals "_law_same" = some (some (.ref f__law_same))) (l__law_same : K.lookup f__law_same = some ⟨oc__law_same, od__law_same, .func (PySem.W.fnOf "_law_same" "_law_same" (defArgs s__law_same) (defBody s__law_same) (defScope s__law_same) .none kV__law_same dc__law_same pm__law_same an__law_same cd__law_same ct__law_same), sl__law_same⟩) (c__law_same : PySem.W.codeIn K cd__law_same "_law_same" = true) (k__law_same : PySem.W.keepIn K (.ref f__law_same) = true)
  (a__law_divisor : PySem.W.nsIn K mainGlobals "_law_divisor" = some (some (.ref f__law_divisor))) (l__law_divisor : K.lookup f__law_divisor = some ⟨oc__law_divisor, od__law_divisor, .func (PySem.W.fnOf "_law_divisor" "_law_divisor" (defArgs s__law_divisor) (defBody s__law_divisor) (defScope s__law_divisor) .none kV__law_divisor dc__law_divisor pm__law_divisor an__law_divisor cd__law_divisor ct__law_divisor), sl__law_divisor⟩) (c__law_divisor : PySem.W.codeIn K cd__law_divisor "_law_divisor" = true) (k__law_divisor : PySem.W.keepIn K (.ref f__law_divisor) = true)
  (a__law_ratio : PySem.W.nsIn K mainGlobals "_law_ratio" = some (some (.ref f__law_ratio))) (l__law_ratio : K.lookup f__law_ratio = some ⟨oc__law_ratio, od__law_ratio, .func (PySem.W.fnOf "_law_ratio" "_law_ratio" (defArgs s__law_ratio) (defBody s__law_ratio) (defScope s__law_ratio) .none kV__law_ratio dc__law_ratio pm__law_ratio an__law_ratio cd__law_ratio ct__law_ratio), sl__law_ratio⟩) (c__law_ratio : PySem.W.codeIn K cd__law_ratio "_law_ratio" = true) (k__law_ratio : PySem.W.keepIn K (.ref f__law_ratio) = true)
  (a__law_samples : PySem.W.nsIn K mainGlobals "_law_samples" = some (some (.ref f__law_samples))) (l__law_samples : K.lookup f__law_samples = some ⟨oc__law_samples, od__law_samples, .func (PySem.W.fnOf "_law_samples" "_law_samples" (defArgs s__law_samples) (defBody s__law_samples) (defScope s__law_samples) .none kV__law_samples dc__law_samples pm__law_samples an__law_samples cd__law_samples ct__law_samples), sl__law_samples⟩) (c__law_samples : PySem.W.codeIn K cd__law_samples "_law_samples" = true) (k__law_samples : PySem.W.keepIn K (.ref f__law_samples) = true)
  (a__law_played : PySem.W.nsIn K mainGlobals "_law_played" = some (some (.ref f__law_played))) (l__law_played : K.lookup f__law_played = some ⟨oc__law_played, od__law_played, .func (PySem.W.fnOf "_law_played" "_law_played" (defArgs s__law_played) (defBody s__law_played) (defScope s__law_played) .none kV__law_played dc__law_played pm__law_played an__law_played cd__law_played ct__law_played), sl__law_played⟩) (c__law_played : PySem.W.codeIn K cd__law_played "_law_played" = true) (k__law_played : PySem.W.keepIn K (.ref f__law_played) = true)
  (a__law_quiet_right : PySem.W.nsIn K mainGlobals "_law_quiet_right" = some (some (.ref f__law_quiet_right))) (l__law_quiet_right : K.lookup f__law_quiet_right = some ⟨oc__law_quiet_right, od__law_quiet_right, .func (PySem.W.fnOf "_law_quiet_right" "_law_quiet_right" (defArgs s__law_quiet_right) (defBody s__law_quiet_right) (defScope s__law_quiet_right) .none kV__law_quiet_right dc__law_quiet_right pm__law_quiet_right an__law_quiet_right cd__law_quiet_right ct__law_quiet_right), sl__law_quiet_right⟩) (c__law_quiet_right : PySem.W.codeIn K cd__law_quiet_right "_law_quiet_right" = true) (k__law_quiet_right : PySem.W.keepIn K (.ref f__law_quiet_right) = true)
  (a__law_levels_right : PySem.W.nsIn K mainGlobals "_law_levels_right" = some (some (.ref f__law_levels_right))) (l__law_levels_right : K.lookup f__law_levels_right = some ⟨oc__law_levels_right, od__law_levels_right, .func (PySem.W.fnOf "_law_levels_right" "_law_levels_right" (defArgs s__law_levels_right) (defBody s__law_levels_right) (defScope s__law_levels_right) .none kV__law_levels_right dc__law_levels_right pm__law_levels_right an__law_levels_right cd__law_levels_right ct__law_levels_right), sl__law_levels_right⟩) (c__law_levels_right : PySem.W.codeIn K cd__law_levels_right "_law_levels_right" = true) (k__law_levels_right : PySem.W.keepIn K (.ref f__law_levels_right) = true)
  (a__law_blended_right : PySem.W.nsIn K mainGlobals "_law_blended_right" = some (some (.ref f__law_blended_right))) (l__law_blended_right : K.lookup f__law_blended_right = some ⟨oc__law_blended_right, od__law_blended_right, .func (PySem.W.fnOf "_law_blended_right" "_law_blended_right" (defArgs s__law_blended_right) (defBody s__law_blended_right) (defScope s__law_blended_right) .none kV__law_blended_right dc__law_blended_right pm__law_blended_right an__law_blended_right cd__law_blended_right ct__law_blended_right), sl__law_blended_right⟩) (c__law_blended_right : PySem.W.codeIn K cd__law_blended_right "_law_blended_right" = true) (k__law_blended_right : PySem.W.keepIn K (.ref f__law_blended_right) = true)
  (a__law_loops_right : PySem.W.nsIn K mainGlobals "_law_loops_right" = some (some (.ref f__law_loops_right))) (l__law_loops_right : K.lookup f__law_loops_right = some ⟨oc__law_loops_right, od__law_loops_right, .func (PySem.W.fnOf "_law_loops_right" "_law_loops_right" (defArgs s__law_loops_right) (defBody s__law_loops_right) (defScope s__law_loops_right) .none kV__law_loops_right dc__law_loops_right pm__law_loops_right an__law_loops_right cd__law_loops_right ct__law_loops_right), sl__law_loops_right⟩) (c__law_loops_right : PySem.W.codeIn K cd__law_loops_right "_law_loops_right" = true) (k__law_loops_right : PySem.W.keepIn K (.ref f__law_loops_right) = true)
  (a_law : PySem.W.nsIn K mainGlobals "law" = some (some (.ref f_law))) (l_law : K.lookup f_law = some ⟨oc_law, od_law, .func (PySem.W.fnOf "law" "law" (defArgs s_law) (defBody s_law) (defScope s_law) .none kV_law dc_law pm_law an_law cd_law ct_law), sl_law⟩) (c_law : PySem.W.codeIn K cd_law "law" = true) (k_law : PySem.W.keepIn K (.ref f_law) = true)
  (z_abs : PySem.W.nsIn K mainGlobals "abs" = some none)
  (z_max : PySem.W.nsIn K mainGlobals "max" = some none)
  (z_sum : PySem.W.nsIn K mainGlobals "sum" = some none)
  (z_len : PySem.W.nsIn K mainGlobals "len" = some none)
  (z_tuple : PySem.W.nsIn K mainGlobals "tuple" = some none)
  (z_min : PySem.W.nsIn K mainGlobals "min" = some none)
  (z_range : PySem.W.nsIn K mainGlobals "range" = some none)
  (z_list : PySem.W.nsIn K mainGlobals "list" = some none)
  (z_int : PySem.W.nsIn K mainGlobals "int" = some none)
  (z_isinstance : PySem.W.nsIn K mainGlobals "isinstance" = some none)
  (z_bool : PySem.W.nsIn K mainGlobals "bool" = some none)
  (z_str : PySem.W.nsIn K mainGlobals "str" = some none) :
  ∃ fd : FuncData, (∀ (s : Shared) (v : Value), BindsTo s fd ⟨[v], []⟩ [("script", v)]) ∧ ∀ base : Heap, K.In base → base.Ns mainGlobals mg → JFn l.prog w K mg base 11 fa fd ["script"] SLaw := by
  have e := hfa.symm.trans (PySem.W.mg_of X G a_law)
  cases e
  have T : Txt mg := ⟨PySem.W.mg_none_of X G z_abs, PySem.W.mg_none_of X G z_max, PySem.W.mg_none_of X G z_sum, PySem.W.mg_none_of X G z_len, PySem.W.mg_none_of X G z_tuple, PySem.W.mg_none_of X G z_min, PySem.W.mg_none_of X G z_range, PySem.W.mg_none_of X G z_list, PySem.W.mg_none_of X G z_int, PySem.W.mg_none_of X G z_isinstance, PySem.W.mg_none_of X G z_bool, PySem.W.mg_none_of X G z_str⟩
  have F_common_divisor := fun_mk (st := s_common_divisor) l_common_divisor c_common_divisor k_common_divisor
  have b_common_divisor := F_common_divisor.binds (ps := ["one", "other"]) fun _ _ _ _ _ _ us hl => match us, hl with | [_, _], _ => rfl
  have R_common_divisor : Rf K mg "common_divisor" ["one", "other"] f_common_divisor _ := ⟨PySem.W.mg_of X G a_common_divisor, k_common_divisor, b_common_divisor⟩
  have F_fraction := fun_mk (st := s_fraction) l_fraction c_fraction k_fraction
  have b_fraction := F_fraction.binds (ps := ["n", "d"]) fun _ _ _ _ _ _ us hl => match us, hl with | [_, _], _ => rfl
  have R_fraction : Rf K mg "fraction" ["n", "d"] f_fraction _ := ⟨PySem.W.mg_of X G a_fraction, k_fraction, b_fraction⟩
  have F_plus_of := fun_mk (st := s_plus_of) l_plus_of c_plus_of k_plus_of
  have b_plus_of := F_plus_of.binds (ps := ["one", "other"]) fun _ _ _ _ _ _ us hl => match us, hl with | [_, _], _ => rfl
  have R_plus_of : Rf K mg "plus_of" ["one", "other"] f_plus_of _ := ⟨PySem.W.mg_of X G a_plus_of, k_plus_of, b_plus_of⟩
  have F_times_of := fun_mk (st := s_times_of) l_times_of c_times_of k_times_of
  have b_times_of := F_times_of.binds (ps := ["one", "other"]) fun _ _ _ _ _ _ us hl => match us, hl with | [_, _], _ => rfl
  have R_times_of : Rf K mg "times_of" ["one", "other"] f_times_of _ := ⟨PySem.W.mg_of X G a_times_of, k_times_of, b_times_of⟩
  have F_toward_zero_levels := fun_mk (st := s_toward_zero_levels) l_toward_zero_levels c_toward_zero_levels k_toward_zero_levels
  have b_toward_zero_levels := F_toward_zero_levels.binds (ps := ["n", "d"]) fun _ _ _ _ _ _ us hl => match us, hl with | [_, _], _ => rfl
  have R_toward_zero_levels : Rf K mg "toward_zero_levels" ["n", "d"] f_toward_zero_levels _ := ⟨PySem.W.mg_of X G a_toward_zero_levels, k_toward_zero_levels, b_toward_zero_levels⟩
  have F_loudest := fun_mk (st := s_loudest) l_loudest c_loudest k_loudest
  have b_loudest := F_loudest.binds (ps := ["samples"]) fun _ _ _ _ _ _ us hl => match us, hl with | [_], _ => rfl
  have R_loudest : Rf K mg "loudest" ["samples"] f_loudest _ := ⟨PySem.W.mg_of X G a_loudest, k_loudest, b_loudest⟩
  have F_mean_square := fun_mk (st := s_mean_square) l_mean_square c_mean_square k_mean_square
  have b_mean_square := F_mean_square.binds (ps := ["samples"]) fun _ _ _ _ _ _ us hl => match us, hl with | [_], _ => rfl
  have R_mean_square : Rf K mg "mean_square" ["samples"] f_mean_square _ := ⟨PySem.W.mg_of X G a_mean_square, k_mean_square, b_mean_square⟩
  have F_raised_to := fun_mk (st := s_raised_to) l_raised_to c_raised_to k_raised_to
  have b_raised_to := F_raised_to.binds (ps := ["samples", "top"]) fun _ _ _ _ _ _ us hl => match us, hl with | [_, _], _ => rfl
  have R_raised_to : Rf K mg "raised_to" ["samples", "top"] f_raised_to _ := ⟨PySem.W.mg_of X G a_raised_to, k_raised_to, b_raised_to⟩
  have F_cut_at := fun_mk (st := s_cut_at) l_cut_at c_cut_at k_cut_at
  have b_cut_at := F_cut_at.binds (ps := ["samples", "top"]) fun _ _ _ _ _ _ us hl => match us, hl with | [_, _], _ => rfl
  have R_cut_at : Rf K mg "cut_at" ["samples", "top"] f_cut_at _ := ⟨PySem.W.mg_of X G a_cut_at, k_cut_at, b_cut_at⟩
  have F_quiet_spans := fun_mk (st := s_quiet_spans) l_quiet_spans c_quiet_spans k_quiet_spans
  have b_quiet_spans := F_quiet_spans.binds (ps := ["samples", "bound", "least"]) fun _ _ _ _ _ _ us hl => match us, hl with | [_, _, _], _ => rfl
  have R_quiet_spans : Rf K mg "quiet_spans" ["samples", "bound", "least"] f_quiet_spans _ := ⟨PySem.W.mg_of X G a_quiet_spans, k_quiet_spans, b_quiet_spans⟩
  have F_mixed := fun_mk (st := s_mixed) l_mixed c_mixed k_mixed
  have b_mixed := F_mixed.binds (ps := ["rows", "parts"]) fun _ _ _ _ _ _ us hl => match us, hl with | [_, _], _ => rfl
  have R_mixed : Rf K mg "mixed" ["rows", "parts"] f_mixed _ := ⟨PySem.W.mg_of X G a_mixed, k_mixed, b_mixed⟩
  have F_faded := fun_mk (st := s_faded) l_faded c_faded k_faded
  have b_faded := F_faded.binds (ps := ["samples", "first", "last"]) fun _ _ _ _ _ _ us hl => match us, hl with | [_, _, _], _ => rfl
  have R_faded : Rf K mg "faded" ["samples", "first", "last"] f_faded _ := ⟨PySem.W.mg_of X G a_faded, k_faded, b_faded⟩
  have F_sample_at := fun_mk (st := s_sample_at) l_sample_at c_sample_at k_sample_at
  have b_sample_at := F_sample_at.binds (ps := ["samples", "begin", "end", "at"]) fun _ _ _ _ _ _ us hl => match us, hl with | [_, _, _, _], _ => rfl
  have R_sample_at : Rf K mg "sample_at" ["samples", "begin", "end", "at"] f_sample_at _ := ⟨PySem.W.mg_of X G a_sample_at, k_sample_at, b_sample_at⟩
  have F_played := fun_mk (st := s_played) l_played c_played k_played
  have b_played := F_played.binds (ps := ["samples", "begin", "end", "many"]) fun _ _ _ _ _ _ us hl => match us, hl with | [_, _, _, _], _ => rfl
  have R_played : Rf K mg "played" ["samples", "begin", "end", "many"] f_played _ := ⟨PySem.W.mg_of X G a_played, k_played, b_played⟩
  have F_jump_of := fun_mk (st := s_jump_of) l_jump_of c_jump_of k_jump_of
  have b_jump_of := F_jump_of.binds (ps := ["samples", "begin", "end"]) fun _ _ _ _ _ _ us hl => match us, hl with | [_, _, _], _ => rfl
  have R_jump_of : Rf K mg "jump_of" ["samples", "begin", "end"] f_jump_of _ := ⟨PySem.W.mg_of X G a_jump_of, k_jump_of, b_jump_of⟩
  have F_best_loop := fun_mk (st := s_best_loop) l_best_loop c_best_loop k_best_loop
  have b_best_loop := F_best_loop.binds (ps := ["samples", "least"]) fun _ _ _ _ _ _ us hl => match us, hl with | [_, _], _ => rfl
  have R_best_loop : Rf K mg "best_loop" ["samples", "least"] f_best_loop _ := ⟨PySem.W.mg_of X G a_best_loop, k_best_loop, b_best_loop⟩
  have F_toward_zero_loops := fun_mk (st := s_toward_zero_loops) l_toward_zero_loops c_toward_zero_loops k_toward_zero_loops
  have b_toward_zero_loops := F_toward_zero_loops.binds (ps := ["n", "d"]) fun _ _ _ _ _ _ us hl => match us, hl with | [_, _], _ => rfl
  have R_toward_zero_loops : Rf K mg "toward_zero_loops" ["n", "d"] f_toward_zero_loops _ := ⟨PySem.W.mg_of X G a_toward_zero_loops, k_toward_zero_loops, b_toward_zero_loops⟩
  have F_blended := fun_mk (st := s_blended) l_blended c_blended k_blended
  have b_blended := F_blended.binds (ps := ["samples", "begin", "end", "wide"]) fun _ _ _ _ _ _ us hl => match us, hl with | [_, _, _, _], _ => rfl
  have R_blended : Rf K mg "blended" ["samples", "begin", "end", "wide"] f_blended _ := ⟨PySem.W.mg_of X G a_blended, k_blended, b_blended⟩
  have F_unchanged_from := fun_mk (st := s_unchanged_from) l_unchanged_from c_unchanged_from k_unchanged_from
  have b_unchanged_from := F_unchanged_from.binds (ps := ["samples", "begin", "end", "other"]) fun _ _ _ _ _ _ us hl => match us, hl with | [_, _, _, _], _ => rfl
  have R_unchanged_from : Rf K mg "unchanged_from" ["samples", "begin", "end", "other"] f_unchanged_from _ := ⟨PySem.W.mg_of X G a_unchanged_from, k_unchanged_from, b_unchanged_from⟩
  have F__law_draws := fun_mk (st := s__law_draws) l__law_draws c__law_draws k__law_draws
  have b__law_draws := F__law_draws.binds (ps := ["script", "many"]) fun _ _ _ _ _ _ us hl => match us, hl with | [_, _], _ => rfl
  have R__law_draws : Rf K mg "_law_draws" ["script", "many"] f__law_draws _ := ⟨PySem.W.mg_of X G a__law_draws, k__law_draws, b__law_draws⟩
  have F__law_take := fun_mk (st := s__law_take) l__law_take c__law_take k__law_take
  have b__law_take := F__law_take.binds (ps := ["draws", "many"]) fun _ _ _ _ _ _ us hl => match us, hl with | [_, _], _ => rfl
  have R__law_take : Rf K mg "_law_take" ["draws", "many"] f__law_take _ := ⟨PySem.W.mg_of X G a__law_take, k__law_take, b__law_take⟩
  have F__law_cell := fun_mk (st := s__law_cell) l__law_cell c__law_cell k__law_cell
  have b__law_cell := F__law_cell.binds (ps := ["script", "at"]) fun _ _ _ _ _ _ us hl => match us, hl with | [_, _], _ => rfl
  have R__law_cell : Rf K mg "_law_cell" ["script", "at"] f__law_cell _ := ⟨PySem.W.mg_of X G a__law_cell, k__law_cell, b__law_cell⟩
  have F__law_same := fun_mk (st := s__law_same) l__law_same c__law_same k__law_same
  have b__law_same := F__law_same.binds (ps := ["actual", "due"]) fun _ _ _ _ _ _ us hl => match us, hl with | [_, _], _ => rfl
  have R__law_same : Rf K mg "_law_same" ["actual", "due"] f__law_same _ := ⟨PySem.W.mg_of X G a__law_same, k__law_same, b__law_same⟩
  have F__law_divisor := fun_mk (st := s__law_divisor) l__law_divisor c__law_divisor k__law_divisor
  have b__law_divisor := F__law_divisor.binds (ps := ["one", "other"]) fun _ _ _ _ _ _ us hl => match us, hl with | [_, _], _ => rfl
  have R__law_divisor : Rf K mg "_law_divisor" ["one", "other"] f__law_divisor _ := ⟨PySem.W.mg_of X G a__law_divisor, k__law_divisor, b__law_divisor⟩
  have F__law_ratio := fun_mk (st := s__law_ratio) l__law_ratio c__law_ratio k__law_ratio
  have b__law_ratio := F__law_ratio.binds (ps := ["n", "d"]) fun _ _ _ _ _ _ us hl => match us, hl with | [_, _], _ => rfl
  have R__law_ratio : Rf K mg "_law_ratio" ["n", "d"] f__law_ratio _ := ⟨PySem.W.mg_of X G a__law_ratio, k__law_ratio, b__law_ratio⟩
  have F__law_samples := fun_mk (st := s__law_samples) l__law_samples c__law_samples k__law_samples
  have b__law_samples := F__law_samples.binds (ps := ["draws", "script", "many"]) fun _ _ _ _ _ _ us hl => match us, hl with | [_, _, _], _ => rfl
  have R__law_samples : Rf K mg "_law_samples" ["draws", "script", "many"] f__law_samples _ := ⟨PySem.W.mg_of X G a__law_samples, k__law_samples, b__law_samples⟩
  have F__law_played := fun_mk (st := s__law_played) l__law_played c__law_played k__law_played
  have b__law_played := F__law_played.binds (ps := ["samples", "begin", "end", "many"]) fun _ _ _ _ _ _ us hl => match us, hl with | [_, _, _, _], _ => rfl
  have R__law_played : Rf K mg "_law_played" ["samples", "begin", "end", "many"] f__law_played _ := ⟨PySem.W.mg_of X G a__law_played, k__law_played, b__law_played⟩
  have F__law_quiet_right := fun_mk (st := s__law_quiet_right) l__law_quiet_right c__law_quiet_right k__law_quiet_right
  have b__law_quiet_right := F__law_quiet_right.binds (ps := ["samples", "begin", "end"]) fun _ _ _ _ _ _ us hl => match us, hl with | [_, _, _], _ => rfl
  have R__law_quiet_right : Rf K mg "_law_quiet_right" ["samples", "begin", "end"] f__law_quiet_right _ := ⟨PySem.W.mg_of X G a__law_quiet_right, k__law_quiet_right, b__law_quiet_right⟩
  have F__law_levels_right := fun_mk (st := s__law_levels_right) l__law_levels_right c__law_levels_right k__law_levels_right
  have b__law_levels_right := F__law_levels_right.binds (ps := ["draws", "samples", "begin", "end"]) fun _ _ _ _ _ _ us hl => match us, hl with | [_, _, _, _], _ => rfl
  have R__law_levels_right : Rf K mg "_law_levels_right" ["draws", "samples", "begin", "end"] f__law_levels_right _ := ⟨PySem.W.mg_of X G a__law_levels_right, k__law_levels_right, b__law_levels_right⟩
  have F__law_blended_right := fun_mk (st := s__law_blended_right) l__law_blended_right c__law_blended_right k__law_blended_right
  have b__law_blended_right := F__law_blended_right.binds (ps := ["draws", "samples", "begin", "end"]) fun _ _ _ _ _ _ us hl => match us, hl with | [_, _, _, _], _ => rfl
  have R__law_blended_right : Rf K mg "_law_blended_right" ["draws", "samples", "begin", "end"] f__law_blended_right _ := ⟨PySem.W.mg_of X G a__law_blended_right, k__law_blended_right, b__law_blended_right⟩
  have F__law_loops_right := fun_mk (st := s__law_loops_right) l__law_loops_right c__law_loops_right k__law_loops_right
  have b__law_loops_right := F__law_loops_right.binds (ps := ["draws", "samples"]) fun _ _ _ _ _ _ us hl => match us, hl with | [_, _], _ => rfl
  have R__law_loops_right : Rf K mg "_law_loops_right" ["draws", "samples"] f__law_loops_right _ := ⟨PySem.W.mg_of X G a__law_loops_right, k__law_loops_right, b__law_loops_right⟩
  have F_law := fun_mk (st := s_law) l_law c_law k_law
  refine ⟨PySem.W.fnOf "law" "law" (defArgs s_law) (defBody s_law) (defScope s_law) .none kV_law dc_law pm_law an_law cd_law ct_law, fun s v => .of_eq rfl, fun base _ _ => ?_⟩
  have g_common_divisor := G_common_divisor (P := l.prog) (w := w) (base := base) F_common_divisor T 
  have g_fraction := G_fraction (P := l.prog) (w := w) (base := base) F_fraction T g_common_divisor R_common_divisor
  have g_plus_of := G_plus_of (P := l.prog) (w := w) (base := base) F_plus_of T g_fraction R_fraction
  have g_times_of := G_times_of (P := l.prog) (w := w) (base := base) F_times_of T g_fraction R_fraction
  have g_toward_zero_levels := G_toward_zero_levels (P := l.prog) (w := w) (base := base) F_toward_zero_levels T 
  have g_loudest := G_loudest (P := l.prog) (w := w) (base := base) F_loudest T 
  have g_mean_square := G_mean_square (P := l.prog) (w := w) (base := base) F_mean_square T g_fraction R_fraction
  have g_raised_to := G_raised_to (P := l.prog) (w := w) (base := base) F_raised_to T g_loudest R_loudest g_toward_zero_levels R_toward_zero_levels
  have g_cut_at := G_cut_at (P := l.prog) (w := w) (base := base) F_cut_at T 
  have g_quiet_spans := G_quiet_spans (P := l.prog) (w := w) (base := base) F_quiet_spans T 
  have g_mixed := G_mixed (P := l.prog) (w := w) (base := base) F_mixed T g_plus_of R_plus_of g_times_of R_times_of g_toward_zero_levels R_toward_zero_levels
  have g_faded := G_faded (P := l.prog) (w := w) (base := base) F_faded T g_toward_zero_levels R_toward_zero_levels
  have g_sample_at := G_sample_at (P := l.prog) (w := w) (base := base) F_sample_at T 
  have g_played := G_played (P := l.prog) (w := w) (base := base) F_played T g_sample_at R_sample_at
  have g_jump_of := G_jump_of (P := l.prog) (w := w) (base := base) F_jump_of T 
  have g_best_loop := G_best_loop (P := l.prog) (w := w) (base := base) F_best_loop T g_jump_of R_jump_of
  have g_toward_zero_loops := G_toward_zero_loops (P := l.prog) (w := w) (base := base) F_toward_zero_loops T 
  have g_blended := G_blended (P := l.prog) (w := w) (base := base) F_blended T g_toward_zero_loops R_toward_zero_loops
  have g_unchanged_from := G_unchanged_from (P := l.prog) (w := w) (base := base) F_unchanged_from T g_sample_at R_sample_at
  have g__law_draws := G__law_draws (P := l.prog) (w := w) (base := base) F__law_draws T 
  have g__law_take := G__law_take (P := l.prog) (w := w) (base := base) F__law_take T 
  have g__law_cell := G__law_cell (P := l.prog) (w := w) (base := base) F__law_cell T 
  have g__law_same := G__law_same (P := l.prog) (w := w) (base := base) F__law_same T R__law_same
  have g__law_divisor := G__law_divisor (P := l.prog) (w := w) (base := base) F__law_divisor T 
  have g__law_ratio := G__law_ratio (P := l.prog) (w := w) (base := base) F__law_ratio T g__law_divisor R__law_divisor
  have g__law_samples := G__law_samples (P := l.prog) (w := w) (base := base) F__law_samples T g__law_take R__law_take g__law_cell R__law_cell
  have g__law_played := G__law_played (P := l.prog) (w := w) (base := base) F__law_played T 
  have g__law_quiet_right := G__law_quiet_right (P := l.prog) (w := w) (base := base) F__law_quiet_right T g_played R_played g_loudest R_loudest g_quiet_spans R_quiet_spans
  have g__law_levels_right := G__law_levels_right (P := l.prog) (w := w) (base := base) F__law_levels_right T g__law_take R__law_take g_played R_played g__law_same R__law_same g__law_played R__law_played g_cut_at R_cut_at g_loudest R_loudest g_raised_to R_raised_to g__law_ratio R__law_ratio g_mixed R_mixed g_mean_square R_mean_square g_faded R_faded g__law_quiet_right R__law_quiet_right
  have g__law_blended_right := G__law_blended_right (P := l.prog) (w := w) (base := base) F__law_blended_right T g__law_take R__law_take g_mixed R_mixed g__law_ratio R__law_ratio g_blended R_blended g__law_same R__law_same g_faded R_faded
  have g__law_loops_right := G__law_loops_right (P := l.prog) (w := w) (base := base) F__law_loops_right T g__law_take R__law_take g__law_same R__law_same g_jump_of R_jump_of g_best_loop R_best_loop g__law_played R__law_played g_unchanged_from R_unchanged_from
  have g_law := G_law (P := l.prog) (w := w) (base := base) F_law T g__law_draws R__law_draws g__law_samples R__law_samples g__law_take R__law_take g__law_levels_right R__law_levels_right g__law_blended_right R__law_blended_right g__law_loops_right R__law_loops_right g__law_cell R__law_cell g__law_same R__law_same g_sample_at R_sample_at g_played R_played g_blended R_blended g_quiet_spans R_quiet_spans
  exact g_law
end
end Lk72
open PySem PySem.W PyProof.Rows in
set_option maxRecDepth 100000 in
set_option maxHeartbeats 0 in
theorem PySem.Challenge.cw_wordslit_k72_whole_loops_and_their_level_holds : PySem.Challenge.rw_wordslit_k72_whole_loops_and_their_level.Holds := by
  w_on; o_law; k_head; (case hw => w_witness2)
  k_fill
  refine J.walk_j (l := PySem.Challenge.rw_wordslit_k72_whole_loops_and_their_level) (k := 11) ⟨rfl, by decide, by decide⟩ rfl rfl (fun w h Y => PySem.W.kIn_of Y) ?F
  case F =>
    intro w mg fa h KX G hmg
    refine' Lk72.all_mk KX G hmg ?a_common_divisor ?l_common_divisor ?c_common_divisor ?k_common_divisor ?a_fraction ?l_fraction ?c_fraction ?k_fraction ?a_plus_of ?l_plus_of ?c_plus_of ?k_plus_of ?a_times_of ?l_times_of ?c_times_of ?k_times_of ?a_toward_zero_levels ?l_toward_zero_levels ?c_toward_zero_levels ?k_toward_zero_levels ?a_loudest ?l_loudest ?c_loudest ?k_loudest ?a_mean_square ?l_mean_square ?c_mean_square ?k_mean_square ?a_raised_to ?l_raised_to ?c_raised_to ?k_raised_to ?a_cut_at ?l_cut_at ?c_cut_at ?k_cut_at ?a_quiet_spans ?l_quiet_spans ?c_quiet_spans ?k_quiet_spans ?a_mixed ?l_mixed ?c_mixed ?k_mixed ?a_faded ?l_faded ?c_faded ?k_faded ?a_sample_at ?l_sample_at ?c_sample_at ?k_sample_at ?a_played ?l_played ?c_played ?k_played ?a_jump_of ?l_jump_of ?c_jump_of ?k_jump_of ?a_best_loop ?l_best_loop ?c_best_loop ?k_best_loop ?a_toward_zero_loops ?l_toward_zero_loops ?c_toward_zero_loops ?k_toward_zero_loops ?a_blended ?l_blended ?c_blended ?k_blended ?a_unchanged_from ?l_unchanged_from ?c_unchanged_from ?k_unchanged_from ?a__law_draws ?l__law_draws ?c__law_draws ?k__law_draws ?a__law_take ?l__law_take ?c__law_take ?k__law_take ?a__law_cell ?l__law_cell ?c__law_cell ?k__law_cell ?a__law_same ?l__law_same ?c__law_same ?k__law_same ?a__law_divisor ?l__law_divisor ?c__law_divisor ?k__law_divisor ?a__law_ratio ?l__law_ratio ?c__law_ratio ?k__law_ratio ?a__law_samples ?l__law_samples ?c__law_samples ?k__law_samples ?a__law_played ?l__law_played ?c__law_played ?k__law_played ?a__law_quiet_right ?l__law_quiet_right ?c__law_quiet_right ?k__law_quiet_right ?a__law_levels_right ?l__law_levels_right ?c__law_levels_right ?k__law_levels_right ?a__law_blended_right ?l__law_blended_right ?c__law_blended_right ?k__law_blended_right ?a__law_loops_right ?l__law_loops_right ?c__law_loops_right ?k__law_loops_right ?a_law ?l_law ?c_law ?k_law ?z_abs ?z_max ?z_sum ?z_len ?z_tuple ?z_min ?z_range ?z_list ?z_int ?z_isinstance ?z_bool ?z_str
    (case a_common_divisor => k_is)
    (case l_common_divisor => k_is)
    (case c_common_divisor => k_is)
    (case k_common_divisor => k_is)
    (case a_fraction => k_is)
    (case l_fraction => k_is)
    (case c_fraction => k_is)
    (case k_fraction => k_is)
    (case a_plus_of => k_is)
    (case l_plus_of => k_is)
    (case c_plus_of => k_is)
    (case k_plus_of => k_is)
    (case a_times_of => k_is)
    (case l_times_of => k_is)
    (case c_times_of => k_is)
    (case k_times_of => k_is)
    (case a_toward_zero_levels => k_is)
    (case l_toward_zero_levels => k_is)
    (case c_toward_zero_levels => k_is)
    (case k_toward_zero_levels => k_is)
    (case a_loudest => k_is)
    (case l_loudest => k_is)
    (case c_loudest => k_is)
    (case k_loudest => k_is)
    (case a_mean_square => k_is)
    (case l_mean_square => k_is)
    (case c_mean_square => k_is)
    (case k_mean_square => k_is)
    (case a_raised_to => k_is)
    (case l_raised_to => k_is)
    (case c_raised_to => k_is)
    (case k_raised_to => k_is)
    (case a_cut_at => k_is)
    (case l_cut_at => k_is)
    (case c_cut_at => k_is)
    (case k_cut_at => k_is)
    (case a_quiet_spans => k_is)
    (case l_quiet_spans => k_is)
    (case c_quiet_spans => k_is)
    (case k_quiet_spans => k_is)
    (case a_mixed => k_is)
    (case l_mixed => k_is)
    (case c_mixed => k_is)
    (case k_mixed => k_is)
    (case a_faded => k_is)
    (case l_faded => k_is)
    (case c_faded => k_is)
    (case k_faded => k_is)
    (case a_sample_at => k_is)
    (case l_sample_at => k_is)
    (case c_sample_at => k_is)
    (case k_sample_at => k_is)
    (case a_played => k_is)
    (case l_played => k_is)
    (case c_played => k_is)
    (case k_played => k_is)
    (case a_jump_of => k_is)
    (case l_jump_of => k_is)
    (case c_jump_of => k_is)
    (case k_jump_of => k_is)
    (case a_best_loop => k_is)
    (case l_best_loop => k_is)
    (case c_best_loop => k_is)
    (case k_best_loop => k_is)
    (case a_toward_zero_loops => k_is)
    (case l_toward_zero_loops => k_is)
    (case c_toward_zero_loops => k_is)
    (case k_toward_zero_loops => k_is)
    (case a_blended => k_is)
    (case l_blended => k_is)
    (case c_blended => k_is)
    (case k_blended => k_is)
    (case a_unchanged_from => k_is)
    (case l_unchanged_from => k_is)
    (case c_unchanged_from => k_is)
    (case k_unchanged_from => k_is)
    (case a__law_draws => k_is)
    (case l__law_draws => k_is)
    (case c__law_draws => k_is)
    (case k__law_draws => k_is)
    (case a__law_take => k_is)
    (case l__law_take => k_is)
    (case c__law_take => k_is)
    (case k__law_take => k_is)
    (case a__law_cell => k_is)
    (case l__law_cell => k_is)
    (case c__law_cell => k_is)
    (case k__law_cell => k_is)
    (case a__law_same => k_is)
    (case l__law_same => k_is)
    (case c__law_same => k_is)
    (case k__law_same => k_is)
    (case a__law_divisor => k_is)
    (case l__law_divisor => k_is)
    (case c__law_divisor => k_is)
    (case k__law_divisor => k_is)
    (case a__law_ratio => k_is)
    (case l__law_ratio => k_is)
    (case c__law_ratio => k_is)
    (case k__law_ratio => k_is)
    (case a__law_samples => k_is)
    (case l__law_samples => k_is)
    (case c__law_samples => k_is)
    (case k__law_samples => k_is)
    (case a__law_played => k_is)
    (case l__law_played => k_is)
    (case c__law_played => k_is)
    (case k__law_played => k_is)
    (case a__law_quiet_right => k_is)
    (case l__law_quiet_right => k_is)
    (case c__law_quiet_right => k_is)
    (case k__law_quiet_right => k_is)
    (case a__law_levels_right => k_is)
    (case l__law_levels_right => k_is)
    (case c__law_levels_right => k_is)
    (case k__law_levels_right => k_is)
    (case a__law_blended_right => k_is)
    (case l__law_blended_right => k_is)
    (case c__law_blended_right => k_is)
    (case k__law_blended_right => k_is)
    (case a__law_loops_right => k_is)
    (case l__law_loops_right => k_is)
    (case c__law_loops_right => k_is)
    (case k__law_loops_right => k_is)
    (case a_law => k_is)
    (case l_law => k_is)
    (case c_law => k_is)
    (case k_law => k_is)
    (case z_abs => k_is)
    (case z_max => k_is)
    (case z_sum => k_is)
    (case z_len => k_is)
    (case z_tuple => k_is)
    (case z_min => k_is)
    (case z_range => k_is)
    (case z_list => k_is)
    (case z_int => k_is)
    (case z_isinstance => k_is)
    (case z_bool => k_is)
    (case z_str => k_is)
#print axioms PySem.Challenge.cw_wordslit_k72_whole_loops_and_their_level_holds
