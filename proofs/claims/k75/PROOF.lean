import PyProof.Rows.All
import Wide.All
import OpenK.AllK
import Wide.FinOn
import HandS.ForMost
import HandS.Flow
import HandS.Style
import HandS.Conv
import HandS.TupAny
import HandS.TupLe
import HandS.IsInst
import HandS.Deep
import HandS.Wide
import HandS.SortInts
import HandS.Codes
import KE.DataMinMax
import KE.DataAny
import KE.DataCmp
import KE.SortData
import KE.KTupSum
import KE.KIndexOf
import HandS.WideMore
import HandS.Strs
import PySem.Challenge.RW_wordslit_k75_tables_of_battles
set_option Elab.async false
set_option linter.all false
set_option maxRecDepth 100000
/-! J1: data values over the abstract heap: what stands for a datum (Rp), a view of the heap (Vw), steps (Fw). -/
namespace J
open PySem PySem.Spec PyProof.Rows L2

abbrev D := PyData
/-- the sign of a pile of drawn numbers in a view -/
def mark : HO := .xd []

/-! ### tuples without a dict of their own -/
def SqJ (K : PySem.W.Frag) (H : Hp) (a : Addr) (xs : List V) : Prop :=
  (∃ o : Obj, H a = some (.frz o (.tup xs)) ∧ o.dict = none) ∨
    ∃ (o : Obj) (its : Array Value) (n : Nat), K.lookup a = some o ∧ o.cls = .type "tuple" ∧ o.dict = none ∧ o.data = .seq its n ∧ its.size ≤ sizeLine ∧ Vals xs its.toList
abbrev tO (its : List Value) (xs : List V) : HO := .frz { cls := .type "tuple", data := .seq its.toArray } (.tup xs)
theorem SqJ.of {K : PySem.W.Frag} {H : Hp} {p : Addr} {its : List Value} {xs : List V} : SqJ K (upd H p (tO its xs)) p xs := .inl ⟨_, upd_same, rfl⟩
theorem SqJ.t {K : PySem.W.Frag} {H : Hp} {p : Addr} {xs : List V} (h : SqJ K H p xs) : SqT K H p xs := by
  rcases h with ⟨o, h, _⟩ | ⟨o, its, n, h, hc, _, hd, hz, r⟩
  · exact .inl (.inr ⟨o, h⟩)
  · exact .inr ⟨o, its, n, h, hc, hd, hz, r⟩
section
variable {X : Cx} {pins : List (Addr × Obj)} {σ : L2.St} {H : Hp} {s : Shared} {a : Addr} {xs : List V} {its : List Value}
theorem SqJ.is (I : Inv X pins σ H s) (h : SqJ X.K H a xs) : ∃ ob, s.heap.get? a = some ob ∧ ob.dict = none := by
  rcases h with ⟨o, h, hd⟩ | ⟨o, _, _, h, _, hd, _⟩
  · exact ⟨o, (I.hok a _ h).1, hd⟩
  · exact ⟨o, I.kIn a o h, hd⟩
theorem laidT (I : Inv X pins σ H s) (hz : xs.length ≤ sizeLine) (r : Vals xs its) : Inv X pins σ (upd H s.heap.objs.size (tO its xs)) { s with heap := s.heap.push { cls := .type "tuple", data := .seq its.toArray } } :=
  I.laid (t' := s.toks) (fun b o e => Heap.get?_push_of_some _ e) (Nat.le_refl _) (show ObjOk X.prog X.w _ _ _ (tO its xs) from ⟨Heap.get?_push_size _ rfl, hz, its, r, IsTup.new _ _⟩)
theorem newAt (I : Inv X pins σ H s) : H s.heap.objs.size = none := I.hok.fresh (Nat.le_refl _)
variable {e : Expr} {es : List Expr} {pos : Pos} {t : TA} {ta : TE}
/-- a new tuple -/
abbrev NewT (H : Hp) (xs : List V) (Q : VK) : Prop := ∀ p its, H p = none → Q (.ref p) (upd H p (tO its xs))
def tTupJ (t : TA) : TE := fun σ H Q => t σ H fun xs H1 => xs.length ≤ sizeLine ∧ NewT H1 xs Q
theorem pe_tupJ {x1} (h : PA X es t) : PE X (.Tuple es x1 pos) (tTupJ t) := by
  refine ⟨fun pins s σ H Q I hq => ?_⟩
  refine wpAny_Tuple_spliced (thn (h.run pos pins s σ H _ I hq) fun us s1 ⟨xs, H1, I1, r, z, q⟩ => ⟨by rw [← r.length]; exact z, ?_⟩)
  exact ⟨.ref _, _, laidT I1 z r, rfl, q _ _ (newAt I1)⟩
def kTupJ (K : PySem.W.Frag) (x : V) (H : Hp) (Q : VK) : Prop := (∃ p xs, x = .ref p ∧ SqL K H p xs ∧ NewT H xs Q) ∨ (∃ p xs, x = .ref p ∧ SqT K H p xs ∧ Q (.ref p) H)
theorem rl_tupleJ (pins : List (Addr × Obj)) (s : Shared) (σ : L2.St) (H : Hp) (x : V) (v : Value) (Q : VK) (I : Inv X pins σ H s) (r : RelV x v) (h : kTupJ X.K x H Q) :
    wpAny (model X.prog X.w) X.A (call (.type "tuple") [v]) (EP X pins σ Q) X.xe s := by
  rcases h with ⟨p, xs, rfl, hs, q⟩ | ⟨p, xs, rfl, hs, q⟩
  · obtain rfl : v = .ref p := r
    obtain ⟨its, rv, pl, hz⟩ := I.list hs
    refine call_tuple_list pl.isList (fun h' hk => ?_) (by rw [List.size_toArray, ← rv.length]; exact hz)
    have I1 : Inv X pins σ H { s with heap := h' } := I.kept (t' := s.toks) hk
    exact ⟨.ref _, _, laidT I1 hz rv, rfl, q _ _ (newAt I1)⟩
  · obtain rfl : v = .ref p := r
    obtain ⟨its, rv, pl, hz⟩ := I.tuple hs
    exact call_tuple_tup pl ⟨.ref p, H, I, rfl, q⟩
theorem pe_tupleOfJ {p pos : Pos} (hg : Gl X "tuple") (hm : X.mg "tuple" = none) (ha : PE X e ta) (na : starEach [e] X.env = (false, eval e X.env) :: starEach [] X.env := by rfl) : PE X (.Call (.Name "tuple" p) [e] [] pos) (tThen ta (kTupJ X.K)) := by
  refine ⟨fun pins s σ H Q I h => ?_⟩
  exact Call_ (ld_blt I hg hm boot_tuple (PyProof.Rows.callWith_type1 (one_arg ha I h (fun v s2 x H2 I2 r q => rl_tupleJ pins s2 σ H2 x v Q I2 r q) na) na))
def tTupRgJ (te : L2.St → Hp → (Int → Int → Hp → Prop) → Prop) : TE := fun σ H Q => te σ H fun a b H1 => RgOk a b ∧ NewT H1 (rgV a b) Q
theorem pe_tupRgJ {te : L2.St → Hp → (Int → Int → Hp → Prop) → Prop} {p pos : Pos} (hc : X.calm = true) (hg : Gl X "tuple") (hm : X.mg "tuple" = none) (he : PRg X e te) (na : starEach [e] X.env = (false, eval e X.env) :: starEach [] X.env := by rfl) : PE X (.Call (.Name "tuple" p) [e] [] pos) (tTupRgJ te) := by
  refine ⟨fun pins s σ H Q I h => ?_⟩
  refine Call_ (ld_blt I hg hm boot_tuple (PyProof.Rows.callWith_type1 (args_cons (thn (he pins s σ H _ I h) fun x s1 ⟨r, a, b, t, u, v, H1, ex, hr, I1, ok, q⟩ => args_nil ?_) na) na))
  subst ex
  obtain ⟨b1, b2, b3, b4, b5⟩ := ok
  refine call_tuple_range (n := (b - a).toNat) (I1.ok.hd hc) hr (small_one b1 b2 b3 b4) (rangeSize_nat a b) b5 fun h' tk acc hk hi => ?_
  have I2 : Inv X pins σ H1 { s1 with heap := h', toks := tk } := I1.kept hk
  have I3 := laidT (xs := rgV a b) I2 (by rw [rgV_length, sizeLine_eq]; omega) (vals_rg hi)
  rw [Array.toArray_toList] at I3
  exact ⟨.ref _, _, I3, rfl, by have := q _ acc.toList (newAt I2); rw [tO, Array.toArray_toList] at this; exact this⟩
def rCatJ (K : PySem.W.Frag) : R2 := fun x y H Q => ∃ a b xs ys, x = .ref a ∧ y = .ref b ∧ SqT K H a xs ∧ SqT K H b ys ∧ xs.length + ys.length ≤ sizeLine ∧
  (xs = [] → Q (.ref b) H) ∧ (xs ≠ [] → ys = [] → Q (.ref a) H) ∧ (xs ≠ [] → ys ≠ [] → NewT H (xs ++ ys) Q)
theorem op_catJ : OpR X (binaryOp .Add) (rCatJ X.K) := by
  intro pins s σ H x y v u Q I rx ry h
  obtain ⟨a, b, xs, ys, rfl, rfl, ha, hb, hz, q0, q1, q2⟩ := h
  cases rx
  cases ry
  obtain ⟨its, r1, p1, _⟩ := I.tuple ha
  obtain ⟨its2, r2, p2, _⟩ := I.tuple hb
  by_cases hx : xs = []
  · subst hx
    cases r1
    exact cat_tup0 p1 p2 ⟨.ref b, H, I, rfl, q0 rfl⟩
  · refine HT.cat_tup p1 p2 (fun z => hx (r1.nil_iff.mp z)) (fun z => ⟨.ref a, H, I, rfl, q1 hx (r2.nil_iff.mp z)⟩) (fun z => ?_) (by rw [← r1.length, ← r2.length]; exact hz)
    exact ⟨.ref _, _, laidT I (by rw [List.length_append]; exact hz) (r1.append r2), rfl, q2 hx (fun w => z (r2.nil_iff.mpr w)) _ _ (newAt I)⟩
def rSlJ (K : PySem.W.Frag) : V → Option Int → Option Int → Hp → VK → Prop := fun x lo hi H Q => ∃ a xs, x = .ref a ∧ SqT K H a xs ∧
  (HT.sIx xs.length 0 lo = 0 ∧ HT.sIx xs.length xs.length hi = xs.length → Q (.ref a) H) ∧ (¬ (HT.sIx xs.length 0 lo = 0 ∧ HT.sIx xs.length xs.length hi = xs.length) → NewT H (cutV xs lo hi) Q)
theorem sl_tupJ : SlR X (rSlJ X.K) := by
  intro pins s σ H x v vl vu lo hi sl Q I rx hs pl pu h
  obtain ⟨a, xs, rfl, hx, q1, q2⟩ := h
  cases rx
  obtain ⟨its, r, ht, hz⟩ := I.tuple hx
  have hlen : its.toArray.size = xs.length := by rw [List.size_toArray]; exact r.length.symm
  refine ⟨"tuple", _, PyProof.Rows.slot_tuple_getitem.lookup, ht.typeIs, ?_⟩
  by_cases hw : HT.sIx xs.length 0 lo = 0 ∧ HT.sIx xs.length xs.length hi = xs.length
  · exact getItem_tuple_whole ht hs pl pu (by rw [hlen]; exact hw) ⟨.ref a, H, I, rfl, q1 hw⟩
  · refine HT.getItem_tuple_cut ht hs pl pu (by rw [hlen]; exact hw) ?_ (by rw [hlen]; exact hz)
    rw [hlen]
    exact ⟨.ref _, _, laidT (xs := cutV xs lo hi) I (Nat.le_trans (cutV_length xs lo hi) hz) ((r.drop (HT.sIx xs.length 0 lo)).take (HT.sIx xs.length xs.length hi - HT.sIx xs.length 0 lo)), rfl, q2 hw _ _ (newAt I)⟩
end

mutual
inductive Rp (K : PySem.W.Frag) (H : Hp) : V → D → Prop
  | non : Rp K H .non .none
  | bl (b : Bool) : Rp K H (.bl b) (.bool b)
  | int (i : Int) : Rp K H (.int i) (.int i)
  | str (x : Str) : Rp K H (.str x) (.str x)
  | lst {a : Addr} {xs : List V} {ds : List D} : SqL K H a xs → RpAll K H xs ds → ds.length ≤ sizeLine → Rp K H (.ref a) (.list ds)
  | tup {a : Addr} {xs : List V} {ds : List D} : SqJ K H a xs → RpAll K H xs ds → ds.length ≤ sizeLine → Rp K H (.ref a) (.tuple ds)
  | hnd {a : Addr} : H a = some mark → Rp K H (.ref a) (.dict [])
inductive RpAll (K : PySem.W.Frag) (H : Hp) : List V → List D → Prop
  | nil : RpAll K H [] []
  | cons {v : V} {vs : List V} {d : D} {ds : List D} : Rp K H v d → RpAll K H vs ds → RpAll K H (v :: vs) (d :: ds)
end

/-- a drawn pile: ints from 0 -/
def Pile (H : Hp) (a : Addr) : Prop := ∃ ns : List Int, H a = some (.lst (ns.map V.int)) ∧ ∀ n ∈ ns, 0 ≤ n

/-- Hv is a view of H: what it shows stands in H; a mark stands for a pile -/
def Vw (Hv H : Hp) : Prop := ∀ a o, Hv a = some o → (o = mark ∧ Pile H a) ∨ (o ≠ mark ∧ H a = some o)

/-- plain data, n deep -/
def lv : Nat → D → Bool
  | _, .none => true
  | _, .bool _ => true
  | _, .int _ => true
  | _, .str x => PyData.strOk x
  | n + 1, .list ds => ds.all (lv n)
  | n + 1, .tuple ds => ds.all (lv n)
  | _, _ => false
/-- data in which no list stands -/
def pl : Nat → D → Bool
  | _, .none => true
  | _, .bool _ => true
  | _, .int _ => true
  | _, .str _ => true
  | _, .dict _ => true
  | n + 1, .tuple ds => ds.all (pl n)
  | _, _ => false

section
variable {K : PySem.W.Frag} {H H' Hv Hv' : Hp}

theorem sql_mono {a : Addr} {xs : List V} (e : Same H H') (h : SqL K H a xs) : SqL K H' a xs := e.seq h
theorem sqt_mono {a : Addr} {xs : List V} (e : Same H H') (h : SqJ K H a xs) : SqJ K H' a xs := by
  rcases h with ⟨o, h, d⟩ | h
  · exact .inl ⟨o, e _ _ h, d⟩
  · exact .inr h

mutual
theorem Rp.mono (e : Same H H') : ∀ (d : D) (v : V), Rp K H v d → Rp K H' v d
  | .none, _, h => by cases h; exact .non
  | .bool b, _, h => by cases h; exact .bl b
  | .int i, _, h => by cases h; exact .int i
  | .str x, _, h => by cases h; exact .str x
  | .list ds, _, h => by
    cases h with
    | lst hs ha hl => exact .lst (sql_mono e hs) (Rp.monoAll e ds _ ha) hl
  | .tuple ds, _, h => by
    cases h with
    | tup hs ha hl => exact .tup (sqt_mono e hs) (Rp.monoAll e ds _ ha) hl
  | .dict kvs, _, h => by
    cases h with
    | hnd hm => exact .hnd (e _ _ hm)
theorem Rp.monoAll (e : Same H H') : ∀ (ds : List D) (vs : List V), RpAll K H vs ds → RpAll K H' vs ds
  | [], _, h => by cases h; exact .nil
  | d :: ds, _, h => by
    cases h with
    | cons h1 h2 => exact .cons (Rp.mono e d _ h1) (Rp.monoAll e ds _ h2)
end

theorem Vw.sql {a : Addr} {xs : List V} (e : Vw Hv H) (h : SqL K Hv a xs) : SqL K H a xs := by
  rcases h with (h | ⟨o, h⟩) | h
  · rcases e _ _ h with ⟨q, _⟩ | ⟨_, q⟩
    · cases q
    · exact .inl (.inl q)
  · rcases e _ _ h with ⟨q, _⟩ | ⟨_, q⟩
    · cases q
    · exact .inl (.inr ⟨o, q⟩)
  · exact .inr h
theorem Vw.sqj {a : Addr} {xs : List V} (e : Vw Hv H) (h : SqJ K Hv a xs) : SqJ K H a xs := by
  rcases h with ⟨o, h, d⟩ | h
  · rcases e _ _ h with ⟨q, _⟩ | ⟨_, q⟩
    · cases q
    · exact .inl ⟨o, q, d⟩
  · exact .inr h
theorem Vw.sqt {a : Addr} {xs : List V} (e : Vw Hv H) (h : SqJ K Hv a xs) : SqT K H a xs := (e.sqj h).t
mutual
/-- plain data of a view stands in the heap -/
theorem Rp.dp (e : Vw Hv H) : ∀ (n : Nat) (d : D) (v : V), lv n d = true → Rp K Hv v d → Dp K H v d
  | _, .none, _, _, h => by cases h; exact .non
  | _, .bool b, _, _, h => by cases h; exact .bl b
  | _, .int i, _, _, h => by cases h; exact .int i
  | _, .str x, _, _, h => by cases h; exact .str x
  | 0, .list ds, _, l, _ => by simp [lv] at l
  | n + 1, .list ds, _, l, h => by
    cases h with
    | lst hs ha hl => exact .lst (e.sql hs) (Rp.dpAll e n ds _ (by simpa [lv] using l) ha)
  | 0, .tuple ds, _, l, _ => by simp [lv] at l
  | n + 1, .tuple ds, _, l, h => by
    cases h with
    | tup hs ha hl => exact .tup (e.sqt hs) (Rp.dpAll e n ds _ (by simpa [lv] using l) ha)
  | 0, .dict kvs, _, l, _ => by simp [lv] at l
  | n + 1, .dict kvs, _, l, _ => by simp [lv] at l
theorem Rp.dpAll (e : Vw Hv H) : ∀ (n : Nat) (ds : List D) (vs : List V), (∀ d ∈ ds, lv n d = true) → RpAll K Hv vs ds → DpAll K H vs ds
  | _, [], _, _, h => by cases h; exact .nil
  | n, d :: ds, _, l, h => by
    cases h with
    | cons h1 h2 => exact .cons (Rp.dp e n d _ (l d (by simp)) h1) (Rp.dpAll e n ds _ (fun x hx => l x (by simp [hx])) h2)
end
mutual
theorem lv_canLay : ∀ (n : Nat) (d : D), lv n d = true → d.canLay0 = true ∧ d.depth ≤ n
  | n, .none, _ => ⟨by simp [PyData.canLay0], by simp [PyData.depth]⟩
  | n, .bool b, _ => ⟨by simp [PyData.canLay0], by simp [PyData.depth]⟩
  | n, .int i, _ => ⟨by simp [PyData.canLay0], by simp [PyData.depth]⟩
  | n, .str x, l => ⟨by simpa [PyData.canLay0, lv] using l, by simp [PyData.depth]⟩
  | 0, .list ds, l => by simp [lv] at l
  | n + 1, .list ds, l => by
    have h := lv_canLayAll n ds (by simpa [lv] using l)
    exact ⟨by simp only [PyData.canLay0]; exact h.1, by simp only [PyData.depth]; have := h.2; omega⟩
  | 0, .tuple ds, l => by simp [lv] at l
  | n + 1, .tuple ds, l => by
    have h := lv_canLayAll n ds (by simpa [lv] using l)
    exact ⟨by simp only [PyData.canLay0]; exact h.1, by simp only [PyData.depth]; have := h.2; omega⟩
  | 0, .dict kvs, l => by simp [lv] at l
  | n + 1, .dict kvs, l => by simp [lv] at l
theorem lv_canLayAll : ∀ (n : Nat) (ds : List D), (∀ d ∈ ds, lv n d = true) → PyData.canLayAll0 ds = true ∧ PyData.depthAll ds ≤ n
  | n, [], _ => ⟨by simp [PyData.canLayAll0], by simp [PyData.depthAll]⟩
  | n, d :: ds, l => by
    have h1 := lv_canLay n d (l d (by simp))
    have h2 := lv_canLayAll n ds (fun x hx => l x (by simp [hx]))
    refine ⟨by simp only [PyData.canLayAll0, h1.1, h2.1, Bool.and_self], ?_⟩
    simp only [PyData.depthAll]
    have := h1.2
    have := h2.2
    omega
end
theorem lv_shaped {n : Nat} {d : D} (h : lv n d = true) (hn : n ≤ 64 := by decide) : SeqAt.shaped d = true := by
  have q := lv_canLay n d h
  unfold SeqAt.shaped
  rw [q.1, Bool.true_and]
  exact decide_eq_true (Nat.le_trans q.2 hn)

mutual
/-- data without lists stays where lists are taken out of the view -/
theorem Rp.less (hv : ∀ a o, Hv a = some o → (∀ xs, o ≠ .lst xs) → Hv' a = some o) : ∀ (n : Nat) (d : D) (v : V), pl n d = true → Rp K Hv v d → Rp K Hv' v d
  | _, .none, _, _, h => by cases h; exact .non
  | _, .bool b, _, _, h => by cases h; exact .bl b
  | _, .int i, _, _, h => by cases h; exact .int i
  | _, .str x, _, _, h => by cases h; exact .str x
  | 0, .list ds, _, l, _ => by simp [pl] at l
  | n + 1, .list ds, _, l, h => by simp [pl] at l
  | 0, .tuple ds, _, l, _ => by simp [pl] at l
  | n + 1, .tuple ds, _, l, h => by
    cases h with
    | tup hs ha hl =>
      refine .tup ?_ (Rp.lessAll hv n ds _ (by simpa [pl] using l) ha) hl
      rcases hs with ⟨o, h, d⟩ | h
      · exact .inl ⟨o, hv _ _ h (by intro xs q; cases q), d⟩
      · exact .inr h
  | _, .dict kvs, _, l, h => by
    cases h with
    | hnd hm => exact .hnd (hv _ _ hm (by intro xs q; cases q))
theorem Rp.lessAll (hv : ∀ a o, Hv a = some o → (∀ xs, o ≠ .lst xs) → Hv' a = some o) : ∀ (n : Nat) (ds : List D) (vs : List V), (∀ d ∈ ds, pl n d = true) → RpAll K Hv vs ds → RpAll K Hv' vs ds
  | _, [], _, _, h => by cases h; exact .nil
  | n, d :: ds, _, l, h => by
    cases h with
    | cons h1 h2 => exact .cons (Rp.less hv n d _ (l d (by simp)) h1) (Rp.lessAll hv n ds _ (fun x hx => l x (by simp [hx])) h2)
end

theorem RpAll.length : ∀ {vs : List V} {ds : List D}, RpAll K H vs ds → vs.length = ds.length
  | _, _, .nil => rfl
  | _, _, .cons _ t => by simp [RpAll.length t]
theorem RpAll.get : ∀ {vs : List V} {ds : List D} {i : Nat} {d : D}, RpAll K H vs ds → ds[i]? = some d → ∃ v, vs[i]? = some v ∧ Rp K H v d
  | _, _, _, _, .nil, e => by simp at e
  | _, _, 0, _, .cons h _, e => by simp at e; subst e; exact ⟨_, rfl, h⟩
  | _, _, i + 1, _, .cons _ t, e => by
    obtain ⟨v, q, r⟩ := RpAll.get (i := i) t (by simpa using e)
    exact ⟨v, by simpa using q, r⟩
theorem RpAll.getV : ∀ {vs : List V} {ds : List D} {i : Nat} {v : V}, RpAll K H vs ds → vs[i]? = some v → ∃ d, ds[i]? = some d ∧ Rp K H v d
  | _, _, _, _, .nil, e => by simp at e
  | _, _, 0, _, .cons h _, e => by simp at e; subst e; exact ⟨_, rfl, h⟩
  | _, _, i + 1, _, .cons _ t, e => by
    obtain ⟨v, q, r⟩ := RpAll.getV (i := i) t (by simpa using e)
    exact ⟨v, by simpa using q, r⟩
theorem RpAll.append : ∀ {vs ws : List V} {ds es : List D}, RpAll K H vs ds → RpAll K H ws es → RpAll K H (vs ++ ws) (ds ++ es)
  | _, _, _, _, .nil, h => h
  | _, _, _, _, .cons a t, h => .cons a (RpAll.append t h)
theorem RpAll.drop : ∀ {vs : List V} {ds : List D} (n : Nat), RpAll K H vs ds → RpAll K H (vs.drop n) (ds.drop n)
  | _, _, 0, h => h
  | _, _, _ + 1, .nil => .nil
  | _, _, n + 1, .cons _ t => RpAll.drop n t
theorem RpAll.take : ∀ {vs : List V} {ds : List D} (n : Nat), RpAll K H vs ds → RpAll K H (vs.take n) (ds.take n)
  | _, _, 0, _ => .nil
  | _, _, _ + 1, .nil => .nil
  | _, _, n + 1, .cons a t => .cons a (RpAll.take n t)
theorem RpAll.set {v : V} {d : D} (r : Rp K H v d) : ∀ {vs : List V} {ds : List D} (i : Nat), RpAll K H vs ds → RpAll K H (vs.set i v) (ds.set i d)
  | _, _, _, .nil => .nil
  | _, _, 0, .cons _ t => .cons r t
  | _, _, i + 1, .cons q t => .cons q (RpAll.set r i t)
theorem RpAll.one {v : V} {d : D} (h : Rp K H v d) : RpAll K H [v] [d] := .cons h .nil
theorem RpAll.rev : ∀ {vs : List V} {ds : List D}, RpAll K H vs ds → RpAll K H vs.reverse ds.reverse
  | _, _, .nil => .nil
  | _, _, .cons a t => by
    rw [List.reverse_cons, List.reverse_cons]
    exact RpAll.append (RpAll.rev t) (.one a)
theorem RpAll.ints : ∀ (ns : List Int), RpAll K H (ns.map V.int) (ns.map PyData.int)
  | [] => .nil
  | n :: ns => .cons (.int n) (RpAll.ints ns)
/-- values of ints are these ints -/
theorem RpAll.of_ints : ∀ {vs : List V} {ns : List Int}, RpAll K H vs (ns.map PyData.int) → vs = ns.map V.int
  | [], [], _ => rfl
  | [], _ :: _, h => by cases h
  | _ :: _, [], h => by cases h
  | v :: vs, n :: ns, h => by
    cases h with
    | cons a t =>
      cases a
      rw [RpAll.of_ints t]
      rfl
theorem RpAll.of_strs : ∀ {vs : List V} {ns : List Str}, RpAll K H vs (ns.map PyData.str) → vs = ns.map V.str
  | [], [], _ => rfl
  | [], _ :: _, h => by cases h
  | _ :: _, [], h => by cases h
  | v :: vs, n :: ns, h => by
    cases h with
    | cons a t =>
      cases a
      rw [RpAll.of_strs t]
      rfl
theorem RpAll.of_bls : ∀ {vs : List V} {ns : List Bool}, RpAll K H vs (ns.map PyData.bool) → vs = ns.map V.bl
  | [], [], _ => rfl
  | [], _ :: _, h => by cases h
  | _ :: _, [], h => by cases h
  | v :: vs, n :: ns, h => by
    cases h with
    | cons a t =>
      cases a
      rw [RpAll.of_bls t]
      rfl
/-- permuting items -/
theorem RpAll.perm_mem {vs : List V} {ds : List D} (h : RpAll K H vs ds) : ∀ v ∈ vs, ∃ d ∈ ds, Rp K H v d := fun v hv => by
  obtain ⟨i, hi, e⟩ := List.mem_iff_getElem.mp hv
  obtain ⟨d, q, r⟩ := h.getV (i := i) (v := v) (by rw [List.getElem?_eq_getElem hi, e])
  exact ⟨d, List.mem_of_getElem? q, r⟩

/-! ### steps -/
structure Fw (Hv H Hv' H' : Hp) : Prop where
  ext : Same Hv Hv'
  vw : Vw Hv' H'
  keep : ∀ a o, Hv a = none → H a = some o → H' a = some o
  fresh : ∀ a, Hv a = none → Hv' a ≠ none → H a = none

theorem Fw.refl (h : Vw Hv H) : Fw Hv H Hv H := ⟨Same.refl _, h, fun _ _ _ e => e, fun _ e q => absurd e q⟩
theorem Fw.trans {Hv1 H1 Hv2 H2 : Hp} (a : Fw Hv H Hv1 H1) (b : Fw Hv1 H1 Hv2 H2) : Fw Hv H Hv2 H2 where
  ext := a.ext.trans b.ext
  vw := b.vw
  keep := fun x o e h => by
    refine b.keep x o ?_ (a.keep x o e h)
    cases q : Hv1 x with
    | none => rfl
    | some u =>
      have z := a.fresh x e (by rw [q]; simp)
      rw [z] at h
      cases h
  fresh := fun x e h => by
    cases q : Hv1 x with
    | some u => exact a.fresh x e (by rw [q]; simp)
    | none =>
      have z := b.fresh x q h
      cases y : H x with
      | none => rfl
      | some o =>
        rw [a.keep x o e y] at z
        cases z
theorem mark_ne_lst {xs : List V} : HO.lst xs ≠ mark := by intro q; cases q
theorem mark_ne_tup {its : List Value} {xs : List V} : tO its xs ≠ mark := by intro q; cases q
theorem Vw.none_of {a : Addr} (h : Vw Hv H) (e : H a = none) : Hv a = none := by
  cases q : Hv a with
  | none => rfl
  | some o =>
    rcases h a o q with ⟨_, ns, z, _⟩ | ⟨_, z⟩ <;> (rw [e] at z; cases z)
/-- a new object is laid and shown -/
theorem Fw.new {a : Addr} {o : HO} (h : Vw Hv H) (n : H a = none) (m : o ≠ mark) : Fw Hv H (upd Hv a o) (upd H a o) where
  ext := fun b u e => by
    have := h.none_of n
    rw [upd_ne (ne_of_none e this)]
    exact e
  vw := fun b u e => by
    by_cases q : b = a
    · subst q
      rw [upd_same] at e
      cases e
      exact .inr ⟨m, upd_same⟩
    · rw [upd_ne q] at e
      rcases h b u e with ⟨z, ns, y, w⟩ | ⟨z, y⟩
      · exact .inl ⟨z, ns, by rw [upd_ne q]; exact y, w⟩
      · exact .inr ⟨z, by rw [upd_ne q]; exact y⟩
  keep := fun b u _ e => by
    rw [upd_ne (ne_of_none e n)]
    exact e
  fresh := fun b e q => by
    by_cases z : b = a
    · rw [z]; exact n
    · rw [upd_ne z] at q
      exact absurd e q
/-- a new object is laid and not shown -/
theorem Fw.newU {a : Addr} {o : HO} (h : Vw Hv H) (n : H a = none) : Fw Hv H Hv (upd H a o) where
  ext := Same.refl _
  vw := fun b u e => by
    have q : b ≠ a := fun z => by
      rw [z, h.none_of n] at e
      cases e
    rcases h b u e with ⟨z, ns, y, w⟩ | ⟨z, y⟩
    · exact .inl ⟨z, ns, by rw [upd_ne q]; exact y, w⟩
    · exact .inr ⟨z, by rw [upd_ne q]; exact y⟩
  keep := fun b u _ e => by
    rw [upd_ne (ne_of_none e n)]
    exact e
  fresh := fun b e q => absurd e q
/-- an object of the heap that is not shown is shown -/
theorem Fw.show_ {a : Addr} {o : HO} (h : Vw Hv H) (m : o ≠ mark) (hv : Hv a = none) (e : H a = some o) : Vw (upd Hv a o) H := fun b u q => by
  by_cases z : b = a
  · subst z
    rw [upd_same] at q
    cases q
    exact .inr ⟨m, e⟩
  · rw [upd_ne z] at q
    exact h b u q
theorem same_upd {a : Addr} {o : HO} (hv : Hv a = none) : Same Hv (upd Hv a o) := fun b u e => by
  rw [upd_ne (ne_of_none e hv)]
  exact e
end
end J

/-! J2: slots, expressions. -/
namespace J
open PySem PySem.Spec PyProof.Rows L2

/-- a slot: nothing told; a datum; a list of the def's own (it may still be changed) -/
inductive Slot where
  | no
  | val (d : D)
  | own (ds : List D)
abbrev En := List Slot
def Slot.rd : Slot → Option D
  | .no => none
  | .val d => some d
  | .own ds => some (.list ds)
def rd (e : En) (i : Nat) : Option D := (e[i]?).bind Slot.rd

/-- all that a slot shows stands in the view -/
structure Er (K : PySem.W.Frag) (Hv : Hp) (e : En) (σ : L2.St) : Prop where
  len : e.length = σ.length
  get : ∀ i d, rd e i = some d → ∃ v, σ[i]? = some (some v) ∧ Rp K Hv v d
theorem Er.mono {K : PySem.W.Frag} {Hv Hv' : Hp} {e : En} {σ : L2.St} (h : Er K Hv e σ) (m : Same Hv Hv') : Er K Hv' e σ := ⟨h.len, fun i d q => by
  obtain ⟨v, a, b⟩ := h.get i d q
  exact ⟨v, a, b.mono m⟩⟩

abbrev EX := En → (D → Prop) → Prop
abbrev NX := En → (List D → Prop) → Prop
abbrev TX := En → (Bool → Prop) → Prop

def te (K : PySem.W.Frag) (m : EX) : TE := fun σ H Q => ∃ Hv e QD, Er K Hv e σ ∧ Vw Hv H ∧ m e QD ∧ ∀ d v Hv' H', Fw Hv H Hv' H' → Rp K Hv' v d → QD d → Q v H'
def tn (K : PySem.W.Frag) (m : NX) : TE := fun σ H Q => ∃ Hv e QD, Er K Hv e σ ∧ Vw Hv H ∧ m e QD ∧
  ∀ ds p xs Hv' H', Fw Hv H Hv' H' → Hv' p = none → H p = none → H' p = some (.lst xs) → RpAll K Hv' xs ds → ds.length ≤ sizeLine → QD ds → Q (.ref p) H'
def tt (K : PySem.W.Frag) (m : TX) : TT := fun σ H Q => ∃ Hv e QD, Er K Hv e σ ∧ Vw Hv H ∧ m e QD ∧ ∀ b Hv' H', Fw Hv H Hv' H' → QD b → Q b H'
def DE (X : Cx) (x : Expr) (m : EX) : Prop := PE X x (te X.K m)
def DN (X : Cx) (x : Expr) (m : NX) : Prop := PE X x (tn X.K m)
def DT (X : Cx) (x : Expr) (m : TX) : Prop := PT X x (tt X.K m)
def DW (X : Cx) (x : Expr) (m : TX) : Prop := PW X x (tt X.K m)

theorem peW {X : Cx} {x : Expr} {t t' : TE} (h : PE X x t) (w : ∀ σ H Q, t' σ H Q → t σ H Q) : PE X x t' := ⟨fun pins s σ H Q I q => h.run pins s σ H Q I (w σ H Q q)⟩
theorem ptW {X : Cx} {x : Expr} {t t' : TT} (h : PT X x t) (w : ∀ σ H Q, t' σ H Q → t σ H Q) : PT X x t' := ⟨fun pins s σ H Q I q => h.run pins s σ H Q I (w σ H Q q)⟩
theorem pwW {X : Cx} {x : Expr} {t t' : TT} (h : PW X x t) (w : ∀ σ H Q, t' σ H Q → t σ H Q) : PW X x t' := ⟨fun wh pins s σ H Q I q => h.run wh pins s σ H Q I (w σ H Q q)⟩

/-! ### arguments -/
def tas (K : PySem.W.Frag) : List EX → TA
  | [] => tNil
  | m :: ms => tCons (te K m) (tas K ms)
def evA : List EX → En → (List D → Prop) → Prop
  | [], _, Q => Q []
  | m :: ms, e, Q => m e fun d => evA ms e fun ds => Q (d :: ds)
def DA (X : Cx) (es : List Expr) (ms : List EX) : Prop := PA X es (tas X.K ms)
section
variable {X : Cx} {K : PySem.W.Frag} {x a b : Expr} {es : List Expr} {pos : Pos} {m ma mb : EX} {ms : List EX}
theorem da_nil : DA X [] [] := pa_nil
theorem da_cons (h : DE X x m) (t : DA X es ms) (hs : starEach (x :: es) X.env = (false, eval x X.env) :: starEach es X.env := by rfl) : DA X (x :: es) (m :: ms) := pa_cons h t hs
theorem tas_ok : ∀ (ms : List EX) {Hv H : Hp} {e : En} {σ : L2.St} {QD : List D → Prop} {Q : List V → Hp → Prop}, Er K Hv e σ → Vw Hv H → evA ms e QD →
    (∀ ds vs Hv' H', Fw Hv H Hv' H' → RpAll K Hv' vs ds → ds.length = ms.length → QD ds → Q vs H') → tas K ms σ H Q
  | [], Hv, H, e, σ, QD, Q, er, vw, h, k => k [] [] Hv H (.refl vw) .nil rfl h
  | m :: ms, Hv, H, e, σ, QD, Q, er, vw, h, k =>
    ⟨Hv, e, _, er, vw, h, fun d v Hv1 H1 f1 r1 q1 => tas_ok ms (er.mono f1.ext) f1.vw q1 fun ds vs Hv2 H2 f2 r2 l q2 =>
      k (d :: ds) (v :: vs) Hv2 H2 (f1.trans f2) (.cons (r1.mono f2.ext) r2) (by simp [l]) q2⟩

/-! ### names, constants -/
def eVar (i : Nat) : EX := fun e Q => ∃ d, rd e i = some d ∧ Q d
def eC (d : D) : EX := fun _ Q => Q d
theorem d_var (i : Nat) {x : Str} {pos : Pos} (hN : X.N[i]? = some x := by rfl) (hv : Vis X.env.scope x := by first | exact Or.inl rfl | exact Or.inr (Or.inl rfl) | exact Or.inr (Or.inr rfl)) (hd : (x == ("__debug__" : Str)) = false := by decide)
    (hcd : (x == ("__classdict__" : Str)) = false := by decide) : DE X (.Name x pos) (eVar i) :=
  peW (pe_var hN hv hd hcd) fun σ H Q ⟨Hv, e, QD, er, vw, ⟨d, hr, q⟩, k⟩ => by
    obtain ⟨v, a, b⟩ := er.get i d hr
    exact ⟨v, a, k d v Hv H (.refl vw) b q⟩
theorem d_const {v : V} {d : D} (h : PE X x (tC v)) (r : ∀ Hv, Rp X.K Hv v d) : DE X x (eC d) := peW h fun σ H Q ⟨Hv, e, QD, er, vw, q, k⟩ => k d v Hv H (.refl vw) (r Hv) q
theorem d_int {i j pos} : DE X (.Constant (.int i) j pos) (eC (.int i)) := d_const pe_int fun _ => .int i
theorem d_bl {b j pos} : DE X (.Constant (.bool b) j pos) (eC (.bool b)) := d_const pe_bl fun _ => .bl b
theorem d_non {j pos} : DE X (.Constant .none j pos) (eC .none) := d_const pe_non fun _ => .non
theorem d_str {x j pos} : DE X (.Constant (.str x) j pos) (eC (.str x)) := d_const pe_str fun _ => .str x

/-! ### operators -/
abbrev W2 := D → D → (D → Prop) → Prop
abbrev W1 := D → (D → Prop) → Prop
abbrev WL := List D → (D → Prop) → Prop
def rW2 (K : PySem.W.Frag) (W : W2) : R2 := fun x y H Q => ∃ Hv dx dy QD, Vw Hv H ∧ Rp K Hv x dx ∧ Rp K Hv y dy ∧ W dx dy QD ∧ ∀ d v Hv' H', Fw Hv H Hv' H' → Rp K Hv' v d → QD d → Q v H'
def rW1 (K : PySem.W.Frag) (W : W1) : V → Hp → VK → Prop := fun x H Q => ∃ Hv dx QD, Vw Hv H ∧ Rp K Hv x dx ∧ W dx QD ∧ ∀ d v Hv' H', Fw Hv H Hv' H' → Rp K Hv' v d → QD d → Q v H'
def rWL (K : PySem.W.Frag) (W : WL) : List V → Hp → VK → Prop := fun xs H Q => ∃ Hv ds QD, Vw Hv H ∧ RpAll K Hv xs ds ∧ W ds QD ∧ ∀ d v Hv' H', Fw Hv H Hv' H' → Rp K Hv' v d → QD d → Q v H'
def eOp (W : W2) (ma mb : EX) : EX := fun e Q => ma e fun x => mb e fun y => W x y Q
def eUn (W : W1) (ma : EX) : EX := fun e Q => ma e fun x => W x Q
def eCall (W : WL) (ms : List EX) : EX := fun e Q => evA ms e fun ds => W ds Q
theorem opW {f : Value → Value → Sem Value} {r r' : R2} (h : OpR X f r) (w : ∀ x y H Q, r' x y H Q → r x y H Q) : OpR X f r' := fun pins s σ H x y v u Q I rx ry q => h pins s σ H x y v u Q I rx ry (w x y H Q q)
theorem unW {f : Value → Sem Value} {r r' : V → Hp → VK → Prop} (h : UnR X f r) (w : ∀ x H Q, r' x H Q → r x H Q) : UnR X f r' := fun pins s σ H x v Q I rx q => h pins s σ H x v Q I rx (w x H Q q)
theorem callW {f : Value} {r r' : List V → Hp → VK → Prop} (h : CallR X f r) (w : ∀ x H Q, r' x H Q → r x H Q) : CallR X f r' := fun pins s σ H xs us Q I rx q => h pins s σ H xs us Q I rx (w xs H Q q)
theorem te_op {W : W2} {σ : L2.St} {H : Hp} {Q : VK} (h : te K (eOp W ma mb) σ H Q) : tOp (rW2 K W) (te K ma) (te K mb) σ H Q := by
  obtain ⟨Hv, e, QD, er, vw, hm, k⟩ := h
  exact ⟨Hv, e, _, er, vw, hm, fun d v Hv1 H1 f1 r1 q1 => ⟨Hv1, e, _, er.mono f1.ext, f1.vw, q1, fun d2 v2 Hv2 H2 f2 r2 q2 =>
    ⟨Hv2, d, d2, QD, f2.vw, r1.mono f2.ext, r2, q2, fun d3 v3 Hv3 H3 f3 r3 q3 => k d3 v3 Hv3 H3 (f1.trans (f2.trans f3)) r3 q3⟩⟩⟩
theorem d_op {op : Operator} {W : W2} (ho : OpR X (binaryOp op) (rW2 X.K W)) (ha : DE X a ma) (hb : DE X b mb) : DE X (.BinOp a op b pos) (eOp W ma mb) := peW (pe_op ho ha hb) fun _ _ _ h => te_op h
theorem d_un {op : UnaryOp} {W : W1} (ho : UnR X (unaryOp op) (rW1 X.K W)) (ha : DE X a ma) : DE X (.UnaryOp op a pos) (eUn W ma) := peW (pe_un ho ha) fun σ H Q ⟨Hv, e, QD, er, vw, hm, k⟩ =>
  ⟨Hv, e, _, er, vw, hm, fun d v Hv1 H1 f1 r1 q1 => ⟨Hv1, d, QD, f1.vw, r1, q1, fun d3 v3 Hv3 H3 f3 r3 q3 => k d3 v3 Hv3 H3 (f1.trans f3) r3 q3⟩⟩
theorem d_cmp {op : CmpOp} {W : W2} (ho : OpR X (compareOp op) (rW2 X.K W)) (ha : DE X a ma) (hb : DE X b mb) (hm : behindInMarks op b = false) : DE X (.Compare a [op] [b] pos) (eOp W ma mb) := peW (pe_cmpR ho ha hb hm) fun _ _ _ h => te_op h

/-! ### results that are scalars -/
theorem Fw.r {Hv H : Hp} (h : Vw Hv H) : Fw Hv H Hv H := .refl h

def MulOk (i j : Int) : Prop := CMul i j ∨ CMulW i j
def DivOk (i j : Int) : Prop := CDiv i j ∨ CDivW i j
def wAdd : W2
  | .int i, .int j, Q => Q (.int (i + j))
  | .tuple xs, .tuple ys, Q => xs.length + ys.length ≤ sizeLine ∧ Q (.tuple (xs ++ ys))
  | .list xs, .list ys, Q => xs.length + ys.length ≤ sizeLine ∧ Q (.list (xs ++ ys))
  | .str x, .str y, Q => x.length + y.length ≤ sizeLine ∧ Q (.str (x ++ y))
  | _, _, _ => False
def wSub : W2
  | .int i, .int j, Q => Q (.int (i - j))
  | _, _, _ => False
def wMul : W2
  | .int i, .int j, Q => MulOk i j ∧ Q (.int (i * j))
  | _, _, _ => False
def wDiv : W2
  | .int i, .int j, Q => DivOk i j ∧ Q (.int (i / j))
  | _, _, _ => False
def wMod : W2
  | .int i, .int j, Q => 0 < j ∧ Q (.int (i % j))
  | _, _, _ => False
def wPow : W2
  | .int i, .int j, Q => CPow i j ∧ Q (.int (i ^ j.toNat))
  | _, _, _ => False
def wNeg : W1
  | .int i, Q => Q (.int (-i))
  | _, _ => False
/-- a list's items joined: a new list (HandS's rule wants tracked lists; this one any) -/
theorem op_addJ : OpR X (binaryOp .Add) (rW2 X.K wAdd) := by
  intro pins s σ H x y v u Q I rx ry ⟨Hv, dx, dy, QD, vw, r1, r2, w, k⟩
  cases dx <;> cases dy <;> first | exact w.elim | skip
  · cases r1; cases r2
    exact op_add pins s σ H _ _ v u Q I rx ry ⟨_, _, rfl, rfl, k _ _ Hv H (.refl vw) (.int _) w⟩
  · cases r1; cases r2
    exact op_add_str pins s σ H _ _ v u Q I rx ry ⟨_, _, rfl, rfl, w.1, k _ _ Hv H (.refl vw) (.str _) w.2⟩
  · cases r1 with
    | @lst a xs ds hs ha hl =>
      cases r2 with
      | @lst b ys es hs2 ha2 hl2 =>
        cases rx; cases ry
        obtain ⟨its, rv, pl, hz⟩ := I.list (vw.sql hs)
        obtain ⟨its2, rv2, pl2, hz2⟩ := I.list (vw.sql hs2)
        have l1 := ha.length
        have l2 := ha2.length
        have w1 := w.1
        have e1 : xs.length + ys.length ≤ sizeLine := by rw [l1, l2]; exact w1
        obtain ⟨⟨c1, d1, t1, s1⟩, n1, g1, gc1, gd1, gt1⟩ := pl
        obtain ⟨⟨c2, d2, t2, s2⟩, n2, g2, gc2, gd2, gt2⟩ := pl2
        simp only at gc1 gd1 gt1 gc2 gd2 gt2
        subst gc1 gd1 gt1 gc2 gd2 gt2
        have hz3 : its.toArray.size + its2.toArray.size ≤ sizeLine := by
          rw [List.size_toArray, List.size_toArray, ← rv.length, ← rv2.length]; exact e1
        refine concat_meets ⟨_, g1, rfl⟩ ⟨_, g2, rfl⟩ noFill_list_add seq_list_add PySem.F.slot_list_add PySem.F.entry_list_add (PySem.F.args_list_add_2 _ _)
          (list_addW a b its.toArray its2.toArray n1 n2 none none s1 s2 hz3) ⟨g1, g2, ?_⟩
        have I1 : Inv X pins σ (upd H s.heap.objs.size (.lst (xs ++ ys))) { s with heap := s.heap.push { cls := .type "list", data := .seq (its.toArray ++ its2.toArray) } } :=
          I.laid (t' := s.toks) (fun b o e => Heap.get?_push_of_some _ e) (Nat.le_refl _) (show ObjOk X.prog X.w _ _ _ (.lst (xs ++ ys)) from ⟨by rw [List.length_append]; exact e1, its ++ its2, 0, rv.append rv2, by rw [show its.toArray ++ its2.toArray = (its ++ its2).toArray by simp]; exact Heap.get?_push_size _ rfl⟩)
        have hn := I.hok.fresh (Nat.le_refl s.heap.objs.size)
        have f := Fw.new (o := .lst (xs ++ ys)) vw hn mark_ne_lst
        exact ⟨.ref _, _, I1, rfl, k _ _ _ _ f (.lst (SqL.of upd_same) ((Rp.monoAll f.ext _ _ ha).append (Rp.monoAll f.ext _ _ ha2)) (by rw [List.length_append]; exact w.1)) w.2⟩
  · cases r1 with
    | @tup a xs ds hs ha hl =>
      cases r2 with
      | @tup b ys es hs2 ha2 hl2 =>
        have l1 := ha.length
        have l2 := ha2.length
        refine op_catJ pins s σ H _ _ v u Q I rx ry ⟨a, b, xs, ys, rfl, rfl, vw.sqt hs, vw.sqt hs2, by rw [l1, l2]; exact w.1, fun e => ?_, fun _ e => ?_, fun _ _ p its hp => ?_⟩
        · subst e
          cases ha
          exact k _ _ Hv H (.refl vw) (.tup hs2 ha2 hl2) w.2
        · subst e
          cases ha2
          exact k _ _ Hv H (.refl vw) (.tup hs (by rw [List.append_nil]; exact ha) (by rw [List.append_nil]; exact hl)) w.2
        · have f := Fw.new (o := tO its (xs ++ ys)) vw hp mark_ne_tup
          exact k _ _ _ _ f (.tup SqJ.of ((Rp.monoAll f.ext _ _ ha).append (Rp.monoAll f.ext _ _ ha2)) (by rw [List.length_append]; exact w.1)) w.2
theorem op_subJ : OpR X (binaryOp .Sub) (rW2 X.K wSub) := opW op_sub fun x y H Q ⟨Hv, dx, dy, QD, vw, r1, r2, w, k⟩ => by
  cases dx <;> cases dy <;> first | exact w.elim | skip
  cases r1; cases r2
  exact ⟨_, _, rfl, rfl, k _ _ Hv H (.refl vw) (.int _) w⟩
theorem op_mulJ : OpR X (binaryOp .Mult) (rW2 X.K wMul) := opW (op_mul.or op_mulW) fun x y H Q ⟨Hv, dx, dy, QD, vw, r1, r2, w, k⟩ => by
  cases dx <;> cases dy <;> first | exact w.elim | skip
  cases r1; cases r2
  rcases w.1 with c | c
  · exact .inl ⟨_, _, rfl, rfl, c, k _ _ Hv H (.refl vw) (.int _) w.2⟩
  · exact .inr ⟨_, _, rfl, rfl, c, k _ _ Hv H (.refl vw) (.int _) w.2⟩
theorem op_divJ : OpR X (binaryOp .FloorDiv) (rW2 X.K wDiv) := opW (op_fdiv.or op_fdivW) fun x y H Q ⟨Hv, dx, dy, QD, vw, r1, r2, w, k⟩ => by
  cases dx <;> cases dy <;> first | exact w.elim | skip
  cases r1; cases r2
  rcases w.1 with c | c
  · exact .inl ⟨_, _, rfl, rfl, c, k _ _ Hv H (.refl vw) (.int _) w.2⟩
  · exact .inr ⟨_, _, rfl, rfl, c, k _ _ Hv H (.refl vw) (.int _) w.2⟩
theorem op_modJ : OpR X (binaryOp .Mod) (rW2 X.K wMod) := opW op_mod fun x y H Q ⟨Hv, dx, dy, QD, vw, r1, r2, w, k⟩ => by
  cases dx <;> cases dy <;> first | exact w.elim | skip
  cases r1; cases r2
  exact ⟨_, _, rfl, rfl, w.1, k _ _ Hv H (.refl vw) (.int _) w.2⟩
theorem op_powJ : OpR X (binaryOp .Pow) (rW2 X.K wPow) := opW op_pow fun x y H Q ⟨Hv, dx, dy, QD, vw, r1, r2, w, k⟩ => by
  cases dx <;> cases dy <;> first | exact w.elim | skip
  cases r1; cases r2
  exact ⟨_, _, rfl, rfl, w.1, k _ _ Hv H (.refl vw) (.int _) w.2⟩
theorem un_negJ : UnR X (unaryOp .USub) (rW1 X.K wNeg) := unW un_neg fun x H Q ⟨Hv, dx, QD, vw, r1, w, k⟩ => by
  cases dx <;> first | exact w.elim | skip
  cases r1
  exact ⟨_, rfl, k _ _ Hv H (.refl vw) (.int _) w⟩

/-! ### comparisons -/
def lvl : Nat := 12
/-- < of tuples of ints -/
def toInts : List D → Option (List Int)
  | [] => some []
  | .int i :: r => (toInts r).map (i :: ·)
  | _ :: _ => none
theorem toInts_map (ns : List Int) : toInts (ns.map PyData.int) = some ns := by
  induction ns with
  | nil => rfl
  | cons n ns ih => show (toInts (ns.map PyData.int)).map (n :: ·) = _; rw [ih]; rfl
theorem of_toInts : ∀ {ds : List D} {ns : List Int}, toInts ds = some ns → ds = ns.map PyData.int
  | [], ns, h => by cases h; rfl
  | .int i :: r, ns, h => by
    have h' : (toInts r).map (i :: ·) = some ns := h
    cases e : toInts r with
    | none => rw [e] at h'; cases h'
    | some l =>
      rw [e] at h'
      cases h'
      rw [of_toInts e]
      rfl
  | .none :: _, _, h => by cases h
  | .bool _ :: _, _, h => by cases h
  | .str _ :: _, _, h => by cases h
  | .list _ :: _, _, h => by cases h
  | .tuple _ :: _, _, h => by cases h
  | .dict _ :: _, _, h => by cases h
/-- data that can be compared by < -/
def CmpOk (x y : D) : Prop := lv lvl x = true ∧ lv lvl y = true ∧ PySem.W.alike x y = true ∧ x ≠ .none
abbrev dLt (x y : D) : Bool := PySem.W.dataLt x y
def wLt : W2
  | .int i, .int j, Q => Q (.bool (decide (i < j)))
  | x, y, Q => CmpOk x y ∧ Q (.bool (dLt x y))
def wLe : W2
  | .int i, .int j, Q => Q (.bool (decide (i ≤ j)))
  | x, y, Q => CmpOk x y ∧ Q (.bool (!dLt y x))
def wGt : W2
  | .int i, .int j, Q => Q (.bool (decide (j < i)))
  | x, y, Q => CmpOk x y ∧ Q (.bool (dLt y x))
def wGe : W2
  | .int i, .int j, Q => Q (.bool (decide (j ≤ i)))
  | x, y, Q => CmpOk x y ∧ Q (.bool (!dLt x y))
def wEq : W2 := fun x y Q => lv lvl x = true ∧ lv lvl y = true ∧ Q (.bool (PyData.eqv x y))
def wNe : W2 := fun x y Q => lv lvl x = true ∧ lv lvl y = true ∧ Q (.bool (!PyData.eqv x y))
def isNon : D → Bool
  | .none => true
  | _ => false
def wIs : W2
  | x, .none, Q => Q (.bool (isNon x))
  | .bool a, .bool b, Q => Q (.bool (decide (a = b)))
  | _, _, _ => False
def wIsNot : W2
  | x, .none, Q => Q (.bool (!isNon x))
  | .bool a, .bool b, Q => Q (.bool (!decide (a = b)))
  | _, _, _ => False
def wIn : W2
  | x, .list ds, Q => lv lvl x = true ∧ ds.all (lv lvl) = true ∧ Q (.bool (ds.any fun z => PyData.eqv z x))
  | x, .tuple ds, Q => lv lvl x = true ∧ ds.all (lv lvl) = true ∧ Q (.bool (ds.any fun z => PyData.eqv z x))
  | _, _, _ => False
def wNotIn : W2
  | x, .list ds, Q => lv lvl x = true ∧ ds.all (lv lvl) = true ∧ Q (.bool (!ds.any fun z => PyData.eqv z x))
  | x, .tuple ds, Q => lv lvl x = true ∧ ds.all (lv lvl) = true ∧ Q (.bool (!ds.any fun z => PyData.eqv z x))
  | _, _, _ => False
theorem op_ltJ (hu : X.A.units + 65 < cLine) : OpR X (compareOp .Lt) (rW2 X.K wLt) := by
  intro pins s σ H x y v u Q I rx ry ⟨Hv, dx, dy, QD, vw, r1, r2, wq, k⟩
  by_cases hi : ∃ i j, dx = .int i ∧ dy = .int j
  · obtain ⟨i, j, rfl, rfl⟩ := hi
    cases r1; cases r2
    exact op_lt pins s σ H _ _ v u Q I rx ry ⟨_, _, rfl, rfl, k _ _ Hv H (.refl vw) (.bl _) wq⟩
  · have wq' : CmpOk dx dy ∧ QD (.bool (dLt dx dy)) := by
      cases dx <;> first | exact wq | (cases dy <;> first | exact wq | exact absurd ⟨_, _, rfl, rfl⟩ hi)
    obtain ⟨⟨l1, l2, al, hn⟩, q⟩ := wq'
    obtain ⟨as, q1⟩ := Dp.reads I _ _ _ (r1.dp vw _ _ _ l1) rx
    obtain ⟨bs, q2⟩ := Dp.reads I _ _ _ (r2.dp vw _ _ _ l2) ry
    have h1 := (lv_canLay _ _ l1).2
    exact PySem.W.lt_data q1 q2 al hn (by have : min dx.depth dy.depth ≤ lvl := Nat.le_trans (Nat.min_le_left _ _) h1; unfold lvl at this; omega) ⟨.bl _, H, I, rfl, k _ _ Hv H (.refl vw) (.bl _) q⟩
theorem op_leJ (hu : X.A.units + 65 < cLine) : OpR X (compareOp .LtE) (rW2 X.K wLe) := by
  intro pins s σ H x y v u Q I rx ry ⟨Hv, dx, dy, QD, vw, r1, r2, wq, k⟩
  by_cases hi : ∃ i j, dx = .int i ∧ dy = .int j
  · obtain ⟨i, j, rfl, rfl⟩ := hi
    cases r1; cases r2
    exact op_le pins s σ H _ _ v u Q I rx ry ⟨_, _, rfl, rfl, k _ _ Hv H (.refl vw) (.bl _) wq⟩
  · have wq' : CmpOk dx dy ∧ QD (.bool (!dLt dy dx)) := by
      cases dx <;> first | exact wq | (cases dy <;> first | exact wq | exact absurd ⟨_, _, rfl, rfl⟩ hi)
    obtain ⟨⟨l1, l2, al, hn⟩, q⟩ := wq'
    obtain ⟨as, q1⟩ := Dp.reads I _ _ _ (r1.dp vw _ _ _ l1) rx
    obtain ⟨bs, q2⟩ := Dp.reads I _ _ _ (r2.dp vw _ _ _ l2) ry
    have h1 := (lv_canLay _ _ l1).2
    exact PySem.W.le_data q1 q2 al hn (by have : min dx.depth dy.depth ≤ lvl := Nat.le_trans (Nat.min_le_left _ _) h1; unfold lvl at this; omega) ⟨.bl _, H, I, rfl, k _ _ Hv H (.refl vw) (.bl _) q⟩
theorem op_gtJ (hu : X.A.units + 65 < cLine) : OpR X (compareOp .Gt) (rW2 X.K wGt) := by
  intro pins s σ H x y v u Q I rx ry ⟨Hv, dx, dy, QD, vw, r1, r2, wq, k⟩
  by_cases hi : ∃ i j, dx = .int i ∧ dy = .int j
  · obtain ⟨i, j, rfl, rfl⟩ := hi
    cases r1; cases r2
    exact op_gt pins s σ H _ _ v u Q I rx ry ⟨_, _, rfl, rfl, k _ _ Hv H (.refl vw) (.bl _) wq⟩
  · have wq' : CmpOk dx dy ∧ QD (.bool (dLt dy dx)) := by
      cases dx <;> first | exact wq | (cases dy <;> first | exact wq | exact absurd ⟨_, _, rfl, rfl⟩ hi)
    obtain ⟨⟨l1, l2, al, hn⟩, q⟩ := wq'
    obtain ⟨as, q1⟩ := Dp.reads I _ _ _ (r1.dp vw _ _ _ l1) rx
    obtain ⟨bs, q2⟩ := Dp.reads I _ _ _ (r2.dp vw _ _ _ l2) ry
    have h1 := (lv_canLay _ _ l1).2
    exact PySem.W.gt_data q1 q2 al hn (by have : min dx.depth dy.depth ≤ lvl := Nat.le_trans (Nat.min_le_left _ _) h1; unfold lvl at this; omega) ⟨.bl _, H, I, rfl, k _ _ Hv H (.refl vw) (.bl _) q⟩
theorem op_geJ (hu : X.A.units + 65 < cLine) : OpR X (compareOp .GtE) (rW2 X.K wGe) := by
  intro pins s σ H x y v u Q I rx ry ⟨Hv, dx, dy, QD, vw, r1, r2, wq, k⟩
  by_cases hi : ∃ i j, dx = .int i ∧ dy = .int j
  · obtain ⟨i, j, rfl, rfl⟩ := hi
    cases r1; cases r2
    exact op_ge pins s σ H _ _ v u Q I rx ry ⟨_, _, rfl, rfl, k _ _ Hv H (.refl vw) (.bl _) wq⟩
  · have wq' : CmpOk dx dy ∧ QD (.bool (!dLt dx dy)) := by
      cases dx <;> first | exact wq | (cases dy <;> first | exact wq | exact absurd ⟨_, _, rfl, rfl⟩ hi)
    obtain ⟨⟨l1, l2, al, hn⟩, q⟩ := wq'
    obtain ⟨as, q1⟩ := Dp.reads I _ _ _ (r1.dp vw _ _ _ l1) rx
    obtain ⟨bs, q2⟩ := Dp.reads I _ _ _ (r2.dp vw _ _ _ l2) ry
    have h1 := (lv_canLay _ _ l1).2
    exact PySem.W.ge_data q1 q2 al hn (by have : min dx.depth dy.depth ≤ lvl := Nat.le_trans (Nat.min_le_left _ _) h1; unfold lvl at this; omega) ⟨.bl _, H, I, rfl, k _ _ Hv H (.refl vw) (.bl _) q⟩
theorem op_eqJ (hu : X.A.units + 64 < cLine) : OpR X (compareOp .Eq) (rW2 X.K wEq) := opW (op_eqD hu) fun x y H Q ⟨Hv, dx, dy, QD, vw, r1, r2, ⟨l1, l2, w⟩, k⟩ =>
  ⟨dx, dy, r1.dp vw _ _ _ l1, r2.dp vw _ _ _ l2, lv_shaped l1, lv_shaped l2, k _ _ Hv H (.refl vw) (.bl _) w⟩
theorem op_neJ (hu : X.A.units + 64 < cLine) : OpR X (compareOp .NotEq) (rW2 X.K wNe) := opW (op_neD hu) fun x y H Q ⟨Hv, dx, dy, QD, vw, r1, r2, ⟨l1, l2, w⟩, k⟩ =>
  ⟨dx, dy, r1.dp vw _ _ _ l1, r2.dp vw _ _ _ l2, lv_shaped l1, lv_shaped l2, k _ _ Hv H (.refl vw) (.bl _) w⟩
theorem Rp.isNon {H : Hp} {v : V} {d : D} (r : Rp K H v d) : decide (v = .non) = isNon d := by cases r <;> rfl
theorem op_isJ : OpR X (compareOp .Is) (rW2 X.K wIs) := opW (op_isN.or op_is_bl) fun x y H Q ⟨Hv, dx, dy, QD, vw, r1, r2, w, k⟩ => by
  cases dy with
  | none =>
    have w' : QD (.bool (isNon dx)) := by cases dx <;> exact w
    have e := r1.isNon
    cases r2
    exact .inl ⟨rfl, by rw [e]; exact k _ _ Hv H (.refl vw) (.bl _) w'⟩
  | bool b =>
    cases dx <;> first | exact w.elim | skip
    cases r1; cases r2
    exact .inr ⟨_, _, rfl, rfl, k _ _ Hv H (.refl vw) (.bl _) w⟩
  | int _ => cases dx <;> exact w.elim
  | str _ => cases dx <;> exact w.elim
  | list _ => cases dx <;> exact w.elim
  | tuple _ => cases dx <;> exact w.elim
  | dict _ => cases dx <;> exact w.elim
theorem op_isNotJ : OpR X (compareOp .IsNot) (rW2 X.K wIsNot) := opW (op_notN.or op_isnot_bl) fun x y H Q ⟨Hv, dx, dy, QD, vw, r1, r2, w, k⟩ => by
  cases dy with
  | none =>
    have w' : QD (.bool (!isNon dx)) := by cases dx <;> exact w
    have e := r1.isNon
    cases r2
    exact .inl ⟨rfl, by rw [e]; exact k _ _ Hv H (.refl vw) (.bl _) w'⟩
  | bool b =>
    cases dx <;> first | exact w.elim | skip
    cases r1; cases r2
    exact .inr ⟨_, _, rfl, rfl, k _ _ Hv H (.refl vw) (.bl _) w⟩
  | int _ => cases dx <;> exact w.elim
  | str _ => cases dx <;> exact w.elim
  | list _ => cases dx <;> exact w.elim
  | tuple _ => cases dx <;> exact w.elim
  | dict _ => cases dx <;> exact w.elim
theorem lvAll {n : Nat} {ds : List D} (h : ds.all (lv n) = true) : ∀ d ∈ ds, lv n d = true := List.all_eq_true.mp h
theorem op_inJ (hu : X.A.units + 65 < cLine) : OpR X (compareOp .In) (rW2 X.K wIn) := by
  intro pins s σ H x y v u Q I rx ry ⟨Hv, dx, dy, QD, vw, r1, r2, w, k⟩
  cases dy <;> first | exact w.elim | skip
  · obtain ⟨l1, l2, w⟩ := w
    have le : lv (lvl + 1) (.list ‹_›) = true := l2
    obtain ⟨as, q1⟩ := Dp.reads I _ _ _ (r1.dp vw _ _ _ l1) rx
    obtain ⟨bs, q2⟩ := Dp.reads I _ _ _ (r2.dp vw _ _ _ le) ry
    exact SeqAt.in_list_reads q2 q1 (SeqAt.canLay_of_shaped (lv_shaped le)) (SeqAt.canLay_of_shaped (lv_shaped l1)) (room_in_shaped (lv_shaped l1) hu) ⟨.bl _, H, I, rfl, k _ _ Hv H (.refl vw) (.bl _) w⟩
  · obtain ⟨l1, l2, w⟩ := w
    have le : lv (lvl + 1) (.tuple ‹_›) = true := l2
    obtain ⟨as, q1⟩ := Dp.reads I _ _ _ (r1.dp vw _ _ _ l1) rx
    obtain ⟨bs, q2⟩ := Dp.reads I _ _ _ (r2.dp vw _ _ _ le) ry
    exact SeqAt.in_tuple_reads q2 q1 (SeqAt.canLay_of_shaped (lv_shaped le)) (SeqAt.canLay_of_shaped (lv_shaped l1)) (room_in_shaped (lv_shaped l1) hu) ⟨.bl _, H, I, rfl, k _ _ Hv H (.refl vw) (.bl _) w⟩
theorem op_notInJ (hu : X.A.units + 65 < cLine) : OpR X (compareOp .NotIn) (rW2 X.K wNotIn) := by
  intro pins s σ H x y v u Q I rx ry ⟨Hv, dx, dy, QD, vw, r1, r2, w, k⟩
  cases dy <;> first | exact w.elim | skip
  · obtain ⟨l1, l2, w⟩ := w
    have le : lv (lvl + 1) (.list ‹_›) = true := l2
    obtain ⟨as, q1⟩ := Dp.reads I _ _ _ (r1.dp vw _ _ _ l1) rx
    obtain ⟨bs, q2⟩ := Dp.reads I _ _ _ (r2.dp vw _ _ _ le) ry
    exact SeqAt.notIn_list_reads q2 q1 (SeqAt.canLay_of_shaped (lv_shaped le)) (SeqAt.canLay_of_shaped (lv_shaped l1)) (room_in_shaped (lv_shaped l1) hu) ⟨.bl _, H, I, rfl, k _ _ Hv H (.refl vw) (.bl _) w⟩
  · obtain ⟨l1, l2, w⟩ := w
    have le : lv (lvl + 1) (.tuple ‹_›) = true := l2
    obtain ⟨as, q1⟩ := Dp.reads I _ _ _ (r1.dp vw _ _ _ l1) rx
    obtain ⟨bs, q2⟩ := Dp.reads I _ _ _ (r2.dp vw _ _ _ le) ry
    exact SeqAt.notIn_tuple_reads q2 q1 (SeqAt.canLay_of_shaped (lv_shaped le)) (SeqAt.canLay_of_shaped (lv_shaped l1)) (room_in_shaped (lv_shaped l1) hu) ⟨.bl _, H, I, rfl, k _ _ Hv H (.refl vw) (.bl _) w⟩

/-! ### tests, and, or, not -/
def wB : D → (Bool → Prop) → Prop
  | .bool b, Q => Q b
  | _, _ => False
def eAnd (ma mb : EX) : EX := fun e Q => ma e fun x => wB x fun b => if b = true then mb e Q else Q (.bool false)
def eOr (ma mb : EX) : EX := fun e Q => ma e fun x => wB x fun b => if b = true then Q (.bool true) else mb e Q
def eNot (ma : EX) : EX := fun e Q => ma e fun x => wB x fun b => Q (.bool (!b))
def tOf (m : EX) : TX := fun e Q => m e fun x => wB x Q
def tAndJ (ma mb : TX) : TX := fun e Q => ma e fun b => if b = true then mb e Q else Q false
def tOrJ (ma mb : TX) : TX := fun e Q => ma e fun b => if b = true then Q true else mb e Q
def tNotJ (ma : TX) : TX := fun e Q => ma e fun b => Q (!b)
def eIf (mt : TX) (ma mb : EX) : EX := fun e Q => mt e fun b => if b = true then ma e Q else mb e Q
theorem wB_bl {d : D} {Q : Bool → Prop} {H : Hp} {v : V} (r : Rp K H v d) (w : wB d Q) : ∃ b, d = .bool b ∧ v = .bl b ∧ Q b := by
  cases d <;> first | exact w.elim | skip
  cases r
  exact ⟨_, rfl, rfl, w⟩
variable {mt mu : TX} {rest : List Expr}
theorem d_one {op} (h : DE X a m) : DE X (.BoolOp op [a] pos) m := pe_one h
theorem d_and (ha : DE X a ma) (hb : DE X (.BoolOp .And (b :: rest) pos) mb) : DE X (.BoolOp .And (a :: b :: rest) pos) (eAnd ma mb) := peW (pe_and ha hb) fun σ H Q ⟨Hv, e, QD, er, vw, hm, k⟩ =>
  ⟨Hv, e, _, er, vw, hm, fun d v Hv1 H1 f1 r1 q1 => by
    obtain ⟨c, rfl, rfl, q1⟩ := wB_bl r1 q1
    refine ⟨c, rfl, ?_⟩
    cases c with
    | true => exact ⟨Hv1, e, QD, er.mono f1.ext, f1.vw, q1, fun d2 v2 Hv2 H2 f2 r2 q2 => k d2 v2 Hv2 H2 (f1.trans f2) r2 q2⟩
    | false => exact k _ _ Hv1 H1 f1 (.bl false) q1⟩
theorem d_or (ha : DE X a ma) (hb : DE X (.BoolOp .Or (b :: rest) pos) mb) : DE X (.BoolOp .Or (a :: b :: rest) pos) (eOr ma mb) := peW (pe_or ha hb) fun σ H Q ⟨Hv, e, QD, er, vw, hm, k⟩ =>
  ⟨Hv, e, _, er, vw, hm, fun d v Hv1 H1 f1 r1 q1 => by
    obtain ⟨c, rfl, rfl, q1⟩ := wB_bl r1 q1
    refine ⟨c, rfl, ?_⟩
    cases c with
    | false => exact ⟨Hv1, e, QD, er.mono f1.ext, f1.vw, q1, fun d2 v2 Hv2 H2 f2 r2 q2 => k d2 v2 Hv2 H2 (f1.trans f2) r2 q2⟩
    | true => exact k _ _ Hv1 H1 f1 (.bl true) q1⟩
theorem d_not (ha : DE X a ma) : DE X (.UnaryOp .Not a pos) (eNot ma) := peW (pe_not ha) fun σ H Q ⟨Hv, e, QD, er, vw, hm, k⟩ =>
  ⟨Hv, e, _, er, vw, hm, fun d v Hv1 H1 f1 r1 q1 => by
    obtain ⟨c, rfl, rfl, q1⟩ := wB_bl r1 q1
    exact ⟨c, rfl, k _ _ Hv1 H1 f1 (.bl _) q1⟩⟩
theorem d_if {c : Expr} (hc : DT X c mt) (ha : DE X a ma) (hb : DE X b mb) : DE X (.IfExp c a b pos) (eIf mt ma mb) := peW (pe_ifExp hc ha hb) fun σ H Q ⟨Hv, e, QD, er, vw, hm, k⟩ =>
  ⟨Hv, e, _, er, vw, hm, fun c Hv1 H1 f1 q1 => by
    cases c with
    | true => exact ⟨Hv1, e, QD, er.mono f1.ext, f1.vw, q1, fun d2 v2 Hv2 H2 f2 r2 q2 => k d2 v2 Hv2 H2 (f1.trans f2) r2 q2⟩
    | false => exact ⟨Hv1, e, QD, er.mono f1.ext, f1.vw, q1, fun d2 v2 Hv2 H2 f2 r2 q2 => k d2 v2 Hv2 H2 (f1.trans f2) r2 q2⟩⟩
theorem tt_of {σ : L2.St} {H : Hp} {Q : Bool → Hp → Prop} (h : tt K (tOf m) σ H Q) : te K m σ H fun x H' => ∃ c, x = .bl c ∧ Q c H' := by
  obtain ⟨Hv, e, QD, er, vw, hm, k⟩ := h
  exact ⟨Hv, e, _, er, vw, hm, fun d v Hv1 H1 f1 r1 q1 => by
    obtain ⟨c, rfl, rfl, q1⟩ := wB_bl r1 q1
    exact ⟨c, rfl, k _ _ _ f1 q1⟩⟩
/-- a call, a name, a subscript as a test -/
theorem dt_val (h : DE X x m) (he : ∀ whole, isTrue x X.env whole = (do let v ← whole; standAt x.pos; holding [v] (truthy v)) := by intro _; rfl) : DT X x (tOf m) := ptW (pt_val h he) fun _ _ _ h => tt_of h
theorem dt_cmp {op : CmpOp} {W : W2} (ho : OpR X (compareOp op) (rW2 X.K W)) (ha : DE X a ma) (hb : DE X b mb) (hm : behindInMarks op b = false) : DT X (.Compare a [op] [b] pos) (tOf (eOp W ma mb)) :=
  ptW (pt_cmpR ho ha hb hm) fun σ H Q h => te_op (by
    obtain ⟨Hv, e, QD, er, vw, q, k⟩ := tt_of h
    exact ⟨Hv, e, QD, er, vw, q, k⟩)
theorem dw_and1 (h : DT X a mt) : DW X (.BoolOp .And [a] pos) mt := pw_and1 h
theorem dw_or1 (h : DT X a mt) : DW X (.BoolOp .Or [a] pos) mt := pw_or1 h
theorem dw_and (ha : DT X a mt) (hb : DW X (.BoolOp .And (b :: rest) pos) mu) : DW X (.BoolOp .And (a :: b :: rest) pos) (tAndJ mt mu) := pwW (pw_and ha hb) fun σ H Q ⟨Hv, e, QD, er, vw, hm, k⟩ =>
  ⟨Hv, e, _, er, vw, hm, fun c Hv1 H1 f1 q1 => by
    cases c with
    | true => exact ⟨Hv1, e, QD, er.mono f1.ext, f1.vw, q1, fun b2 Hv2 H2 f2 q2 => k b2 Hv2 H2 (f1.trans f2) q2⟩
    | false => exact k _ Hv1 H1 f1 q1⟩
theorem dw_or (ha : DT X a mt) (hb : DW X (.BoolOp .Or (b :: rest) pos) mu) : DW X (.BoolOp .Or (a :: b :: rest) pos) (tOrJ mt mu) := pwW (pw_or ha hb) fun σ H Q ⟨Hv, e, QD, er, vw, hm, k⟩ =>
  ⟨Hv, e, _, er, vw, hm, fun c Hv1 H1 f1 q1 => by
    cases c with
    | false => exact ⟨Hv1, e, QD, er.mono f1.ext, f1.vw, q1, fun b2 Hv2 H2 f2 q2 => k b2 Hv2 H2 (f1.trans f2) q2⟩
    | true => exact k _ Hv1 H1 f1 q1⟩
theorem dt_w (h : DW X x mt) : DT X x mt := PW.pt h
theorem dt_not (h : DT X a mt) : DT X (.UnaryOp .Not a pos) (tNotJ mt) := ptW (pt_not h) fun σ H Q ⟨Hv, e, QD, er, vw, hm, k⟩ =>
  ⟨Hv, e, _, er, vw, hm, fun c Hv1 H1 f1 q1 => k _ Hv1 H1 f1 q1⟩
/-- a < b < c -/
def eChain (W W' : W2) (ma mb mc : EX) : EX := fun e Q => ma e fun x => mb e fun y => W x y fun z => wB z fun k => if k = true then mc e fun w => W' y w Q else Q (.bool false)
theorem d_chain {c : Expr} {mc : EX} {op op' : CmpOp} {W W' : W2} (ho : OpR X (compareOp op) (rW2 X.K W)) (ho' : OpR X (compareOp op') (rW2 X.K W')) (ha : DE X a ma) (hb : DE X b mb) (hc : DE X c mc)
    {P : Prop} (rule : ∀ {ta tb tc : TE}, PE X a ta → PE X b tb → PE X c tc → PE X x (tChain (rW2 X.K W) (rW2 X.K W') ta tb tc)) : DE X x (eChain W W' ma mb mc) := peW (rule ha hb hc) fun σ H Q ⟨Hv, e, QD, er, vw, hm, k⟩ =>
  ⟨Hv, e, _, er, vw, hm, fun d v Hv1 H1 f1 r1 q1 => ⟨Hv1, e, _, er.mono f1.ext, f1.vw, q1, fun d2 v2 Hv2 H2 f2 r2 q2 => ⟨Hv2, d, d2, _, f2.vw, r1.mono f2.ext, r2, q2, fun d3 v3 Hv3 H3 f3 r3 q3 => by
    obtain ⟨c, rfl, rfl, q3⟩ := wB_bl r3 q3
    refine ⟨c, rfl, ?_⟩
    cases c with
    | false => exact k _ _ Hv3 H3 (f1.trans (f2.trans f3)) (.bl false) q3
    | true => exact ⟨Hv3, e, _, er.mono (f1.trans (f2.trans f3)).ext, f3.vw, q3, fun d4 v4 Hv4 H4 f4 r4 q4 => ⟨Hv4, d2, d4, QD, f4.vw, (r2.mono f3.ext).mono f4.ext, r4, q4, fun d5 v5 Hv5 H5 f5 r5 q5 => k d5 v5 Hv5 H5 (f1.trans (f2.trans (f3.trans (f4.trans f5)))) r5 q5⟩⟩⟩⟩⟩
end
end J

/-! J3: displays, subscripts, slices, calls of built-ins, what is walked, comprehensions. -/
namespace J
open PySem PySem.Spec PyProof.Rows L2

section
variable {X : Cx} {K : PySem.W.Frag} {x a b : Expr} {es : List Expr} {pos : Pos} {m ma mb : EX} {ms : List EX} {n : NX}

/-! ### displays -/
def eTup (ms : List EX) : EX := fun e Q => evA ms e fun ds => Q (.tuple ds)
def nLst (ms : List EX) : NX := fun e Q => evA ms e Q
/-- a new list as a value -/
def eFr (n : NX) : EX := fun e Q => n e fun ds => Q (.list ds)
theorem d_tup {x1} (h : DA X es ms) (hl : ms.length ≤ 1000 := by decide) : DE X (.Tuple es x1 pos) (eTup ms) := peW (pe_tupJ h) fun σ H Q ⟨Hv, e, QD, er, vw, hm, k⟩ =>
  tas_ok ms er vw hm fun ds vs Hv1 H1 f r l q => by
    have e1 := r.length
    have e2 : ds.length ≤ sizeLine := by rw [l]; exact Nat.le_trans hl (by decide)
    refine ⟨by rw [e1]; exact e2, fun p its hp => ?_⟩
    have g := Fw.new (o := tO its vs) f.vw hp mark_ne_tup
    exact k _ _ _ _ (f.trans g) (.tup SqJ.of (Rp.monoAll g.ext _ _ r) e2) q
theorem n_lst (h : DA X es ms) (hl : ms.length ≤ 1000 := by decide) : DN X (.List es pos) (nLst ms) := peW (pe_lst h) fun σ H Q ⟨Hv, e, QD, er, vw, hm, k⟩ =>
  tas_ok ms er vw hm fun ds vs Hv1 H1 f r l q => by
    have e1 := r.length
    have e2 : ds.length ≤ sizeLine := by rw [l]; exact Nat.le_trans hl (by decide)
    refine ⟨by rw [e1]; exact e2, fun p hp => ?_⟩
    have g := Fw.newU (o := .lst vs) f.vw hp
    refine k ds p vs Hv1 _ (f.trans g) (f.vw.none_of hp) ?_ upd_same r e2 q
    cases z : H p with
    | none => rfl
    | some o =>
      cases y : Hv p with
      | none => rw [f.keep p o y z] at hp; cases hp
      | some u =>
        have := f.vw.none_of hp
        rw [f.ext p u y] at this
        cases this
theorem d_of_n (h : DN X x n) : DE X x (eFr n) := peW h fun σ H Q ⟨Hv, e, QD, er, vw, hm, k⟩ => ⟨Hv, e, _, er, vw, hm, fun ds p xs Hv1 H1 f hv hp hl r l q => by
  have g : Fw Hv H (upd Hv1 p (.lst xs)) H1 := ⟨f.ext.trans (same_upd hv), Fw.show_ f.vw mark_ne_lst hv hl, f.keep, fun c e1 e2 => by
    by_cases z : c = p
    · rw [z]; exact hp
    · rw [upd_ne z] at e2
      exact f.fresh c e1 e2⟩
  exact k _ _ _ _ g (.lst (SqL.of upd_same) (Rp.monoAll (same_upd hv) _ _ r) l) q⟩
/-- a new address is new to all that came before -/
theorem Fw.fresh_at {Hv H Hv1 H1 : Hp} (f : Fw Hv H Hv1 H1) {p : Addr} (hp : H1 p = none) : H p = none := by
  cases z : H p with
  | none => rfl
  | some o =>
    cases y : Hv p with
    | none => rw [f.keep p o y z] at hp; cases hp
    | some u =>
      have := f.vw.none_of hp
      rw [f.ext p u y] at this
      cases this

/-! ### subscripts -/
theorem RpAll.at {H : Hp} {vs : List V} {ds : List D} (r : RpAll K H vs ds) {i : Int} {d : D} (h : atI ds i = some d) : ∃ v, atI vs i = some v ∧ Rp K H v d := by
  unfold atI at h ⊢
  rw [r.length]
  cases e : ixN ds.length i with
  | none => rw [e] at h; cases h
  | some j =>
    rw [e] at h
    exact r.get h
def wIx : W2
  | .list ds, .int i, Q => ∃ d, atI ds i = some d ∧ Q d
  | .tuple ds, .int i, Q => ∃ d, atI ds i = some d ∧ Q d
  | .str z, .int i, Q => z.length ≤ sizeLine ∧ ∃ c, atI z.cps.toList i = some c ∧ Q (.str ⟨#[c]⟩)
  | _, _, _ => False
theorem ixW {r r' : R2} (h : IxR X r) (w : ∀ x y H Q, r' x y H Q → r x y H Q) : IxR X r' := fun value slice pins s σ H x y v u Q I rx ry q hs => h value slice pins s σ H x y v u Q I rx ry (w x y H Q q) hs
theorem ixJ : IxR X (rW2 X.K wIx) := ixW ix_seq fun x y H Q ⟨Hv, dx, dy, QD, vw, r1, r2, w, k⟩ => by
  cases dx <;> cases dy <;> first | exact w.elim | skip
  · cases r1; cases r2
    obtain ⟨hz, c, hc, w⟩ := w
    exact .inr (.inr ⟨_, _, c, rfl, rfl, hz, hc, k _ _ Hv H (.refl vw) (.str _) w⟩)
  · obtain ⟨d, hd, w⟩ := w
    cases r1 with
    | @lst a xs ds hs ha hl =>
      cases r2
      obtain ⟨v, hv, rv⟩ := ha.at hd
      exact .inl ⟨a, xs, _, v, rfl, rfl, vw.sql hs, hv, k _ _ Hv H (.refl vw) rv w⟩
  · obtain ⟨d, hd, w⟩ := w
    cases r1 with
    | @tup a xs ds hs ha hl =>
      cases r2
      obtain ⟨v, hv, rv⟩ := ha.at hd
      exact .inr (.inl ⟨a, xs, _, v, rfl, rfl, vw.sqt hs, hv, k _ _ Hv H (.refl vw) rv w⟩)
theorem d_ix (ha : DE X a ma) (hb : DE X b mb) (hs : PlainIx b := by intro _ _; rfl) : DE X (.Subscript a b pos) (eOp wIx ma mb) := peW (pe_ix ixJ ha hb hs) fun _ _ _ h => te_op h

/-! ### slices -/
abbrev PX := En → (Option Int → Prop) → Prop
def tpO (K : PySem.W.Frag) (m : PX) : TO := fun σ H Q => ∃ Hv e QD, Er K Hv e σ ∧ Vw Hv H ∧ m e QD ∧ ∀ o Hv' H', Fw Hv H Hv' H' → QD o → Q o H'
def DP (X : Cx) (o : Option Expr) (m : PX) : Prop := PO X o (tpO X.K m)
def pNo : PX := fun _ Q => Q none
def wI : D → (Int → Prop) → Prop
  | .int i, Q => Q i
  | _, _ => False
def pSo (m : EX) : PX := fun e Q => m e fun d => wI d fun i => Q (some i)
theorem poW {o : Option Expr} {t t' : TO} (h : PO X o t) (w : ∀ σ H Q, t' σ H Q → t σ H Q) : PO X o t' := ⟨fun pins s σ H Q I q => h.run pins s σ H Q I (w σ H Q q)⟩
theorem dp_no : DP X none pNo := poW po_none fun σ H Q ⟨Hv, e, QD, er, vw, hm, k⟩ => k none Hv H (.refl vw) hm
theorem dp_so (h : DE X x m) : DP X (some x) (pSo m) := poW (po_some h) fun σ H Q ⟨Hv, e, QD, er, vw, hm, k⟩ => ⟨Hv, e, _, er, vw, hm, fun d v Hv1 H1 f r q => by
  cases d <;> first | exact q.elim | skip
  cases r
  exact ⟨_, rfl, k _ _ _ f q⟩⟩
def cutD {α : Type} (xs : List α) (lo hi : Option Int) : List α := (xs.drop (HT.sIx xs.length 0 lo)).take (HT.sIx xs.length xs.length hi - HT.sIx xs.length 0 lo)
theorem cutD_length {α : Type} (xs : List α) (lo hi : Option Int) : (cutD xs lo hi).length ≤ xs.length := by
  unfold cutD
  rw [List.length_take, List.length_drop]
  omega
theorem RpAll.cut {H : Hp} {vs : List V} {ds : List D} (r : RpAll K H vs ds) (lo hi : Option Int) : RpAll K H (cutV vs lo hi) (cutD ds lo hi) := by
  unfold cutV cutD
  rw [r.length]
  exact (r.drop _).take _
abbrev W3 := D → Option Int → Option Int → (D → Prop) → Prop
def wSl : W3
  | .tuple ds, lo, hi, Q => Q (.tuple (cutD ds lo hi))
  | .list ds, lo, hi, Q => Q (.list (cutD ds lo hi))
  | .str z, lo, hi, Q => z.length ≤ sizeLine ∧ Q (.str (Txt.slice z lo hi))
  | _, _, _, _ => False
def eSl (ma : EX) (lo hi : PX) : EX := fun e Q => ma e fun x => lo e fun l => hi e fun h => wSl x l h Q
theorem cut_whole {α : Type} {xs : List α} {lo hi : Option Int} (h : HT.sIx xs.length 0 lo = 0 ∧ HT.sIx xs.length xs.length hi = xs.length) : cutD xs lo hi = xs := by
  unfold cutD
  rw [h.1, h.2]
  simp
theorem slJ : SlR X (fun x lo hi H Q => ∃ Hv dx QD, Vw Hv H ∧ Rp X.K Hv x dx ∧ wSl dx lo hi QD ∧ ∀ d v Hv' H', Fw Hv H Hv' H' → Rp X.K Hv' v d → QD d → Q v H') := by
  intro pins s σ H x v vl vu lo hi sl Q I rx hs pl pu ⟨Hv, dx, QD, vw, r1, w, k⟩
  cases dx <;> first | exact w.elim | skip
  · cases r1
    exact C8.sl_txt pins s σ H _ v vl vu lo hi sl Q I rx hs pl pu ⟨_, rfl, w.1, k _ _ Hv H (.refl vw) (.str _) w.2⟩
  · cases r1 with
    | @lst a xs ds h1 ha hl =>
      refine sl_list pins s σ H _ v vl vu lo hi sl Q I rx hs pl pu ⟨a, xs, rfl, vw.sql h1, fun p hp => ?_⟩
      have g := Fw.new (o := .lst (cutV xs lo hi)) vw hp mark_ne_lst
      exact k _ _ _ _ g (.lst (SqL.of upd_same) (Rp.monoAll g.ext _ _ (ha.cut lo hi)) (Nat.le_trans (cutD_length _ _ _) hl)) w
  · cases r1 with
    | @tup a xs ds h1 ha hl =>
      refine sl_tupJ pins s σ H _ v vl vu lo hi sl Q I rx hs pl pu ⟨a, xs, rfl, vw.sqt h1, fun hw => ?_, fun _ p its hp => ?_⟩
      · refine k _ _ Hv H (.refl vw) (.tup h1 ?_ (Nat.le_trans (cutD_length _ _ _) hl)) w
        rw [ha.length] at hw
        rw [cut_whole hw]
        exact ha
      · have g := Fw.new (o := tO its (cutV xs lo hi)) vw hp mark_ne_tup
        exact k _ _ _ _ g (.tup SqJ.of (Rp.monoAll g.ext _ _ (ha.cut lo hi)) (Nat.le_trans (cutD_length _ _ _) hl)) w
variable {lo hi : Option Expr} {p2 : Pos}
theorem d_sl {ml mh : PX} (he : DE X a ma) (hl : DP X lo ml) (hu : DP X hi mh) : DE X (.Subscript a (.Slice lo hi none p2) pos) (eSl ma ml mh) := peW (pe_slice slJ he hl hu) fun σ H Q ⟨Hv, e, QD, er, vw, hm, k⟩ =>
  ⟨Hv, e, _, er, vw, hm, fun d v Hv1 H1 f1 r1 q1 => ⟨Hv1, e, _, er.mono f1.ext, f1.vw, q1, fun l Hv2 H2 f2 q2 => ⟨Hv2, e, _, (er.mono f1.ext).mono f2.ext, f2.vw, q2, fun h Hv3 H3 f3 q3 =>
    ⟨Hv3, d, QD, f3.vw, (r1.mono f2.ext).mono f3.ext, q3, fun d4 v4 Hv4 H4 f4 r4 q4 => k d4 v4 Hv4 H4 (f1.trans (f2.trans (f3.trans f4))) r4 q4⟩⟩⟩⟩

/-! ### calls of built-ins -/
theorem te_call {W : WL} {σ : L2.St} {H : Hp} {Q : VK} (h : te K (eCall W ms) σ H Q) : tCB (rWL K W) (tas K ms) σ H Q := by
  obtain ⟨Hv, e, QD, er, vw, hm, k⟩ := h
  exact tas_ok ms er vw hm fun ds vs Hv1 H1 f r l q => ⟨Hv1, ds, QD, f.vw, r, q, fun d v Hv2 H2 f2 r2 q2 => k d v Hv2 H2 (f.trans f2) r2 q2⟩
variable {f : Str} {p : Pos} {id T : String} {W : WL}
theorem d_callB (hc : CallR X (.builtin id) (rWL X.K W)) (hg : Gl X f) (hm : X.mg f = none) (hv : bootBuiltins f = some (.builtin id)) (ha : DA X (a :: es) ms) (hn : f ≠ "__name__" := by decide) (hdb : (f == ("__debug__" : Str)) = false := by decide)
    (h1 : starEach (a :: es) X.env = (false, eval a X.env) :: starEach es X.env := by rfl) (h2 : ((backTo pos (starEach es X.env)).any fun x => x.fst) = false := by rfl) : DE X (.Call (.Name f p) (a :: es) [] pos) (eCall W ms) :=
  peW (pe_callB hc hg hm hv ha hn hdb h1 h2) fun _ _ _ h => te_call h
theorem d_callTy (hc : CallR X (.type T) (rWL X.K W)) (hg : Gl X f) (hm : X.mg f = none) (hv : bootBuiltins f = some (.type T)) (ha : DA X (a :: es) ms) (hn : f ≠ "__name__" := by decide) (hdb : (f == ("__debug__" : Str)) = false := by decide)
    (h1 : starEach (a :: es) X.env = (false, eval a X.env) :: starEach es X.env := by rfl) (h2 : ((backTo pos (starEach es X.env)).any fun x => x.fst) = false := by rfl) : DE X (.Call (.Name f p) (a :: es) [] pos) (eCall W ms) :=
  peW (pe_callTy hc hg hm hv ha hn hdb h1 h2) fun _ _ _ h => te_call h
def wLen : WL
  | [.list ds], Q => Q (.int (ds.length : Int))
  | [.tuple ds], Q => Q (.int (ds.length : Int))
  | [.str z], Q => z.length ≤ sizeLine ∧ Q (.int (z.length : Int))
  | _, _ => False
def wAbs : WL
  | [.int i], Q => Q (.int (i.natAbs : Int))
  | _, _ => False
def b2n (b : Bool) : Int := if b then 1 else 0
def wInt : WL
  | [.int i], Q => Q (.int i)
  | [.bool b], Q => Q (.int (b2n b))
  | _, _ => False
def wMax2 : WL
  | [.int i, .int j], Q => Q (.int (max i j))
  | _, _ => False
def wMin2 : WL
  | [.int i, .int j], Q => Q (.int (min i j))
  | _, _ => False
/-- the shapes of an argument list -/
theorem rp1 {H : Hp} {vs : List V} {d : D} (r : RpAll K H vs [d]) : ∃ v, vs = [v] ∧ Rp K H v d := by
  cases r with
  | cons h t => cases t; exact ⟨_, rfl, h⟩
theorem rp2 {H : Hp} {vs : List V} {d d' : D} (r : RpAll K H vs [d, d']) : ∃ v v', vs = [v, v'] ∧ Rp K H v d ∧ Rp K H v' d' := by
  cases r with
  | cons h t =>
    obtain ⟨v, rfl, h'⟩ := rp1 t
    exact ⟨_, _, rfl, h, h'⟩
theorem call_lenJ : CallR X (.builtin "len") (rWL X.K wLen) := callW (call_len_seq.or call_len_str) fun xs H Q ⟨Hv, ds, QD, vw, r, w, k⟩ => by
  unfold wLen at w
  split at w
  · obtain ⟨v, rfl, h⟩ := rp1 r
    cases h with
    | @lst a xs ds hs ha hl =>
      refine .inl ⟨a, xs, rfl, .inl (vw.sql hs), ?_⟩
      rw [ha.length]
      exact k _ _ Hv H (.refl vw) (.int _) w
  · obtain ⟨v, rfl, h⟩ := rp1 r
    cases h with
    | @tup a xs ds hs ha hl =>
      refine .inl ⟨a, xs, rfl, .inr (vw.sqt hs), ?_⟩
      rw [ha.length]
      exact k _ _ Hv H (.refl vw) (.int _) w
  · obtain ⟨v, rfl, h⟩ := rp1 r
    cases h
    exact .inr ⟨_, rfl, w.1, k _ _ Hv H (.refl vw) (.int _) w.2⟩
  · exact w.elim
theorem call_absJ : CallR X (.builtin "abs") (rWL X.K wAbs) := callW call_abs fun xs H Q ⟨Hv, ds, QD, vw, r, w, k⟩ => by
  unfold wAbs at w
  split at w
  · rename_i Q' i
    obtain ⟨v, rfl, h⟩ := rp1 r
    cases h
    refine ⟨_, rfl, ?_⟩
    have e : (if i < 0 then -i else i) = (i.natAbs : Int) := by split <;> omega
    rw [e]
    exact k _ _ Hv H (.refl vw) (.int _) w
  · exact w.elim
theorem call_intJ : CallR X (.type "int") (rWL X.K wInt) := callW call_int1 fun xs H Q ⟨Hv, ds, QD, vw, r, w, k⟩ => by
  unfold wInt at w
  split at w
  · obtain ⟨v, rfl, h⟩ := rp1 r
    cases h
    exact .inl ⟨_, rfl, k _ _ Hv H (.refl vw) (.int _) w⟩
  · obtain ⟨v, rfl, h⟩ := rp1 r
    cases h
    exact .inr ⟨_, rfl, k _ _ Hv H (.refl vw) (.int _) w⟩
  · exact w.elim
theorem call_max2J (hc : X.calm = true) : CallR X (.builtin "max") (rWL X.K wMax2) := callW (call_max2 hc) fun xs H Q ⟨Hv, ds, QD, vw, r, w, k⟩ => by
  unfold wMax2 at w
  split at w
  · rename_i Q' i j
    obtain ⟨v, v', rfl, h, h'⟩ := rp2 r
    cases h; cases h'
    refine ⟨_, _, rfl, ?_⟩
    have e : (if j > i then j else i) = max i j := by split <;> omega
    rw [e]
    exact k _ _ Hv H (.refl vw) (.int _) w
  · exact w.elim
theorem call_min2J (hc : X.calm = true) : CallR X (.builtin "min") (rWL X.K wMin2) := callW (call_min2 hc) fun xs H Q ⟨Hv, ds, QD, vw, r, w, k⟩ => by
  unfold wMin2 at w
  split at w
  · rename_i Q' i j
    obtain ⟨v, v', rfl, h, h'⟩ := rp2 r
    cases h; cases h'
    refine ⟨_, _, rfl, ?_⟩
    have e : (if j < i then j else i) = min i j := by split <;> omega
    rw [e]
    exact k _ _ Hv H (.refl vw) (.int _) w
  · exact w.elim
/-- tuple(x) -/
def wTuple : W1
  | .list ds, Q => Q (.tuple ds)
  | .tuple ds, Q => Q (.tuple ds)
  | _, _ => False
theorem d_tuple {p pos : Pos} (hg : Gl X "tuple") (hm : X.mg "tuple" = none) (ha : DE X a ma) (na : starEach [a] X.env = (false, eval a X.env) :: starEach [] X.env := by rfl) : DE X (.Call (.Name "tuple" p) [a] [] pos) (eUn wTuple ma) :=
  peW (pe_tupleOfJ hg hm ha na) fun σ H Q ⟨Hv, e, QD, er, vw, h, k⟩ => ⟨Hv, e, _, er, vw, h, fun d v Hv1 H1 f r q => by
    cases d <;> first | exact q.elim | skip
    · cases r with
      | @lst a xs ds hs ha hl =>
        refine .inl ⟨a, xs, rfl, f.vw.sql hs, fun p its hp => ?_⟩
        have g := Fw.new (o := tO its xs) f.vw hp mark_ne_tup
        exact k _ _ _ _ (f.trans g) (.tup SqJ.of (Rp.monoAll g.ext _ _ ha) hl) q
    · cases r with
      | @tup a xs ds hs ha hl => exact .inr ⟨a, xs, rfl, f.vw.sqt hs, k _ _ _ _ f (.tup hs ha hl) q⟩⟩
/-- list(x) -/
def seqOf : D → (List D → Prop) → Prop
  | .list ds, Q => Q ds
  | .tuple ds, Q => Q ds
  | _, _ => False
def nList (m : EX) : NX := fun e Q => m e fun d => seqOf d Q
theorem Fw.newList {Hv H : Hp} {p : Addr} {o : HO} (vw : Vw Hv H) (hp : H p = none) : Fw Hv H Hv (upd H p o) ∧ Hv p = none := ⟨Fw.newU vw hp, vw.none_of hp⟩
theorem n_list {p pos : Pos} (hg : Gl X "list") (hm : X.mg "list" = none) (ha : DE X a ma) (h1 : starEach [a] X.env = (false, eval a X.env) :: starEach [] X.env := by rfl) (h2 : ((backTo pos (starEach [] X.env)).any fun x => x.fst) = false := by rfl) :
    DN X (.Call (.Name "list" p) [a] [] pos) (nList ma) :=
  peW (pe_callTy call_list_of hg hm boot_list (pa_cons ha pa_nil h1) (by decide) (by decide) h1 h2) fun σ H Q ⟨Hv, e, QD, er, vw, h, k⟩ => ⟨Hv, e, _, er, vw, h, fun d v Hv1 H1 f r q => by
    cases d <;> first | exact q.elim | skip
    · cases r with
      | @lst a xs ds hs ha hl =>
        refine ⟨a, xs, rfl, .inl (f.vw.sql hs), fun p hp => ?_⟩
        exact k _ _ _ _ _ (f.trans (Fw.newU f.vw hp)) (f.vw.none_of hp) (f.fresh_at hp) upd_same ha hl q
    · cases r with
      | @tup a xs ds hs ha hl =>
        refine ⟨a, xs, rfl, .inr (f.vw.sqt hs), fun p hp => ?_⟩
        exact k _ _ _ _ _ (f.trans (Fw.newU f.vw hp)) (f.vw.none_of hp) (f.fresh_at hp) upd_same ha hl q⟩
/-- ranges -/
abbrev RX := En → (Int → Int → Prop) → Prop
def trg (K : PySem.W.Frag) (m : RX) : L2.St → Hp → (Int → Int → Hp → Prop) → Prop := fun σ H Q => ∃ Hv e QD, Er K Hv e σ ∧ Vw Hv H ∧ m e QD ∧ ∀ i j Hv' H', Fw Hv H Hv' H' → QD i j → Q i j H'
def DR (X : Cx) (x : Expr) (m : RX) : Prop := PRg X x (trg X.K m)
theorem prgW {x : Expr} {t t' : L2.St → Hp → (Int → Int → Hp → Prop) → Prop} (h : PRg X x t) (w : ∀ σ H Q, t' σ H Q → t σ H Q) : PRg X x t' := fun pins s σ H Q I q => h pins s σ H Q I (w σ H Q q)
def rg1 (m : EX) : RX := fun e Q => m e fun d => wI d fun n => Q 0 n
def rg2 (ma mb : EX) : RX := fun e Q => ma e fun d => mb e fun d' => wI d fun i => wI d' fun j => Q i j
theorem wI_int {d : D} {Q : Int → Prop} {H : Hp} {v : V} (r : Rp K H v d) (w : wI d Q) : ∃ i, d = .int i ∧ v = .int i ∧ Q i := by
  cases d <;> first | exact w.elim | skip
  cases r
  exact ⟨_, rfl, rfl, w⟩
theorem dr_1 {p pos : Pos} (hg : Gl X "range") (hm : X.mg "range" = none) (ha : DE X a ma) (na : starEach [a] X.env = (false, eval a X.env) :: starEach [] X.env := by rfl) : DR X (.Call (.Name "range" p) [a] [] pos) (rg1 ma) :=
  prgW (prg_1 hg hm ha na) fun σ H Q ⟨Hv, e, QD, er, vw, h, k⟩ => ⟨Hv, e, _, er, vw, h, fun d v Hv1 H1 f r q => by
    obtain ⟨i, rfl, rfl, q⟩ := wI_int r q
    exact ⟨i, rfl, k _ _ _ _ f q⟩⟩
theorem dr_2 {p pos : Pos} (hg : Gl X "range") (hm : X.mg "range" = none) (ha : DE X a ma) (hb : DE X b mb) (na : starEach [a, b] X.env = (false, eval a X.env) :: starEach [b] X.env := by rfl)
    (nb : starEach [b] X.env = (false, eval b X.env) :: starEach [] X.env := by rfl) (hp : (backTo pos (starEach [b] X.env)).any (·.1) = false := by rfl) : DR X (.Call (.Name "range" p) [a, b] [] pos) (rg2 ma mb) :=
  prgW (prg_2 hg hm ha hb na nb hp) fun σ H Q ⟨Hv, e, QD, er, vw, h, k⟩ => ⟨Hv, e, _, er, vw, h, fun d v Hv1 H1 f r q => ⟨Hv1, e, _, er.mono f.ext, f.vw, q, fun d2 v2 Hv2 H2 f2 r2 q2 => by
    obtain ⟨i, rfl, rfl, q⟩ := wI_int r q2
    obtain ⟨j, rfl, rfl, q⟩ := wI_int r2 q
    exact ⟨i, j, rfl, rfl, k _ _ _ _ (f.trans f2) q⟩⟩⟩
/-- the ints lo, lo + 1, .. below hi -/
def rgI (lo hi : Int) : List Int := (List.range (hi - lo).toNat).map fun i => lo + (i : Nat)
def rgD (lo hi : Int) : List D := (rgI lo hi).map PyData.int
theorem rgI_length (lo hi : Int) : (rgI lo hi).length = (hi - lo).toNat := by simp [rgI]
theorem rgD_length (lo hi : Int) : (rgD lo hi).length = (hi - lo).toNat := by simp [rgD, rgI]
theorem rgV_eq (lo hi : Int) : rgV lo hi = (rgI lo hi).map V.int := by simp [rgV, rgI]
def RgS (lo hi : Int) : Prop := -(2 ^ 62) ≤ lo ∧ lo < 2 ^ 62 ∧ -(2 ^ 62) ≤ hi ∧ hi < 2 ^ 62 ∧ hi - lo ≤ 2 ^ 24
theorem RgS.ok {lo hi : Int} (h : RgS lo hi) : RgOk lo hi := ⟨h.1, h.2.1, h.2.2.1, h.2.2.2.1, by have := h.2.2.2.2; omega⟩
theorem RgS.len {lo hi : Int} (h : RgS lo hi) : (rgD lo hi).length ≤ sizeLine := by
  have := h.2.2.2.2
  rw [rgD_length, sizeLine_eq]
  omega
def eTupR (m : RX) : EX := fun e Q => m e fun lo hi => RgS lo hi ∧ Q (.tuple (rgD lo hi))
def nListR (m : RX) : NX := fun e Q => m e fun lo hi => RgS lo hi ∧ Q (rgD lo hi)
theorem d_tupR {mr : RX} {p pos : Pos} (hc : X.calm = true) (hg : Gl X "tuple") (hm : X.mg "tuple" = none) (he : DR X x mr) (na : starEach [x] X.env = (false, eval x X.env) :: starEach [] X.env := by rfl) : DE X (.Call (.Name "tuple" p) [x] [] pos) (eTupR mr) :=
  peW (pe_tupRgJ hc hg hm he na) fun σ H Q ⟨Hv, e, QD, er, vw, h, k⟩ => ⟨Hv, e, _, er, vw, h, fun lo hi Hv1 H1 f q => ⟨q.1.ok, fun p its hp => by
    have g := Fw.new (o := tO its (rgV lo hi)) f.vw hp mark_ne_tup
    exact k _ _ _ _ (f.trans g) (.tup SqJ.of (by rw [rgV_eq]; exact RpAll.ints _) q.1.len) q.2⟩⟩
theorem n_listR {mr : RX} {p pos : Pos} (hc : X.calm = true) (hg : Gl X "list") (hm : X.mg "list" = none) (he : DR X x mr) (na : starEach [x] X.env = (false, eval x X.env) :: starEach [] X.env := by rfl) : DN X (.Call (.Name "list" p) [x] [] pos) (nListR mr) :=
  peW (pe_listRg hc hg hm he na) fun σ H Q ⟨Hv, e, QD, er, vw, h, k⟩ => ⟨Hv, e, _, er, vw, h, fun lo hi Hv1 H1 f q => ⟨q.1.ok, fun p hp =>
    k _ _ _ _ _ (f.trans (Fw.newU f.vw hp)) (f.vw.none_of hp) (f.fresh_at hp) upd_same (by rw [rgV_eq]; exact RpAll.ints _) q.1.len q.2⟩⟩

/-! ### isinstance -/
def isTy (T : String) : D → Bool
  | .none => false
  | .bool _ => T == "bool" || T == "int"
  | .int _ => T == "int"
  | .str _ => T == "str"
  | .list _ => T == "list"
  | .tuple _ => T == "tuple"
  | .dict _ => T == "list"
def tyName : D → String
  | .none => "NoneType"
  | .bool _ => "bool"
  | .int _ => "int"
  | .str _ => "str"
  | .list _ => "list"
  | .tuple _ => "tuple"
  | .dict _ => "list"
theorem tyx {Hv H : Hp} (vw : Vw Hv H) {v : V} {d : D} (r : Rp K Hv v d) : TyX K H v (.type (tyName d)) := by
  cases r with
  | non => exact .base .non
  | bl b => exact .base (.bl b)
  | int i => exact .base (.int i)
  | str x => exact .base (.str x)
  | lst hs ha hl =>
    rcases vw.sql hs with (h | ⟨o, h⟩) | ⟨o, its, n, h, c, _⟩
    · exact .base (.lst h)
    · exact .base (.frz h)
    · exact .kList h c
  | tup hs ha hl =>
    rcases vw.sqt hs with (h | ⟨o, h⟩) | ⟨o, its, n, h, c, _⟩
    · exact .base (.tup h)
    · exact .fTuple h
    · exact .kTuple h c
  | hnd hm =>
    rcases vw _ _ hm with ⟨_, ns, h, _⟩ | ⟨h, _⟩
    · exact .base (.lst h)
    · exact absurd rfl h
def kitOk (T : String) : Bool := (kitB "NoneType" T == some false) && (kitB "bool" T == some (T == "bool" || T == "int")) && (kitB "int" T == some (T == "int")) && (kitB "str" T == some (T == "str")) && (kitB "list" T == some (T == "list")) && (kitB "tuple" T == some (T == "tuple"))
theorem kit_of_ok {T : String} (h : kitOk T = true) (d : D) : kitB (tyName d) T = some (isTy T d) := by
  unfold kitOk at h
  simp only [Bool.and_eq_true, beq_iff_eq] at h
  obtain ⟨⟨⟨⟨⟨h1, h2⟩, h3⟩, h4⟩, h5⟩, h6⟩ := h
  cases d <;> assumption
def wIsi (T : String) : W1 := fun d Q => Q (.bool (isTy T d))
theorem d_isi (T : String) {fT : Str} {p p' pos : Pos} (hk : kitOk T = true) (hT : bootBuiltins fT = some (.type T)) (hg : Gl X "isinstance") (hm : X.mg "isinstance" = none) (hg' : Gl X fT) (hm' : X.mg fT = none) (ha : DE X a ma)
    (hn : fT ≠ "__name__" := by decide) (hdb : (fT == ("__debug__" : Str)) = false := by decide)
    (h1 : starEach [a, .Name fT p'] X.env = (false, eval a X.env) :: starEach [.Name fT p'] X.env := by rfl) (h1' : starEach [.Name fT p'] X.env = (false, eval (.Name fT p') X.env) :: starEach [] X.env := by rfl)
    (h2 : ((backTo pos (starEach [.Name fT p'] X.env)).any fun x => x.fst) = false := by rfl) : DE X (.Call (.Name "isinstance" p) [a, .Name fT p'] [] pos) (eUn (wIsi T) ma) :=
  peW (pe_callB call_isi hg hm (by decide +kernel) (pa_cons ha (pa_cons (pe_bltn (v := .ty T) hg' hm' hT rfl hn hdb) pa_nil h1') h1) (by decide) (by decide) h1 h2) fun σ H Q ⟨Hv, e, QD, er, vw, h, k⟩ =>
    ⟨Hv, e, _, er, vw, h, fun d v Hv1 H1 f r q => ⟨v, .ty T, _, _, _, rfl, .ty T, tyx f.vw r, kit_ty (kit_of_ok hk d), k _ _ _ _ f (.bl _) q⟩⟩

/-! ### what is walked -/
structure ItOk (K : PySem.W.Frag) (Hv : Hp) (J : It) (ds : List D) : Prop where
  go : ∀ i Hv2 H2, i < ds.length → Same Hv Hv2 → Vw Hv2 H2 → J.go i H2
  yld : ∀ i Hv2 H2 x H3, Same Hv Hv2 → Vw Hv2 H2 → J.yld i H2 x H3 → H3 = H2 ∧ ∀ d, ds[i]? = some d → Rp K Hv2 x d
  stop : ∀ Hv2 H2, Same Hv Hv2 → Vw Hv2 H2 → J.stop ds.length H2
  len : ds.length ≤ sizeLine
abbrev IX := En → (List D → Prop) → Prop
def ti (K : PySem.W.Frag) (m : IX) : TI := fun σ H R => ∃ Hv e QD, Er K Hv e σ ∧ Vw Hv H ∧ m e QD ∧ ∀ ds J Hv' H', Fw Hv H Hv' H' → ItOk K Hv' J ds → QD ds → R J H'
def DI (X : Cx) (tg x : Expr) (m : IX) : Prop := PI X tg x (ti X.K m)
theorem piW {tg x : Expr} {t t' : TI} (h : PI X tg x t) (w : ∀ σ H Q, t' σ H Q → t σ H Q) : PI X tg x t' := ⟨fun pins s σ H Q I q => h.run pins s σ H Q I (w σ H Q q)⟩
theorem ItOk.list {Hv H : Hp} {a : Addr} {xs : List V} {ds : List D} (vw : Vw Hv H) (hs : SqL K Hv a xs) (ha : RpAll K Hv xs ds) (hl : ds.length ≤ sizeLine) (u : ∀ Hv2 H2 ys, Same Hv Hv2 → Vw Hv2 H2 → SqL K H2 a ys → ys = xs) : ItOk K Hv (Itl K a) ds where
  go := fun i Hv2 H2 hi e v2 => by
    rw [← ha.length] at hi
    exact ⟨xs, xs[i], v2.sql (sql_mono e hs), by simp [hi]⟩
  yld := fun i Hv2 H2 x H3 e v2 y => ⟨y.1, fun d hd => by
    obtain ⟨v, q, r⟩ := ha.get hd
    have z := y.2 xs (v2.sql (sql_mono e hs))
    rw [q] at z
    cases z
    exact r.mono e⟩
  stop := fun Hv2 H2 e v2 => ⟨xs, v2.sql (sql_mono e hs), by rw [ha.length]; exact Nat.le_refl _⟩
  len := hl
theorem itl_ok {Hv H : Hp} {a : Addr} {xs : List V} {ds : List D} (hs : SqL K Hv a xs) (ha : RpAll K Hv xs ds) (hl : ds.length ≤ sizeLine) : ItOk K Hv (Itl K a) ds where
  go := fun i Hv2 H2 hi e v2 => by
    rw [← ha.length] at hi
    exact ⟨xs, xs[i], v2.sql (sql_mono e hs), by simp [hi]⟩
  yld := fun i Hv2 H2 x H3 e v2 y => ⟨y.1, fun d hd => by
    obtain ⟨v, q, r⟩ := ha.get hd
    have z := y.2 xs (v2.sql (sql_mono e hs))
    rw [q] at z
    cases z
    exact r.mono e⟩
  stop := fun Hv2 H2 e v2 => ⟨xs, v2.sql (sql_mono e hs), by rw [ha.length]; exact Nat.le_refl _⟩
  len := hl
theorem itt_ok {Hv : Hp} {a : Addr} {xs : List V} {ds : List D} (hs : SqJ K Hv a xs) (ha : RpAll K Hv xs ds) (hl : ds.length ≤ sizeLine) : ItOk K Hv (Itt K a) ds where
  go := fun i Hv2 H2 hi e v2 => by
    rw [← ha.length] at hi
    exact ⟨xs, xs[i], v2.sqt (sqt_mono e hs), by simp [hi]⟩
  yld := fun i Hv2 H2 x H3 e v2 y => ⟨y.1, fun d hd => by
    obtain ⟨v, q, r⟩ := ha.get hd
    have z := y.2 xs (v2.sqt (sqt_mono e hs))
    rw [q] at z
    cases z
    exact r.mono e⟩
  stop := fun Hv2 H2 e v2 => ⟨xs, v2.sqt (sqt_mono e hs), by rw [ha.length]; exact Nat.le_refl _⟩
  len := hl
theorem itr_ok {Hv : Hp} {lo hi : Int} (h : RgS lo hi) : ItOk K Hv (Itr lo (hi - lo).toNat) (rgD lo hi) where
  go := fun i Hv2 H2 hi e v2 => by rw [rgD_length] at hi; exact hi
  yld := fun i Hv2 H2 x H3 e v2 y => ⟨y.1, fun d hd => by
    have z := y.2
    subst z
    unfold rgD rgI at hd
    rw [List.map_map, List.getElem?_map] at hd
    cases q : (List.range (hi - lo).toNat)[i]? with
    | none => rw [q] at hd; cases hd
    | some j =>
      rw [q] at hd
      cases hd
      have := (List.getElem?_eq_some_iff.mp q).2
      rw [List.getElem_range] at this
      subst this
      exact .int _⟩
  stop := fun Hv2 H2 e v2 => by rw [rgD_length]; exact Nat.le_refl _
  len := h.len
/-- over a list or a tuple -/
def iSeq (m : EX) : IX := fun e Q => m e fun d => seqOf d Q
theorem di_seq {tg : Expr} (h : DE X x m) : DI X tg x (iSeq m) := by
  refine ⟨fun pins s σ H R I ⟨Hv, e, QD, er, vw, hm, k⟩ => ?_⟩
  refine thn (h.run pins s σ H (fun y H1 => ∃ Hv1 d, Fw Hv H Hv1 H1 ∧ Rp X.K Hv1 y d ∧ seqOf d QD) I ⟨Hv, e, _, er, vw, hm, fun d v Hv1 H1 f r q => ⟨Hv1, d, f, r, q⟩⟩) fun v s1 ⟨y, H1, I1, r1, Hv1, d, f, r, q⟩ => ?_
  cases d <;> first | exact q.elim | skip
  · cases r with
    | @lst a xs ds hs ha hl =>
      cases r1
      obtain ⟨its, rv, p, hz⟩ := I1.list (f.vw.sql hs)
      refine wpAny_pyIter_list p.isList ?_
      refine ⟨s1.heap.objs.size, [s1.heap.objs.size], _, _, H1, rfl, I1.kept (t' := s1.toks) fun b o e => Heap.get?_push_of_some _ e, turn_list a _, ⟨_, Heap.get?_push_size _ rfl, rfl, rfl⟩, fun b hb => ?_, k _ _ _ _ f (itl_ok (H := H1) hs ha hl) q⟩
      have e : b = s1.heap.objs.size := by simpa using hb
      subst e
      exact I1.fpOk (Nat.le_refl _) (I1.hok.fresh (Nat.le_refl _))
  · cases r with
    | @tup a xs ds hs ha hl =>
      cases r1
      obtain ⟨its, rv, p, hz⟩ := I1.tuple (f.vw.sqt hs)
      refine wpAny_pyIter_tuple (show s1.heap.IsTuple a its.toArray from p) ?_
      refine ⟨s1.heap.objs.size, [s1.heap.objs.size], _, _, H1, rfl, I1.kept (t' := s1.toks) fun b o e => Heap.get?_push_of_some _ e, turn_tuple a _, ⟨_, Heap.get?_push_size _ rfl, rfl, rfl⟩, fun b hb => ?_, k _ _ _ _ f (itt_ok hs ha hl) q⟩
      have e : b = s1.heap.objs.size := by simpa using hb
      subst e
      exact I1.fpOk (Nat.le_refl _) (I1.hok.fresh (Nat.le_refl _))
def iR1 (m : EX) : IX := fun e Q => m e fun d => wI d fun n => RgS 0 n ∧ Q (rgD 0 n)
def iR2 (ma mb : EX) : IX := fun e Q => ma e fun d => mb e fun d' => wI d fun i => wI d' fun j => RgS i j ∧ Q (rgD i j)
theorem di_r1 {tg : Expr} {p pos : Pos} (hg : Gl X "range") (hm : X.mg "range" = none) (ha : DE X a ma) (hs : starEach [a] X.env = [(false, eval a X.env)] := by rfl) : DI X tg (.Call (.Name "range" p) [a] [] pos) (iR1 ma) :=
  piW (pi_range1 hg hm (pa_cons ha pa_nil hs) hs) fun σ H R ⟨Hv, e, QD, er, vw, h, k⟩ => ⟨Hv, e, _, er, vw, h, fun d v Hv1 H1 f r q => by
    obtain ⟨n, rfl, rfl, q⟩ := wI_int r q
    refine ⟨n, rfl, q.1.2.2.1, q.1.2.2.2.1, ?_⟩
    have := k _ _ _ _ f (itr_ok (lo := 0) (hi := n) q.1) q.2
    rw [Int.sub_zero] at this
    exact this⟩
theorem di_r2 {tg : Expr} {p pos : Pos} (hg : Gl X "range") (hm : X.mg "range" = none) (ha : DE X a ma) (hb : DE X b mb) (hs : starEach [a, b] X.env = [(false, eval a X.env), (false, eval b X.env)] := by rfl) (hs2 : starEach [b] X.env = [(false, eval b X.env)] := by rfl) :
    DI X tg (.Call (.Name "range" p) [a, b] [] pos) (iR2 ma mb) :=
  piW (pi_range2 hg hm (pa_cons ha (pa_cons hb pa_nil hs2) (by rw [hs, hs2])) hs hs2) fun σ H R ⟨Hv, e, QD, er, vw, h, k⟩ => ⟨Hv, e, _, er, vw, h, fun d v Hv1 H1 f r q => ⟨Hv1, e, _, er.mono f.ext, f.vw, q, fun d2 v2 Hv2 H2 f2 r2 q2 => by
    obtain ⟨i, rfl, rfl, q⟩ := wI_int r q2
    obtain ⟨j, rfl, rfl, q⟩ := wI_int r2 q
    exact ⟨i, j, rfl, ⟨q.1.1, q.1.2.1, q.1.2.2.1, q.1.2.2.2.1⟩, k _ _ _ _ (f.trans f2) (itr_ok q.1) q.2⟩⟩⟩
end
end J

/-! J4: targets, comprehensions. -/
namespace J
open PySem PySem.Spec PyProof.Rows L2

/-! ### targets -/
inductive Tg where
  | one (i : Nat)
  | many (is : List Nat)
def setAll : List Nat → List D → En → En
  | i :: is, d :: ds, e => setAll is ds (e.set i (.val d))
  | _, _, e => e
def Tg.bind : Tg → D → En → Option En
  | .one i, d, e => some (e.set i (.val d))
  | .many is, .tuple ds, e => if ds.length = is.length then some (setAll is ds e) else none
  | _, _, _ => none
def Tg.slots : Tg → List Nat
  | .one i => [i]
  | .many is => is
def gNames : List Nat → TGs
  | [] => gNil
  | i :: is => gCons (gName i) (gNames is)
def gTgt (K : PySem.W.Frag) : Tg → TG
  | .one i => gName i
  | .many is => gTup K is.length (gNames is)
def DG (X : Cx) (tg : Expr) (t : Tg) : Prop := PG X tg (gTgt X.K t)
def DGs (X : Cx) (es : List Expr) (is : List Nat) : Prop := PGs X es (gNames is)
section
variable {X : Cx} {K : PySem.W.Frag} {pos : Pos}
theorem dg_name (i : Nat) {x : Str} (hN : X.N.Nodup) (hi : X.N[i]? = some x := by rfl) (hx : Loc X.env.scope x := by first | exact .inl rfl | exact .inr rfl) (hf : X.fn x = true ∨ X.env.scope.names.lookup x = some .local := by first | exact .inl rfl | exact .inr rfl) : DG X (.Name x pos) (.one i) := pg_name hN hi hx hf
theorem dgs_nil : DGs X [] [] := pgs_nil
theorem dgs_cons (i : Nat) {x : Str} {px : Pos} {es : List Expr} {is : List Nat} (hN : X.N.Nodup) (t : DGs X es is) (hi : X.N[i]? = some x := by rfl) (hx : Loc X.env.scope x := by first | exact .inl rfl | exact .inr rfl)
    (hf : X.fn x = true ∨ X.env.scope.names.lookup x = some .local := by first | exact .inl rfl | exact .inr rfl) (hs : (assignEach (.Name x px :: es) X.env).map (·.2) = assign (.Name x px) X.env :: (assignEach es X.env).map (·.2) := by rfl) : DGs X (.Name x px :: es) (i :: is) :=
  pgs_cons (pg_name hN hi hx hf) t hs
theorem dg_tup {es : List Expr} {k : Nat} {is : List Nat} (hc : X.calm = true) (h : DGs X es is) (hn : (assignEach es X.env).length = is.length := by rfl) (hst : (assignEach es X.env).findIdx? (·.1) = none := by rfl) : DG X (.Tuple es k pos) (.many is) := pg_tup hc h hn hst

theorem rd_set {e : En} {i j : Nat} {s : Slot} {d : D} (h : rd (e.set i s) j = some d) : (j = i ∧ i < e.length ∧ s.rd = some d) ∨ (j ≠ i ∧ rd e j = some d) := by
  unfold rd at h ⊢
  by_cases q : i = j
  · subst q
    by_cases l : i < e.length
    · rw [List.getElem?_set_self l] at h
      exact .inl ⟨rfl, l, h⟩
    · rw [List.getElem?_eq_none (by rw [List.length_set]; omega)] at h
      cases h
  · rw [List.getElem?_set_ne q] at h
    exact .inr ⟨fun z => q z.symm, h⟩
theorem Er.set {Hv : Hp} {e : En} {σ : L2.St} (er : Er K Hv e σ) {i : Nat} {v : V} {d : D} (r : Rp K Hv v d) : Er K Hv (e.set i (.val d)) (σ.set i (some v)) := ⟨by rw [List.length_set, List.length_set]; exact er.len, fun j d' h => by
  rcases rd_set h with ⟨q, l, z⟩ | ⟨q, z⟩
  · subst q
    cases z
    exact ⟨v, List.getElem?_set_self (by rw [← er.len]; exact l), r⟩
  · obtain ⟨w, a, b⟩ := er.get j d' z
    exact ⟨w, by rw [List.getElem?_set_ne (Ne.symm q)]; exact a, b⟩⟩
def setAllV : List Nat → List V → L2.St → L2.St
  | i :: is, v :: vs, σ => setAllV is vs (σ.set i (some v))
  | _, _, σ => σ
theorem gNames_ok : ∀ (is : List Nat) (vs : List V) {σ : L2.St} {H : Hp} {Q : L2.St → Hp → Prop}, vs.length = is.length → Q (setAllV is vs σ) H → gNames is vs σ H Q
  | [], [], _, _, _, _, q => ⟨rfl, q⟩
  | [], _ :: _, _, _, _, l, _ => by simp at l
  | _ :: _, [], _, _, _, l, _ => by simp at l
  | i :: is, v :: vs, σ, H, Q, l, q => ⟨v, vs, rfl, gNames_ok is vs (by simpa using l) q⟩
theorem Er.setAll {Hv : Hp} : ∀ (is : List Nat) {vs : List V} {ds : List D} {e : En} {σ : L2.St}, RpAll K Hv vs ds → Er K Hv e σ → Er K Hv (setAll is ds e) (setAllV is vs σ)
  | [], _, _, _, _, .nil, er => er
  | [], _, _, _, _, .cons _ _, er => er
  | _ :: _, _, _, _, _, .nil, er => er
  | i :: is, _, _, _, _, .cons r t, er => Er.setAll is t (er.set r)
/-- a target's store, in the view -/
theorem bind_ok {t : Tg} {Hv H : Hp} {e e' : En} {σ : L2.St} {v : V} {d : D} {Q : L2.St → Hp → Prop} (er : Er K Hv e σ) (vw : Vw Hv H) (r : Rp K Hv v d) (h : t.bind d e = some e')
    (k : ∀ σ', Er K Hv e' σ' → (∃ is vs, is = t.slots ∧ σ' = setAllV is vs σ) → Q σ' H) : gTgt K t v σ H Q := by
  cases t with
  | one i =>
    cases h
    exact k _ (er.set r) ⟨[i], [v], rfl, rfl⟩
  | many is =>
    cases d <;> first | cases h | skip
    have h' : (if _ then _ else _) = some e' := h
    split at h'
    · rename_i l
      cases h'
      cases r with
      | @tup a xs ds hs ha hl =>
        exact ⟨a, xs, rfl, vw.sqt hs, by rw [ha.length]; exact l, gNames_ok is xs (by rw [ha.length]; exact l) (k _ (er.setAll is ha) ⟨is, xs, rfl, rfl⟩)⟩
    · cases h'

/-! ### the block's names forgotten -/
def wipeE (e : En) : List Nat → En
  | [] => e
  | v :: vs => (wipeE e vs).set v .no
theorem wipe_get (σ : L2.St) (j : Nat) : ∀ vs : List Nat, (wipe σ vs)[j]? = if j ∈ vs then (σ[j]?).map (fun _ => none) else σ[j]?
  | [] => by simp [wipe]
  | v :: vs => by
    unfold wipe
    by_cases q : v = j
    · subst q
      by_cases l : v < σ.length
      · rw [List.getElem?_set_self (by rw [wipe_length]; exact l), if_pos List.mem_cons_self, List.getElem?_eq_getElem l]
        rfl
      · rw [List.getElem?_eq_none (by rw [List.length_set, wipe_length]; omega), if_pos List.mem_cons_self, List.getElem?_eq_none (by omega)]
        rfl
    · rw [List.getElem?_set_ne q, wipe_get σ j vs]
      have e : (j ∈ v :: vs) ↔ j ∈ vs := by
        rw [List.mem_cons]
        exact ⟨fun z => z.resolve_left fun w => q w.symm, .inr⟩
      simp only [e]
theorem wipe_set {σ : L2.St} {i : Nat} {x : Option V} {vs : List Nat} (h : i ∈ vs) : wipe (σ.set i x) vs = wipe σ vs := by
  refine List.ext_getElem? fun j => ?_
  rw [wipe_get, wipe_get]
  split
  · rename_i hj
    by_cases q : i = j
    · subst q
      by_cases l : i < σ.length
      · rw [List.getElem?_set_self l, List.getElem?_eq_getElem l]
        rfl
      · rw [List.getElem?_eq_none (by rw [List.length_set]; omega), List.getElem?_eq_none (by omega)]
    · rw [List.getElem?_set_ne q]
  · rename_i hj
    rw [List.getElem?_set_ne (fun z => by subst z; exact hj h)]
theorem wipe_wipe (σ : L2.St) (vs : List Nat) : wipe (wipe σ vs) vs = wipe σ vs := by
  refine List.ext_getElem? fun j => ?_
  rw [wipe_get, wipe_get]
  split
  · cases σ[j]? <;> rfl
  · rfl
theorem wipe_setAll {vs : List Nat} : ∀ (is : List Nat) (us : List V) (σ : L2.St), (∀ i ∈ is, i ∈ vs) → wipe (setAllV is us σ) vs = wipe σ vs
  | [], _, _, _ => by simp [setAllV]
  | _ :: _, [], _, _ => rfl
  | i :: is, u :: us, σ, h => by
    show wipe (setAllV is us (σ.set i (some u))) vs = wipe σ vs
    rw [wipe_setAll is us _ fun j hj => h j (List.mem_cons_of_mem _ hj), wipe_set (h i List.mem_cons_self)]
theorem Er.wipe {Hv : Hp} {e : En} {σ : L2.St} (er : Er K Hv e σ) : ∀ vs : List Nat, Er K Hv (wipeE e vs) (L2.wipe σ vs)
  | [] => er
  | v :: vs => by
    have ih := Er.wipe er vs
    refine ⟨by show ((wipeE e vs).set v .no).length = ((L2.wipe σ vs).set v none).length; rw [List.length_set, List.length_set]; exact ih.len, fun j d h => ?_⟩
    rcases rd_set h with ⟨q, l, z⟩ | ⟨q, z⟩
    · cases z
    · obtain ⟨w, a, b⟩ := ih.get j d z
      exact ⟨w, by show ((L2.wipe σ vs).set v none)[j]? = _; rw [List.getElem?_set_ne (Ne.symm q)]; exact a, b⟩

/-! ### changes of a list that no view shows -/
theorem Vw.mut {Hv H : Hp} {p : Addr} {o : HO} (h : Vw Hv H) (hp : Hv p = none) : Vw Hv (upd H p o) := fun a u e => by
  have q : a ≠ p := fun z => by rw [z, hp] at e; cases e
  rcases h a u e with ⟨z, ns, y, w⟩ | ⟨z, y⟩
  · exact .inl ⟨z, ns, by rw [upd_ne q]; exact y, w⟩
  · exact .inr ⟨z, by rw [upd_ne q]; exact y⟩
theorem Fw.mut {Hv H Hv' H' : Hp} {p : Addr} {o : HO} (f : Fw Hv H Hv' H') (hp : H p = none) (hv : Hv' p = none) : Fw Hv H Hv' (upd H' p o) := ⟨f.ext, f.vw.mut hv, fun a u e h => by
  rw [upd_ne (ne_of_none h hp)]
  exact f.keep a u e h, f.fresh⟩
theorem Fw.hidden {Hv H Hv' H' : Hp} {p : Addr} {o : HO} (f : Fw Hv H Hv' H') (hv : Hv p = none) (h : H p = some o) : Hv' p = none ∧ H' p = some o := by
  refine ⟨?_, f.keep p o hv h⟩
  cases z : Hv' p with
  | none => rfl
  | some u =>
    have := f.fresh p hv (by rw [z]; simp)
    rw [this] at h
    cases h

/-! ### comprehensions -/
def mapW (f : D → (Option D → Prop) → Prop) : List D → (List D → Prop) → Prop
  | [], Q => Q []
  | d :: ds, Q => f d fun r => mapW f ds fun rs => Q (r.toList ++ rs)
/-- one turn: the element, or nothing -/
def lcF (t : Tg) (vs : List Nat) (mt : TX) (me : EX) (e : En) (d : D) (R : Option D → Prop) : Prop := ∃ e', t.bind d (wipeE e vs) = some e' ∧ mt e' fun b => if b = true then me e' fun x => R (some x) else R none
def nLc (it : IX) (t : Tg) (vs : List Nat) (mt : TX) (me : EX) : NX := fun e Q => it e fun ds => mapW (lcF t vs mt me e) ds Q
def tTrue : TX := fun _ Q => Q true
def DTs (X : Cx) (ifs : List Expr) (mt : TX) : Prop := PTs X ifs (tt X.K mt)
theorem ptsW {ifs : List Expr} {t t' : TT} (h : PTs X ifs t) (w : ∀ σ H Q, t' σ H Q → t σ H Q) : PTs X ifs t' := ⟨fun pins s σ H Q I q => h.run pins s σ H Q I (w σ H Q q)⟩
theorem dts_nil : DTs X [] tTrue := ptsW pts_nil fun σ H Q ⟨Hv, e, QD, er, vw, h, k⟩ => k true Hv H (.refl vw) h
theorem dts_one {c : Expr} {mt : TX} (h : DT X c mt) : DTs X [c] mt := pts_one h

theorem drop_cons {α : Type} {ds : List α} {i : Nat} (h : i < ds.length) : ds.drop i = ds[i] :: ds.drop (i + 1) := List.drop_eq_getElem_cons h
theorem tn_lc {it : IX} {t : Tg} {vs : List Nat} {mt : TX} {me : EX} (hsub : ∀ i ∈ t.slots, i ∈ vs) {σ : L2.St} {H : Hp} {Q : VK} (h : tn K (nLc it t vs mt me) σ H Q) : tLc (ti K it) (gTgt K t) (tt K mt) (te K me) vs σ H Q := by
  obtain ⟨Hv, e, QD, er, vw, hm, k⟩ := h
  refine ⟨Hv, e, _, er, vw, hm, fun ds J Hv1 H1 f1 ok q1 Dl hD => ?_⟩
  have er1 := er.mono f1.ext
  refine ⟨fun i m H2 => m = ds.length - i ∧ i ≤ ds.length ∧ ∃ Hv2 acc accV, Fw Hv1 H1 Hv2 H2 ∧ Hv2 Dl = none ∧ H2 Dl = some (.lst accV) ∧ RpAll K Hv2 accV acc ∧ acc.length ≤ i ∧
    mapW (lcF t vs mt me e) (ds.drop i) (fun rs => QD (acc ++ rs)), ⟨ds.length, by simp, Nat.zero_le _, Hv1, [], [], (Fw.refl f1.vw).mut hD (f1.vw.none_of hD), f1.vw.none_of hD, upd_same, .nil, Nat.le_refl _, q1⟩, ?_⟩
  rintro i m H2 ⟨rfl, hi, Hv2, acc, accV, f2, hv2, hh2, ra, la, q2⟩
  by_cases lt : i < ds.length
  · refine .inr ⟨ok.go i Hv2 H2 lt f2.ext f2.vw, ?_⟩
    rw [drop_cons lt] at q2
    obtain ⟨e', hb, q2⟩ := q2
    refine ⟨fun H' => ∃ Hv2 acc accV, Fw Hv1 H1 Hv2 H' ∧ Hv2 Dl = none ∧ H' Dl = some (.lst accV) ∧ RpAll K Hv2 accV acc ∧ acc.length ≤ i + 1 ∧
      mapW (lcF t vs mt me e) (ds.drop (i + 1)) (fun rs => QD (acc ++ rs)), fun H' w => ⟨ds.length - (i + 1), by omega, rfl, lt, w⟩, fun x H3 y => ?_⟩
    obtain ⟨e3, y2⟩ := ok.yld i Hv2 H2 x H3 f2.ext f2.vw y
    rw [e3]
    have rx := y2 ds[i] (by simp [lt])
    refine bind_ok ((er1.mono f2.ext).wipe vs) f2.vw rx hb fun σ' er' ⟨is, us, e4, e5⟩ => ?_
    subst e4 e5
    refine ⟨by rw [wipe_setAll _ _ _ hsub, wipe_wipe], Hv2, e', _, er', f2.vw, q2, fun b Hv3 H3 f3 q3 => ?_⟩
    obtain ⟨hv3, hh3⟩ := f3.hidden hv2 hh2
    cases b with
    | true =>
      refine ⟨Hv3, e', _, er'.mono f3.ext, f3.vw, q3, fun d v Hv4 H4 f4 r4 q4 => ?_⟩
      obtain ⟨hv4, hh4⟩ := f4.hidden hv3 hh3
      have l1 := ra.length
      have l2 := ok.len
      refine ⟨accV, hh4, by omega, Hv4, acc ++ [d], accV ++ [v], ((f2.trans f3).trans f4).mut hD hv4, hv4, upd_same, (Rp.monoAll f4.ext _ _ (Rp.monoAll f3.ext _ _ ra)).append (.one r4), by rw [List.length_append]; simp; omega, ?_⟩
      have e6 : (fun rs => QD (acc ++ [d] ++ rs)) = fun rs => QD (acc ++ ((some d).toList ++ rs)) := by funext rs; simp
      rw [e6]
      exact q4
    | false => exact ⟨Hv3, acc, accV, f2.trans f3, hv3, hh3, Rp.monoAll f3.ext _ _ ra, by omega, q3⟩
  · have e1 : i = ds.length := by omega
    subst e1
    refine .inl ⟨ok.stop Hv2 H2 f2.ext f2.vw, ?_⟩
    rw [List.drop_length] at q2
    have q3 : QD (acc ++ []) := q2
    rw [List.append_nil] at q3
    exact k acc Dl accV Hv2 H2 (f1.trans f2) hv2 (f1.fresh_at hD) hh2 ra (Nat.le_trans la ok.len) q3

theorem n_lc {elt tg iter : Expr} {ifs : List Expr} {scope : Scope} {own : List (Str × Nat)} {it : IX} {t : Tg} {mt : TX} {me : EX} (hc : X.calm = true) (hN : X.N.Nodup) (hi : DI X tg iter it) (ok : BlkOk X.N X.env.scope scope own)
    (hg : ∀ (s : Shared) (H : Hp) (C : Addr) (cl : List (Str × Addr)) (fp : List Addr), DG (X.blk s H scope (compEnvC scope cl C X.env) fp) tg t) (ht : ∀ (s : Shared) (H : Hp) (C : Addr) (cl : List (Str × Addr)) (fp : List Addr), DTs (X.blk s H scope (compEnvC scope cl C X.env) fp) ifs mt)
    (he : ∀ (s : Shared) (H : Hp) (C : Addr) (cl : List (Str × Addr)) (fp : List Addr), DE (X.blk s H scope (compEnvC scope cl C X.env) fp) elt me) (hsub : ∀ i ∈ t.slots, i ∈ own.map (·.2) := by decide) (hs : ∀ x, foldedSetIterable iter X.env x = pure x := by intro _; rfl) :
    DN X (.ListComp elt [⟨tg, iter, ifs, 0⟩] scope pos) (nLc it t (own.map (·.2)) mt me) := peW (pe_lc (g := gTgt X.K t) (tt := tt X.K mt) (te := te X.K me) hc hN hi ok hg ht he hs) fun _ _ _ h => tn_lc hsub h

/-- y = [..] of a plain local name: the reading -/
theorem ps_lc {i : Nat} {y : Str} {py : Pos} {elt tg iter : Expr} {ifs : List Expr} {scope : Scope} {own : List (Str × Nat)} {pos spos : Pos} {it : IX} {t : Tg} {mt : TX} {me : EX} (hc : X.calm = true) (hN : X.N.Nodup) (hy : X.N[i]? = some y) (hyl : X.env.scope.names.lookup y = some .local)
    (hsw : swapsWith (.ListComp elt [⟨tg, iter, ifs, 0⟩] scope pos) (some (.Name y py)) spos.line X.env = pure true) (hi : DI X tg iter it) (ok : BlkOk X.N X.env.scope scope own)
    (hg : ∀ (s : Shared) (H : Hp) (C : Addr) (cl : List (Str × Addr)) (fp : List Addr), DG (X.blk s H scope (compEnvC scope cl C X.env) fp) tg t) (ht : ∀ (s : Shared) (H : Hp) (C : Addr) (cl : List (Str × Addr)) (fp : List Addr), DTs (X.blk s H scope (compEnvC scope cl C X.env) fp) ifs mt)
    (he : ∀ (s : Shared) (H : Hp) (C : Addr) (cl : List (Str × Addr)) (fp : List Addr), DE (X.blk s H scope (compEnvC scope cl C X.env) fp) elt me) (hsub : ∀ i ∈ t.slots, i ∈ own.map (·.2)) (hs : ∀ x, foldedSetIterable iter X.env x = pure x) :
    PS X (.Assign [.Name y py] (.ListComp elt [⟨tg, iter, ifs, 0⟩] scope pos) spos) (tAsg (tn X.K (nLc it t (own.map (·.2)) mt me)) (gName i)) := by
  have h := ps_setLc (g := gTgt X.K t) (tt := tt X.K mt) (te := te X.K me) hc hN hy hyl hsw hi ok hg ht he hs
  exact ⟨fun pins s σ H D I q => h.run pins s σ H D I (tn_lc hsub q)⟩

/-! two clauses -/
def catW (f : D → (List D → Prop) → Prop) : List D → (List D → Prop) → Prop
  | [], Q => Q []
  | d :: ds, Q => f d fun r => catW f ds fun rs => Q (r ++ rs)
def lcF2 (n : Nat) (t : Tg) (vs : List Nat) (mt : TX) (it1 : IX) (t1 : Tg) (vs1 : List Nat) (mt1 : TX) (me : EX) (e : En) (d : D) (R : List D → Prop) : Prop := ∃ e', t.bind d (wipeE e vs) = some e' ∧ mt e' fun b => if b = true then
    it1 e' fun ds1 => n * ds1.length ≤ sizeLine ∧ mapW (lcF t1 vs1 mt1 me e') ds1 R else R []
def nLc2 (it : IX) (t : Tg) (vs : List Nat) (mt : TX) (it1 : IX) (t1 : Tg) (vs1 : List Nat) (mt1 : TX) (me : EX) : NX := fun e Q => it e fun ds => catW (lcF2 ds.length t vs mt it1 t1 vs1 mt1 me e) ds Q
theorem tn_lc2 {it it1 : IX} {t t1 : Tg} {vs vs1 : List Nat} {mt mt1 : TX} {me : EX} (hsub : ∀ i ∈ t.slots, i ∈ vs) (hsub1 : ∀ i ∈ t1.slots, i ∈ vs1) {σ : L2.St} {H : Hp} {Q : VK} (h : tn K (nLc2 it t vs mt it1 t1 vs1 mt1 me) σ H Q) :
    tLc2 (ti K it) (gTgt K t) (tt K mt) (ti K it1) (gTgt K t1) (tt K mt1) (te K me) vs vs1 σ H Q := by
  obtain ⟨Hv, e, QD, er, vw, hm, k⟩ := h
  refine ⟨Hv, e, _, er, vw, hm, fun ds J Hv1 H1 f1 ok q1 Dl hD => ?_⟩
  have er1 := er.mono f1.ext
  refine ⟨fun i m H2 => m = ds.length - i ∧ i ≤ ds.length ∧ ∃ Hv2 acc accV, Fw Hv1 H1 Hv2 H2 ∧ Hv2 Dl = none ∧ H2 Dl = some (.lst accV) ∧ RpAll K Hv2 accV acc ∧ ds.length * acc.length ≤ i * sizeLine ∧ (i = 0 → acc = []) ∧ catW (lcF2 ds.length t vs mt it1 t1 vs1 mt1 me e) (ds.drop i) (fun rs => QD (acc ++ rs)),
    ⟨ds.length, by simp, Nat.zero_le _, Hv1, [], [], (Fw.refl f1.vw).mut hD (f1.vw.none_of hD), f1.vw.none_of hD, upd_same, .nil, by simp, fun _ => rfl, q1⟩, ?_⟩
  rintro i m H2 ⟨rfl, hi, Hv2, acc, accV, f2, hv2, hh2, ra, la, l0, q2⟩
  by_cases lt : i < ds.length
  · refine .inr ⟨ok.go i Hv2 H2 lt f2.ext f2.vw, ?_⟩
    rw [drop_cons lt] at q2
    obtain ⟨e', hb, q2⟩ := q2
    refine ⟨fun H' => ∃ Hv2 acc accV, Fw Hv1 H1 Hv2 H' ∧ Hv2 Dl = none ∧ H' Dl = some (.lst accV) ∧ RpAll K Hv2 accV acc ∧ ds.length * acc.length ≤ (i + 1) * sizeLine ∧ (i + 1 = 0 → acc = []) ∧ catW (lcF2 ds.length t vs mt it1 t1 vs1 mt1 me e) (ds.drop (i + 1)) (fun rs => QD (acc ++ rs)), fun H' w => ⟨ds.length - (i + 1), by omega, rfl, lt, w⟩, fun x H3 y => ?_⟩
    obtain ⟨e3, y2⟩ := ok.yld i Hv2 H2 x H3 f2.ext f2.vw y
    rw [e3]
    have rx := y2 ds[i] (by simp [lt])
    refine bind_ok ((er1.mono f2.ext).wipe vs) f2.vw rx hb fun σ' er' ⟨is, us, e4, e5⟩ => ?_
    subst e4 e5
    refine ⟨by rw [wipe_setAll _ _ _ hsub, wipe_wipe], Hv2, e', _, er', f2.vw, q2, fun b Hv3 H3 f3 q3 => ?_⟩
    obtain ⟨hv3, hh3⟩ := f3.hidden hv2 hh2
    have la2 : i * sizeLine ≤ (i + 1) * sizeLine := Nat.mul_le_mul_right _ (Nat.le_succ i)
    cases b with
    | false =>
      refine ⟨Hv3, acc, accV, f2.trans f3, hv3, hh3, Rp.monoAll f3.ext _ _ ra, Nat.le_trans la la2, fun q => by omega, ?_⟩
      exact q3
    | true =>
      refine ⟨Hv3, e', _, er'.mono f3.ext, f3.vw, q3, fun ds1 J1 Hv4 H4 f4 ok1 q4 => ?_⟩
      obtain ⟨hv4, hh4⟩ := f4.hidden hv3 hh3
      obtain ⟨hsz, q4⟩ := q4
      have er4 := (er'.mono f3.ext).mono f4.ext
      have f24 := (f2.trans f3).trans f4
      have ra4 := Rp.monoAll f4.ext _ _ (Rp.monoAll f3.ext _ _ ra)
      refine ⟨fun j k2 H5 => k2 = ds1.length - j ∧ j ≤ ds1.length ∧ ∃ Hv5 bcc bccV, Fw Hv1 H1 Hv5 H5 ∧ Same Hv4 Hv5 ∧ Hv5 Dl = none ∧ H5 Dl = some (.lst bccV) ∧ RpAll K Hv5 bccV bcc ∧ bcc.length ≤ acc.length + j ∧
        mapW (lcF t1 vs1 mt1 me e') (ds1.drop j) (fun rs => catW (lcF2 ds.length t vs mt it1 t1 vs1 mt1 me e) (ds.drop (i + 1)) (fun rest => QD (bcc ++ rs ++ rest))), ⟨ds1.length, by simp, Nat.zero_le _, Hv4, acc, accV, f24, Same.refl _, hv4, hh4, ra4, by simp, ?_⟩, ?_⟩
      · have e6 : (fun rs => catW (lcF2 ds.length t vs mt it1 t1 vs1 mt1 me e) (ds.drop (i + 1)) (fun rest => QD (acc ++ rs ++ rest))) = (fun r => catW (lcF2 ds.length t vs mt it1 t1 vs1 mt1 me e) (ds.drop (i + 1)) fun rs => QD (acc ++ (r ++ rs))) := by
          funext r
          simp only [List.append_assoc]
        show mapW (lcF t1 vs1 mt1 me e') ds1 _
        rw [e6]
        exact q4
      rintro j k2 H5 ⟨rfl, hj, Hv5, bcc, bccV, f5, x5, hv5, hh5, rb, lb, q5⟩
      by_cases lt1 : j < ds1.length
      · refine .inr ⟨ok1.go j Hv5 H5 lt1 x5 f5.vw, ?_⟩
        rw [drop_cons lt1] at q5
        obtain ⟨e1, hb1, q5⟩ := q5
        refine ⟨fun H' => ∃ Hv5 bcc bccV, Fw Hv1 H1 Hv5 H' ∧ Same Hv4 Hv5 ∧ Hv5 Dl = none ∧ H' Dl = some (.lst bccV) ∧ RpAll K Hv5 bccV bcc ∧ bcc.length ≤ acc.length + (j + 1) ∧
          mapW (lcF t1 vs1 mt1 me e') (ds1.drop (j + 1)) (fun rs => catW (lcF2 ds.length t vs mt it1 t1 vs1 mt1 me e) (ds.drop (i + 1)) (fun rest => QD (bcc ++ rs ++ rest))), fun H' w => ⟨ds1.length - (j + 1), by omega, rfl, lt1, w⟩, fun x1 H6 y1 => ?_⟩
        obtain ⟨e6, y3⟩ := ok1.yld j Hv5 H5 x1 H6 x5 f5.vw y1
        rw [e6]
        have rx1 := y3 ds1[j] (by simp [lt1])
        refine bind_ok ((er4.mono x5).wipe vs1) f5.vw rx1 hb1 fun σ'' er'' ⟨is, us, e7, e8⟩ => ?_
        subst e7 e8
        refine ⟨by rw [wipe_setAll _ _ _ hsub1, wipe_wipe], Hv5, e1, _, er'', f5.vw, q5, fun b1 Hv6 H6 f6 q6 => ?_⟩
        obtain ⟨hv6, hh6⟩ := f6.hidden hv5 hh5
        cases b1 with
        | true =>
          refine ⟨Hv6, e1, _, er''.mono f6.ext, f6.vw, q6, fun d v Hv7 H7 f7 r7 q7 => ?_⟩
          obtain ⟨hv7, hh7⟩ := f7.hidden hv6 hh6
          have l1 := rb.length
          have lz : bccV.length < sizeLine := by
            have a1 : ds.length * (acc.length + j + 1) ≤ i * sizeLine + ds.length * ds1.length := by
              have : ds.length * (acc.length + j + 1) = ds.length * acc.length + ds.length * (j + 1) := by rw [Nat.add_assoc, Nat.mul_add]
              rw [this]
              exact Nat.add_le_add la (Nat.mul_le_mul_left _ lt1)
            have a2 : i * sizeLine + ds.length * ds1.length ≤ (i + 1) * sizeLine := by rw [Nat.succ_mul]; exact Nat.add_le_add_left hsz _
            have a3 : (i + 1) * sizeLine ≤ ds.length * sizeLine := Nat.mul_le_mul_right _ lt
            have a4 : ds.length * (acc.length + j + 1) ≤ ds.length * sizeLine := Nat.le_trans a1 (Nat.le_trans a2 a3)
            have a5 := Nat.le_of_mul_le_mul_left a4 (Nat.lt_of_le_of_lt (Nat.zero_le _) lt)
            omega
          refine ⟨bccV, hh7, lz, Hv7, bcc ++ [d], bccV ++ [v], ((f5.trans f6).trans f7).mut hD hv7, (x5.trans f6.ext).trans f7.ext, hv7, upd_same, (Rp.monoAll f7.ext _ _ (Rp.monoAll f6.ext _ _ rb)).append (.one r7), by rw [List.length_append]; simp; omega, ?_⟩
          have e9 : (fun rs => catW (lcF2 ds.length t vs mt it1 t1 vs1 mt1 me e) (ds.drop (i + 1)) (fun rest => QD (bcc ++ [d] ++ rs ++ rest))) = fun rs => catW (lcF2 ds.length t vs mt it1 t1 vs1 mt1 me e) (ds.drop (i + 1)) (fun rest => QD (bcc ++ ((some d).toList ++ rs) ++ rest)) := by funext rs; simp
          rw [e9]
          exact q7
        | false => exact ⟨Hv6, bcc, bccV, f5.trans f6, x5.trans f6.ext, hv6, hh6, Rp.monoAll f6.ext _ _ rb, by omega, q6⟩
      · have e1 : j = ds1.length := by omega
        subst e1
        refine .inl ⟨ok1.stop Hv5 H5 x5 f5.vw, Hv5, bcc, bccV, f5, hv5, hh5, rb, ?_, fun q => by omega, ?_⟩
        · have a1 : ds.length * bcc.length ≤ ds.length * acc.length + ds.length * ds1.length := by rw [← Nat.mul_add]; exact Nat.mul_le_mul_left _ lb
          rw [Nat.succ_mul]
          exact Nat.le_trans a1 (Nat.add_le_add la hsz)
        · rw [List.drop_length] at q5
          have q6 : catW (lcF2 ds.length t vs mt it1 t1 vs1 mt1 me e) (ds.drop (i + 1)) (fun rest => QD (bcc ++ [] ++ rest)) := q5
          rw [List.append_nil] at q6
          exact q6
  · have e1 : i = ds.length := by omega
    subst e1
    refine .inl ⟨ok.stop Hv2 H2 f2.ext f2.vw, ?_⟩
    rw [List.drop_length] at q2
    have q3 : QD (acc ++ []) := q2
    rw [List.append_nil] at q3
    have lz : acc.length ≤ sizeLine := by
      by_cases h0 : ds.length = 0
      · rw [l0 h0]; exact Nat.zero_le _
      · exact Nat.le_of_mul_le_mul_left la (by omega)
    exact k acc Dl accV Hv2 H2 (f1.trans f2) hv2 (f1.fresh_at hD) hh2 ra lz q3
theorem n_lc2 {elt tg iter tg1 iter1 : Expr} {ifs ifs1 : List Expr} {scope : Scope} {own : List (Str × Nat)} {vs1 : List Nat} {it it1 : IX} {t t1 : Tg} {mt mt1 : TX} {me : EX} (hc : X.calm = true) (hN : X.N.Nodup) (hi : DI X tg iter it) (ok : BlkOk X.N X.env.scope scope own) (hv : ∀ i ∈ vs1, i ∈ own.map (·.2))
    (hg : ∀ (s : Shared) (H : Hp) (C : Addr) (cl : List (Str × Addr)) (fp : List Addr), DG (X.blk s H scope (compEnvC scope cl C X.env) fp) tg t) (ht : ∀ (s : Shared) (H : Hp) (C : Addr) (cl : List (Str × Addr)) (fp : List Addr), DTs (X.blk s H scope (compEnvC scope cl C X.env) fp) ifs mt)
    (hi1 : ∀ (s : Shared) (H : Hp) (C : Addr) (cl : List (Str × Addr)) (fp : List Addr), DI (X.blk s H scope (compEnvC scope cl C X.env) fp) tg1 iter1 it1)
    (hg1 : ∀ (s : Shared) (H : Hp) (C : Addr) (cl : List (Str × Addr)) (fp : List Addr), DG (X.blk s H scope (compEnvC scope cl C X.env) fp) tg1 t1) (ht1 : ∀ (s : Shared) (H : Hp) (C : Addr) (cl : List (Str × Addr)) (fp : List Addr), DTs (X.blk s H scope (compEnvC scope cl C X.env) fp) ifs1 mt1)
    (he : ∀ (s : Shared) (H : Hp) (C : Addr) (cl : List (Str × Addr)) (fp : List Addr), DE (X.blk s H scope (compEnvC scope cl C X.env) fp) elt me) (hsub : ∀ i ∈ t.slots, i ∈ own.map (·.2) := by decide) (hsub1 : ∀ i ∈ t1.slots, i ∈ vs1 := by decide)
    (hs : ∀ x, foldedSetIterable iter X.env x = pure x := by intro _; rfl) (hs1 : ∀ env x, foldedSetIterable iter1 env x = pure x := by intro _ _; rfl) :
    DN X (.ListComp elt [⟨tg, iter, ifs, 0⟩, ⟨tg1, iter1, ifs1, 0⟩] scope pos) (nLc2 it t (own.map (·.2)) mt it1 t1 vs1 mt1 me) :=
  peW (pe_lc2 (g := gTgt X.K t) (tt := tt X.K mt) (te := te X.K me) (g1 := gTgt X.K t1) (tt1 := tt X.K mt1) (wi1 := ti X.K it1) (vs1 := vs1) hc hN hi ok hv hg ht hi1 hg1 ht1 he hs hs1) fun _ _ _ h => tn_lc2 hsub hsub1 h
end
end J

/-! J5: a def's state, statements. -/
namespace J
open PySem PySem.Spec PyProof.Rows L2

/-- a def's state: entered at Hv0 over H0 -/
structure Stt (K : PySem.W.Frag) (Hv0 H0 Hv : Hp) (e : En) (σ : L2.St) (H : Hp) : Prop where
  fw : Fw Hv0 H0 Hv H
  len : e.length = σ.length
  val : ∀ (i : Nat) (d : D), e[i]? = some (Slot.val d) → ∃ v, σ[i]? = some (some v) ∧ Rp K Hv v d
  own : ∀ (i : Nat) (ds : List D), e[i]? = some (Slot.own ds) → ∃ a xs, σ[i]? = some (some (.ref a)) ∧ Hv a = none ∧ H0 a = none ∧ H a = some (.lst xs) ∧ RpAll K Hv xs ds ∧ ds.length ≤ sizeLine
  sep : ∀ (i j : Nat) (ds es : List D) (a : Addr), e[i]? = some (Slot.own ds) → e[j]? = some (Slot.own es) → σ[i]? = some (some (.ref a)) → σ[j]? = some (some (.ref a)) → i = j
def Slot.hide : Slot → Slot
  | .own _ => .no
  | s => s
def hide (e : En) : En := e.map Slot.hide
def Owned (e : En) (σ : L2.St) (a : Addr) : Prop := ∃ (i : Nat) (ds : List D), e[i]? = some (Slot.own ds) ∧ σ[i]? = some (some (.ref a))
open Classical in
noncomputable def fullV (Hv H : Hp) (e : En) (σ : L2.St) : Hp := fun a => match Hv a with
  | some o => some o
  | none => if Owned e σ a then H a else none
open Classical in
noncomputable def cutO (Hv : Hp) (e : En) (σ : L2.St) : Hp := fun a => if Owned e σ a then none else Hv a
section
variable {K : PySem.W.Frag} {Hv0 H0 Hv H : Hp} {e : En} {σ : L2.St}
theorem Stt.owned (S : Stt K Hv0 H0 Hv e σ H) {a : Addr} (h : Owned e σ a) : Hv a = none ∧ H0 a = none ∧ ∃ xs, H a = some (.lst xs) := by
  obtain ⟨i, ds, h1, h2⟩ := h
  obtain ⟨a', xs, e1, e2, e3, e4, _⟩ := S.own i ds h1
  rw [h2] at e1
  cases e1
  exact ⟨e2, e3, xs, e4⟩
theorem Stt.erH (S : Stt K Hv0 H0 Hv e σ H) : Er K Hv (hide e) σ := ⟨by unfold hide; rw [List.length_map]; exact S.len, fun i d h => by
  unfold rd hide at h
  rw [List.getElem?_map] at h
  cases q : e[i]? with
  | none => rw [q] at h; cases h
  | some s =>
    rw [q] at h
    cases s with
    | no => cases h
    | val d' => cases h; exact S.val i d q
    | own ds => cases h⟩
/-- evaluated in what is not the def's own to change -/
theorem Stt.step (S : Stt K Hv0 H0 Hv e σ H) {Hv1 H1 : Hp} (f : Fw Hv H Hv1 H1) : Stt K Hv0 H0 Hv1 e σ H1 where
  fw := S.fw.trans f
  len := S.len
  val := fun i d h => by
    obtain ⟨v, a, b⟩ := S.val i d h
    exact ⟨v, a, b.mono f.ext⟩
  own := fun i ds h => by
    obtain ⟨a, xs, h1, h2, h3, h4, h5, h6⟩ := S.own i ds h
    obtain ⟨g1, g2⟩ := f.hidden h2 h4
    exact ⟨a, xs, h1, g1, h3, g2, Rp.monoAll f.ext _ _ h5, h6⟩
  sep := S.sep
theorem full_same : Same Hv (fullV Hv H e σ) := fun a o h => by
  unfold fullV
  rw [h]
theorem Stt.full_at (S : Stt K Hv0 H0 Hv e σ H) {a : Addr} (h : Owned e σ a) : fullV Hv H e σ a = H a := by
  unfold fullV
  rw [(S.owned h).1]
  exact if_pos h
theorem full_un {a : Addr} (h : ¬ Owned e σ a) : fullV Hv H e σ a = Hv a := by
  unfold fullV
  cases q : Hv a with
  | none => exact if_neg h
  | some o => rfl
theorem Stt.full_vw (S : Stt K Hv0 H0 Hv e σ H) : Vw (fullV Hv H e σ) H := fun a o h => by
  by_cases q : Owned e σ a
  · rw [S.full_at q] at h
    obtain ⟨_, _, xs, z⟩ := S.owned q
    rw [z] at h
    cases h
    exact .inr ⟨mark_ne_lst, z⟩
  · rw [full_un q] at h
    exact S.fw.vw a o h
theorem Stt.erF (S : Stt K Hv0 H0 Hv e σ H) : Er K (fullV Hv H e σ) e σ := ⟨S.len, fun i d h => by
  unfold rd at h
  cases q : e[i]? with
  | none => rw [q] at h; cases h
  | some s =>
    rw [q] at h
    cases s with
    | no => cases h
    | val d' =>
      cases h
      obtain ⟨v, a, b⟩ := S.val i d q
      exact ⟨v, a, b.mono full_same⟩
    | own ds =>
      cases h
      obtain ⟨a, xs, h1, h2, h3, h4, h5, h6⟩ := S.own i ds q
      exact ⟨.ref a, h1, .lst (SqL.of (by rw [S.full_at ⟨i, ds, q, h1⟩]; exact h4)) (Rp.monoAll full_same _ _ h5) h6⟩⟩
/-- all frozen -/
theorem Stt.frozen (S : Stt K Hv0 H0 Hv e σ H) : Fw Hv0 H0 (fullV Hv H e σ) H := ⟨S.fw.ext.trans full_same, S.full_vw, S.fw.keep, fun a h1 h2 => by
  by_cases q : Owned e σ a
  · exact (S.owned q).2.1
  · rw [full_un q] at h2
    exact S.fw.fresh a h1 h2⟩
/-- back from the full view -/
theorem Stt.back (S : Stt K Hv0 H0 Hv e σ H) {Hv1 H1 : Hp} (f : Fw (fullV Hv H e σ) H Hv1 H1) : Stt K Hv0 H0 (cutO Hv1 e σ) e σ H1 ∧ ∀ n d v, pl n d = true → Rp K Hv1 v d → Rp K (cutO Hv1 e σ) v d := by
  have cut_o : ∀ a, Owned e σ a → cutO Hv1 e σ a = none := fun a h => if_pos h
  have cut_u : ∀ a, ¬ Owned e σ a → cutO Hv1 e σ a = Hv1 a := fun a h => if_neg h
  have ext : Same Hv (cutO Hv1 e σ) := fun a o h => by
    have q : ¬ Owned e σ a := fun z => by rw [(S.owned z).1] at h; cases h
    rw [cut_u a q]
    exact f.ext a o (by rw [full_un q]; exact h)
  have at1 : ∀ a, Owned e σ a → Hv1 a = H a ∧ H1 a = H a := fun a h => by
    obtain ⟨_, _, xs, z⟩ := S.owned h
    have y := f.ext a _ (by rw [S.full_at h]; exact z)
    refine ⟨by rw [y, z], ?_⟩
    rcases f.vw a _ y with ⟨w, _⟩ | ⟨_, w⟩
    · cases w
    · rw [w, z]
  refine ⟨⟨⟨S.fw.ext.trans ext, fun a o h => ?_, fun a o h1 h2 => ?_, fun a h1 h2 => ?_⟩, S.len, fun i d h => ?_, fun i ds h => ?_, S.sep⟩, fun n d v hp r => ?_⟩
  · by_cases q : Owned e σ a
    · rw [cut_o a q] at h; cases h
    · rw [cut_u a q] at h
      exact f.vw a o h
  · have z := S.fw.keep a o h1 h2
    have q : ¬ Owned e σ a := fun w => by rw [(S.owned w).2.1] at h2; cases h2
    refine f.keep a o ?_ z
    rw [full_un q]
    cases y : Hv a with
    | none => rfl
    | some u =>
      have := S.fw.fresh a h1 (by rw [y]; simp)
      rw [this] at h2
      cases h2
  · by_cases q : Owned e σ a
    · exact (S.owned q).2.1
    · rw [cut_u a q] at h2
      cases y : Hv a with
      | some u => exact S.fw.fresh a h1 (by rw [y]; simp)
      | none =>
        have w := f.fresh a (by rw [full_un q]; exact y) h2
        cases z : H0 a with
        | none => rfl
        | some o =>
          rw [S.fw.keep a o h1 z] at w
          cases w
  · obtain ⟨v, a, b⟩ := S.val i d h
    exact ⟨v, a, b.mono ext⟩
  · obtain ⟨a, xs, h1, h2, h3, h4, h5, h6⟩ := S.own i ds h
    have o : Owned e σ a := ⟨i, ds, h, h1⟩
    exact ⟨a, xs, h1, cut_o a o, h3, by rw [(at1 a o).2]; exact h4, Rp.monoAll ext _ _ h5, h6⟩
  · refine Rp.less (fun a o h hl => ?_) n d v hp r
    have q : ¬ Owned e σ a := fun z => by
      obtain ⟨_, _, xs, y⟩ := S.owned z
      rw [(at1 a z).1, y] at h
      cases h
      exact hl xs rfl
    rw [cut_u a q]
    exact h

/-! ### stores -/
theorem set_get {α : Type} {l : List α} {i j : Nat} {x y : α} (h : (l.set i x)[j]? = some y) : (j = i ∧ y = x) ∨ (j ≠ i ∧ l[j]? = some y) := by
  by_cases q : i = j
  · subst q
    by_cases hl : i < l.length
    · rw [List.getElem?_set_self hl] at h
      cases h
      exact .inl ⟨rfl, rfl⟩
    · rw [List.getElem?_eq_none (by rw [List.length_set]; omega)] at h
      cases h
  · rw [List.getElem?_set_ne q] at h
    exact .inr ⟨fun z => q z.symm, h⟩
theorem lt_of_set {α : Type} {l : List α} {i : Nat} {x y : α} (h : (l.set i x)[i]? = some y) : i < l.length := by
  have := (List.getElem?_eq_some_iff.mp h).1
  rw [List.length_set] at this
  exact this
theorem Stt.set (S : Stt K Hv0 H0 Hv e σ H) {i : Nat} {v : V} {d : D} (r : Rp K Hv v d) : Stt K Hv0 H0 Hv (e.set i (.val d)) (σ.set i (some v)) H where
  fw := S.fw
  len := by rw [List.length_set, List.length_set]; exact S.len
  val := fun j d' h => by
    rcases set_get h with ⟨q, z⟩ | ⟨q, z⟩
    · subst q
      cases z
      exact ⟨v, List.getElem?_set_self (by rw [← S.len]; exact lt_of_set h), r⟩
    · obtain ⟨w, a, b⟩ := S.val j d' z
      exact ⟨w, by rw [List.getElem?_set_ne (Ne.symm q)]; exact a, b⟩
  own := fun j ds h => by
    rcases set_get h with ⟨q, z⟩ | ⟨q, z⟩
    · cases z
    · obtain ⟨a, xs, h1, hr⟩ := S.own j ds z
      exact ⟨a, xs, by rw [List.getElem?_set_ne (Ne.symm q)]; exact h1, hr⟩
  sep := fun j k ds es a h1 h2 h3 h4 => by
    rcases set_get h1 with ⟨q, z⟩ | ⟨q, z⟩
    · cases z
    · rcases set_get h2 with ⟨q2, z2⟩ | ⟨q2, z2⟩
      · cases z2
      · rw [List.getElem?_set_ne (Ne.symm q)] at h3
        rw [List.getElem?_set_ne (Ne.symm q2)] at h4
        exact S.sep j k ds es a z z2 h3 h4
/-- a new list of the def's own -/
theorem Stt.setOwn (S : Stt K Hv0 H0 Hv e σ H) {i : Nat} {p : Addr} {xs : List V} {ds : List D} (hv : Hv p = none) (h0 : H0 p = none) (no : ∀ (j : Nat) (es : List D), e[j]? = some (Slot.own es) → σ[j]? ≠ some (some (.ref p))) (hp : H p = some (.lst xs)) (r : RpAll K Hv xs ds) (hl : ds.length ≤ sizeLine) :
    Stt K Hv0 H0 Hv (e.set i (.own ds)) (σ.set i (some (.ref p))) H where
  fw := S.fw
  len := by rw [List.length_set, List.length_set]; exact S.len
  val := fun j d' h => by
    rcases set_get h with ⟨q, z⟩ | ⟨q, z⟩
    · cases z
    · obtain ⟨w, a, b⟩ := S.val j d' z
      exact ⟨w, by rw [List.getElem?_set_ne (Ne.symm q)]; exact a, b⟩
  own := fun j es h => by
    rcases set_get h with ⟨q, z⟩ | ⟨q, z⟩
    · subst q
      cases z
      exact ⟨p, xs, List.getElem?_set_self (by rw [← S.len]; exact lt_of_set h), hv, h0, hp, r, hl⟩
    · obtain ⟨a, ys, h1, hr⟩ := S.own j es z
      exact ⟨a, ys, by rw [List.getElem?_set_ne (Ne.symm q)]; exact h1, hr⟩
  sep := fun j k es fs a h1 h2 h3 h4 => by
    rcases set_get h1 with ⟨q, z⟩ | ⟨q, z⟩
    · rcases set_get h2 with ⟨q2, z2⟩ | ⟨q2, z2⟩
      · rw [q, q2]
      · subst q
        have l : j < σ.length := by rw [← S.len]; exact lt_of_set h1
        rw [List.getElem?_set_self l] at h3
        cases h3
        rw [List.getElem?_set_ne (Ne.symm q2)] at h4
        exact absurd h4 (no k fs z2)
    · rcases set_get h2 with ⟨q2, z2⟩ | ⟨q2, z2⟩
      · subst q2
        have l : k < σ.length := by rw [← S.len]; exact lt_of_set h2
        rw [List.getElem?_set_self l] at h4
        cases h4
        rw [List.getElem?_set_ne (Ne.symm q)] at h3
        exact absurd h3 (no j es z)
      · rw [List.getElem?_set_ne (Ne.symm q)] at h3
        rw [List.getElem?_set_ne (Ne.symm q2)] at h4
        exact S.sep j k es fs a z z2 h3 h4
/-- a list of the def's own changes -/
theorem Stt.mut (S : Stt K Hv0 H0 Hv e σ H) {i : Nat} {a : Addr} {ds es : List D} {ys : List V} (h : e[i]? = some (.own ds)) (hs : σ[i]? = some (some (.ref a))) (r : RpAll K Hv ys es) (hl : es.length ≤ sizeLine) : Stt K Hv0 H0 Hv (e.set i (.own es)) σ (upd H a (.lst ys)) := by
  obtain ⟨a', xs, g1, g2, g3, g4, g5, g6⟩ := S.own i ds h
  rw [hs] at g1
  cases g1
  have li : i < e.length := (List.getElem?_eq_some_iff.mp h).1
  refine ⟨S.fw.mut g3 g2, by rw [List.length_set]; exact S.len, fun j d q => ?_, fun j fs q => ?_, fun j k fs gs b q1 q2 q3 q4 => ?_⟩
  · rcases set_get q with ⟨_, z⟩ | ⟨_, z⟩
    · cases z
    · exact S.val j d z
  · rcases set_get q with ⟨y, z⟩ | ⟨y, z⟩
    · subst y
      cases z
      exact ⟨a, ys, hs, g2, g3, upd_same, r, hl⟩
    · obtain ⟨b, zs, k1, k2, k3, k4, k5, k6⟩ := S.own j fs z
      have ne : b ≠ a := fun w => by
        subst w
        exact y (S.sep j i fs ds b z h k1 hs)
      exact ⟨b, zs, k1, k2, k3, by rw [upd_ne ne]; exact k4, k5, k6⟩
  · have e1 : ∃ es', e[j]? = some (.own es') := by
      rcases set_get q1 with ⟨y, z⟩ | ⟨y, z⟩
      · subst y; exact ⟨ds, h⟩
      · exact ⟨_, z⟩
    have e2 : ∃ es', e[k]? = some (.own es') := by
      rcases set_get q2 with ⟨y, z⟩ | ⟨y, z⟩
      · subst y; exact ⟨ds, h⟩
      · exact ⟨_, z⟩
    obtain ⟨f1, e1⟩ := e1
    obtain ⟨f2, e2⟩ := e2
    exact S.sep j k f1 f2 b e1 e2 q3 q4
/-- a list of the def's own is frozen -/
def frz (i : Nat) (e : En) : En := match e[i]? with
  | some (.own ds) => e.set i (.val (.list ds))
  | _ => e
theorem Stt.frz (S : Stt K Hv0 H0 Hv e σ H) (i : Nat) : ∃ Hv1, Stt K Hv0 H0 Hv1 (J.frz i e) σ H := by
  unfold J.frz
  split
  · rename_i ds h
    obtain ⟨a, xs, g1, g2, g3, g4, g5, g6⟩ := S.own i ds h
    have hv0 : Hv0 a = none := by
      cases q : Hv0 a with
      | none => rfl
      | some o => rw [S.fw.ext a o q] at g2; cases g2
    have m : Same Hv (upd Hv a (.lst xs)) := same_upd g2
    refine ⟨upd Hv a (.lst xs), ⟨S.fw.ext.trans m, Fw.show_ S.fw.vw mark_ne_lst g2 g4, S.fw.keep, fun b h1 h2 => ?_⟩, by rw [List.length_set]; exact S.len, fun j d q => ?_, fun j es q => ?_, fun j k es fs b q1 q2 q3 q4 => ?_⟩
    · by_cases z : b = a
      · rw [z]; exact g3
      · rw [upd_ne z] at h2
        exact S.fw.fresh b h1 h2
    · rcases set_get q with ⟨y, z⟩ | ⟨y, z⟩
      · subst y
        cases z
        exact ⟨.ref a, g1, .lst (SqL.of upd_same) (Rp.monoAll m _ _ g5) g6⟩
      · obtain ⟨v, k1, k2⟩ := S.val j d z
        exact ⟨v, k1, k2.mono m⟩
    · rcases set_get q with ⟨y, z⟩ | ⟨y, z⟩
      · cases z
      · obtain ⟨b, zs, k1, k2, k3, k4, k5, k6⟩ := S.own j es z
        have ne : b ≠ a := fun w => by
          subst w
          exact y (S.sep j i es ds b z h k1 g1)
        exact ⟨b, zs, k1, by rw [upd_ne ne]; exact k2, k3, k4, Rp.monoAll m _ _ k5, k6⟩
    · rcases set_get q1 with ⟨y, z⟩ | ⟨y, z⟩
      · cases z
      · rcases set_get q2 with ⟨y2, z2⟩ | ⟨y2, z2⟩
        · cases z2
        · exact S.sep j k es fs b z z2 q3 q4
  · exact ⟨Hv, S⟩
theorem Stt.setAll : ∀ (is : List Nat) {vs : List V} {ds : List D} {e : En} {σ : L2.St}, RpAll K Hv vs ds → Stt K Hv0 H0 Hv e σ H → Stt K Hv0 H0 Hv (J.setAll is ds e) (setAllV is vs σ) H
  | [], _, _, _, _, .nil, er => er
  | [], _, _, _, _, .cons _ _, er => er
  | _ :: _, _, _, _, _, .nil, er => er
  | i :: is, _, _, _, _, .cons r t, er => Stt.setAll is t (er.set r)
theorem Stt.bind {t : Tg} {e' : En} {v : V} {d : D} {Q : L2.St → Hp → Prop} (S : Stt K Hv0 H0 Hv e σ H) (r : Rp K Hv v d) (h : t.bind d e = some e') (k : ∀ σ', Stt K Hv0 H0 Hv e' σ' H → Q σ' H) : gTgt K t v σ H Q := by
  cases t with
  | one i =>
    cases h
    exact k _ (S.set r)
  | many is =>
    cases d <;> first | cases h | skip
    have h' : (if _ then _ else _) = some e' := h
    split at h'
    · rename_i l
      cases h'
      cases r with
      | @tup a xs ds hs ha hl =>
        exact ⟨a, xs, rfl, S.fw.vw.sqt hs, by rw [ha.length]; exact l, gNames_ok is xs (by rw [ha.length]; exact l) (k _ (Stt.setAll is ha S))⟩
    · cases h'
end

/-! ### a loop's turn: the state entered anew -/
open Classical in
noncomputable def ent (e : En) (σ : L2.St) (H : Hp) : Hp := fun a => if Owned e σ a then none else H a
section
variable {K : PySem.W.Frag} {Hv0 H0 Hv H : Hp} {e : En} {σ : L2.St}
theorem ent_o {a : Addr} (h : Owned e σ a) : ent e σ H a = none := if_pos h
theorem ent_u {a : Addr} (h : ¬ Owned e σ a) : ent e σ H a = H a := if_neg h
theorem Stt.enter (S : Stt K Hv0 H0 Hv e σ H) : Stt K Hv (ent e σ H) Hv e σ H where
  fw := ⟨Same.refl _, S.fw.vw, fun a o _ h => by
    by_cases q : Owned e σ a
    · rw [ent_o q] at h; cases h
    · rw [ent_u q] at h; exact h, fun a h1 h2 => absurd h1 h2⟩
  len := S.len
  val := S.val
  own := fun i ds h => by
    obtain ⟨a, xs, h1, h2, h3, h4, h5, h6⟩ := S.own i ds h
    exact ⟨a, xs, h1, h2, ent_o ⟨i, ds, h, h1⟩, h4, h5, h6⟩
  sep := S.sep
theorem Stt.none0 (S : Stt K Hv0 H0 Hv e σ H) {a : Addr} (h : ent e σ H a = none) : Hv0 a = none → H0 a = none := fun h0 => by
  by_cases q : Owned e σ a
  · exact (S.owned q).2.1
  · rw [ent_u q] at h
    cases z : H0 a with
    | none => rfl
    | some o => rw [S.fw.keep a o h0 z] at h; cases h
theorem Stt.leaveFw (S : Stt K Hv0 H0 Hv e σ H) {Hv3 H3 : Hp} (f : Fw Hv (ent e σ H) Hv3 H3) : Fw Hv0 H0 Hv3 H3 where
  ext := S.fw.ext.trans f.ext
  vw := f.vw
  keep := fun a o h1 h2 => by
    have q : ¬ Owned e σ a := fun w => by rw [(S.owned w).2.1] at h2; cases h2
    refine f.keep a o ?_ (by rw [ent_u q]; exact S.fw.keep a o h1 h2)
    cases y : Hv a with
    | none => rfl
    | some u =>
      have := S.fw.fresh a h1 (by rw [y]; simp)
      rw [this] at h2
      cases h2
  fresh := fun a h1 h2 => by
    cases y : Hv a with
    | some u => exact S.fw.fresh a h1 (by rw [y]; simp)
    | none => exact S.none0 (f.fresh a y h2) h1
theorem Stt.leave (S : Stt K Hv0 H0 Hv e σ H) {Hv3 H3 : Hp} {e3 : En} {σ3 : L2.St} (S3 : Stt K Hv (ent e σ H) Hv3 e3 σ3 H3) : Stt K Hv0 H0 Hv3 e3 σ3 H3 where
  fw := S.leaveFw S3.fw
  len := S3.len
  val := S3.val
  own := fun i ds h => by
    obtain ⟨a, xs, h1, h2, h3, h4, h5, h6⟩ := S3.own i ds h
    refine ⟨a, xs, h1, h2, S.none0 h3 ?_, h4, h5, h6⟩
    cases q : Hv0 a with
    | none => rfl
    | some o =>
      have := (S.fw.ext.trans S3.fw.ext) a o q
      rw [h2] at this
      cases this
  sep := S3.sep
end

/-! ### statements -/
structure Po where
  nx : En → Prop
  rt : D → Prop
  bk : En → Prop
  ct : En → Prop
  /-- a list of the def's own is handed back, to be the caller's own -/
  rn : List D → Prop
abbrev SX := En → Po → Prop
structure Fits (K : PySem.W.Frag) (Hv0 H0 : Hp) (P : Po) (E : Ends) : Prop where
  nx : ∀ Hv e σ H, Stt K Hv0 H0 Hv e σ H → P.nx e → E.nx σ H
  bk : ∀ Hv e σ H, Stt K Hv0 H0 Hv e σ H → P.bk e → E.bk σ H
  ct : ∀ Hv e σ H, Stt K Hv0 H0 Hv e σ H → P.ct e → E.ct σ H
  rt : ∀ Hv d v H, Fw Hv0 H0 Hv H → Rp K Hv v d → P.rt d → E.rt v H
  rn : ∀ Hv ds p xs H, Fw Hv0 H0 Hv H → Hv p = none → H0 p = none → H p = some (.lst xs) → RpAll K Hv xs ds → ds.length ≤ sizeLine → P.rn ds → E.rt (.ref p) H
def ts (K : PySem.W.Frag) (m : SX) : TS := fun E σ H => ∃ Hv0 H0 Hv e P, Stt K Hv0 H0 Hv e σ H ∧ m e P ∧ Fits K Hv0 H0 P E
def DS (X : Cx) (st : Stmt) (m : SX) : Prop := PS X st (ts X.K m)
def DSs (X : Cx) (sts : List Stmt) (m : SX) : Prop := PSs X sts (ts X.K m)
theorem psW {X : Cx} {st : Stmt} {t t' : TS} (h : PS X st t) (w : ∀ E σ H, t' E σ H → t E σ H) : PS X st t' := ⟨fun pins s σ H E I q => h.run pins s σ H E I (w E σ H q)⟩
theorem pssW {X : Cx} {st : List Stmt} {t t' : TS} (h : PSs X st t) (w : ∀ E σ H, t' E σ H → t E σ H) : PSs X st t' := ⟨fun pins s σ H E I q => h.run pins s σ H E I (w E σ H q)⟩
section
variable {X : Cx} {K : PySem.W.Frag} {x a b : Expr} {es : List Expr} {pos : Pos} {m ma mb : EX} {ms : List EX} {n : NX} {st : Stmt} {rest : List Stmt} {s1 s2 : SX} {mt : TX}
def sSkip : SX := fun e P => P.nx e
def sSeq (s1 s2 : SX) : SX := fun e P => s1 e { P with nx := fun e' => s2 e' P }
theorem ss_nil : DSs X [] sSkip := pssW pss_nil fun E σ H ⟨Hv0, H0, Hv, e, P, S, h, F⟩ => F.nx _ _ _ _ S h
theorem ss_cons (h1 : DS X st s1) (h2 : DSs X rest s2) : DSs X (st :: rest) (sSeq s1 s2) := pssW (pss_cons h1 h2) fun E σ H ⟨Hv0, H0, Hv, e, P, S, h, F⟩ =>
  ⟨Hv0, H0, Hv, e, _, S, h, ⟨fun Hv' e' σ' H' S' q => ⟨Hv0, H0, Hv', e', P, S', q, F⟩, F.bk, F.ct, F.rt, F.rn⟩⟩
theorem ss_one (h1 : DS X st s1) : DSs X [st] s1 := pss_one h1
theorem s_pass : DS X (.Pass pos) sSkip := psW ps_pass fun E σ H ⟨Hv0, H0, Hv, e, P, S, h, F⟩ => F.nx _ _ _ _ S h
def sBrk : SX := fun e P => P.bk e
def sCnt : SX := fun e P => P.ct e
theorem s_break : DS X (.Break pos) sBrk := psW ps_break fun E σ H ⟨Hv0, H0, Hv, e, P, S, h, F⟩ => F.bk _ _ _ _ S h
theorem s_continue : DS X (.Continue pos) sCnt := psW ps_continue fun E σ H ⟨Hv0, H0, Hv, e, P, S, h, F⟩ => F.ct _ _ _ _ S h
/-- ghost: slot i is frozen ahead of the statement -/
def sFz (i : Nat) (s : SX) : SX := fun e P => s (frz i e) P
theorem s_fz (i : Nat) (h : DS X st s1) : DS X st (sFz i s1) := psW h fun E σ H ⟨Hv0, H0, Hv, e, P, S, h, F⟩ => by
  obtain ⟨Hv1, S1⟩ := S.frz i
  exact ⟨Hv0, H0, Hv1, _, P, S1, h, F⟩
/-- name = value, nothing of the def's own lists in it -/
def sAsg (i : Nat) (m : EX) : SX := fun e P => m (hide e) fun d => P.nx (e.set i (.val d))
/-- name = value in which no list stands -/
def sAsgP (i : Nat) (m : EX) : SX := fun e P => m e fun d => pl lvl d = true ∧ P.nx (e.set i (.val d))
variable {y : Str} {py : Pos}
theorem asg_ok {i : Nat} (h : PS X st (tAsg (te X.K m) (gName i))) : DS X st (sAsg i m) := psW h fun E σ H ⟨Hv0, H0, Hv, e, P, S, h, F⟩ =>
  ⟨Hv, hide e, _, S.erH, S.fw.vw, h, fun d v Hv1 H1 f r q => F.nx _ _ _ _ ((S.step f).set r) q⟩
theorem asgP_ok {i : Nat} (h : PS X st (tAsg (te X.K m) (gName i))) : DS X st (sAsgP i m) := psW h fun E σ H ⟨Hv0, H0, Hv, e, P, S, h, F⟩ =>
  ⟨_, e, _, S.erF, S.full_vw, h, fun d v Hv1 H1 f r q => F.nx _ _ _ _ ((S.back f).1.set ((S.back f).2 _ d v q.1 r)) q.2⟩
theorem s_asg (i : Nat) (hN : X.N.Nodup) (he : DE X x m) (hi : X.N[i]? = some y := by rfl) (hx : Loc X.env.scope y := by first | exact .inl rfl | exact .inr rfl) (hs : swapsWith x (some (.Name y py)) pos.line X.env = pure false := by rfl)
    (hf : X.fn y = true ∨ X.env.scope.names.lookup y = some .local := by first | exact .inl rfl | exact .inr rfl) : DS X (.Assign [.Name y py] x pos) (sAsg i m) := asg_ok (ps_set hN hi hx he hs hf)
theorem s_asgP (i : Nat) (hN : X.N.Nodup) (he : DE X x m) (hi : X.N[i]? = some y := by rfl) (hx : Loc X.env.scope y := by first | exact .inl rfl | exact .inr rfl) (hs : swapsWith x (some (.Name y py)) pos.line X.env = pure false := by rfl)
    (hf : X.fn y = true ∨ X.env.scope.names.lookup y = some .local := by first | exact .inl rfl | exact .inr rfl) : DS X (.Assign [.Name y py] x pos) (sAsgP i m) := asgP_ok (ps_set hN hi hx he hs hf)
/-- name = a new list -/
def sNew (i : Nat) (n : NX) : SX := fun e P => n (hide e) fun ds => P.nx (e.set i (.own ds))
def sNewP (i : Nat) (n : NX) : SX := fun e P => n e fun ds => ds.all (pl lvl) = true ∧ P.nx (e.set i (.own ds))
theorem Stt.noAt {Hv0 H0 Hv H : Hp} {e : En} {σ : L2.St} (S : Stt K Hv0 H0 Hv e σ H) {p : Addr} (hp : H p = none) : ∀ (j : Nat) (es : List D), e[j]? = some (Slot.own es) → σ[j]? ≠ some (some (.ref p)) := fun j es h q => by
  obtain ⟨_, _, xs, z⟩ := S.owned ⟨j, es, h, q⟩
  rw [hp] at z
  cases z
theorem Stt.h0 {Hv0 H0 Hv H : Hp} {e : En} {σ : L2.St} (S : Stt K Hv0 H0 Hv e σ H) {p : Addr} (hp : H p = none) : H0 p = none := S.fw.fresh_at hp
theorem new_ok {i : Nat} (h : PS X st (tAsg (tn X.K n) (gName i))) : DS X st (sNew i n) := psW h fun E σ H ⟨Hv0, H0, Hv, e, P, S, h, F⟩ =>
  ⟨Hv, hide e, _, S.erH, S.fw.vw, h, fun ds p xs Hv1 H1 f hv hp hl r l q => F.nx _ _ _ _ ((S.step f).setOwn hv (S.h0 hp) (fun j es h1 h2 => by
    obtain ⟨a', ys, g1, g2, g3, g4, _⟩ := S.own j es h1
    rw [h2] at g1
    cases g1
    rw [hp] at g4
    cases g4) hl r l) q⟩
theorem newP_ok {i : Nat} (h : PS X st (tAsg (tn X.K n) (gName i))) : DS X st (sNewP i n) := psW h fun E σ H ⟨Hv0, H0, Hv, e, P, S, h, F⟩ =>
  ⟨_, e, _, S.erF, S.full_vw, h, fun ds p xs Hv1 H1 f hv hp hl r l q => by
    obtain ⟨S1, b⟩ := S.back f
    refine F.nx _ _ _ _ (S1.setOwn ?_ (S.h0 hp) (fun j es h1 h2 => ?_) hl ?_ l) q.2
    · unfold cutO
      split
      · rfl
      · exact hv
    · obtain ⟨a', ys, g1, g2, g3, g4, _⟩ := S.own j es h1
      rw [h2] at g1
      cases g1
      rw [hp] at g4
      cases g4
    · have hq := List.all_eq_true.mp q.1
      clear q h F
      revert hq
      revert l hl hv hp
      intro _ _ _ _ hq
      have go : ∀ (ds : List D) (xs : List V), RpAll X.K Hv1 xs ds → (∀ d ∈ ds, pl lvl d = true) → RpAll X.K (cutO Hv1 e σ) xs ds := by
        intro ds
        induction ds with
        | nil => intro xs r _; cases r; exact .nil
        | cons d ds ih =>
          intro xs r hq
          cases r with
          | cons r1 r2 => exact .cons (b _ d _ (hq d List.mem_cons_self) r1) (ih _ r2 fun z hz => hq z (List.mem_cons_of_mem _ hz))
      exact go ds xs r hq⟩
theorem s_new (i : Nat) (hN : X.N.Nodup) (he : DN X x n) (hi : X.N[i]? = some y := by rfl) (hx : Loc X.env.scope y := by first | exact .inl rfl | exact .inr rfl) (hs : swapsWith x (some (.Name y py)) pos.line X.env = pure false := by rfl)
    (hf : X.fn y = true ∨ X.env.scope.names.lookup y = some .local := by first | exact .inl rfl | exact .inr rfl) : DS X (.Assign [.Name y py] x pos) (sNew i n) := new_ok (ps_set hN hi hx he hs hf)
theorem s_newP (i : Nat) (hN : X.N.Nodup) (he : DN X x n) (hi : X.N[i]? = some y := by rfl) (hx : Loc X.env.scope y := by first | exact .inl rfl | exact .inr rfl) (hs : swapsWith x (some (.Name y py)) pos.line X.env = pure false := by rfl)
    (hf : X.fn y = true ∨ X.env.scope.names.lookup y = some .local := by first | exact .inl rfl | exact .inr rfl) : DS X (.Assign [.Name y py] x pos) (sNewP i n) := newP_ok (ps_set hN hi hx he hs hf)
/-- a, b = value -/
def sTgt (t : Tg) (m : EX) : SX := fun e P => m (hide e) fun d => ∃ e', t.bind d e = some e' ∧ P.nx e'
theorem s_tgt {tg : Expr} {t : Tg} (he : DE X x m) (hg : DG X tg t) (hs : swapsWithSole [tg] x pos.line X.env = pure false := by rfl) (hw : swappedStores [tg] x X.env = pure none := by rfl)
    (h1 : (assignEach [tg] X.env).map (·.2) = [assign tg X.env] := by rfl) : DS X (.Assign [tg] x pos) (sTgt t m) := psW (ps_asg he hg hs hw h1) fun E σ H ⟨Hv0, H0, Hv, e, P, S, h, F⟩ =>
  ⟨Hv, hide e, _, S.erH, S.fw.vw, h, fun d v Hv1 H1 f r ⟨e', hb, q⟩ => (S.step f).bind r hb fun σ' S' => F.nx _ _ _ _ S' q⟩
/-- a, b = x, y of plain local names -/
def sPar (i j : Nat) (ms : List EX) : SX := fun e P => evA ms e fun ds => match ds with
  | [d, d'] => pl lvl d = true ∧ pl lvl d' = true ∧ P.nx ((e.set i (.val d)).set j (.val d'))
  | _ => False
theorem s_par (i j : Nat) {x y : Str} {a b : Expr} {px py pt : Pos} {kt k2 pt2} (hc : X.calm = true) (hN : X.N.Nodup) (ha : DA X [a, b] ms) (hi : X.N[i]? = some x := by rfl) (hj : X.N[j]? = some y := by rfl) (hij : i ≠ j := by decide)
    (hx : X.env.scope.names.lookup x = some .local := by rfl) (hy : X.env.scope.names.lookup y = some .local := by rfl)
    (hw : swappedStores [.Tuple [.Name x px, .Name y py] kt pt] (.Tuple [a, b] k2 pt2) X.env = pure (some [x, y]) := by rfl)
    (hs : swapsWithSole [.Tuple [.Name x px, .Name y py] kt pt] (.Tuple [a, b] k2 pt2) pos.line X.env = pure false := by rfl) :
    DS X (.Assign [.Tuple [.Name x px, .Name y py] kt pt] (.Tuple [a, b] k2 pt2) pos) (sPar i j ms) := psW (ps_par hc hN hi hj hij hx hy ha hw hs) fun E σ H ⟨Hv0, H0, Hv, e, P, S, h, F⟩ =>
  tas_ok ms S.erF S.full_vw h fun ds vs Hv1 H1 f r l q => by
    split at q
    · obtain ⟨v, v', rfl, r1, r2⟩ := rp2 r
      obtain ⟨S1, b⟩ := S.back f
      exact ⟨v, v', rfl, F.nx _ _ _ _ ((S1.set (b _ _ _ q.1 r1)).set (b _ _ _ q.2.1 r2)) q.2.2⟩
    · exact q.elim
def sRet (m : EX) : SX := fun e P => m e P.rt
theorem s_ret (he : DE X x m) : DS X (.Return (some x) pos) (sRet m) := psW (ps_ret he) fun E σ H ⟨Hv0, H0, Hv, e, P, S, h, F⟩ =>
  ⟨_, e, _, S.erF, S.full_vw, h, fun d v Hv1 H1 f r q => F.rt _ _ _ _ (S.frozen.trans f) r q⟩
def sDrop (m : EX) : SX := fun e P => m e fun _ => P.nx e
theorem s_expr (he : DE X x m) (hs : swapsWith x none pos.line X.env = pure false := by rfl) : DS X (.Expr x pos) (sDrop m) := psW (ps_expr he hs) fun E σ H ⟨Hv0, H0, Hv, e, P, S, h, F⟩ =>
  ⟨_, e, _, S.erF, S.full_vw, h, fun d v Hv1 H1 f r q => F.nx _ _ _ _ (S.back f).1 q⟩
def sIf (mt : TX) (s1 s2 : SX) : SX := fun e P => mt e fun b => if b = true then s1 e P else s2 e P
theorem s_if {c : Expr} {p q : List Stmt} (hc : DT X c mt) (h1 : DSs X p s1) (h2 : DSs X q s2) : DS X (.If c p q pos) (sIf mt s1 s2) := psW (ps_if hc h1 h2) fun E σ H ⟨Hv0, H0, Hv, e, P, S, h, F⟩ =>
  ⟨_, e, _, S.erF, S.full_vw, h, fun b Hv1 H1 f q => by
    obtain ⟨S1, _⟩ := S.back f
    cases b with
    | true => exact ⟨Hv0, H0, _, e, P, S1, q, F⟩
    | false => exact ⟨Hv0, H0, _, e, P, S1, q, F⟩⟩
/-- code that the proof never comes to -/
def sWhile (mt : TX) (s : SX) : SX := fun e P => ∃ W : Nat → En → Prop, (∃ n, W n e) ∧ ∀ n e', W n e' → mt e' fun b => if b = true then s e' { P with nx := fun e2 => ∃ n', n' < n ∧ W n' e2, ct := fun e2 => ∃ n', n' < n ∧ W n' e2, bk := P.nx } else P.nx e'
theorem s_while {c : Expr} {body : List Stmt} (hp : PassesOwn (model X.prog X.w) X.A X.env X.xe) (hc : DT X c mt) (hb : DSs X body s1) : DS X (.While c body [] pos) (sWhile mt s1) := psW (ps_while hp hc hb) fun E σ H ⟨Hv0, H0, Hv, e, P, S, ⟨W, ⟨n0, w0⟩, hw⟩, F⟩ =>
  ⟨fun n σ' H' => ∃ Hv' e', Stt X.K Hv0 H0 Hv' e' σ' H' ∧ W n e', ⟨n0, Hv, e, S, w0⟩, fun n σ' H' ⟨Hv', e', S', w'⟩ =>
    ⟨_, e', _, S'.erF, S'.full_vw, hw n e' w', fun b Hv1 H1 f q => by
      obtain ⟨S1, _⟩ := S'.back f
      cases b with
      | true => exact ⟨fun σ2 H2 => ∃ Hv2 e2, Stt X.K Hv0 H0 Hv2 e2 σ2 H2 ∧ ∃ n', n' < n ∧ W n' e2, fun σ2 H2 ⟨Hv2, e2, S2, n', hn, w2⟩ => ⟨n', hn, Hv2, e2, S2, w2⟩,
          Hv0, H0, _, e', _, S1, q, ⟨fun Hv2 e2 σ2 H2 S2 w2 => ⟨Hv2, e2, S2, w2⟩, F.nx, fun Hv2 e2 σ2 H2 S2 w2 => ⟨Hv2, e2, S2, w2⟩, F.rt, F.rn⟩⟩
      | false => exact F.nx _ _ _ _ S1 q⟩⟩
def forW (t : Tg) (s : SX) : List D → En → Po → Prop
  | [], e, P => P.nx e
  | d :: ds, e, P => ∃ e', t.bind d e = some e' ∧ s e' { P with nx := fun e2 => forW t s ds e2 P, ct := fun e2 => forW t s ds e2 P, bk := P.nx }
/-- the loop over ds, whatever walks them -/
theorem for_ok {t : Tg} {Hv0 H0 Hv H : Hp} {e : En} {σ : L2.St} {P : Po} {E : Ends} {ds : List D} {J : It} (S : Stt K Hv0 H0 Hv e σ H) (F : Fits K Hv0 H0 P E) (ok : ItOk K Hv J ds) (h : forW t s1 ds e P) :
    ∃ W : Nat → Nat → L2.St → Hp → Prop, (∃ m, W 0 m σ H) ∧ ∀ i m σ H, W i m σ H →
      (J.stop i H ∧ E.nx σ H) ∨ (J.go i H ∧ ∃ N : L2.St → Hp → Prop, (∀ σ' H', N σ' H' → ∃ m', m' < m ∧ W (i + 1) m' σ' H') ∧ ∀ x H', J.yld i H x H' → gTgt K t x σ H' fun σ2 H2 => ts K s1 { E with nx := N, ct := N, bk := E.nx } σ2 H2) := by
  refine ⟨fun i m σ' H' => m = ds.length - i ∧ i ≤ ds.length ∧ ∃ Hv' e', Stt K Hv0 H0 Hv' e' σ' H' ∧ Same Hv Hv' ∧ forW t s1 (ds.drop i) e' P, ⟨ds.length, by simp, Nat.zero_le _, Hv, e, S, Same.refl _, h⟩, ?_⟩
  rintro i m σ' H' ⟨rfl, hi, Hv', e', S', x', w⟩
  by_cases lt : i < ds.length
  · rw [drop_cons lt] at w
    obtain ⟨e2, hb, w⟩ := w
    refine .inr ⟨ok.go i Hv' H' lt x' S'.fw.vw, fun σ2 H2 => ∃ Hv2 e3, Stt K Hv0 H0 Hv2 e3 σ2 H2 ∧ Same Hv Hv2 ∧ forW t s1 (ds.drop (i + 1)) e3 P, fun σ2 H2 z => ⟨ds.length - (i + 1), by omega, rfl, lt, z⟩, fun x H2 y => ?_⟩
    obtain ⟨e4, y2⟩ := ok.yld i Hv' H' x H2 x' S'.fw.vw y
    rw [e4]
    refine S'.bind (y2 ds[i] (by simp [lt])) hb fun σ3 S3 => ?_
    exact ⟨Hv', _, Hv', e2, _, S3.enter, w, ⟨fun Hv3 e3 σ4 H4 S4 q => ⟨Hv3, e3, S3.leave S4, x'.trans S4.fw.ext, q⟩, fun Hv3 e3 σ4 H4 S4 q => F.nx _ _ _ _ (S3.leave S4) q, fun Hv3 e3 σ4 H4 S4 q => ⟨Hv3, e3, S3.leave S4, x'.trans S4.fw.ext, q⟩, fun Hv3 d v H4 f r q => F.rt _ _ _ _ (S3.leaveFw f) r q, fun Hv3 ds p xs H4 f h1 h2 h3 r l q => F.rn _ _ _ _ _ (S3.leaveFw f) h1 (S3.none0 h2 (by
      cases z : Hv0 p with
      | none => rfl
      | some o =>
        have := (S3.fw.ext.trans f.ext) p o z
        rw [h1] at this
        cases this)) h3 r l q⟩⟩
  · have e1 : i = ds.length := by omega
    subst e1
    rw [List.drop_length] at w
    exact .inl ⟨ok.stop Hv' H' x' S'.fw.vw, F.nx _ _ _ _ S' w⟩
/-- for target in a list or tuple (no list of the def's own) -/
def sFor (it : IX) (t : Tg) (s : SX) : SX := fun e P => it (hide e) fun ds => forW t s ds e P
theorem s_for {tg iter : Expr} {body : List Stmt} {it : IX} {t : Tg} (hp : PassesOwn (model X.prog X.w) X.A X.env X.xe) (hc : X.calm = true) (hi : DI X tg iter it) (hg : DG X tg t) (hb : DSs X body s1)
    (hs : ∀ x, foldedSetIterable iter X.env x = pure x := by intro _; rfl) : DS X (.For tg iter body [] pos) (sFor it t s1) := psW (ps_for hp hc hi hg hb hs) fun E σ H ⟨Hv0, H0, Hv, e, P, S, h, F⟩ =>
  ⟨Hv, hide e, _, S.erH, S.fw.vw, h, fun ds J Hv1 H1 f ok q => for_ok (S.step f) F ok q⟩
/-- what is walked whatever the view: ranges -/
def tiA (K : PySem.W.Frag) (m : IX) : TI := fun σ H R => ∃ Hv e QD, Er K Hv e σ ∧ Vw Hv H ∧ m e QD ∧ ∀ ds J Hv' H', Fw Hv H Hv' H' → (∀ Hv2, ItOk K Hv2 J ds) → QD ds → R J H'
def DIA (X : Cx) (tg x : Expr) (m : IX) : Prop := PI X tg x (tiA X.K m)
theorem di_a {tg : Expr} {it : IX} (h : DIA X tg x it) : DI X tg x it := piW h fun σ H R ⟨Hv, e, QD, er, vw, h, k⟩ => ⟨Hv, e, QD, er, vw, h, fun ds J Hv1 H1 f ok q => k ds J Hv1 H1 f (ok Hv1) q⟩
theorem dia_r1 {tg : Expr} {p pos : Pos} (hg : Gl X "range") (hm : X.mg "range" = none) (ha : DE X a ma) (hs : starEach [a] X.env = [(false, eval a X.env)] := by rfl) : DIA X tg (.Call (.Name "range" p) [a] [] pos) (iR1 ma) :=
  piW (pi_range1 hg hm (pa_cons ha pa_nil hs) hs) fun σ H R ⟨Hv, e, QD, er, vw, h, k⟩ => ⟨Hv, e, _, er, vw, h, fun d v Hv1 H1 f r q => by
    obtain ⟨n, rfl, rfl, q⟩ := wI_int r q
    refine ⟨n, rfl, q.1.2.2.1, q.1.2.2.2.1, ?_⟩
    have := k _ _ _ _ f (fun Hv2 => itr_ok (lo := 0) (hi := n) q.1) q.2
    rw [Int.sub_zero] at this
    exact this⟩
theorem dia_r2 {tg : Expr} {p pos : Pos} (hg : Gl X "range") (hm : X.mg "range" = none) (ha : DE X a ma) (hb : DE X b mb) (hs : starEach [a, b] X.env = [(false, eval a X.env), (false, eval b X.env)] := by rfl) (hs2 : starEach [b] X.env = [(false, eval b X.env)] := by rfl) :
    DIA X tg (.Call (.Name "range" p) [a, b] [] pos) (iR2 ma mb) :=
  piW (pi_range2 hg hm (pa_cons ha (pa_cons hb pa_nil hs2) (by rw [hs, hs2])) hs hs2) fun σ H R ⟨Hv, e, QD, er, vw, h, k⟩ => ⟨Hv, e, _, er, vw, h, fun d v Hv1 H1 f r q => ⟨Hv1, e, _, er.mono f.ext, f.vw, q, fun d2 v2 Hv2 H2 f2 r2 q2 => by
    obtain ⟨i, rfl, rfl, q⟩ := wI_int r q2
    obtain ⟨j, rfl, rfl, q⟩ := wI_int r2 q
    exact ⟨i, j, rfl, ⟨q.1.1, q.1.2.1, q.1.2.2.1, q.1.2.2.2.1⟩, k _ _ _ _ (f.trans f2) (fun Hv2 => itr_ok q.1) q.2⟩⟩⟩
/-- range(a, b, c) -/
def rgC (lo c : Int) (n : Nat) : List D := (List.range n).map fun i => PyData.int (lo + (i : Nat) * c)
theorem rgC_length (lo c : Int) (n : Nat) : (rgC lo c n).length = n := by simp [rgC]
def iR3 (ma mb mc : EX) : IX := fun e Q => ma e fun d => mb e fun d' => mc e fun d'' => wI d fun i => wI d' fun j => wI d'' fun c => ∃ n : Nat, RgC i j c n ∧ n ≤ sizeLine ∧ Q (rgC i c n)
theorem itc_ok {lo c : Int} {n : Nat} (h : n ≤ sizeLine) (Hv : Hp) : ItOk K Hv (Itc lo c n) (rgC lo c n) where
  go := fun i Hv2 H2 hi e v2 => by rw [rgC_length] at hi; exact hi
  yld := fun i Hv2 H2 x H3 e v2 y => ⟨y.1, fun d hd => by
    have z := y.2
    subst z
    unfold rgC at hd
    rw [List.getElem?_map] at hd
    cases q : (List.range n)[i]? with
    | none => rw [q] at hd; cases hd
    | some j =>
      rw [q] at hd
      cases hd
      have := (List.getElem?_eq_some_iff.mp q).2
      rw [List.getElem_range] at this
      subst this
      exact .int _⟩
  stop := fun Hv2 H2 e v2 => by rw [rgC_length]; exact Nat.le_refl _
  len := by rw [rgC_length]; exact h
theorem dia_r3 {tg c : Expr} {mc : EX} {p pos : Pos} (hg : Gl X "range") (hm : X.mg "range" = none) (ha : DE X a ma) (hb : DE X b mb) (hc : DE X c mc) (rule : ∀ {ta tb tc : TE}, PE X a ta → PE X b tb → PE X c tc → PI X tg (.Call (.Name "range" p) [a, b, c] [] pos) (iRng3 (tCons ta (tCons tb (tCons tc tNil))))) :
    DIA X tg (.Call (.Name "range" p) [a, b, c] [] pos) (iR3 ma mb mc) :=
  piW (rule ha hb hc) fun σ H R ⟨Hv, e, QD, er, vw, h, k⟩ => ⟨Hv, e, _, er, vw, h, fun d v Hv1 H1 f r q => ⟨Hv1, e, _, er.mono f.ext, f.vw, q, fun d2 v2 Hv2 H2 f2 r2 q2 => ⟨Hv2, e, _, (er.mono f.ext).mono f2.ext, f2.vw, q2, fun d3 v3 Hv3 H3 f3 r3 q3 => by
    obtain ⟨i, rfl, rfl, q⟩ := wI_int r q3
    obtain ⟨j, rfl, rfl, q⟩ := wI_int r2 q
    obtain ⟨c, rfl, rfl, n, h1, h2, q⟩ := wI_int r3 q
    exact ⟨i, j, c, n, rfl, h1, k _ _ _ _ (f.trans (f2.trans f3)) (fun Hv2 => itc_ok h2 Hv2) q⟩⟩⟩⟩
def sForR (it : IX) (t : Tg) (s : SX) : SX := fun e P => it e fun ds => forW t s ds e P
theorem s_forR {tg iter : Expr} {body : List Stmt} {it : IX} {t : Tg} (hp : PassesOwn (model X.prog X.w) X.A X.env X.xe) (hc : X.calm = true) (hi : DIA X tg iter it) (hg : DG X tg t) (hb : DSs X body s1)
    (hs : ∀ x, foldedSetIterable iter X.env x = pure x := by intro _; rfl) : DS X (.For tg iter body [] pos) (sForR it t s1) := psW (ps_for hp hc hi hg hb hs) fun E σ H ⟨Hv0, H0, Hv, e, P, S, h, F⟩ =>
  ⟨_, e, _, S.erF, S.full_vw, h, fun ds J Hv1 H1 f ok q => for_ok (S.back f).1 F (ok _) q⟩
/-- xs.append(e), xs a list of the def's own; e without it, or a value in which no list stands -/
def sApp (i : Nat) (m : EX) : SX := fun e P => ∃ ds, e[i]? = some (Slot.own ds) ∧ ds.length < sizeLine ∧ m (hide e) fun d => P.nx (e.set i (.own (ds ++ [d])))
def sAppP (i : Nat) (m : EX) : SX := fun e P => ∃ ds, e[i]? = some (Slot.own ds) ∧ ds.length < sizeLine ∧ m e fun d => pl lvl d = true ∧ P.nx (e.set i (.own (ds ++ [d])))
theorem Stt.lst {Hv0 H0 Hv H : Hp} {e : En} {σ : L2.St} (S : Stt K Hv0 H0 Hv e σ H) {i : Nat} {ds : List D} (h : e[i]? = some (Slot.own ds)) {a : Addr} (hs : σ[i]? = some (some (.ref a))) : ∃ xs, H a = some (.lst xs) ∧ RpAll K Hv xs ds ∧ ds.length ≤ sizeLine := by
  obtain ⟨a', xs, h1, h2, h3, h4, h5, h6⟩ := S.own i ds h
  rw [hs] at h1
  cases h1
  exact ⟨xs, h4, h5, h6⟩
theorem app_ok {i : Nat} (h : PS X st (tDrop (tBM X.K "list" rAppend (tVar i) (tCons (te X.K m) tNil)))) : DS X st (sApp i m) := psW h fun E σ H ⟨Hv0, H0, Hv, e, P, S, ⟨ds, hd, hl, h⟩, F⟩ => by
  obtain ⟨a, xs, h1, h2, h3, h4, h5, h6⟩ := S.own i ds hd
  refine ⟨.ref a, h1, .inl ⟨rfl, xs, SqL.of h4⟩, Hv, hide e, _, S.erH, S.fw.vw, h, fun d v Hv1 H1 f r q => ?_⟩
  have S1 := S.step f
  obtain ⟨ys, g1, g2, g3⟩ := S1.lst hd h1
  refine ⟨a, ys, v, rfl, rfl, g1, by rw [g2.length]; exact hl, ?_⟩
  exact F.nx _ _ _ _ (S1.mut hd h1 (g2.append (.one r)) (by rw [List.length_append]; simp; omega)) q
theorem appP_ok {i : Nat} (h : PS X st (tDrop (tBM X.K "list" rAppend (tVar i) (tCons (te X.K m) tNil)))) : DS X st (sAppP i m) := psW h fun E σ H ⟨Hv0, H0, Hv, e, P, S, ⟨ds, hd, hl, h⟩, F⟩ => by
  obtain ⟨a, xs, h1, h2, h3, h4, h5, h6⟩ := S.own i ds hd
  refine ⟨.ref a, h1, .inl ⟨rfl, xs, SqL.of h4⟩, _, e, _, S.erF, S.full_vw, h, fun d v Hv1 H1 f r ⟨hp, q⟩ => ?_⟩
  obtain ⟨S1, b⟩ := S.back f
  obtain ⟨ys, g1, g2, g3⟩ := S1.lst hd h1
  refine ⟨a, ys, v, rfl, rfl, g1, by rw [g2.length]; exact hl, ?_⟩
  exact F.nx _ _ _ _ (S1.mut hd h1 (g2.append (.one (b _ _ _ hp r))) (by rw [List.length_append]; simp; omega)) q
variable {ap cp : Pos}
theorem pe_app (i : Nat) {te : TE} {y : Str} {py : Pos} (he : PE X x te) (hN : X.N[i]? = some y := by rfl) (hv : Vis X.env.scope y := by first | exact Or.inl rfl | exact Or.inr (Or.inl rfl) | exact Or.inr (Or.inr rfl)) (hd : (y == ("__debug__" : Str)) = false := by decide)
    (hcd : (y == ("__classdict__" : Str)) = false := by decide) (hbase : attributeBase (.Name y py) "append" X.env (eval (.Name y py) X.env) = eval (.Name y py) X.env := by rfl)
    (hfew : ((backTo cp (starEach [x] X.env)).all (fun x => !x.1) && (backToKw cp (keywordEach [] X.env)).all (fun x => x.1.isSome)
      && decide ([x].length + ([] : List Keyword).length + (if ([] : List Keyword).isEmpty then 0 else 1) < 30)) = true := by rfl)
    (hline : (ap.endLine == cp.line) = true := by rfl) (hs : starEach [x] X.env = (false, eval x X.env) :: starEach [] X.env := by rfl) (hplain : (backTo cp (starEach [] X.env)).any (·.1) = false := by rfl) :
    PE X (.Call (.Attribute (.Name y py) "append" ap) [x] [] cp) (tBM X.K "list" rAppend (tVar i) (tCons te tNil)) :=
  pe_bm PySem.F.plainAttrs_list PySem.F.slot_list_append PySem.F.type_list_append mt_append (pe_var hN hv hd hcd) (pa_cons he pa_nil hs) hbase hfew hline hs hplain
theorem s_app (i : Nat) {y : Str} {py : Pos} (he : DE X x m) (hN : X.N[i]? = some y := by rfl) (hv : Vis X.env.scope y := by first | exact Or.inl rfl | exact Or.inr (Or.inl rfl) | exact Or.inr (Or.inr rfl)) (hd : (y == ("__debug__" : Str)) = false := by decide)
    (hcd : (y == ("__classdict__" : Str)) = false := by decide) (hbase : attributeBase (.Name y py) "append" X.env (eval (.Name y py) X.env) = eval (.Name y py) X.env := by rfl)
    (hfew : ((backTo cp (starEach [x] X.env)).all (fun x => !x.1) && (backToKw cp (keywordEach [] X.env)).all (fun x => x.1.isSome)
      && decide ([x].length + ([] : List Keyword).length + (if ([] : List Keyword).isEmpty then 0 else 1) < 30)) = true := by rfl)
    (hline : (ap.endLine == cp.line) = true := by rfl) (hs : starEach [x] X.env = (false, eval x X.env) :: starEach [] X.env := by rfl) (hplain : (backTo cp (starEach [] X.env)).any (·.1) = false := by rfl)
    (hs2 : swapsWith (.Call (.Attribute (.Name y py) "append" ap) [x] [] cp) none pos.line X.env = pure false := by rfl) :
    DS X (.Expr (.Call (.Attribute (.Name y py) "append" ap) [x] [] cp) pos) (sApp i m) := app_ok (ps_expr (pe_app i he hN hv hd hcd hbase hfew hline hs hplain) hs2)
theorem s_appP (i : Nat) {y : Str} {py : Pos} (he : DE X x m) (hN : X.N[i]? = some y := by rfl) (hv : Vis X.env.scope y := by first | exact Or.inl rfl | exact Or.inr (Or.inl rfl) | exact Or.inr (Or.inr rfl)) (hd : (y == ("__debug__" : Str)) = false := by decide)
    (hcd : (y == ("__classdict__" : Str)) = false := by decide) (hbase : attributeBase (.Name y py) "append" X.env (eval (.Name y py) X.env) = eval (.Name y py) X.env := by rfl)
    (hfew : ((backTo cp (starEach [x] X.env)).all (fun x => !x.1) && (backToKw cp (keywordEach [] X.env)).all (fun x => x.1.isSome)
      && decide ([x].length + ([] : List Keyword).length + (if ([] : List Keyword).isEmpty then 0 else 1) < 30)) = true := by rfl)
    (hline : (ap.endLine == cp.line) = true := by rfl) (hs : starEach [x] X.env = (false, eval x X.env) :: starEach [] X.env := by rfl) (hplain : (backTo cp (starEach [] X.env)).any (·.1) = false := by rfl)
    (hs2 : swapsWith (.Call (.Attribute (.Name y py) "append" ap) [x] [] cp) none pos.line X.env = pure false := by rfl) :
    DS X (.Expr (.Call (.Attribute (.Name y py) "append" ap) [x] [] cp) pos) (sAppP i m) := appP_ok (ps_expr (pe_app i he hN hv hd hcd hbase hfew hline hs hplain) hs2)
/-- xs.reverse() -/
def sRev (i : Nat) : SX := fun e P => ∃ ds, e[i]? = some (Slot.own ds) ∧ P.nx (e.set i (.own ds.reverse))
theorem rev_ok {i : Nat} (h : PS X st (tDrop (tBM0 X.K "list" rReverse (tVar i)))) : DS X st (sRev i) := psW h fun E σ H ⟨Hv0, H0, Hv, e, P, S, ⟨ds, hd, h⟩, F⟩ => by
  obtain ⟨a, xs, h1, h2, h3, h4, h5, h6⟩ := S.own i ds hd
  exact ⟨.ref a, h1, .inl ⟨rfl, xs, SqL.of h4⟩, a, xs, rfl, rfl, h4, F.nx _ _ _ _ (S.mut hd h1 h5.rev (by rw [List.length_reverse]; exact h6)) h⟩
/-- xs[j] = value, xs a list of the def's own; the value evaluated with the def's lists seen, no list in it -/
def sSet (i : Nat) (m mi : EX) : SX := fun e P => ∃ ds, e[i]? = some (Slot.own ds) ∧ m e fun d => pl lvl d = true ∧ mi e fun k => wI k fun j => ∃ n, ixN ds.length j = some n ∧ P.nx (e.set i (.own (ds.set n d)))
theorem set_ok {i : Nat} {mi : EX} (h : PS X st (tAsg (te X.K m) (gSub (tVar i) (te X.K mi) rSetL))) : DS X st (sSet i m mi) := psW h fun E σ H ⟨Hv0, H0, Hv, e, P, S, ⟨ds, hd, h⟩, F⟩ =>
  ⟨_, e, _, S.erF, S.full_vw, h, fun d v Hv1 H1 f r ⟨hp, q⟩ => by
    obtain ⟨S1, b⟩ := S.back f
    have r1 := b _ _ _ hp r
    obtain ⟨a, xs, h1, _⟩ := S.own i ds hd
    refine ⟨.ref a, h1, _, e, _, S1.erF, S1.full_vw, q, fun k w Hv2 H2 f2 r2 q2 => ?_⟩
    obtain ⟨S2, b2⟩ := S1.back f2
    obtain ⟨j, rfl, rfl, n, hj, q2⟩ := wI_int r2 q2
    obtain ⟨ys, g1, g2, g3⟩ := S2.lst hd h1
    refine ⟨a, ys, j, n, rfl, rfl, g1, by rw [g2.length]; exact hj, ?_⟩
    exact F.nx _ _ _ _ (S2.mut hd h1 (g2.set (b2 lvl d v hp (r1.mono (full_same.trans f2.ext))) n) (by rw [List.length_set]; exact g3)) q2⟩
theorem s_set (i : Nat) {mi : EX} {y : Str} {py sp : Pos} (hi : DE X b mi) (he : DE X x m) (hN : X.N[i]? = some y := by rfl) (hv : Vis X.env.scope y := by first | exact Or.inl rfl | exact Or.inr (Or.inl rfl) | exact Or.inr (Or.inr rfl)) (hd : (y == ("__debug__" : Str)) = false := by decide)
    (hcd : (y == ("__classdict__" : Str)) = false := by decide) (hs : swapsWithSole [.Subscript (.Name y py) b sp] x pos.line X.env = pure false := by rfl) (hw : swappedStores [.Subscript (.Name y py) b sp] x X.env = pure none := by rfl)
    (h1 : (assignEach [.Subscript (.Name y py) b sp] X.env).map (·.2) = [assign (.Subscript (.Name y py) b sp) X.env] := by rfl)
    (ha : ∀ v, assign (.Subscript (.Name y py) b sp) X.env v = (do
      let ov ← holding [v] (eval (.Name y py) X.env)
      let iv ← holding [v, ov] (eval b X.env)
      standAt sp
      holding [v, ov, iv] (setItem ov iv v)
      release [v, ov, iv] []) := by intro _; rfl) : DS X (.Assign [.Subscript (.Name y py) b sp] x pos) (sSet i m mi) :=
  set_ok (ps_asg he (pg_sub (pe_var hN hv hd hcd) hi set_list ha) hs hw h1)
/-- return xs, a list of the def's own, to be the caller's own -/
def sRetO (i : Nat) : SX := fun e P => ∃ ds, e[i]? = some (Slot.own ds) ∧ P.rn ds
theorem s_retO (i : Nat) {y : Str} {py : Pos} (hN : X.N[i]? = some y := by rfl) (hv : Vis X.env.scope y := by first | exact Or.inl rfl | exact Or.inr (Or.inl rfl) | exact Or.inr (Or.inr rfl)) (hd : (y == ("__debug__" : Str)) = false := by decide)
    (hcd : (y == ("__classdict__" : Str)) = false := by decide) : DS X (.Return (some (.Name y py)) pos) (sRetO i) := psW (ps_ret (pe_var hN hv hd hcd)) fun E σ H ⟨Hv0, H0, Hv, e, P, S, ⟨ds, hd, h⟩, F⟩ => by
  obtain ⟨a, xs, h1, h2, h3, h4, h5, h6⟩ := S.own i ds hd
  exact ⟨.ref a, h1, F.rn _ _ _ _ _ S.fw h2 h3 h4 h5 h6 h⟩
/-- name op= e -/
def sAug (i : Nat) (W : W2) (m : EX) : SX := fun e P => ∃ d0, rd e i = some d0 ∧ m e fun d => W d0 d fun z => pl lvl z = true ∧ P.nx (e.set i (.val z))
theorem s_aug (i : Nat) {W : W2} {op : Operator} {y : Str} {py : Pos} (hN : X.N.Nodup) (ho : OpR X (inplaceOp op) (rW2 X.K W)) (he : DE X x m) (hi : X.N[i]? = some y := by rfl) (hx : Loc X.env.scope y := by first | exact .inl rfl | exact .inr rfl)
    (hf : X.fn y = true ∨ X.env.scope.names.lookup y = some .local := by first | exact .inl rfl | exact .inr rfl) : DS X (.AugAssign (.Name y py) op x pos) (sAug i W m) := psW (ps_aug hN hi hx he ho hf) fun E σ H ⟨Hv0, H0, Hv, e, P, S, ⟨d0, h0, h⟩, F⟩ => by
  obtain ⟨v0, g1, g2⟩ := S.erF.get i d0 h0
  refine ⟨v0, g1, _, e, _, S.erF, S.full_vw, h, fun d v Hv1 H1 f r q => ⟨Hv1, d0, d, _, f.vw, g2.mono f.ext, r, q, fun z w Hv2 H2 f2 r2 q2 => ?_⟩⟩
  obtain ⟨S1, b⟩ := S.back (f.trans f2)
  exact F.nx _ _ _ _ (S1.set (b _ _ _ q2.1 r2)) q2.2
end
end J

/-! J6: defs, their calls, a law's end. -/
namespace J
open PySem PySem.Spec PyProof.Rows L2

/-- a promise on data: from the arguments, what is wanted of the answer -/
def toSp (K : PySem.W.Frag) (n : Nat) (S : WL) : Sp := fun vs H Q _ => ∃ Hv ds QD, Vw Hv H ∧ RpAll K Hv vs ds ∧ ds.length = n ∧ S ds QD ∧ ∀ d v Hv' H', Fw Hv H Hv' H' → Rp K Hv' v d → QD d → Q v H'
/-- .. of a new list -/
abbrev WN := List D → (List D → Prop) → Prop
def toSpN (K : PySem.W.Frag) (n : Nat) (S : WN) : Sp := fun vs H Q _ => ∃ Hv ds QD, Vw Hv H ∧ RpAll K Hv vs ds ∧ ds.length = n ∧ S ds QD ∧
  ∀ es p xs Hv' H', Fw Hv H Hv' H' → Hv' p = none → H p = none → H' p = some (.lst xs) → RpAll K Hv' xs es → es.length ≤ sizeLine → QD es → Q (.ref p) H'
abbrev JFn (P : Program) (w : World) (K : PySem.W.Frag) (mg : Str → Option Value) (base : Heap) (k : Nat) (f : Addr) (fd : FuncData) (ps : List Str) (S : WL) : Prop := FnOk P w K mg base CX0 k f fd ps (toSp K ps.length S)
abbrev JFnN (P : Program) (w : World) (K : PySem.W.Frag) (mg : Str → Option Value) (base : Heap) (k : Nat) (f : Addr) (fd : FuncData) (ps : List Str) (S : WN) : Prop := FnOk P w K mg base CX0 k f fd ps (toSpN K ps.length S)
/-- how a def is called by its name -/
structure Rf (K : PySem.W.Frag) (mg : Str → Option Value) (x : Str) (ps : List Str) (f : Addr) (fd : FuncData) : Prop where
  mg : mg x = some (.ref f)
  kp : PySem.W.keepIn K (.ref f) = true
  bd : Binds K fd ps []
section
variable {X : Cx} {K : PySem.W.Frag} {x : Str} {a : Expr} {es : List Expr} {p pos : Pos} {ms : List EX} {k : Nat} {f : Addr} {fd : FuncData} {ps : List Str}
theorem d_fn {S : WL} (G : JFn X.prog X.w X.K X.mg X.base k f fd ps S) (R : Rf X.K X.mg x ps f fd) (hr : Room k X.A) (hg : Gl X x) (hx : Passes CX0 X E0) (ha : DA X (a :: es) ms) (hl : ms.length = ps.length := by rfl)
    (hdb : (x == ("__debug__" : Str)) = false := by decide) (h1 : starEach (a :: es) X.env = (false, eval a X.env) :: starEach es X.env := by rfl) (h2 : ((backTo pos (starEach es X.env)).any fun x => x.fst) = false := by rfl) :
    DE X (.Call (.Name x p) (a :: es) [] pos) (eCall S ms) := peW (pe_call G hr hg R.mg R.kp R.bd .nil hx ha hdb h1 h2) fun σ H Q ⟨Hv, e, QD, er, vw, hm, k⟩ =>
  tas_ok ms er vw hm fun ds vs Hv1 H1 f1 r l q => by
    show toSp X.K ps.length S (vs ++ []) H1 Q E0
    rw [List.append_nil]
    exact ⟨Hv1, ds, QD, f1.vw, r, l.trans hl, q, fun d v Hv2 H2 f2 r2 q2 => k d v Hv2 H2 (f1.trans f2) r2 q2⟩
def nCall (S : WN) (ms : List EX) : NX := fun e Q => evA ms e fun ds => S ds Q
theorem n_fn {S : WN} (G : JFnN X.prog X.w X.K X.mg X.base k f fd ps S) (R : Rf X.K X.mg x ps f fd) (hr : Room k X.A) (hg : Gl X x) (hx : Passes CX0 X E0) (ha : DA X (a :: es) ms) (hl : ms.length = ps.length := by rfl)
    (hdb : (x == ("__debug__" : Str)) = false := by decide) (h1 : starEach (a :: es) X.env = (false, eval a X.env) :: starEach es X.env := by rfl) (h2 : ((backTo pos (starEach es X.env)).any fun x => x.fst) = false := by rfl) :
    DN X (.Call (.Name x p) (a :: es) [] pos) (nCall S ms) := peW (pe_call G hr hg R.mg R.kp R.bd .nil hx ha hdb h1 h2) fun σ H Q ⟨Hv, e, QD, er, vw, hm, k⟩ =>
  tas_ok ms er vw hm fun ds vs Hv1 H1 f1 r l q => by
    show toSpN X.K ps.length S (vs ++ []) H1 Q E0
    rw [List.append_nil]
    exact ⟨Hv1, ds, QD, f1.vw, r, l.trans hl, q, fun es p xs Hv2 H2 f2 h1 h2 h3 r2 l2 q2 => k es p xs Hv2 H2 (f1.trans f2) h1 (f1.fresh_at h2) h3 r2 l2 q2⟩
end

/-! ### the body of a def -/
def startE (n : Nat) (ds : List D) : En := ds.map Slot.val ++ List.replicate (n - ds.length) .no
def noB : En → Prop := fun _ => False
section
variable {P : Program} {w : World} {K : PySem.W.Frag} {mg : Str → Option Value} {base : Heap}
theorem stt_start {Hv H : Hp} {N : List Str} {vs : List V} {ds : List D} (vw : Vw Hv H) (r : RpAll K Hv vs ds) : Stt K Hv H Hv (startE N.length ds) (L2.start N vs) H where
  fw := .refl vw
  len := by
    unfold startE L2.start
    rw [List.length_append, List.length_append, List.length_map, List.length_map, List.length_replicate, List.length_replicate, r.length]
  val := fun i d h => by
    unfold startE at h
    unfold L2.start
    by_cases hi : i < ds.length
    · rw [List.getElem?_append_left (by rw [List.length_map]; exact hi), List.getElem?_map] at h
      cases q : ds[i]? with
      | none => rw [q] at h; cases h
      | some d' =>
        rw [q] at h
        cases h
        obtain ⟨v, e, r2⟩ := r.get q
        refine ⟨v, ?_, r2⟩
        rw [List.getElem?_append_left (by rw [List.length_map, r.length]; exact hi), List.getElem?_map, e]
        rfl
    · rw [List.getElem?_append_right (by rw [List.length_map]; omega), List.getElem?_replicate] at h
      split at h <;> cases h
  own := fun i es h => by
    unfold startE at h
    by_cases hi : i < ds.length
    · rw [List.getElem?_append_left (by rw [List.length_map]; exact hi), List.getElem?_map] at h
      cases q : ds[i]? with
      | none => rw [q] at h; cases h
      | some d' => rw [q] at h; cases h
    · rw [List.getElem?_append_right (by rw [List.length_map]; omega), List.getElem?_replicate] at h
      split at h <;> cases h
  sep := fun i j es fs a h => by
    unfold startE at h
    by_cases hi : i < ds.length
    · rw [List.getElem?_append_left (by rw [List.length_map]; exact hi), List.getElem?_map] at h
      cases q : ds[i]? with
      | none => rw [q] at h; cases h
      | some d' => rw [q] at h; cases h
    · rw [List.getElem?_append_right (by rw [List.length_map]; omega), List.getElem?_replicate] at h
      split at h <;> cases h
/-- a def by its body's rule and its data's promise -/
theorem fn_j {x qual : Str} {st : Stmt} {f : Addr} {fd : FuncData} {N ps : List Str} {k : Nat} {S : WL} {m : SX} (F : Fun K x qual st f fd) (sc : FnScope N ps (defScope st))
    (hb : ∀ (cdv : Value) (A : Around) (outer : List Env) (s : Shared) (H : Hp) (E : XK), Room k (A.deeper (envOfC qual (defScope st) s.heap.objs.size f cdv)) → DSs (cxOf CX0 P w K mg base N qual (defScope st) f cdv A outer s H E).nox (defBody st) m)
    (wp : ∀ ds QD, ds.length = ps.length → S ds QD → m (startE N.length ds) ⟨fun _ => QD .none, QD, noB, noB, fun es => QD (.list es)⟩) : JFn P w K mg base (k + 1) f fd ps S := by
  refine F.ok sc (fun vs H Q E ⟨Hv, ds, QD, vw, r, l, _⟩ => by rw [r.length]; exact l) fun cdv A outer s H vs Q E hr ⟨Hv, ds, QD, vw, r, l, h, kk⟩ => ⟨_, hb cdv A outer s H E hr, Hv, H, Hv, _, _, stt_start vw r, wp ds QD l h, ?_⟩
  exact ⟨fun Hv1 e1 σ1 H1 S1 q => kk _ _ _ _ S1.fw .non q, fun _ _ _ _ _ q => q.elim, fun _ _ _ _ _ q => q.elim, fun Hv1 d v H1 f1 r1 q => kk _ _ _ _ f1 r1 q, fun Hv1 es p xs H1 f1 h1 h2 h3 r1 l1 q => by
    have m := same_upd (o := .lst xs) h1
    refine kk (.list es) (.ref p) (upd Hv1 p (.lst xs)) H1 ⟨f1.ext.trans m, Fw.show_ f1.vw mark_ne_lst h1 h3, f1.keep, fun b e1 e2 => ?_⟩ (.lst (SqL.of upd_same) (Rp.monoAll m _ _ r1) l1) q
    by_cases z : b = p
    · rw [z]; exact h2
    · rw [upd_ne z] at e2
      exact f1.fresh b e1 e2⟩
theorem fnN_j {x qual : Str} {st : Stmt} {f : Addr} {fd : FuncData} {N ps : List Str} {k : Nat} {S : WN} {m : SX} (F : Fun K x qual st f fd) (sc : FnScope N ps (defScope st))
    (hb : ∀ (cdv : Value) (A : Around) (outer : List Env) (s : Shared) (H : Hp) (E : XK), Room k (A.deeper (envOfC qual (defScope st) s.heap.objs.size f cdv)) → DSs (cxOf CX0 P w K mg base N qual (defScope st) f cdv A outer s H E).nox (defBody st) m)
    (wp : ∀ ds QD, ds.length = ps.length → S ds QD → m (startE N.length ds) ⟨noB, fun _ => False, noB, noB, QD⟩) : JFnN P w K mg base (k + 1) f fd ps S := by
  refine F.ok sc (fun vs H Q E ⟨Hv, ds, QD, vw, r, l, _⟩ => by rw [r.length]; exact l) fun cdv A outer s H vs Q E hr ⟨Hv, ds, QD, vw, r, l, h, kk⟩ => ⟨_, hb cdv A outer s H E hr, Hv, H, Hv, _, _, stt_start vw r, wp ds QD l h, ?_⟩
  exact ⟨fun _ _ _ _ _ q => q.elim, fun _ _ _ _ _ q => q.elim, fun _ _ _ _ _ q => q.elim, fun _ _ _ _ _ _ q => q.elim, fun Hv1 es p xs H1 f1 h1 h2 h3 r1 l1 q => kk _ _ _ _ _ f1 h1 h2 h3 r1 l1 q⟩
/-- a new list of ints from 0 as a pile -/
theorem pile_of {k : Nat} {f : Addr} {fd : FuncData} {ps : List Str} {S : WN} {S' : WL} (G : JFnN P w K mg base k f fd ps S)
    (h : ∀ ds Q, S' ds Q → S ds fun es => (∃ ns : List Int, es = ns.map PyData.int ∧ ∀ n ∈ ns, 0 ≤ n) ∧ Q (.dict [])) : JFn P w K mg base k f fd ps S' := by
  refine G.imp fun vs H Q E ⟨Hv, ds, QD, vw, r, l, h1, kk⟩ => ⟨Hv, ds, _, vw, r, l, h ds QD h1, fun es p xs Hv1 H1 f1 hv hp hl r1 l1 q => ?_⟩
  obtain ⟨⟨ns, e, hn⟩, q⟩ := q
  subst e
  have e2 := r1.of_ints
  subst e2
  have m := same_upd (o := mark) hv
  refine kk (.dict []) (.ref p) (upd Hv1 p mark) H1 ⟨f1.ext.trans m, fun b u e => ?_, f1.keep, fun b e1 e2 => ?_⟩ (.hnd upd_same) q
  · by_cases z : b = p
    · subst z
      rw [upd_same] at e
      cases e
      exact .inl ⟨rfl, ns, hl, hn⟩
    · rw [upd_ne z] at e
      exact f1.vw b u e
  · by_cases z : b = p
    · rw [z]; exact hp
    · rw [upd_ne z] at e2
      exact f1.fresh b e1 e2
end

/-! ### a law's end -/
def SLaw : WL := fun ds Q => ∃ ns : List Int, ds = [.list (ns.map PyData.int)] ∧ ns.length ≤ 63 ∧ Q (.bool true)
theorem walk_j {l : PySem.W.OpenLaw} {k : Nat} {q : Program} {loose : List Str} {XP : (Str → Option Value) → Heap → Prop} {YP : World → Heap → Prop} {d : DefRec} {K : Params → PySem.W.Frag} (hr : Room k callerA) (hn : l.most = some 63) (hdf : d.params.defaults = [])
    (hY : ∀ (w : World) (h : Heap), YP w h → (K w.params).In h)
    (F : ∀ (w : World) (mg : Str → Option Value) (fa : Addr) (h : Heap), (K w.params).In h → h.Ns mainGlobals mg → mg d.name = some (.ref fa) →
      ∃ fd : FuncData, (∀ (s : Shared) (u : Value), BindsTo s fd ⟨[u], []⟩ [("script", u)]) ∧ ∀ base : Heap, (K w.params).In base → base.Ns mainGlobals mg → JFn l.prog w (K w.params) mg base k fa fd ["script"] SLaw) :
    PySem.W.WalkO q loose XP YP l.row.toRowW d [] (fun f vs => PySem.call f vs) :=
  L2.walk_of (n := 63) (k := k) (x := "script") (CX := fun _ => CX0) (sp := fun w => toSp (K w.params) 1 SLaw) hn (by decide) hdf hr hY F (fun w H a ns hl hO hS => by
    refine ⟨H, [.list (ns.map PyData.int)], fun d => d = .bool true, fun b o e => ?_, .one (.lst hS (RpAll.ints ns) (by rw [List.length_map]; exact Nat.le_trans hl (by decide))), rfl, ⟨ns, rfl, hl, rfl⟩, fun d v Hv1 H1 f r e => ?_⟩
    · refine .inr ⟨fun z => ?_, e⟩
      rcases hO b with h | ⟨o', xs, h⟩
      · rw [h] at e; cases e
      · rw [h] at e
        cases e
        cases z
    · subst e
      cases r
      rfl) fun _ _ _ _ _ z => z
end J

/-! J7: further rules. -/
namespace J
open PySem PySem.Spec PyProof.Rows L2

theorem hu65 {k : Nat} {A : Around} (hr : Room k A) : A.units + 65 < cLine := by have := hr.un; omega
section
variable {X : Cx} {K : PySem.W.Frag} {x a b c : Expr} {es : List Expr} {pos : Pos} {m ma mb mc : EX} {ms : List EX} {n : NX} {st : Stmt}
/-! ### op= -/
def wIAdd : W2
  | .int i, .int j, Q => Q (.int (i + j))
  | .tuple xs, .tuple ys, Q => xs.length + ys.length ≤ sizeLine ∧ Q (.tuple (xs ++ ys))
  | .str x, .str y, Q => x.length + y.length ≤ sizeLine ∧ Q (.str (x ++ y))
  | _, _, _ => False
theorem iop_addJ : OpR X (inplaceOp .Add) (rW2 X.K wIAdd) := by
  intro pins s σ H x y v u Q I rx ry ⟨Hv, dx, dy, QD, vw, r1, r2, w, k⟩
  cases dx <;> cases dy <;> first | exact w.elim | skip
  · cases r1; cases r2
    exact iop_add pins s σ H _ _ v u Q I rx ry ⟨_, _, rfl, rfl, k _ _ Hv H (.refl vw) (.int _) w⟩
  · cases r1; cases r2
    exact iop_add_str pins s σ H _ _ v u Q I rx ry ⟨_, _, rfl, rfl, w.1, k _ _ Hv H (.refl vw) (.str _) w.2⟩
  · cases r1 with
    | @tup a xs ds hs ha hl =>
      cases r2 with
      | @tup b ys es hs2 ha2 hl2 =>
        cases rx; cases ry
        obtain ⟨its, rv, pl, hz⟩ := I.tuple (vw.sqt hs)
        obtain ⟨its2, rv2, pl2, hz2⟩ := I.tuple (vw.sqt hs2)
        have l1 := ha.length
        have l2 := ha2.length
        have w1 := w.1
        have e1 : xs.length + ys.length ≤ sizeLine := by rw [l1, l2]; exact w1
        obtain ⟨⟨c1, d1, t1, s1⟩, g1, gc1, n1, gt1⟩ := pl
        obtain ⟨⟨c2, d2, t2, s2⟩, g2, gc2, n2, gt2⟩ := pl2
        simp only at gc1 gt1 gc2 gt2
        subst gc1 gt1 gc2 gt2
        have hz3 : its.toArray.size + its2.toArray.size ≤ sizeLine := by
          rw [List.size_toArray, List.size_toArray, ← rv.length, ← rv2.length]; exact e1
        have hno : typeLookup (.type "tuple") (dunderI "add") = pure none := by kernel_rfl
        refine inplaceOp_concat ⟨_, g1, rfl⟩ ⟨_, g2, rfl⟩ hno noFill_tuple_add seq_tuple_add ?_
        by_cases h1 : xs = []
        · subst h1
          cases rv
          cases ha
          exact call_meets PySem.F.slot_tuple_add ⟨_, g1, rfl⟩ PySem.F.entry_tuple_add (PySem.F.args_tuple_add_2 _ _) (tuple_addW0 a b ([] : List Value).toArray its2.toArray n1 n2 d1 d2 s1 s2 (by simp)) ⟨g1, g2, .ref b, H, I, rfl, k _ _ Hv H (.refl vw) (.tup hs2 ha2 hl2) w.2⟩
        · have hne : ¬ its.toArray.isEmpty = true := by
            cases rv with
            | nil => exact absurd rfl h1
            | cons _ _ => simp
          by_cases h2 : ys = []
          · subst h2
            cases rv2
            cases ha2
            exact call_meets PySem.F.slot_tuple_add ⟨_, g1, rfl⟩ PySem.F.entry_tuple_add (PySem.F.args_tuple_add_2 _ _) (tuple_addW1 a b its.toArray ([] : List Value).toArray n1 n2 d1 d2 s1 s2 hne (by simp)) ⟨g1, g2, .ref a, H, I, rfl, k _ _ Hv H (.refl vw) (.tup hs (by rw [List.append_nil]; exact ha) (by rw [List.append_nil]; exact hl)) w.2⟩
          · have hne2 : ¬ its2.toArray.isEmpty = true := by
              cases rv2 with
              | nil => exact absurd rfl h2
              | cons _ _ => simp
            refine call_meets PySem.F.slot_tuple_add ⟨_, g1, rfl⟩ PySem.F.entry_tuple_add (PySem.F.args_tuple_add_2 _ _) (tuple_addW2 a b its.toArray its2.toArray n1 n2 d1 d2 s1 s2 hne hne2 hz3) ⟨g1, g2, ?_⟩
            rw [show its.toArray ++ its2.toArray = (its ++ its2).toArray by simp]
            have I1 := laidT (xs := xs ++ ys) I (by rw [List.length_append]; exact e1) (rv.append rv2)
            have f := Fw.new (o := tO (its ++ its2) (xs ++ ys)) vw (newAt I) mark_ne_tup
            exact ⟨.ref _, _, I1, rfl, k _ _ _ _ f (.tup SqJ.of ((Rp.monoAll f.ext _ _ ha).append (Rp.monoAll f.ext _ _ ha2)) (by rw [List.length_append]; exact w.1)) w.2⟩

theorem iop_subJ : OpR X (inplaceOp .Sub) (rW2 X.K wSub) := opW iop_sub fun x y H Q ⟨Hv, dx, dy, QD, vw, r1, r2, w, k⟩ => by
  cases dx <;> cases dy <;> first | exact w.elim | skip
  cases r1; cases r2
  exact ⟨_, _, rfl, rfl, k _ _ Hv H (.refl vw) (.int _) w⟩
def wIMul : W2
  | .int i, .int j, Q => CMul i j ∧ Q (.int (i * j))
  | _, _, _ => False
theorem iop_mulJ : OpR X (inplaceOp .Mult) (rW2 X.K wIMul) := opW iop_mul fun x y H Q ⟨Hv, dx, dy, QD, vw, r1, r2, w, k⟩ => by
  cases dx <;> cases dy <;> first | exact w.elim | skip
  cases r1; cases r2
  exact ⟨_, _, rfl, rfl, w.1, k _ _ Hv H (.refl vw) (.int _) w.2⟩
theorem iop_divJ : OpR X (inplaceOp .FloorDiv) (rW2 X.K wDiv) := opW (iop_fdiv.or iop_fdivW) fun x y H Q ⟨Hv, dx, dy, QD, vw, r1, r2, w, k⟩ => by
  cases dx <;> cases dy <;> first | exact w.elim | skip
  cases r1; cases r2
  rcases w.1 with c | c
  · exact .inl ⟨_, _, rfl, rfl, c, k _ _ Hv H (.refl vw) (.int _) w.2⟩
  · exact .inr ⟨_, _, rfl, rfl, c, k _ _ Hv H (.refl vw) (.int _) w.2⟩
theorem iop_modJ : OpR X (inplaceOp .Mod) (rW2 X.K wMod) := opW iop_mod fun x y H Q ⟨Hv, dx, dy, QD, vw, r1, r2, w, k⟩ => by
  cases dx <;> cases dy <;> first | exact w.elim | skip
  cases r1; cases r2
  exact ⟨_, _, rfl, rfl, w.1, k _ _ Hv H (.refl vw) (.int _) w.2⟩

/-! ### y = [..] as a value -/
theorem asgN_ok {i : Nat} (h : PS X st (tAsg (tn X.K n) (gName i))) : DS X st (sAsg i (eFr n)) := psW h fun E σ H ⟨Hv0, H0, Hv, e, P, S, h, F⟩ =>
  ⟨Hv, hide e, _, S.erH, S.fw.vw, h, fun ds p xs Hv1 H1 f hv hp hl r l q => by
    have g : Fw Hv H (upd Hv1 p (.lst xs)) H1 := ⟨f.ext.trans (same_upd hv), Fw.show_ f.vw mark_ne_lst hv hl, f.keep, fun c e1 e2 => by
      by_cases z : c = p
      · rw [z]; exact hp
      · rw [upd_ne z] at e2
        exact f.fresh c e1 e2⟩
    exact F.nx _ _ _ _ ((S.step g).set (.lst (SqL.of upd_same) (Rp.monoAll (same_upd hv) _ _ r) l)) q⟩

/-! ### a < b < c -/
variable {op op' : CmpOp} {W W' : W2}
theorem te_chain {σ : L2.St} {H : Hp} {Q : VK} (h : te K (eChain W W' ma mb mc) σ H Q) : tChain (rW2 K W) (rW2 K W') (te K ma) (te K mb) (te K mc) σ H Q := by
  obtain ⟨Hv, e, QD, er, vw, hm, k⟩ := h
  exact ⟨Hv, e, _, er, vw, hm, fun d v Hv1 H1 f1 r1 q1 => ⟨Hv1, e, _, er.mono f1.ext, f1.vw, q1, fun d2 v2 Hv2 H2 f2 r2 q2 => ⟨Hv2, d, d2, _, f2.vw, r1.mono f2.ext, r2, q2, fun d3 v3 Hv3 H3 f3 r3 q3 => by
    obtain ⟨c, rfl, rfl, q3⟩ := wB_bl r3 q3
    refine ⟨c, rfl, ?_⟩
    cases c with
    | false => exact k _ _ Hv3 H3 (f1.trans (f2.trans f3)) (.bl false) q3
    | true => exact ⟨Hv3, e, _, er.mono (f1.trans (f2.trans f3)).ext, f3.vw, q3, fun d4 v4 Hv4 H4 f4 r4 q4 => ⟨Hv4, d2, d4, QD, f4.vw, (r2.mono f3.ext).mono f4.ext, r4, q4, fun d5 v5 Hv5 H5 f5 r5 q5 => k d5 v5 Hv5 H5 (f1.trans (f2.trans (f3.trans (f4.trans f5)))) r5 q5⟩⟩⟩⟩⟩
theorem d_chain2 (ho : OpR X (compareOp op) (rW2 X.K W)) (ho' : OpR X (compareOp op') (rW2 X.K W')) (ha : DE X a ma) (hb : DE X b mb) (hc : DE X c mc) (hm : lastMarks [op, op'] [b, c] = false := by with_unfolding_all rfl) :
    DE X (.Compare a [op, op'] [b, c] pos) (eChain W W' ma mb mc) := peW (pe_chain ho ho' ha hb hc hm) fun _ _ _ h => te_chain h
theorem dt_chain2 (ho : OpR X (compareOp op) (rW2 X.K W)) (ho' : OpR X (compareOp op') (rW2 X.K W')) (ha : DE X a ma) (hb : DE X b mb) (hc : DE X c mc) (hm : lastMarks [op, op'] [b, c] = false := by with_unfolding_all rfl) :
    DT X (.Compare a [op, op'] [b, c] pos) (tOf (eChain W W' ma mb mc)) := ptW (pt_chain ho ho' ha hb hc hm) fun σ H Q h => te_chain (by
    obtain ⟨Hv, e, QD, er, vw, q, k⟩ := tt_of h
    exact ⟨Hv, e, QD, er, vw, q, k⟩)

/-! ### sum, min, max, any, all, sorted of a list or a tuple -/
def items : D → Option (List D)
  | .list ds => some ds
  | .tuple ds => some ds
  | _ => none
def wSum : WL
  | [d], Q => ∃ ns : List Int, items d = some (ns.map PyData.int) ∧ Q (.int ns.sum)
  | _, _ => False
def wMin1 : WL
  | [d], Q => ∃ x xs, items d = some (x :: xs) ∧ (x :: xs).all (lv lvl) = true ∧ PySem.W.AlikeAll (x :: xs) ∧ Q (PySem.W.minD x xs)
  | _, _ => False
def wMax1 : WL
  | [d], Q => ∃ x xs, items d = some (x :: xs) ∧ (x :: xs).all (lv lvl) = true ∧ PySem.W.AlikeAll (x :: xs) ∧ Q (PySem.W.maxD x xs)
  | _, _ => False
theorem call_sumJ (hc : X.calm = true) : CallR X (.builtin "sum") (rWL X.K wSum) := by
  intro pins s σ H vs us Q I r ⟨Hv, ds, QD, vw, rp, w, k⟩
  unfold wSum at w
  split at w
  · obtain ⟨ns, hd, q⟩ := w
    obtain ⟨v, rfl, h⟩ := rp1 rp
    rename_i d
    cases d <;> first | cases hd | skip
    · cases h with
      | @lst a xs ds hs ha hl =>
        obtain ⟨its, rv, pl, _⟩ := I.list (vw.sql hs)
        rw [ha.of_ints] at rv
        rw [Vals.ref1 r]
        exact sum_raw (I.ok.hd hc) pl.isList rv.ints fun h' tk t' hk => ⟨.int _, H, I.kept hk, ⟨_, rfl⟩, k _ _ Hv H (.refl vw) (.int _) q⟩
    · cases h with
      | @tup a xs ds hs ha hl =>
        obtain ⟨its, rv, pl, _⟩ := I.tuple (vw.sqt hs)
        rw [ha.of_ints] at rv
        rw [Vals.ref1 r]
        have hi := rv.ints
        obtain ⟨xs', e⟩ := hi.allInts.items
        have hn : numsOf (intItems xs').toList = ns := by rw [← e]; exact hi.numsOf
        rw [nums_intItems] at hn
        rw [e] at pl
        refine PySem.W.ktm_sumG (I.ok.hd hc) pl fun h' tk t' hk => ⟨.int _, H, I.kept hk, ⟨_, rfl⟩, ?_⟩
        have := k _ _ Hv H (.refl vw) (.int _) q
        rw [preSum_eq, List.take_of_length_le (by simp), hn]
        exact this
  · exact w.elim
theorem minD_mem : ∀ (xs : List D) (x : D), PySem.W.minD x xs ∈ x :: xs
  | [], x => List.mem_cons_self
  | y :: ys, x => by
    show PySem.W.minD (if PySem.W.dataLt y x then y else x) ys ∈ _
    split
    · exact List.mem_cons_of_mem _ (minD_mem ys y)
    · have := minD_mem ys x
      rcases List.mem_cons.mp this with h | h
      · rw [h]; exact List.mem_cons_self
      · exact List.mem_cons_of_mem _ (List.mem_cons_of_mem _ h)
theorem maxD_mem : ∀ (xs : List D) (x : D), PySem.W.maxD x xs ∈ x :: xs
  | [], x => List.mem_cons_self
  | y :: ys, x => by
    show PySem.W.maxD (if PySem.W.dataLt x y then y else x) ys ∈ _
    split
    · exact List.mem_cons_of_mem _ (maxD_mem ys y)
    · have := maxD_mem ys x
      rcases List.mem_cons.mp this with h | h
      · rw [h]; exact List.mem_cons_self
      · exact List.mem_cons_of_mem _ (List.mem_cons_of_mem _ h)
/-- an item that reads as m is m -/
theorem item_is {pins : List (Addr × Obj)} {σ : L2.St} {H Hv : Hp} {s : Shared} (I : Inv X pins σ H s) (vw : Vw Hv H) {xs : List V} {ds : List D} {its : List Value} (ha : RpAll X.K Hv xs ds) (rv : Vals xs its) (hl : ds.all (lv lvl) = true) (al : ∀ x ∈ ds, ∀ y ∈ ds, PySem.W.alike x y = true)
    {i : Nat} {v : Value} {h' : Heap} {bs : List Addr} {m : D} (hv : its.toArray[i]? = some v) (hr : Reads h' v m bs) (hk : ∀ b o, s.heap.get? b = some o → h'.get? b = some o) (hm : m ∈ ds) : ∃ x, RelV x v ∧ Rp X.K Hv x m := by
  have hv' : its[i]? = some v := by simpa using hv
  have hi : i < xs.length := by rw [rv.length]; exact (List.getElem?_eq_some_iff.mp hv').1
  obtain ⟨u, e1, r1⟩ := rv.get (List.getElem?_eq_getElem hi)
  rw [hv'] at e1
  cases e1
  obtain ⟨d, e2, r2⟩ := ha.getV (List.getElem?_eq_getElem hi)
  have hd : d ∈ ds := List.mem_of_getElem? e2
  obtain ⟨as, q⟩ := Dp.reads I _ _ _ (r2.dp vw _ _ _ (List.all_eq_true.mp hl d hd)) r1
  have := PySem.W.alike_unique d m v as bs (al d hd m hm) (PyProof.Rows.Reads.keeps hk q) hr
  subst this
  exact ⟨_, r1, r2⟩
theorem lvAll_depth {ds : List D} (h : ds.all (lv lvl) = true) : PyData.depthAll ds ≤ 12 := (lv_canLayAll lvl ds (List.all_eq_true.mp h)).2
theorem call_min1J (hc : X.calm = true) (hu : X.A.units + 65 < cLine) : CallR X (.builtin "min") (rWL X.K wMin1) := by
  intro pins s σ H vs us Q I r ⟨Hv, ds, QD, vw, rp, w, k⟩
  unfold wMin1 at w
  split at w
  · obtain ⟨x, xs, hd, hlv, al, q⟩ := w
    have hdp := lvAll_depth hlv
    obtain ⟨v, rfl, h⟩ := rp1 rp
    rename_i d
    cases d <;> first | cases hd | skip
    · cases h with
      | @lst a ys ds hs ha hl =>
        obtain ⟨its, rv, pl, _⟩ := I.list (vw.sql hs)
        rw [Vals.ref1 r]
        obtain ⟨as, hr⟩ := Dp.readsAll I _ _ its (Rp.dpAll vw lvl _ _ (List.all_eq_true.mp hlv) ha) rv
        refine PySem.W.min_list_data (I.ok.hd hc) pl.isList hr al (by omega) fun i v h' tk bs hv hr' hk => ?_
        obtain ⟨z, z1, z2⟩ := item_is I vw ha rv hlv al.1 hv hr' hk (minD_mem _ _)
        exact ⟨z, H, I.kept hk, z1, k _ _ Hv H (.refl vw) z2 q⟩
    · cases h with
      | @tup a ys ds hs ha hl =>
        obtain ⟨its, rv, pl, _⟩ := I.tuple (vw.sqt hs)
        rw [Vals.ref1 r]
        obtain ⟨as, hr⟩ := Dp.readsAll I _ _ its (Rp.dpAll vw lvl _ _ (List.all_eq_true.mp hlv) ha) rv
        refine PySem.W.min_tuple_data (I.ok.hd hc) pl hr al (by omega) fun i v h' tk bs hv hr' hk => ?_
        obtain ⟨z, z1, z2⟩ := item_is I vw ha rv hlv al.1 hv hr' hk (minD_mem _ _)
        exact ⟨z, H, I.kept hk, z1, k _ _ Hv H (.refl vw) z2 q⟩
  · exact w.elim
theorem call_max1J (hc : X.calm = true) (hu : X.A.units + 65 < cLine) : CallR X (.builtin "max") (rWL X.K wMax1) := by
  intro pins s σ H vs us Q I r ⟨Hv, ds, QD, vw, rp, w, k⟩
  unfold wMax1 at w
  split at w
  · obtain ⟨x, xs, hd, hlv, al, q⟩ := w
    have hdp := lvAll_depth hlv
    obtain ⟨v, rfl, h⟩ := rp1 rp
    rename_i d
    cases d <;> first | cases hd | skip
    · cases h with
      | @lst a ys ds hs ha hl =>
        obtain ⟨its, rv, pl, _⟩ := I.list (vw.sql hs)
        rw [Vals.ref1 r]
        obtain ⟨as, hr⟩ := Dp.readsAll I _ _ its (Rp.dpAll vw lvl _ _ (List.all_eq_true.mp hlv) ha) rv
        refine PySem.W.max_list_data (I.ok.hd hc) pl.isList hr al (by omega) fun i v h' tk bs hv hr' hk => ?_
        obtain ⟨z, z1, z2⟩ := item_is I vw ha rv hlv al.1 hv hr' hk (maxD_mem _ _)
        exact ⟨z, H, I.kept hk, z1, k _ _ Hv H (.refl vw) z2 q⟩
    · cases h with
      | @tup a ys ds hs ha hl =>
        obtain ⟨its, rv, pl, _⟩ := I.tuple (vw.sqt hs)
        rw [Vals.ref1 r]
        obtain ⟨as, hr⟩ := Dp.readsAll I _ _ its (Rp.dpAll vw lvl _ _ (List.all_eq_true.mp hlv) ha) rv
        refine PySem.W.max_tuple_data (I.ok.hd hc) pl hr al (by omega) fun i v h' tk bs hv hr' hk => ?_
        obtain ⟨z, z1, z2⟩ := item_is I vw ha rv hlv al.1 hv hr' hk (maxD_mem _ _)
        exact ⟨z, H, I.kept hk, z1, k _ _ Hv H (.refl vw) z2 q⟩
  · exact w.elim
end
end J

/-! J8: sorted, index, lists times ints, more stores. -/
namespace J
open PySem PySem.Spec PyProof.Rows L2
section
variable {X : Cx} {K : PySem.W.Frag} {x a b c o : Expr} {es : List Expr} {pos : Pos} {m ma mb mc mo : EX} {ms : List EX} {n : NX} {st : Stmt}

/-! ### sorted(list) -/
abbrev dSort (ds : List D) : List D := ds.mergeSort (PySem.W.dataLe false id)
def SortOk (ds : List D) : Prop := ds.all (lv lvl) = true ∧ PySem.W.AllAlike ds ∧ PySem.W.Sortable ds
def wSorted : D → (List D → Prop) → Prop
  | .list ds, Q => SortOk ds ∧ Q (dSort ds)
  | _, _ => False
def nSorted (m : EX) : NX := fun e Q => m e fun d => wSorted d Q
theorem each_of {Hv : Hp} : ∀ {vs : List Value} {xs : List V} {ds : List D}, Vals xs vs → RpAll K Hv xs ds → PySem.W.EachIs (fun v d => ∃ x, RelV x v ∧ Rp K Hv x d) vs ds
  | _, _, _, .nil, .nil => .nil
  | _, _, _, .cons r t, .cons r2 t2 => .cons ⟨_, r, r2⟩ (each_of t t2)
theorem of_each {Hv : Hp} : ∀ {vs : List Value} {ds : List D}, PySem.W.EachIs (fun v d => ∃ x, RelV x v ∧ Rp K Hv x d) vs ds → ∃ xs, Vals xs vs ∧ RpAll K Hv xs ds
  | _, _, .nil => ⟨[], .nil, .nil⟩
  | _, _, .cons ⟨x, r, r2⟩ t => by
    obtain ⟨xs, h1, h2⟩ := of_each t
    exact ⟨x :: xs, .cons r h1, .cons r2 h2⟩
theorem each_reads {pins : List (Addr × Obj)} {σ : L2.St} {H Hv : Hp} {s : Shared} (I : Inv X pins σ H s) (vw : Vw Hv H) : ∀ {vs : List Value} {xs : List V} {ds : List D}, Vals xs vs → RpAll X.K Hv xs ds → (∀ d ∈ ds, lv lvl d = true) →
    PySem.W.EachIs (fun v d => ∃ as, Reads s.heap v (id d) as) vs ds
  | _, _, _, .nil, .nil, _ => .nil
  | _, _, _, .cons r t, .cons r2 t2, h => .cons (Dp.reads I _ _ _ (r2.dp vw _ _ _ (h _ List.mem_cons_self)) r) (each_reads I vw t t2 fun d hd => h d (List.mem_cons_of_mem _ hd))
theorem n_sorted {p pos : Pos} (hu : X.A.units + 65 < cLine) (hg : Gl X "sorted") (hm : X.mg "sorted" = none) (ha : DE X a ma) (h1 : starEach [a] X.env = (false, eval a X.env) :: starEach [] X.env := by rfl) (h2 : ((backTo pos (starEach [] X.env)).any fun x => x.fst) = false := by rfl) :
    DN X (.Call (.Name "sorted" p) [a] [] pos) (nSorted ma) := by
  have cr : CallR X (.builtin "sorted") (fun xs H Q => ∃ Hv d QD, Vw Hv H ∧ RpAll X.K Hv xs [d] ∧ wSorted d QD ∧ ∀ ds p ys Hv' H', Fw Hv H Hv' H' → Hv' p = none → H p = none → H' p = some (.lst ys) → RpAll X.K Hv' ys ds → ds.length ≤ sizeLine → QD ds → Q (.ref p) H') := by
    intro pins s σ H vs us Q I r ⟨Hv, d, QD, vw, rp, w, k⟩
    obtain ⟨v, rfl, h⟩ := rp1 rp
    obtain ⟨ds, rfl⟩ : ∃ ds, d = .list ds := by cases d <;> first | exact w.elim | exact ⟨_, rfl⟩
    cases h with
    | @lst a ys _ hs ha hl =>
      obtain ⟨⟨hlv, al, so⟩, q⟩ := w
      obtain ⟨its, rv, pl, hz⟩ := I.list (vw.sql hs)
      rw [Vals.ref1 r]
      have hlv' := List.all_eq_true.mp hlv
      refine PySem.W.sorted_data (R := fun v d => ∃ x, RelV x v ∧ Rp X.K Hv x d) (enc := id) pl.isList (each_of rv ha) (each_reads I vw rv ha hlv') (by rw [List.map_id]; exact al) (by rw [List.map_id]; exact so) hl (fun d hd => ?_) fun out hlen ho => ?_
      · have : d.depth ≤ 12 := (lv_canLay lvl d (hlv' d hd)).2
        show X.A.units + 2 + d.depth < cLine
        omega
      · obtain ⟨xs, h3, h4⟩ := of_each ho
        obtain ⟨ep, he'⟩ := PyProof.Rows.sortedAll_at s.heap its (List.toArray out)
        have hl2 : (dSort ds).length ≤ sizeLine := by unfold dSort; rw [List.length_mergeSort]; exact hl
        have hl3 : xs.length ≤ sizeLine := by rw [h4.length]; exact hl2
        have hf : H (s.heap.objs.size + 1) = none := I.hok.fresh (Nat.le_succ _)
        exact ⟨.ref (s.heap.objs.size + 1), upd H (s.heap.objs.size + 1) (.lst xs), I.laid (t' := s.toks) (fun _ _ => PyProof.Rows.sortedAll_old) (Nat.le_succ _) ⟨hl3, out, ep, h3, he'⟩, rfl, k _ _ _ _ _ (Fw.newU vw hf) (vw.none_of hf) hf upd_same h4 hl2 q⟩
  exact peW (pe_callB cr hg hm (by decide +kernel) (pa_cons ha pa_nil h1) (by decide) (by decide) h1 h2) fun σ H Q ⟨Hv, e, QD, er, vw, hm, k⟩ =>
    ⟨Hv, e, _, er, vw, hm, fun d v Hv1 H1 f1 r1 q1 => ⟨Hv1, d, QD, f1.vw, .one r1, q1, fun ds p xs Hv2 H2 f2 h1 h2 h3 h4 h5 h6 => k ds p xs Hv2 H2 (f1.trans f2) h1 (f1.fresh_at h2) h3 h4 h5 h6⟩⟩

/-! ### xs.index(y) -/
def idxD (ds : List D) (d : D) : Option Nat := ds.findIdx? fun z => PyData.eqv z d
def eIndex (mo ma : EX) : EX := fun e Q => mo e fun x => ∃ ds, items x = some ds ∧ ds.all (lv lvl) = true ∧ ma e fun d => lv lvl d = true ∧ ∃ j, idxD ds d = some j ∧ Q (.int (j : Nat))
theorem mt_indexT (hu : X.A.units + 65 < cLine) {pins : List (Addr × Obj)} {s : Shared} {σ : L2.St} {H : Hp} {a : Addr} {xs : List V} {ds : List D} {d : D} {y : V} {u : Value} {j : Nat} {Q : VK} (I : Inv X pins σ H s) (hs : SqT X.K H a xs) (ha : DpAll X.K H xs ds) (hy : Dp X.K H y d) (ry : RelV y u)
    (sl : SeqAt.shaped (.tuple ds) = true) (sd : SeqAt.shaped d = true) (hj : idxD ds d = some j) (q : Q (.int (j : Nat)) H) : wpAny (model X.prog X.w) X.A (call (.builtin "tuple.index") [.ref a, u]) (EP X pins σ Q) X.xe s := by
  obtain ⟨bs, r1⟩ := Dp.reads I d y u hy ry
  have hxs : PyData.canLayAll0 ds = true := SeqAt.canLay_of_shaped sl
  have hroom : X.A.units + 1 + min (PyData.depthAll ds) d.depth < cLine := room_in_shaped sd hu
  obtain ⟨its, rv, ⟨⟨cls, dd, data, sls⟩, ho, hc, n, hdt⟩, hlen⟩ := I.tuple hs
  simp only at hc hdt
  subst hc hdt
  obtain ⟨as, h4⟩ := Dp.readsAll I ds _ its ha rv
  have hn : its.length = ds.length := SeqAt.ReadsAll.length ds its as h4
  have hmap : its.map (SeqAt.readOf s.heap) = ds := SeqAt.readsAll_map ds its as hxs h4
  obtain ⟨hjd, hjt, hjn⟩ := List.findIdx?_eq_some_iff_getElem.mp hj
  have hjl : j < its.length := by omega
  have hj' : j < its.toArray.size := by simpa using hjl
  have at_ : ∀ (m : Nat) (hm : m < its.toArray.size) (hm' : m < ds.length), SeqAt.readOf s.heap its.toArray[m] = ds[m] := by
    intro m hm hm'
    have hml : m < its.length := by simpa using hm
    have e2 := congrArg (fun l : List PyData => l[m]?) hmap
    simp only [List.getElem?_map, List.getElem?_eq_getElem hml, List.getElem?_eq_getElem hm', Option.map_some, Option.some.injEq] at e2
    simpa using e2
  refine call_meets PySem.F.slot_tuple_index ⟨_, ho, rfl⟩ PySem.F.entry_tuple_index (PySem.F.args_tuple_index_2 _ _)
    (_root_.TI.tuple_indexAt a its.toArray n dd sls u (fun u => PyData.eqv (SeqAt.readOf s.heap u) d) j hj' ?_ ?_) ⟨ho, SeqAt.items_eqAt (vs := its.toArray) (show ReadsAll s.heap its.toArray.toList ds as from h4) r1 hxs (SeqAt.canLay_of_shaped sd) hroom, ?_⟩
  · show PyData.eqv (SeqAt.readOf s.heap its.toArray[j]) d = true
    rw [at_ j hj' hjd]
    exact hjt
  · intro m hm hmj
    have hmd : m < ds.length := by omega
    show PyData.eqv (SeqAt.readOf s.heap its.toArray[m]) d = false
    rw [at_ m hm hmd]
    exact Bool.eq_false_iff.mpr (hjn m hmj)
  · exact ⟨.int (j : Nat), H, I.tok _, ⟨_, rfl⟩, q⟩
theorem d_index {apos cpos : Pos} (hu : X.A.units + 65 < cLine) (ho : DE X o mo) (ha : DE X a ma) (hbase : attributeBase o "index" X.env (eval o X.env) = eval o X.env := by rfl)
    (hfew : ((backTo cpos (starEach (a :: []) X.env)).all (fun x => !x.1) && (backToKw cpos (keywordEach [] X.env)).all (fun x => x.1.isSome)
      && decide ((a :: ([] : List Expr)).length + ([] : List Keyword).length + (if ([] : List Keyword).isEmpty then 0 else 1) < 30)) = true := by rfl)
    (hline : (apos.endLine == cpos.line) = true := by rfl) (hs : starEach (a :: []) X.env = (false, eval a X.env) :: starEach [] X.env := by rfl) (hplain : (backTo cpos (starEach [] X.env)).any (·.1) = false := by rfl) :
    DE X (.Call (.Attribute o "index" apos) [a] [] cpos) (eIndex mo ma) := by
  refine ⟨fun pins s σ H Q I ⟨Hv, e, QD, er, vw, hm, k⟩ => ?_⟩
  refine wpAny_Call_method_late hbase hfew hline rfl (thn (ho.run pins s σ H (fun x H1 => ∃ Hv1 d, Fw Hv H Hv1 H1 ∧ Rp X.K Hv1 x d ∧ ∃ ds, items d = some ds ∧ ds.all (lv lvl) = true ∧ ma e fun d2 => lv lvl d2 = true ∧ ∃ j, idxD ds d2 = some j ∧ QD (.int (j : Nat))) I ⟨Hv, e, _, er, vw, hm, fun d v Hv1 H1 f r q => ⟨Hv1, d, f, r, q⟩⟩) fun v s1 ⟨x, H1, I1, r1, Hv1, d, f, r, ds0, e1, l1, q⟩ => ?_)
  have A2 := (da_cons (X := X) ha da_nil hs).run cpos pins s1 σ H1 (fun vs H2 => ∃ y, vs = [y] ∧ ∃ Hv2 d2, Fw Hv1 H1 Hv2 H2 ∧ Rp X.K Hv2 y d2 ∧ lv lvl d2 = true ∧ ∃ j, idxD ds0 d2 = some j ∧ QD (.int (j : Nat))) I1 ⟨Hv1, e, _, er.mono f.ext, f.vw, q, fun d2 v2 Hv2 H2 f2 r2 q2 => ⟨v2, rfl, Hv2, d2, f2, r2, q2⟩⟩
  rw [hs] at A2
  have h2 : (backTo cpos ((false, eval a X.env) :: starEach [] X.env)).any (·.1) = false := by
    show (false || (backTo cpos (starEach [] X.env)).any (·.1)) = false
    rw [hplain]
    rfl
  cases d with
  | list ds =>
    cases r with
    | @lst p xs _ hs' ha' hl =>
      cases r1
      obtain rfl : ds = ds0 := Option.some.inj e1
      obtain ⟨h3, h4⟩ := tyV_is I1 (x := .ref p) (T := "list") rfl (.inl ⟨rfl, xs, f.vw.sql hs'⟩)
      refine ⟨"list", "list.index", PySem.F.plainAttrs_list, PySem.F.slot_list_index, PySem.F.type_list_index, h3, h4, ?_⟩
      rw [hs]
      refine Calls.callWith_builtin h2 (Calls.evalArgs_plain (thn A2 fun us s2 ⟨vs, H2, I2, r2, y, ey, Hv2, d2, f2, rd2, l2, j, e2, q2⟩ => ?_))
      subst ey
      have rl : Rp X.K Hv2 (.ref p) (.list ds) := .lst (sql_mono f2.ext hs') (Rp.monoAll f2.ext _ _ ha') hl
      have lds : lv (lvl + 1) (.list ds) = true := l1
      obtain ⟨hjd, hjt, hjn⟩ := List.findIdx?_eq_some_iff_getElem.mp e2
      exact mt_indexD hu pins s2 σ H2 (.ref p) [y] _ us Q I2 rfl r2 ⟨p, y, d2, ds, j, ds[j], rfl, rfl, rl.dp f2.vw _ _ _ lds, rd2.dp f2.vw _ _ _ l2, lv_shaped lds, lv_shaped l2, List.getElem?_eq_getElem hjd, hjt, fun m z hm hz => by
        have hmd : m < ds.length := by omega
        rw [List.getElem?_eq_getElem hmd] at hz
        cases hz
        exact Bool.eq_false_iff.mpr (hjn m hm), k _ _ _ _ (f.trans f2) (.int _) q2⟩
  | tuple ds =>
    cases r with
    | @tup p xs _ hs' ha' hl =>
      cases r1
      obtain rfl : ds = ds0 := Option.some.inj e1
      have hj := f.vw.sqj hs'
      obtain ⟨ob, g1, g2⟩ := hj.is I1
      obtain ⟨its0, _, pl0, _⟩ := I1.tuple hj.t
      have h3 : s1.TypeIs (.ref p) "tuple" := pl0.typeIs
      refine ⟨"tuple", "tuple.index", PySem.F.plainAttrs_tuple, PySem.F.slot_tuple_index, PySem.F.type_tuple_index, h3, fun a e => by cases e; exact ⟨ob, g1, g2⟩, ?_⟩
      rw [hs]
      refine Calls.callWith_builtin h2 (Calls.evalArgs_plain (thn A2 fun us s2 ⟨vs, H2, I2, r2, y, ey, Hv2, d2, f2, rd2, l2, j, e2, q2⟩ => ?_))
      subst ey
      obtain ⟨u, rfl, ru⟩ := vals1 r2
      have lds : lv (lvl + 1) (.tuple ds) = true := l1
      exact mt_indexT hu I2 (f2.vw.sqt (sqt_mono f2.ext hs')) (Rp.dpAll f2.vw lvl _ _ (List.all_eq_true.mp l1) (Rp.monoAll f2.ext _ _ ha')) (rd2.dp f2.vw _ _ _ l2) ru (lv_shaped lds) (lv_shaped l2) e2 (k _ _ _ _ (f.trans f2) (.int _) q2)
  | none => cases e1
  | bool _ => cases e1
  | int _ => cases e1
  | str _ => cases e1
  | dict _ => cases e1
end
end J

/-! J9: more stores. -/
namespace J
open PySem PySem.Spec PyProof.Rows L2
section
variable {X : Cx} {K : PySem.W.Frag} {x a b c o : Expr} {es : List Expr} {pos : Pos} {m ma mb mc mo : EX} {ms : List EX} {n : NX} {st : Stmt}
theorem ps_lc2 {i : Nat} {y : Str} {py : Pos} {elt tg iter tg1 iter1 : Expr} {ifs ifs1 : List Expr} {scope : Scope} {own : List (Str × Nat)} {vs1 : List Nat} {pos spos : Pos} {it it1 : IX} {t t1 : Tg} {mt mt1 : TX} {me : EX} (hc : X.calm = true) (hN : X.N.Nodup) (hy : X.N[i]? = some y) (hyl : X.env.scope.names.lookup y = some .local)
    (hsw : swapsWith (.ListComp elt [⟨tg, iter, ifs, 0⟩, ⟨tg1, iter1, ifs1, 0⟩] scope pos) (some (.Name y py)) spos.line X.env = pure true) (hi : DI X tg iter it) (ok : BlkOk X.N X.env.scope scope own) (hv : ∀ i ∈ vs1, i ∈ own.map (·.2))
    (hg : ∀ (s : Shared) (H : Hp) (C : Addr) (cl : List (Str × Addr)) (fp : List Addr), DG (X.blk s H scope (compEnvC scope cl C X.env) fp) tg t) (ht : ∀ (s : Shared) (H : Hp) (C : Addr) (cl : List (Str × Addr)) (fp : List Addr), DTs (X.blk s H scope (compEnvC scope cl C X.env) fp) ifs mt)
    (hi1 : ∀ (s : Shared) (H : Hp) (C : Addr) (cl : List (Str × Addr)) (fp : List Addr), DI (X.blk s H scope (compEnvC scope cl C X.env) fp) tg1 iter1 it1)
    (hg1 : ∀ (s : Shared) (H : Hp) (C : Addr) (cl : List (Str × Addr)) (fp : List Addr), DG (X.blk s H scope (compEnvC scope cl C X.env) fp) tg1 t1) (ht1 : ∀ (s : Shared) (H : Hp) (C : Addr) (cl : List (Str × Addr)) (fp : List Addr), DTs (X.blk s H scope (compEnvC scope cl C X.env) fp) ifs1 mt1)
    (he : ∀ (s : Shared) (H : Hp) (C : Addr) (cl : List (Str × Addr)) (fp : List Addr), DE (X.blk s H scope (compEnvC scope cl C X.env) fp) elt me) (hsub : ∀ i ∈ t.slots, i ∈ own.map (·.2)) (hsub1 : ∀ i ∈ t1.slots, i ∈ vs1) (hs : ∀ x, foldedSetIterable iter X.env x = pure x) (hs1 : ∀ env x, foldedSetIterable iter1 env x = pure x) :
    PS X (.Assign [.Name y py] (.ListComp elt [⟨tg, iter, ifs, 0⟩, ⟨tg1, iter1, ifs1, 0⟩] scope pos) spos) (tAsg (tn X.K (nLc2 it t (own.map (·.2)) mt it1 t1 vs1 mt1 me)) (gName i)) := by
  have h := ps_setLc2 (g := gTgt X.K t) (tt := tt X.K mt) (te := te X.K me) (g1 := gTgt X.K t1) (tt1 := tt X.K mt1) (wi1 := ti X.K it1) (vs1 := vs1) hc hN hy hyl hsw hi ok hv hg ht hi1 hg1 ht1 he hs hs1
  exact ⟨fun pins s σ H D I q => h.run pins s σ H D I (tn_lc2 hsub hsub1 q)⟩

/-! ### [..] * n -/
def nRep (n : NX) (m : EX) : NX := fun e Q => n e fun ds => m e fun d => wI d fun k => -(2 ^ 63) ≤ k ∧ k < 2 ^ 63 ∧ ds.length * k.toNat ≤ sizeLine ∧ Q (List.replicate k.toNat ds).flatten
theorem RpAll.rep {H : Hp} {vs : List V} {ds : List D} (r : RpAll K H vs ds) : ∀ k : Nat, RpAll K H (List.replicate k vs).flatten (List.replicate k ds).flatten
  | 0 => .nil
  | k + 1 => by
    rw [List.replicate_succ, List.replicate_succ, List.flatten_cons, List.flatten_cons]
    exact r.append (RpAll.rep r k)
theorem n_rep (ha : DN X a n) (hb : DE X b m) : DN X (.BinOp a .Mult b pos) (nRep n m) := peW (pe_op op_rep ha hb) fun σ H Q ⟨Hv, e, QD, er, vw, hm, k⟩ =>
  ⟨Hv, e, _, er, vw, hm, fun ds p xs Hv1 H1 f hv hp hl r l q => ⟨Hv1, e, _, er.mono f.ext, f.vw, q, fun d v Hv2 H2 f2 r2 q2 => by
    obtain ⟨i, rfl, rfl, h1, h2, h3, q⟩ := wI_int r2 q2
    obtain ⟨hv2, hp2⟩ := f2.hidden hv hl
    have r' := Rp.monoAll f2.ext _ _ r
    refine ⟨p, i, xs, rfl, rfl, hp2, h1, h2, by rw [r.length]; exact h3, fun p' hp' => ?_⟩
    have hne : Hv2 p' = none := f2.vw.none_of hp'
    exact k _ _ _ _ _ ((f.trans f2).trans (Fw.newU f2.vw hp')) hne ((f.trans f2).fresh_at hp') upd_same (r'.rep _) (by rw [PyProof.Rows.lm_len_rep_flat, Nat.mul_comm]; exact h3) q⟩⟩

/-! ### x, y = e of the def's own lists -/
def sTgtP (t : Tg) (m : EX) : SX := fun e P => m e fun d => pl lvl d = true ∧ ∃ e', t.bind d e = some e' ∧ P.nx e'
/-- two new lists -/
def sParN (i j : Nat) (n1 n2 : NX) : SX := fun e P => n1 (hide e) fun ds => n2 (hide e) fun es => P.nx ((e.set i (.own ds)).set j (.own es))
end
end J

/-! J10: reckoning with mirrors; the helpers that all laws share. -/
namespace J
open PySem PySem.Spec PyProof.Rows L2

theorem hu64 {k : Nat} {A : Around} (hr : Room k A) : A.units + 64 < cLine := by have := hr.un; omega
theorem ex_some {α : Type} {a : α} {P : α → Prop} : (∃ d, some a = some d ∧ P d) ↔ P a := by simp
section
variable {i j : Int} {a b : Bool} {xs ys ds : List D} {x y : D} {u v : Str} {Q : D → Prop} {n : Nat} {lo hi : Option Int}
theorem wAdd_i : wAdd (.int i) (.int j) Q = Q (.int (i + j)) := rfl
theorem wAdd_t : wAdd (.tuple xs) (.tuple ys) Q = (xs.length + ys.length ≤ sizeLine ∧ Q (.tuple (xs ++ ys))) := rfl
theorem wAdd_l : wAdd (.list xs) (.list ys) Q = (xs.length + ys.length ≤ sizeLine ∧ Q (.list (xs ++ ys))) := rfl
theorem wAdd_s : wAdd (.str u) (.str v) Q = (u.length + v.length ≤ sizeLine ∧ Q (.str (u ++ v))) := rfl
theorem wSub_i : wSub (.int i) (.int j) Q = Q (.int (i - j)) := rfl
theorem wMul_i : wMul (.int i) (.int j) Q = (MulOk i j ∧ Q (.int (i * j))) := rfl
theorem wDiv_i : wDiv (.int i) (.int j) Q = (DivOk i j ∧ Q (.int (i / j))) := rfl
theorem wMod_i : wMod (.int i) (.int j) Q = (0 < j ∧ Q (.int (i % j))) := rfl
theorem wPow_i : wPow (.int i) (.int j) Q = (CPow i j ∧ Q (.int (i ^ j.toNat))) := rfl
theorem wNeg_i : wNeg (.int i) Q = Q (.int (-i)) := rfl
theorem wLt_i : wLt (.int i) (.int j) Q = Q (.bool (decide (i < j))) := rfl
theorem wLe_i : wLe (.int i) (.int j) Q = Q (.bool (decide (i ≤ j))) := rfl
theorem wGt_i : wGt (.int i) (.int j) Q = Q (.bool (decide (j < i))) := rfl
theorem wGe_i : wGe (.int i) (.int j) Q = Q (.bool (decide (j ≤ i))) := rfl
theorem wIs_n : wIs x .none Q = Q (.bool (isNon x)) := by cases x <;> rfl
theorem wIs_b : wIs (.bool a) (.bool b) Q = Q (.bool (decide (a = b))) := rfl
theorem wIsNot_n : wIsNot x .none Q = Q (.bool (!isNon x)) := by cases x <;> rfl
theorem wIsNot_b : wIsNot (.bool a) (.bool b) Q = Q (.bool (!decide (a = b))) := rfl
theorem wIx_l : wIx (.list ds) (.int i) Q = ∃ d, atI ds i = some d ∧ Q d := rfl
theorem wIx_t : wIx (.tuple ds) (.int i) Q = ∃ d, atI ds i = some d ∧ Q d := rfl
theorem wLen_l : wLen [.list ds] Q = Q (.int (ds.length : Int)) := rfl
theorem wLen_t : wLen [.tuple ds] Q = Q (.int (ds.length : Int)) := rfl
theorem wAbs_i : wAbs [.int i] Q = Q (.int (i.natAbs : Int)) := rfl
theorem wInt_i : wInt [.int i] Q = Q (.int i) := rfl
theorem wInt_b : wInt [.bool a] Q = Q (.int (b2n a)) := rfl
theorem wMax2_i : wMax2 [.int i, .int j] Q = Q (.int (max i j)) := rfl
theorem wMin2_i : wMin2 [.int i, .int j] Q = Q (.int (min i j)) := rfl
theorem wTuple_l : wTuple (.list ds) Q = Q (.tuple ds) := rfl
theorem wTuple_t : wTuple (.tuple ds) Q = Q (.tuple ds) := rfl
theorem wB_b {R : Bool → Prop} : wB (.bool a) R = R a := rfl
theorem wI_i {R : Int → Prop} : wI (.int i) R = R i := rfl
theorem seqOf_l {R : List D → Prop} : seqOf (.list ds) R = R ds := rfl
theorem seqOf_t {R : List D → Prop} : seqOf (.tuple ds) R = R ds := rfl
theorem wIAdd_i : wIAdd (.int i) (.int j) Q = Q (.int (i + j)) := rfl
theorem wIAdd_t : wIAdd (.tuple xs) (.tuple ys) Q = (xs.length + ys.length ≤ sizeLine ∧ Q (.tuple (xs ++ ys))) := rfl
theorem wIMul_i : wIMul (.int i) (.int j) Q = (CMul i j ∧ Q (.int (i * j))) := rfl
theorem wSl_l : wSl (.list ds) lo hi Q = Q (.list (cutD ds lo hi)) := rfl
theorem wSl_t : wSl (.tuple ds) lo hi Q = Q (.tuple (cutD ds lo hi)) := rfl
theorem wIn_l : wIn x (.list ds) Q = (lv lvl x = true ∧ ds.all (lv lvl) = true ∧ Q (.bool (ds.any fun z => PyData.eqv z x))) := rfl
theorem wIn_t : wIn x (.tuple ds) Q = (lv lvl x = true ∧ ds.all (lv lvl) = true ∧ Q (.bool (ds.any fun z => PyData.eqv z x))) := rfl
theorem wNotIn_l : wNotIn x (.list ds) Q = (lv lvl x = true ∧ ds.all (lv lvl) = true ∧ Q (.bool (!ds.any fun z => PyData.eqv z x))) := rfl
theorem wNotIn_t : wNotIn x (.tuple ds) Q = (lv lvl x = true ∧ ds.all (lv lvl) = true ∧ Q (.bool (!ds.any fun z => PyData.eqv z x))) := rfl
theorem items_l : items (.list ds) = some ds := rfl
theorem items_t : items (.tuple ds) = some ds := rfl
theorem lv_i : lv n (.int i) = true := by cases n <;> rfl
theorem lv_b : lv n (.bool a) = true := by cases n <;> rfl
theorem lv_n : lv n .none = true := by cases n <;> rfl
theorem pl_i : pl n (.int i) = true := by cases n <;> rfl
theorem pl_b : pl n (.bool a) = true := by cases n <;> rfl
theorem pl_n : pl n .none = true := by cases n <;> rfl
theorem hide_v : Slot.hide (.val x) = .val x := rfl
theorem hide_o : Slot.hide (.own ds) = .no := rfl
theorem hide_n : Slot.hide .no = .no := rfl
theorem rd_v : Slot.rd (.val x) = some x := rfl
theorem rd_o : Slot.rd (.own ds) = some (.list ds) := rfl
theorem rd_n : Slot.rd .no = none := rfl
theorem bind_one {i : Nat} {e : En} : Tg.bind (.one i) x e = some (e.set i (.val x)) := rfl
theorem bind_many {is : List Nat} {e : En} : Tg.bind (.many is) (.tuple ds) e = if ds.length = is.length then some (setAll is ds e) else none := rfl
theorem b2n_t : b2n true = 1 := rfl
theorem b2n_f : b2n false = 0 := rfl
theorem isNon_n : isNon .none = true := rfl
theorem isNon_i : isNon (.int i) = false := rfl
theorem isNon_b : isNon (.bool a) = false := rfl
theorem isNon_s : isNon (.str u) = false := rfl
theorem isNon_t : isNon (.tuple ds) = false := rfl
theorem isNon_l : isNon (.list ds) = false := rfl
theorem eqv_ii : PyData.eqv (.int i) (.int j) = decide (i = j) := by rw [PyData.eqv]; exact Bool.eq_iff_iff.mpr (by rw [beq_iff_eq, decide_eq_true_eq])
theorem eqv_bb : PyData.eqv (.bool a) (.bool b) = decide (a = b) := by rw [PyData.eqv]; exact Bool.eq_iff_iff.mpr (by rw [beq_iff_eq, decide_eq_true_eq])
theorem atI_nat {α : Type} {zs : List α} {k : Int} (h0 : 0 ≤ k) (h1 : k < zs.length) : atI zs k = zs[k.toNat]? := by
  unfold atI ixN
  rw [if_pos h0, if_pos h1]
  rfl
theorem atI_some {α : Type} {zs : List α} {k : Int} (h0 : 0 ≤ k) (h1 : k < zs.length) : ∃ d, zs[k.toNat]? = some d ∧ atI zs k = some d := by
  have h2 : k.toNat < zs.length := by omega
  exact ⟨zs[k.toNat], List.getElem?_eq_getElem h2, by rw [atI_nat h0 h1, List.getElem?_eq_getElem h2]⟩
theorem atI_map {α β : Type} {zs : List α} {k : Int} (f : α → β) : atI (zs.map f) k = (atI zs k).map f := by
  unfold atI
  rw [List.length_map]
  cases ixN zs.length k <;> simp
theorem atI_ints {ns : List Int} {k : Int} (h0 : 0 ≤ k) (h1 : k < ns.length) : ∃ z, ns[k.toNat]? = some z ∧ atI (ns.map PyData.int) k = some (.int z) := by
  obtain ⟨d, a, b⟩ := atI_some h0 h1
  exact ⟨d, a, by rw [atI_map, b]; rfl⟩
theorem mul_r (h : -(2 ^ 64) < j ∧ j < 2 ^ 64) : MulOk i j := .inl (.inr h)
theorem mul_l (h : -(2 ^ 64) < i ∧ i < 2 ^ 64) : MulOk i j := .inl (.inl h)
theorem div_s (h : 0 < j ∧ j < 1073741824) : DivOk i j := .inl h
end

/-! ### the pile -/
def S_take : WL := fun ds Q => ∃ n : Int, ds = [.dict [], .int n] ∧ 0 < n ∧ ∀ r : Int, 0 ≤ r → r < n → Q (.int r)
/-! ### _law_cell -/
def S_cell1 : WL := fun ds Q => ∃ (ns : List Int) (at_ : Int), ds = [.list (ns.map PyData.int), .int at_] ∧ ns.length ≤ 63 ∧ ∀ r : Int, r.natAbs < 10 ^ 60 → Q (.int r)
def m_cell1 : SX := (sSeq (sIf (tOf (eOp wEq (eCall wLen [(eVar 0)]) (eC (.int 0)))) (sRet (eC (.int 0))) sSkip)
      (sSeq (sAsg 2 (eCall wInt [(eOp wIx (eVar 0) (eOp wMod (eCall wInt [(eVar 1)]) (eCall wLen [(eVar 0)])))]))
      (sRet (eOp wMul (eOp wMod (eCall wAbs [(eVar 2)]) (eOp wPow (eC (.int 10)) (eC (.int 60)))) (eOp wIx (eFr (nLst [(eC (.int 1)), (eUn wNeg (eC (.int 1)))])) (eCall wInt [(eOp wLt (eVar 2) (eC (.int 0)))]))))))
theorem cell_end {z : Int} {QD : D → Prop} (q : ∀ r : Int, r.natAbs < 10 ^ 60 → QD (.int r)) : (CPow 10 60 ∧ 0 < (10 : Int) ^ Int.toNat 60 ∧ ∃ d, atI [PyData.int 1, PyData.int (-1)] (b2n (decide (z < 0))) = some d ∧ wMul (.int ((z.natAbs : Int) % 10 ^ Int.toNat 60)) d QD) := by
  have e1 : ((10 : Int) ^ Int.toNat 60) = 10 ^ 60 := by decide
  refine ⟨⟨by decide, by decide, by decide⟩, by decide, ?_⟩
  rw [e1]
  have h1 := Int.emod_nonneg (z.natAbs : Int) (show (10 : Int) ^ 60 ≠ 0 by decide)
  have h2 := Int.emod_lt_of_pos (z.natAbs : Int) (show (0 : Int) < 10 ^ 60 by decide)
  by_cases hz : z < 0
  · refine ⟨.int (-1), by rw [decide_eq_true hz]; rfl, mul_r (by decide), q _ ?_⟩
    omega
  · refine ⟨.int 1, by rw [decide_eq_false hz]; rfl, mul_r (by decide), q _ ?_⟩
    omega
theorem wp_cell1 (ds : List D) (QD : D → Prop) (h : S_cell1 ds QD) : m_cell1 (startE 3 ds) ⟨fun _ => QD .none, QD, noB, noB, fun es => QD (.list es)⟩ := by
  obtain ⟨ns, at_, rfl, hl, q⟩ := h
  unfold m_cell1
  simp only [sSeq, sSkip, sAsg, sAsgP, sNew, sNewP, sRet, sRetO, sIf, sApp, sAppP, sSet, sAug, sTgt, sTgtP, sPar, sFz, frz, sFor, sForR, sRev, sBrk, sCnt, sDrop, eOp, eUn, eCall, eVar, eC, eFr, eTup, eTupR, eAnd, eOr, eNot, eIf, eChain, eIndex, eSl, nLst, nList, nListR, nLc, nLc2, nCall, nSorted, nRep, tOf, tAndJ, tOrJ, tNotJ, tTrue, iSeq, iR1, iR2, iR3, rg1, rg2, evA, pNo, pSo, startE, hide, rd, hide_v, hide_o, hide_n, rd_v, rd_o, rd_n, bind_one, bind_many, setAll, List.map, List.replicate, List.length, List.cons_append, List.nil_append, List.getElem?_cons_zero, List.getElem?_cons_succ, List.set_cons_zero, List.set_cons_succ, Option.bind_some, ex_some, Option.some.injEq, Slot.own.injEq, Slot.val.injEq, exists_eq_left', true_and, and_true, Bool.false_eq_true, if_false, if_true, reduceIte, wEq, wNe, wAdd_i, wAdd_t, wAdd_l, wAdd_s, wSub_i, wMul_i, wDiv_i, wMod_i, wPow_i, wNeg_i, wLt_i, wLe_i, wGt_i, wGe_i, wIs_n, wIs_b, wIsNot_n, wIsNot_b, wIx_l, wIx_t, wLen_l, wLen_t, wAbs_i, wInt_i, wInt_b, wMax2_i, wMin2_i, wTuple_l, wTuple_t, wB_b, wI_i, seqOf_l, seqOf_t, wIAdd_i, wIAdd_t, wIMul_i, wSl_l, wSl_t, wIn_l, wIn_t, wNotIn_l, wNotIn_t, items_l, items_t, lv_i, lv_b, lv_n, eqv_ii, eqv_bb, isNon_n, isNon_i, isNon_b, isNon_s, isNon_t, isNon_l, Bool.not_true, Bool.not_false, b2n_t, b2n_f, pl_i, pl_b, pl_n, decide_eq_true_eq, List.length_map]
  split
  · exact q 0 (by decide)
  · rename_i hne
    have hpos : (0 : Int) < ns.length := by omega
    refine ⟨hpos, ?_⟩
    obtain ⟨z, _, hz⟩ := atI_ints (Int.emod_nonneg at_ (show ((ns.length : Nat) : Int) ≠ 0 by omega)) (Int.emod_lt_of_pos at_ hpos)
    refine ⟨_, hz, ?_⟩
    simp only [sSeq, sSkip, sAsg, sAsgP, sNew, sNewP, sRet, sRetO, sIf, sApp, sAppP, sSet, sAug, sTgt, sTgtP, sPar, sFz, frz, sFor, sForR, sRev, sBrk, sCnt, sDrop, eOp, eUn, eCall, eVar, eC, eFr, eTup, eTupR, eAnd, eOr, eNot, eIf, eChain, eIndex, eSl, nLst, nList, nListR, nLc, nLc2, nCall, nSorted, nRep, tOf, tAndJ, tOrJ, tNotJ, tTrue, iSeq, iR1, iR2, iR3, rg1, rg2, evA, pNo, pSo, startE, hide, rd, hide_v, hide_o, hide_n, rd_v, rd_o, rd_n, bind_one, bind_many, setAll, List.map, List.replicate, List.length, List.cons_append, List.nil_append, List.getElem?_cons_zero, List.getElem?_cons_succ, List.set_cons_zero, List.set_cons_succ, Option.bind_some, ex_some, Option.some.injEq, Slot.own.injEq, Slot.val.injEq, exists_eq_left', true_and, and_true, Bool.false_eq_true, if_false, if_true, reduceIte, wEq, wNe, wAdd_i, wAdd_t, wAdd_l, wAdd_s, wSub_i, wMul_i, wDiv_i, wMod_i, wPow_i, wNeg_i, wLt_i, wLe_i, wGt_i, wGe_i, wIs_n, wIs_b, wIsNot_n, wIsNot_b, wIx_l, wIx_t, wLen_l, wLen_t, wAbs_i, wInt_i, wInt_b, wMax2_i, wMin2_i, wTuple_l, wTuple_t, wB_b, wI_i, seqOf_l, seqOf_t, wIAdd_i, wIAdd_t, wIMul_i, wSl_l, wSl_t, wIn_l, wIn_t, wNotIn_l, wNotIn_t, items_l, items_t, lv_i, lv_b, lv_n, eqv_ii, eqv_bb, isNon_n, isNon_i, isNon_b, isNon_s, isNon_t, isNon_l, Bool.not_true, Bool.not_false, b2n_t, b2n_f, pl_i, pl_b, pl_n, decide_eq_true_eq]
    exact cell_end q
def S_cell2 : WL := fun ds Q => ∃ (ns : List Int), ds = [.list (ns.map PyData.int), .dict []] ∧ ns.length ≤ 63 ∧ ∀ r : Int, r.natAbs < 10 ^ 60 → Q (.int r)
def m_cell2 : SX := (sSeq (sIf (tOf (eOp wEq (eCall wLen [(eVar 0)]) (eC (.int 0)))) (sRet (eC (.int 0))) sSkip)
      (sSeq (sAsg 2 (eCall wInt [(eOp wIx (eVar 0) (eCall S_take [(eVar 1), (eCall wLen [(eVar 0)])]))]))
      (sRet (eOp wMul (eOp wMod (eCall wAbs [(eVar 2)]) (eOp wPow (eC (.int 10)) (eC (.int 60)))) (eOp wIx (eFr (nLst [(eC (.int 1)), (eUn wNeg (eC (.int 1)))])) (eCall wInt [(eOp wLt (eVar 2) (eC (.int 0)))]))))))
theorem wp_cell2 (ds : List D) (QD : D → Prop) (h : S_cell2 ds QD) : m_cell2 (startE 3 ds) ⟨fun _ => QD .none, QD, noB, noB, fun es => QD (.list es)⟩ := by
  obtain ⟨ns, rfl, hl, q⟩ := h
  unfold m_cell2
  simp only [sSeq, sSkip, sAsg, sAsgP, sNew, sNewP, sRet, sRetO, sIf, sApp, sAppP, sSet, sAug, sTgt, sTgtP, sPar, sFz, frz, sFor, sForR, sRev, sBrk, sCnt, sDrop, eOp, eUn, eCall, eVar, eC, eFr, eTup, eTupR, eAnd, eOr, eNot, eIf, eChain, eIndex, eSl, nLst, nList, nListR, nLc, nLc2, nCall, nSorted, nRep, tOf, tAndJ, tOrJ, tNotJ, tTrue, iSeq, iR1, iR2, iR3, rg1, rg2, evA, pNo, pSo, startE, hide, rd, hide_v, hide_o, hide_n, rd_v, rd_o, rd_n, bind_one, bind_many, setAll, List.map, List.replicate, List.length, List.cons_append, List.nil_append, List.getElem?_cons_zero, List.getElem?_cons_succ, List.set_cons_zero, List.set_cons_succ, Option.bind_some, ex_some, Option.some.injEq, Slot.own.injEq, Slot.val.injEq, exists_eq_left', true_and, and_true, Bool.false_eq_true, if_false, if_true, reduceIte, wEq, wNe, wAdd_i, wAdd_t, wAdd_l, wAdd_s, wSub_i, wMul_i, wDiv_i, wMod_i, wPow_i, wNeg_i, wLt_i, wLe_i, wGt_i, wGe_i, wIs_n, wIs_b, wIsNot_n, wIsNot_b, wIx_l, wIx_t, wLen_l, wLen_t, wAbs_i, wInt_i, wInt_b, wMax2_i, wMin2_i, wTuple_l, wTuple_t, wB_b, wI_i, seqOf_l, seqOf_t, wIAdd_i, wIAdd_t, wIMul_i, wSl_l, wSl_t, wIn_l, wIn_t, wNotIn_l, wNotIn_t, items_l, items_t, lv_i, lv_b, lv_n, eqv_ii, eqv_bb, isNon_n, isNon_i, isNon_b, isNon_s, isNon_t, isNon_l, Bool.not_true, Bool.not_false, b2n_t, b2n_f, pl_i, pl_b, pl_n, decide_eq_true_eq, List.length_map]
  split
  · exact q 0 (by decide)
  · rename_i hne
    have hpos : (0 : Int) < ns.length := by omega
    refine ⟨_, rfl, hpos, fun r h0 h1 => ?_⟩
    obtain ⟨z, _, hz⟩ := atI_ints h0 h1
    simp only [sSeq, sSkip, sAsg, sAsgP, sNew, sNewP, sRet, sRetO, sIf, sApp, sAppP, sSet, sAug, sTgt, sTgtP, sPar, sFz, frz, sFor, sForR, sRev, sBrk, sCnt, sDrop, eOp, eUn, eCall, eVar, eC, eFr, eTup, eTupR, eAnd, eOr, eNot, eIf, eChain, eIndex, eSl, nLst, nList, nListR, nLc, nLc2, nCall, nSorted, nRep, tOf, tAndJ, tOrJ, tNotJ, tTrue, iSeq, iR1, iR2, iR3, rg1, rg2, evA, pNo, pSo, startE, hide, rd, hide_v, hide_o, hide_n, rd_v, rd_o, rd_n, bind_one, bind_many, setAll, List.map, List.replicate, List.length, List.cons_append, List.nil_append, List.getElem?_cons_zero, List.getElem?_cons_succ, List.set_cons_zero, List.set_cons_succ, Option.bind_some, ex_some, Option.some.injEq, Slot.own.injEq, Slot.val.injEq, exists_eq_left', true_and, and_true, Bool.false_eq_true, if_false, if_true, reduceIte, wEq, wNe, wAdd_i, wAdd_t, wAdd_l, wAdd_s, wSub_i, wMul_i, wDiv_i, wMod_i, wPow_i, wNeg_i, wLt_i, wLe_i, wGt_i, wGe_i, wIs_n, wIs_b, wIsNot_n, wIsNot_b, wIx_l, wIx_t, wLen_l, wLen_t, wAbs_i, wInt_i, wInt_b, wMax2_i, wMin2_i, wTuple_l, wTuple_t, wB_b, wI_i, seqOf_l, seqOf_t, wIAdd_i, wIAdd_t, wIMul_i, wSl_l, wSl_t, wIn_l, wIn_t, wNotIn_l, wNotIn_t, items_l, items_t, lv_i, lv_b, lv_n, eqv_ii, eqv_bb, isNon_n, isNon_i, isNon_b, isNon_s, isNon_t, isNon_l, Bool.not_true, Bool.not_false, b2n_t, b2n_f, pl_i, pl_b, pl_n, decide_eq_true_eq]
    refine ⟨_, hz, ?_⟩
    simp only [sSeq, sSkip, sAsg, sAsgP, sNew, sNewP, sRet, sRetO, sIf, sApp, sAppP, sSet, sAug, sTgt, sTgtP, sPar, sFz, frz, sFor, sForR, sRev, sBrk, sCnt, sDrop, eOp, eUn, eCall, eVar, eC, eFr, eTup, eTupR, eAnd, eOr, eNot, eIf, eChain, eIndex, eSl, nLst, nList, nListR, nLc, nLc2, nCall, nSorted, nRep, tOf, tAndJ, tOrJ, tNotJ, tTrue, iSeq, iR1, iR2, iR3, rg1, rg2, evA, pNo, pSo, startE, hide, rd, hide_v, hide_o, hide_n, rd_v, rd_o, rd_n, bind_one, bind_many, setAll, List.map, List.replicate, List.length, List.cons_append, List.nil_append, List.getElem?_cons_zero, List.getElem?_cons_succ, List.set_cons_zero, List.set_cons_succ, Option.bind_some, ex_some, Option.some.injEq, Slot.own.injEq, Slot.val.injEq, exists_eq_left', true_and, and_true, Bool.false_eq_true, if_false, if_true, reduceIte, wEq, wNe, wAdd_i, wAdd_t, wAdd_l, wAdd_s, wSub_i, wMul_i, wDiv_i, wMod_i, wPow_i, wNeg_i, wLt_i, wLe_i, wGt_i, wGe_i, wIs_n, wIs_b, wIsNot_n, wIsNot_b, wIx_l, wIx_t, wLen_l, wLen_t, wAbs_i, wInt_i, wInt_b, wMax2_i, wMin2_i, wTuple_l, wTuple_t, wB_b, wI_i, seqOf_l, seqOf_t, wIAdd_i, wIAdd_t, wIMul_i, wSl_l, wSl_t, wIn_l, wIn_t, wNotIn_l, wNotIn_t, items_l, items_t, lv_i, lv_b, lv_n, eqv_ii, eqv_bb, isNon_n, isNon_i, isNon_b, isNon_s, isNon_t, isNon_l, Bool.not_true, Bool.not_false, b2n_t, b2n_f, pl_i, pl_b, pl_n, decide_eq_true_eq]
    exact cell_end q
end J

/-! J11: loops over data; _law_draws, _law_same. -/
namespace J
open PySem PySem.Spec PyProof.Rows L2

theorem mapW_of {f : D → (Option D → Prop) → Prop} (g : D → Option D) : ∀ {ds : List D} {Q : List D → Prop}, (∀ d ∈ ds, ∀ R : Option D → Prop, R (g d) → f d R) → Q (ds.filterMap g) → mapW f ds Q
  | [], _, _, q => q
  | d :: ds, Q, h, q => h d List.mem_cons_self _ (mapW_of g (fun x hx => h x (List.mem_cons_of_mem _ hx)) (by
      cases e : g d with
      | none => rw [List.filterMap_cons_none e] at q; exact q
      | some y => rw [List.filterMap_cons_some e] at q; exact q))
theorem mapW_map {f : D → (Option D → Prop) → Prop} (g : D → D) : ∀ {ds : List D} {Q : List D → Prop}, (∀ d ∈ ds, ∀ R : Option D → Prop, R (some (g d)) → f d R) → Q (ds.map g) → mapW f ds Q
  | [], _, _, q => q
  | d :: ds, Q, h, q => h d List.mem_cons_self _ (mapW_map g (fun x hx => h x (List.mem_cons_of_mem _ hx)) q)
/-- every item makes some r with P -/
theorem mapW_all {f : D → (Option D → Prop) → Prop} (P : D → D → Prop) : ∀ {ds : List D} {Q : List D → Prop}, (∀ d ∈ ds, ∀ R : Option D → Prop, (∀ r, P d r → R (some r)) → f d R) → (∀ rs : List D, rs.length = ds.length → (∀ (i : Nat) (d r : D), ds[i]? = some d → rs[i]? = some r → P d r) → Q rs) → mapW f ds Q
  | [], _, _, q => q [] rfl (fun i d r h => by simp at h)
  | d :: ds, Q, h, q => h d List.mem_cons_self _ fun r hr => mapW_all P (fun x hx => h x (List.mem_cons_of_mem _ hx)) fun rs hl hrs => q (r :: rs) (by simp [hl]) fun i d' r' h1 h2 => by
      cases i with
      | zero => simp at h1 h2; subst h1 h2; exact hr
      | succ i => exact hrs i d' r' (by simpa using h1) (by simpa using h2)
theorem forW_inv {t : Tg} {s : SX} {ds : List D} {e : En} {P : Po} (I : Nat → En → Prop) (h0 : I 0 e)
    (hs : ∀ i d e, ds[i]? = some d → I i e → ∀ R : En → Prop, (∀ e2, I (i + 1) e2 → R e2) → ∃ e', t.bind d e = some e' ∧ s e' ⟨R, P.rt, P.nx, R, P.rn⟩) (he : ∀ e, I ds.length e → P.nx e) : forW t s ds e P := by
  have go : ∀ (l : List D) (i : Nat) (e : En), ds.drop i = l → i ≤ ds.length → I i e → forW t s l e P := by
    intro l
    induction l with
    | nil =>
      intro i e hd hi hI
      have : i = ds.length := by
        have := congrArg List.length hd
        simp at this
        omega
      subst this
      exact he e hI
    | cons d l ih =>
      intro i e hd hi hI
      have hi' : i < ds.length := by
        have := congrArg List.length hd
        simp at this
        omega
      rw [List.drop_eq_getElem_cons hi'] at hd
      obtain ⟨h1, h2⟩ := List.cons_eq_cons.mp hd
      exact hs i d e (by rw [List.getElem?_eq_getElem hi', h1]) hI _ fun e2 hI2 => ih (i + 1) e2 h2 hi' hI2
  exact go ds 0 e rfl (Nat.zero_le _) h0

theorem while_up {mt : TX} {s : SX} {e : En} {P : Po} (B : Nat) (I : Nat → En → Prop) (h0 : I 0 e)
    (hs : ∀ j e, j ≤ B → I j e → ∀ R : En → Prop, (∀ e2, j < B → I (j + 1) e2 → R e2) → mt e fun b => if b = true then s e ⟨R, P.rt, P.nx, R, P.rn⟩ else P.nx e) : sWhile mt s e P :=
  ⟨fun n e => ∃ j, j ≤ B ∧ n = B - j ∧ I j e, ⟨B, 0, Nat.zero_le _, rfl, h0⟩, fun n e' ⟨j, hj, hn, hI⟩ => by
    subst hn
    exact hs j e' hj hI (fun e2 => ∃ n', n' < B - j ∧ ∃ j, j ≤ B ∧ n' = B - j ∧ I j e2) fun e2 hlt hI2 => ⟨B - (j + 1), by omega, j + 1, hlt, rfl, hI2⟩⟩
/-- range(0, b, c) -/
theorem rgC_pos {b c : Int} {n : Nat} (hb : b < 2 ^ 40) (hb0 : -(2 ^ 40) < b) (hc : 0 < c) (hc2 : c < 1073741824) (h : (n : Int) = if 0 < b then (b - 1) / c + 1 else 0) : RgC 0 b c n := by
  have e : Builtin.Range.rangeSize 0 b c = n := by
    unfold Builtin.Range.rangeSize
    rw [if_pos hc, h, Int.sub_zero]
  refine ⟨by omega, by omega, ?_, e⟩
  have hn : (n : Int) < 2 ^ 41 := by
    rw [h]
    split
    · have := Int.ediv_le_self c (show (0 : Int) ≤ b - 1 by omega)
      omega
    · omega
  unfold Builtin.Range.small
  rw [e]
  simp only [Builtin.Range.rangeFitsLong, Bool.and_eq_true, Bool.or_eq_true, decide_eq_true_eq, beq_iff_eq, if_pos hc]
  omega
theorem rgC_get {lo c : Int} {n i : Nat} {d : D} (h : (rgC lo c n)[i]? = some d) : d = .int (lo + i * c) ∧ i < n := by
  unfold rgC at h
  rw [List.getElem?_map] at h
  cases q : (List.range n)[i]? with
  | none => rw [q] at h; cases h
  | some j =>
    rw [q] at h
    cases h
    obtain ⟨h1, h2⟩ := List.getElem?_eq_some_iff.mp q
    rw [List.getElem_range] at h2
    subst h2
    rw [List.length_range] at h1
    exact ⟨rfl, h1⟩

/-- on ints -/
def onI (g : Int → D) : D → D
  | .int i => g i
  | _ => .none
theorem onI_i {g : Int → D} {i : Int} : onI g (.int i) = g i := rfl
theorem map_onI {g : Int → D} (ns : List Int) : (ns.map PyData.int).map (onI g) = ns.map g := by
  rw [List.map_map]
  rfl
/-- over a list of ints -/
theorem mapW_ints {f : D → (Option D → Prop) → Prop} (g : Int → D) {ns : List Int} {Q : List D → Prop} (h : ∀ n ∈ ns, ∀ R : Option D → Prop, R (some (g n)) → f (.int n) R) (q : Q (ns.map g)) : mapW f (ns.map PyData.int) Q :=
  mapW_map (onI g) (fun d hd R hR => by
    obtain ⟨n, hn, rfl⟩ := List.mem_map.mp hd
    exact h n hn R hR) (by rw [map_onI]; exact q)
/-! ### _law_draws -/
def SN_draws : WN := fun ds Q => ∃ (ns : List Int) (many : Int), ds = [.list (ns.map PyData.int), .int many] ∧ ns.length ≤ 63 ∧ 0 ≤ many ∧ many ≤ 100000 ∧ ∀ ls : List Int, (∀ n ∈ ls, 0 ≤ n) → Q (ls.map PyData.int)
def S_draws : WL := fun ds Q => ∃ (ns : List Int) (many : Int), ds = [.list (ns.map PyData.int), .int many] ∧ ns.length ≤ 63 ∧ 0 ≤ many ∧ many ≤ 100000 ∧ Q (.dict [])
theorem draws_pile : ∀ ds Q, S_draws ds Q → SN_draws ds fun es => (∃ ns : List Int, es = ns.map PyData.int ∧ ∀ n ∈ ns, 0 ≤ n) ∧ Q (.dict []) := fun ds Q ⟨ns, many, h1, h2, h3, h4, q⟩ => ⟨ns, many, h1, h2, h3, h4, fun ls hl => ⟨⟨ls, rfl, hl⟩, q⟩⟩
def m_drawsB : SX := (sSeq (sAsgP 6 (eOp wMod (eVar 5) (eCall wLen [(eVar 2)])))
      (sIf (tAndJ (tOf (eOp wGe (eOp wIx (eVar 2) (eVar 6)) (eOp wPow (eC (.int 10)) (eC (.int 18))))) (tOf (eOp wGt (eOp wIx (eVar 3) (eVar 6)) (eC (.int 0))))) (sSeq (sAppP 4 (eOp wMod (eCall wInt [(eOp wIx (eVar 3) (eVar 6))]) (eC (.int 1000))))
      (sSet 3 (eOp wDiv (eOp wIx (eVar 3) (eVar 6)) (eC (.int 1000))) (eVar 6))) (sSeq (sAsgP 8 (eOp wMod (eCall wInt [(eOp wAdd (eOp wAdd (eOp wMul (eOp wIx (eVar 2) (eVar 6)) (eC (.int 48271))) (eOp wMul (eVar 5) (eC (.int 69621)))) (eC (.int 11)))]) (eC (.int 2147483647))))
      (sApp 4 (eOp wMod (eCall wInt [(eOp wAdd (eOp wAdd (eOp wMul (eVar 8) (eVar 8)) (eOp wMul (eC (.int 3)) (eVar 8))) (eVar 5))]) (eC (.int 1000003)))))))
def m_drawsT : SX := (sSeq (sNewP 3 (nList (eVar 2)))
      (sSeq (sNew 4 (nLst []))
      (sSeq (sForR (iR1 (eVar 1)) (.one 5) m_drawsB)
      (sSeq (sRev 4)
      (sRetO 4)))))
def m_draws : SX := (sSeq (sNew 2 (nLc (iSeq (eVar 0)) (.one 7) [7] tTrue (eCall wInt [(eVar 7)])))
      (sSeq (sIf (tOf (eOp wEq (eCall wLen [(eVar 2)]) (eC (.int 0)))) (sApp 2 (eC (.int 0))) sSkip)
      m_drawsT))
theorem rgD_get {lo hi : Int} {i : Nat} {d : D} (h : (rgD lo hi)[i]? = some d) : d = .int (lo + i) ∧ lo + i < hi := by
  unfold rgD rgI at h
  rw [List.map_map, List.getElem?_map] at h
  cases q : (List.range (hi - lo).toNat)[i]? with
  | none => rw [q] at h; cases h
  | some j =>
    rw [q] at h
    cases h
    have := (List.getElem?_eq_some_iff.mp q)
    obtain ⟨h1, h2⟩ := this
    rw [List.getElem_range] at h2
    subst h2
    rw [List.length_range] at h1
    exact ⟨rfl, by omega⟩
theorem pl_ints (ns : List Int) : (ns.map PyData.int).all (pl lvl) = true := by
  rw [List.all_map]
  exact List.all_eq_true.mpr fun _ _ => rfl
theorem lv_ints (ns : List Int) : (ns.map PyData.int).all (lv lvl) = true := by
  rw [List.all_map]
  exact List.all_eq_true.mpr fun _ _ => rfl
theorem ixN_some {n : Nat} {k : Int} (h0 : 0 ≤ k) (h1 : k < n) : ixN n k = some k.toNat := by
  unfold ixN
  rw [if_pos h0, if_pos h1]
theorem wp_drawsT (ns cs : List Int) (many : Int) (QD : List D → Prop) (h0 : 0 ≤ many) (h1 : many ≤ 100000) (hc : 0 < cs.length) (hc63 : cs.length ≤ 63) (q : ∀ ls : List Int, (∀ n ∈ ls, 0 ≤ n) → QD (ls.map PyData.int)) :
    m_drawsT [.val (.list (ns.map PyData.int)), .val (.int many), .own (cs.map PyData.int), .no, .no, .no, .no, .no, .no] ⟨noB, fun _ => False, noB, noB, QD⟩ := by
  have hs : sizeLine = 16777216 := sizeLine_eq
  unfold m_drawsT
  simp only [sSeq, sSkip, sAsg, sAsgP, sNew, sNewP, sRet, sRetO, sIf, sApp, sAppP, sSet, sAug, sTgt, sTgtP, sPar, sFz, frz, sFor, sForR, sRev, sBrk, sCnt, sDrop, eOp, eUn, eCall, eVar, eC, eFr, eTup, eTupR, eAnd, eOr, eNot, eIf, eChain, eIndex, eSl, nLst, nList, nListR, nLc, nLc2, nCall, nSorted, nRep, tOf, tAndJ, tOrJ, tNotJ, tTrue, iSeq, iR1, iR2, iR3, rg1, rg2, evA, pNo, pSo, startE, hide, rd, hide_v, hide_o, hide_n, rd_v, rd_o, rd_n, bind_one, bind_many, setAll, List.map, List.replicate, List.length, List.cons_append, List.nil_append, List.getElem?_cons_zero, List.getElem?_cons_succ, List.set_cons_zero, List.set_cons_succ, Option.bind_some, ex_some, Option.some.injEq, Slot.own.injEq, Slot.val.injEq, exists_eq_left', true_and, and_true, Bool.false_eq_true, if_false, if_true, reduceIte, wEq, wNe, wAdd_i, wAdd_t, wAdd_l, wAdd_s, wSub_i, wMul_i, wDiv_i, wMod_i, wPow_i, wNeg_i, wLt_i, wLe_i, wGt_i, wGe_i, wIs_n, wIs_b, wIsNot_n, wIsNot_b, wIx_l, wIx_t, wLen_l, wLen_t, wAbs_i, wInt_i, wInt_b, wMax2_i, wMin2_i, wTuple_l, wTuple_t, wB_b, wI_i, seqOf_l, seqOf_t, wIAdd_i, wIAdd_t, wIMul_i, wSl_l, wSl_t, wIn_l, wIn_t, wNotIn_l, wNotIn_t, items_l, items_t, lv_i, lv_b, lv_n, eqv_ii, eqv_bb, isNon_n, isNon_i, isNon_b, isNon_s, isNon_t, isNon_l, Bool.not_true, Bool.not_false, b2n_t, b2n_f, pl_i, pl_b, pl_n, decide_eq_true_eq, pl_ints]
  refine ⟨⟨by decide, by decide, by omega, by omega, by omega⟩, ?_⟩
  refine forW_inv (fun i e => i ≤ many ∧ ∃ (rs dr : List Int) (s5 s6 s8 : Slot), rs.length = cs.length ∧ (∀ n ∈ dr, 0 ≤ n) ∧ dr.length ≤ i ∧ e = [.val (.list (ns.map PyData.int)), .val (.int many), .own (cs.map PyData.int), .own (rs.map PyData.int), .own (dr.map PyData.int), s5, s6, .no, s8])
    ⟨by omega, cs, [], _, _, _, rfl, by simp, by simp, rfl⟩ ?_ ?_
  · rintro i d e hi ⟨him, rs, dr, s5, s6, s8, hrl, hdr, hdl, rfl⟩ R hR
    obtain ⟨rfl, hlt⟩ := rgD_get hi
    refine ⟨_, rfl, ?_⟩
    unfold m_drawsB
    have hcp : (0 : Int) < cs.length := by omega
    have a0 := Int.emod_nonneg (0 + (i : Int)) (show ((cs.length : Nat) : Int) ≠ 0 by omega)
    have a1 := Int.emod_lt_of_pos (0 + (i : Int)) hcp
    obtain ⟨z, _, hz⟩ := atI_ints (ns := cs) a0 a1
    obtain ⟨y, _, hy⟩ := atI_ints (ns := rs) a0 (by rw [hrl]; exact a1)
    have hsz : dr.length < sizeLine := by rw [hs]; omega
    have tl : ∀ v : Int, 0 ≤ v → ∀ n ∈ dr ++ [v], 0 ≤ n := fun v hv n hn => by
      rcases List.mem_append.mp hn with h | h
      · exact hdr n h
      · rw [List.mem_singleton.mp h]; exact hv
    have om : ∀ v : Int, dr.map PyData.int ++ [PyData.int v] = (dr ++ [v]).map PyData.int := fun v => by rw [List.map_append]; rfl
    have ln : ∀ v : Int, (dr ++ [v]).length ≤ i + 1 := fun v => by rw [List.length_append]; simp; omega
    simp only [sSeq, sSkip, sAsg, sAsgP, sNew, sNewP, sRet, sRetO, sIf, sApp, sAppP, sSet, sAug, sTgt, sTgtP, sPar, sFz, frz, sFor, sForR, sRev, sBrk, sCnt, sDrop, eOp, eUn, eCall, eVar, eC, eFr, eTup, eTupR, eAnd, eOr, eNot, eIf, eChain, eIndex, eSl, nLst, nList, nListR, nLc, nLc2, nCall, nSorted, nRep, tOf, tAndJ, tOrJ, tNotJ, tTrue, iSeq, iR1, iR2, iR3, rg1, rg2, evA, pNo, pSo, startE, hide, rd, hide_v, hide_o, hide_n, rd_v, rd_o, rd_n, bind_one, bind_many, setAll, List.map, List.replicate, List.length, List.cons_append, List.nil_append, List.getElem?_cons_zero, List.getElem?_cons_succ, List.set_cons_zero, List.set_cons_succ, Option.bind_some, ex_some, Option.some.injEq, Slot.own.injEq, Slot.val.injEq, exists_eq_left', true_and, and_true, Bool.false_eq_true, if_false, if_true, reduceIte, wEq, wNe, wAdd_i, wAdd_t, wAdd_l, wAdd_s, wSub_i, wMul_i, wDiv_i, wMod_i, wPow_i, wNeg_i, wLt_i, wLe_i, wGt_i, wGe_i, wIs_n, wIs_b, wIsNot_n, wIsNot_b, wIx_l, wIx_t, wLen_l, wLen_t, wAbs_i, wInt_i, wInt_b, wMax2_i, wMin2_i, wTuple_l, wTuple_t, wB_b, wI_i, seqOf_l, seqOf_t, wIAdd_i, wIAdd_t, wIMul_i, wSl_l, wSl_t, wIn_l, wIn_t, wNotIn_l, wNotIn_t, items_l, items_t, lv_i, lv_b, lv_n, eqv_ii, eqv_bb, isNon_n, isNon_i, isNon_b, isNon_s, isNon_t, isNon_l, Bool.not_true, Bool.not_false, b2n_t, b2n_f, pl_i, pl_b, pl_n, decide_eq_true_eq, List.length_map, hz, hy, hsz, hrl, ixN_some a0 a1]
    have other : ∀ v w : Int, 0 ≤ v → R [.val (.list (ns.map PyData.int)), .val (.int many), .own (cs.map PyData.int), .own (rs.map PyData.int), .own (dr.map PyData.int ++ [PyData.int v]), .val (.int (0 + (i : Int))), .val (.int ((0 + (i : Int)) % (cs.length : Int))), .no, .val (.int w)] := fun v w hv =>
      hR _ ⟨by omega, rs, dr ++ [v], _, _, _, hrl, tl v hv, ln v, by rw [om]⟩
    refine ⟨hcp, ⟨by decide, by decide, by decide⟩, ?_⟩
    split
    · split
      · refine ⟨by decide, div_s (by decide), ?_⟩
        rw [om, show (rs.map PyData.int).set ((0 + (i : Int)) % (cs.length : Int)).toNat (.int (y / 1000)) = (rs.set ((0 + (i : Int)) % (cs.length : Int)).toNat (y / 1000)).map PyData.int by rw [List.map_set]]
        exact hR _ ⟨by omega, _, _, _, _, _, by rw [List.length_set]; exact hrl, tl _ (Int.emod_nonneg _ (by decide)), ln _, rfl⟩
      · refine ⟨mul_r (by decide), mul_r (by decide), by decide, .inl (.inl ?_), mul_l (by decide), by decide, ?_⟩
        · have b0 := Int.emod_nonneg (z * 48271 + (0 + (i : Int)) * 69621 + 11) (show (2147483647 : Int) ≠ 0 by decide)
          have b1 := Int.emod_lt_of_pos (z * 48271 + (0 + (i : Int)) * 69621 + 11) (show (0 : Int) < 2147483647 by decide)
          omega
        · exact other _ _ (Int.emod_nonneg _ (by decide))
    · refine ⟨mul_r (by decide), mul_r (by decide), by decide, .inl (.inl ?_), mul_l (by decide), by decide, ?_⟩
      · have b0 := Int.emod_nonneg (z * 48271 + (0 + (i : Int)) * 69621 + 11) (show (2147483647 : Int) ≠ 0 by decide)
        have b1 := Int.emod_lt_of_pos (z * 48271 + (0 + (i : Int)) * 69621 + 11) (show (0 : Int) < 2147483647 by decide)
        omega
      · exact other _ _ (Int.emod_nonneg _ (by decide))
  · rintro e ⟨_, rs, dr, s5, s6, s8, hrl, hdr, hdl, rfl⟩
    simp only [sSeq, sSkip, sAsg, sAsgP, sNew, sNewP, sRet, sRetO, sIf, sApp, sAppP, sSet, sAug, sTgt, sTgtP, sPar, sFz, frz, sFor, sForR, sRev, sBrk, sCnt, sDrop, eOp, eUn, eCall, eVar, eC, eFr, eTup, eTupR, eAnd, eOr, eNot, eIf, eChain, eIndex, eSl, nLst, nList, nListR, nLc, nLc2, nCall, nSorted, nRep, tOf, tAndJ, tOrJ, tNotJ, tTrue, iSeq, iR1, iR2, iR3, rg1, rg2, evA, pNo, pSo, startE, hide, rd, hide_v, hide_o, hide_n, rd_v, rd_o, rd_n, bind_one, bind_many, setAll, List.map, List.replicate, List.length, List.cons_append, List.nil_append, List.getElem?_cons_zero, List.getElem?_cons_succ, List.set_cons_zero, List.set_cons_succ, Option.bind_some, ex_some, Option.some.injEq, Slot.own.injEq, Slot.val.injEq, exists_eq_left', true_and, and_true, Bool.false_eq_true, if_false, if_true, reduceIte, wEq, wNe, wAdd_i, wAdd_t, wAdd_l, wAdd_s, wSub_i, wMul_i, wDiv_i, wMod_i, wPow_i, wNeg_i, wLt_i, wLe_i, wGt_i, wGe_i, wIs_n, wIs_b, wIsNot_n, wIsNot_b, wIx_l, wIx_t, wLen_l, wLen_t, wAbs_i, wInt_i, wInt_b, wMax2_i, wMin2_i, wTuple_l, wTuple_t, wB_b, wI_i, seqOf_l, seqOf_t, wIAdd_i, wIAdd_t, wIMul_i, wSl_l, wSl_t, wIn_l, wIn_t, wNotIn_l, wNotIn_t, items_l, items_t, lv_i, lv_b, lv_n, eqv_ii, eqv_bb, isNon_n, isNon_i, isNon_b, isNon_s, isNon_t, isNon_l, Bool.not_true, Bool.not_false, b2n_t, b2n_f, pl_i, pl_b, pl_n, decide_eq_true_eq]
    rw [← List.map_reverse]
    exact q _ fun n hn => hdr n (List.mem_reverse.mp hn)
theorem wp_draws (ds : List D) (QD : List D → Prop) (h : SN_draws ds QD) : m_draws (startE 9 ds) ⟨noB, fun _ => False, noB, noB, QD⟩ := by
  obtain ⟨ns, many, rfl, hl, h0, h1, q⟩ := h
  have hs : sizeLine = 16777216 := sizeLine_eq
  unfold m_draws
  simp only [sSeq, sSkip, sAsg, sAsgP, sNew, sNewP, sRet, sRetO, sIf, sApp, sAppP, sSet, sAug, sTgt, sTgtP, sPar, sFz, frz, sFor, sForR, sRev, sBrk, sCnt, sDrop, eOp, eUn, eCall, eVar, eC, eFr, eTup, eTupR, eAnd, eOr, eNot, eIf, eChain, eIndex, eSl, nLst, nList, nListR, nLc, nLc2, nCall, nSorted, nRep, tOf, tAndJ, tOrJ, tNotJ, tTrue, iSeq, iR1, iR2, iR3, rg1, rg2, evA, pNo, pSo, startE, hide, rd, hide_v, hide_o, hide_n, rd_v, rd_o, rd_n, bind_one, bind_many, setAll, List.map, List.replicate, List.length, List.cons_append, List.nil_append, List.getElem?_cons_zero, List.getElem?_cons_succ, List.set_cons_zero, List.set_cons_succ, Option.bind_some, ex_some, Option.some.injEq, Slot.own.injEq, Slot.val.injEq, exists_eq_left', true_and, and_true, Bool.false_eq_true, if_false, if_true, reduceIte, wEq, wNe, wAdd_i, wAdd_t, wAdd_l, wAdd_s, wSub_i, wMul_i, wDiv_i, wMod_i, wPow_i, wNeg_i, wLt_i, wLe_i, wGt_i, wGe_i, wIs_n, wIs_b, wIsNot_n, wIsNot_b, wIx_l, wIx_t, wLen_l, wLen_t, wAbs_i, wInt_i, wInt_b, wMax2_i, wMin2_i, wTuple_l, wTuple_t, wB_b, wI_i, seqOf_l, seqOf_t, wIAdd_i, wIAdd_t, wIMul_i, wSl_l, wSl_t, wIn_l, wIn_t, wNotIn_l, wNotIn_t, items_l, items_t, lv_i, lv_b, lv_n, eqv_ii, eqv_bb, isNon_n, isNon_i, isNon_b, isNon_s, isNon_t, isNon_l, Bool.not_true, Bool.not_false, b2n_t, b2n_f, pl_i, pl_b, pl_n, decide_eq_true_eq]
  refine mapW_map (fun d => d) (fun d hd R hR => ?_) ?_
  · obtain ⟨n, _, rfl⟩ := List.mem_map.mp hd
    refine ⟨_, rfl, ?_⟩
    simp only [sSeq, sSkip, sAsg, sAsgP, sNew, sNewP, sRet, sRetO, sIf, sApp, sAppP, sSet, sAug, sTgt, sTgtP, sPar, sFz, frz, sFor, sForR, sRev, sBrk, sCnt, sDrop, eOp, eUn, eCall, eVar, eC, eFr, eTup, eTupR, eAnd, eOr, eNot, eIf, eChain, eIndex, eSl, nLst, nList, nListR, nLc, nLc2, nCall, nSorted, nRep, tOf, tAndJ, tOrJ, tNotJ, tTrue, iSeq, iR1, iR2, iR3, rg1, rg2, evA, pNo, pSo, startE, hide, rd, hide_v, hide_o, hide_n, rd_v, rd_o, rd_n, bind_one, bind_many, setAll, List.map, List.replicate, List.length, List.cons_append, List.nil_append, List.getElem?_cons_zero, List.getElem?_cons_succ, List.set_cons_zero, List.set_cons_succ, Option.bind_some, ex_some, Option.some.injEq, Slot.own.injEq, Slot.val.injEq, exists_eq_left', true_and, and_true, Bool.false_eq_true, if_false, if_true, reduceIte, wEq, wNe, wAdd_i, wAdd_t, wAdd_l, wAdd_s, wSub_i, wMul_i, wDiv_i, wMod_i, wPow_i, wNeg_i, wLt_i, wLe_i, wGt_i, wGe_i, wIs_n, wIs_b, wIsNot_n, wIsNot_b, wIx_l, wIx_t, wLen_l, wLen_t, wAbs_i, wInt_i, wInt_b, wMax2_i, wMin2_i, wTuple_l, wTuple_t, wB_b, wI_i, seqOf_l, seqOf_t, wIAdd_i, wIAdd_t, wIMul_i, wSl_l, wSl_t, wIn_l, wIn_t, wNotIn_l, wNotIn_t, items_l, items_t, lv_i, lv_b, lv_n, eqv_ii, eqv_bb, isNon_n, isNon_i, isNon_b, isNon_s, isNon_t, isNon_l, Bool.not_true, Bool.not_false, b2n_t, b2n_f, pl_i, pl_b, pl_n, decide_eq_true_eq, wipeE]
    exact hR
  · rw [List.map_id']
    simp only [sSeq, sSkip, sAsg, sAsgP, sNew, sNewP, sRet, sRetO, sIf, sApp, sAppP, sSet, sAug, sTgt, sTgtP, sPar, sFz, frz, sFor, sForR, sRev, sBrk, sCnt, sDrop, eOp, eUn, eCall, eVar, eC, eFr, eTup, eTupR, eAnd, eOr, eNot, eIf, eChain, eIndex, eSl, nLst, nList, nListR, nLc, nLc2, nCall, nSorted, nRep, tOf, tAndJ, tOrJ, tNotJ, tTrue, iSeq, iR1, iR2, iR3, rg1, rg2, evA, pNo, pSo, startE, hide, rd, hide_v, hide_o, hide_n, rd_v, rd_o, rd_n, bind_one, bind_many, setAll, List.map, List.replicate, List.length, List.cons_append, List.nil_append, List.getElem?_cons_zero, List.getElem?_cons_succ, List.set_cons_zero, List.set_cons_succ, Option.bind_some, ex_some, Option.some.injEq, Slot.own.injEq, Slot.val.injEq, exists_eq_left', true_and, and_true, Bool.false_eq_true, if_false, if_true, reduceIte, wEq, wNe, wAdd_i, wAdd_t, wAdd_l, wAdd_s, wSub_i, wMul_i, wDiv_i, wMod_i, wPow_i, wNeg_i, wLt_i, wLe_i, wGt_i, wGe_i, wIs_n, wIs_b, wIsNot_n, wIsNot_b, wIx_l, wIx_t, wLen_l, wLen_t, wAbs_i, wInt_i, wInt_b, wMax2_i, wMin2_i, wTuple_l, wTuple_t, wB_b, wI_i, seqOf_l, seqOf_t, wIAdd_i, wIAdd_t, wIMul_i, wSl_l, wSl_t, wIn_l, wIn_t, wNotIn_l, wNotIn_t, items_l, items_t, lv_i, lv_b, lv_n, eqv_ii, eqv_bb, isNon_n, isNon_i, isNon_b, isNon_s, isNon_t, isNon_l, Bool.not_true, Bool.not_false, b2n_t, b2n_f, pl_i, pl_b, pl_n, decide_eq_true_eq, List.length_map]
    split
    · refine ⟨by omega, ?_⟩
      have e : ns = [] := List.eq_nil_of_length_eq_zero (by omega)
      subst e
      exact wp_drawsT [] [0] many QD h0 h1 (by simp) (by simp) q
    · exact wp_drawsT ns ns many QD h0 h1 (by omega) hl q

/-! ### _law_same -/
/-- data of tuples, numbers, truths, texts, None; n deep -/
def tp : Nat → D → Bool
  | _, .none => true
  | _, .bool _ => true
  | _, .int _ => true
  | _, .str x => PyData.strOk x
  | n + 1, .tuple ds => ds.length ≤ 16000000 && ds.all (tp n)
  | _, _ => false
def S_same (n : Nat) : WL := fun ds Q => ∃ d, ds = [d, d] ∧ tp n d = true ∧ Q (.bool true)
def m_sameB (S : WL) : SX := (sIf (tNotJ (tOf (eCall S [(eOp wIx (eVar 0) (eVar 2)), (eOp wIx (eVar 1) (eVar 2))]))) (sRet (eC (.bool false))) sSkip)
def m_same (S : WL) : SX := (sSeq (sIf (tOf (eUn (wIsi "bool") (eVar 1))) (sRet (eAnd (eUn (wIsi "bool") (eVar 0)) (eOp wEq (eVar 0) (eVar 1)))) sSkip)
      (sSeq (sIf (tOf (eUn (wIsi "int") (eVar 1))) (sRet (eAnd (eUn (wIsi "int") (eVar 0)) (eAnd (eNot (eUn (wIsi "bool") (eVar 0))) (eOp wEq (eVar 0) (eVar 1))))) sSkip)
      (sSeq (sIf (tOf (eUn (wIsi "str") (eVar 1))) (sRet (eAnd (eUn (wIsi "str") (eVar 0)) (eOp wEq (eVar 0) (eVar 1)))) sSkip)
      (sSeq (sIf (tOf (eOp wIs (eVar 1) (eC .none))) (sRet (eOp wIs (eVar 0) (eC .none))) sSkip)
      (sSeq (sIf (tOrJ (tNotJ (tOf (eUn (wIsi "tuple") (eVar 0)))) (tOf (eOp wNe (eCall wLen [(eVar 0)]) (eCall wLen [(eVar 1)])))) (sRet (eC (.bool false))) sSkip)
      (sSeq (sForR (iR1 (eCall wLen [(eVar 1)])) (.one 2) (m_sameB S))
      (sRet (eC (.bool true)))))))))
theorem eqv_ss {x y : Str} : PyData.eqv (.str x) (.str y) = (x == y) := by rw [PyData.eqv]
theorem lv_s {n : Nat} {x : Str} : lv n (.str x) = PyData.strOk x := by cases n <;> rfl
theorem wp_same (n : Nat) (S : WL) (hS : ∀ m, n = m + 1 → ∀ ds Q, S_same m ds Q → S ds Q) (ds : List D) (QD : D → Prop) (h : S_same n ds QD) : (m_same S) (startE 3 ds) ⟨fun _ => QD .none, QD, noB, noB, fun es => QD (.list es)⟩ := by
  obtain ⟨d, rfl, ht, q⟩ := h
  unfold m_same
  cases d with
  | none =>
    simp only [sSeq, sSkip, sAsg, sAsgP, sNew, sNewP, sRet, sRetO, sIf, sApp, sAppP, sSet, sAug, sTgt, sTgtP, sPar, sFz, frz, sFor, sForR, sRev, sBrk, sCnt, sDrop, eOp, eUn, eCall, eVar, eC, eFr, eTup, eTupR, eAnd, eOr, eNot, eIf, eChain, eIndex, eSl, nLst, nList, nListR, nLc, nLc2, nCall, nSorted, nRep, tOf, tAndJ, tOrJ, tNotJ, tTrue, iSeq, iR1, iR2, iR3, rg1, rg2, evA, pNo, pSo, startE, hide, rd, hide_v, hide_o, hide_n, rd_v, rd_o, rd_n, bind_one, bind_many, setAll, List.map, List.replicate, List.length, List.cons_append, List.nil_append, List.getElem?_cons_zero, List.getElem?_cons_succ, List.set_cons_zero, List.set_cons_succ, Option.bind_some, ex_some, Option.some.injEq, Slot.own.injEq, Slot.val.injEq, exists_eq_left', true_and, and_true, Bool.false_eq_true, if_false, if_true, reduceIte, wEq, wNe, wAdd_i, wAdd_t, wAdd_l, wAdd_s, wSub_i, wMul_i, wDiv_i, wMod_i, wPow_i, wNeg_i, wLt_i, wLe_i, wGt_i, wGe_i, wIs_n, wIs_b, wIsNot_n, wIsNot_b, wIx_l, wIx_t, wLen_l, wLen_t, wAbs_i, wInt_i, wInt_b, wMax2_i, wMin2_i, wTuple_l, wTuple_t, wB_b, wI_i, seqOf_l, seqOf_t, wIAdd_i, wIAdd_t, wIMul_i, wSl_l, wSl_t, wIn_l, wIn_t, wNotIn_l, wNotIn_t, items_l, items_t, lv_i, lv_b, lv_n, eqv_ii, eqv_bb, isNon_n, isNon_i, isNon_b, isNon_s, isNon_t, isNon_l, Bool.not_true, Bool.not_false, b2n_t, b2n_f, pl_i, pl_b, pl_n, decide_eq_true_eq, wIsi, isTy]
    exact q
  | bool b =>
    simp only [sSeq, sSkip, sAsg, sAsgP, sNew, sNewP, sRet, sRetO, sIf, sApp, sAppP, sSet, sAug, sTgt, sTgtP, sPar, sFz, frz, sFor, sForR, sRev, sBrk, sCnt, sDrop, eOp, eUn, eCall, eVar, eC, eFr, eTup, eTupR, eAnd, eOr, eNot, eIf, eChain, eIndex, eSl, nLst, nList, nListR, nLc, nLc2, nCall, nSorted, nRep, tOf, tAndJ, tOrJ, tNotJ, tTrue, iSeq, iR1, iR2, iR3, rg1, rg2, evA, pNo, pSo, startE, hide, rd, hide_v, hide_o, hide_n, rd_v, rd_o, rd_n, bind_one, bind_many, setAll, List.map, List.replicate, List.length, List.cons_append, List.nil_append, List.getElem?_cons_zero, List.getElem?_cons_succ, List.set_cons_zero, List.set_cons_succ, Option.bind_some, ex_some, Option.some.injEq, Slot.own.injEq, Slot.val.injEq, exists_eq_left', true_and, and_true, Bool.false_eq_true, if_false, if_true, reduceIte, wEq, wNe, wAdd_i, wAdd_t, wAdd_l, wAdd_s, wSub_i, wMul_i, wDiv_i, wMod_i, wPow_i, wNeg_i, wLt_i, wLe_i, wGt_i, wGe_i, wIs_n, wIs_b, wIsNot_n, wIsNot_b, wIx_l, wIx_t, wLen_l, wLen_t, wAbs_i, wInt_i, wInt_b, wMax2_i, wMin2_i, wTuple_l, wTuple_t, wB_b, wI_i, seqOf_l, seqOf_t, wIAdd_i, wIAdd_t, wIMul_i, wSl_l, wSl_t, wIn_l, wIn_t, wNotIn_l, wNotIn_t, items_l, items_t, lv_i, lv_b, lv_n, eqv_ii, eqv_bb, isNon_n, isNon_i, isNon_b, isNon_s, isNon_t, isNon_l, Bool.not_true, Bool.not_false, b2n_t, b2n_f, pl_i, pl_b, pl_n, decide_eq_true_eq, wIsi, isTy, decide_true, beq_self_eq_true, Bool.true_or]
    exact q
  | int i =>
    simp only [sSeq, sSkip, sAsg, sAsgP, sNew, sNewP, sRet, sRetO, sIf, sApp, sAppP, sSet, sAug, sTgt, sTgtP, sPar, sFz, frz, sFor, sForR, sRev, sBrk, sCnt, sDrop, eOp, eUn, eCall, eVar, eC, eFr, eTup, eTupR, eAnd, eOr, eNot, eIf, eChain, eIndex, eSl, nLst, nList, nListR, nLc, nLc2, nCall, nSorted, nRep, tOf, tAndJ, tOrJ, tNotJ, tTrue, iSeq, iR1, iR2, iR3, rg1, rg2, evA, pNo, pSo, startE, hide, rd, hide_v, hide_o, hide_n, rd_v, rd_o, rd_n, bind_one, bind_many, setAll, List.map, List.replicate, List.length, List.cons_append, List.nil_append, List.getElem?_cons_zero, List.getElem?_cons_succ, List.set_cons_zero, List.set_cons_succ, Option.bind_some, ex_some, Option.some.injEq, Slot.own.injEq, Slot.val.injEq, exists_eq_left', true_and, and_true, Bool.false_eq_true, if_false, if_true, reduceIte, wEq, wNe, wAdd_i, wAdd_t, wAdd_l, wAdd_s, wSub_i, wMul_i, wDiv_i, wMod_i, wPow_i, wNeg_i, wLt_i, wLe_i, wGt_i, wGe_i, wIs_n, wIs_b, wIsNot_n, wIsNot_b, wIx_l, wIx_t, wLen_l, wLen_t, wAbs_i, wInt_i, wInt_b, wMax2_i, wMin2_i, wTuple_l, wTuple_t, wB_b, wI_i, seqOf_l, seqOf_t, wIAdd_i, wIAdd_t, wIMul_i, wSl_l, wSl_t, wIn_l, wIn_t, wNotIn_l, wNotIn_t, items_l, items_t, lv_i, lv_b, lv_n, eqv_ii, eqv_bb, isNon_n, isNon_i, isNon_b, isNon_s, isNon_t, isNon_l, Bool.not_true, Bool.not_false, b2n_t, b2n_f, pl_i, pl_b, pl_n, decide_eq_true_eq, wIsi, isTy, decide_true, beq_self_eq_true, Bool.not_false]
    exact q
  | str x =>
    have hx : PyData.strOk x = true := by cases n <;> exact ht
    simp only [sSeq, sSkip, sAsg, sAsgP, sNew, sNewP, sRet, sRetO, sIf, sApp, sAppP, sSet, sAug, sTgt, sTgtP, sPar, sFz, frz, sFor, sForR, sRev, sBrk, sCnt, sDrop, eOp, eUn, eCall, eVar, eC, eFr, eTup, eTupR, eAnd, eOr, eNot, eIf, eChain, eIndex, eSl, nLst, nList, nListR, nLc, nLc2, nCall, nSorted, nRep, tOf, tAndJ, tOrJ, tNotJ, tTrue, iSeq, iR1, iR2, iR3, rg1, rg2, evA, pNo, pSo, startE, hide, rd, hide_v, hide_o, hide_n, rd_v, rd_o, rd_n, bind_one, bind_many, setAll, List.map, List.replicate, List.length, List.cons_append, List.nil_append, List.getElem?_cons_zero, List.getElem?_cons_succ, List.set_cons_zero, List.set_cons_succ, Option.bind_some, ex_some, Option.some.injEq, Slot.own.injEq, Slot.val.injEq, exists_eq_left', true_and, and_true, Bool.false_eq_true, if_false, if_true, reduceIte, wEq, wNe, wAdd_i, wAdd_t, wAdd_l, wAdd_s, wSub_i, wMul_i, wDiv_i, wMod_i, wPow_i, wNeg_i, wLt_i, wLe_i, wGt_i, wGe_i, wIs_n, wIs_b, wIsNot_n, wIsNot_b, wIx_l, wIx_t, wLen_l, wLen_t, wAbs_i, wInt_i, wInt_b, wMax2_i, wMin2_i, wTuple_l, wTuple_t, wB_b, wI_i, seqOf_l, seqOf_t, wIAdd_i, wIAdd_t, wIMul_i, wSl_l, wSl_t, wIn_l, wIn_t, wNotIn_l, wNotIn_t, items_l, items_t, lv_i, lv_b, lv_n, eqv_ii, eqv_bb, isNon_n, isNon_i, isNon_b, isNon_s, isNon_t, isNon_l, Bool.not_true, Bool.not_false, b2n_t, b2n_f, pl_i, pl_b, pl_n, decide_eq_true_eq, wIsi, isTy, beq_self_eq_true, eqv_ss, lv_s, hx]
    exact q
  | tuple ds =>
    cases n with
    | zero => cases ht
    | succ m =>
      have ht' : (decide (ds.length ≤ 16000000) && ds.all (tp m)) = true := ht
      rw [Bool.and_eq_true] at ht'
      have hl := of_decide_eq_true ht'.1
      have hall := List.all_eq_true.mp ht'.2
      have k1 : (("tuple" : String) == "tuple") = true := by decide
      simp only [sSeq, sSkip, sAsg, sAsgP, sNew, sNewP, sRet, sRetO, sIf, sApp, sAppP, sSet, sAug, sTgt, sTgtP, sPar, sFz, frz, sFor, sForR, sRev, sBrk, sCnt, sDrop, eOp, eUn, eCall, eVar, eC, eFr, eTup, eTupR, eAnd, eOr, eNot, eIf, eChain, eIndex, eSl, nLst, nList, nListR, nLc, nLc2, nCall, nSorted, nRep, tOf, tAndJ, tOrJ, tNotJ, tTrue, iSeq, iR1, iR2, iR3, rg1, rg2, evA, pNo, pSo, startE, hide, rd, hide_v, hide_o, hide_n, rd_v, rd_o, rd_n, bind_one, bind_many, setAll, List.map, List.replicate, List.length, List.cons_append, List.nil_append, List.getElem?_cons_zero, List.getElem?_cons_succ, List.set_cons_zero, List.set_cons_succ, Option.bind_some, ex_some, Option.some.injEq, Slot.own.injEq, Slot.val.injEq, exists_eq_left', true_and, and_true, Bool.false_eq_true, if_false, if_true, reduceIte, wEq, wNe, wAdd_i, wAdd_t, wAdd_l, wAdd_s, wSub_i, wMul_i, wDiv_i, wMod_i, wPow_i, wNeg_i, wLt_i, wLe_i, wGt_i, wGe_i, wIs_n, wIs_b, wIsNot_n, wIsNot_b, wIx_l, wIx_t, wLen_l, wLen_t, wAbs_i, wInt_i, wInt_b, wMax2_i, wMin2_i, wTuple_l, wTuple_t, wB_b, wI_i, seqOf_l, seqOf_t, wIAdd_i, wIAdd_t, wIMul_i, wSl_l, wSl_t, wIn_l, wIn_t, wNotIn_l, wNotIn_t, items_l, items_t, lv_i, lv_b, lv_n, eqv_ii, eqv_bb, isNon_n, isNon_i, isNon_b, isNon_s, isNon_t, isNon_l, Bool.not_true, Bool.not_false, b2n_t, b2n_f, pl_i, pl_b, pl_n, decide_eq_true_eq, wIsi, isTy, k1, decide_true, Bool.not_true]
      have hs : sizeLine = 16777216 := sizeLine_eq
      refine ⟨⟨by decide, by decide, by omega, by omega, by omega⟩, ?_⟩
      refine forW_inv (fun i e => ∃ s2, e = [.val (.tuple ds), .val (.tuple ds), s2]) ⟨_, rfl⟩ ?_ ?_
      · rintro i d e hi ⟨s2, rfl⟩ R hR
        obtain ⟨rfl, hlt⟩ := rgD_get hi
        refine ⟨_, rfl, ?_⟩
        unfold m_sameB
        obtain ⟨d, hd, hd2⟩ := atI_some (zs := ds) (k := 0 + (i : Int)) (by omega) (by omega)
        simp only [sSeq, sSkip, sAsg, sAsgP, sNew, sNewP, sRet, sRetO, sIf, sApp, sAppP, sSet, sAug, sTgt, sTgtP, sPar, sFz, frz, sFor, sForR, sRev, sBrk, sCnt, sDrop, eOp, eUn, eCall, eVar, eC, eFr, eTup, eTupR, eAnd, eOr, eNot, eIf, eChain, eIndex, eSl, nLst, nList, nListR, nLc, nLc2, nCall, nSorted, nRep, tOf, tAndJ, tOrJ, tNotJ, tTrue, iSeq, iR1, iR2, iR3, rg1, rg2, evA, pNo, pSo, startE, hide, rd, hide_v, hide_o, hide_n, rd_v, rd_o, rd_n, bind_one, bind_many, setAll, List.map, List.replicate, List.length, List.cons_append, List.nil_append, List.getElem?_cons_zero, List.getElem?_cons_succ, List.set_cons_zero, List.set_cons_succ, Option.bind_some, ex_some, Option.some.injEq, Slot.own.injEq, Slot.val.injEq, exists_eq_left', true_and, and_true, Bool.false_eq_true, if_false, if_true, reduceIte, wEq, wNe, wAdd_i, wAdd_t, wAdd_l, wAdd_s, wSub_i, wMul_i, wDiv_i, wMod_i, wPow_i, wNeg_i, wLt_i, wLe_i, wGt_i, wGe_i, wIs_n, wIs_b, wIsNot_n, wIsNot_b, wIx_l, wIx_t, wLen_l, wLen_t, wAbs_i, wInt_i, wInt_b, wMax2_i, wMin2_i, wTuple_l, wTuple_t, wB_b, wI_i, seqOf_l, seqOf_t, wIAdd_i, wIAdd_t, wIMul_i, wSl_l, wSl_t, wIn_l, wIn_t, wNotIn_l, wNotIn_t, items_l, items_t, lv_i, lv_b, lv_n, eqv_ii, eqv_bb, isNon_n, isNon_i, isNon_b, isNon_s, isNon_t, isNon_l, Bool.not_true, Bool.not_false, b2n_t, b2n_f, pl_i, pl_b, pl_n, decide_eq_true_eq, hd2]
        refine hS m rfl _ _ ⟨d, rfl, hall d (List.mem_of_getElem? hd), ?_⟩
        simp only [sSeq, sSkip, sAsg, sAsgP, sNew, sNewP, sRet, sRetO, sIf, sApp, sAppP, sSet, sAug, sTgt, sTgtP, sPar, sFz, frz, sFor, sForR, sRev, sBrk, sCnt, sDrop, eOp, eUn, eCall, eVar, eC, eFr, eTup, eTupR, eAnd, eOr, eNot, eIf, eChain, eIndex, eSl, nLst, nList, nListR, nLc, nLc2, nCall, nSorted, nRep, tOf, tAndJ, tOrJ, tNotJ, tTrue, iSeq, iR1, iR2, iR3, rg1, rg2, evA, pNo, pSo, startE, hide, rd, hide_v, hide_o, hide_n, rd_v, rd_o, rd_n, bind_one, bind_many, setAll, List.map, List.replicate, List.length, List.cons_append, List.nil_append, List.getElem?_cons_zero, List.getElem?_cons_succ, List.set_cons_zero, List.set_cons_succ, Option.bind_some, ex_some, Option.some.injEq, Slot.own.injEq, Slot.val.injEq, exists_eq_left', true_and, and_true, Bool.false_eq_true, if_false, if_true, reduceIte, wEq, wNe, wAdd_i, wAdd_t, wAdd_l, wAdd_s, wSub_i, wMul_i, wDiv_i, wMod_i, wPow_i, wNeg_i, wLt_i, wLe_i, wGt_i, wGe_i, wIs_n, wIs_b, wIsNot_n, wIsNot_b, wIx_l, wIx_t, wLen_l, wLen_t, wAbs_i, wInt_i, wInt_b, wMax2_i, wMin2_i, wTuple_l, wTuple_t, wB_b, wI_i, seqOf_l, seqOf_t, wIAdd_i, wIAdd_t, wIMul_i, wSl_l, wSl_t, wIn_l, wIn_t, wNotIn_l, wNotIn_t, items_l, items_t, lv_i, lv_b, lv_n, eqv_ii, eqv_bb, isNon_n, isNon_i, isNon_b, isNon_s, isNon_t, isNon_l, Bool.not_true, Bool.not_false, b2n_t, b2n_f, pl_i, pl_b, pl_n, decide_eq_true_eq, Bool.not_true]
        exact hR _ ⟨_, rfl⟩
      · rintro e ⟨s2, rfl⟩
        simp only [sSeq, sSkip, sAsg, sAsgP, sNew, sNewP, sRet, sRetO, sIf, sApp, sAppP, sSet, sAug, sTgt, sTgtP, sPar, sFz, frz, sFor, sForR, sRev, sBrk, sCnt, sDrop, eOp, eUn, eCall, eVar, eC, eFr, eTup, eTupR, eAnd, eOr, eNot, eIf, eChain, eIndex, eSl, nLst, nList, nListR, nLc, nLc2, nCall, nSorted, nRep, tOf, tAndJ, tOrJ, tNotJ, tTrue, iSeq, iR1, iR2, iR3, rg1, rg2, evA, pNo, pSo, startE, hide, rd, hide_v, hide_o, hide_n, rd_v, rd_o, rd_n, bind_one, bind_many, setAll, List.map, List.replicate, List.length, List.cons_append, List.nil_append, List.getElem?_cons_zero, List.getElem?_cons_succ, List.set_cons_zero, List.set_cons_succ, Option.bind_some, ex_some, Option.some.injEq, Slot.own.injEq, Slot.val.injEq, exists_eq_left', true_and, and_true, Bool.false_eq_true, if_false, if_true, reduceIte, wEq, wNe, wAdd_i, wAdd_t, wAdd_l, wAdd_s, wSub_i, wMul_i, wDiv_i, wMod_i, wPow_i, wNeg_i, wLt_i, wLe_i, wGt_i, wGe_i, wIs_n, wIs_b, wIsNot_n, wIsNot_b, wIx_l, wIx_t, wLen_l, wLen_t, wAbs_i, wInt_i, wInt_b, wMax2_i, wMin2_i, wTuple_l, wTuple_t, wB_b, wI_i, seqOf_l, seqOf_t, wIAdd_i, wIAdd_t, wIMul_i, wSl_l, wSl_t, wIn_l, wIn_t, wNotIn_l, wNotIn_t, items_l, items_t, lv_i, lv_b, lv_n, eqv_ii, eqv_bb, isNon_n, isNon_i, isNon_b, isNon_s, isNon_t, isNon_l, Bool.not_true, Bool.not_false, b2n_t, b2n_f, pl_i, pl_b, pl_n, decide_eq_true_eq]
        exact q
  | list ds => cases n <;> cases ht
  | dict ds => cases n <;> cases ht

/-! ### _law_take -/
def tTake (K : PySem.W.Frag) : TS := fun E σ H => ∃ a ns n, σ = [some (.ref a), some (.int n)] ∧ H a = some (.lst (ns.map V.int)) ∧ (∀ m ∈ ns, 0 ≤ m) ∧ 0 < n ∧ (ns = [] → E.rt (.int 0) H) ∧ ∀ i : Int, 0 ≤ i → ns ≠ [] → E.rt (.int (i % n)) (upd H a (.lst (ns.dropLast.map V.int)))
theorem Fw.pile {Hv H : Hp} {a : Addr} {ns : List Int} (vw : Vw Hv H) (hm : Hv a = some mark) (hn : ∀ m ∈ ns, 0 ≤ m) : Fw Hv H Hv (upd H a (.lst (ns.map V.int))) where
  ext := Same.refl _
  vw := fun b u e => by
    by_cases q : b = a
    · subst q
      rw [hm] at e
      cases e
      exact .inl ⟨rfl, ns, upd_same, hn⟩
    · rcases vw b u e with ⟨z, ms, y, w⟩ | ⟨z, y⟩
      · exact .inl ⟨z, ms, by rw [upd_ne q]; exact y, w⟩
      · exact .inr ⟨z, by rw [upd_ne q]; exact y⟩
  keep := fun b u e h => by
    have q : b ≠ a := fun z => by rw [z, hm] at e; cases e
    rw [upd_ne q]
    exact h
  fresh := fun b e q => absurd e q
theorem take_j {P : Program} {w : World} {K : PySem.W.Frag} {mg : Str → Option Value} {base : Heap} {x qual : Str} {st : Stmt} {f : Addr} {fd : FuncData} {k : Nat} (F : Fun K x qual st f fd) (sc : FnScope ["draws", "many"] ["draws", "many"] (defScope st))
    (hb : ∀ (cdv : Value) (A : Around) (outer : List Env) (s : Shared) (H : Hp) (E : XK), Room k (A.deeper (envOfC qual (defScope st) s.heap.objs.size f cdv)) → PSs (cxOf CX0 P w K mg base ["draws", "many"] qual (defScope st) f cdv A outer s H E).nox (defBody st) (tTake K)) : JFn P w K mg base (k + 1) f fd ["draws", "many"] S_take := by
  refine F.ok sc (fun vs H Q E ⟨Hv, ds, QD, vw, r, l, _⟩ => by rw [r.length]; exact l) fun cdv A outer s H vs Q E hr ⟨Hv, ds, QD, vw, r, l, h, kk⟩ => ⟨_, hb cdv A outer s H E hr, ?_⟩
  obtain ⟨n, rfl, hn, q⟩ := h
  obtain ⟨v, v', rfl, r1, r2⟩ := rp2 r
  cases r1 with
  | @hnd a hm =>
    cases r2
    rcases vw a _ hm with ⟨_, ns, ha, hns⟩ | ⟨z, _⟩
    · refine ⟨a, ns, n, rfl, ha, hns, hn, fun _ => kk _ _ Hv H (.refl vw) (.int _) (q 0 (by decide) hn), fun i hi _ => ?_⟩
      exact kk _ _ _ _ (Fw.pile vw hm fun m hm => hns m (List.dropLast_subset _ hm)) (.int _) (q _ (Int.emod_nonneg _ (by omega)) (Int.emod_lt_of_pos _ hn))
    · exact absurd rfl z
theorem no_j {P : Program} {w : World} {K : PySem.W.Frag} {mg : Str → Option Value} {base : Heap} {k : Nat} {f : Addr} {fd : FuncData} {ps : List Str} : JFn P w K mg base k f fd ps (fun _ _ => False) :=
  ⟨fun _ _ _ _ ⟨_, _, _, _, _, _, h, _⟩ => h.elim, fun _ _ _ _ _ _ _ _ _ _ _ _ _ ⟨_, _, _, _, _, _, h, _⟩ => h.elim⟩
theorem s_rev {X : Cx} (i : Nat) {y : Str} {py ap cp pos : Pos} (hN : X.N[i]? = some y := by rfl) (hv : Vis X.env.scope y := by first | exact Or.inl rfl | exact Or.inr (Or.inl rfl) | exact Or.inr (Or.inr rfl)) (hd : (y == ("__debug__" : Str)) = false := by decide)
    (hcd : (y == ("__classdict__" : Str)) = false := by decide) (hbase : attributeBase (.Name y py) "reverse" X.env (eval (.Name y py) X.env) = eval (.Name y py) X.env := by rfl) (hline : (ap.endLine == cp.line) = true := by rfl)
    (hs2 : swapsWith (.Call (.Attribute (.Name y py) "reverse" ap) [] [] cp) none pos.line X.env = pure false := by rfl) :
    DS X (.Expr (.Call (.Attribute (.Name y py) "reverse" ap) [] [] cp) pos) (sRev i) := rev_ok (ps_expr (pe_bm0 PySem.F.plainAttrs_list PySem.F.slot_list_reverse PySem.F.type_list_reverse mt_reverse (pe_var hN hv hd hcd) hbase hline) hs2)
end J

namespace Lk75
open PySem PySem.Spec PyProof.Rows L2 J
abbrev S__law_take : WL := S_take
abbrev S__law_draws : WL := S_draws
abbrev S__law_cell : WL := S_cell1
abbrev S__law_same : WL := S_same 8
/-! ## the mathematics -/
def tab : Nat → List Int
  | 0 => [0]
  | j + 1 => (tab j).flatMap fun s => [s, 2 * 2 ^ j - 1 - s]
def rnd (n : Int) : Nat := if n ≤ 1 then 0 else if n ≤ 2 then 1 else if n ≤ 4 then 2 else if n ≤ 8 then 3 else if n ≤ 16 then 4 else if n ≤ 32 then 5 else 6
theorem rnd_le (n : Int) : rnd n ≤ 6 := by unfold rnd; (repeat' split) <;> omega
theorem tab_len : ∀ j, (tab j).length = 2 ^ j
  | 0 => rfl
  | j + 1 => by
    show ((tab j).flatMap _).length = _
    rw [List.length_flatMap]
    have e : ∀ l : List Int, (l.map fun s : Int => ([s, 2 * 2 ^ j - 1 - s] : List Int).length).sum = 2 * l.length := by
      intro l
      induction l with
      | nil => rfl
      | cons a l ih => simp only [List.map_cons, List.sum_cons, List.length_cons, List.length_nil] at ih ⊢; omega
    rw [e, tab_len j, Nat.pow_succ]
    omega
theorem six {j : Nat} (h : j ≤ 6) : j = 0 ∨ j = 1 ∨ j = 2 ∨ j = 3 ∨ j = 4 ∨ j = 5 ∨ j = 6 := by omega
theorem rnd_step {n : Int} {j : Nat} (hn : n ≤ 64) (h : j ≤ rnd n) : (2 : Int) ^ j < n ↔ j < rnd n := by
  have := six (Nat.le_trans h (rnd_le n))
  rcases this with rfl | rfl | rfl | rfl | rfl | rfl | rfl <;> (unfold rnd at h ⊢; (repeat' split) <;> simp_all <;> omega)
theorem pow_cast (j : Nat) : ((2 ^ j : Nat) : Int) = 2 ^ j := by simp
theorem tab_nodup {j : Nat} (h : j ≤ 6) : (tab j).Nodup := by
  rcases six h with rfl | rfl | rfl | rfl | rfl | rfl | rfl <;> decide +kernel
theorem tab_mem {j : Nat} (h : j ≤ 6) {x : Int} : x ∈ tab j ↔ 0 ≤ x ∧ x < 2 ^ j := by
  have key : ∀ j, j ≤ 6 → ((tab j).all (fun x => decide (0 ≤ x) && decide (x < 2 ^ j)) && (List.range (2 ^ j)).all (fun i => (tab j).contains (i : Int))) = true := by
    intro j h
    rcases six h with rfl | rfl | rfl | rfl | rfl | rfl | rfl <;> decide +kernel
  have k := key j h
  rw [Bool.and_eq_true, List.all_eq_true, List.all_eq_true] at k
  constructor
  · intro hx
    have := k.1 x hx
    simpa using this
  · rintro ⟨h1, h2⟩
    have := k.2 x.toNat (by
      rw [List.mem_range]
      have : ((2 ^ j : Nat) : Int) = 2 ^ j := pow_cast j
      omega)
    rw [List.contains_iff_mem] at this
    rw [Int.toNat_of_nonneg h1] at this
    exact this

/-! ## rounds_of_battle -/
/-! rounds_of_battle: 0=n 1=rounds 2=places -/
def m_rounds_of_battle_b2 : SX := (sSeq (sAug 1 wIAdd (eC (.int 1)))
      (sAug 2 wIMul (eC (.int 2))))
def m_rounds_of_battle_r2 : SX := (sRet (eVar 1))
def m_rounds_of_battle : SX := (sSeq (sTgt (.many [1, 2]) (eTup [(eC (.int 0)), (eC (.int 1))]))
      (sSeq (sWhile (tOf (eOp wLt (eVar 2) (eVar 0))) m_rounds_of_battle_b2)
      m_rounds_of_battle_r2))
def S_rounds_of_battle : WL := fun ds Q => ∃ n : Int, ds = [.int n] ∧ n ≤ 64 ∧ Q (.int (rnd n : Nat))
theorem wp_rounds_of_battle (ds : List D) (QD : D → Prop) (h : S_rounds_of_battle ds QD) : m_rounds_of_battle (startE 3 ds) ⟨fun _ => QD .none, QD, noB, noB, fun es => QD (.list es)⟩ := by
  obtain ⟨n, rfl, hn, q⟩ := h
  unfold m_rounds_of_battle
  simp only [sSeq, sSkip, sAsg, sAsgP, sNew, sNewP, sRet, sRetO, sIf, sApp, sAppP, sSet, sAug, sTgt, sTgtP, sPar, sFz, frz, sFor, sForR, sRev, sBrk, sCnt, sDrop, eOp, eUn, eCall, eVar, eC, eFr, eTup, eTupR, eAnd, eOr, eNot, eIf, eChain, eIndex, eSl, nLst, nList, nListR, nLc, nLc2, nCall, nSorted, nRep, tOf, tAndJ, tOrJ, tNotJ, tTrue, iSeq, iR1, iR2, iR3, rg1, rg2, evA, pNo, pSo, startE, hide, rd, hide_v, hide_o, hide_n, rd_v, rd_o, rd_n, bind_one, bind_many, setAll, List.map, List.replicate, List.length, List.cons_append, List.nil_append, List.getElem?_cons_zero, List.getElem?_cons_succ, List.set_cons_zero, List.set_cons_succ, Option.bind_some, ex_some, Option.some.injEq, Slot.own.injEq, Slot.val.injEq, exists_eq_left', true_and, and_true, Bool.false_eq_true, if_false, if_true, reduceIte, wEq, wNe, wAdd_i, wAdd_t, wAdd_l, wAdd_s, wSub_i, wMul_i, wDiv_i, wMod_i, wPow_i, wNeg_i, wLt_i, wLe_i, wGt_i, wGe_i, wIs_n, wIs_b, wIsNot_n, wIsNot_b, wIx_l, wIx_t, wLen_l, wLen_t, wAbs_i, wInt_i, wInt_b, wMax2_i, wMin2_i, wTuple_l, wTuple_t, wB_b, wI_i, seqOf_l, seqOf_t, wIAdd_i, wIAdd_t, wIMul_i, wSl_l, wSl_t, wIn_l, wIn_t, wNotIn_l, wNotIn_t, items_l, items_t, lv_i, lv_b, lv_n, eqv_ii, eqv_bb, isNon_n, isNon_i, isNon_b, isNon_s, isNon_t, isNon_l, Bool.not_true, Bool.not_false, b2n_t, b2n_f, pl_i, pl_b, pl_n, decide_eq_true_eq]
  refine while_up (rnd n) (fun j e => j ≤ rnd n ∧ e = [.val (.int n), .val (.int (j : Nat)), .val (.int (2 ^ j))]) ⟨Nat.zero_le _, rfl⟩ ?_
  rintro j e hj ⟨hj2, rfl⟩ R hR
  unfold m_rounds_of_battle_b2 m_rounds_of_battle_r2
  simp only [sSeq, sSkip, sAsg, sAsgP, sNew, sNewP, sRet, sRetO, sIf, sApp, sAppP, sSet, sAug, sTgt, sTgtP, sPar, sFz, frz, sFor, sForR, sRev, sBrk, sCnt, sDrop, eOp, eUn, eCall, eVar, eC, eFr, eTup, eTupR, eAnd, eOr, eNot, eIf, eChain, eIndex, eSl, nLst, nList, nListR, nLc, nLc2, nCall, nSorted, nRep, tOf, tAndJ, tOrJ, tNotJ, tTrue, iSeq, iR1, iR2, iR3, rg1, rg2, evA, pNo, pSo, startE, hide, rd, hide_v, hide_o, hide_n, rd_v, rd_o, rd_n, bind_one, bind_many, setAll, List.map, List.replicate, List.length, List.cons_append, List.nil_append, List.getElem?_cons_zero, List.getElem?_cons_succ, List.set_cons_zero, List.set_cons_succ, Option.bind_some, ex_some, Option.some.injEq, Slot.own.injEq, Slot.val.injEq, exists_eq_left', true_and, and_true, Bool.false_eq_true, if_false, if_true, reduceIte, wEq, wNe, wAdd_i, wAdd_t, wAdd_l, wAdd_s, wSub_i, wMul_i, wDiv_i, wMod_i, wPow_i, wNeg_i, wLt_i, wLe_i, wGt_i, wGe_i, wIs_n, wIs_b, wIsNot_n, wIsNot_b, wIx_l, wIx_t, wLen_l, wLen_t, wAbs_i, wInt_i, wInt_b, wMax2_i, wMin2_i, wTuple_l, wTuple_t, wB_b, wI_i, seqOf_l, seqOf_t, wIAdd_i, wIAdd_t, wIMul_i, wSl_l, wSl_t, wIn_l, wIn_t, wNotIn_l, wNotIn_t, items_l, items_t, lv_i, lv_b, lv_n, eqv_ii, eqv_bb, isNon_n, isNon_i, isNon_b, isNon_s, isNon_t, isNon_l, Bool.not_true, Bool.not_false, b2n_t, b2n_f, pl_i, pl_b, pl_n, decide_eq_true_eq]
  have st := rnd_step hn hj
  split
  · rename_i hlt
    refine ⟨.inr ⟨by decide, by decide⟩, hR _ (st.mp hlt) ⟨st.mp hlt, ?_⟩⟩
    rw [Int.pow_succ]
    rfl
  · rename_i hlt
    have : j = rnd n := by
      have := mt st.mpr hlt
      omega
    rw [this]
    exact q

/-! ## table_of_seeds -/
theorem len_tab (j : Nat) : (((tab j).map PyData.int).length : Int) = 2 ^ j := by rw [List.length_map, tab_len, pow_cast]
/-! table_of_seeds: 0=n 1=table 2=whole 3=seed 4=own -/
def m_table_of_seeds_b2 : SX := (sSeq (sAsg 2 (eOp wMul (eC (.int 2)) (eCall wLen [(eVar 1)])))
      (sAsg 1 (eFr (nLc2 (iSeq (eVar 1)) (.one 3) [3, 4] tTrue (iSeq (eTup [(eVar 3), (eOp wSub (eOp wSub (eVar 2) (eC (.int 1))) (eVar 3))])) (.one 4) [4] tTrue (eVar 4)))))
def m_table_of_seeds_r2 : SX := (sRet (eVar 1))
def m_table_of_seeds : SX := (sSeq (sAsg 1 (eFr (nLst [(eC (.int 0))])))
      (sSeq (sWhile (tOf (eOp wLt (eCall wLen [(eVar 1)]) (eVar 0))) m_table_of_seeds_b2)
      m_table_of_seeds_r2))
def S_table_of_seeds : WL := fun ds Q => ∃ n : Int, ds = [.int n] ∧ n ≤ 64 ∧ Q (.list ((tab (rnd n)).map PyData.int))
theorem catW_of {f : D → (List D → Prop) → Prop} (g : D → List D) : ∀ {ds : List D} {Q : List D → Prop}, (∀ d ∈ ds, ∀ R : List D → Prop, R (g d) → f d R) → Q (ds.flatMap g) → catW f ds Q
  | [], _, _, q => q
  | d :: ds, Q, h, q => h d List.mem_cons_self _ (catW_of g (fun x hx => h x (List.mem_cons_of_mem _ hx)) (by rw [List.flatMap_cons] at q; exact q))
theorem wp_table_of_seeds (ds : List D) (QD : D → Prop) (h : S_table_of_seeds ds QD) : m_table_of_seeds (startE 5 ds) ⟨fun _ => QD .none, QD, noB, noB, fun es => QD (.list es)⟩ := by
  obtain ⟨n, rfl, hn, q⟩ := h
  have hs : sizeLine = 16777216 := sizeLine_eq
  unfold m_table_of_seeds
  simp only [sSeq, sSkip, sAsg, sAsgP, sNew, sNewP, sRet, sRetO, sIf, sApp, sAppP, sSet, sAug, sTgt, sTgtP, sPar, sFz, frz, sFor, sForR, sRev, sBrk, sCnt, sDrop, eOp, eUn, eCall, eVar, eC, eFr, eTup, eTupR, eAnd, eOr, eNot, eIf, eChain, eIndex, eSl, nLst, nList, nListR, nLc, nLc2, nCall, nSorted, nRep, tOf, tAndJ, tOrJ, tNotJ, tTrue, iSeq, iR1, iR2, iR3, rg1, rg2, evA, pNo, pSo, startE, hide, rd, hide_v, hide_o, hide_n, rd_v, rd_o, rd_n, bind_one, bind_many, setAll, List.map, List.replicate, List.length, List.cons_append, List.nil_append, List.getElem?_cons_zero, List.getElem?_cons_succ, List.set_cons_zero, List.set_cons_succ, Option.bind_some, ex_some, Option.some.injEq, Slot.own.injEq, Slot.val.injEq, exists_eq_left', true_and, and_true, Bool.false_eq_true, if_false, if_true, reduceIte, wEq, wNe, wAdd_i, wAdd_t, wAdd_l, wAdd_s, wSub_i, wMul_i, wDiv_i, wMod_i, wPow_i, wNeg_i, wLt_i, wLe_i, wGt_i, wGe_i, wIs_n, wIs_b, wIsNot_n, wIsNot_b, wIx_l, wIx_t, wLen_l, wLen_t, wAbs_i, wInt_i, wInt_b, wMax2_i, wMin2_i, wTuple_l, wTuple_t, wB_b, wI_i, seqOf_l, seqOf_t, wIAdd_i, wIAdd_t, wIMul_i, wSl_l, wSl_t, wIn_l, wIn_t, wNotIn_l, wNotIn_t, items_l, items_t, lv_i, lv_b, lv_n, eqv_ii, eqv_bb, isNon_n, isNon_i, isNon_b, isNon_s, isNon_t, isNon_l, Bool.not_true, Bool.not_false, b2n_t, b2n_f, pl_i, pl_b, pl_n, decide_eq_true_eq]
  refine while_up (rnd n) (fun j e => j ≤ rnd n ∧ ∃ s2, e = [.val (.int n), .val (.list ((tab j).map PyData.int)), s2, .no, .no]) ⟨Nat.zero_le _, _, rfl⟩ ?_
  rintro j e hj ⟨hj2, s2, rfl⟩ R hR
  unfold m_table_of_seeds_b2 m_table_of_seeds_r2
  have st := rnd_step hn hj
  have hj6 := Nat.le_trans hj (rnd_le n)
  simp only [sSeq, sSkip, sAsg, sAsgP, sNew, sNewP, sRet, sRetO, sIf, sApp, sAppP, sSet, sAug, sTgt, sTgtP, sPar, sFz, frz, sFor, sForR, sRev, sBrk, sCnt, sDrop, eOp, eUn, eCall, eVar, eC, eFr, eTup, eTupR, eAnd, eOr, eNot, eIf, eChain, eIndex, eSl, nLst, nList, nListR, nLc, nLc2, nCall, nSorted, nRep, tOf, tAndJ, tOrJ, tNotJ, tTrue, iSeq, iR1, iR2, iR3, rg1, rg2, evA, pNo, pSo, startE, hide, rd, hide_v, hide_o, hide_n, rd_v, rd_o, rd_n, bind_one, bind_many, setAll, List.map, List.replicate, List.length, List.cons_append, List.nil_append, List.getElem?_cons_zero, List.getElem?_cons_succ, List.set_cons_zero, List.set_cons_succ, Option.bind_some, ex_some, Option.some.injEq, Slot.own.injEq, Slot.val.injEq, exists_eq_left', true_and, and_true, Bool.false_eq_true, if_false, if_true, reduceIte, wEq, wNe, wAdd_i, wAdd_t, wAdd_l, wAdd_s, wSub_i, wMul_i, wDiv_i, wMod_i, wPow_i, wNeg_i, wLt_i, wLe_i, wGt_i, wGe_i, wIs_n, wIs_b, wIsNot_n, wIsNot_b, wIx_l, wIx_t, wLen_l, wLen_t, wAbs_i, wInt_i, wInt_b, wMax2_i, wMin2_i, wTuple_l, wTuple_t, wB_b, wI_i, seqOf_l, seqOf_t, wIAdd_i, wIAdd_t, wIMul_i, wSl_l, wSl_t, wIn_l, wIn_t, wNotIn_l, wNotIn_t, items_l, items_t, lv_i, lv_b, lv_n, eqv_ii, eqv_bb, isNon_n, isNon_i, isNon_b, isNon_s, isNon_t, isNon_l, Bool.not_true, Bool.not_false, b2n_t, b2n_f, pl_i, pl_b, pl_n, decide_eq_true_eq, len_tab]
  split
  · rename_i hlt
    refine ⟨mul_l (by decide), ?_⟩
    refine catW_of (fun d => match d with | .int s => [.int s, .int (2 * 2 ^ j - 1 - s)] | _ => []) (fun d hd R' hR' => ?_) ?_
    · obtain ⟨s, _, rfl⟩ := List.mem_map.mp hd
      unfold lcF2
      refine ⟨_, rfl, ?_⟩
      simp only [sSeq, sSkip, sAsg, sAsgP, sNew, sNewP, sRet, sRetO, sIf, sApp, sAppP, sSet, sAug, sTgt, sTgtP, sPar, sFz, frz, sFor, sForR, sRev, sBrk, sCnt, sDrop, eOp, eUn, eCall, eVar, eC, eFr, eTup, eTupR, eAnd, eOr, eNot, eIf, eChain, eIndex, eSl, nLst, nList, nListR, nLc, nLc2, nCall, nSorted, nRep, tOf, tAndJ, tOrJ, tNotJ, tTrue, iSeq, iR1, iR2, iR3, rg1, rg2, evA, pNo, pSo, startE, hide, rd, hide_v, hide_o, hide_n, rd_v, rd_o, rd_n, bind_one, bind_many, setAll, List.map, List.replicate, List.length, List.cons_append, List.nil_append, List.getElem?_cons_zero, List.getElem?_cons_succ, List.set_cons_zero, List.set_cons_succ, Option.bind_some, ex_some, Option.some.injEq, Slot.own.injEq, Slot.val.injEq, exists_eq_left', true_and, and_true, Bool.false_eq_true, if_false, if_true, reduceIte, wEq, wNe, wAdd_i, wAdd_t, wAdd_l, wAdd_s, wSub_i, wMul_i, wDiv_i, wMod_i, wPow_i, wNeg_i, wLt_i, wLe_i, wGt_i, wGe_i, wIs_n, wIs_b, wIsNot_n, wIsNot_b, wIx_l, wIx_t, wLen_l, wLen_t, wAbs_i, wInt_i, wInt_b, wMax2_i, wMin2_i, wTuple_l, wTuple_t, wB_b, wI_i, seqOf_l, seqOf_t, wIAdd_i, wIAdd_t, wIMul_i, wSl_l, wSl_t, wIn_l, wIn_t, wNotIn_l, wNotIn_t, items_l, items_t, lv_i, lv_b, lv_n, eqv_ii, eqv_bb, isNon_n, isNon_i, isNon_b, isNon_s, isNon_t, isNon_l, Bool.not_true, Bool.not_false, b2n_t, b2n_f, pl_i, pl_b, pl_n, decide_eq_true_eq, wipeE]
      refine ⟨?_, ?_⟩
      · rw [List.length_map, tab_len, hs]
        have : 2 ^ j ≤ 2 ^ 6 := Nat.pow_le_pow_right (by decide) hj6
        omega
      · unfold lcF
        refine ⟨_, rfl, ?_⟩
        simp only [sSeq, sSkip, sAsg, sAsgP, sNew, sNewP, sRet, sRetO, sIf, sApp, sAppP, sSet, sAug, sTgt, sTgtP, sPar, sFz, frz, sFor, sForR, sRev, sBrk, sCnt, sDrop, eOp, eUn, eCall, eVar, eC, eFr, eTup, eTupR, eAnd, eOr, eNot, eIf, eChain, eIndex, eSl, nLst, nList, nListR, nLc, nLc2, nCall, nSorted, nRep, tOf, tAndJ, tOrJ, tNotJ, tTrue, iSeq, iR1, iR2, iR3, rg1, rg2, evA, pNo, pSo, startE, hide, rd, hide_v, hide_o, hide_n, rd_v, rd_o, rd_n, bind_one, bind_many, setAll, List.map, List.replicate, List.length, List.cons_append, List.nil_append, List.getElem?_cons_zero, List.getElem?_cons_succ, List.set_cons_zero, List.set_cons_succ, Option.bind_some, ex_some, Option.some.injEq, Slot.own.injEq, Slot.val.injEq, exists_eq_left', true_and, and_true, Bool.false_eq_true, if_false, if_true, reduceIte, wEq, wNe, wAdd_i, wAdd_t, wAdd_l, wAdd_s, wSub_i, wMul_i, wDiv_i, wMod_i, wPow_i, wNeg_i, wLt_i, wLe_i, wGt_i, wGe_i, wIs_n, wIs_b, wIsNot_n, wIsNot_b, wIx_l, wIx_t, wLen_l, wLen_t, wAbs_i, wInt_i, wInt_b, wMax2_i, wMin2_i, wTuple_l, wTuple_t, wB_b, wI_i, seqOf_l, seqOf_t, wIAdd_i, wIAdd_t, wIMul_i, wSl_l, wSl_t, wIn_l, wIn_t, wNotIn_l, wNotIn_t, items_l, items_t, lv_i, lv_b, lv_n, eqv_ii, eqv_bb, isNon_n, isNon_i, isNon_b, isNon_s, isNon_t, isNon_l, Bool.not_true, Bool.not_false, b2n_t, b2n_f, pl_i, pl_b, pl_n, decide_eq_true_eq, wipeE]
        exact hR'
    · refine hR _ (st.mp hlt) ⟨st.mp hlt, .val (.int (2 * 2 ^ j)), ?_⟩
      congr 3
      show PyData.list _ = PyData.list (((tab j).flatMap _).map _)
      rw [List.map_flatMap, List.flatMap_map]
      rfl
  · rename_i hlt
    have : j = rnd n := by
      have := mt st.mpr hlt
      omega
    rw [← this] at q
    exact q

/-! ## seeds_in_table -/
def seedD (n : Int) (s : Int) : D := if s < n then .int s else .none
def told (n : Int) : List D := (tab (rnd n)).map (seedD n)
/-! seeds_in_table: 0=n 1=seed -/
def m_seeds_in_table : SX := (sRet (eUn wTuple (eFr (nLc (iSeq (eCall S_table_of_seeds [(eVar 0)])) (.one 1) [1] tTrue (eIf (tOf (eOp wLt (eVar 1) (eVar 0))) (eVar 1) (eC .none))))))
def S_seeds_in_table : WL := fun ds Q => ∃ n : Int, ds = [.int n] ∧ n ≤ 64 ∧ Q (.tuple (told n))
theorem wp_seeds_in_table (ds : List D) (QD : D → Prop) (h : S_seeds_in_table ds QD) : m_seeds_in_table (startE 2 ds) ⟨fun _ => QD .none, QD, noB, noB, fun es => QD (.list es)⟩ := by
  obtain ⟨n, rfl, hn, q⟩ := h
  unfold m_seeds_in_table
  simp only [sSeq, sSkip, sAsg, sAsgP, sNew, sNewP, sRet, sRetO, sIf, sApp, sAppP, sSet, sAug, sTgt, sTgtP, sPar, sFz, frz, sFor, sForR, sRev, sBrk, sCnt, sDrop, eOp, eUn, eCall, eVar, eC, eFr, eTup, eTupR, eAnd, eOr, eNot, eIf, eChain, eIndex, eSl, nLst, nList, nListR, nLc, nLc2, nCall, nSorted, nRep, tOf, tAndJ, tOrJ, tNotJ, tTrue, iSeq, iR1, iR2, iR3, rg1, rg2, evA, pNo, pSo, startE, hide, rd, hide_v, hide_o, hide_n, rd_v, rd_o, rd_n, bind_one, bind_many, setAll, List.map, List.replicate, List.length, List.cons_append, List.nil_append, List.getElem?_cons_zero, List.getElem?_cons_succ, List.set_cons_zero, List.set_cons_succ, Option.bind_some, ex_some, Option.some.injEq, Slot.own.injEq, Slot.val.injEq, exists_eq_left', true_and, and_true, Bool.false_eq_true, if_false, if_true, reduceIte, wEq, wNe, wAdd_i, wAdd_t, wAdd_l, wAdd_s, wSub_i, wMul_i, wDiv_i, wMod_i, wPow_i, wNeg_i, wLt_i, wLe_i, wGt_i, wGe_i, wIs_n, wIs_b, wIsNot_n, wIsNot_b, wIx_l, wIx_t, wLen_l, wLen_t, wAbs_i, wInt_i, wInt_b, wMax2_i, wMin2_i, wTuple_l, wTuple_t, wB_b, wI_i, seqOf_l, seqOf_t, wIAdd_i, wIAdd_t, wIMul_i, wSl_l, wSl_t, wIn_l, wIn_t, wNotIn_l, wNotIn_t, items_l, items_t, lv_i, lv_b, lv_n, eqv_ii, eqv_bb, isNon_n, isNon_i, isNon_b, isNon_s, isNon_t, isNon_l, Bool.not_true, Bool.not_false, b2n_t, b2n_f, pl_i, pl_b, pl_n, decide_eq_true_eq]
  refine ⟨n, rfl, hn, ?_⟩
  simp only [sSeq, sSkip, sAsg, sAsgP, sNew, sNewP, sRet, sRetO, sIf, sApp, sAppP, sSet, sAug, sTgt, sTgtP, sPar, sFz, frz, sFor, sForR, sRev, sBrk, sCnt, sDrop, eOp, eUn, eCall, eVar, eC, eFr, eTup, eTupR, eAnd, eOr, eNot, eIf, eChain, eIndex, eSl, nLst, nList, nListR, nLc, nLc2, nCall, nSorted, nRep, tOf, tAndJ, tOrJ, tNotJ, tTrue, iSeq, iR1, iR2, iR3, rg1, rg2, evA, pNo, pSo, startE, hide, rd, hide_v, hide_o, hide_n, rd_v, rd_o, rd_n, bind_one, bind_many, setAll, List.map, List.replicate, List.length, List.cons_append, List.nil_append, List.getElem?_cons_zero, List.getElem?_cons_succ, List.set_cons_zero, List.set_cons_succ, Option.bind_some, ex_some, Option.some.injEq, Slot.own.injEq, Slot.val.injEq, exists_eq_left', true_and, and_true, Bool.false_eq_true, if_false, if_true, reduceIte, wEq, wNe, wAdd_i, wAdd_t, wAdd_l, wAdd_s, wSub_i, wMul_i, wDiv_i, wMod_i, wPow_i, wNeg_i, wLt_i, wLe_i, wGt_i, wGe_i, wIs_n, wIs_b, wIsNot_n, wIsNot_b, wIx_l, wIx_t, wLen_l, wLen_t, wAbs_i, wInt_i, wInt_b, wMax2_i, wMin2_i, wTuple_l, wTuple_t, wB_b, wI_i, seqOf_l, seqOf_t, wIAdd_i, wIAdd_t, wIMul_i, wSl_l, wSl_t, wIn_l, wIn_t, wNotIn_l, wNotIn_t, items_l, items_t, lv_i, lv_b, lv_n, eqv_ii, eqv_bb, isNon_n, isNon_i, isNon_b, isNon_s, isNon_t, isNon_l, Bool.not_true, Bool.not_false, b2n_t, b2n_f, pl_i, pl_b, pl_n, decide_eq_true_eq]
  refine mapW_map (fun d => match d with | .int s => seedD n s | _ => .none) (fun d hd R hR => ?_) ?_
  · obtain ⟨s, _, rfl⟩ := List.mem_map.mp hd
    refine ⟨_, rfl, ?_⟩
    simp only [sSeq, sSkip, sAsg, sAsgP, sNew, sNewP, sRet, sRetO, sIf, sApp, sAppP, sSet, sAug, sTgt, sTgtP, sPar, sFz, frz, sFor, sForR, sRev, sBrk, sCnt, sDrop, eOp, eUn, eCall, eVar, eC, eFr, eTup, eTupR, eAnd, eOr, eNot, eIf, eChain, eIndex, eSl, nLst, nList, nListR, nLc, nLc2, nCall, nSorted, nRep, tOf, tAndJ, tOrJ, tNotJ, tTrue, iSeq, iR1, iR2, iR3, rg1, rg2, evA, pNo, pSo, startE, hide, rd, hide_v, hide_o, hide_n, rd_v, rd_o, rd_n, bind_one, bind_many, setAll, List.map, List.replicate, List.length, List.cons_append, List.nil_append, List.getElem?_cons_zero, List.getElem?_cons_succ, List.set_cons_zero, List.set_cons_succ, Option.bind_some, ex_some, Option.some.injEq, Slot.own.injEq, Slot.val.injEq, exists_eq_left', true_and, and_true, Bool.false_eq_true, if_false, if_true, reduceIte, wEq, wNe, wAdd_i, wAdd_t, wAdd_l, wAdd_s, wSub_i, wMul_i, wDiv_i, wMod_i, wPow_i, wNeg_i, wLt_i, wLe_i, wGt_i, wGe_i, wIs_n, wIs_b, wIsNot_n, wIsNot_b, wIx_l, wIx_t, wLen_l, wLen_t, wAbs_i, wInt_i, wInt_b, wMax2_i, wMin2_i, wTuple_l, wTuple_t, wB_b, wI_i, seqOf_l, seqOf_t, wIAdd_i, wIAdd_t, wIMul_i, wSl_l, wSl_t, wIn_l, wIn_t, wNotIn_l, wNotIn_t, items_l, items_t, lv_i, lv_b, lv_n, eqv_ii, eqv_bb, isNon_n, isNon_i, isNon_b, isNon_s, isNon_t, isNon_l, Bool.not_true, Bool.not_false, b2n_t, b2n_f, pl_i, pl_b, pl_n, decide_eq_true_eq, wipeE]
    have hR' : R (some (if s < n then .int s else .none)) := hR
    split
    · rename_i h; rw [if_pos h] at hR'; exact hR'
    · rename_i h; rw [if_neg h] at hR'; exact hR'
  · rw [List.map_map]
    exact q

/-! ## first_pairs -/
def pairsOf : List D → List D
  | a :: b :: r => .tuple [a, b] :: pairsOf r
  | _ => []
theorem pairs_get : ∀ (l : List D) (m : Nat), l.length = 2 * m → pairsOf l = (List.range m).map fun i => PyData.tuple [l.getD (2 * i) .none, l.getD (2 * i + 1) .none]
  | [], m, h => by
    have : m = 0 := by simp at h; omega
    subst this
    rfl
  | [a], m, h => by simp at h; omega
  | a :: b :: r, 0, h => by simp at h
  | a :: b :: r, m + 1, h => by
    have hr : r.length = 2 * m := by simp at h; omega
    rw [List.range_succ_eq_map, List.map_cons, List.map_map]
    show _ :: pairsOf r = _
    rw [pairs_get r m hr]
    rfl
/-- the table by pairs, place by place -/
theorem pairs_W {f : D → (Option D → Prop) → Prop} {l : List D} {m : Nat} {Q : List D → Prop} (hl : l.length = 2 * m) (h : ∀ i, i < m → ∀ a b : D, l[2 * i]? = some a → l[2 * i + 1]? = some b → ∀ R : Option D → Prop, R (some (.tuple [a, b])) → f (.int (0 + i * 2)) R) (q : Q (pairsOf l)) : mapW f (rgC 0 2 m) Q := by
  refine mapW_map (fun d => match d with | .int k => PyData.tuple [l.getD k.toNat .none, l.getD (k.toNat + 1) .none] | _ => .none) (fun d hd R hR => ?_) ?_
  · obtain ⟨i, hi⟩ := List.mem_iff_getElem?.mp hd
    obtain ⟨rfl, him⟩ := rgC_get hi
    have h1 : 2 * i < l.length := by omega
    have h2 : 2 * i + 1 < l.length := by omega
    have e1 : (0 + (i : Int) * 2).toNat = 2 * i := by omega
    refine h i him l[2 * i] l[2 * i + 1] (List.getElem?_eq_getElem h1) (List.getElem?_eq_getElem h2) R ?_
    have hR' : R (some (PyData.tuple [l.getD (0 + (i : Int) * 2).toNat .none, l.getD ((0 + (i : Int) * 2).toNat + 1) .none])) := hR
    rw [e1, List.getD_eq_getElem?_getD, List.getD_eq_getElem?_getD, List.getElem?_eq_getElem h1, List.getElem?_eq_getElem h2] at hR'
    exact hR'
  · have e : (rgC 0 2 m).map (fun d => match d with | .int k => PyData.tuple [l.getD k.toNat .none, l.getD (k.toNat + 1) .none] | _ => .none) = pairsOf l := by
      rw [pairs_get l m hl]
      unfold rgC
      rw [List.map_map]
      refine List.map_congr_left fun i _ => ?_
      show PyData.tuple [l.getD (0 + (i : Int) * 2).toNat .none, l.getD ((0 + (i : Int) * 2).toNat + 1) .none] = _
      rw [show (0 + (i : Int) * 2).toNat = 2 * i by omega]
    rw [e]
    exact q
theorem told_len (n : Int) : (told n).length = 2 ^ rnd n := by unfold told; rw [List.length_map, tab_len]
theorem atI_at {α : Type} {zs : List α} {k : Int} {i : Nat} {d : α} (hk : k = i) (h : zs[i]? = some d) : atI zs k = some d := by
  have := (List.getElem?_eq_some_iff.mp h).1
  rw [atI_nat (by omega) (by omega), hk]
  exact h
/-! first_pairs: 0=n 1=table 2=at -/
def m_first_pairs : SX := (sSeq (sAsg 1 (eCall S_seeds_in_table [(eVar 0)]))
      (sRet (eUn wTuple (eFr (nLc (iR3 (eC (.int 0)) (eOp wSub (eCall wLen [(eVar 1)]) (eC (.int 1))) (eC (.int 2))) (.one 2) [2] tTrue (eTup [(eOp wIx (eVar 1) (eVar 2)), (eOp wIx (eVar 1) (eOp wAdd (eVar 2) (eC (.int 1))))]))))))
def S_first_pairs : WL := fun ds Q => ∃ n : Int, ds = [.int n] ∧ n ≤ 64 ∧ Q (.tuple (pairsOf (told n)))
/-- half of the places of a table -/
def half : Nat → Nat
  | 0 => 0
  | j + 1 => 2 ^ j
theorem pairs_cut {l : List D} {j : Nat} (hl : l.length = 2 ^ j) {l' : List D} (hl' : l' = l.take (2 * half j)) : pairsOf l' = pairsOf l := by
  cases j with
  | zero =>
    match l, hl with
    | [a], _ => subst hl'; rfl
  | succ j =>
    rw [hl', List.take_of_length_le]
    rw [hl, half, Nat.pow_succ]
    omega
theorem rg_half {j : Nat} (h : j ≤ 6) : RgC 0 ((2 : Int) ^ j - 1) 2 (half j) := by
  rcases six h with rfl | rfl | rfl | rfl | rfl | rfl | rfl <;> exact rgC_pos (by decide) (by decide) (by decide) (by decide) (by decide)
theorem half_le {j : Nat} : 2 * half j ≤ 2 ^ j := by
  cases j with
  | zero => decide
  | succ j => rw [half, Nat.pow_succ]; omega
theorem half_sz {j : Nat} (h : j ≤ 6) : half j ≤ sizeLine := by
  have := half_le (j := j)
  have h2 : 2 ^ j ≤ 2 ^ 6 := Nat.pow_le_pow_right (by decide) h
  rw [sizeLine_eq]
  omega
theorem wp_first_pairs (ds : List D) (QD : D → Prop) (h : S_first_pairs ds QD) : m_first_pairs (startE 3 ds) ⟨fun _ => QD .none, QD, noB, noB, fun es => QD (.list es)⟩ := by
  obtain ⟨n, rfl, hn, q⟩ := h
  unfold m_first_pairs
  simp only [sSeq, sSkip, sAsg, sAsgP, sNew, sNewP, sRet, sRetO, sIf, sApp, sAppP, sSet, sAug, sTgt, sTgtP, sPar, sFz, frz, sFor, sForR, sRev, sBrk, sCnt, sDrop, eOp, eUn, eCall, eVar, eC, eFr, eTup, eTupR, eAnd, eOr, eNot, eIf, eChain, eIndex, eSl, nLst, nList, nListR, nLc, nLc2, nCall, nSorted, nRep, tOf, tAndJ, tOrJ, tNotJ, tTrue, iSeq, iR1, iR2, iR3, rg1, rg2, evA, pNo, pSo, startE, hide, rd, hide_v, hide_o, hide_n, rd_v, rd_o, rd_n, bind_one, bind_many, setAll, List.map, List.replicate, List.length, List.cons_append, List.nil_append, List.getElem?_cons_zero, List.getElem?_cons_succ, List.set_cons_zero, List.set_cons_succ, Option.bind_some, ex_some, Option.some.injEq, Slot.own.injEq, Slot.val.injEq, exists_eq_left', true_and, and_true, Bool.false_eq_true, if_false, if_true, reduceIte, wEq, wNe, wAdd_i, wAdd_t, wAdd_l, wAdd_s, wSub_i, wMul_i, wDiv_i, wMod_i, wPow_i, wNeg_i, wLt_i, wLe_i, wGt_i, wGe_i, wIs_n, wIs_b, wIsNot_n, wIsNot_b, wIx_l, wIx_t, wLen_l, wLen_t, wAbs_i, wInt_i, wInt_b, wMax2_i, wMin2_i, wTuple_l, wTuple_t, wB_b, wI_i, seqOf_l, seqOf_t, wIAdd_i, wIAdd_t, wIMul_i, wSl_l, wSl_t, wIn_l, wIn_t, wNotIn_l, wNotIn_t, items_l, items_t, lv_i, lv_b, lv_n, eqv_ii, eqv_bb, isNon_n, isNon_i, isNon_b, isNon_s, isNon_t, isNon_l, Bool.not_true, Bool.not_false, b2n_t, b2n_f, pl_i, pl_b, pl_n, decide_eq_true_eq]
  refine ⟨n, rfl, hn, ?_⟩
  simp only [sSeq, sSkip, sAsg, sAsgP, sNew, sNewP, sRet, sRetO, sIf, sApp, sAppP, sSet, sAug, sTgt, sTgtP, sPar, sFz, frz, sFor, sForR, sRev, sBrk, sCnt, sDrop, eOp, eUn, eCall, eVar, eC, eFr, eTup, eTupR, eAnd, eOr, eNot, eIf, eChain, eIndex, eSl, nLst, nList, nListR, nLc, nLc2, nCall, nSorted, nRep, tOf, tAndJ, tOrJ, tNotJ, tTrue, iSeq, iR1, iR2, iR3, rg1, rg2, evA, pNo, pSo, startE, hide, rd, hide_v, hide_o, hide_n, rd_v, rd_o, rd_n, bind_one, bind_many, setAll, List.map, List.replicate, List.length, List.cons_append, List.nil_append, List.getElem?_cons_zero, List.getElem?_cons_succ, List.set_cons_zero, List.set_cons_succ, Option.bind_some, ex_some, Option.some.injEq, Slot.own.injEq, Slot.val.injEq, exists_eq_left', true_and, and_true, Bool.false_eq_true, if_false, if_true, reduceIte, wEq, wNe, wAdd_i, wAdd_t, wAdd_l, wAdd_s, wSub_i, wMul_i, wDiv_i, wMod_i, wPow_i, wNeg_i, wLt_i, wLe_i, wGt_i, wGe_i, wIs_n, wIs_b, wIsNot_n, wIsNot_b, wIx_l, wIx_t, wLen_l, wLen_t, wAbs_i, wInt_i, wInt_b, wMax2_i, wMin2_i, wTuple_l, wTuple_t, wB_b, wI_i, seqOf_l, seqOf_t, wIAdd_i, wIAdd_t, wIMul_i, wSl_l, wSl_t, wIn_l, wIn_t, wNotIn_l, wNotIn_t, items_l, items_t, lv_i, lv_b, lv_n, eqv_ii, eqv_bb, isNon_n, isNon_i, isNon_b, isNon_s, isNon_t, isNon_l, Bool.not_true, Bool.not_false, b2n_t, b2n_f, pl_i, pl_b, pl_n, decide_eq_true_eq, told_len, pow_cast]
  refine ⟨half (rnd n), rg_half (rnd_le n), half_sz (rnd_le n), ?_⟩
  refine pairs_W (l := (told n).take (2 * half (rnd n))) (by rw [List.length_take, told_len]; have := half_le (j := rnd n); omega) (fun i hi a b ha hb R hR => ?_) (by rw [pairs_cut (told_len n) rfl]; exact q)
  refine ⟨_, rfl, ?_⟩
  simp only [sSeq, sSkip, sAsg, sAsgP, sNew, sNewP, sRet, sRetO, sIf, sApp, sAppP, sSet, sAug, sTgt, sTgtP, sPar, sFz, frz, sFor, sForR, sRev, sBrk, sCnt, sDrop, eOp, eUn, eCall, eVar, eC, eFr, eTup, eTupR, eAnd, eOr, eNot, eIf, eChain, eIndex, eSl, nLst, nList, nListR, nLc, nLc2, nCall, nSorted, nRep, tOf, tAndJ, tOrJ, tNotJ, tTrue, iSeq, iR1, iR2, iR3, rg1, rg2, evA, pNo, pSo, startE, hide, rd, hide_v, hide_o, hide_n, rd_v, rd_o, rd_n, bind_one, bind_many, setAll, List.map, List.replicate, List.length, List.cons_append, List.nil_append, List.getElem?_cons_zero, List.getElem?_cons_succ, List.set_cons_zero, List.set_cons_succ, Option.bind_some, ex_some, Option.some.injEq, Slot.own.injEq, Slot.val.injEq, exists_eq_left', true_and, and_true, Bool.false_eq_true, if_false, if_true, reduceIte, wEq, wNe, wAdd_i, wAdd_t, wAdd_l, wAdd_s, wSub_i, wMul_i, wDiv_i, wMod_i, wPow_i, wNeg_i, wLt_i, wLe_i, wGt_i, wGe_i, wIs_n, wIs_b, wIsNot_n, wIsNot_b, wIx_l, wIx_t, wLen_l, wLen_t, wAbs_i, wInt_i, wInt_b, wMax2_i, wMin2_i, wTuple_l, wTuple_t, wB_b, wI_i, seqOf_l, seqOf_t, wIAdd_i, wIAdd_t, wIMul_i, wSl_l, wSl_t, wIn_l, wIn_t, wNotIn_l, wNotIn_t, items_l, items_t, lv_i, lv_b, lv_n, eqv_ii, eqv_bb, isNon_n, isNon_i, isNon_b, isNon_s, isNon_t, isNon_l, Bool.not_true, Bool.not_false, b2n_t, b2n_f, pl_i, pl_b, pl_n, decide_eq_true_eq, wipeE]
  have ha' : (told n)[2 * i]? = some a := by rw [List.getElem?_take] at ha; split at ha; exact ha; cases ha
  have hb' : (told n)[2 * i + 1]? = some b := by rw [List.getElem?_take] at hb; split at hb; exact hb; cases hb
  refine ⟨a, atI_at (by omega) ha', b, atI_at (by omega) hb', ?_⟩
  exact hR

/-! ## winner_of -/
/-! winner_of: 0=n 1=strengths -/
def m_winner_of : SX := (sRet (eIndex (eVar 1) (eCall wMax1 [(eVar 1)])))
/-- the first of the greatest -/
def S_winner_of : WL := fun ds Q => ∃ (n : Int) (ss : List Int), ds = [.int n, .tuple (ss.map PyData.int)] ∧ ss ≠ [] ∧ ∀ (j : Nat) (x : Int), ss[j]? = some x → (∀ y ∈ ss, y ≤ x) → (∀ (i : Nat) (y : Int), i < j → ss[i]? = some y → y < x) → Q (.int (j : Nat))
theorem foldl_max : ∀ (ns : List Int) (n : Int), (ns.foldl max n = n ∨ ns.foldl max n ∈ ns) ∧ n ≤ ns.foldl max n ∧ ∀ y ∈ ns, y ≤ ns.foldl max n
  | [], n => ⟨.inl rfl, Int.le_refl _, by simp⟩
  | m :: ns, n => by
    obtain ⟨h1, h2, h3⟩ := foldl_max ns (max n m)
    rw [List.foldl_cons]
    refine ⟨?_, by omega, fun y hy => ?_⟩
    · rcases h1 with h | h
      · rw [h]
        by_cases q : n ≤ m
        · right; rw [Int.max_eq_right q]; exact List.mem_cons_self
        · left; exact Int.max_eq_left (by omega)
      · right; exact List.mem_cons_of_mem _ h
    · rcases List.mem_cons.mp hy with rfl | hy
      · omega
      · exact h3 y hy
theorem eqv_int {d : D} {i : Int} (h : d = .int i) (k : Int) : PyData.eqv d (.int k) = decide (i = k) := by rw [h, eqv_ii]
theorem alike_ints (ns : List Int) : PySem.W.AlikeAll (ns.map PyData.int) := ⟨fun x hx y hy => by
  obtain ⟨a, _, rfl⟩ := List.mem_map.mp hx
  obtain ⟨b, _, rfl⟩ := List.mem_map.mp hy
  rfl, fun x hx => by
  obtain ⟨a, _, rfl⟩ := List.mem_map.mp hx
  intro h
  cases h⟩
theorem wp_winner_of (ds : List D) (QD : D → Prop) (h : S_winner_of ds QD) : m_winner_of (startE 2 ds) ⟨fun _ => QD .none, QD, noB, noB, fun es => QD (.list es)⟩ := by
  obtain ⟨n, ss, rfl, hne, q⟩ := h
  unfold m_winner_of
  simp only [sSeq, sSkip, sAsg, sAsgP, sNew, sNewP, sRet, sRetO, sIf, sApp, sAppP, sSet, sAug, sTgt, sTgtP, sPar, sFz, frz, sFor, sForR, sRev, sBrk, sCnt, sDrop, eOp, eUn, eCall, eVar, eC, eFr, eTup, eTupR, eAnd, eOr, eNot, eIf, eChain, eIndex, eSl, nLst, nList, nListR, nLc, nLc2, nCall, nSorted, nRep, tOf, tAndJ, tOrJ, tNotJ, tTrue, iSeq, iR1, iR2, iR3, rg1, rg2, evA, pNo, pSo, startE, hide, rd, hide_v, hide_o, hide_n, rd_v, rd_o, rd_n, bind_one, bind_many, setAll, List.map, List.replicate, List.length, List.cons_append, List.nil_append, List.getElem?_cons_zero, List.getElem?_cons_succ, List.set_cons_zero, List.set_cons_succ, Option.bind_some, ex_some, Option.some.injEq, Slot.own.injEq, Slot.val.injEq, exists_eq_left', true_and, and_true, Bool.false_eq_true, if_false, if_true, reduceIte, wEq, wNe, wAdd_i, wAdd_t, wAdd_l, wAdd_s, wSub_i, wMul_i, wDiv_i, wMod_i, wPow_i, wNeg_i, wLt_i, wLe_i, wGt_i, wGe_i, wIs_n, wIs_b, wIsNot_n, wIsNot_b, wIx_l, wIx_t, wLen_l, wLen_t, wAbs_i, wInt_i, wInt_b, wMax2_i, wMin2_i, wTuple_l, wTuple_t, wB_b, wI_i, seqOf_l, seqOf_t, wIAdd_i, wIAdd_t, wIMul_i, wSl_l, wSl_t, wIn_l, wIn_t, wNotIn_l, wNotIn_t, items_l, items_t, lv_i, lv_b, lv_n, eqv_ii, eqv_bb, isNon_n, isNon_i, isNon_b, isNon_s, isNon_t, isNon_l, Bool.not_true, Bool.not_false, b2n_t, b2n_f, pl_i, pl_b, pl_n, decide_eq_true_eq]
  refine ⟨lv_ints ss, ?_⟩
  cases ss with
  | nil => exact absurd rfl hne
  | cons s ss =>
    obtain ⟨h1, h2, h3⟩ := foldl_max ss s
    refine ⟨.int s, ss.map PyData.int, rfl, lv_ints (s :: ss), alike_ints (s :: ss), ?_⟩
    rw [PySem.W.maxD_ints]
    simp only [sSeq, sSkip, sAsg, sAsgP, sNew, sNewP, sRet, sRetO, sIf, sApp, sAppP, sSet, sAug, sTgt, sTgtP, sPar, sFz, frz, sFor, sForR, sRev, sBrk, sCnt, sDrop, eOp, eUn, eCall, eVar, eC, eFr, eTup, eTupR, eAnd, eOr, eNot, eIf, eChain, eIndex, eSl, nLst, nList, nListR, nLc, nLc2, nCall, nSorted, nRep, tOf, tAndJ, tOrJ, tNotJ, tTrue, iSeq, iR1, iR2, iR3, rg1, rg2, evA, pNo, pSo, startE, hide, rd, hide_v, hide_o, hide_n, rd_v, rd_o, rd_n, bind_one, bind_many, setAll, List.map, List.replicate, List.length, List.cons_append, List.nil_append, List.getElem?_cons_zero, List.getElem?_cons_succ, List.set_cons_zero, List.set_cons_succ, Option.bind_some, ex_some, Option.some.injEq, Slot.own.injEq, Slot.val.injEq, exists_eq_left', true_and, and_true, Bool.false_eq_true, if_false, if_true, reduceIte, wEq, wNe, wAdd_i, wAdd_t, wAdd_l, wAdd_s, wSub_i, wMul_i, wDiv_i, wMod_i, wPow_i, wNeg_i, wLt_i, wLe_i, wGt_i, wGe_i, wIs_n, wIs_b, wIsNot_n, wIsNot_b, wIx_l, wIx_t, wLen_l, wLen_t, wAbs_i, wInt_i, wInt_b, wMax2_i, wMin2_i, wTuple_l, wTuple_t, wB_b, wI_i, seqOf_l, seqOf_t, wIAdd_i, wIAdd_t, wIMul_i, wSl_l, wSl_t, wIn_l, wIn_t, wNotIn_l, wNotIn_t, items_l, items_t, lv_i, lv_b, lv_n, eqv_ii, eqv_bb, isNon_n, isNon_i, isNon_b, isNon_s, isNon_t, isNon_l, Bool.not_true, Bool.not_false, b2n_t, b2n_f, pl_i, pl_b, pl_n, decide_eq_true_eq]
    have hm : ss.foldl max s ∈ s :: ss := by
      rcases h1 with h | h
      · rw [h]; exact List.mem_cons_self
      · exact List.mem_cons_of_mem _ h
    have hf : (idxD ((s :: ss).map PyData.int) (.int (ss.foldl max s))).isSome = true := by
      unfold idxD
      rw [List.findIdx?_isSome, List.any_eq_true]
      exact ⟨_, List.mem_map.mpr ⟨_, hm, rfl⟩, by rw [eqv_ii]; exact decide_eq_true rfl⟩
    obtain ⟨j, hj⟩ := Option.isSome_iff_exists.mp hf
    refine ⟨j, hj, ?_⟩
    obtain ⟨hjd, hjt, hjn⟩ := List.findIdx?_eq_some_iff_getElem.mp hj
    have hl : j < (s :: ss).length := by rw [List.length_map] at hjd; exact hjd
    have le : ∀ y ∈ s :: ss, y ≤ ss.foldl max s := fun y hy => by
      rcases List.mem_cons.mp hy with rfl | hy
      · exact h2
      · exact h3 y hy
    refine q j (ss.foldl max s) ?_ le fun i y hi hy => ?_
    · rw [List.getElem_map, eqv_ii] at hjt
      rw [List.getElem?_eq_getElem hl, of_decide_eq_true hjt]
    · have hil : i < (s :: ss).length := by omega
      have := hjn i hi
      rw [List.getElem_map, eqv_ii] at this
      rw [List.getElem?_eq_getElem hil] at hy
      cases hy
      have h4 := le _ (List.getElem_mem hil)
      have h5 : ¬ (s :: ss)[i] = ss.foldl max s := fun e => this (decide_eq_true e)
      omega

/-! ## met_in_round -/
/-- how often two places must be halved until they are one -/
def halv : Nat → Nat → Nat → Nat
  | 0, _, _ => 0
  | f + 1, p, q => if p = q then 0 else halv f (p / 2) (q / 2) + 1
theorem idx_tab {j : Nat} (hj : j ≤ 6) {p : Nat} {a : Int} (h : (tab j)[p]? = some a) : idxD ((tab j).map PyData.int) (.int a) = some p := by
  obtain ⟨hp, ha⟩ := List.getElem?_eq_some_iff.mp h
  unfold idxD
  rw [List.findIdx?_eq_some_iff_getElem]
  refine ⟨by rw [List.length_map]; exact hp, by rw [List.getElem_map, eqv_ii, ha]; exact decide_eq_true rfl, fun i hi => ?_⟩
  have hil : i < (tab j).length := by omega
  rw [List.getElem_map, eqv_ii]
  intro e
  have e' := of_decide_eq_true e
  rw [← ha] at e'
  exact List.pairwise_iff_getElem.mp (tab_nodup hj) i p hil hp hi e'
/-! met_in_round: 0=n 1=one 2=other 3=table 4=rounds 5=first 6=second -/
def m_met_in_round_b4 : SX := (sSeq (sPar 5 6 [(eOp wDiv (eVar 5) (eC (.int 2))), (eOp wDiv (eVar 6) (eC (.int 2)))])
      (sAug 4 wIAdd (eC (.int 1))))
def m_met_in_round_r4 : SX := (sRet (eVar 4))
def m_met_in_round : SX := (sSeq (sAsg 3 (eCall S_table_of_seeds [(eVar 0)]))
      (sSeq (sPar 5 6 [(eIndex (eVar 3) (eVar 1)), (eIndex (eVar 3) (eVar 2))])
      (sSeq (sAsg 4 (eC (.int 0)))
      (sSeq (sWhile (tOf (eOp wNe (eVar 5) (eVar 6))) m_met_in_round_b4)
      m_met_in_round_r4))))
def S_met_in_round : WL := fun ds Q => ∃ (n a b : Int) (p q : Nat), ds = [.int n, .int a, .int b] ∧ n ≤ 64 ∧ (tab (rnd n))[p]? = some a ∧ (tab (rnd n))[q]? = some b ∧ Q (.int (halv (rnd n) p q : Nat))
theorem wp_met_in_round (ds : List D) (QD : D → Prop) (h : S_met_in_round ds QD) : m_met_in_round (startE 7 ds) ⟨fun _ => QD .none, QD, noB, noB, fun es => QD (.list es)⟩ := by
  obtain ⟨n, a, b, p, q, rfl, hn, hp, hq, k⟩ := h
  have hj6 := rnd_le n
  have lp := (List.getElem?_eq_some_iff.mp hp).1
  have lq := (List.getElem?_eq_some_iff.mp hq).1
  rw [tab_len] at lp lq
  unfold m_met_in_round
  simp only [sSeq, sSkip, sAsg, sAsgP, sNew, sNewP, sRet, sRetO, sIf, sApp, sAppP, sSet, sAug, sTgt, sTgtP, sPar, sFz, frz, sFor, sForR, sRev, sBrk, sCnt, sDrop, eOp, eUn, eCall, eVar, eC, eFr, eTup, eTupR, eAnd, eOr, eNot, eIf, eChain, eIndex, eSl, nLst, nList, nListR, nLc, nLc2, nCall, nSorted, nRep, tOf, tAndJ, tOrJ, tNotJ, tTrue, iSeq, iR1, iR2, iR3, rg1, rg2, evA, pNo, pSo, startE, hide, rd, hide_v, hide_o, hide_n, rd_v, rd_o, rd_n, bind_one, bind_many, setAll, List.map, List.replicate, List.length, List.cons_append, List.nil_append, List.getElem?_cons_zero, List.getElem?_cons_succ, List.set_cons_zero, List.set_cons_succ, Option.bind_some, ex_some, Option.some.injEq, Slot.own.injEq, Slot.val.injEq, exists_eq_left', true_and, and_true, Bool.false_eq_true, if_false, if_true, reduceIte, wEq, wNe, wAdd_i, wAdd_t, wAdd_l, wAdd_s, wSub_i, wMul_i, wDiv_i, wMod_i, wPow_i, wNeg_i, wLt_i, wLe_i, wGt_i, wGe_i, wIs_n, wIs_b, wIsNot_n, wIsNot_b, wIx_l, wIx_t, wLen_l, wLen_t, wAbs_i, wInt_i, wInt_b, wMax2_i, wMin2_i, wTuple_l, wTuple_t, wB_b, wI_i, seqOf_l, seqOf_t, wIAdd_i, wIAdd_t, wIMul_i, wSl_l, wSl_t, wIn_l, wIn_t, wNotIn_l, wNotIn_t, items_l, items_t, lv_i, lv_b, lv_n, eqv_ii, eqv_bb, isNon_n, isNon_i, isNon_b, isNon_s, isNon_t, isNon_l, Bool.not_true, Bool.not_false, b2n_t, b2n_f, pl_i, pl_b, pl_n, decide_eq_true_eq]
  refine ⟨n, rfl, hn, ?_⟩
  simp only [sSeq, sSkip, sAsg, sAsgP, sNew, sNewP, sRet, sRetO, sIf, sApp, sAppP, sSet, sAug, sTgt, sTgtP, sPar, sFz, frz, sFor, sForR, sRev, sBrk, sCnt, sDrop, eOp, eUn, eCall, eVar, eC, eFr, eTup, eTupR, eAnd, eOr, eNot, eIf, eChain, eIndex, eSl, nLst, nList, nListR, nLc, nLc2, nCall, nSorted, nRep, tOf, tAndJ, tOrJ, tNotJ, tTrue, iSeq, iR1, iR2, iR3, rg1, rg2, evA, pNo, pSo, startE, hide, rd, hide_v, hide_o, hide_n, rd_v, rd_o, rd_n, bind_one, bind_many, setAll, List.map, List.replicate, List.length, List.cons_append, List.nil_append, List.getElem?_cons_zero, List.getElem?_cons_succ, List.set_cons_zero, List.set_cons_succ, Option.bind_some, ex_some, Option.some.injEq, Slot.own.injEq, Slot.val.injEq, exists_eq_left', true_and, and_true, Bool.false_eq_true, if_false, if_true, reduceIte, wEq, wNe, wAdd_i, wAdd_t, wAdd_l, wAdd_s, wSub_i, wMul_i, wDiv_i, wMod_i, wPow_i, wNeg_i, wLt_i, wLe_i, wGt_i, wGe_i, wIs_n, wIs_b, wIsNot_n, wIsNot_b, wIx_l, wIx_t, wLen_l, wLen_t, wAbs_i, wInt_i, wInt_b, wMax2_i, wMin2_i, wTuple_l, wTuple_t, wB_b, wI_i, seqOf_l, seqOf_t, wIAdd_i, wIAdd_t, wIMul_i, wSl_l, wSl_t, wIn_l, wIn_t, wNotIn_l, wNotIn_t, items_l, items_t, lv_i, lv_b, lv_n, eqv_ii, eqv_bb, isNon_n, isNon_i, isNon_b, isNon_s, isNon_t, isNon_l, Bool.not_true, Bool.not_false, b2n_t, b2n_f, pl_i, pl_b, pl_n, decide_eq_true_eq, lv_ints, idx_tab hj6 hp, idx_tab hj6 hq]
  refine while_up (rnd n) (fun i e => i ≤ rnd n ∧ ∃ p' q' : Nat, p' < 2 ^ (rnd n - i) ∧ q' < 2 ^ (rnd n - i) ∧ halv (rnd n) p q = halv (rnd n - i) p' q' + i ∧ e = [.val (.int n), .val (.int a), .val (.int b), .val (.list ((tab (rnd n)).map PyData.int)), .val (.int (i : Nat)), .val (.int (p' : Nat)), .val (.int (q' : Nat))])
    ⟨Nat.zero_le _, p, q, lp, lq, rfl, rfl⟩ ?_
  rintro i e hi ⟨hi2, p', q', lp', lq', hh, rfl⟩ R hR
  unfold m_met_in_round_b4 m_met_in_round_r4
  simp only [sSeq, sSkip, sAsg, sAsgP, sNew, sNewP, sRet, sRetO, sIf, sApp, sAppP, sSet, sAug, sTgt, sTgtP, sPar, sFz, frz, sFor, sForR, sRev, sBrk, sCnt, sDrop, eOp, eUn, eCall, eVar, eC, eFr, eTup, eTupR, eAnd, eOr, eNot, eIf, eChain, eIndex, eSl, nLst, nList, nListR, nLc, nLc2, nCall, nSorted, nRep, tOf, tAndJ, tOrJ, tNotJ, tTrue, iSeq, iR1, iR2, iR3, rg1, rg2, evA, pNo, pSo, startE, hide, rd, hide_v, hide_o, hide_n, rd_v, rd_o, rd_n, bind_one, bind_many, setAll, List.map, List.replicate, List.length, List.cons_append, List.nil_append, List.getElem?_cons_zero, List.getElem?_cons_succ, List.set_cons_zero, List.set_cons_succ, Option.bind_some, ex_some, Option.some.injEq, Slot.own.injEq, Slot.val.injEq, exists_eq_left', true_and, and_true, Bool.false_eq_true, if_false, if_true, reduceIte, wEq, wNe, wAdd_i, wAdd_t, wAdd_l, wAdd_s, wSub_i, wMul_i, wDiv_i, wMod_i, wPow_i, wNeg_i, wLt_i, wLe_i, wGt_i, wGe_i, wIs_n, wIs_b, wIsNot_n, wIsNot_b, wIx_l, wIx_t, wLen_l, wLen_t, wAbs_i, wInt_i, wInt_b, wMax2_i, wMin2_i, wTuple_l, wTuple_t, wB_b, wI_i, seqOf_l, seqOf_t, wIAdd_i, wIAdd_t, wIMul_i, wSl_l, wSl_t, wIn_l, wIn_t, wNotIn_l, wNotIn_t, items_l, items_t, lv_i, lv_b, lv_n, eqv_ii, eqv_bb, isNon_n, isNon_i, isNon_b, isNon_s, isNon_t, isNon_l, Bool.not_true, Bool.not_false, b2n_t, b2n_f, pl_i, pl_b, pl_n, decide_eq_true_eq, Bool.not_eq_true']
  split
  · rename_i hne
    have hne' : ¬ p' = q' := by
      first | omega | (simp at hne; omega)
    have hlt : i < rnd n := by
      by_cases c : i < rnd n
      · exact c
      · have : rnd n - i = 0 := by omega
        rw [this] at lp' lq'
        omega
    obtain ⟨f, hf⟩ : ∃ f, rnd n - i = f + 1 := ⟨rnd n - i - 1, by omega⟩
    have hf2 : rnd n - (i + 1) = f := by omega
    rw [hf, Nat.pow_succ] at lp' lq'
    rw [hf] at hh
    have hh' : halv (f + 1) p' q' = halv f (p' / 2) (q' / 2) + 1 := by rw [halv, if_neg hne']
    refine ⟨div_s (by decide), div_s (by decide), hR _ hlt ⟨hlt, p' / 2, q' / 2, by rw [hf2]; omega, by rw [hf2]; omega, by rw [hf2, hh, hh']; omega, ?_⟩⟩
    simp
  · rename_i heq
    have heq' : p' = q' := by
      first | omega | (simp at heq; omega)
    have : halv (rnd n - i) p' q' = 0 := by
      cases rnd n - i with
      | zero => rfl
      | succ f => rw [halv, if_pos heq']
    rw [hh, this, Nat.zero_add] at k
    exact k

/-! ## _law_table -/
/-! _law_table: 0=n 1=table 2=longer 3=seed -/
def m__law_table_b4 : SX := (sSeq (sApp 2 (eVar 3))
      (sApp 2 (eOp wSub (eOp wSub (eOp wMul (eC (.int 2)) (eCall wLen [(eVar 1)])) (eC (.int 1))) (eVar 3))))
def m__law_table_r4 : SX := (sFz 2 (sAsg 1 (eVar 2)))
def m__law_table_b2 : SX := (sSeq (sNew 2 (nLst []))
      (sSeq (sFor (iSeq (eVar 1)) (.one 3) m__law_table_b4)
      m__law_table_r4))
def m__law_table_r2 : SX := (sRet (eVar 1))
def m__law_table : SX := (sSeq (sAsg 1 (eFr (nLst [(eC (.int 0))])))
      (sSeq (sWhile (tOf (eOp wLt (eCall wLen [(eVar 1)]) (eVar 0))) m__law_table_b2)
      m__law_table_r2))
def S__law_table : WL := S_table_of_seeds
theorem tab_take (j i : Nat) (s : Int) (h : (tab j)[i]? = some s) : ((tab j).take (i + 1)).flatMap (fun s => [s, 2 * 2 ^ j - 1 - s]) = ((tab j).take i).flatMap (fun s => [s, 2 * 2 ^ j - 1 - s]) ++ [s, 2 * 2 ^ j - 1 - s] := by
  obtain ⟨h1, h2⟩ := List.getElem?_eq_some_iff.mp h
  rw [List.take_succ, h, List.flatMap_append]
  rfl
theorem flat2_len (j : Nat) : ∀ l : List Int, (l.flatMap fun s : Int => ([s, 2 * 2 ^ j - 1 - s] : List Int)).length = 2 * l.length
  | [] => rfl
  | a :: l => by
    rw [List.flatMap_cons, List.length_append, flat2_len j l]
    simp only [List.length_cons, List.length_nil]
    omega
theorem wp__law_table (ds : List D) (QD : D → Prop) (h : S__law_table ds QD) : m__law_table (startE 4 ds) ⟨fun _ => QD .none, QD, noB, noB, fun es => QD (.list es)⟩ := by
  obtain ⟨n, rfl, hn, q⟩ := h
  have hs : sizeLine = 16777216 := sizeLine_eq
  unfold m__law_table
  simp only [sSeq, sSkip, sAsg, sAsgP, sNew, sNewP, sRet, sRetO, sIf, sApp, sAppP, sSet, sAug, sTgt, sTgtP, sPar, sFz, frz, sFor, sForR, sRev, sBrk, sCnt, sDrop, eOp, eUn, eCall, eVar, eC, eFr, eTup, eTupR, eAnd, eOr, eNot, eIf, eChain, eIndex, eSl, nLst, nList, nListR, nLc, nLc2, nCall, nSorted, nRep, tOf, tAndJ, tOrJ, tNotJ, tTrue, iSeq, iR1, iR2, iR3, rg1, rg2, evA, pNo, pSo, startE, hide, rd, hide_v, hide_o, hide_n, rd_v, rd_o, rd_n, bind_one, bind_many, setAll, List.map, List.replicate, List.length, List.cons_append, List.nil_append, List.getElem?_cons_zero, List.getElem?_cons_succ, List.set_cons_zero, List.set_cons_succ, Option.bind_some, ex_some, Option.some.injEq, Slot.own.injEq, Slot.val.injEq, exists_eq_left', true_and, and_true, Bool.false_eq_true, if_false, if_true, reduceIte, wEq, wNe, wAdd_i, wAdd_t, wAdd_l, wAdd_s, wSub_i, wMul_i, wDiv_i, wMod_i, wPow_i, wNeg_i, wLt_i, wLe_i, wGt_i, wGe_i, wIs_n, wIs_b, wIsNot_n, wIsNot_b, wIx_l, wIx_t, wLen_l, wLen_t, wAbs_i, wInt_i, wInt_b, wMax2_i, wMin2_i, wTuple_l, wTuple_t, wB_b, wI_i, seqOf_l, seqOf_t, wIAdd_i, wIAdd_t, wIMul_i, wSl_l, wSl_t, wIn_l, wIn_t, wNotIn_l, wNotIn_t, items_l, items_t, lv_i, lv_b, lv_n, eqv_ii, eqv_bb, isNon_n, isNon_i, isNon_b, isNon_s, isNon_t, isNon_l, Bool.not_true, Bool.not_false, b2n_t, b2n_f, pl_i, pl_b, pl_n, decide_eq_true_eq]
  refine while_up (rnd n) (fun j e => j ≤ rnd n ∧ ∃ s2 s3, e = [.val (.int n), .val (.list ((tab j).map PyData.int)), s2, s3]) ⟨Nat.zero_le _, _, _, rfl⟩ ?_
  rintro j e hj ⟨hj2, s2, s3, rfl⟩ R hR
  unfold m__law_table_b2 m__law_table_r2
  have st := rnd_step hn hj
  have hj6 := Nat.le_trans hj (rnd_le n)
  have h64 : 2 ^ j ≤ 2 ^ 6 := Nat.pow_le_pow_right (by decide) hj6
  simp only [sSeq, sSkip, sAsg, sAsgP, sNew, sNewP, sRet, sRetO, sIf, sApp, sAppP, sSet, sAug, sTgt, sTgtP, sPar, sFz, frz, sFor, sForR, sRev, sBrk, sCnt, sDrop, eOp, eUn, eCall, eVar, eC, eFr, eTup, eTupR, eAnd, eOr, eNot, eIf, eChain, eIndex, eSl, nLst, nList, nListR, nLc, nLc2, nCall, nSorted, nRep, tOf, tAndJ, tOrJ, tNotJ, tTrue, iSeq, iR1, iR2, iR3, rg1, rg2, evA, pNo, pSo, startE, hide, rd, hide_v, hide_o, hide_n, rd_v, rd_o, rd_n, bind_one, bind_many, setAll, List.map, List.replicate, List.length, List.cons_append, List.nil_append, List.getElem?_cons_zero, List.getElem?_cons_succ, List.set_cons_zero, List.set_cons_succ, Option.bind_some, ex_some, Option.some.injEq, Slot.own.injEq, Slot.val.injEq, exists_eq_left', true_and, and_true, Bool.false_eq_true, if_false, if_true, reduceIte, wEq, wNe, wAdd_i, wAdd_t, wAdd_l, wAdd_s, wSub_i, wMul_i, wDiv_i, wMod_i, wPow_i, wNeg_i, wLt_i, wLe_i, wGt_i, wGe_i, wIs_n, wIs_b, wIsNot_n, wIsNot_b, wIx_l, wIx_t, wLen_l, wLen_t, wAbs_i, wInt_i, wInt_b, wMax2_i, wMin2_i, wTuple_l, wTuple_t, wB_b, wI_i, seqOf_l, seqOf_t, wIAdd_i, wIAdd_t, wIMul_i, wSl_l, wSl_t, wIn_l, wIn_t, wNotIn_l, wNotIn_t, items_l, items_t, lv_i, lv_b, lv_n, eqv_ii, eqv_bb, isNon_n, isNon_i, isNon_b, isNon_s, isNon_t, isNon_l, Bool.not_true, Bool.not_false, b2n_t, b2n_f, pl_i, pl_b, pl_n, decide_eq_true_eq, len_tab]
  split
  · rename_i hlt
    refine forW_inv (fun i e => ∃ s3, e = [.val (.int n), .val (.list ((tab j).map PyData.int)), .own ((((tab j).take i).flatMap (fun s => [s, 2 * 2 ^ j - 1 - s])).map PyData.int), s3]) ⟨_, rfl⟩ ?_ ?_
    · rintro i d e hi ⟨s3, rfl⟩ R2 hR2
      rw [List.getElem?_map] at hi
      obtain ⟨s, hsi, rfl⟩ := Option.map_eq_some_iff.mp hi
      have hil := (List.getElem?_eq_some_iff.mp hsi).1
      rw [tab_len] at hil
      refine ⟨_, rfl, ?_⟩
      unfold m__law_table_b4
      simp only [sSeq, sSkip, sAsg, sAsgP, sNew, sNewP, sRet, sRetO, sIf, sApp, sAppP, sSet, sAug, sTgt, sTgtP, sPar, sFz, frz, sFor, sForR, sRev, sBrk, sCnt, sDrop, eOp, eUn, eCall, eVar, eC, eFr, eTup, eTupR, eAnd, eOr, eNot, eIf, eChain, eIndex, eSl, nLst, nList, nListR, nLc, nLc2, nCall, nSorted, nRep, tOf, tAndJ, tOrJ, tNotJ, tTrue, iSeq, iR1, iR2, iR3, rg1, rg2, evA, pNo, pSo, startE, hide, rd, hide_v, hide_o, hide_n, rd_v, rd_o, rd_n, bind_one, bind_many, setAll, List.map, List.replicate, List.length, List.cons_append, List.nil_append, List.getElem?_cons_zero, List.getElem?_cons_succ, List.set_cons_zero, List.set_cons_succ, Option.bind_some, ex_some, Option.some.injEq, Slot.own.injEq, Slot.val.injEq, exists_eq_left', true_and, and_true, Bool.false_eq_true, if_false, if_true, reduceIte, wEq, wNe, wAdd_i, wAdd_t, wAdd_l, wAdd_s, wSub_i, wMul_i, wDiv_i, wMod_i, wPow_i, wNeg_i, wLt_i, wLe_i, wGt_i, wGe_i, wIs_n, wIs_b, wIsNot_n, wIsNot_b, wIx_l, wIx_t, wLen_l, wLen_t, wAbs_i, wInt_i, wInt_b, wMax2_i, wMin2_i, wTuple_l, wTuple_t, wB_b, wI_i, seqOf_l, seqOf_t, wIAdd_i, wIAdd_t, wIMul_i, wSl_l, wSl_t, wIn_l, wIn_t, wNotIn_l, wNotIn_t, items_l, items_t, lv_i, lv_b, lv_n, eqv_ii, eqv_bb, isNon_n, isNon_i, isNon_b, isNon_s, isNon_t, isNon_l, Bool.not_true, Bool.not_false, b2n_t, b2n_f, pl_i, pl_b, pl_n, decide_eq_true_eq, len_tab]
      have hl : ((((tab j).take i).flatMap (fun s => [s, 2 * 2 ^ j - 1 - s])).map PyData.int).length < 200 := by
        rw [List.length_map, flat2_len, List.length_take, tab_len]
        omega
      refine ⟨by omega, by rw [List.length_append]; simp only [List.length_cons, List.length_nil]; omega, mul_l (by decide), hR2 _ ⟨.val (.int s), ?_⟩⟩
      rw [tab_take j i s hsi, List.map_append, List.append_assoc]
      rfl
    · rintro e ⟨s3, rfl⟩
      unfold m__law_table_r4
      simp only [sSeq, sSkip, sAsg, sAsgP, sNew, sNewP, sRet, sRetO, sIf, sApp, sAppP, sSet, sAug, sTgt, sTgtP, sPar, sFz, frz, sFor, sForR, sRev, sBrk, sCnt, sDrop, eOp, eUn, eCall, eVar, eC, eFr, eTup, eTupR, eAnd, eOr, eNot, eIf, eChain, eIndex, eSl, nLst, nList, nListR, nLc, nLc2, nCall, nSorted, nRep, tOf, tAndJ, tOrJ, tNotJ, tTrue, iSeq, iR1, iR2, iR3, rg1, rg2, evA, pNo, pSo, startE, hide, rd, hide_v, hide_o, hide_n, rd_v, rd_o, rd_n, bind_one, bind_many, setAll, List.map, List.replicate, List.length, List.cons_append, List.nil_append, List.getElem?_cons_zero, List.getElem?_cons_succ, List.set_cons_zero, List.set_cons_succ, Option.bind_some, ex_some, Option.some.injEq, Slot.own.injEq, Slot.val.injEq, exists_eq_left', true_and, and_true, Bool.false_eq_true, if_false, if_true, reduceIte, wEq, wNe, wAdd_i, wAdd_t, wAdd_l, wAdd_s, wSub_i, wMul_i, wDiv_i, wMod_i, wPow_i, wNeg_i, wLt_i, wLe_i, wGt_i, wGe_i, wIs_n, wIs_b, wIsNot_n, wIsNot_b, wIx_l, wIx_t, wLen_l, wLen_t, wAbs_i, wInt_i, wInt_b, wMax2_i, wMin2_i, wTuple_l, wTuple_t, wB_b, wI_i, seqOf_l, seqOf_t, wIAdd_i, wIAdd_t, wIMul_i, wSl_l, wSl_t, wIn_l, wIn_t, wNotIn_l, wNotIn_t, items_l, items_t, lv_i, lv_b, lv_n, eqv_ii, eqv_bb, isNon_n, isNon_i, isNon_b, isNon_s, isNon_t, isNon_l, Bool.not_true, Bool.not_false, b2n_t, b2n_f, pl_i, pl_b, pl_n, decide_eq_true_eq]
      refine hR _ (st.mp hlt) ⟨st.mp hlt, .val (.list ((tab (j + 1)).map PyData.int)), s3, ?_⟩
      have e1 : ((tab j).map PyData.int).length = (tab j).length := List.length_map _
      rw [e1, List.take_length]
      rfl
  · rename_i hlt
    have : j = rnd n := by
      have := mt st.mpr hlt
      omega
    rw [← this] at q
    exact q

/-! ## battles -/
def enc : Option Int → D
  | none => .none
  | some i => .int i
def duel (f : Int → Int) : Option Int → Option Int → Option Int
  | none, b => b
  | some a, none => some a
  | some a, some b => some (if f (min a b) < f (max a b) then max a b else min a b)
def meetP : Option Int → Option Int → List (Int × Int)
  | some a, some b => [(min a b, max a b)]
  | _, _ => []
def nextL (f : Int → Int) : List (Option Int) → List (Option Int)
  | a :: b :: r => duel f a b :: nextL f r
  | _ => []
def metL : List (Option Int) → List (Int × Int)
  | a :: b :: r => meetP a b ++ metL r
  | _ => []
def plays (f : Int → Int) : Nat → List (Option Int) → Option Int × List (List (Int × Int))
  | 0, l => (l.headD none, [])
  | j + 1, l => ((plays f j (nextL f l)).1, metL l :: (plays f j (nextL f l)).2)
def encP (p : Int × Int) : D := .tuple [.int p.1, .int p.2]
def encR (r : List (Int × Int)) : D := .list (r.map encP)
theorem next_len (f : Int → Int) : ∀ (m : Nat) (l : List (Option Int)), l.length = 2 * m → (nextL f l).length = m
  | 0, [], _ => rfl
  | 0, _ :: _, h => by simp at h
  | m + 1, [], h => by simp at h
  | m + 1, [a], h => by simp at h; omega
  | m + 1, a :: b :: r, h => by
    show (nextL f r).length + 1 = _
    rw [next_len f m r (by simp at h; omega)]
theorem next_take (f : Int → Int) : ∀ (i : Nat) (l : List (Option Int)) (a b : Option Int), l[2 * i]? = some a → l[2 * i + 1]? = some b → nextL f (l.take (2 * (i + 1))) = nextL f (l.take (2 * i)) ++ [duel f a b] ∧ metL (l.take (2 * (i + 1))) = metL (l.take (2 * i)) ++ meetP a b
  | _, [], _, _, h, _ => by simp at h
  | i, [x], a, b, h, h2 => by
    have := (List.getElem?_eq_some_iff.mp h2).1
    simp at this
  | 0, x :: y :: r, a, b, h, h2 => by
    simp at h h2
    subst h h2
    refine ⟨rfl, ?_⟩
    show meetP x y ++ [] = [] ++ meetP x y
    simp
  | i + 1, x :: y :: r, a, b, h, h2 => by
    have e1 : r[2 * i]? = some a := by
      rw [show 2 * (i + 1) = 2 * i + 1 + 1 by omega] at h
      simpa using h
    have e2 : r[2 * i + 1]? = some b := by
      rw [show 2 * (i + 1) + 1 = 2 * i + 1 + 1 + 1 by omega] at h2
      simpa using h2
    obtain ⟨i1, i2⟩ := next_take f i r a b e1 e2
    rw [show 2 * (i + 1 + 1) = 2 * (i + 1) + 1 + 1 by omega, show 2 * (i + 1) = 2 * i + 1 + 1 by omega]
    rw [List.take_succ_cons, List.take_succ_cons, List.take_succ_cons, List.take_succ_cons]
    constructor
    · show duel f x y :: nextL f (r.take (2 * i + 1 + 1)) = (duel f x y :: nextL f (r.take (2 * i))) ++ _
      rw [show 2 * i + 1 + 1 = 2 * (i + 1) by omega, i1]
      rfl
    · show meetP x y ++ metL (r.take (2 * i + 1 + 1)) = (meetP x y ++ metL (r.take (2 * i))) ++ _
      rw [show 2 * i + 1 + 1 = 2 * (i + 1) by omega, i2, List.append_assoc]
theorem met_len : ∀ l : List (Option Int), (metL l).length ≤ l.length
  | [] => Nat.le_refl _
  | [_] => Nat.zero_le _
  | a :: b :: r => by
    show (meetP a b ++ metL r).length ≤ _
    have h1 : (meetP a b).length ≤ 1 := by cases a <;> cases b <;> simp [meetP]
    have h2 := met_len r
    rw [List.length_append]
    simp only [List.length_cons]
    omega
/-- all seeds are singers -/
def Val (n : Nat) (l : List (Option Int)) : Prop := ∀ a, some a ∈ l → 0 ≤ a ∧ a < n
theorem duel_or (f : Int → Int) (a b : Option Int) : duel f a b = a ∨ duel f a b = b := by
  cases a with
  | none => exact .inr rfl
  | some a =>
    cases b with
    | none => exact .inl rfl
    | some b =>
      by_cases h : f (min a b) < f (max a b)
      · have e : duel f (some a) (some b) = some (max a b) := congrArg some (if_pos h)
        rw [e, Option.some.injEq, Option.some.injEq]
        omega
      · have e : duel f (some a) (some b) = some (min a b) := congrArg some (if_neg h)
        rw [e, Option.some.injEq, Option.some.injEq]
        omega
theorem next_mem (f : Int → Int) : ∀ (l : List (Option Int)) (x : Option Int), x ∈ nextL f l → x ∈ l
  | [], _, h => by cases h
  | [_], _, h => by cases h
  | a :: b :: r, x, h => by
    rcases List.mem_cons.mp (show x ∈ duel f a b :: nextL f r from h) with h | h
    · rcases duel_or f a b with e | e <;> (rw [e] at h; subst h; simp)
    · have := next_mem f r x h
      simp [this]
theorem Val.next {n : Nat} {f : Int → Int} {l : List (Option Int)} (h : Val n l) : Val n (nextL f l) := fun a ha => h a (next_mem f l _ ha)
/-! ## _law_played -/
/-! _law_played: 0=table 1=strengths 2=left 3=rounds 4=met 5=later 6=k 7=seed 8=one 9=other 10=first -/
def m__law_played_b6 : SX := (sSeq (sAsg 8 (eOp wIx (eVar 2) (eVar 6)))
      (sSeq (sAsg 9 (eOp wIx (eVar 2) (eOp wAdd (eVar 6) (eC (.int 1)))))
      (sIf (tOrJ (tOf (eOp wIs (eVar 8) (eC .none))) (tOf (eOp wIs (eVar 9) (eC .none)))) (sApp 5 (eOp wIx (eFr (nLst [(eVar 8), (eVar 9)])) (eCall wInt [(eOp wIs (eVar 8) (eC .none))]))) (sSeq (sApp 4 (eTup [(eCall wMin2 [(eVar 8), (eVar 9)]), (eCall wMax2 [(eVar 8), (eVar 9)])]))
      (sSeq (sAsg 10 (eCall wMin2 [(eVar 8), (eVar 9)]))
      (sSeq (sIf (tOf (eOp wGt (eOp wIx (eVar 1) (eCall wMax2 [(eVar 8), (eVar 9)])) (eOp wIx (eVar 1) (eVar 10)))) (sAsg 10 (eCall wMax2 [(eVar 8), (eVar 9)])) sSkip)
      (sApp 5 (eVar 10))))))))
def m__law_played_r6 : SX := (sSeq (sFz 4 (sApp 3 (eVar 4)))
      (sFz 5 (sAsg 2 (eVar 5))))
def m__law_played_b3 : SX := (sSeq (sNew 4 (nLst []))
      (sSeq (sNew 5 (nLst []))
      (sSeq (sForR (iR3 (eC (.int 0)) (eCall wLen [(eVar 2)]) (eC (.int 2))) (.one 6) m__law_played_b6)
      m__law_played_r6)))
def m__law_played_r3 : SX := (sRet (eTup [(eOp wIx (eVar 2) (eC (.int 0))), (eVar 3)]))
def m__law_played : SX := (sSeq (sAsg 2 (eFr (nLc (iSeq (eVar 0)) (.one 7) [7] tTrue (eVar 7))))
      (sSeq (sNew 3 (nLst []))
      (sSeq (sWhile (tOf (eOp wGt (eCall wLen [(eVar 2)]) (eC (.int 1)))) m__law_played_b3)
      m__law_played_r3)))
def S__law_played : WL := fun ds Q => ∃ (t s : D) (l : List (Option Int)) (ss : List Int) (j : Nat), ds = [t, s] ∧ items t = some (l.map enc) ∧ items s = some (ss.map PyData.int) ∧ l.length = 2 ^ j ∧ j ≤ 6 ∧ Val ss.length l ∧
  Q (.tuple [enc (plays (fun i => ss.getD i.toNat 0) j l).1, .list ((plays (fun i => ss.getD i.toNat 0) j l).2.map encR)])
theorem wIx_items {s : D} {ds : List D} (h : items s = some ds) {i : Int} {Q : D → Prop} : wIx s (.int i) Q = ∃ d, atI ds i = some d ∧ Q d := by
  cases s <;> first | (cases h; done) | skip
  · cases h; rfl
  · cases h; rfl
theorem seqOf_items {s : D} {ds : List D} (h : items s = some ds) {Q : List D → Prop} : seqOf s Q = Q ds := by
  cases s <;> first | (cases h; done) | skip
  · cases h; rfl
  · cases h; rfl
theorem isNon_enc (a : Option Int) : isNon (enc a) = a.isNone := by cases a <;> rfl
theorem wp__law_played (ds : List D) (QD : D → Prop) (h : S__law_played ds QD) : m__law_played (startE 11 ds) ⟨fun _ => QD .none, QD, noB, noB, fun es => QD (.list es)⟩ := by
  obtain ⟨t, s, l, ss, j, rfl, ht, hs, hl, hj, hv, q⟩ := h
  have hz : sizeLine = 16777216 := sizeLine_eq
  generalize hf : (fun i : Int => ss.getD i.toNat 0) = f at q
  have fat : ∀ a : Int, 0 ≤ a ∧ a < ss.length → atI (ss.map PyData.int) a = some (.int (f a)) := fun a ⟨h0, h1⟩ => by
    have h2 : a.toNat < ss.length := by omega
    rw [atI_map, atI_nat h0 h1, List.getElem?_eq_getElem h2, ← hf]
    show some (PyData.int _) = some (PyData.int (ss.getD a.toNat 0))
    rw [List.getD_eq_getElem?_getD, List.getElem?_eq_getElem h2]
    rfl
  unfold m__law_played
  simp only [sSeq, sSkip, sAsg, sAsgP, sNew, sNewP, sRet, sRetO, sIf, sApp, sAppP, sSet, sAug, sTgt, sTgtP, sPar, sFz, frz, sFor, sForR, sRev, sBrk, sCnt, sDrop, eOp, eUn, eCall, eVar, eC, eFr, eTup, eTupR, eAnd, eOr, eNot, eIf, eChain, eIndex, eSl, nLst, nList, nListR, nLc, nLc2, nCall, nSorted, nRep, tOf, tAndJ, tOrJ, tNotJ, tTrue, iSeq, iR1, iR2, iR3, rg1, rg2, evA, pNo, pSo, startE, hide, rd, hide_v, hide_o, hide_n, rd_v, rd_o, rd_n, bind_one, bind_many, setAll, List.map, List.replicate, List.length, List.cons_append, List.nil_append, List.getElem?_cons_zero, List.getElem?_cons_succ, List.set_cons_zero, List.set_cons_succ, Option.bind_some, ex_some, Option.some.injEq, Slot.own.injEq, Slot.val.injEq, exists_eq_left', true_and, and_true, Bool.false_eq_true, if_false, if_true, reduceIte, wEq, wNe, wAdd_i, wAdd_t, wAdd_l, wAdd_s, wSub_i, wMul_i, wDiv_i, wMod_i, wPow_i, wNeg_i, wLt_i, wLe_i, wGt_i, wGe_i, wIs_n, wIs_b, wIsNot_n, wIsNot_b, wIx_l, wIx_t, wLen_l, wLen_t, wAbs_i, wInt_i, wInt_b, wMax2_i, wMin2_i, wTuple_l, wTuple_t, wB_b, wI_i, seqOf_l, seqOf_t, wIAdd_i, wIAdd_t, wIMul_i, wSl_l, wSl_t, wIn_l, wIn_t, wNotIn_l, wNotIn_t, items_l, items_t, lv_i, lv_b, lv_n, eqv_ii, eqv_bb, isNon_n, isNon_i, isNon_b, isNon_s, isNon_t, isNon_l, Bool.not_true, Bool.not_false, b2n_t, b2n_f, pl_i, pl_b, pl_n, decide_eq_true_eq, seqOf_items ht]
  refine mapW_map (fun d => d) (fun d hd R hR => ?_) ?_
  · refine ⟨_, rfl, ?_⟩
    simp only [sSeq, sSkip, sAsg, sAsgP, sNew, sNewP, sRet, sRetO, sIf, sApp, sAppP, sSet, sAug, sTgt, sTgtP, sPar, sFz, frz, sFor, sForR, sRev, sBrk, sCnt, sDrop, eOp, eUn, eCall, eVar, eC, eFr, eTup, eTupR, eAnd, eOr, eNot, eIf, eChain, eIndex, eSl, nLst, nList, nListR, nLc, nLc2, nCall, nSorted, nRep, tOf, tAndJ, tOrJ, tNotJ, tTrue, iSeq, iR1, iR2, iR3, rg1, rg2, evA, pNo, pSo, startE, hide, rd, hide_v, hide_o, hide_n, rd_v, rd_o, rd_n, bind_one, bind_many, setAll, List.map, List.replicate, List.length, List.cons_append, List.nil_append, List.getElem?_cons_zero, List.getElem?_cons_succ, List.set_cons_zero, List.set_cons_succ, Option.bind_some, ex_some, Option.some.injEq, Slot.own.injEq, Slot.val.injEq, exists_eq_left', true_and, and_true, Bool.false_eq_true, if_false, if_true, reduceIte, wEq, wNe, wAdd_i, wAdd_t, wAdd_l, wAdd_s, wSub_i, wMul_i, wDiv_i, wMod_i, wPow_i, wNeg_i, wLt_i, wLe_i, wGt_i, wGe_i, wIs_n, wIs_b, wIsNot_n, wIsNot_b, wIx_l, wIx_t, wLen_l, wLen_t, wAbs_i, wInt_i, wInt_b, wMax2_i, wMin2_i, wTuple_l, wTuple_t, wB_b, wI_i, seqOf_l, seqOf_t, wIAdd_i, wIAdd_t, wIMul_i, wSl_l, wSl_t, wIn_l, wIn_t, wNotIn_l, wNotIn_t, items_l, items_t, lv_i, lv_b, lv_n, eqv_ii, eqv_bb, isNon_n, isNon_i, isNon_b, isNon_s, isNon_t, isNon_l, Bool.not_true, Bool.not_false, b2n_t, b2n_f, pl_i, pl_b, pl_n, decide_eq_true_eq, wipeE]
    exact hR
  rw [List.map_id']
  refine while_up j (fun k e => k ≤ j ∧ ∃ (lk : List (Option Int)) (Rk : List (List (Int × Int))) (s4 s5 s6 s8 s9 s10 : Slot), lk.length = 2 ^ (j - k) ∧ Val ss.length lk ∧ Rk.length = k ∧ (plays f j l).1 = (plays f (j - k) lk).1 ∧ (plays f j l).2 = Rk ++ (plays f (j - k) lk).2 ∧
    e = [.val t, .val s, .val (.list (lk.map enc)), .own (Rk.map encR), s4, s5, s6, .no, s8, s9, s10]) ⟨Nat.zero_le _, l, [], _, _, _, _, _, _, hl, hv, rfl, rfl, rfl, rfl⟩ ?_
  rintro k e hk ⟨_, lk, Rk, s4, s5, s6, s8, s9, s10, hlk, hvk, hRk, hp1, hp2, rfl⟩ R hR
  have h64 : 2 ^ (j - k) ≤ 2 ^ 6 := Nat.pow_le_pow_right (by decide) (by omega)
  unfold m__law_played_b3 m__law_played_r3
  simp only [sSeq, sSkip, sAsg, sAsgP, sNew, sNewP, sRet, sRetO, sIf, sApp, sAppP, sSet, sAug, sTgt, sTgtP, sPar, sFz, frz, sFor, sForR, sRev, sBrk, sCnt, sDrop, eOp, eUn, eCall, eVar, eC, eFr, eTup, eTupR, eAnd, eOr, eNot, eIf, eChain, eIndex, eSl, nLst, nList, nListR, nLc, nLc2, nCall, nSorted, nRep, tOf, tAndJ, tOrJ, tNotJ, tTrue, iSeq, iR1, iR2, iR3, rg1, rg2, evA, pNo, pSo, startE, hide, rd, hide_v, hide_o, hide_n, rd_v, rd_o, rd_n, bind_one, bind_many, setAll, List.map, List.replicate, List.length, List.cons_append, List.nil_append, List.getElem?_cons_zero, List.getElem?_cons_succ, List.set_cons_zero, List.set_cons_succ, Option.bind_some, ex_some, Option.some.injEq, Slot.own.injEq, Slot.val.injEq, exists_eq_left', true_and, and_true, Bool.false_eq_true, if_false, if_true, reduceIte, wEq, wNe, wAdd_i, wAdd_t, wAdd_l, wAdd_s, wSub_i, wMul_i, wDiv_i, wMod_i, wPow_i, wNeg_i, wLt_i, wLe_i, wGt_i, wGe_i, wIs_n, wIs_b, wIsNot_n, wIsNot_b, wIx_l, wIx_t, wLen_l, wLen_t, wAbs_i, wInt_i, wInt_b, wMax2_i, wMin2_i, wTuple_l, wTuple_t, wB_b, wI_i, seqOf_l, seqOf_t, wIAdd_i, wIAdd_t, wIMul_i, wSl_l, wSl_t, wIn_l, wIn_t, wNotIn_l, wNotIn_t, items_l, items_t, lv_i, lv_b, lv_n, eqv_ii, eqv_bb, isNon_n, isNon_i, isNon_b, isNon_s, isNon_t, isNon_l, Bool.not_true, Bool.not_false, b2n_t, b2n_f, pl_i, pl_b, pl_n, decide_eq_true_eq, List.length_map, hlk, pow_cast]
  split
  · rename_i hlt
    have hkj : k < j := by
      by_cases c : k < j
      · exact c
      · have : j - k = 0 := by omega
        rw [this] at hlt
        simp at hlt
    obtain ⟨m, hm⟩ : ∃ m, j - k = m + 1 := ⟨j - k - 1, by omega⟩
    have hm2 : j - (k + 1) = m := by omega
    rw [hm] at hlk hp1 hp2 h64
    have hlk2 : lk.length = 2 * 2 ^ m := by rw [hlk, Nat.pow_succ]; omega
    have hP : (2 : Int) ^ (j - k) = 2 * ((2 ^ m : Nat) : Int) := by rw [hm, ← pow_cast, Nat.pow_succ]; omega
    have hM1 : 0 < 2 ^ m := Nat.two_pow_pos m
    have hM2 : 2 ^ m ≤ 32 := by rw [Nat.pow_succ] at h64; omega
    have hrg : RgC 0 ((2 : Int) ^ (j - k)) 2 (2 ^ m) ∧ 2 ^ m ≤ sizeLine := by
      rw [hP, hz]
      generalize 2 ^ m = M at hM1 hM2
      exact ⟨rgC_pos (by omega) (by omega) (by decide) (by decide) (by rw [if_pos (by omega)]; omega), by omega⟩
    refine ⟨2 ^ m, hrg.1, hrg.2, ?_⟩
    refine forW_inv (fun i e => ∃ s6 s8 s9 s10, e = [.val t, .val s, .val (.list (lk.map enc)), .own (Rk.map encR), .own ((metL (lk.take (2 * i))).map encP), .own ((nextL f (lk.take (2 * i))).map enc), s6, .no, s8, s9, s10]) ⟨_, _, _, _, rfl⟩ ?_ ?_
    · rintro i d e hi ⟨s6, s8, s9, s10, rfl⟩ R2 hR2
      obtain ⟨rfl, him⟩ := rgC_get hi
      have l1 : 2 * i < lk.length := by omega
      have l2 : 2 * i + 1 < lk.length := by omega
      obtain ⟨a, ha⟩ : ∃ a, lk[2 * i]? = some a := ⟨_, List.getElem?_eq_getElem l1⟩
      obtain ⟨b, hb⟩ : ∃ b, lk[2 * i + 1]? = some b := ⟨_, List.getElem?_eq_getElem l2⟩
      obtain ⟨n1, n2⟩ := next_take f i lk a b ha hb
      have da : atI (lk.map enc) (0 + (i : Int) * 2) = some (enc a) := atI_at (i := 2 * i) (by omega) (by rw [List.getElem?_map, ha]; rfl)
      have db : atI (lk.map enc) (0 + (i : Int) * 2 + 1) = some (enc b) := atI_at (i := 2 * i + 1) (by omega) (by rw [List.getElem?_map, hb]; rfl)
      have va : ∀ x, a = some x → 0 ≤ x ∧ x < ss.length := fun x e => hvk x (by rw [← e]; exact List.mem_of_getElem? ha)
      have vb : ∀ x, b = some x → 0 ≤ x ∧ x < ss.length := fun x e => hvk x (by rw [← e]; exact List.mem_of_getElem? hb)
      have nl : (nextL f (lk.take (2 * i))).length = i := next_len f i _ (by rw [List.length_take]; omega)
      have ml2 := met_len (lk.take (2 * i))
      rw [List.length_take] at ml2
      have ms : (metL (lk.take (2 * i))).length < sizeLine := by omega
      have is_ : i < sizeLine := by omega
      refine ⟨_, rfl, ?_⟩
      unfold m__law_played_b6
      cases a with
      | none =>
        simp only [sSeq, sSkip, sAsg, sAsgP, sNew, sNewP, sRet, sRetO, sIf, sApp, sAppP, sSet, sAug, sTgt, sTgtP, sPar, sFz, frz, sFor, sForR, sRev, sBrk, sCnt, sDrop, eOp, eUn, eCall, eVar, eC, eFr, eTup, eTupR, eAnd, eOr, eNot, eIf, eChain, eIndex, eSl, nLst, nList, nListR, nLc, nLc2, nCall, nSorted, nRep, tOf, tAndJ, tOrJ, tNotJ, tTrue, iSeq, iR1, iR2, iR3, rg1, rg2, evA, pNo, pSo, startE, hide, rd, hide_v, hide_o, hide_n, rd_v, rd_o, rd_n, bind_one, bind_many, setAll, List.map, List.replicate, List.length, List.cons_append, List.nil_append, List.getElem?_cons_zero, List.getElem?_cons_succ, List.set_cons_zero, List.set_cons_succ, Option.bind_some, ex_some, Option.some.injEq, Slot.own.injEq, Slot.val.injEq, exists_eq_left', true_and, and_true, Bool.false_eq_true, if_false, if_true, reduceIte, wEq, wNe, wAdd_i, wAdd_t, wAdd_l, wAdd_s, wSub_i, wMul_i, wDiv_i, wMod_i, wPow_i, wNeg_i, wLt_i, wLe_i, wGt_i, wGe_i, wIs_n, wIs_b, wIsNot_n, wIsNot_b, wIx_l, wIx_t, wLen_l, wLen_t, wAbs_i, wInt_i, wInt_b, wMax2_i, wMin2_i, wTuple_l, wTuple_t, wB_b, wI_i, seqOf_l, seqOf_t, wIAdd_i, wIAdd_t, wIMul_i, wSl_l, wSl_t, wIn_l, wIn_t, wNotIn_l, wNotIn_t, items_l, items_t, lv_i, lv_b, lv_n, eqv_ii, eqv_bb, isNon_n, isNon_i, isNon_b, isNon_s, isNon_t, isNon_l, Bool.not_true, Bool.not_false, b2n_t, b2n_f, pl_i, pl_b, pl_n, decide_eq_true_eq, da, db, enc, List.length_map, nl]
        refine ⟨is_, enc b, rfl, hR2 _ ?_⟩
        iterate 4 apply Exists.intro
        rw [n1, n2, List.map_append, List.map_append]
        have e0 : meetP none b = [] := rfl
        rw [e0]
        simp only [List.map_nil, List.append_nil]
        rfl
      | some a =>
        cases b with
        | none =>
          simp only [sSeq, sSkip, sAsg, sAsgP, sNew, sNewP, sRet, sRetO, sIf, sApp, sAppP, sSet, sAug, sTgt, sTgtP, sPar, sFz, frz, sFor, sForR, sRev, sBrk, sCnt, sDrop, eOp, eUn, eCall, eVar, eC, eFr, eTup, eTupR, eAnd, eOr, eNot, eIf, eChain, eIndex, eSl, nLst, nList, nListR, nLc, nLc2, nCall, nSorted, nRep, tOf, tAndJ, tOrJ, tNotJ, tTrue, iSeq, iR1, iR2, iR3, rg1, rg2, evA, pNo, pSo, startE, hide, rd, hide_v, hide_o, hide_n, rd_v, rd_o, rd_n, bind_one, bind_many, setAll, List.map, List.replicate, List.length, List.cons_append, List.nil_append, List.getElem?_cons_zero, List.getElem?_cons_succ, List.set_cons_zero, List.set_cons_succ, Option.bind_some, ex_some, Option.some.injEq, Slot.own.injEq, Slot.val.injEq, exists_eq_left', true_and, and_true, Bool.false_eq_true, if_false, if_true, reduceIte, wEq, wNe, wAdd_i, wAdd_t, wAdd_l, wAdd_s, wSub_i, wMul_i, wDiv_i, wMod_i, wPow_i, wNeg_i, wLt_i, wLe_i, wGt_i, wGe_i, wIs_n, wIs_b, wIsNot_n, wIsNot_b, wIx_l, wIx_t, wLen_l, wLen_t, wAbs_i, wInt_i, wInt_b, wMax2_i, wMin2_i, wTuple_l, wTuple_t, wB_b, wI_i, seqOf_l, seqOf_t, wIAdd_i, wIAdd_t, wIMul_i, wSl_l, wSl_t, wIn_l, wIn_t, wNotIn_l, wNotIn_t, items_l, items_t, lv_i, lv_b, lv_n, eqv_ii, eqv_bb, isNon_n, isNon_i, isNon_b, isNon_s, isNon_t, isNon_l, Bool.not_true, Bool.not_false, b2n_t, b2n_f, pl_i, pl_b, pl_n, decide_eq_true_eq, da, db, enc, List.length_map, nl]
          refine ⟨is_, .int a, rfl, hR2 _ ?_⟩
          iterate 4 apply Exists.intro
          rw [n1, n2, List.map_append, List.map_append]
          have e0 : meetP (some a) none = [] := rfl
          rw [e0]
          simp only [List.map_nil, List.append_nil]
          rfl
        | some b =>
          have v1 := va a rfl
          have v2 := vb b rfl
          have f1 := fat (min a b) (by omega)
          have f2 := fat (max a b) (by omega)
          simp only [sSeq, sSkip, sAsg, sAsgP, sNew, sNewP, sRet, sRetO, sIf, sApp, sAppP, sSet, sAug, sTgt, sTgtP, sPar, sFz, frz, sFor, sForR, sRev, sBrk, sCnt, sDrop, eOp, eUn, eCall, eVar, eC, eFr, eTup, eTupR, eAnd, eOr, eNot, eIf, eChain, eIndex, eSl, nLst, nList, nListR, nLc, nLc2, nCall, nSorted, nRep, tOf, tAndJ, tOrJ, tNotJ, tTrue, iSeq, iR1, iR2, iR3, rg1, rg2, evA, pNo, pSo, startE, hide, rd, hide_v, hide_o, hide_n, rd_v, rd_o, rd_n, bind_one, bind_many, setAll, List.map, List.replicate, List.length, List.cons_append, List.nil_append, List.getElem?_cons_zero, List.getElem?_cons_succ, List.set_cons_zero, List.set_cons_succ, Option.bind_some, ex_some, Option.some.injEq, Slot.own.injEq, Slot.val.injEq, exists_eq_left', true_and, and_true, Bool.false_eq_true, if_false, if_true, reduceIte, wEq, wNe, wAdd_i, wAdd_t, wAdd_l, wAdd_s, wSub_i, wMul_i, wDiv_i, wMod_i, wPow_i, wNeg_i, wLt_i, wLe_i, wGt_i, wGe_i, wIs_n, wIs_b, wIsNot_n, wIsNot_b, wIx_l, wIx_t, wLen_l, wLen_t, wAbs_i, wInt_i, wInt_b, wMax2_i, wMin2_i, wTuple_l, wTuple_t, wB_b, wI_i, seqOf_l, seqOf_t, wIAdd_i, wIAdd_t, wIMul_i, wSl_l, wSl_t, wIn_l, wIn_t, wNotIn_l, wNotIn_t, items_l, items_t, lv_i, lv_b, lv_n, eqv_ii, eqv_bb, isNon_n, isNon_i, isNon_b, isNon_s, isNon_t, isNon_l, Bool.not_true, Bool.not_false, b2n_t, b2n_f, pl_i, pl_b, pl_n, decide_eq_true_eq, da, db, enc, List.length_map, nl, wIx_items hs, f1, f2]
          refine ⟨ms, ?_⟩
          have e0 : meetP (some a) (some b) = [(min a b, max a b)] := rfl
          split
          · rename_i hlt
            have e1 : duel f (some a) (some b) = some (max a b) := congrArg some (if_pos hlt)
            refine ⟨is_, hR2 _ ?_⟩
            iterate 4 apply Exists.intro
            rw [n1, n2, List.map_append, List.map_append, e0, e1]
            rfl
          · rename_i hlt
            have e1 : duel f (some a) (some b) = some (min a b) := congrArg some (if_neg hlt)
            refine ⟨is_, hR2 _ ?_⟩
            iterate 4 apply Exists.intro
            rw [n1, n2, List.map_append, List.map_append, e0, e1]
            rfl
    · rintro e ⟨s6, s8, s9, s10, rfl⟩
      unfold m__law_played_r6
      rw [rgC_length]
      have e1 : lk.take (2 * 2 ^ m) = lk := List.take_of_length_le (by omega)
      rw [e1]
      simp only [sSeq, sSkip, sAsg, sAsgP, sNew, sNewP, sRet, sRetO, sIf, sApp, sAppP, sSet, sAug, sTgt, sTgtP, sPar, sFz, frz, sFor, sForR, sRev, sBrk, sCnt, sDrop, eOp, eUn, eCall, eVar, eC, eFr, eTup, eTupR, eAnd, eOr, eNot, eIf, eChain, eIndex, eSl, nLst, nList, nListR, nLc, nLc2, nCall, nSorted, nRep, tOf, tAndJ, tOrJ, tNotJ, tTrue, iSeq, iR1, iR2, iR3, rg1, rg2, evA, pNo, pSo, startE, hide, rd, hide_v, hide_o, hide_n, rd_v, rd_o, rd_n, bind_one, bind_many, setAll, List.map, List.replicate, List.length, List.cons_append, List.nil_append, List.getElem?_cons_zero, List.getElem?_cons_succ, List.set_cons_zero, List.set_cons_succ, Option.bind_some, ex_some, Option.some.injEq, Slot.own.injEq, Slot.val.injEq, exists_eq_left', true_and, and_true, Bool.false_eq_true, if_false, if_true, reduceIte, wEq, wNe, wAdd_i, wAdd_t, wAdd_l, wAdd_s, wSub_i, wMul_i, wDiv_i, wMod_i, wPow_i, wNeg_i, wLt_i, wLe_i, wGt_i, wGe_i, wIs_n, wIs_b, wIsNot_n, wIsNot_b, wIx_l, wIx_t, wLen_l, wLen_t, wAbs_i, wInt_i, wInt_b, wMax2_i, wMin2_i, wTuple_l, wTuple_t, wB_b, wI_i, seqOf_l, seqOf_t, wIAdd_i, wIAdd_t, wIMul_i, wSl_l, wSl_t, wIn_l, wIn_t, wNotIn_l, wNotIn_t, items_l, items_t, lv_i, lv_b, lv_n, eqv_ii, eqv_bb, isNon_n, isNon_i, isNon_b, isNon_s, isNon_t, isNon_l, Bool.not_true, Bool.not_false, b2n_t, b2n_f, pl_i, pl_b, pl_n, decide_eq_true_eq, List.length_map]
      refine ⟨by omega, hR _ hkj ⟨hkj, nextL f lk, Rk ++ [metL lk], .val (.list ((metL lk).map encP)), .val (.list ((nextL f lk).map enc)), s6, s8, s9, s10, ?_, hvk.next, by rw [List.length_append, hRk]; rfl, ?_, ?_, ?_⟩⟩
      · rw [hm2]; exact next_len f _ lk hlk2
      · rw [hm2]; exact hp1
      · rw [hm2, hp2, List.append_assoc]; rfl
      · rw [List.map_append]
        rfl
  · rename_i hlt
    have hkj : j - k = 0 := by
      cases c : j - k with
      | zero => rfl
      | succ m =>
        rw [c, ← pow_cast, Nat.pow_succ] at hlt
        have := Nat.two_pow_pos m
        omega
    rw [hkj] at hlk hp1 hp2
    match lk, hlk with
    | [x], _ =>
      refine ⟨enc x, rfl, ?_⟩
      rw [hp1, hp2] at q
      have q' : QD (.tuple [enc x, .list ((Rk ++ []).map encR)]) := q
      rw [List.append_nil] at q'
      exact q'

/-! ## who wins, who meets -/
def somes (l : List (Option Int)) : List Int := l.filterMap id
theorem somes_mem {l : List (Option Int)} {x : Int} : x ∈ somes l ↔ some x ∈ l := by
  unfold somes
  rw [List.mem_filterMap]
  constructor
  · rintro ⟨a, h, e⟩
    have e' : a = some x := e
    rw [e'] at h
    exact h
  · exact fun h => ⟨_, h, rfl⟩
def Beats (f : Int → Int) (a b : Int) : Prop := f b < f a ∨ (f a = f b ∧ a < b)
theorem Beats.trans {f : Int → Int} {a b c : Int} (h : Beats f a b) (k : Beats f b c) : Beats f a c := by
  unfold Beats at *
  omega
theorem duel_best (f : Int → Int) (a b : Int) : ∃ w, duel f (some a) (some b) = some w ∧ (w = a ∨ w = b) ∧ (a = w ∨ Beats f w a) ∧ (b = w ∨ Beats f w b) := by
  unfold Beats
  rcases (show (min a b = a ∧ max a b = b ∧ a ≤ b) ∨ (min a b = b ∧ max a b = a ∧ b ≤ a) by omega) with ⟨e1, e2, e3⟩ | ⟨e1, e2, e3⟩
  · by_cases h : f (min a b) < f (max a b)
    · refine ⟨_, congrArg some (if_pos h), ?_⟩
      rw [e1, e2] at h
      rw [e2]
      omega
    · refine ⟨_, congrArg some (if_neg h), ?_⟩
      rw [e1, e2] at h
      rw [e1]
      omega
  · by_cases h : f (min a b) < f (max a b)
    · refine ⟨_, congrArg some (if_pos h), ?_⟩
      rw [e1, e2] at h
      rw [e2]
      omega
    · refine ⟨_, congrArg some (if_neg h), ?_⟩
      rw [e1, e2] at h
      rw [e1]
      omega
theorem next_over (f : Int → Int) : ∀ (m : Nat) (l : List (Option Int)), l.length = 2 * m → ∀ x, some x ∈ l → ∃ y, some y ∈ nextL f l ∧ (x = y ∨ Beats f y x)
  | _, [], _, x, h => by cases h
  | 0, _ :: _, h, _, _ => by simp at h
  | m + 1, [a], h, _, _ => by simp at h; omega
  | m + 1, a :: b :: r, h, x, hx => by
    have hr : r.length = 2 * m := by simp at h; omega
    show ∃ y, some y ∈ duel f a b :: nextL f r ∧ _
    rcases List.mem_cons.mp hx with hx | hx
    · subst hx
      cases b with
      | none => exact ⟨x, List.mem_cons_self, .inl rfl⟩
      | some b =>
        obtain ⟨w, e, _, h1, _⟩ := duel_best f x b
        exact ⟨w, by rw [e]; exact List.mem_cons_self, h1⟩
    · rcases List.mem_cons.mp hx with hx | hx
      · subst hx
        cases a with
        | none => exact ⟨x, List.mem_cons_self, .inl rfl⟩
        | some a =>
          obtain ⟨w, e, _, _, h1⟩ := duel_best f a x
          exact ⟨w, by rw [e]; exact List.mem_cons_self, h1⟩
      · obtain ⟨y, h1, h2⟩ := next_over f m r hr x hx
        exact ⟨y, List.mem_cons_of_mem _ h1, h2⟩
theorem plays_best (f : Int → Int) : ∀ (j : Nat) (l : List (Option Int)), l.length = 2 ^ j → (∃ x, some x ∈ l) → ∃ w, (plays f j l).1 = some w ∧ some w ∈ l ∧ ∀ x, some x ∈ l → x = w ∨ Beats f w x
  | 0, [a], _, ⟨x, hx⟩ => by
    rw [List.mem_singleton] at hx
    subst hx
    exact ⟨x, rfl, by simp, fun y hy => .inl (by simpa using hy)⟩
  | 0, [], h, _ => by simp at h
  | 0, _ :: _ :: _, h, _ => by simp at h
  | j + 1, l, h, ⟨x, hx⟩ => by
    have h2 : l.length = 2 * 2 ^ j := by rw [h, Nat.pow_succ]; omega
    obtain ⟨y, hy, _⟩ := next_over f _ l h2 x hx
    obtain ⟨w, e, hw, hb⟩ := plays_best f j (nextL f l) (next_len f _ l h2) ⟨y, hy⟩
    refine ⟨w, e, next_mem f l _ hw, fun z hz => ?_⟩
    obtain ⟨u, hu, h3⟩ := next_over f _ l h2 z hz
    rcases hb u hu with h4 | h4
    · subst h4
      exact h3
    · rcases h3 with h3 | h3
      · subst h3; exact .inr h4
      · exact .inr (h4.trans h3)
theorem plays_len (f : Int → Int) : ∀ (j : Nat) (l : List (Option Int)), (plays f j l).2.length = j
  | 0, _ => rfl
  | j + 1, l => by
    show (plays f j (nextL f l)).2.length + 1 = _
    rw [plays_len f j]
theorem met_count (f : Int → Int) : ∀ (m : Nat) (l : List (Option Int)), l.length = 2 * m → (somes l).length = (somes (nextL f l)).length + (metL l).length
  | _, [], _ => rfl
  | 0, _ :: _, h => by simp at h
  | m + 1, [a], h => by simp at h; omega
  | m + 1, a :: b :: r, h => by
    have ih := met_count f m r (by simp at h; omega)
    show (somes (a :: b :: r)).length = (somes (duel f a b :: nextL f r)).length + (meetP a b ++ metL r).length
    unfold somes at *
    rw [List.length_append]
    cases a with
    | none =>
      cases b with
      | none => simpa [duel, meetP] using ih
      | some b => simp [duel, meetP]; omega
    | some a =>
      cases b with
      | none => simp [duel, meetP]; omega
      | some b =>
        obtain ⟨w, e, _⟩ := duel_best f a b
        rw [e]
        simp [meetP]
        omega
theorem plays_sum (f : Int → Int) : ∀ (j : Nat) (l : List (Option Int)), l.length = 2 ^ j → (∃ x, some x ∈ l) → (((plays f j l).2.map List.length).sum : Nat) + 1 = (somes l).length
  | 0, [a], _, ⟨x, hx⟩ => by
    rw [List.mem_singleton] at hx
    subst hx
    rfl
  | 0, [], h, _ => by simp at h
  | 0, _ :: _ :: _, h, _ => by simp at h
  | j + 1, l, h, ⟨x, hx⟩ => by
    have h2 : l.length = 2 * 2 ^ j := by rw [h, Nat.pow_succ]; omega
    obtain ⟨y, hy, _⟩ := next_over f _ l h2 x hx
    have ih := plays_sum f j (nextL f l) (next_len f _ l h2) ⟨y, hy⟩
    have mc := met_count f _ l h2
    show ((metL l :: (plays f j (nextL f l)).2).map List.length).sum + 1 = _
    rw [List.map_cons, List.sum_cons]
    omega
theorem met_mem : ∀ (l : List (Option Int)) (x : Int × Int), x ∈ metL l → ∃ k a b, l[2 * k]? = some (some a) ∧ l[2 * k + 1]? = some (some b) ∧ x = (min a b, max a b)
  | [], _, h => by cases h
  | [_], _, h => by cases h
  | a :: b :: r, x, h => by
    rcases List.mem_append.mp (show x ∈ meetP a b ++ metL r from h) with h | h
    · cases a with
      | none => cases h
      | some a =>
        cases b with
        | none => cases h
        | some b =>
          have : x = (min a b, max a b) := by simpa [meetP] using h
          exact ⟨0, a, b, rfl, rfl, this⟩
    · obtain ⟨k, c, d, h1, h2, h3⟩ := met_mem r x h
      exact ⟨k + 1, c, d, by rw [show 2 * (k + 1) = 2 * k + 1 + 1 by omega]; simpa using h1, by rw [show 2 * (k + 1) + 1 = 2 * k + 1 + 1 + 1 by omega]; simpa using h2, h3⟩
theorem mem_met : ∀ (l : List (Option Int)) (k : Nat) (a b : Int), l[2 * k]? = some (some a) → l[2 * k + 1]? = some (some b) → (min a b, max a b) ∈ metL l
  | [], _, _, _, h, _ => by simp at h
  | [_], k, _, _, _, h => by
    have := (List.getElem?_eq_some_iff.mp h).1
    simp at this
  | x :: y :: r, 0, a, b, h1, h2 => by
    simp at h1 h2
    subst h1 h2
    exact List.mem_append_left _ (by simp [meetP])
  | x :: y :: r, k + 1, a, b, h1, h2 => by
    refine List.mem_append_right _ (mem_met r k a b ?_ ?_)
    · rw [show 2 * (k + 1) = 2 * k + 1 + 1 by omega] at h1
      simpa using h1
    · rw [show 2 * (k + 1) + 1 = 2 * k + 1 + 1 + 1 by omega] at h2
      simpa using h2
theorem next_get (f : Int → Int) : ∀ (l : List (Option Int)) (k : Nat) (a b : Option Int), l[2 * k]? = some a → l[2 * k + 1]? = some b → (nextL f l)[k]? = some (duel f a b)
  | [], _, _, _, h, _ => by simp at h
  | [_], k, _, _, _, h => by
    have := (List.getElem?_eq_some_iff.mp h).1
    simp at this
  | x :: y :: r, 0, a, b, h1, h2 => by
    simp at h1 h2
    subst h1 h2
    rfl
  | x :: y :: r, k + 1, a, b, h1, h2 => by
    show (nextL f r)[k]? = _
    refine next_get f r k a b ?_ ?_
    · rw [show 2 * (k + 1) = 2 * k + 1 + 1 by omega] at h1
      simpa using h1
    · rw [show 2 * (k + 1) + 1 = 2 * k + 1 + 1 + 1 by omega] at h2
      simpa using h2
theorem plays_not {f : Int → Int} {a b : Int} : ∀ (j : Nat) (l : List (Option Int)), ¬ some b ∈ l → ∀ (t : Nat) (R : List (Int × Int)), (plays f j l).2[t]? = some R → ¬ (min a b, max a b) ∈ R
  | 0, _, _, t, R, h => by cases h
  | j + 1, l, hb, 0, R, h => by
    have e : metL l = R := by simpa [plays] using h
    subst e
    intro hm
    obtain ⟨k, c, d, h1, h2, h3⟩ := met_mem l _ hm
    have h4 := (Prod.mk.injEq _ _ _ _).mp h3
    have : c = b ∨ d = b := by omega
    rcases this with rfl | rfl
    · exact hb (List.mem_of_getElem? h1)
    · exact hb (List.mem_of_getElem? h2)
  | j + 1, l, hb, t + 1, R, h => plays_not j (nextL f l) (fun q => hb (next_mem f l _ q)) t R (by simpa [plays] using h)
theorem duel_win {f : Int → Int} {a : Int} {b : Option Int} (h : ∀ x, b = some x → x ≠ a → f x < f a) : duel f (some a) b = some a ∧ duel f b (some a) = some a := by
  cases b with
  | none => exact ⟨rfl, rfl⟩
  | some b =>
    by_cases e : b = a
    · subst e
      rcases duel_or f (some b) (some b) with q | q <;> exact ⟨q, q⟩
    · have hb := h b rfl e
      obtain ⟨w, e1, e2, e3, e4⟩ := duel_best f a b
      obtain ⟨v, g1, g2, g3, g4⟩ := duel_best f b a
      unfold Beats at *
      rw [e1, g1]
      constructor
      · rcases e2 with rfl | rfl
        · rfl
        · omega
      · rcases g2 with rfl | rfl
        · omega
        · rfl
/-- the two strongest meet when their places have become one, and never else -/
theorem plays_meet {f : Int → Int} {a b : Int} (hab : a ≠ b) : ∀ (j : Nat) (l : List (Option Int)) (p q : Nat), l.length = 2 ^ j → (∀ k, l[k]? = some (some a) ↔ k = p) → (∀ k, l[k]? = some (some b) ↔ k = q) → (∀ x, some x ∈ l → x ≠ a → f x < f a) → (∀ x, some x ∈ l → x ≠ a → x ≠ b → f x < f b) →
    ∀ (t : Nat) (R : List (Int × Int)), (plays f j l).2[t]? = some R → ((min a b, max a b) ∈ R ↔ t + 1 = halv j p q)
  | 0, l, p, q, hl, ha, hb, fa, fb, t, R, h => by cases h
  | j + 1, l, p, q, hl, ha, hb, fa, fb, t, R, h => by
    have h2 : l.length = 2 * 2 ^ j := by rw [hl, Nat.pow_succ]; omega
    have pa := (ha p).mpr rfl
    have pb := (hb q).mpr rfl
    have pl := (List.getElem?_eq_some_iff.mp pa).1
    have ql := (List.getElem?_eq_some_iff.mp pb).1
    have hpq : p ≠ q := fun e => by
      subst e
      rw [pa] at pb
      cases pb
      exact hab rfl
    have hh : halv (j + 1) p q = halv j (p / 2) (q / 2) + 1 := by rw [halv, if_neg hpq]
    -- a place of the next row
    have nx : ∀ k x, (nextL f l)[k]? = some (some x) → l[2 * k]? = some (some x) ∨ l[2 * k + 1]? = some (some x) := fun k x e => by
      have hk := (List.getElem?_eq_some_iff.mp e).1
      rw [next_len f _ l h2] at hk
      have g1 : 2 * k < l.length := by omega
      have g2 : 2 * k + 1 < l.length := by omega
      have := next_get f l k _ _ (List.getElem?_eq_getElem g1) (List.getElem?_eq_getElem g2)
      rw [this] at e
      have e' := Option.some.inj e
      rw [List.getElem?_eq_getElem g1, List.getElem?_eq_getElem g2]
      rcases duel_or f l[2 * k] l[2 * k + 1] with d | d
      · left; rw [← d, e']
      · right; rw [← d, e']
    -- the other one of a pair
    have ot : ∀ r x, l[r]? = some (some x) → ∃ o, (l[2 * (r / 2)]? = some (some x) ∧ l[2 * (r / 2) + 1]? = some o ∨ l[2 * (r / 2)]? = some o ∧ l[2 * (r / 2) + 1]? = some (some x)) ∧ (r = 2 * (r / 2) ∧ l[2 * (r / 2) + 1]? = some o ∨ r = 2 * (r / 2) + 1 ∧ l[2 * (r / 2)]? = some o) := fun r x e => by
      have hr := (List.getElem?_eq_some_iff.mp e).1
      rcases (show r = 2 * (r / 2) ∨ r = 2 * (r / 2) + 1 by omega) with c | c
      · have g : 2 * (r / 2) + 1 < l.length := by omega
        exact ⟨_, .inl ⟨by rw [← c]; exact e, List.getElem?_eq_getElem g⟩, .inl ⟨c, List.getElem?_eq_getElem g⟩⟩
      · have g : 2 * (r / 2) < l.length := by omega
        exact ⟨_, .inr ⟨List.getElem?_eq_getElem g, by rw [← c]; exact e⟩, .inr ⟨c, List.getElem?_eq_getElem g⟩⟩
    have na : (nextL f l)[p / 2]? = some (some a) := by
      obtain ⟨o, h3, _⟩ := ot p a pa
      rcases h3 with ⟨h3, h4⟩ | ⟨h3, h4⟩
      · rw [next_get f l _ _ _ h3 h4, (duel_win fun x e n => fa x (by rw [← e]; exact List.mem_of_getElem? h4) n).1]
      · rw [next_get f l _ _ _ h3 h4, (duel_win fun x e n => fa x (by rw [← e]; exact List.mem_of_getElem? h3) n).2]
    have ua : ∀ k, (nextL f l)[k]? = some (some a) ↔ k = p / 2 := fun k => ⟨fun e => by
      rcases nx k a e with c | c
      · have := (ha _).mp c; omega
      · have := (ha _).mp c; omega, fun e => by rw [e]; exact na⟩
    by_cases hm : p / 2 = q / 2
    · have h0 : halv j (p / 2) (q / 2) = 0 := by
        rw [hm]
        cases j with
        | zero => rfl
        | succ j => rw [halv, if_pos rfl]
      have hb' : ¬ some b ∈ nextL f l := fun c => by
        obtain ⟨k, hk⟩ := List.mem_iff_getElem?.mp c
        have : k = q / 2 := by
          rcases nx k b hk with d | d
          · have := (hb _).mp d; omega
          · have := (hb _).mp d; omega
        rw [this, ← hm, na] at hk
        cases hk
        exact hab rfl
      rw [hh, h0]
      cases t with
      | zero =>
        have e : metL l = R := by simpa [plays] using h
        subst e
        refine ⟨fun _ => rfl, fun _ => ?_⟩
        rcases (show p = 2 * (p / 2) ∧ q = 2 * (p / 2) + 1 ∨ q = 2 * (p / 2) ∧ p = 2 * (p / 2) + 1 by omega) with ⟨c, d⟩ | ⟨c, d⟩
        · exact mem_met l (p / 2) a b (by rw [← c]; exact pa) (by rw [← d]; exact pb)
        · have := mem_met l (p / 2) b a (by rw [← c]; exact pb) (by rw [← d]; exact pa)
          rw [Int.min_comm, Int.max_comm] at this
          exact this
      | succ t =>
        refine ⟨fun c => absurd c (plays_not j (nextL f l) hb' t R (by simpa [plays] using h)), fun c => by omega⟩
    · have nb : (nextL f l)[q / 2]? = some (some b) := by
        obtain ⟨o, h3, h4⟩ := ot q b pb
        have no : ∀ x, o = some x → x ≠ b → f x < f b := fun x e n => by
          have mo : some x ∈ l := by
            rcases h4 with ⟨_, h4⟩ | ⟨_, h4⟩ <;> (rw [e] at h4; exact List.mem_of_getElem? h4)
          refine fb x mo (fun ex => ?_) n
          subst ex
          subst e
          rcases h4 with ⟨c, h4⟩ | ⟨c, h4⟩
          · have := (ha _).mp h4; omega
          · have := (ha _).mp h4; omega
        rcases h3 with ⟨h3, h5⟩ | ⟨h3, h5⟩
        · rw [next_get f l _ _ _ h3 h5, (duel_win no).1]
        · rw [next_get f l _ _ _ h3 h5, (duel_win no).2]
      have ub : ∀ k, (nextL f l)[k]? = some (some b) ↔ k = q / 2 := fun k => ⟨fun e => by
        rcases nx k b e with c | c
        · have := (hb _).mp c; omega
        · have := (hb _).mp c; omega, fun e => by rw [e]; exact nb⟩
      rw [hh]
      cases t with
      | zero =>
        have e : metL l = R := by simpa [plays] using h
        subst e
        have hne : halv j (p / 2) (q / 2) ≠ 0 := by
          have p2 : p / 2 < 2 ^ j := by omega
          have q2 : q / 2 < 2 ^ j := by omega
          cases j with
          | zero => omega
          | succ j => rw [halv, if_neg hm]; omega
        refine ⟨fun c => ?_, fun c => by omega⟩
        obtain ⟨k, c1, d1, g1, g2, g3⟩ := met_mem l _ c
        have g4 := (Prod.mk.injEq _ _ _ _).mp g3
        rcases (show (c1 = a ∧ d1 = b) ∨ (c1 = b ∧ d1 = a) by omega) with ⟨rfl, rfl⟩ | ⟨rfl, rfl⟩
        · have := (ha _).mp g1
          have := (hb _).mp g2
          omega
        · have := (hb _).mp g1
          have := (ha _).mp g2
          omega
      | succ t =>
        have ih := plays_meet hab j (nextL f l) (p / 2) (q / 2) (next_len f _ l h2) ua ub (fun x hx => fa x (next_mem f l _ hx)) (fun x hx => fb x (next_mem f l _ hx)) t R (by simpa [plays] using h)
        rw [ih]
        omega
theorem halv_le : ∀ (j p q : Nat), halv j p q ≤ j
  | 0, _, _ => Nat.le_refl _
  | j + 1, p, q => by
    unfold halv
    split
    · omega
    · have := halv_le j (p / 2) (q / 2)
      omega
theorem halv_pos {j p q : Nat} (h : p ≠ q) (hp : p < 2 ^ j) (hq : q < 2 ^ j) : 0 < halv j p q := by
  cases j with
  | zero => omega
  | succ j => rw [halv, if_neg h]; omega

theorem halv_comm : ∀ (j p q : Nat), halv j p q = halv j q p
  | 0, _, _ => rfl
  | j + 1, p, q => by
    unfold halv
    by_cases h : p = q
    · rw [if_pos h, if_pos h.symm]
    · rw [if_neg h, if_neg (Ne.symm h), halv_comm j]
/-! ## _law_meet_right -/
def lT (n : Int) : List (Option Int) := (tab (rnd n)).map fun s => if s < n then some s else none
theorem enc_lT (n : Int) : (lT n).map enc = told n := by
  unfold lT told
  rw [List.map_map]
  refine List.map_congr_left fun s _ => ?_
  show enc (if s < n then some s else none) = seedD n s
  unfold seedD
  split <;> rfl
theorem lT_len (n : Int) : (lT n).length = 2 ^ rnd n := by unfold lT; rw [List.length_map, tab_len]
theorem lT_get {n : Int} {k : Nat} {x : Int} : (lT n)[k]? = some (some x) ↔ (tab (rnd n))[k]? = some x ∧ x < n := by
  unfold lT
  rw [List.getElem?_map]
  cases e : (tab (rnd n))[k]? with
  | none => simp
  | some s =>
    simp only [Option.map_some, Option.some.injEq]
    split
    · rename_i h
      rw [Option.some.injEq]
      constructor
      · rintro rfl; exact ⟨rfl, h⟩
      · exact fun h => h.1
    · rename_i h
      constructor
      · intro q; cases q
      · rintro ⟨rfl, q⟩; exact absurd q h
theorem lT_mem {n : Int} (h1 : 1 ≤ n) (h2 : n ≤ 64) {x : Int} : some x ∈ lT n ↔ 0 ≤ x ∧ x < n := by
  rw [List.mem_iff_getElem?]
  constructor
  · rintro ⟨k, hk⟩
    obtain ⟨a, b⟩ := lT_get.mp hk
    exact ⟨((tab_mem (rnd_le n)).mp (List.mem_of_getElem? a)).1, b⟩
  · rintro ⟨a, b⟩
    have hr : ¬ (2 : Int) ^ rnd n < n := fun c => Nat.lt_irrefl _ ((rnd_step h2 (Nat.le_refl _)).mp c)
    have : x ∈ tab (rnd n) := (tab_mem (rnd_le n)).mpr ⟨a, by omega⟩
    obtain ⟨k, hk⟩ := List.mem_iff_getElem?.mp this
    exact ⟨k, lT_get.mpr ⟨hk, b⟩⟩
/-- a seed's place -/
theorem lT_place {n : Int} (h1 : 1 ≤ n) (h2 : n ≤ 64) {x : Int} (h : 0 ≤ x ∧ x < n) : ∃ p : Nat, (tab (rnd n))[p]? = some x ∧ ∀ k : Nat, (lT n)[k]? = some (some x) ↔ k = p := by
  obtain ⟨p, hp⟩ := List.mem_iff_getElem?.mp ((lT_mem h1 h2).mpr h)
  refine ⟨p, (lT_get.mp hp).1, fun k => ⟨fun hk => ?_, fun hk => by rw [hk]; exact hp⟩⟩
  have a := (lT_get.mp hk).1
  have b := (lT_get.mp hp).1
  obtain ⟨ka, ea⟩ := List.getElem?_eq_some_iff.mp a
  obtain ⟨kb, eb⟩ := List.getElem?_eq_some_iff.mp b
  have nd := List.pairwise_iff_getElem.mp (tab_nodup (rnd_le n))
  have ea' : (tab (rnd n))[k] = (tab (rnd n))[p] := by rw [ea, eb]
  rcases Nat.lt_trichotomy k p with c | c | c
  · exact absurd ea' (nd k p ka kb c)
  · exact c
  · exact absurd ea'.symm (nd p k kb ka c)
theorem in_enc (u v : Int) : ∀ R : List (Int × Int), ((R.map encP).any fun z => PyData.eqv z (.tuple [.int u, .int v])) = decide ((u, v) ∈ R)
  | [] => rfl
  | (a, b) :: R => by
    rw [List.map_cons, List.any_cons, in_enc u v R]
    have e : PyData.eqv (encP (a, b)) (.tuple [.int u, .int v]) = decide ((u, v) = (a, b)) := by
      show PyData.eqv (.tuple [.int a, .int b]) (.tuple [.int u, .int v]) = _
      rw [PyData.eqv, PyData.eqvAll, PyData.eqvAll, PyData.eqvAll, eqv_ii, eqv_ii, Bool.and_true, Bool.eq_iff_iff, Bool.and_eq_true, decide_eq_true_eq, decide_eq_true_eq, decide_eq_true_eq, Prod.mk.injEq]
      constructor <;> (rintro ⟨rfl, rfl⟩; exact ⟨rfl, rfl⟩)
    rw [e, Bool.eq_iff_iff, Bool.or_eq_true, decide_eq_true_eq, decide_eq_true_eq, decide_eq_true_eq, List.mem_cons]
theorem lv_encR (R : List (Int × Int)) : (R.map encP).all (lv lvl) = true := by
  rw [List.all_map]
  exact List.all_eq_true.mpr fun _ _ => rfl
/-! _law_meet_right: 0=draws 1=n 2=table 3=k 4=one 5=other 6=strengths 7=due 8=turn 9=winner 10=played 11=seed -/
def m__law_meet_right_b9 : SX := (sIf (tOf (eOp wIn (eTup [(eCall wMin2 [(eVar 4), (eVar 5)]), (eCall wMax2 [(eVar 4), (eVar 5)])]) (eOp wIx (eVar 10) (eVar 8)))) (sAsg 7 (eOp wAdd (eVar 8) (eC (.int 1)))) sSkip)
def m__law_meet_right_r9 : SX := (sIf (tOrJ (tOf (eOp wNe (eVar 9) (eVar 4))) (tOrJ (tNotJ (tOf (eCall S__law_same [(eCall S_met_in_round [(eVar 1), (eVar 4), (eVar 5)]), (eVar 7)]))) (tNotJ (tOf (eCall S__law_same [(eCall S_met_in_round [(eVar 1), (eVar 5), (eVar 4)]), (eVar 7)]))))) (sRet (eC (.bool false))) sSkip)
def m__law_meet_right_b1 : SX := (sSeq (sAsg 4 (eCall S__law_take [(eVar 0), (eVar 1)]))
      (sSeq (sAsg 5 (eOp wMod (eCall wInt [(eOp wAdd (eOp wAdd (eVar 4) (eC (.int 1))) (eCall S__law_take [(eVar 0), (eOp wSub (eVar 1) (eC (.int 1)))]))]) (eVar 1)))
      (sSeq (sNew 6 (nLc (iR1 (eVar 1)) (.one 11) [11] tTrue (eC (.int 0))))
      (sSeq (sSet 6 (eC (.int 2)) (eVar 4))
      (sSeq (sSet 6 (eC (.int 1)) (eVar 5))
      (sSeq (sFz 6 (sTgt (.many [9, 10]) (eCall S__law_played [(eFr (nLc (iSeq (eVar 2)) (.one 11) [11] tTrue (eOp wIx (eFr (nLst [(eVar 11), (eC .none)])) (eCall wInt [(eOp wGe (eVar 11) (eVar 1))])))), (eVar 6)])))
      (sSeq (sAsg 7 (eC .none))
      (sSeq (sForR (iR1 (eCall wLen [(eVar 10)])) (.one 8) m__law_meet_right_b9)
      m__law_meet_right_r9))))))))
def m__law_meet_right_r1 : SX := (sRet (eC (.bool true)))
def m__law_meet_right : SX := (sSeq (sForR (iR1 (eOp wMul (eC (.int 5)) (eCall wInt [(eOp wGt (eVar 1) (eC (.int 1)))]))) (.one 3) m__law_meet_right_b1)
      m__law_meet_right_r1)
def S__law_meet_right : WL := fun ds Q => ∃ n : Int, ds = [.dict [], .int n, .list ((tab (rnd n)).map PyData.int)] ∧ 1 ≤ n ∧ n ≤ 64 ∧ Q (.bool true)
theorem rep_map (n : Nat) : (List.range n).map (fun _ => PyData.int 0) = (List.replicate n (0 : Int)).map PyData.int := by
  rw [List.map_replicate, List.map_const']
  rw [List.length_range]
theorem getD_set {l : List Int} {i k : Nat} {x : Int} (h : i < l.length) : (l.set i x).getD k 0 = if k = i then x else l.getD k 0 := by
  rw [List.getD_eq_getElem?_getD, List.getD_eq_getElem?_getD]
  by_cases e : k = i
  · subst e
    rw [if_pos rfl, List.getElem?_set_self h]
    rfl
  · rw [if_neg e, List.getElem?_set_ne (Ne.symm e)]
theorem getD_rep (n k : Nat) : (List.replicate n (0 : Int)).getD k 0 = 0 := by
  rw [List.getD_eq_getElem?_getD, List.getElem?_replicate]
  split <;> rfl
theorem wp__law_meet_right (ds : List D) (QD : D → Prop) (h : S__law_meet_right ds QD) : m__law_meet_right (startE 12 ds) ⟨fun _ => QD .none, QD, noB, noB, fun es => QD (.list es)⟩ := by
  obtain ⟨n, rfl, h1, h64, q⟩ := h
  have hj := rnd_le n
  have hz : sizeLine = 16777216 := sizeLine_eq
  unfold m__law_meet_right
  simp only [sSeq, sSkip, sAsg, sAsgP, sNew, sNewP, sRet, sRetO, sIf, sApp, sAppP, sSet, sAug, sTgt, sTgtP, sPar, sFz, frz, sFor, sForR, sRev, sBrk, sCnt, sDrop, eOp, eUn, eCall, eVar, eC, eFr, eTup, eTupR, eAnd, eOr, eNot, eIf, eChain, eIndex, eSl, nLst, nList, nListR, nLc, nLc2, nCall, nSorted, nRep, tOf, tAndJ, tOrJ, tNotJ, tTrue, iSeq, iR1, iR2, iR3, rg1, rg2, evA, pNo, pSo, startE, hide, rd, hide_v, hide_o, hide_n, rd_v, rd_o, rd_n, bind_one, bind_many, setAll, List.map, List.replicate, List.length, List.cons_append, List.nil_append, List.getElem?_cons_zero, List.getElem?_cons_succ, List.set_cons_zero, List.set_cons_succ, Option.bind_some, ex_some, Option.some.injEq, Slot.own.injEq, Slot.val.injEq, exists_eq_left', true_and, and_true, Bool.false_eq_true, if_false, if_true, reduceIte, wEq, wNe, wAdd_i, wAdd_t, wAdd_l, wAdd_s, wSub_i, wMul_i, wDiv_i, wMod_i, wPow_i, wNeg_i, wLt_i, wLe_i, wGt_i, wGe_i, wIs_n, wIs_b, wIsNot_n, wIsNot_b, wIx_l, wIx_t, wLen_l, wLen_t, wAbs_i, wInt_i, wInt_b, wMax2_i, wMin2_i, wTuple_l, wTuple_t, wB_b, wI_i, seqOf_l, seqOf_t, wIAdd_i, wIAdd_t, wIMul_i, wSl_l, wSl_t, wIn_l, wIn_t, wNotIn_l, wNotIn_t, items_l, items_t, lv_i, lv_b, lv_n, eqv_ii, eqv_bb, isNon_n, isNon_i, isNon_b, isNon_s, isNon_t, isNon_l, Bool.not_true, Bool.not_false, b2n_t, b2n_f, pl_i, pl_b, pl_n, decide_eq_true_eq]
  refine ⟨mul_l (by decide), ⟨by decide, by decide, ?_, ?_, ?_⟩, ?_⟩
  · unfold b2n; split <;> decide
  · unfold b2n; split <;> decide
  · unfold b2n; split <;> decide
  refine forW_inv (fun i e => ∃ s3 s4 s5 s6 s7 s8 s9 s10, e = [.val (.dict []), .val (.int n), .val (.list ((tab (rnd n)).map PyData.int)), s3, s4, s5, s6, s7, s8, s9, s10, .no]) ⟨_, _, _, _, _, _, _, _, rfl⟩ ?_ ?_
  · rintro i d e hi ⟨s3, s4, s5, s6, s7, s8, s9, s10, rfl⟩ R hR
    obtain ⟨rfl, hlt⟩ := rgD_get hi
    have hn : 1 < n := by
      by_cases c : 1 < n
      · exact c
      · rw [decide_eq_false c] at hlt
        simp [b2n] at hlt
        omega
    refine ⟨_, rfl, ?_⟩
    unfold m__law_meet_right_b1
    simp only [sSeq, sSkip, sAsg, sAsgP, sNew, sNewP, sRet, sRetO, sIf, sApp, sAppP, sSet, sAug, sTgt, sTgtP, sPar, sFz, frz, sFor, sForR, sRev, sBrk, sCnt, sDrop, eOp, eUn, eCall, eVar, eC, eFr, eTup, eTupR, eAnd, eOr, eNot, eIf, eChain, eIndex, eSl, nLst, nList, nListR, nLc, nLc2, nCall, nSorted, nRep, tOf, tAndJ, tOrJ, tNotJ, tTrue, iSeq, iR1, iR2, iR3, rg1, rg2, evA, pNo, pSo, startE, hide, rd, hide_v, hide_o, hide_n, rd_v, rd_o, rd_n, bind_one, bind_many, setAll, List.map, List.replicate, List.length, List.cons_append, List.nil_append, List.getElem?_cons_zero, List.getElem?_cons_succ, List.set_cons_zero, List.set_cons_succ, Option.bind_some, ex_some, Option.some.injEq, Slot.own.injEq, Slot.val.injEq, exists_eq_left', true_and, and_true, Bool.false_eq_true, if_false, if_true, reduceIte, wEq, wNe, wAdd_i, wAdd_t, wAdd_l, wAdd_s, wSub_i, wMul_i, wDiv_i, wMod_i, wPow_i, wNeg_i, wLt_i, wLe_i, wGt_i, wGe_i, wIs_n, wIs_b, wIsNot_n, wIsNot_b, wIx_l, wIx_t, wLen_l, wLen_t, wAbs_i, wInt_i, wInt_b, wMax2_i, wMin2_i, wTuple_l, wTuple_t, wB_b, wI_i, seqOf_l, seqOf_t, wIAdd_i, wIAdd_t, wIMul_i, wSl_l, wSl_t, wIn_l, wIn_t, wNotIn_l, wNotIn_t, items_l, items_t, lv_i, lv_b, lv_n, eqv_ii, eqv_bb, isNon_n, isNon_i, isNon_b, isNon_s, isNon_t, isNon_l, Bool.not_true, Bool.not_false, b2n_t, b2n_f, pl_i, pl_b, pl_n, decide_eq_true_eq]
    refine ⟨n, rfl, by omega, fun one o0 o1 => ?_⟩
    simp only [sSeq, sSkip, sAsg, sAsgP, sNew, sNewP, sRet, sRetO, sIf, sApp, sAppP, sSet, sAug, sTgt, sTgtP, sPar, sFz, frz, sFor, sForR, sRev, sBrk, sCnt, sDrop, eOp, eUn, eCall, eVar, eC, eFr, eTup, eTupR, eAnd, eOr, eNot, eIf, eChain, eIndex, eSl, nLst, nList, nListR, nLc, nLc2, nCall, nSorted, nRep, tOf, tAndJ, tOrJ, tNotJ, tTrue, iSeq, iR1, iR2, iR3, rg1, rg2, evA, pNo, pSo, startE, hide, rd, hide_v, hide_o, hide_n, rd_v, rd_o, rd_n, bind_one, bind_many, setAll, List.map, List.replicate, List.length, List.cons_append, List.nil_append, List.getElem?_cons_zero, List.getElem?_cons_succ, List.set_cons_zero, List.set_cons_succ, Option.bind_some, ex_some, Option.some.injEq, Slot.own.injEq, Slot.val.injEq, exists_eq_left', true_and, and_true, Bool.false_eq_true, if_false, if_true, reduceIte, wEq, wNe, wAdd_i, wAdd_t, wAdd_l, wAdd_s, wSub_i, wMul_i, wDiv_i, wMod_i, wPow_i, wNeg_i, wLt_i, wLe_i, wGt_i, wGe_i, wIs_n, wIs_b, wIsNot_n, wIsNot_b, wIx_l, wIx_t, wLen_l, wLen_t, wAbs_i, wInt_i, wInt_b, wMax2_i, wMin2_i, wTuple_l, wTuple_t, wB_b, wI_i, seqOf_l, seqOf_t, wIAdd_i, wIAdd_t, wIMul_i, wSl_l, wSl_t, wIn_l, wIn_t, wNotIn_l, wNotIn_t, items_l, items_t, lv_i, lv_b, lv_n, eqv_ii, eqv_bb, isNon_n, isNon_i, isNon_b, isNon_s, isNon_t, isNon_l, Bool.not_true, Bool.not_false, b2n_t, b2n_f, pl_i, pl_b, pl_n, decide_eq_true_eq]
    refine ⟨n - 1, rfl, by omega, fun r r0 r1 => ?_⟩
    simp only [sSeq, sSkip, sAsg, sAsgP, sNew, sNewP, sRet, sRetO, sIf, sApp, sAppP, sSet, sAug, sTgt, sTgtP, sPar, sFz, frz, sFor, sForR, sRev, sBrk, sCnt, sDrop, eOp, eUn, eCall, eVar, eC, eFr, eTup, eTupR, eAnd, eOr, eNot, eIf, eChain, eIndex, eSl, nLst, nList, nListR, nLc, nLc2, nCall, nSorted, nRep, tOf, tAndJ, tOrJ, tNotJ, tTrue, iSeq, iR1, iR2, iR3, rg1, rg2, evA, pNo, pSo, startE, hide, rd, hide_v, hide_o, hide_n, rd_v, rd_o, rd_n, bind_one, bind_many, setAll, List.map, List.replicate, List.length, List.cons_append, List.nil_append, List.getElem?_cons_zero, List.getElem?_cons_succ, List.set_cons_zero, List.set_cons_succ, Option.bind_some, ex_some, Option.some.injEq, Slot.own.injEq, Slot.val.injEq, exists_eq_left', true_and, and_true, Bool.false_eq_true, if_false, if_true, reduceIte, wEq, wNe, wAdd_i, wAdd_t, wAdd_l, wAdd_s, wSub_i, wMul_i, wDiv_i, wMod_i, wPow_i, wNeg_i, wLt_i, wLe_i, wGt_i, wGe_i, wIs_n, wIs_b, wIsNot_n, wIsNot_b, wIx_l, wIx_t, wLen_l, wLen_t, wAbs_i, wInt_i, wInt_b, wMax2_i, wMin2_i, wTuple_l, wTuple_t, wB_b, wI_i, seqOf_l, seqOf_t, wIAdd_i, wIAdd_t, wIMul_i, wSl_l, wSl_t, wIn_l, wIn_t, wNotIn_l, wNotIn_t, items_l, items_t, lv_i, lv_b, lv_n, eqv_ii, eqv_bb, isNon_n, isNon_i, isNon_b, isNon_s, isNon_t, isNon_l, Bool.not_true, Bool.not_false, b2n_t, b2n_f, pl_i, pl_b, pl_n, decide_eq_true_eq]
    refine ⟨by omega, ?_⟩
    obtain ⟨other, ho, hne, u0, u1⟩ : ∃ other, (one + 1 + r) % n = other ∧ other ≠ one ∧ 0 ≤ other ∧ other < n := by
      by_cases c : one + 1 + r < n
      · exact ⟨_, Int.emod_eq_of_lt (by omega) c, by omega, by omega, c⟩
      · refine ⟨one + 1 + r - n, ?_, by omega, by omega, by omega⟩
        rw [← Int.sub_emod_right, Int.emod_eq_of_lt (by omega) (by omega)]
    rw [ho]
    refine ⟨⟨by decide, by decide, by omega, by omega, by omega⟩, ?_⟩
    refine mapW_map (fun _ => .int 0) (fun d hd R hR => ?_) ?_
    · refine ⟨_, rfl, ?_⟩
      simp only [sSeq, sSkip, sAsg, sAsgP, sNew, sNewP, sRet, sRetO, sIf, sApp, sAppP, sSet, sAug, sTgt, sTgtP, sPar, sFz, frz, sFor, sForR, sRev, sBrk, sCnt, sDrop, eOp, eUn, eCall, eVar, eC, eFr, eTup, eTupR, eAnd, eOr, eNot, eIf, eChain, eIndex, eSl, nLst, nList, nListR, nLc, nLc2, nCall, nSorted, nRep, tOf, tAndJ, tOrJ, tNotJ, tTrue, iSeq, iR1, iR2, iR3, rg1, rg2, evA, pNo, pSo, startE, hide, rd, hide_v, hide_o, hide_n, rd_v, rd_o, rd_n, bind_one, bind_many, setAll, List.map, List.replicate, List.length, List.cons_append, List.nil_append, List.getElem?_cons_zero, List.getElem?_cons_succ, List.set_cons_zero, List.set_cons_succ, Option.bind_some, ex_some, Option.some.injEq, Slot.own.injEq, Slot.val.injEq, exists_eq_left', true_and, and_true, Bool.false_eq_true, if_false, if_true, reduceIte, wEq, wNe, wAdd_i, wAdd_t, wAdd_l, wAdd_s, wSub_i, wMul_i, wDiv_i, wMod_i, wPow_i, wNeg_i, wLt_i, wLe_i, wGt_i, wGe_i, wIs_n, wIs_b, wIsNot_n, wIsNot_b, wIx_l, wIx_t, wLen_l, wLen_t, wAbs_i, wInt_i, wInt_b, wMax2_i, wMin2_i, wTuple_l, wTuple_t, wB_b, wI_i, seqOf_l, seqOf_t, wIAdd_i, wIAdd_t, wIMul_i, wSl_l, wSl_t, wIn_l, wIn_t, wNotIn_l, wNotIn_t, items_l, items_t, lv_i, lv_b, lv_n, eqv_ii, eqv_bb, isNon_n, isNon_i, isNon_b, isNon_s, isNon_t, isNon_l, Bool.not_true, Bool.not_false, b2n_t, b2n_f, pl_i, pl_b, pl_n, decide_eq_true_eq, wipeE]
      exact hR
    have e0 : (rgD 0 n).map (fun _ => PyData.int 0) = (List.replicate n.toNat (0 : Int)).map PyData.int := by
      unfold rgD rgI
      rw [List.map_map, List.map_map, ← rep_map, show n - 0 = n by omega]
      rfl
    rw [e0]
    have x1 : ixN n.toNat one = some one.toNat := ixN_some o0 (by omega)
    have x2 : ixN n.toNat other = some other.toNat := ixN_some u0 (by omega)
    have ls : (((List.replicate n.toNat (0 : Int)).set one.toNat 2).set other.toNat 1).length = n.toNat := by simp
    have es : (((List.replicate n.toNat (0 : Int)).map PyData.int).set one.toNat (.int 2)).set other.toNat (.int 1) = (((List.replicate n.toNat (0 : Int)).set one.toNat 2).set other.toNat 1).map PyData.int := by rw [List.map_set, List.map_set]
    simp only [sSeq, sSkip, sAsg, sAsgP, sNew, sNewP, sRet, sRetO, sIf, sApp, sAppP, sSet, sAug, sTgt, sTgtP, sPar, sFz, frz, sFor, sForR, sRev, sBrk, sCnt, sDrop, eOp, eUn, eCall, eVar, eC, eFr, eTup, eTupR, eAnd, eOr, eNot, eIf, eChain, eIndex, eSl, nLst, nList, nListR, nLc, nLc2, nCall, nSorted, nRep, tOf, tAndJ, tOrJ, tNotJ, tTrue, iSeq, iR1, iR2, iR3, rg1, rg2, evA, pNo, pSo, startE, hide, rd, hide_v, hide_o, hide_n, rd_v, rd_o, rd_n, bind_one, bind_many, setAll, List.map, List.replicate, List.length, List.cons_append, List.nil_append, List.getElem?_cons_zero, List.getElem?_cons_succ, List.set_cons_zero, List.set_cons_succ, Option.bind_some, ex_some, Option.some.injEq, Slot.own.injEq, Slot.val.injEq, exists_eq_left', true_and, and_true, Bool.false_eq_true, if_false, if_true, reduceIte, wEq, wNe, wAdd_i, wAdd_t, wAdd_l, wAdd_s, wSub_i, wMul_i, wDiv_i, wMod_i, wPow_i, wNeg_i, wLt_i, wLe_i, wGt_i, wGe_i, wIs_n, wIs_b, wIsNot_n, wIsNot_b, wIx_l, wIx_t, wLen_l, wLen_t, wAbs_i, wInt_i, wInt_b, wMax2_i, wMin2_i, wTuple_l, wTuple_t, wB_b, wI_i, seqOf_l, seqOf_t, wIAdd_i, wIAdd_t, wIMul_i, wSl_l, wSl_t, wIn_l, wIn_t, wNotIn_l, wNotIn_t, items_l, items_t, lv_i, lv_b, lv_n, eqv_ii, eqv_bb, isNon_n, isNon_i, isNon_b, isNon_s, isNon_t, isNon_l, Bool.not_true, Bool.not_false, b2n_t, b2n_f, pl_i, pl_b, pl_n, decide_eq_true_eq, List.length_map, List.length_replicate, List.length_set, x1, x2]
    rw [es]
    generalize hss : ((List.replicate n.toNat (0 : Int)).set one.toNat 2).set other.toNat 1 = ss at ls
    have fss : ∀ x : Int, 0 ≤ x → ss.getD x.toNat 0 = if x = other then 1 else if x = one then 2 else 0 := fun x hx => by
      rw [← hss, getD_set (by rw [List.length_set, List.length_replicate]; omega), getD_set (by rw [List.length_replicate]; omega), getD_rep]
      by_cases e1 : x = other
      · rw [if_pos e1, if_pos (by omega)]
      · rw [if_neg e1, if_neg (by omega)]
        by_cases e2 : x = one
        · rw [if_pos e2, if_pos (by omega)]
        · rw [if_neg e2, if_neg (by omega)]
    obtain ⟨p, hp, pu⟩ := lT_place h1 h64 ⟨o0, o1⟩
    obtain ⟨o, hq, qu⟩ := lT_place h1 h64 ⟨u0, u1⟩
    have hpq : p ≠ o := fun e => by
      rw [e, hq] at hp
      exact hne (Option.some.inj hp)
    have lp := (List.getElem?_eq_some_iff.mp hp).1
    have lq := (List.getElem?_eq_some_iff.mp hq).1
    rw [tab_len] at lp lq
    refine mapW_ints (seedD n) (fun s _ R hR => ?_) ?_
    · refine ⟨_, rfl, ?_⟩
      simp only [sSeq, sSkip, sAsg, sAsgP, sNew, sNewP, sRet, sRetO, sIf, sApp, sAppP, sSet, sAug, sTgt, sTgtP, sPar, sFz, frz, sFor, sForR, sRev, sBrk, sCnt, sDrop, eOp, eUn, eCall, eVar, eC, eFr, eTup, eTupR, eAnd, eOr, eNot, eIf, eChain, eIndex, eSl, nLst, nList, nListR, nLc, nLc2, nCall, nSorted, nRep, tOf, tAndJ, tOrJ, tNotJ, tTrue, iSeq, iR1, iR2, iR3, rg1, rg2, evA, pNo, pSo, startE, hide, rd, hide_v, hide_o, hide_n, rd_v, rd_o, rd_n, bind_one, bind_many, setAll, List.map, List.replicate, List.length, List.cons_append, List.nil_append, List.getElem?_cons_zero, List.getElem?_cons_succ, List.set_cons_zero, List.set_cons_succ, Option.bind_some, ex_some, Option.some.injEq, Slot.own.injEq, Slot.val.injEq, exists_eq_left', true_and, and_true, Bool.false_eq_true, if_false, if_true, reduceIte, wEq, wNe, wAdd_i, wAdd_t, wAdd_l, wAdd_s, wSub_i, wMul_i, wDiv_i, wMod_i, wPow_i, wNeg_i, wLt_i, wLe_i, wGt_i, wGe_i, wIs_n, wIs_b, wIsNot_n, wIsNot_b, wIx_l, wIx_t, wLen_l, wLen_t, wAbs_i, wInt_i, wInt_b, wMax2_i, wMin2_i, wTuple_l, wTuple_t, wB_b, wI_i, seqOf_l, seqOf_t, wIAdd_i, wIAdd_t, wIMul_i, wSl_l, wSl_t, wIn_l, wIn_t, wNotIn_l, wNotIn_t, items_l, items_t, lv_i, lv_b, lv_n, eqv_ii, eqv_bb, isNon_n, isNon_i, isNon_b, isNon_s, isNon_t, isNon_l, Bool.not_true, Bool.not_false, b2n_t, b2n_f, pl_i, pl_b, pl_n, decide_eq_true_eq, wipeE]
      have hR' : R (some (seedD n s)) := hR
      unfold seedD at hR'
      by_cases c : n ≤ s
      · rw [if_neg (by omega)] at hR'
        rw [decide_eq_true c]
        exact ⟨_, rfl, hR'⟩
      · rw [if_pos (by omega)] at hR'
        rw [decide_eq_false c]
        exact ⟨_, rfl, hR'⟩
    have em : (tab (rnd n)).map (seedD n) = (lT n).map enc := (enc_lT n).symm
    rw [em]
    refine ⟨_, _, lT n, ss, rnd n, rfl, rfl, rfl, lT_len n, hj, fun x hx => ?_, ?_⟩
    · have := (lT_mem h1 h64).mp hx
      omega
    have hmem : ∀ x, some x ∈ lT n → 0 ≤ x ∧ x < n := fun x hx => (lT_mem h1 h64).mp hx
    generalize hf : (fun i : Int => ss.getD i.toNat 0) = f
    have ff : ∀ x : Int, 0 ≤ x → f x = if x = other then 1 else if x = one then 2 else 0 := fun x hx => by rw [← hf]; exact fss x hx
    obtain ⟨w, e1, e2, e3⟩ := plays_best f (rnd n) (lT n) (lT_len n) ⟨one, (lT_mem h1 h64).mpr ⟨o0, o1⟩⟩
    have hw : w = one := by
      rcases e3 one ((lT_mem h1 h64).mpr ⟨o0, o1⟩) with c | c
      · exact c.symm
      · have := (hmem w e2).1
        unfold Beats at c
        rw [ff w this, ff one o0, if_neg (Ne.symm hne), if_pos rfl] at c
        split at c
        · omega
        · split at c
          · assumption
          · omega
    subst hw
    have hmeet := plays_meet (f := f) (Ne.symm hne) (rnd n) (lT n) p o (lT_len n) pu qu (fun x hx hne2 => by
      rw [ff x (hmem x hx).1, ff w o0, if_neg (Ne.symm hne), if_pos rfl, if_neg hne2]
      split <;> decide) (fun x hx n1 n2 => by
      rw [ff x (hmem x hx).1, ff other u0, if_pos rfl, if_neg n1, if_neg n2]
      decide)
    have hpl := plays_len f (rnd n) (lT n)
    rw [e1]
    generalize (plays f (rnd n) (lT n)).2 = PR at hmeet hpl
    simp only [sSeq, sSkip, sAsg, sAsgP, sNew, sNewP, sRet, sRetO, sIf, sApp, sAppP, sSet, sAug, sTgt, sTgtP, sPar, sFz, frz, sFor, sForR, sRev, sBrk, sCnt, sDrop, eOp, eUn, eCall, eVar, eC, eFr, eTup, eTupR, eAnd, eOr, eNot, eIf, eChain, eIndex, eSl, nLst, nList, nListR, nLc, nLc2, nCall, nSorted, nRep, tOf, tAndJ, tOrJ, tNotJ, tTrue, iSeq, iR1, iR2, iR3, rg1, rg2, evA, pNo, pSo, startE, hide, rd, hide_v, hide_o, hide_n, rd_v, rd_o, rd_n, bind_one, bind_many, setAll, List.map, List.replicate, List.length, List.cons_append, List.nil_append, List.getElem?_cons_zero, List.getElem?_cons_succ, List.set_cons_zero, List.set_cons_succ, Option.bind_some, ex_some, Option.some.injEq, Slot.own.injEq, Slot.val.injEq, exists_eq_left', true_and, and_true, Bool.false_eq_true, if_false, if_true, reduceIte, wEq, wNe, wAdd_i, wAdd_t, wAdd_l, wAdd_s, wSub_i, wMul_i, wDiv_i, wMod_i, wPow_i, wNeg_i, wLt_i, wLe_i, wGt_i, wGe_i, wIs_n, wIs_b, wIsNot_n, wIsNot_b, wIx_l, wIx_t, wLen_l, wLen_t, wAbs_i, wInt_i, wInt_b, wMax2_i, wMin2_i, wTuple_l, wTuple_t, wB_b, wI_i, seqOf_l, seqOf_t, wIAdd_i, wIAdd_t, wIMul_i, wSl_l, wSl_t, wIn_l, wIn_t, wNotIn_l, wNotIn_t, items_l, items_t, lv_i, lv_b, lv_n, eqv_ii, eqv_bb, isNon_n, isNon_i, isNon_b, isNon_s, isNon_t, isNon_l, Bool.not_true, Bool.not_false, b2n_t, b2n_f, pl_i, pl_b, pl_n, decide_eq_true_eq, List.length_map, hpl]
    refine ⟨⟨by decide, by decide, by omega, by omega, by omega⟩, ?_⟩
    have hh := halv_le (rnd n) p o
    have hh0 := halv_pos hpq lp lq
    generalize hH : halv (rnd n) p o = hv at hh hh0 hmeet
    refine forW_inv (fun t e => ∃ s8, e = [.val (.dict []), .val (.int n), .val (.list ((tab (rnd n)).map PyData.int)), .val (.int (0 + (i : Int))), .val (.int w), .val (.int other), .val (.list (ss.map PyData.int)), .val (if hv ≤ t then .int (hv : Int) else .none), s8, .val (enc (some w)), .val (.list (PR.map encR)), .no]) ⟨s8, by rw [if_neg (by omega)]⟩ ?_ ?_
    · rintro t d e ht ⟨s8, rfl⟩ R2 hR2
      obtain ⟨rfl, htl⟩ := rgD_get ht
      refine ⟨_, rfl, ?_⟩
      unfold m__law_meet_right_b9
      have htl' : t < PR.length := by omega
      have hRt : PR[t]? = some PR[t] := List.getElem?_eq_getElem htl'
      have hat : atI (PR.map encR) (0 + (t : Int)) = some (encR PR[t]) := atI_at (i := t) (by omega) (by rw [List.getElem?_map, hRt]; rfl)
      have hme := hmeet t PR[t] hRt
      have eR : encR PR[t] = .list (PR[t].map encP) := rfl
      simp only [sSeq, sSkip, sAsg, sAsgP, sNew, sNewP, sRet, sRetO, sIf, sApp, sAppP, sSet, sAug, sTgt, sTgtP, sPar, sFz, frz, sFor, sForR, sRev, sBrk, sCnt, sDrop, eOp, eUn, eCall, eVar, eC, eFr, eTup, eTupR, eAnd, eOr, eNot, eIf, eChain, eIndex, eSl, nLst, nList, nListR, nLc, nLc2, nCall, nSorted, nRep, tOf, tAndJ, tOrJ, tNotJ, tTrue, iSeq, iR1, iR2, iR3, rg1, rg2, evA, pNo, pSo, startE, hide, rd, hide_v, hide_o, hide_n, rd_v, rd_o, rd_n, bind_one, bind_many, setAll, List.map, List.replicate, List.length, List.cons_append, List.nil_append, List.getElem?_cons_zero, List.getElem?_cons_succ, List.set_cons_zero, List.set_cons_succ, Option.bind_some, ex_some, Option.some.injEq, Slot.own.injEq, Slot.val.injEq, exists_eq_left', true_and, and_true, Bool.false_eq_true, if_false, if_true, reduceIte, wEq, wNe, wAdd_i, wAdd_t, wAdd_l, wAdd_s, wSub_i, wMul_i, wDiv_i, wMod_i, wPow_i, wNeg_i, wLt_i, wLe_i, wGt_i, wGe_i, wIs_n, wIs_b, wIsNot_n, wIsNot_b, wIx_l, wIx_t, wLen_l, wLen_t, wAbs_i, wInt_i, wInt_b, wMax2_i, wMin2_i, wTuple_l, wTuple_t, wB_b, wI_i, seqOf_l, seqOf_t, wIAdd_i, wIAdd_t, wIMul_i, wSl_l, wSl_t, wIn_l, wIn_t, wNotIn_l, wNotIn_t, items_l, items_t, lv_i, lv_b, lv_n, eqv_ii, eqv_bb, isNon_n, isNon_i, isNon_b, isNon_s, isNon_t, isNon_l, Bool.not_true, Bool.not_false, b2n_t, b2n_f, pl_i, pl_b, pl_n, decide_eq_true_eq, hat, eR, lv_encR, in_enc]
      refine ⟨rfl, ?_⟩
      split
      · rename_i c
        have := hme.mp c
        refine hR2 _ ⟨.val (.int (0 + (t : Int))), ?_⟩
        rw [if_pos (by omega), show 0 + (t : Int) + 1 = hv by omega]
      · rename_i c
        have : ¬ t + 1 = hv := fun z => c (hme.mpr z)
        refine hR2 _ ⟨.val (.int (0 + (t : Int))), ?_⟩
        by_cases z : hv ≤ t
        · rw [if_pos z, if_pos (by omega)]
        · rw [if_neg z, if_neg (by omega)]
    · rintro e ⟨s8, rfl⟩
      have hl : (rgD 0 (rnd n : Int)).length = rnd n := by rw [rgD_length]; omega
      rw [hl, if_pos hh]
      unfold m__law_meet_right_r9
      simp only [sSeq, sSkip, sAsg, sAsgP, sNew, sNewP, sRet, sRetO, sIf, sApp, sAppP, sSet, sAug, sTgt, sTgtP, sPar, sFz, frz, sFor, sForR, sRev, sBrk, sCnt, sDrop, eOp, eUn, eCall, eVar, eC, eFr, eTup, eTupR, eAnd, eOr, eNot, eIf, eChain, eIndex, eSl, nLst, nList, nListR, nLc, nLc2, nCall, nSorted, nRep, tOf, tAndJ, tOrJ, tNotJ, tTrue, iSeq, iR1, iR2, iR3, rg1, rg2, evA, pNo, pSo, startE, hide, rd, hide_v, hide_o, hide_n, rd_v, rd_o, rd_n, bind_one, bind_many, setAll, List.map, List.replicate, List.length, List.cons_append, List.nil_append, List.getElem?_cons_zero, List.getElem?_cons_succ, List.set_cons_zero, List.set_cons_succ, Option.bind_some, ex_some, Option.some.injEq, Slot.own.injEq, Slot.val.injEq, exists_eq_left', true_and, and_true, Bool.false_eq_true, if_false, if_true, reduceIte, wEq, wNe, wAdd_i, wAdd_t, wAdd_l, wAdd_s, wSub_i, wMul_i, wDiv_i, wMod_i, wPow_i, wNeg_i, wLt_i, wLe_i, wGt_i, wGe_i, wIs_n, wIs_b, wIsNot_n, wIsNot_b, wIx_l, wIx_t, wLen_l, wLen_t, wAbs_i, wInt_i, wInt_b, wMax2_i, wMin2_i, wTuple_l, wTuple_t, wB_b, wI_i, seqOf_l, seqOf_t, wIAdd_i, wIAdd_t, wIMul_i, wSl_l, wSl_t, wIn_l, wIn_t, wNotIn_l, wNotIn_t, items_l, items_t, lv_i, lv_b, lv_n, eqv_ii, eqv_bb, isNon_n, isNon_i, isNon_b, isNon_s, isNon_t, isNon_l, Bool.not_true, Bool.not_false, b2n_t, b2n_f, pl_i, pl_b, pl_n, decide_eq_true_eq, enc, lv_i, Bool.not_true, decide_true]
      refine ⟨n, w, other, p, o, rfl, h64, hp, hq, ?_⟩
      rw [hH]
      refine ⟨_, rfl, rfl, ?_⟩
      simp only [sSeq, sSkip, sAsg, sAsgP, sNew, sNewP, sRet, sRetO, sIf, sApp, sAppP, sSet, sAug, sTgt, sTgtP, sPar, sFz, frz, sFor, sForR, sRev, sBrk, sCnt, sDrop, eOp, eUn, eCall, eVar, eC, eFr, eTup, eTupR, eAnd, eOr, eNot, eIf, eChain, eIndex, eSl, nLst, nList, nListR, nLc, nLc2, nCall, nSorted, nRep, tOf, tAndJ, tOrJ, tNotJ, tTrue, iSeq, iR1, iR2, iR3, rg1, rg2, evA, pNo, pSo, startE, hide, rd, hide_v, hide_o, hide_n, rd_v, rd_o, rd_n, bind_one, bind_many, setAll, List.map, List.replicate, List.length, List.cons_append, List.nil_append, List.getElem?_cons_zero, List.getElem?_cons_succ, List.set_cons_zero, List.set_cons_succ, Option.bind_some, ex_some, Option.some.injEq, Slot.own.injEq, Slot.val.injEq, exists_eq_left', true_and, and_true, Bool.false_eq_true, if_false, if_true, reduceIte, wEq, wNe, wAdd_i, wAdd_t, wAdd_l, wAdd_s, wSub_i, wMul_i, wDiv_i, wMod_i, wPow_i, wNeg_i, wLt_i, wLe_i, wGt_i, wGe_i, wIs_n, wIs_b, wIsNot_n, wIsNot_b, wIx_l, wIx_t, wLen_l, wLen_t, wAbs_i, wInt_i, wInt_b, wMax2_i, wMin2_i, wTuple_l, wTuple_t, wB_b, wI_i, seqOf_l, seqOf_t, wIAdd_i, wIAdd_t, wIMul_i, wSl_l, wSl_t, wIn_l, wIn_t, wNotIn_l, wNotIn_t, items_l, items_t, lv_i, lv_b, lv_n, eqv_ii, eqv_bb, isNon_n, isNon_i, isNon_b, isNon_s, isNon_t, isNon_l, Bool.not_true, Bool.not_false, b2n_t, b2n_f, pl_i, pl_b, pl_n, decide_eq_true_eq]
      refine ⟨n, other, w, o, p, rfl, h64, hq, hp, ?_⟩
      rw [halv_comm, hH]
      refine ⟨_, rfl, rfl, ?_⟩
      simp only [sSeq, sSkip, sAsg, sAsgP, sNew, sNewP, sRet, sRetO, sIf, sApp, sAppP, sSet, sAug, sTgt, sTgtP, sPar, sFz, frz, sFor, sForR, sRev, sBrk, sCnt, sDrop, eOp, eUn, eCall, eVar, eC, eFr, eTup, eTupR, eAnd, eOr, eNot, eIf, eChain, eIndex, eSl, nLst, nList, nListR, nLc, nLc2, nCall, nSorted, nRep, tOf, tAndJ, tOrJ, tNotJ, tTrue, iSeq, iR1, iR2, iR3, rg1, rg2, evA, pNo, pSo, startE, hide, rd, hide_v, hide_o, hide_n, rd_v, rd_o, rd_n, bind_one, bind_many, setAll, List.map, List.replicate, List.length, List.cons_append, List.nil_append, List.getElem?_cons_zero, List.getElem?_cons_succ, List.set_cons_zero, List.set_cons_succ, Option.bind_some, ex_some, Option.some.injEq, Slot.own.injEq, Slot.val.injEq, exists_eq_left', true_and, and_true, Bool.false_eq_true, if_false, if_true, reduceIte, wEq, wNe, wAdd_i, wAdd_t, wAdd_l, wAdd_s, wSub_i, wMul_i, wDiv_i, wMod_i, wPow_i, wNeg_i, wLt_i, wLe_i, wGt_i, wGe_i, wIs_n, wIs_b, wIsNot_n, wIsNot_b, wIx_l, wIx_t, wLen_l, wLen_t, wAbs_i, wInt_i, wInt_b, wMax2_i, wMin2_i, wTuple_l, wTuple_t, wB_b, wI_i, seqOf_l, seqOf_t, wIAdd_i, wIAdd_t, wIMul_i, wSl_l, wSl_t, wIn_l, wIn_t, wNotIn_l, wNotIn_t, items_l, items_t, lv_i, lv_b, lv_n, eqv_ii, eqv_bb, isNon_n, isNon_i, isNon_b, isNon_s, isNon_t, isNon_l, Bool.not_true, Bool.not_false, b2n_t, b2n_f, pl_i, pl_b, pl_n, decide_eq_true_eq]
      exact hR _ ⟨_, _, _, _, _, _, _, _, rfl⟩
  · rintro e ⟨s3, s4, s5, s6, s7, s8, s9, s10, rfl⟩
    unfold m__law_meet_right_r1
    simp only [sSeq, sSkip, sAsg, sAsgP, sNew, sNewP, sRet, sRetO, sIf, sApp, sAppP, sSet, sAug, sTgt, sTgtP, sPar, sFz, frz, sFor, sForR, sRev, sBrk, sCnt, sDrop, eOp, eUn, eCall, eVar, eC, eFr, eTup, eTupR, eAnd, eOr, eNot, eIf, eChain, eIndex, eSl, nLst, nList, nListR, nLc, nLc2, nCall, nSorted, nRep, tOf, tAndJ, tOrJ, tNotJ, tTrue, iSeq, iR1, iR2, iR3, rg1, rg2, evA, pNo, pSo, startE, hide, rd, hide_v, hide_o, hide_n, rd_v, rd_o, rd_n, bind_one, bind_many, setAll, List.map, List.replicate, List.length, List.cons_append, List.nil_append, List.getElem?_cons_zero, List.getElem?_cons_succ, List.set_cons_zero, List.set_cons_succ, Option.bind_some, ex_some, Option.some.injEq, Slot.own.injEq, Slot.val.injEq, exists_eq_left', true_and, and_true, Bool.false_eq_true, if_false, if_true, reduceIte, wEq, wNe, wAdd_i, wAdd_t, wAdd_l, wAdd_s, wSub_i, wMul_i, wDiv_i, wMod_i, wPow_i, wNeg_i, wLt_i, wLe_i, wGt_i, wGe_i, wIs_n, wIs_b, wIsNot_n, wIsNot_b, wIx_l, wIx_t, wLen_l, wLen_t, wAbs_i, wInt_i, wInt_b, wMax2_i, wMin2_i, wTuple_l, wTuple_t, wB_b, wI_i, seqOf_l, seqOf_t, wIAdd_i, wIAdd_t, wIMul_i, wSl_l, wSl_t, wIn_l, wIn_t, wNotIn_l, wNotIn_t, items_l, items_t, lv_i, lv_b, lv_n, eqv_ii, eqv_bb, isNon_n, isNon_i, isNon_b, isNon_s, isNon_t, isNon_l, Bool.not_true, Bool.not_false, b2n_t, b2n_f, pl_i, pl_b, pl_n, decide_eq_true_eq]
    exact q

/-! ## _law_right -/
theorem tp_told (n : Int) : tp 8 (.tuple (told n)) = true := by
  show (decide ((told n).length ≤ 16000000) && (told n).all (tp 7)) = true
  have h : 2 ^ rnd n ≤ 2 ^ 6 := Nat.pow_le_pow_right (by decide) (rnd_le n)
  rw [told_len, Bool.and_eq_true]
  refine ⟨decide_eq_true (by omega), List.all_eq_true.mpr fun d hd => ?_⟩
  unfold told at hd
  obtain ⟨s, _, rfl⟩ := List.mem_map.mp hd
  unfold seedD
  split <;> rfl
theorem tp_pairs : ∀ l : List D, (∀ d ∈ l, tp 6 d = true) → (pairsOf l).all (tp 7) = true ∧ (pairsOf l).length ≤ l.length
  | [], _ => ⟨rfl, Nat.le_refl _⟩
  | [_], _ => ⟨rfl, Nat.zero_le _⟩
  | a :: b :: r, h => by
    obtain ⟨h1, h2⟩ := tp_pairs r fun d hd => h d (by simp [hd])
    refine ⟨?_, ?_⟩
    · show (tp 7 (.tuple [a, b]) && (pairsOf r).all (tp 7)) = true
      rw [h1, Bool.and_true]
      show (decide (2 ≤ 16000000) && ([a, b] : List D).all (tp 6)) = true
      have ha := h a (by simp)
      have hb := h b (by simp)
      rw [List.all_cons, List.all_cons, ha, hb]
      rfl
    · show (pairsOf r).length + 1 ≤ r.length + 1 + 1
      omega
theorem tp_pairs_told (n : Int) : tp 8 (.tuple (pairsOf (told n))) = true := by
  obtain ⟨h1, h2⟩ := tp_pairs (told n) fun d hd => by
    unfold told at hd
    obtain ⟨s, _, rfl⟩ := List.mem_map.mp hd
    unfold seedD
    split <;> rfl
  have h : 2 ^ rnd n ≤ 2 ^ 6 := Nat.pow_le_pow_right (by decide) (rnd_le n)
  rw [told_len] at h2
  show (decide ((pairsOf (told n)).length ≤ 16000000) && (pairsOf (told n)).all (tp 7)) = true
  rw [h1, Bool.and_true]
  exact decide_eq_true (by omega)
theorem tp_i {n : Nat} {i : Int} : tp n (.int i) = true := by cases n <;> rfl
theorem somes_count {n : Int} (h1 : 1 ≤ n) (h2 : n ≤ 64) : (somes (lT n)).length = n.toNat := by
  have key : ((List.range 65).all fun k => k == 0 || (somes (lT k)).length == k) = true := by decide +kernel
  have := List.all_eq_true.mp key n.toNat (by rw [List.mem_range]; omega)
  rw [Bool.or_eq_true, beq_iff_eq, beq_iff_eq] at this
  rw [Int.toNat_of_nonneg (by omega)] at this
  omega
/-- each part of the table has one of the best seeds -/
def quart (J k i : Nat) : Nat := ((((tab J).drop (i * 2 ^ (J - k))).take (2 ^ (J - k))).filter fun s => decide (s < 2 ^ k)).length
theorem quart_one {J k i : Nat} (hJ : J ≤ 6) (hk : k < J) (hi : i < 2 ^ k) : quart J k i = 1 := by
  have key : ((List.range 7).all fun J => (List.range J).all fun k => (List.range (2 ^ k)).all fun i => quart J k i == 1) = true := by decide +kernel
  have h1 := List.all_eq_true.mp key J (by rw [List.mem_range]; omega)
  have h2 := List.all_eq_true.mp h1 k (by rw [List.mem_range]; exact hk)
  have h3 := List.all_eq_true.mp h2 i (by rw [List.mem_range]; exact hi)
  exact beq_iff_eq.mp h3
theorem sort_ints (ns : List Int) : SortOk (ns.map PyData.int) := ⟨lv_ints ns, (alike_ints ns).1, .inr fun d hd => by
  obtain ⟨i, _, rfl⟩ := List.mem_map.mp hd
  exact ⟨(by intro h; cases h), fun xs h => by cases h⟩⟩
theorem sort_perm (ds : List D) : (dSort ds).Perm ds := List.mergeSort_perm ds _
theorem sum_cast : ∀ l : List (List (Int × Int)), (l.map fun R => ((R.length : Nat) : Int)).sum = (((l.map List.length).sum : Nat) : Int)
  | [] => rfl
  | a :: l => by rw [List.map_cons, List.map_cons, List.sum_cons, List.sum_cons, sum_cast l, Int.natCast_add]
def low (m : Int) : D → Option D
  | .int s => if s < m then some (.int s) else none
  | _ => none
def lenD : D → D
  | .list r => .int (r.length : Nat)
  | _ => .none
theorem low_len (m : Int) (l : List Int) : ((l.map PyData.int).filterMap (low m)).length = (l.filter fun s => decide (s < m)).length := by
  induction l with
  | nil => rfl
  | cons a l ih =>
    rw [List.filterMap_map] at ih
    rw [List.map_cons, List.filterMap_cons, List.filter_cons]
    by_cases c : a < m
    · simp [low, c, ih]
    · simp [low, c, ih]
/-! _law_right: 0=draws 1=n 2=strengths 3=table 4=told 5=rounds 6=size 7=best 8=part 9=winner 10=played 11=first 12=own 13=seed 14=k 15=met -/
def m__law_right_b5 : SX := (sSeq (sAsg 6 (eOp wMul (eC (.int 2)) (eVar 6)))
      (sAsg 5 (eOp wAdd (eVar 5) (eC (.int 1)))))
def m__law_right_b20 : SX := (sSeq (sAsg 12 (eFr (nSorted (eSl (eVar 3) (pSo (eVar 11)) (pSo (eOp wAdd (eVar 11) (eVar 8)))))))
      (sIf (tOf (eOp wNe (eCall wLen [(eFr (nLc (iSeq (eVar 12)) (.one 13) [13] (tOf (eOp wLt (eVar 13) (eOp wDiv (eVar 6) (eVar 8)))) (eVar 13)))]) (eC (.int 1)))) (sRet (eC (.bool false))) sSkip))
def m__law_right_r20 : SX := (sAsg 8 (eOp wDiv (eVar 8) (eC (.int 2))))
def m__law_right_b19 : SX := (sSeq (sForR (iR3 (eC (.int 0)) (eVar 6) (eVar 8)) (.one 11) m__law_right_b20)
      m__law_right_r20)
def m__law_right_r19 : SX := (sRet (eCall S__law_meet_right [(eVar 0), (eVar 1), (eVar 3)]))
def m__law_right_r16 : SX := (sSeq (sAsg 8 (eVar 6))
      (sSeq (sWhile (tOf (eOp wGt (eVar 8) (eC (.int 1)))) m__law_right_b19)
      m__law_right_r19))
def m__law_right_r13 : SX := (sSeq (sAsg 7 (eCall S_winner_of [(eVar 1), (eUn wTuple (eFr (nLc (iR1 (eVar 1)) (.one 13) [13] tTrue (eOp wSub (eVar 1) (eVar 13)))))]))
      (sSeq (sIf (tOrJ (tOf (eOp wNe (eVar 7) (eC (.int 0)))) (tOf (eOp wNe (eCall wSum [(eFr (nLc (iSeq (eVar 10)) (.one 15) [15] tTrue (eCall wLen [(eVar 15)])))]) (eOp wSub (eVar 1) (eC (.int 1)))))) (sRet (eC (.bool false))) sSkip)
      m__law_right_r16))
def m__law_right_r10 : SX := (sSeq (sTgt (.many [9, 10]) (eCall S__law_played [(eVar 4), (eVar 2)]))
      (sSeq (sIf (tOrJ (tNotJ (tOf (eCall S__law_same [(eCall S_winner_of [(eVar 1), (eVar 2)]), (eVar 9)]))) (tOf (eOp wNe (eCall wLen [(eVar 10)]) (eVar 5)))) (sRet (eC (.bool false))) sSkip)
      m__law_right_r13))
def m__law_right_r8 : SX := (sSeq (sIf (tNotJ (tOf (eCall S__law_same [(eCall S_first_pairs [(eVar 1)]), (eUn wTuple (eFr (nLc (iR3 (eC (.int 0)) (eOp wSub (eVar 6) (eC (.int 1))) (eC (.int 2))) (.one 14) [14] tTrue (eTup [(eOp wIx (eVar 4) (eVar 14)), (eOp wIx (eVar 4) (eOp wAdd (eVar 14) (eC (.int 1))))]))))]))) (sRet (eC (.bool false))) sSkip)
      m__law_right_r10)
def m__law_right_r5 : SX := (sSeq (sIf (tOrJ (tNotJ (tOf (eCall S__law_same [(eCall S_rounds_of_battle [(eVar 1)]), (eVar 5)]))) (tOrJ (tNotJ (tOf (eCall S__law_same [(eCall S_seeds_in_table [(eVar 1)]), (eVar 4)]))) (tOf (eOp wNe (eCall wLen [(eVar 4)]) (eVar 6))))) (sRet (eC (.bool false))) sSkip)
      m__law_right_r8)
def m__law_right : SX := (sSeq (sAsg 3 (eCall S__law_table [(eVar 1)]))
      (sSeq (sAsg 4 (eUn wTuple (eFr (nLc (iSeq (eVar 3)) (.one 13) [13] tTrue (eOp wIx (eFr (nLst [(eVar 13), (eC .none)])) (eCall wInt [(eOp wGe (eVar 13) (eVar 1))]))))))
      (sSeq (sAsg 5 (eC (.int 0)))
      (sSeq (sAsg 6 (eC (.int 1)))
      (sSeq (sWhile (tOf (eOp wLt (eVar 6) (eVar 1))) m__law_right_b5)
      m__law_right_r5)))))
def S__law_right : WL := fun ds Q => ∃ (n : Int) (ss : List Int), ds = [.dict [], .int n, .tuple (ss.map PyData.int)] ∧ 1 ≤ n ∧ n ≤ 64 ∧ ss.length = n.toNat ∧ Q (.bool true)
theorem wp__law_right (ds : List D) (QD : D → Prop) (h : S__law_right ds QD) : m__law_right (startE 16 ds) ⟨fun _ => QD .none, QD, noB, noB, fun es => QD (.list es)⟩ := by
  obtain ⟨n, ss, rfl, h1, h64, hss, q⟩ := h
  have hj := rnd_le n
  have hz : sizeLine = 16777216 := sizeLine_eq
  unfold m__law_right
  simp only [sSeq, sSkip, sAsg, sAsgP, sNew, sNewP, sRet, sRetO, sIf, sApp, sAppP, sSet, sAug, sTgt, sTgtP, sPar, sFz, frz, sFor, sForR, sRev, sBrk, sCnt, sDrop, eOp, eUn, eCall, eVar, eC, eFr, eTup, eTupR, eAnd, eOr, eNot, eIf, eChain, eIndex, eSl, nLst, nList, nListR, nLc, nLc2, nCall, nSorted, nRep, tOf, tAndJ, tOrJ, tNotJ, tTrue, iSeq, iR1, iR2, iR3, rg1, rg2, evA, pNo, pSo, startE, hide, rd, hide_v, hide_o, hide_n, rd_v, rd_o, rd_n, bind_one, bind_many, setAll, List.map, List.replicate, List.length, List.cons_append, List.nil_append, List.getElem?_cons_zero, List.getElem?_cons_succ, List.set_cons_zero, List.set_cons_succ, Option.bind_some, ex_some, Option.some.injEq, Slot.own.injEq, Slot.val.injEq, exists_eq_left', true_and, and_true, Bool.false_eq_true, if_false, if_true, reduceIte, wEq, wNe, wAdd_i, wAdd_t, wAdd_l, wAdd_s, wSub_i, wMul_i, wDiv_i, wMod_i, wPow_i, wNeg_i, wLt_i, wLe_i, wGt_i, wGe_i, wIs_n, wIs_b, wIsNot_n, wIsNot_b, wIx_l, wIx_t, wLen_l, wLen_t, wAbs_i, wInt_i, wInt_b, wMax2_i, wMin2_i, wTuple_l, wTuple_t, wB_b, wI_i, seqOf_l, seqOf_t, wIAdd_i, wIAdd_t, wIMul_i, wSl_l, wSl_t, wIn_l, wIn_t, wNotIn_l, wNotIn_t, items_l, items_t, lv_i, lv_b, lv_n, eqv_ii, eqv_bb, isNon_n, isNon_i, isNon_b, isNon_s, isNon_t, isNon_l, Bool.not_true, Bool.not_false, b2n_t, b2n_f, pl_i, pl_b, pl_n, decide_eq_true_eq]
  refine ⟨n, rfl, h64, ?_⟩
  simp only [sSeq, sSkip, sAsg, sAsgP, sNew, sNewP, sRet, sRetO, sIf, sApp, sAppP, sSet, sAug, sTgt, sTgtP, sPar, sFz, frz, sFor, sForR, sRev, sBrk, sCnt, sDrop, eOp, eUn, eCall, eVar, eC, eFr, eTup, eTupR, eAnd, eOr, eNot, eIf, eChain, eIndex, eSl, nLst, nList, nListR, nLc, nLc2, nCall, nSorted, nRep, tOf, tAndJ, tOrJ, tNotJ, tTrue, iSeq, iR1, iR2, iR3, rg1, rg2, evA, pNo, pSo, startE, hide, rd, hide_v, hide_o, hide_n, rd_v, rd_o, rd_n, bind_one, bind_many, setAll, List.map, List.replicate, List.length, List.cons_append, List.nil_append, List.getElem?_cons_zero, List.getElem?_cons_succ, List.set_cons_zero, List.set_cons_succ, Option.bind_some, ex_some, Option.some.injEq, Slot.own.injEq, Slot.val.injEq, exists_eq_left', true_and, and_true, Bool.false_eq_true, if_false, if_true, reduceIte, wEq, wNe, wAdd_i, wAdd_t, wAdd_l, wAdd_s, wSub_i, wMul_i, wDiv_i, wMod_i, wPow_i, wNeg_i, wLt_i, wLe_i, wGt_i, wGe_i, wIs_n, wIs_b, wIsNot_n, wIsNot_b, wIx_l, wIx_t, wLen_l, wLen_t, wAbs_i, wInt_i, wInt_b, wMax2_i, wMin2_i, wTuple_l, wTuple_t, wB_b, wI_i, seqOf_l, seqOf_t, wIAdd_i, wIAdd_t, wIMul_i, wSl_l, wSl_t, wIn_l, wIn_t, wNotIn_l, wNotIn_t, items_l, items_t, lv_i, lv_b, lv_n, eqv_ii, eqv_bb, isNon_n, isNon_i, isNon_b, isNon_s, isNon_t, isNon_l, Bool.not_true, Bool.not_false, b2n_t, b2n_f, pl_i, pl_b, pl_n, decide_eq_true_eq]
  refine mapW_ints (seedD n) (fun s _ R hR => ?_) ?_
  · refine ⟨_, rfl, ?_⟩
    simp only [sSeq, sSkip, sAsg, sAsgP, sNew, sNewP, sRet, sRetO, sIf, sApp, sAppP, sSet, sAug, sTgt, sTgtP, sPar, sFz, frz, sFor, sForR, sRev, sBrk, sCnt, sDrop, eOp, eUn, eCall, eVar, eC, eFr, eTup, eTupR, eAnd, eOr, eNot, eIf, eChain, eIndex, eSl, nLst, nList, nListR, nLc, nLc2, nCall, nSorted, nRep, tOf, tAndJ, tOrJ, tNotJ, tTrue, iSeq, iR1, iR2, iR3, rg1, rg2, evA, pNo, pSo, startE, hide, rd, hide_v, hide_o, hide_n, rd_v, rd_o, rd_n, bind_one, bind_many, setAll, List.map, List.replicate, List.length, List.cons_append, List.nil_append, List.getElem?_cons_zero, List.getElem?_cons_succ, List.set_cons_zero, List.set_cons_succ, Option.bind_some, ex_some, Option.some.injEq, Slot.own.injEq, Slot.val.injEq, exists_eq_left', true_and, and_true, Bool.false_eq_true, if_false, if_true, reduceIte, wEq, wNe, wAdd_i, wAdd_t, wAdd_l, wAdd_s, wSub_i, wMul_i, wDiv_i, wMod_i, wPow_i, wNeg_i, wLt_i, wLe_i, wGt_i, wGe_i, wIs_n, wIs_b, wIsNot_n, wIsNot_b, wIx_l, wIx_t, wLen_l, wLen_t, wAbs_i, wInt_i, wInt_b, wMax2_i, wMin2_i, wTuple_l, wTuple_t, wB_b, wI_i, seqOf_l, seqOf_t, wIAdd_i, wIAdd_t, wIMul_i, wSl_l, wSl_t, wIn_l, wIn_t, wNotIn_l, wNotIn_t, items_l, items_t, lv_i, lv_b, lv_n, eqv_ii, eqv_bb, isNon_n, isNon_i, isNon_b, isNon_s, isNon_t, isNon_l, Bool.not_true, Bool.not_false, b2n_t, b2n_f, pl_i, pl_b, pl_n, decide_eq_true_eq, wipeE]
    have hR' : R (some (seedD n s)) := hR
    unfold seedD at hR'
    by_cases c : n ≤ s
    · rw [if_neg (by omega)] at hR'
      rw [decide_eq_true c]
      exact ⟨_, rfl, hR'⟩
    · rw [if_pos (by omega)] at hR'
      rw [decide_eq_false c]
      exact ⟨_, rfl, hR'⟩
  have et : (tab (rnd n)).map (seedD n) = told n := rfl
  rw [et]
  refine while_up (rnd n) (fun k e => k ≤ rnd n ∧ e = [.val (.dict []), .val (.int n), .val (.tuple (ss.map PyData.int)), .val (.list ((tab (rnd n)).map PyData.int)), .val (.tuple (told n)), .val (.int (k : Nat)), .val (.int (2 ^ k)), .no, .no, .no, .no, .no, .no, .no, .no, .no]) ⟨Nat.zero_le _, rfl⟩ ?_
  rintro k e hk ⟨_, rfl⟩ R hR
  have st := rnd_step h64 hk
  unfold m__law_right_b5 m__law_right_r5
  simp only [sSeq, sSkip, sAsg, sAsgP, sNew, sNewP, sRet, sRetO, sIf, sApp, sAppP, sSet, sAug, sTgt, sTgtP, sPar, sFz, frz, sFor, sForR, sRev, sBrk, sCnt, sDrop, eOp, eUn, eCall, eVar, eC, eFr, eTup, eTupR, eAnd, eOr, eNot, eIf, eChain, eIndex, eSl, nLst, nList, nListR, nLc, nLc2, nCall, nSorted, nRep, tOf, tAndJ, tOrJ, tNotJ, tTrue, iSeq, iR1, iR2, iR3, rg1, rg2, evA, pNo, pSo, startE, hide, rd, hide_v, hide_o, hide_n, rd_v, rd_o, rd_n, bind_one, bind_many, setAll, List.map, List.replicate, List.length, List.cons_append, List.nil_append, List.getElem?_cons_zero, List.getElem?_cons_succ, List.set_cons_zero, List.set_cons_succ, Option.bind_some, ex_some, Option.some.injEq, Slot.own.injEq, Slot.val.injEq, exists_eq_left', true_and, and_true, Bool.false_eq_true, if_false, if_true, reduceIte, wEq, wNe, wAdd_i, wAdd_t, wAdd_l, wAdd_s, wSub_i, wMul_i, wDiv_i, wMod_i, wPow_i, wNeg_i, wLt_i, wLe_i, wGt_i, wGe_i, wIs_n, wIs_b, wIsNot_n, wIsNot_b, wIx_l, wIx_t, wLen_l, wLen_t, wAbs_i, wInt_i, wInt_b, wMax2_i, wMin2_i, wTuple_l, wTuple_t, wB_b, wI_i, seqOf_l, seqOf_t, wIAdd_i, wIAdd_t, wIMul_i, wSl_l, wSl_t, wIn_l, wIn_t, wNotIn_l, wNotIn_t, items_l, items_t, lv_i, lv_b, lv_n, eqv_ii, eqv_bb, isNon_n, isNon_i, isNon_b, isNon_s, isNon_t, isNon_l, Bool.not_true, Bool.not_false, b2n_t, b2n_f, pl_i, pl_b, pl_n, decide_eq_true_eq]
  split
  · rename_i hlt
    refine ⟨mul_l (by decide), hR _ (st.mp hlt) ⟨st.mp hlt, ?_⟩⟩
    rw [Int.pow_succ, Int.mul_comm]
    rfl
  rename_i hlt
  have hkr : k = rnd n := by
    have := mt st.mpr hlt
    omega
  subst hkr
  generalize hJ : rnd n = J at *
  refine ⟨n, rfl, h64, ?_⟩
  rw [hJ]
  refine ⟨_, rfl, tp_i, ?_⟩
  simp only [sSeq, sSkip, sAsg, sAsgP, sNew, sNewP, sRet, sRetO, sIf, sApp, sAppP, sSet, sAug, sTgt, sTgtP, sPar, sFz, frz, sFor, sForR, sRev, sBrk, sCnt, sDrop, eOp, eUn, eCall, eVar, eC, eFr, eTup, eTupR, eAnd, eOr, eNot, eIf, eChain, eIndex, eSl, nLst, nList, nListR, nLc, nLc2, nCall, nSorted, nRep, tOf, tAndJ, tOrJ, tNotJ, tTrue, iSeq, iR1, iR2, iR3, rg1, rg2, evA, pNo, pSo, startE, hide, rd, hide_v, hide_o, hide_n, rd_v, rd_o, rd_n, bind_one, bind_many, setAll, List.map, List.replicate, List.length, List.cons_append, List.nil_append, List.getElem?_cons_zero, List.getElem?_cons_succ, List.set_cons_zero, List.set_cons_succ, Option.bind_some, ex_some, Option.some.injEq, Slot.own.injEq, Slot.val.injEq, exists_eq_left', true_and, and_true, Bool.false_eq_true, if_false, if_true, reduceIte, wEq, wNe, wAdd_i, wAdd_t, wAdd_l, wAdd_s, wSub_i, wMul_i, wDiv_i, wMod_i, wPow_i, wNeg_i, wLt_i, wLe_i, wGt_i, wGe_i, wIs_n, wIs_b, wIsNot_n, wIsNot_b, wIx_l, wIx_t, wLen_l, wLen_t, wAbs_i, wInt_i, wInt_b, wMax2_i, wMin2_i, wTuple_l, wTuple_t, wB_b, wI_i, seqOf_l, seqOf_t, wIAdd_i, wIAdd_t, wIMul_i, wSl_l, wSl_t, wIn_l, wIn_t, wNotIn_l, wNotIn_t, items_l, items_t, lv_i, lv_b, lv_n, eqv_ii, eqv_bb, isNon_n, isNon_i, isNon_b, isNon_s, isNon_t, isNon_l, Bool.not_true, Bool.not_false, b2n_t, b2n_f, pl_i, pl_b, pl_n, decide_eq_true_eq]
  refine ⟨n, rfl, h64, _, rfl, tp_told n, ?_⟩
  simp only [sSeq, sSkip, sAsg, sAsgP, sNew, sNewP, sRet, sRetO, sIf, sApp, sAppP, sSet, sAug, sTgt, sTgtP, sPar, sFz, frz, sFor, sForR, sRev, sBrk, sCnt, sDrop, eOp, eUn, eCall, eVar, eC, eFr, eTup, eTupR, eAnd, eOr, eNot, eIf, eChain, eIndex, eSl, nLst, nList, nListR, nLc, nLc2, nCall, nSorted, nRep, tOf, tAndJ, tOrJ, tNotJ, tTrue, iSeq, iR1, iR2, iR3, rg1, rg2, evA, pNo, pSo, startE, hide, rd, hide_v, hide_o, hide_n, rd_v, rd_o, rd_n, bind_one, bind_many, setAll, List.map, List.replicate, List.length, List.cons_append, List.nil_append, List.getElem?_cons_zero, List.getElem?_cons_succ, List.set_cons_zero, List.set_cons_succ, Option.bind_some, ex_some, Option.some.injEq, Slot.own.injEq, Slot.val.injEq, exists_eq_left', true_and, and_true, Bool.false_eq_true, if_false, if_true, reduceIte, wEq, wNe, wAdd_i, wAdd_t, wAdd_l, wAdd_s, wSub_i, wMul_i, wDiv_i, wMod_i, wPow_i, wNeg_i, wLt_i, wLe_i, wGt_i, wGe_i, wIs_n, wIs_b, wIsNot_n, wIsNot_b, wIx_l, wIx_t, wLen_l, wLen_t, wAbs_i, wInt_i, wInt_b, wMax2_i, wMin2_i, wTuple_l, wTuple_t, wB_b, wI_i, seqOf_l, seqOf_t, wIAdd_i, wIAdd_t, wIMul_i, wSl_l, wSl_t, wIn_l, wIn_t, wNotIn_l, wNotIn_t, items_l, items_t, lv_i, lv_b, lv_n, eqv_ii, eqv_bb, isNon_n, isNon_i, isNon_b, isNon_s, isNon_t, isNon_l, Bool.not_true, Bool.not_false, b2n_t, b2n_f, pl_i, pl_b, pl_n, decide_eq_true_eq, told_len, hJ, pow_cast, decide_true]
  unfold m__law_right_r8
  simp only [sSeq, sSkip, sAsg, sAsgP, sNew, sNewP, sRet, sRetO, sIf, sApp, sAppP, sSet, sAug, sTgt, sTgtP, sPar, sFz, frz, sFor, sForR, sRev, sBrk, sCnt, sDrop, eOp, eUn, eCall, eVar, eC, eFr, eTup, eTupR, eAnd, eOr, eNot, eIf, eChain, eIndex, eSl, nLst, nList, nListR, nLc, nLc2, nCall, nSorted, nRep, tOf, tAndJ, tOrJ, tNotJ, tTrue, iSeq, iR1, iR2, iR3, rg1, rg2, evA, pNo, pSo, startE, hide, rd, hide_v, hide_o, hide_n, rd_v, rd_o, rd_n, bind_one, bind_many, setAll, List.map, List.replicate, List.length, List.cons_append, List.nil_append, List.getElem?_cons_zero, List.getElem?_cons_succ, List.set_cons_zero, List.set_cons_succ, Option.bind_some, ex_some, Option.some.injEq, Slot.own.injEq, Slot.val.injEq, exists_eq_left', true_and, and_true, Bool.false_eq_true, if_false, if_true, reduceIte, wEq, wNe, wAdd_i, wAdd_t, wAdd_l, wAdd_s, wSub_i, wMul_i, wDiv_i, wMod_i, wPow_i, wNeg_i, wLt_i, wLe_i, wGt_i, wGe_i, wIs_n, wIs_b, wIsNot_n, wIsNot_b, wIx_l, wIx_t, wLen_l, wLen_t, wAbs_i, wInt_i, wInt_b, wMax2_i, wMin2_i, wTuple_l, wTuple_t, wB_b, wI_i, seqOf_l, seqOf_t, wIAdd_i, wIAdd_t, wIMul_i, wSl_l, wSl_t, wIn_l, wIn_t, wNotIn_l, wNotIn_t, items_l, items_t, lv_i, lv_b, lv_n, eqv_ii, eqv_bb, isNon_n, isNon_i, isNon_b, isNon_s, isNon_t, isNon_l, Bool.not_true, Bool.not_false, b2n_t, b2n_f, pl_i, pl_b, pl_n, decide_eq_true_eq, told_len, hJ, pow_cast]
  refine ⟨n, rfl, h64, half J, by rw [← hJ]; exact rg_half (rnd_le n), half_sz hj, ?_⟩
  refine pairs_W (l := (told n).take (2 * half J)) (by rw [List.length_take, told_len, hJ]; have := half_le (j := J); omega) (fun i hi a b ha hb R hR => ?_) ?_
  · refine ⟨_, rfl, ?_⟩
    simp only [sSeq, sSkip, sAsg, sAsgP, sNew, sNewP, sRet, sRetO, sIf, sApp, sAppP, sSet, sAug, sTgt, sTgtP, sPar, sFz, frz, sFor, sForR, sRev, sBrk, sCnt, sDrop, eOp, eUn, eCall, eVar, eC, eFr, eTup, eTupR, eAnd, eOr, eNot, eIf, eChain, eIndex, eSl, nLst, nList, nListR, nLc, nLc2, nCall, nSorted, nRep, tOf, tAndJ, tOrJ, tNotJ, tTrue, iSeq, iR1, iR2, iR3, rg1, rg2, evA, pNo, pSo, startE, hide, rd, hide_v, hide_o, hide_n, rd_v, rd_o, rd_n, bind_one, bind_many, setAll, List.map, List.replicate, List.length, List.cons_append, List.nil_append, List.getElem?_cons_zero, List.getElem?_cons_succ, List.set_cons_zero, List.set_cons_succ, Option.bind_some, ex_some, Option.some.injEq, Slot.own.injEq, Slot.val.injEq, exists_eq_left', true_and, and_true, Bool.false_eq_true, if_false, if_true, reduceIte, wEq, wNe, wAdd_i, wAdd_t, wAdd_l, wAdd_s, wSub_i, wMul_i, wDiv_i, wMod_i, wPow_i, wNeg_i, wLt_i, wLe_i, wGt_i, wGe_i, wIs_n, wIs_b, wIsNot_n, wIsNot_b, wIx_l, wIx_t, wLen_l, wLen_t, wAbs_i, wInt_i, wInt_b, wMax2_i, wMin2_i, wTuple_l, wTuple_t, wB_b, wI_i, seqOf_l, seqOf_t, wIAdd_i, wIAdd_t, wIMul_i, wSl_l, wSl_t, wIn_l, wIn_t, wNotIn_l, wNotIn_t, items_l, items_t, lv_i, lv_b, lv_n, eqv_ii, eqv_bb, isNon_n, isNon_i, isNon_b, isNon_s, isNon_t, isNon_l, Bool.not_true, Bool.not_false, b2n_t, b2n_f, pl_i, pl_b, pl_n, decide_eq_true_eq, wipeE]
    have ha' : (told n)[2 * i]? = some a := by rw [List.getElem?_take] at ha; split at ha; exact ha; cases ha
    have hb' : (told n)[2 * i + 1]? = some b := by rw [List.getElem?_take] at hb; split at hb; exact hb; cases hb
    refine ⟨a, atI_at (by omega) ha', b, atI_at (by omega) hb', ?_⟩
    exact hR
  rw [← hJ, pairs_cut (told_len n) rfl, hJ]
  refine ⟨_, rfl, tp_pairs_told n, ?_⟩
  simp only [sSeq, sSkip, sAsg, sAsgP, sNew, sNewP, sRet, sRetO, sIf, sApp, sAppP, sSet, sAug, sTgt, sTgtP, sPar, sFz, frz, sFor, sForR, sRev, sBrk, sCnt, sDrop, eOp, eUn, eCall, eVar, eC, eFr, eTup, eTupR, eAnd, eOr, eNot, eIf, eChain, eIndex, eSl, nLst, nList, nListR, nLc, nLc2, nCall, nSorted, nRep, tOf, tAndJ, tOrJ, tNotJ, tTrue, iSeq, iR1, iR2, iR3, rg1, rg2, evA, pNo, pSo, startE, hide, rd, hide_v, hide_o, hide_n, rd_v, rd_o, rd_n, bind_one, bind_many, setAll, List.map, List.replicate, List.length, List.cons_append, List.nil_append, List.getElem?_cons_zero, List.getElem?_cons_succ, List.set_cons_zero, List.set_cons_succ, Option.bind_some, ex_some, Option.some.injEq, Slot.own.injEq, Slot.val.injEq, exists_eq_left', true_and, and_true, Bool.false_eq_true, if_false, if_true, reduceIte, wEq, wNe, wAdd_i, wAdd_t, wAdd_l, wAdd_s, wSub_i, wMul_i, wDiv_i, wMod_i, wPow_i, wNeg_i, wLt_i, wLe_i, wGt_i, wGe_i, wIs_n, wIs_b, wIsNot_n, wIsNot_b, wIx_l, wIx_t, wLen_l, wLen_t, wAbs_i, wInt_i, wInt_b, wMax2_i, wMin2_i, wTuple_l, wTuple_t, wB_b, wI_i, seqOf_l, seqOf_t, wIAdd_i, wIAdd_t, wIMul_i, wSl_l, wSl_t, wIn_l, wIn_t, wNotIn_l, wNotIn_t, items_l, items_t, lv_i, lv_b, lv_n, eqv_ii, eqv_bb, isNon_n, isNon_i, isNon_b, isNon_s, isNon_t, isNon_l, Bool.not_true, Bool.not_false, b2n_t, b2n_f, pl_i, pl_b, pl_n, decide_eq_true_eq]
  unfold m__law_right_r10
  simp only [sSeq, sSkip, sAsg, sAsgP, sNew, sNewP, sRet, sRetO, sIf, sApp, sAppP, sSet, sAug, sTgt, sTgtP, sPar, sFz, frz, sFor, sForR, sRev, sBrk, sCnt, sDrop, eOp, eUn, eCall, eVar, eC, eFr, eTup, eTupR, eAnd, eOr, eNot, eIf, eChain, eIndex, eSl, nLst, nList, nListR, nLc, nLc2, nCall, nSorted, nRep, tOf, tAndJ, tOrJ, tNotJ, tTrue, iSeq, iR1, iR2, iR3, rg1, rg2, evA, pNo, pSo, startE, hide, rd, hide_v, hide_o, hide_n, rd_v, rd_o, rd_n, bind_one, bind_many, setAll, List.map, List.replicate, List.length, List.cons_append, List.nil_append, List.getElem?_cons_zero, List.getElem?_cons_succ, List.set_cons_zero, List.set_cons_succ, Option.bind_some, ex_some, Option.some.injEq, Slot.own.injEq, Slot.val.injEq, exists_eq_left', true_and, and_true, Bool.false_eq_true, if_false, if_true, reduceIte, wEq, wNe, wAdd_i, wAdd_t, wAdd_l, wAdd_s, wSub_i, wMul_i, wDiv_i, wMod_i, wPow_i, wNeg_i, wLt_i, wLe_i, wGt_i, wGe_i, wIs_n, wIs_b, wIsNot_n, wIsNot_b, wIx_l, wIx_t, wLen_l, wLen_t, wAbs_i, wInt_i, wInt_b, wMax2_i, wMin2_i, wTuple_l, wTuple_t, wB_b, wI_i, seqOf_l, seqOf_t, wIAdd_i, wIAdd_t, wIMul_i, wSl_l, wSl_t, wIn_l, wIn_t, wNotIn_l, wNotIn_t, items_l, items_t, lv_i, lv_b, lv_n, eqv_ii, eqv_bb, isNon_n, isNon_i, isNon_b, isNon_s, isNon_t, isNon_l, Bool.not_true, Bool.not_false, b2n_t, b2n_f, pl_i, pl_b, pl_n, decide_eq_true_eq]
  have hmem : ∀ x, some x ∈ lT n ↔ 0 ≤ x ∧ x < n := fun x => lT_mem h1 h64
  refine ⟨_, _, lT n, ss, J, rfl, by rw [enc_lT]; rfl, rfl, by rw [lT_len, hJ], hj, fun x hx => ?_, ?_⟩
  · have := (hmem x).mp hx
    omega
  generalize hf : (fun i : Int => ss.getD i.toNat 0) = f
  have hlen : (lT n).length = 2 ^ J := by rw [lT_len, hJ]
  have hex : ∃ x, some x ∈ lT n := ⟨0, (hmem 0).mpr (by omega)⟩
  obtain ⟨w, e1, e2, e3⟩ := plays_best f J (lT n) hlen hex
  have hsum := plays_sum f J (lT n) hlen hex
  rw [somes_count h1 h64] at hsum
  have hpl := plays_len f J (lT n)
  rw [e1]
  generalize (plays f J (lT n)).2 = PR at hsum hpl
  have hw := (hmem w).mp e2
  simp only [sSeq, sSkip, sAsg, sAsgP, sNew, sNewP, sRet, sRetO, sIf, sApp, sAppP, sSet, sAug, sTgt, sTgtP, sPar, sFz, frz, sFor, sForR, sRev, sBrk, sCnt, sDrop, eOp, eUn, eCall, eVar, eC, eFr, eTup, eTupR, eAnd, eOr, eNot, eIf, eChain, eIndex, eSl, nLst, nList, nListR, nLc, nLc2, nCall, nSorted, nRep, tOf, tAndJ, tOrJ, tNotJ, tTrue, iSeq, iR1, iR2, iR3, rg1, rg2, evA, pNo, pSo, startE, hide, rd, hide_v, hide_o, hide_n, rd_v, rd_o, rd_n, bind_one, bind_many, setAll, List.map, List.replicate, List.length, List.cons_append, List.nil_append, List.getElem?_cons_zero, List.getElem?_cons_succ, List.set_cons_zero, List.set_cons_succ, Option.bind_some, ex_some, Option.some.injEq, Slot.own.injEq, Slot.val.injEq, exists_eq_left', true_and, and_true, Bool.false_eq_true, if_false, if_true, reduceIte, wEq, wNe, wAdd_i, wAdd_t, wAdd_l, wAdd_s, wSub_i, wMul_i, wDiv_i, wMod_i, wPow_i, wNeg_i, wLt_i, wLe_i, wGt_i, wGe_i, wIs_n, wIs_b, wIsNot_n, wIsNot_b, wIx_l, wIx_t, wLen_l, wLen_t, wAbs_i, wInt_i, wInt_b, wMax2_i, wMin2_i, wTuple_l, wTuple_t, wB_b, wI_i, seqOf_l, seqOf_t, wIAdd_i, wIAdd_t, wIMul_i, wSl_l, wSl_t, wIn_l, wIn_t, wNotIn_l, wNotIn_t, items_l, items_t, lv_i, lv_b, lv_n, eqv_ii, eqv_bb, isNon_n, isNon_i, isNon_b, isNon_s, isNon_t, isNon_l, Bool.not_true, Bool.not_false, b2n_t, b2n_f, pl_i, pl_b, pl_n, decide_eq_true_eq, enc]
  have hne : ss ≠ [] := fun e => by rw [e] at hss; simp at hss; omega
  have fget : ∀ (i : Nat), i < n.toNat → ss[i]? = some (f i) := fun i hi => by
    have hi2 : i < ss.length := by omega
    rw [← hf]
    show _ = some (ss.getD (i : Int).toNat 0)
    rw [Int.toNat_natCast, List.getD_eq_getElem?_getD, List.getElem?_eq_getElem hi2]
    rfl
  refine ⟨n, ss, rfl, hne, fun j x hjx hmax hfirst => ?_⟩
  have hjn : j < n.toNat := by rw [← hss]; exact (List.getElem?_eq_some_iff.mp hjx).1
  have hfj : f j = x := by
    have := fget j hjn
    rw [hjx] at this
    exact (Option.some.inj this).symm
  have hwj : (j : Int) = w := by
    have ew : ((w.toNat : Nat) : Int) = w := Int.toNat_of_nonneg hw.1
    have gw := fget w.toNat (by omega)
    rw [ew] at gw
    rcases e3 j ((hmem j).mpr (by omega)) with c | c
    · exact c
    · exfalso
      unfold Beats at c
      have m1 := hmax _ (List.mem_of_getElem? gw)
      rcases c with c | ⟨c, d⟩
      · omega
      · have := hfirst w.toNat (f w) (by omega) gw
        omega
  rw [hwj]
  refine ⟨_, rfl, tp_i, ?_⟩
  simp only [sSeq, sSkip, sAsg, sAsgP, sNew, sNewP, sRet, sRetO, sIf, sApp, sAppP, sSet, sAug, sTgt, sTgtP, sPar, sFz, frz, sFor, sForR, sRev, sBrk, sCnt, sDrop, eOp, eUn, eCall, eVar, eC, eFr, eTup, eTupR, eAnd, eOr, eNot, eIf, eChain, eIndex, eSl, nLst, nList, nListR, nLc, nLc2, nCall, nSorted, nRep, tOf, tAndJ, tOrJ, tNotJ, tTrue, iSeq, iR1, iR2, iR3, rg1, rg2, evA, pNo, pSo, startE, hide, rd, hide_v, hide_o, hide_n, rd_v, rd_o, rd_n, bind_one, bind_many, setAll, List.map, List.replicate, List.length, List.cons_append, List.nil_append, List.getElem?_cons_zero, List.getElem?_cons_succ, List.set_cons_zero, List.set_cons_succ, Option.bind_some, ex_some, Option.some.injEq, Slot.own.injEq, Slot.val.injEq, exists_eq_left', true_and, and_true, Bool.false_eq_true, if_false, if_true, reduceIte, wEq, wNe, wAdd_i, wAdd_t, wAdd_l, wAdd_s, wSub_i, wMul_i, wDiv_i, wMod_i, wPow_i, wNeg_i, wLt_i, wLe_i, wGt_i, wGe_i, wIs_n, wIs_b, wIsNot_n, wIsNot_b, wIx_l, wIx_t, wLen_l, wLen_t, wAbs_i, wInt_i, wInt_b, wMax2_i, wMin2_i, wTuple_l, wTuple_t, wB_b, wI_i, seqOf_l, seqOf_t, wIAdd_i, wIAdd_t, wIMul_i, wSl_l, wSl_t, wIn_l, wIn_t, wNotIn_l, wNotIn_t, items_l, items_t, lv_i, lv_b, lv_n, eqv_ii, eqv_bb, isNon_n, isNon_i, isNon_b, isNon_s, isNon_t, isNon_l, Bool.not_true, Bool.not_false, b2n_t, b2n_f, pl_i, pl_b, pl_n, decide_eq_true_eq, List.length_map, hpl, decide_true]
  unfold m__law_right_r13
  simp only [sSeq, sSkip, sAsg, sAsgP, sNew, sNewP, sRet, sRetO, sIf, sApp, sAppP, sSet, sAug, sTgt, sTgtP, sPar, sFz, frz, sFor, sForR, sRev, sBrk, sCnt, sDrop, eOp, eUn, eCall, eVar, eC, eFr, eTup, eTupR, eAnd, eOr, eNot, eIf, eChain, eIndex, eSl, nLst, nList, nListR, nLc, nLc2, nCall, nSorted, nRep, tOf, tAndJ, tOrJ, tNotJ, tTrue, iSeq, iR1, iR2, iR3, rg1, rg2, evA, pNo, pSo, startE, hide, rd, hide_v, hide_o, hide_n, rd_v, rd_o, rd_n, bind_one, bind_many, setAll, List.map, List.replicate, List.length, List.cons_append, List.nil_append, List.getElem?_cons_zero, List.getElem?_cons_succ, List.set_cons_zero, List.set_cons_succ, Option.bind_some, ex_some, Option.some.injEq, Slot.own.injEq, Slot.val.injEq, exists_eq_left', true_and, and_true, Bool.false_eq_true, if_false, if_true, reduceIte, wEq, wNe, wAdd_i, wAdd_t, wAdd_l, wAdd_s, wSub_i, wMul_i, wDiv_i, wMod_i, wPow_i, wNeg_i, wLt_i, wLe_i, wGt_i, wGe_i, wIs_n, wIs_b, wIsNot_n, wIsNot_b, wIx_l, wIx_t, wLen_l, wLen_t, wAbs_i, wInt_i, wInt_b, wMax2_i, wMin2_i, wTuple_l, wTuple_t, wB_b, wI_i, seqOf_l, seqOf_t, wIAdd_i, wIAdd_t, wIMul_i, wSl_l, wSl_t, wIn_l, wIn_t, wNotIn_l, wNotIn_t, items_l, items_t, lv_i, lv_b, lv_n, eqv_ii, eqv_bb, isNon_n, isNon_i, isNon_b, isNon_s, isNon_t, isNon_l, Bool.not_true, Bool.not_false, b2n_t, b2n_f, pl_i, pl_b, pl_n, decide_eq_true_eq]
  refine ⟨⟨by decide, by decide, by omega, by omega, by omega⟩, ?_⟩
  refine mapW_ints (fun s => .int (n - s)) (fun s _ R hR => ?_) ?_
  · refine ⟨_, rfl, ?_⟩
    simp only [sSeq, sSkip, sAsg, sAsgP, sNew, sNewP, sRet, sRetO, sIf, sApp, sAppP, sSet, sAug, sTgt, sTgtP, sPar, sFz, frz, sFor, sForR, sRev, sBrk, sCnt, sDrop, eOp, eUn, eCall, eVar, eC, eFr, eTup, eTupR, eAnd, eOr, eNot, eIf, eChain, eIndex, eSl, nLst, nList, nListR, nLc, nLc2, nCall, nSorted, nRep, tOf, tAndJ, tOrJ, tNotJ, tTrue, iSeq, iR1, iR2, iR3, rg1, rg2, evA, pNo, pSo, startE, hide, rd, hide_v, hide_o, hide_n, rd_v, rd_o, rd_n, bind_one, bind_many, setAll, List.map, List.replicate, List.length, List.cons_append, List.nil_append, List.getElem?_cons_zero, List.getElem?_cons_succ, List.set_cons_zero, List.set_cons_succ, Option.bind_some, ex_some, Option.some.injEq, Slot.own.injEq, Slot.val.injEq, exists_eq_left', true_and, and_true, Bool.false_eq_true, if_false, if_true, reduceIte, wEq, wNe, wAdd_i, wAdd_t, wAdd_l, wAdd_s, wSub_i, wMul_i, wDiv_i, wMod_i, wPow_i, wNeg_i, wLt_i, wLe_i, wGt_i, wGe_i, wIs_n, wIs_b, wIsNot_n, wIsNot_b, wIx_l, wIx_t, wLen_l, wLen_t, wAbs_i, wInt_i, wInt_b, wMax2_i, wMin2_i, wTuple_l, wTuple_t, wB_b, wI_i, seqOf_l, seqOf_t, wIAdd_i, wIAdd_t, wIMul_i, wSl_l, wSl_t, wIn_l, wIn_t, wNotIn_l, wNotIn_t, items_l, items_t, lv_i, lv_b, lv_n, eqv_ii, eqv_bb, isNon_n, isNon_i, isNon_b, isNon_s, isNon_t, isNon_l, Bool.not_true, Bool.not_false, b2n_t, b2n_f, pl_i, pl_b, pl_n, decide_eq_true_eq, wipeE]
    exact hR
  have e5 : (rgI 0 n).map (fun s => PyData.int (n - s)) = ((rgI 0 n).map fun s => n - s).map PyData.int := by rw [List.map_map]; rfl
  rw [e5]
  have g0 : ((rgI 0 n).map fun s => n - s)[0]? = some n := by
    have h0 : 0 < (n - 0).toNat := by omega
    unfold rgI
    rw [List.getElem?_map, List.getElem?_map, List.getElem?_range h0]
    show some (n - (0 + ((0 : Nat) : Int))) = some n
    congr 1
    omega
  have gm : ∀ (i : Nat) (y : Int), ((rgI 0 n).map fun s => n - s)[i]? = some y → y = n - i := fun i y e => by
    unfold rgI at e
    rw [List.getElem?_map, List.getElem?_map] at e
    cases c : (List.range (n - 0).toNat)[i]? with
    | none => rw [c] at e; cases e
    | some z =>
      rw [c] at e
      obtain ⟨d1, d2⟩ := List.getElem?_eq_some_iff.mp c
      rw [List.getElem_range] at d2
      subst d2
      have e2 : n - (0 + (i : Int)) = y := Option.some.inj e
      omega
  refine ⟨n, _, rfl, (fun e => by rw [e] at g0; cases g0), fun j2 x2 hx2 hmax2 _ => ?_⟩
  have hj2 : j2 = 0 := by
    have a1 := hmax2 n (List.mem_of_getElem? g0)
    have a2 := gm _ _ hx2
    omega
  subst hj2
  simp only [sSeq, sSkip, sAsg, sAsgP, sNew, sNewP, sRet, sRetO, sIf, sApp, sAppP, sSet, sAug, sTgt, sTgtP, sPar, sFz, frz, sFor, sForR, sRev, sBrk, sCnt, sDrop, eOp, eUn, eCall, eVar, eC, eFr, eTup, eTupR, eAnd, eOr, eNot, eIf, eChain, eIndex, eSl, nLst, nList, nListR, nLc, nLc2, nCall, nSorted, nRep, tOf, tAndJ, tOrJ, tNotJ, tTrue, iSeq, iR1, iR2, iR3, rg1, rg2, evA, pNo, pSo, startE, hide, rd, hide_v, hide_o, hide_n, rd_v, rd_o, rd_n, bind_one, bind_many, setAll, List.map, List.replicate, List.length, List.cons_append, List.nil_append, List.getElem?_cons_zero, List.getElem?_cons_succ, List.set_cons_zero, List.set_cons_succ, Option.bind_some, ex_some, Option.some.injEq, Slot.own.injEq, Slot.val.injEq, exists_eq_left', true_and, and_true, Bool.false_eq_true, if_false, if_true, reduceIte, wEq, wNe, wAdd_i, wAdd_t, wAdd_l, wAdd_s, wSub_i, wMul_i, wDiv_i, wMod_i, wPow_i, wNeg_i, wLt_i, wLe_i, wGt_i, wGe_i, wIs_n, wIs_b, wIsNot_n, wIsNot_b, wIx_l, wIx_t, wLen_l, wLen_t, wAbs_i, wInt_i, wInt_b, wMax2_i, wMin2_i, wTuple_l, wTuple_t, wB_b, wI_i, seqOf_l, seqOf_t, wIAdd_i, wIAdd_t, wIMul_i, wSl_l, wSl_t, wIn_l, wIn_t, wNotIn_l, wNotIn_t, items_l, items_t, lv_i, lv_b, lv_n, eqv_ii, eqv_bb, isNon_n, isNon_i, isNon_b, isNon_s, isNon_t, isNon_l, Bool.not_true, Bool.not_false, b2n_t, b2n_f, pl_i, pl_b, pl_n, decide_eq_true_eq]
  refine mapW_map lenD (fun d hd R hR => ?_) ?_
  · obtain ⟨r, _, rfl⟩ := List.mem_map.mp hd
    refine ⟨_, rfl, ?_⟩
    unfold encR at hR ⊢
    simp only [sSeq, sSkip, sAsg, sAsgP, sNew, sNewP, sRet, sRetO, sIf, sApp, sAppP, sSet, sAug, sTgt, sTgtP, sPar, sFz, frz, sFor, sForR, sRev, sBrk, sCnt, sDrop, eOp, eUn, eCall, eVar, eC, eFr, eTup, eTupR, eAnd, eOr, eNot, eIf, eChain, eIndex, eSl, nLst, nList, nListR, nLc, nLc2, nCall, nSorted, nRep, tOf, tAndJ, tOrJ, tNotJ, tTrue, iSeq, iR1, iR2, iR3, rg1, rg2, evA, pNo, pSo, startE, hide, rd, hide_v, hide_o, hide_n, rd_v, rd_o, rd_n, bind_one, bind_many, setAll, List.map, List.replicate, List.length, List.cons_append, List.nil_append, List.getElem?_cons_zero, List.getElem?_cons_succ, List.set_cons_zero, List.set_cons_succ, Option.bind_some, ex_some, Option.some.injEq, Slot.own.injEq, Slot.val.injEq, exists_eq_left', true_and, and_true, Bool.false_eq_true, if_false, if_true, reduceIte, wEq, wNe, wAdd_i, wAdd_t, wAdd_l, wAdd_s, wSub_i, wMul_i, wDiv_i, wMod_i, wPow_i, wNeg_i, wLt_i, wLe_i, wGt_i, wGe_i, wIs_n, wIs_b, wIsNot_n, wIsNot_b, wIx_l, wIx_t, wLen_l, wLen_t, wAbs_i, wInt_i, wInt_b, wMax2_i, wMin2_i, wTuple_l, wTuple_t, wB_b, wI_i, seqOf_l, seqOf_t, wIAdd_i, wIAdd_t, wIMul_i, wSl_l, wSl_t, wIn_l, wIn_t, wNotIn_l, wNotIn_t, items_l, items_t, lv_i, lv_b, lv_n, eqv_ii, eqv_bb, isNon_n, isNon_i, isNon_b, isNon_s, isNon_t, isNon_l, Bool.not_true, Bool.not_false, b2n_t, b2n_f, pl_i, pl_b, pl_n, decide_eq_true_eq, wipeE]
    exact hR
  have e6 : (PR.map encR).map lenD = (PR.map fun R => ((R.length : Nat) : Int)).map PyData.int := by
    rw [List.map_map, List.map_map]
    refine List.map_congr_left fun r _ => ?_
    show PyData.int (((r.map encP).length : Nat) : Int) = PyData.int ((r.length : Nat) : Int)
    rw [List.length_map]
  rw [e6]
  refine ⟨_, rfl, ?_⟩
  rw [sum_cast]
  simp only [sSeq, sSkip, sAsg, sAsgP, sNew, sNewP, sRet, sRetO, sIf, sApp, sAppP, sSet, sAug, sTgt, sTgtP, sPar, sFz, frz, sFor, sForR, sRev, sBrk, sCnt, sDrop, eOp, eUn, eCall, eVar, eC, eFr, eTup, eTupR, eAnd, eOr, eNot, eIf, eChain, eIndex, eSl, nLst, nList, nListR, nLc, nLc2, nCall, nSorted, nRep, tOf, tAndJ, tOrJ, tNotJ, tTrue, iSeq, iR1, iR2, iR3, rg1, rg2, evA, pNo, pSo, startE, hide, rd, hide_v, hide_o, hide_n, rd_v, rd_o, rd_n, bind_one, bind_many, setAll, List.map, List.replicate, List.length, List.cons_append, List.nil_append, List.getElem?_cons_zero, List.getElem?_cons_succ, List.set_cons_zero, List.set_cons_succ, Option.bind_some, ex_some, Option.some.injEq, Slot.own.injEq, Slot.val.injEq, exists_eq_left', true_and, and_true, Bool.false_eq_true, if_false, if_true, reduceIte, wEq, wNe, wAdd_i, wAdd_t, wAdd_l, wAdd_s, wSub_i, wMul_i, wDiv_i, wMod_i, wPow_i, wNeg_i, wLt_i, wLe_i, wGt_i, wGe_i, wIs_n, wIs_b, wIsNot_n, wIsNot_b, wIx_l, wIx_t, wLen_l, wLen_t, wAbs_i, wInt_i, wInt_b, wMax2_i, wMin2_i, wTuple_l, wTuple_t, wB_b, wI_i, seqOf_l, seqOf_t, wIAdd_i, wIAdd_t, wIMul_i, wSl_l, wSl_t, wIn_l, wIn_t, wNotIn_l, wNotIn_t, items_l, items_t, lv_i, lv_b, lv_n, eqv_ii, eqv_bb, isNon_n, isNon_i, isNon_b, isNon_s, isNon_t, isNon_l, Bool.not_true, Bool.not_false, b2n_t, b2n_f, pl_i, pl_b, pl_n, decide_eq_true_eq]
  rw [if_neg (by simp; omega)]
  unfold m__law_right_r16
  simp only [sSeq, sSkip, sAsg, sAsgP, sNew, sNewP, sRet, sRetO, sIf, sApp, sAppP, sSet, sAug, sTgt, sTgtP, sPar, sFz, frz, sFor, sForR, sRev, sBrk, sCnt, sDrop, eOp, eUn, eCall, eVar, eC, eFr, eTup, eTupR, eAnd, eOr, eNot, eIf, eChain, eIndex, eSl, nLst, nList, nListR, nLc, nLc2, nCall, nSorted, nRep, tOf, tAndJ, tOrJ, tNotJ, tTrue, iSeq, iR1, iR2, iR3, rg1, rg2, evA, pNo, pSo, startE, hide, rd, hide_v, hide_o, hide_n, rd_v, rd_o, rd_n, bind_one, bind_many, setAll, List.map, List.replicate, List.length, List.cons_append, List.nil_append, List.getElem?_cons_zero, List.getElem?_cons_succ, List.set_cons_zero, List.set_cons_succ, Option.bind_some, ex_some, Option.some.injEq, Slot.own.injEq, Slot.val.injEq, exists_eq_left', true_and, and_true, Bool.false_eq_true, if_false, if_true, reduceIte, wEq, wNe, wAdd_i, wAdd_t, wAdd_l, wAdd_s, wSub_i, wMul_i, wDiv_i, wMod_i, wPow_i, wNeg_i, wLt_i, wLe_i, wGt_i, wGe_i, wIs_n, wIs_b, wIsNot_n, wIsNot_b, wIx_l, wIx_t, wLen_l, wLen_t, wAbs_i, wInt_i, wInt_b, wMax2_i, wMin2_i, wTuple_l, wTuple_t, wB_b, wI_i, seqOf_l, seqOf_t, wIAdd_i, wIAdd_t, wIMul_i, wSl_l, wSl_t, wIn_l, wIn_t, wNotIn_l, wNotIn_t, items_l, items_t, lv_i, lv_b, lv_n, eqv_ii, eqv_bb, isNon_n, isNon_i, isNon_b, isNon_s, isNon_t, isNon_l, Bool.not_true, Bool.not_false, b2n_t, b2n_f, pl_i, pl_b, pl_n, decide_eq_true_eq]
  refine while_up J (fun k e => ∃ s11 s12, e = [.val (.dict []), .val (.int n), .val (.tuple (ss.map PyData.int)), .val (.list ((tab J).map PyData.int)), .val (.tuple (told n)), .val (.int (J : Nat)), .val (.int (2 ^ J)), .val (.int ((0 : Nat) : Int)), .val (.int (2 ^ (J - k))), .val (.int w), .val (.list (PR.map encR)), s11, s12, .no, .no, .no]) ⟨_, _, rfl⟩ ?_
  rintro k e hk ⟨s11, s12, rfl⟩ R hR
  unfold m__law_right_b19 m__law_right_r19
  simp only [sSeq, sSkip, sAsg, sAsgP, sNew, sNewP, sRet, sRetO, sIf, sApp, sAppP, sSet, sAug, sTgt, sTgtP, sPar, sFz, frz, sFor, sForR, sRev, sBrk, sCnt, sDrop, eOp, eUn, eCall, eVar, eC, eFr, eTup, eTupR, eAnd, eOr, eNot, eIf, eChain, eIndex, eSl, nLst, nList, nListR, nLc, nLc2, nCall, nSorted, nRep, tOf, tAndJ, tOrJ, tNotJ, tTrue, iSeq, iR1, iR2, iR3, rg1, rg2, evA, pNo, pSo, startE, hide, rd, hide_v, hide_o, hide_n, rd_v, rd_o, rd_n, bind_one, bind_many, setAll, List.map, List.replicate, List.length, List.cons_append, List.nil_append, List.getElem?_cons_zero, List.getElem?_cons_succ, List.set_cons_zero, List.set_cons_succ, Option.bind_some, ex_some, Option.some.injEq, Slot.own.injEq, Slot.val.injEq, exists_eq_left', true_and, and_true, Bool.false_eq_true, if_false, if_true, reduceIte, wEq, wNe, wAdd_i, wAdd_t, wAdd_l, wAdd_s, wSub_i, wMul_i, wDiv_i, wMod_i, wPow_i, wNeg_i, wLt_i, wLe_i, wGt_i, wGe_i, wIs_n, wIs_b, wIsNot_n, wIsNot_b, wIx_l, wIx_t, wLen_l, wLen_t, wAbs_i, wInt_i, wInt_b, wMax2_i, wMin2_i, wTuple_l, wTuple_t, wB_b, wI_i, seqOf_l, seqOf_t, wIAdd_i, wIAdd_t, wIMul_i, wSl_l, wSl_t, wIn_l, wIn_t, wNotIn_l, wNotIn_t, items_l, items_t, lv_i, lv_b, lv_n, eqv_ii, eqv_bb, isNon_n, isNon_i, isNon_b, isNon_s, isNon_t, isNon_l, Bool.not_true, Bool.not_false, b2n_t, b2n_f, pl_i, pl_b, pl_n, decide_eq_true_eq]
  split
  · rename_i hlt
    have hkJ : k < J := by
      by_cases c : k < J
      · exact c
      · rw [show J - k = 0 by omega] at hlt
        simp at hlt
    have hP : (2 : Int) ^ J = 2 ^ k * 2 ^ (J - k) := by rw [← Int.pow_add]; congr 1; omega
    have hPn : 2 ^ J = 2 ^ k * 2 ^ (J - k) := by rw [← Nat.pow_add]; congr 1; omega
    have hA0 : 0 < 2 ^ (J - k) := Nat.two_pow_pos _
    have hB0 : 0 < 2 ^ k := Nat.two_pow_pos _
    have hJ64 : 2 ^ J ≤ 2 ^ 6 := Nat.pow_le_pow_right (by decide) hj
    have hA64 : 2 ^ (J - k) ≤ 2 ^ 6 := Nat.pow_le_pow_right (by decide) (by omega)
    have hB64 : 2 ^ k ≤ 2 ^ 6 := Nat.pow_le_pow_right (by decide) (by omega)
    have hdiv : (2 : Int) ^ J / 2 ^ (J - k) = 2 ^ k := by
      rw [hP]
      exact Int.mul_ediv_cancel _ (by rw [← pow_cast]; omega)
    have hrg : RgC 0 ((2 : Int) ^ J) (2 ^ (J - k)) (2 ^ k) := by
      refine rgC_pos (by rw [← pow_cast]; omega) (by rw [← pow_cast]; omega) (by rw [← pow_cast]; omega) (by rw [← pow_cast]; omega) ?_
      rw [if_pos (by rw [← pow_cast]; have := Nat.two_pow_pos J; omega)]
      have e7 : ((2 : Int) ^ J - 1) / 2 ^ (J - k) = 2 ^ k - 1 := by
        rw [hP, show (2 : Int) ^ k * 2 ^ (J - k) - 1 = (2 ^ (J - k) - 1) + (2 ^ k - 1) * 2 ^ (J - k) by rw [Int.sub_mul]; omega]
        rw [Int.add_mul_ediv_right _ _ (by rw [← pow_cast]; omega), Int.ediv_eq_zero_of_lt (by rw [← pow_cast]; omega) (by omega)]
        omega
      rw [e7, pow_cast]
      omega
    refine ⟨2 ^ k, hrg, by rw [hz]; omega, ?_⟩
    refine forW_inv (fun i e => ∃ s11 s12, e = [.val (.dict []), .val (.int n), .val (.tuple (ss.map PyData.int)), .val (.list ((tab J).map PyData.int)), .val (.tuple (told n)), .val (.int (J : Nat)), .val (.int (2 ^ J)), .val (.int ((0 : Nat) : Int)), .val (.int (2 ^ (J - k))), .val (.int w), .val (.list (PR.map encR)), s11, s12, .no, .no, .no]) ⟨_, _, rfl⟩ ?_ ?_
    · rintro i d e hi ⟨s11, s12, rfl⟩ R2 hR2
      obtain ⟨rfl, hik⟩ := rgC_get hi
      refine ⟨_, rfl, ?_⟩
      unfold m__law_right_b20
      have e8 : 0 + (i : Int) * 2 ^ (J - k) = ((i * 2 ^ (J - k) : Nat) : Int) := by rw [Int.natCast_mul, pow_cast, Int.zero_add]
      have e9 : 0 + (i : Int) * 2 ^ (J - k) + 2 ^ (J - k) = ((i * 2 ^ (J - k) + 2 ^ (J - k) : Nat) : Int) := by rw [e8, Int.natCast_add, pow_cast]
      have hle : i * 2 ^ (J - k) + 2 ^ (J - k) ≤ 2 ^ J := by
        rw [hPn, show i * 2 ^ (J - k) + 2 ^ (J - k) = (i + 1) * 2 ^ (J - k) by rw [Nat.add_mul, Nat.one_mul]]
        exact Nat.mul_le_mul_right _ hik
      have hcut : _root_.J.cutD ((tab J).map PyData.int) (some (0 + (i : Int) * 2 ^ (J - k))) (some (0 + (i : Int) * 2 ^ (J - k) + 2 ^ (J - k))) = (((tab J).drop (i * 2 ^ (J - k))).take (2 ^ (J - k))).map PyData.int := by
        unfold _root_.J.cutD
        rw [e9, e8, HT.sIx_nat, HT.sIx_nat, List.length_map, tab_len, Nat.min_eq_left hle, Nat.min_eq_left (by omega), show i * 2 ^ (J - k) + 2 ^ (J - k) - i * 2 ^ (J - k) = 2 ^ (J - k) by omega, List.map_take, List.map_drop]
      simp only [sSeq, sSkip, sAsg, sAsgP, sNew, sNewP, sRet, sRetO, sIf, sApp, sAppP, sSet, sAug, sTgt, sTgtP, sPar, sFz, frz, sFor, sForR, sRev, sBrk, sCnt, sDrop, eOp, eUn, eCall, eVar, eC, eFr, eTup, eTupR, eAnd, eOr, eNot, eIf, eChain, eIndex, eSl, nLst, nList, nListR, nLc, nLc2, nCall, nSorted, nRep, tOf, tAndJ, tOrJ, tNotJ, tTrue, iSeq, iR1, iR2, iR3, rg1, rg2, evA, pNo, pSo, startE, hide, rd, hide_v, hide_o, hide_n, rd_v, rd_o, rd_n, bind_one, bind_many, setAll, List.map, List.replicate, List.length, List.cons_append, List.nil_append, List.getElem?_cons_zero, List.getElem?_cons_succ, List.set_cons_zero, List.set_cons_succ, Option.bind_some, ex_some, Option.some.injEq, Slot.own.injEq, Slot.val.injEq, exists_eq_left', true_and, and_true, Bool.false_eq_true, if_false, if_true, reduceIte, wEq, wNe, wAdd_i, wAdd_t, wAdd_l, wAdd_s, wSub_i, wMul_i, wDiv_i, wMod_i, wPow_i, wNeg_i, wLt_i, wLe_i, wGt_i, wGe_i, wIs_n, wIs_b, wIsNot_n, wIsNot_b, wIx_l, wIx_t, wLen_l, wLen_t, wAbs_i, wInt_i, wInt_b, wMax2_i, wMin2_i, wTuple_l, wTuple_t, wB_b, wI_i, seqOf_l, seqOf_t, wIAdd_i, wIAdd_t, wIMul_i, wSl_l, wSl_t, wIn_l, wIn_t, wNotIn_l, wNotIn_t, items_l, items_t, lv_i, lv_b, lv_n, eqv_ii, eqv_bb, isNon_n, isNon_i, isNon_b, isNon_s, isNon_t, isNon_l, Bool.not_true, Bool.not_false, b2n_t, b2n_f, pl_i, pl_b, pl_n, decide_eq_true_eq, wSorted, hcut, sort_ints]
      refine mapW_of (low (2 ^ k)) (fun d hd R hR => ?_) ?_
      · obtain ⟨s, _, rfl⟩ := List.mem_map.mp ((sort_perm _).mem_iff.mp hd)
        refine ⟨_, rfl, ?_⟩
        simp only [sSeq, sSkip, sAsg, sAsgP, sNew, sNewP, sRet, sRetO, sIf, sApp, sAppP, sSet, sAug, sTgt, sTgtP, sPar, sFz, frz, sFor, sForR, sRev, sBrk, sCnt, sDrop, eOp, eUn, eCall, eVar, eC, eFr, eTup, eTupR, eAnd, eOr, eNot, eIf, eChain, eIndex, eSl, nLst, nList, nListR, nLc, nLc2, nCall, nSorted, nRep, tOf, tAndJ, tOrJ, tNotJ, tTrue, iSeq, iR1, iR2, iR3, rg1, rg2, evA, pNo, pSo, startE, hide, rd, hide_v, hide_o, hide_n, rd_v, rd_o, rd_n, bind_one, bind_many, setAll, List.map, List.replicate, List.length, List.cons_append, List.nil_append, List.getElem?_cons_zero, List.getElem?_cons_succ, List.set_cons_zero, List.set_cons_succ, Option.bind_some, ex_some, Option.some.injEq, Slot.own.injEq, Slot.val.injEq, exists_eq_left', true_and, and_true, Bool.false_eq_true, if_false, if_true, reduceIte, wEq, wNe, wAdd_i, wAdd_t, wAdd_l, wAdd_s, wSub_i, wMul_i, wDiv_i, wMod_i, wPow_i, wNeg_i, wLt_i, wLe_i, wGt_i, wGe_i, wIs_n, wIs_b, wIsNot_n, wIsNot_b, wIx_l, wIx_t, wLen_l, wLen_t, wAbs_i, wInt_i, wInt_b, wMax2_i, wMin2_i, wTuple_l, wTuple_t, wB_b, wI_i, seqOf_l, seqOf_t, wIAdd_i, wIAdd_t, wIMul_i, wSl_l, wSl_t, wIn_l, wIn_t, wNotIn_l, wNotIn_t, items_l, items_t, lv_i, lv_b, lv_n, eqv_ii, eqv_bb, isNon_n, isNon_i, isNon_b, isNon_s, isNon_t, isNon_l, Bool.not_true, Bool.not_false, b2n_t, b2n_f, pl_i, pl_b, pl_n, decide_eq_true_eq, wipeE, hdiv]
        refine ⟨.inl ⟨by rw [← pow_cast]; omega, by rw [← pow_cast]; omega⟩, ?_⟩
        have hR' : R (if s < 2 ^ k then some (.int s) else none) := hR
        split
        · rename_i c; rw [if_pos c] at hR'; exact hR'
        · rename_i c; rw [if_neg c] at hR'; exact hR'
      · have hq := quart_one hj hkJ hik
        unfold quart at hq
        rw [← low_len] at hq
        have hp := ((sort_perm ((((tab J).drop (i * 2 ^ (J - k))).take (2 ^ (J - k))).map PyData.int)).filterMap (low (2 ^ k))).length_eq
        rw [hq] at hp
        simp only [sSeq, sSkip, sAsg, sAsgP, sNew, sNewP, sRet, sRetO, sIf, sApp, sAppP, sSet, sAug, sTgt, sTgtP, sPar, sFz, frz, sFor, sForR, sRev, sBrk, sCnt, sDrop, eOp, eUn, eCall, eVar, eC, eFr, eTup, eTupR, eAnd, eOr, eNot, eIf, eChain, eIndex, eSl, nLst, nList, nListR, nLc, nLc2, nCall, nSorted, nRep, tOf, tAndJ, tOrJ, tNotJ, tTrue, iSeq, iR1, iR2, iR3, rg1, rg2, evA, pNo, pSo, startE, hide, rd, hide_v, hide_o, hide_n, rd_v, rd_o, rd_n, bind_one, bind_many, setAll, List.map, List.replicate, List.length, List.cons_append, List.nil_append, List.getElem?_cons_zero, List.getElem?_cons_succ, List.set_cons_zero, List.set_cons_succ, Option.bind_some, ex_some, Option.some.injEq, Slot.own.injEq, Slot.val.injEq, exists_eq_left', true_and, and_true, Bool.false_eq_true, if_false, if_true, reduceIte, wEq, wNe, wAdd_i, wAdd_t, wAdd_l, wAdd_s, wSub_i, wMul_i, wDiv_i, wMod_i, wPow_i, wNeg_i, wLt_i, wLe_i, wGt_i, wGe_i, wIs_n, wIs_b, wIsNot_n, wIsNot_b, wIx_l, wIx_t, wLen_l, wLen_t, wAbs_i, wInt_i, wInt_b, wMax2_i, wMin2_i, wTuple_l, wTuple_t, wB_b, wI_i, seqOf_l, seqOf_t, wIAdd_i, wIAdd_t, wIMul_i, wSl_l, wSl_t, wIn_l, wIn_t, wNotIn_l, wNotIn_t, items_l, items_t, lv_i, lv_b, lv_n, eqv_ii, eqv_bb, isNon_n, isNon_i, isNon_b, isNon_s, isNon_t, isNon_l, Bool.not_true, Bool.not_false, b2n_t, b2n_f, pl_i, pl_b, pl_n, decide_eq_true_eq, hp]
        exact hR2 _ ⟨_, _, rfl⟩
    · rintro e ⟨s11, s12, rfl⟩
      unfold m__law_right_r20
      simp only [sSeq, sSkip, sAsg, sAsgP, sNew, sNewP, sRet, sRetO, sIf, sApp, sAppP, sSet, sAug, sTgt, sTgtP, sPar, sFz, frz, sFor, sForR, sRev, sBrk, sCnt, sDrop, eOp, eUn, eCall, eVar, eC, eFr, eTup, eTupR, eAnd, eOr, eNot, eIf, eChain, eIndex, eSl, nLst, nList, nListR, nLc, nLc2, nCall, nSorted, nRep, tOf, tAndJ, tOrJ, tNotJ, tTrue, iSeq, iR1, iR2, iR3, rg1, rg2, evA, pNo, pSo, startE, hide, rd, hide_v, hide_o, hide_n, rd_v, rd_o, rd_n, bind_one, bind_many, setAll, List.map, List.replicate, List.length, List.cons_append, List.nil_append, List.getElem?_cons_zero, List.getElem?_cons_succ, List.set_cons_zero, List.set_cons_succ, Option.bind_some, ex_some, Option.some.injEq, Slot.own.injEq, Slot.val.injEq, exists_eq_left', true_and, and_true, Bool.false_eq_true, if_false, if_true, reduceIte, wEq, wNe, wAdd_i, wAdd_t, wAdd_l, wAdd_s, wSub_i, wMul_i, wDiv_i, wMod_i, wPow_i, wNeg_i, wLt_i, wLe_i, wGt_i, wGe_i, wIs_n, wIs_b, wIsNot_n, wIsNot_b, wIx_l, wIx_t, wLen_l, wLen_t, wAbs_i, wInt_i, wInt_b, wMax2_i, wMin2_i, wTuple_l, wTuple_t, wB_b, wI_i, seqOf_l, seqOf_t, wIAdd_i, wIAdd_t, wIMul_i, wSl_l, wSl_t, wIn_l, wIn_t, wNotIn_l, wNotIn_t, items_l, items_t, lv_i, lv_b, lv_n, eqv_ii, eqv_bb, isNon_n, isNon_i, isNon_b, isNon_s, isNon_t, isNon_l, Bool.not_true, Bool.not_false, b2n_t, b2n_f, pl_i, pl_b, pl_n, decide_eq_true_eq]
      refine ⟨div_s (by decide), hR _ hkJ ⟨s11, s12, ?_⟩⟩
      rw [show (2 : Int) ^ (J - k) / 2 = 2 ^ (J - (k + 1)) by
        rw [show J - k = (J - (k + 1)) + 1 by omega, Int.pow_succ]
        exact Int.mul_ediv_cancel _ (by decide)]
  · rename_i hlt
    refine ⟨n, ?_, h1, h64, q⟩
    rw [hJ]

/-! ## the law -/
/-! law: 0=script 1=draws 2=far 3=k 4=n 5=strengths 6=seed -/
def m_law_b3 : SX := (sSeq (sAsg 4 (eOp wAdd (eC (.int 1)) (eCall S__law_take [(eVar 1), (eOp wIx (eFr (nLst [(eC (.int 8)), (eC (.int 64)), (eC (.int 20))])) (eVar 3))])))
      (sSeq (sIf (tOf (eOp wEq (eCall S__law_take [(eVar 1), (eC (.int 4))]) (eC (.int 0)))) (sAsg 4 (eOp wIx (eFr (nLst [(eC (.int 2)), (eC (.int 4)), (eC (.int 8)), (eC (.int 16)), (eC (.int 32)), (eC (.int 64)), (eC (.int 5)), (eC (.int 9)), (eC (.int 17)), (eC (.int 33)), (eC (.int 3)), (eC (.int 7)), (eC (.int 15)), (eC (.int 31)), (eC (.int 63))])) (eCall S__law_take [(eVar 1), (eC (.int 15))]))) sSkip)
      (sSeq (sAsg 5 (eUn wTuple (eFr (nLc (iR1 (eVar 4)) (.one 6) [6] tTrue (eOp wAdd (eCall S__law_take [(eVar 1), (eOp wIx (eFr (nLst [(eC (.int 3)), (eC (.int 100))])) (eCall S__law_take [(eVar 1), (eC (.int 2))]))]) (eOp wMul (eVar 2) (eCall S__law_take [(eVar 1), (eC (.int 2))])))))))
      (sIf (tNotJ (tOf (eCall S__law_right [(eVar 1), (eVar 4), (eVar 5)]))) (sRet (eC (.bool false))) sSkip))))
def m_law_r12 : SX := (sRet (eAnd (eCall S__law_same [(eCall S_met_in_round [(eC (.int 8)), (eC (.int 0)), (eC (.int 1))]), (eC (.int 3))]) (eAnd (eCall S__law_same [(eCall S_met_in_round [(eC (.int 8)), (eC (.int 0)), (eC (.int 7))]), (eC (.int 1))]) (eCall S__law_same [(eCall S_winner_of [(eC (.int 3)), (eTup [(eC (.int 5)), (eC (.int 7)), (eC (.int 7))])]), (eC (.int 1))]))))
def m_law_r10 : SX := (sSeq (sIf (tOrJ (tNotJ (tOf (eCall S__law_same [(eCall S_seeds_in_table [(eC (.int 1))]), (eTup [(eC (.int 0))])]))) (tOrJ (tNotJ (tOf (eCall S__law_same [(eCall S_first_pairs [(eC (.int 1))]), (eTup [])]))) (tNotJ (tOf (eCall S__law_same [(eCall S_rounds_of_battle [(eC (.int 1))]), (eC (.int 0))]))))) (sRet (eC (.bool false))) sSkip)
      m_law_r12)
def m_law_r3 : SX := (sSeq (sIf (tOrJ (tNotJ (tOf (eCall S__law_same [(eCall S_seeds_in_table [(eC (.int 4))]), (eTup [(eC (.int 0)), (eC (.int 3)), (eC (.int 1)), (eC (.int 2))])]))) (tOrJ (tNotJ (tOf (eCall S__law_same [(eCall S_seeds_in_table [(eC (.int 6))]), (eTup [(eC (.int 0)), (eC .none), (eC (.int 3)), (eC (.int 4)), (eC (.int 1)), (eC .none), (eC (.int 2)), (eC (.int 5))])]))) (tNotJ (tOf (eCall S__law_same [(eCall S_first_pairs [(eC (.int 3))]), (eTup [(eTup [(eC (.int 0)), (eC .none)]), (eTup [(eC (.int 1)), (eC (.int 2))])])]))))) (sRet (eC (.bool false))) sSkip)
      m_law_r10)
def m_law : SX := (sSeq (sAsg 1 (eCall S__law_draws [(eVar 0), (eC (.int 320))]))
      (sSeq (sAsg 2 (eCall wAbs [(eCall S__law_cell [(eVar 0), (eCall S__law_take [(eVar 1), (eC (.int 64))])])]))
      (sSeq (sForR (iR1 (eC (.int 3))) (.one 3) m_law_b3)
      m_law_r3)))
abbrev S_law : WL := SLaw
theorem win3 {QD : D → Prop} (h : QD (.int 1)) : S_winner_of [.int 3, .tuple [.int 5, .int 7, .int 7]] QD := ⟨3, [5, 7, 7], rfl, by decide, fun j x hx hm hf => by
  have h7 := hm 7 (by decide)
  have hj := (List.getElem?_eq_some_iff.mp hx).1
  have : j = 0 ∨ j = 1 ∨ j = 2 := by simp at hj; omega
  rcases this with rfl | rfl | rfl
  · cases hx
    omega
  · exact h
  · cases hx
    have := hf 1 7 (by decide) rfl
    omega⟩
theorem ns15 : ∀ r : Int, 0 ≤ r → r < 15 → ∃ z : Int, atI [PyData.int 2, .int 4, .int 8, .int 16, .int 32, .int 64, .int 5, .int 9, .int 17, .int 33, .int 3, .int 7, .int 15, .int 31, .int 63] r = some (.int z) ∧ 1 ≤ z ∧ z ≤ 64 := by
  intro r h0 h1
  have : r = 0 ∨ r = 1 ∨ r = 2 ∨ r = 3 ∨ r = 4 ∨ r = 5 ∨ r = 6 ∨ r = 7 ∨ r = 8 ∨ r = 9 ∨ r = 10 ∨ r = 11 ∨ r = 12 ∨ r = 13 ∨ r = 14 := by omega
  rcases this with rfl | rfl | rfl | rfl | rfl | rfl | rfl | rfl | rfl | rfl | rfl | rfl | rfl | rfl | rfl <;> exact ⟨_, rfl, by decide, by decide⟩
theorem wp_law (ds : List D) (QD : D → Prop) (h : S_law ds QD) : m_law (startE 7 ds) ⟨fun _ => QD .none, QD, noB, noB, fun es => QD (.list es)⟩ := by
  obtain ⟨ns, rfl, hl, q⟩ := h
  unfold m_law
  simp only [sSeq, sSkip, sAsg, sAsgP, sNew, sNewP, sRet, sRetO, sIf, sApp, sAppP, sSet, sAug, sTgt, sTgtP, sPar, sFz, frz, sFor, sForR, sRev, sBrk, sCnt, sDrop, eOp, eUn, eCall, eVar, eC, eFr, eTup, eTupR, eAnd, eOr, eNot, eIf, eChain, eIndex, eSl, nLst, nList, nListR, nLc, nLc2, nCall, nSorted, nRep, tOf, tAndJ, tOrJ, tNotJ, tTrue, iSeq, iR1, iR2, iR3, rg1, rg2, evA, pNo, pSo, startE, hide, rd, hide_v, hide_o, hide_n, rd_v, rd_o, rd_n, bind_one, bind_many, setAll, List.map, List.replicate, List.length, List.cons_append, List.nil_append, List.getElem?_cons_zero, List.getElem?_cons_succ, List.set_cons_zero, List.set_cons_succ, Option.bind_some, ex_some, Option.some.injEq, Slot.own.injEq, Slot.val.injEq, exists_eq_left', true_and, and_true, Bool.false_eq_true, if_false, if_true, reduceIte, wEq, wNe, wAdd_i, wAdd_t, wAdd_l, wAdd_s, wSub_i, wMul_i, wDiv_i, wMod_i, wPow_i, wNeg_i, wLt_i, wLe_i, wGt_i, wGe_i, wIs_n, wIs_b, wIsNot_n, wIsNot_b, wIx_l, wIx_t, wLen_l, wLen_t, wAbs_i, wInt_i, wInt_b, wMax2_i, wMin2_i, wTuple_l, wTuple_t, wB_b, wI_i, seqOf_l, seqOf_t, wIAdd_i, wIAdd_t, wIMul_i, wSl_l, wSl_t, wIn_l, wIn_t, wNotIn_l, wNotIn_t, items_l, items_t, lv_i, lv_b, lv_n, eqv_ii, eqv_bb, isNon_n, isNon_i, isNon_b, isNon_s, isNon_t, isNon_l, Bool.not_true, Bool.not_false, b2n_t, b2n_f, pl_i, pl_b, pl_n, decide_eq_true_eq]
  refine ⟨ns, _, rfl, hl, by decide, by decide, ?_⟩
  simp only [sSeq, sSkip, sAsg, sAsgP, sNew, sNewP, sRet, sRetO, sIf, sApp, sAppP, sSet, sAug, sTgt, sTgtP, sPar, sFz, frz, sFor, sForR, sRev, sBrk, sCnt, sDrop, eOp, eUn, eCall, eVar, eC, eFr, eTup, eTupR, eAnd, eOr, eNot, eIf, eChain, eIndex, eSl, nLst, nList, nListR, nLc, nLc2, nCall, nSorted, nRep, tOf, tAndJ, tOrJ, tNotJ, tTrue, iSeq, iR1, iR2, iR3, rg1, rg2, evA, pNo, pSo, startE, hide, rd, hide_v, hide_o, hide_n, rd_v, rd_o, rd_n, bind_one, bind_many, setAll, List.map, List.replicate, List.length, List.cons_append, List.nil_append, List.getElem?_cons_zero, List.getElem?_cons_succ, List.set_cons_zero, List.set_cons_succ, Option.bind_some, ex_some, Option.some.injEq, Slot.own.injEq, Slot.val.injEq, exists_eq_left', true_and, and_true, Bool.false_eq_true, if_false, if_true, reduceIte, wEq, wNe, wAdd_i, wAdd_t, wAdd_l, wAdd_s, wSub_i, wMul_i, wDiv_i, wMod_i, wPow_i, wNeg_i, wLt_i, wLe_i, wGt_i, wGe_i, wIs_n, wIs_b, wIsNot_n, wIsNot_b, wIx_l, wIx_t, wLen_l, wLen_t, wAbs_i, wInt_i, wInt_b, wMax2_i, wMin2_i, wTuple_l, wTuple_t, wB_b, wI_i, seqOf_l, seqOf_t, wIAdd_i, wIAdd_t, wIMul_i, wSl_l, wSl_t, wIn_l, wIn_t, wNotIn_l, wNotIn_t, items_l, items_t, lv_i, lv_b, lv_n, eqv_ii, eqv_bb, isNon_n, isNon_i, isNon_b, isNon_s, isNon_t, isNon_l, Bool.not_true, Bool.not_false, b2n_t, b2n_f, pl_i, pl_b, pl_n, decide_eq_true_eq]
  refine ⟨_, rfl, by decide, fun at_ a0 a1 => ?_⟩
  simp only [sSeq, sSkip, sAsg, sAsgP, sNew, sNewP, sRet, sRetO, sIf, sApp, sAppP, sSet, sAug, sTgt, sTgtP, sPar, sFz, frz, sFor, sForR, sRev, sBrk, sCnt, sDrop, eOp, eUn, eCall, eVar, eC, eFr, eTup, eTupR, eAnd, eOr, eNot, eIf, eChain, eIndex, eSl, nLst, nList, nListR, nLc, nLc2, nCall, nSorted, nRep, tOf, tAndJ, tOrJ, tNotJ, tTrue, iSeq, iR1, iR2, iR3, rg1, rg2, evA, pNo, pSo, startE, hide, rd, hide_v, hide_o, hide_n, rd_v, rd_o, rd_n, bind_one, bind_many, setAll, List.map, List.replicate, List.length, List.cons_append, List.nil_append, List.getElem?_cons_zero, List.getElem?_cons_succ, List.set_cons_zero, List.set_cons_succ, Option.bind_some, ex_some, Option.some.injEq, Slot.own.injEq, Slot.val.injEq, exists_eq_left', true_and, and_true, Bool.false_eq_true, if_false, if_true, reduceIte, wEq, wNe, wAdd_i, wAdd_t, wAdd_l, wAdd_s, wSub_i, wMul_i, wDiv_i, wMod_i, wPow_i, wNeg_i, wLt_i, wLe_i, wGt_i, wGe_i, wIs_n, wIs_b, wIsNot_n, wIsNot_b, wIx_l, wIx_t, wLen_l, wLen_t, wAbs_i, wInt_i, wInt_b, wMax2_i, wMin2_i, wTuple_l, wTuple_t, wB_b, wI_i, seqOf_l, seqOf_t, wIAdd_i, wIAdd_t, wIMul_i, wSl_l, wSl_t, wIn_l, wIn_t, wNotIn_l, wNotIn_t, items_l, items_t, lv_i, lv_b, lv_n, eqv_ii, eqv_bb, isNon_n, isNon_i, isNon_b, isNon_s, isNon_t, isNon_l, Bool.not_true, Bool.not_false, b2n_t, b2n_f, pl_i, pl_b, pl_n, decide_eq_true_eq]
  refine ⟨ns, at_, rfl, hl, fun far hfar => ?_⟩
  simp only [sSeq, sSkip, sAsg, sAsgP, sNew, sNewP, sRet, sRetO, sIf, sApp, sAppP, sSet, sAug, sTgt, sTgtP, sPar, sFz, frz, sFor, sForR, sRev, sBrk, sCnt, sDrop, eOp, eUn, eCall, eVar, eC, eFr, eTup, eTupR, eAnd, eOr, eNot, eIf, eChain, eIndex, eSl, nLst, nList, nListR, nLc, nLc2, nCall, nSorted, nRep, tOf, tAndJ, tOrJ, tNotJ, tTrue, iSeq, iR1, iR2, iR3, rg1, rg2, evA, pNo, pSo, startE, hide, rd, hide_v, hide_o, hide_n, rd_v, rd_o, rd_n, bind_one, bind_many, setAll, List.map, List.replicate, List.length, List.cons_append, List.nil_append, List.getElem?_cons_zero, List.getElem?_cons_succ, List.set_cons_zero, List.set_cons_succ, Option.bind_some, ex_some, Option.some.injEq, Slot.own.injEq, Slot.val.injEq, exists_eq_left', true_and, and_true, Bool.false_eq_true, if_false, if_true, reduceIte, wEq, wNe, wAdd_i, wAdd_t, wAdd_l, wAdd_s, wSub_i, wMul_i, wDiv_i, wMod_i, wPow_i, wNeg_i, wLt_i, wLe_i, wGt_i, wGe_i, wIs_n, wIs_b, wIsNot_n, wIsNot_b, wIx_l, wIx_t, wLen_l, wLen_t, wAbs_i, wInt_i, wInt_b, wMax2_i, wMin2_i, wTuple_l, wTuple_t, wB_b, wI_i, seqOf_l, seqOf_t, wIAdd_i, wIAdd_t, wIMul_i, wSl_l, wSl_t, wIn_l, wIn_t, wNotIn_l, wNotIn_t, items_l, items_t, lv_i, lv_b, lv_n, eqv_ii, eqv_bb, isNon_n, isNon_i, isNon_b, isNon_s, isNon_t, isNon_l, Bool.not_true, Bool.not_false, b2n_t, b2n_f, pl_i, pl_b, pl_n, decide_eq_true_eq]
  refine ⟨⟨by decide, by decide, by decide, by decide, by decide⟩, ?_⟩
  refine forW_inv (fun i e => ∃ s3 s4 s5, e = [.val (.list (ns.map PyData.int)), .val (.dict []), .val (.int (far.natAbs : Nat)), s3, s4, s5, .no]) ⟨_, _, _, rfl⟩ ?_ ?_
  · rintro i d e hi ⟨s3, s4, s5, rfl⟩ R hR
    obtain ⟨rfl, hlt⟩ := rgD_get hi
    refine ⟨_, rfl, ?_⟩
    unfold m_law_b3
    simp only [sSeq, sSkip, sAsg, sAsgP, sNew, sNewP, sRet, sRetO, sIf, sApp, sAppP, sSet, sAug, sTgt, sTgtP, sPar, sFz, frz, sFor, sForR, sRev, sBrk, sCnt, sDrop, eOp, eUn, eCall, eVar, eC, eFr, eTup, eTupR, eAnd, eOr, eNot, eIf, eChain, eIndex, eSl, nLst, nList, nListR, nLc, nLc2, nCall, nSorted, nRep, tOf, tAndJ, tOrJ, tNotJ, tTrue, iSeq, iR1, iR2, iR3, rg1, rg2, evA, pNo, pSo, startE, hide, rd, hide_v, hide_o, hide_n, rd_v, rd_o, rd_n, bind_one, bind_many, setAll, List.map, List.replicate, List.length, List.cons_append, List.nil_append, List.getElem?_cons_zero, List.getElem?_cons_succ, List.set_cons_zero, List.set_cons_succ, Option.bind_some, ex_some, Option.some.injEq, Slot.own.injEq, Slot.val.injEq, exists_eq_left', true_and, and_true, Bool.false_eq_true, if_false, if_true, reduceIte, wEq, wNe, wAdd_i, wAdd_t, wAdd_l, wAdd_s, wSub_i, wMul_i, wDiv_i, wMod_i, wPow_i, wNeg_i, wLt_i, wLe_i, wGt_i, wGe_i, wIs_n, wIs_b, wIsNot_n, wIsNot_b, wIx_l, wIx_t, wLen_l, wLen_t, wAbs_i, wInt_i, wInt_b, wMax2_i, wMin2_i, wTuple_l, wTuple_t, wB_b, wI_i, seqOf_l, seqOf_t, wIAdd_i, wIAdd_t, wIMul_i, wSl_l, wSl_t, wIn_l, wIn_t, wNotIn_l, wNotIn_t, items_l, items_t, lv_i, lv_b, lv_n, eqv_ii, eqv_bb, isNon_n, isNon_i, isNon_b, isNon_s, isNon_t, isNon_l, Bool.not_true, Bool.not_false, b2n_t, b2n_f, pl_i, pl_b, pl_n, decide_eq_true_eq]
    obtain ⟨m, hm, hm2⟩ : ∃ m : Int, atI [PyData.int 8, .int 64, .int 20] (0 + (i : Int)) = some (.int m) ∧ 0 < m ∧ m ≤ 64 := by
      have : i = 0 ∨ i = 1 ∨ i = 2 := by omega
      rcases this with rfl | rfl | rfl <;> exact ⟨_, rfl, by decide, by decide⟩
    refine ⟨_, hm, ?_⟩
    refine ⟨m, rfl, hm2.1, fun r r0 r1 => ?_⟩
    simp only [sSeq, sSkip, sAsg, sAsgP, sNew, sNewP, sRet, sRetO, sIf, sApp, sAppP, sSet, sAug, sTgt, sTgtP, sPar, sFz, frz, sFor, sForR, sRev, sBrk, sCnt, sDrop, eOp, eUn, eCall, eVar, eC, eFr, eTup, eTupR, eAnd, eOr, eNot, eIf, eChain, eIndex, eSl, nLst, nList, nListR, nLc, nLc2, nCall, nSorted, nRep, tOf, tAndJ, tOrJ, tNotJ, tTrue, iSeq, iR1, iR2, iR3, rg1, rg2, evA, pNo, pSo, startE, hide, rd, hide_v, hide_o, hide_n, rd_v, rd_o, rd_n, bind_one, bind_many, setAll, List.map, List.replicate, List.length, List.cons_append, List.nil_append, List.getElem?_cons_zero, List.getElem?_cons_succ, List.set_cons_zero, List.set_cons_succ, Option.bind_some, ex_some, Option.some.injEq, Slot.own.injEq, Slot.val.injEq, exists_eq_left', true_and, and_true, Bool.false_eq_true, if_false, if_true, reduceIte, wEq, wNe, wAdd_i, wAdd_t, wAdd_l, wAdd_s, wSub_i, wMul_i, wDiv_i, wMod_i, wPow_i, wNeg_i, wLt_i, wLe_i, wGt_i, wGe_i, wIs_n, wIs_b, wIsNot_n, wIsNot_b, wIx_l, wIx_t, wLen_l, wLen_t, wAbs_i, wInt_i, wInt_b, wMax2_i, wMin2_i, wTuple_l, wTuple_t, wB_b, wI_i, seqOf_l, seqOf_t, wIAdd_i, wIAdd_t, wIMul_i, wSl_l, wSl_t, wIn_l, wIn_t, wNotIn_l, wNotIn_t, items_l, items_t, lv_i, lv_b, lv_n, eqv_ii, eqv_bb, isNon_n, isNon_i, isNon_b, isNon_s, isNon_t, isNon_l, Bool.not_true, Bool.not_false, b2n_t, b2n_f, pl_i, pl_b, pl_n, decide_eq_true_eq]
    have tail : ∀ n : Int, 1 ≤ n → n ≤ 64 → (sSeq (sAsg 5 (eUn wTuple (eFr (nLc (iR1 (eVar 4)) (.one 6) [6] tTrue (eOp wAdd (eCall S__law_take [(eVar 1), (eOp wIx (eFr (nLst [(eC (.int 3)), (eC (.int 100))])) (eCall S__law_take [(eVar 1), (eC (.int 2))]))]) (eOp wMul (eVar 2) (eCall S__law_take [(eVar 1), (eC (.int 2))])))))))
      (sIf (tNotJ (tOf (eCall S__law_right [(eVar 1), (eVar 4), (eVar 5)]))) (sRet (eC (.bool false))) sSkip)) [.val (.list (ns.map PyData.int)), .val (.dict []), .val (.int (far.natAbs : Nat)), .val (.int (0 + (i : Int))), .val (.int n), s5, .no] ⟨R, QD, fun e' => m_law_r3 e' ⟨fun _ => QD .none, QD, noB, noB, fun es => QD (.list es)⟩, R, fun es => QD (.list es)⟩ := by
      intro n n1 n64
      simp only [sSeq, sSkip, sAsg, sAsgP, sNew, sNewP, sRet, sRetO, sIf, sApp, sAppP, sSet, sAug, sTgt, sTgtP, sPar, sFz, frz, sFor, sForR, sRev, sBrk, sCnt, sDrop, eOp, eUn, eCall, eVar, eC, eFr, eTup, eTupR, eAnd, eOr, eNot, eIf, eChain, eIndex, eSl, nLst, nList, nListR, nLc, nLc2, nCall, nSorted, nRep, tOf, tAndJ, tOrJ, tNotJ, tTrue, iSeq, iR1, iR2, iR3, rg1, rg2, evA, pNo, pSo, startE, hide, rd, hide_v, hide_o, hide_n, rd_v, rd_o, rd_n, bind_one, bind_many, setAll, List.map, List.replicate, List.length, List.cons_append, List.nil_append, List.getElem?_cons_zero, List.getElem?_cons_succ, List.set_cons_zero, List.set_cons_succ, Option.bind_some, ex_some, Option.some.injEq, Slot.own.injEq, Slot.val.injEq, exists_eq_left', true_and, and_true, Bool.false_eq_true, if_false, if_true, reduceIte, wEq, wNe, wAdd_i, wAdd_t, wAdd_l, wAdd_s, wSub_i, wMul_i, wDiv_i, wMod_i, wPow_i, wNeg_i, wLt_i, wLe_i, wGt_i, wGe_i, wIs_n, wIs_b, wIsNot_n, wIsNot_b, wIx_l, wIx_t, wLen_l, wLen_t, wAbs_i, wInt_i, wInt_b, wMax2_i, wMin2_i, wTuple_l, wTuple_t, wB_b, wI_i, seqOf_l, seqOf_t, wIAdd_i, wIAdd_t, wIMul_i, wSl_l, wSl_t, wIn_l, wIn_t, wNotIn_l, wNotIn_t, items_l, items_t, lv_i, lv_b, lv_n, eqv_ii, eqv_bb, isNon_n, isNon_i, isNon_b, isNon_s, isNon_t, isNon_l, Bool.not_true, Bool.not_false, b2n_t, b2n_f, pl_i, pl_b, pl_n, decide_eq_true_eq]
      refine ⟨⟨by decide, by decide, by omega, by omega, by omega⟩, ?_⟩
      refine mapW_all (fun _ r => ∃ z : Int, r = .int z) (fun d hd R hR => ?_) fun rs hrs hall => ?_
      · obtain ⟨k, hk⟩ := List.mem_iff_getElem?.mp hd
        obtain ⟨rfl, _⟩ := rgD_get hk
        refine ⟨_, rfl, ?_⟩
        simp only [sSeq, sSkip, sAsg, sAsgP, sNew, sNewP, sRet, sRetO, sIf, sApp, sAppP, sSet, sAug, sTgt, sTgtP, sPar, sFz, frz, sFor, sForR, sRev, sBrk, sCnt, sDrop, eOp, eUn, eCall, eVar, eC, eFr, eTup, eTupR, eAnd, eOr, eNot, eIf, eChain, eIndex, eSl, nLst, nList, nListR, nLc, nLc2, nCall, nSorted, nRep, tOf, tAndJ, tOrJ, tNotJ, tTrue, iSeq, iR1, iR2, iR3, rg1, rg2, evA, pNo, pSo, startE, hide, rd, hide_v, hide_o, hide_n, rd_v, rd_o, rd_n, bind_one, bind_many, setAll, List.map, List.replicate, List.length, List.cons_append, List.nil_append, List.getElem?_cons_zero, List.getElem?_cons_succ, List.set_cons_zero, List.set_cons_succ, Option.bind_some, ex_some, Option.some.injEq, Slot.own.injEq, Slot.val.injEq, exists_eq_left', true_and, and_true, Bool.false_eq_true, if_false, if_true, reduceIte, wEq, wNe, wAdd_i, wAdd_t, wAdd_l, wAdd_s, wSub_i, wMul_i, wDiv_i, wMod_i, wPow_i, wNeg_i, wLt_i, wLe_i, wGt_i, wGe_i, wIs_n, wIs_b, wIsNot_n, wIsNot_b, wIx_l, wIx_t, wLen_l, wLen_t, wAbs_i, wInt_i, wInt_b, wMax2_i, wMin2_i, wTuple_l, wTuple_t, wB_b, wI_i, seqOf_l, seqOf_t, wIAdd_i, wIAdd_t, wIMul_i, wSl_l, wSl_t, wIn_l, wIn_t, wNotIn_l, wNotIn_t, items_l, items_t, lv_i, lv_b, lv_n, eqv_ii, eqv_bb, isNon_n, isNon_i, isNon_b, isNon_s, isNon_t, isNon_l, Bool.not_true, Bool.not_false, b2n_t, b2n_f, pl_i, pl_b, pl_n, decide_eq_true_eq, wipeE]
        refine ⟨_, rfl, by decide, fun r2 p0 p1 => ?_⟩
        simp only [sSeq, sSkip, sAsg, sAsgP, sNew, sNewP, sRet, sRetO, sIf, sApp, sAppP, sSet, sAug, sTgt, sTgtP, sPar, sFz, frz, sFor, sForR, sRev, sBrk, sCnt, sDrop, eOp, eUn, eCall, eVar, eC, eFr, eTup, eTupR, eAnd, eOr, eNot, eIf, eChain, eIndex, eSl, nLst, nList, nListR, nLc, nLc2, nCall, nSorted, nRep, tOf, tAndJ, tOrJ, tNotJ, tTrue, iSeq, iR1, iR2, iR3, rg1, rg2, evA, pNo, pSo, startE, hide, rd, hide_v, hide_o, hide_n, rd_v, rd_o, rd_n, bind_one, bind_many, setAll, List.map, List.replicate, List.length, List.cons_append, List.nil_append, List.getElem?_cons_zero, List.getElem?_cons_succ, List.set_cons_zero, List.set_cons_succ, Option.bind_some, ex_some, Option.some.injEq, Slot.own.injEq, Slot.val.injEq, exists_eq_left', true_and, and_true, Bool.false_eq_true, if_false, if_true, reduceIte, wEq, wNe, wAdd_i, wAdd_t, wAdd_l, wAdd_s, wSub_i, wMul_i, wDiv_i, wMod_i, wPow_i, wNeg_i, wLt_i, wLe_i, wGt_i, wGe_i, wIs_n, wIs_b, wIsNot_n, wIsNot_b, wIx_l, wIx_t, wLen_l, wLen_t, wAbs_i, wInt_i, wInt_b, wMax2_i, wMin2_i, wTuple_l, wTuple_t, wB_b, wI_i, seqOf_l, seqOf_t, wIAdd_i, wIAdd_t, wIMul_i, wSl_l, wSl_t, wIn_l, wIn_t, wNotIn_l, wNotIn_t, items_l, items_t, lv_i, lv_b, lv_n, eqv_ii, eqv_bb, isNon_n, isNon_i, isNon_b, isNon_s, isNon_t, isNon_l, Bool.not_true, Bool.not_false, b2n_t, b2n_f, pl_i, pl_b, pl_n, decide_eq_true_eq]
        obtain ⟨m2, hm3, hm4⟩ : ∃ m2 : Int, atI [PyData.int 3, .int 100] r2 = some (.int m2) ∧ 0 < m2 := by
          have : r2 = 0 ∨ r2 = 1 := by omega
          rcases this with rfl | rfl <;> exact ⟨_, rfl, by decide⟩
        refine ⟨_, hm3, m2, rfl, hm4, fun r3 _ _ => ?_⟩
        refine ⟨_, rfl, by decide, fun r4 q0 q1 => ?_⟩
        simp only [sSeq, sSkip, sAsg, sAsgP, sNew, sNewP, sRet, sRetO, sIf, sApp, sAppP, sSet, sAug, sTgt, sTgtP, sPar, sFz, frz, sFor, sForR, sRev, sBrk, sCnt, sDrop, eOp, eUn, eCall, eVar, eC, eFr, eTup, eTupR, eAnd, eOr, eNot, eIf, eChain, eIndex, eSl, nLst, nList, nListR, nLc, nLc2, nCall, nSorted, nRep, tOf, tAndJ, tOrJ, tNotJ, tTrue, iSeq, iR1, iR2, iR3, rg1, rg2, evA, pNo, pSo, startE, hide, rd, hide_v, hide_o, hide_n, rd_v, rd_o, rd_n, bind_one, bind_many, setAll, List.map, List.replicate, List.length, List.cons_append, List.nil_append, List.getElem?_cons_zero, List.getElem?_cons_succ, List.set_cons_zero, List.set_cons_succ, Option.bind_some, ex_some, Option.some.injEq, Slot.own.injEq, Slot.val.injEq, exists_eq_left', true_and, and_true, Bool.false_eq_true, if_false, if_true, reduceIte, wEq, wNe, wAdd_i, wAdd_t, wAdd_l, wAdd_s, wSub_i, wMul_i, wDiv_i, wMod_i, wPow_i, wNeg_i, wLt_i, wLe_i, wGt_i, wGe_i, wIs_n, wIs_b, wIsNot_n, wIsNot_b, wIx_l, wIx_t, wLen_l, wLen_t, wAbs_i, wInt_i, wInt_b, wMax2_i, wMin2_i, wTuple_l, wTuple_t, wB_b, wI_i, seqOf_l, seqOf_t, wIAdd_i, wIAdd_t, wIMul_i, wSl_l, wSl_t, wIn_l, wIn_t, wNotIn_l, wNotIn_t, items_l, items_t, lv_i, lv_b, lv_n, eqv_ii, eqv_bb, isNon_n, isNon_i, isNon_b, isNon_s, isNon_t, isNon_l, Bool.not_true, Bool.not_false, b2n_t, b2n_f, pl_i, pl_b, pl_n, decide_eq_true_eq]
        exact ⟨mul_r (by omega), hR _ ⟨_, rfl⟩⟩
      · have : ∃ ss : List Int, rs = ss.map PyData.int := by
          have hl2 : ∀ (l : List D), (∀ d ∈ l, ∃ z : Int, d = .int z) → ∃ ss : List Int, l = ss.map PyData.int := by
            intro l
            induction l with
            | nil => exact fun _ => ⟨[], rfl⟩
            | cons a l ih =>
              intro h
              obtain ⟨z, rfl⟩ := h a (by simp)
              obtain ⟨ss, rfl⟩ := ih fun d hd => h d (by simp [hd])
              exact ⟨z :: ss, rfl⟩
          refine hl2 rs fun d hd => ?_
          obtain ⟨k, hk⟩ := List.mem_iff_getElem?.mp hd
          have hkl : k < (rgD 0 n).length := by rw [← hrs]; exact (List.getElem?_eq_some_iff.mp hk).1
          exact hall k _ d (List.getElem?_eq_getElem hkl) hk
        obtain ⟨ss, rfl⟩ := this
        refine ⟨n, ss, rfl, n1, n64, ?_, ?_⟩
        · rw [List.length_map, rgD_length] at hrs
          omega
        · simp only [sSeq, sSkip, sAsg, sAsgP, sNew, sNewP, sRet, sRetO, sIf, sApp, sAppP, sSet, sAug, sTgt, sTgtP, sPar, sFz, frz, sFor, sForR, sRev, sBrk, sCnt, sDrop, eOp, eUn, eCall, eVar, eC, eFr, eTup, eTupR, eAnd, eOr, eNot, eIf, eChain, eIndex, eSl, nLst, nList, nListR, nLc, nLc2, nCall, nSorted, nRep, tOf, tAndJ, tOrJ, tNotJ, tTrue, iSeq, iR1, iR2, iR3, rg1, rg2, evA, pNo, pSo, startE, hide, rd, hide_v, hide_o, hide_n, rd_v, rd_o, rd_n, bind_one, bind_many, setAll, List.map, List.replicate, List.length, List.cons_append, List.nil_append, List.getElem?_cons_zero, List.getElem?_cons_succ, List.set_cons_zero, List.set_cons_succ, Option.bind_some, ex_some, Option.some.injEq, Slot.own.injEq, Slot.val.injEq, exists_eq_left', true_and, and_true, Bool.false_eq_true, if_false, if_true, reduceIte, wEq, wNe, wAdd_i, wAdd_t, wAdd_l, wAdd_s, wSub_i, wMul_i, wDiv_i, wMod_i, wPow_i, wNeg_i, wLt_i, wLe_i, wGt_i, wGe_i, wIs_n, wIs_b, wIsNot_n, wIsNot_b, wIx_l, wIx_t, wLen_l, wLen_t, wAbs_i, wInt_i, wInt_b, wMax2_i, wMin2_i, wTuple_l, wTuple_t, wB_b, wI_i, seqOf_l, seqOf_t, wIAdd_i, wIAdd_t, wIMul_i, wSl_l, wSl_t, wIn_l, wIn_t, wNotIn_l, wNotIn_t, items_l, items_t, lv_i, lv_b, lv_n, eqv_ii, eqv_bb, isNon_n, isNon_i, isNon_b, isNon_s, isNon_t, isNon_l, Bool.not_true, Bool.not_false, b2n_t, b2n_f, pl_i, pl_b, pl_n, decide_eq_true_eq]
          exact hR _ ⟨_, _, _, rfl⟩
    refine ⟨4, rfl, by decide, fun r5 q0 q1 => ?_⟩
    simp only [sSeq, sSkip, sAsg, sAsgP, sNew, sNewP, sRet, sRetO, sIf, sApp, sAppP, sSet, sAug, sTgt, sTgtP, sPar, sFz, frz, sFor, sForR, sRev, sBrk, sCnt, sDrop, eOp, eUn, eCall, eVar, eC, eFr, eTup, eTupR, eAnd, eOr, eNot, eIf, eChain, eIndex, eSl, nLst, nList, nListR, nLc, nLc2, nCall, nSorted, nRep, tOf, tAndJ, tOrJ, tNotJ, tTrue, iSeq, iR1, iR2, iR3, rg1, rg2, evA, pNo, pSo, startE, hide, rd, hide_v, hide_o, hide_n, rd_v, rd_o, rd_n, bind_one, bind_many, setAll, List.map, List.replicate, List.length, List.cons_append, List.nil_append, List.getElem?_cons_zero, List.getElem?_cons_succ, List.set_cons_zero, List.set_cons_succ, Option.bind_some, ex_some, Option.some.injEq, Slot.own.injEq, Slot.val.injEq, exists_eq_left', true_and, and_true, Bool.false_eq_true, if_false, if_true, reduceIte, wEq, wNe, wAdd_i, wAdd_t, wAdd_l, wAdd_s, wSub_i, wMul_i, wDiv_i, wMod_i, wPow_i, wNeg_i, wLt_i, wLe_i, wGt_i, wGe_i, wIs_n, wIs_b, wIsNot_n, wIsNot_b, wIx_l, wIx_t, wLen_l, wLen_t, wAbs_i, wInt_i, wInt_b, wMax2_i, wMin2_i, wTuple_l, wTuple_t, wB_b, wI_i, seqOf_l, seqOf_t, wIAdd_i, wIAdd_t, wIMul_i, wSl_l, wSl_t, wIn_l, wIn_t, wNotIn_l, wNotIn_t, items_l, items_t, lv_i, lv_b, lv_n, eqv_ii, eqv_bb, isNon_n, isNon_i, isNon_b, isNon_s, isNon_t, isNon_l, Bool.not_true, Bool.not_false, b2n_t, b2n_f, pl_i, pl_b, pl_n, decide_eq_true_eq]
    split
    · refine ⟨15, rfl, by decide, fun r6 p0 p1 => ?_⟩
      obtain ⟨z, hz, z1, z2⟩ := ns15 r6 p0 p1
      simp only [sSeq, sSkip, sAsg, sAsgP, sNew, sNewP, sRet, sRetO, sIf, sApp, sAppP, sSet, sAug, sTgt, sTgtP, sPar, sFz, frz, sFor, sForR, sRev, sBrk, sCnt, sDrop, eOp, eUn, eCall, eVar, eC, eFr, eTup, eTupR, eAnd, eOr, eNot, eIf, eChain, eIndex, eSl, nLst, nList, nListR, nLc, nLc2, nCall, nSorted, nRep, tOf, tAndJ, tOrJ, tNotJ, tTrue, iSeq, iR1, iR2, iR3, rg1, rg2, evA, pNo, pSo, startE, hide, rd, hide_v, hide_o, hide_n, rd_v, rd_o, rd_n, bind_one, bind_many, setAll, List.map, List.replicate, List.length, List.cons_append, List.nil_append, List.getElem?_cons_zero, List.getElem?_cons_succ, List.set_cons_zero, List.set_cons_succ, Option.bind_some, ex_some, Option.some.injEq, Slot.own.injEq, Slot.val.injEq, exists_eq_left', true_and, and_true, Bool.false_eq_true, if_false, if_true, reduceIte, wEq, wNe, wAdd_i, wAdd_t, wAdd_l, wAdd_s, wSub_i, wMul_i, wDiv_i, wMod_i, wPow_i, wNeg_i, wLt_i, wLe_i, wGt_i, wGe_i, wIs_n, wIs_b, wIsNot_n, wIsNot_b, wIx_l, wIx_t, wLen_l, wLen_t, wAbs_i, wInt_i, wInt_b, wMax2_i, wMin2_i, wTuple_l, wTuple_t, wB_b, wI_i, seqOf_l, seqOf_t, wIAdd_i, wIAdd_t, wIMul_i, wSl_l, wSl_t, wIn_l, wIn_t, wNotIn_l, wNotIn_t, items_l, items_t, lv_i, lv_b, lv_n, eqv_ii, eqv_bb, isNon_n, isNon_i, isNon_b, isNon_s, isNon_t, isNon_l, Bool.not_true, Bool.not_false, b2n_t, b2n_f, pl_i, pl_b, pl_n, decide_eq_true_eq]
      refine ⟨_, hz, ?_⟩
      have := tail z z1 z2
      simp only [sSeq, sSkip, sAsg, sAsgP, sNew, sNewP, sRet, sRetO, sIf, sApp, sAppP, sSet, sAug, sTgt, sTgtP, sPar, sFz, frz, sFor, sForR, sRev, sBrk, sCnt, sDrop, eOp, eUn, eCall, eVar, eC, eFr, eTup, eTupR, eAnd, eOr, eNot, eIf, eChain, eIndex, eSl, nLst, nList, nListR, nLc, nLc2, nCall, nSorted, nRep, tOf, tAndJ, tOrJ, tNotJ, tTrue, iSeq, iR1, iR2, iR3, rg1, rg2, evA, pNo, pSo, startE, hide, rd, hide_v, hide_o, hide_n, rd_v, rd_o, rd_n, bind_one, bind_many, setAll, List.map, List.replicate, List.length, List.cons_append, List.nil_append, List.getElem?_cons_zero, List.getElem?_cons_succ, List.set_cons_zero, List.set_cons_succ, Option.bind_some, ex_some, Option.some.injEq, Slot.own.injEq, Slot.val.injEq, exists_eq_left', true_and, and_true, Bool.false_eq_true, if_false, if_true, reduceIte, wEq, wNe, wAdd_i, wAdd_t, wAdd_l, wAdd_s, wSub_i, wMul_i, wDiv_i, wMod_i, wPow_i, wNeg_i, wLt_i, wLe_i, wGt_i, wGe_i, wIs_n, wIs_b, wIsNot_n, wIsNot_b, wIx_l, wIx_t, wLen_l, wLen_t, wAbs_i, wInt_i, wInt_b, wMax2_i, wMin2_i, wTuple_l, wTuple_t, wB_b, wI_i, seqOf_l, seqOf_t, wIAdd_i, wIAdd_t, wIMul_i, wSl_l, wSl_t, wIn_l, wIn_t, wNotIn_l, wNotIn_t, items_l, items_t, lv_i, lv_b, lv_n, eqv_ii, eqv_bb, isNon_n, isNon_i, isNon_b, isNon_s, isNon_t, isNon_l, Bool.not_true, Bool.not_false, b2n_t, b2n_f, pl_i, pl_b, pl_n, decide_eq_true_eq] at this
      exact this
    · have := tail (1 + r) (by omega) (by omega)
      simp only [sSeq, sSkip, sAsg, sAsgP, sNew, sNewP, sRet, sRetO, sIf, sApp, sAppP, sSet, sAug, sTgt, sTgtP, sPar, sFz, frz, sFor, sForR, sRev, sBrk, sCnt, sDrop, eOp, eUn, eCall, eVar, eC, eFr, eTup, eTupR, eAnd, eOr, eNot, eIf, eChain, eIndex, eSl, nLst, nList, nListR, nLc, nLc2, nCall, nSorted, nRep, tOf, tAndJ, tOrJ, tNotJ, tTrue, iSeq, iR1, iR2, iR3, rg1, rg2, evA, pNo, pSo, startE, hide, rd, hide_v, hide_o, hide_n, rd_v, rd_o, rd_n, bind_one, bind_many, setAll, List.map, List.replicate, List.length, List.cons_append, List.nil_append, List.getElem?_cons_zero, List.getElem?_cons_succ, List.set_cons_zero, List.set_cons_succ, Option.bind_some, ex_some, Option.some.injEq, Slot.own.injEq, Slot.val.injEq, exists_eq_left', true_and, and_true, Bool.false_eq_true, if_false, if_true, reduceIte, wEq, wNe, wAdd_i, wAdd_t, wAdd_l, wAdd_s, wSub_i, wMul_i, wDiv_i, wMod_i, wPow_i, wNeg_i, wLt_i, wLe_i, wGt_i, wGe_i, wIs_n, wIs_b, wIsNot_n, wIsNot_b, wIx_l, wIx_t, wLen_l, wLen_t, wAbs_i, wInt_i, wInt_b, wMax2_i, wMin2_i, wTuple_l, wTuple_t, wB_b, wI_i, seqOf_l, seqOf_t, wIAdd_i, wIAdd_t, wIMul_i, wSl_l, wSl_t, wIn_l, wIn_t, wNotIn_l, wNotIn_t, items_l, items_t, lv_i, lv_b, lv_n, eqv_ii, eqv_bb, isNon_n, isNon_i, isNon_b, isNon_s, isNon_t, isNon_l, Bool.not_true, Bool.not_false, b2n_t, b2n_f, pl_i, pl_b, pl_n, decide_eq_true_eq] at this
      exact this
  · rintro e ⟨s3, s4, s5, rfl⟩
    unfold m_law_r3
    simp only [sSeq, sSkip, sAsg, sAsgP, sNew, sNewP, sRet, sRetO, sIf, sApp, sAppP, sSet, sAug, sTgt, sTgtP, sPar, sFz, frz, sFor, sForR, sRev, sBrk, sCnt, sDrop, eOp, eUn, eCall, eVar, eC, eFr, eTup, eTupR, eAnd, eOr, eNot, eIf, eChain, eIndex, eSl, nLst, nList, nListR, nLc, nLc2, nCall, nSorted, nRep, tOf, tAndJ, tOrJ, tNotJ, tTrue, iSeq, iR1, iR2, iR3, rg1, rg2, evA, pNo, pSo, startE, hide, rd, hide_v, hide_o, hide_n, rd_v, rd_o, rd_n, bind_one, bind_many, setAll, List.map, List.replicate, List.length, List.cons_append, List.nil_append, List.getElem?_cons_zero, List.getElem?_cons_succ, List.set_cons_zero, List.set_cons_succ, Option.bind_some, ex_some, Option.some.injEq, Slot.own.injEq, Slot.val.injEq, exists_eq_left', true_and, and_true, Bool.false_eq_true, if_false, if_true, reduceIte, wEq, wNe, wAdd_i, wAdd_t, wAdd_l, wAdd_s, wSub_i, wMul_i, wDiv_i, wMod_i, wPow_i, wNeg_i, wLt_i, wLe_i, wGt_i, wGe_i, wIs_n, wIs_b, wIsNot_n, wIsNot_b, wIx_l, wIx_t, wLen_l, wLen_t, wAbs_i, wInt_i, wInt_b, wMax2_i, wMin2_i, wTuple_l, wTuple_t, wB_b, wI_i, seqOf_l, seqOf_t, wIAdd_i, wIAdd_t, wIMul_i, wSl_l, wSl_t, wIn_l, wIn_t, wNotIn_l, wNotIn_t, items_l, items_t, lv_i, lv_b, lv_n, eqv_ii, eqv_bb, isNon_n, isNon_i, isNon_b, isNon_s, isNon_t, isNon_l, Bool.not_true, Bool.not_false, b2n_t, b2n_f, pl_i, pl_b, pl_n, decide_eq_true_eq]
    refine ⟨4, rfl, by decide, _, rfl, by decide +kernel, ?_⟩
    simp only [sSeq, sSkip, sAsg, sAsgP, sNew, sNewP, sRet, sRetO, sIf, sApp, sAppP, sSet, sAug, sTgt, sTgtP, sPar, sFz, frz, sFor, sForR, sRev, sBrk, sCnt, sDrop, eOp, eUn, eCall, eVar, eC, eFr, eTup, eTupR, eAnd, eOr, eNot, eIf, eChain, eIndex, eSl, nLst, nList, nListR, nLc, nLc2, nCall, nSorted, nRep, tOf, tAndJ, tOrJ, tNotJ, tTrue, iSeq, iR1, iR2, iR3, rg1, rg2, evA, pNo, pSo, startE, hide, rd, hide_v, hide_o, hide_n, rd_v, rd_o, rd_n, bind_one, bind_many, setAll, List.map, List.replicate, List.length, List.cons_append, List.nil_append, List.getElem?_cons_zero, List.getElem?_cons_succ, List.set_cons_zero, List.set_cons_succ, Option.bind_some, ex_some, Option.some.injEq, Slot.own.injEq, Slot.val.injEq, exists_eq_left', true_and, and_true, Bool.false_eq_true, if_false, if_true, reduceIte, wEq, wNe, wAdd_i, wAdd_t, wAdd_l, wAdd_s, wSub_i, wMul_i, wDiv_i, wMod_i, wPow_i, wNeg_i, wLt_i, wLe_i, wGt_i, wGe_i, wIs_n, wIs_b, wIsNot_n, wIsNot_b, wIx_l, wIx_t, wLen_l, wLen_t, wAbs_i, wInt_i, wInt_b, wMax2_i, wMin2_i, wTuple_l, wTuple_t, wB_b, wI_i, seqOf_l, seqOf_t, wIAdd_i, wIAdd_t, wIMul_i, wSl_l, wSl_t, wIn_l, wIn_t, wNotIn_l, wNotIn_t, items_l, items_t, lv_i, lv_b, lv_n, eqv_ii, eqv_bb, isNon_n, isNon_i, isNon_b, isNon_s, isNon_t, isNon_l, Bool.not_true, Bool.not_false, b2n_t, b2n_f, pl_i, pl_b, pl_n, decide_eq_true_eq]
    refine ⟨6, rfl, by decide, _, rfl, by decide +kernel, ?_⟩
    simp only [sSeq, sSkip, sAsg, sAsgP, sNew, sNewP, sRet, sRetO, sIf, sApp, sAppP, sSet, sAug, sTgt, sTgtP, sPar, sFz, frz, sFor, sForR, sRev, sBrk, sCnt, sDrop, eOp, eUn, eCall, eVar, eC, eFr, eTup, eTupR, eAnd, eOr, eNot, eIf, eChain, eIndex, eSl, nLst, nList, nListR, nLc, nLc2, nCall, nSorted, nRep, tOf, tAndJ, tOrJ, tNotJ, tTrue, iSeq, iR1, iR2, iR3, rg1, rg2, evA, pNo, pSo, startE, hide, rd, hide_v, hide_o, hide_n, rd_v, rd_o, rd_n, bind_one, bind_many, setAll, List.map, List.replicate, List.length, List.cons_append, List.nil_append, List.getElem?_cons_zero, List.getElem?_cons_succ, List.set_cons_zero, List.set_cons_succ, Option.bind_some, ex_some, Option.some.injEq, Slot.own.injEq, Slot.val.injEq, exists_eq_left', true_and, and_true, Bool.false_eq_true, if_false, if_true, reduceIte, wEq, wNe, wAdd_i, wAdd_t, wAdd_l, wAdd_s, wSub_i, wMul_i, wDiv_i, wMod_i, wPow_i, wNeg_i, wLt_i, wLe_i, wGt_i, wGe_i, wIs_n, wIs_b, wIsNot_n, wIsNot_b, wIx_l, wIx_t, wLen_l, wLen_t, wAbs_i, wInt_i, wInt_b, wMax2_i, wMin2_i, wTuple_l, wTuple_t, wB_b, wI_i, seqOf_l, seqOf_t, wIAdd_i, wIAdd_t, wIMul_i, wSl_l, wSl_t, wIn_l, wIn_t, wNotIn_l, wNotIn_t, items_l, items_t, lv_i, lv_b, lv_n, eqv_ii, eqv_bb, isNon_n, isNon_i, isNon_b, isNon_s, isNon_t, isNon_l, Bool.not_true, Bool.not_false, b2n_t, b2n_f, pl_i, pl_b, pl_n, decide_eq_true_eq]
    refine ⟨3, rfl, by decide, _, rfl, by decide +kernel, ?_⟩
    simp only [sSeq, sSkip, sAsg, sAsgP, sNew, sNewP, sRet, sRetO, sIf, sApp, sAppP, sSet, sAug, sTgt, sTgtP, sPar, sFz, frz, sFor, sForR, sRev, sBrk, sCnt, sDrop, eOp, eUn, eCall, eVar, eC, eFr, eTup, eTupR, eAnd, eOr, eNot, eIf, eChain, eIndex, eSl, nLst, nList, nListR, nLc, nLc2, nCall, nSorted, nRep, tOf, tAndJ, tOrJ, tNotJ, tTrue, iSeq, iR1, iR2, iR3, rg1, rg2, evA, pNo, pSo, startE, hide, rd, hide_v, hide_o, hide_n, rd_v, rd_o, rd_n, bind_one, bind_many, setAll, List.map, List.replicate, List.length, List.cons_append, List.nil_append, List.getElem?_cons_zero, List.getElem?_cons_succ, List.set_cons_zero, List.set_cons_succ, Option.bind_some, ex_some, Option.some.injEq, Slot.own.injEq, Slot.val.injEq, exists_eq_left', true_and, and_true, Bool.false_eq_true, if_false, if_true, reduceIte, wEq, wNe, wAdd_i, wAdd_t, wAdd_l, wAdd_s, wSub_i, wMul_i, wDiv_i, wMod_i, wPow_i, wNeg_i, wLt_i, wLe_i, wGt_i, wGe_i, wIs_n, wIs_b, wIsNot_n, wIsNot_b, wIx_l, wIx_t, wLen_l, wLen_t, wAbs_i, wInt_i, wInt_b, wMax2_i, wMin2_i, wTuple_l, wTuple_t, wB_b, wI_i, seqOf_l, seqOf_t, wIAdd_i, wIAdd_t, wIMul_i, wSl_l, wSl_t, wIn_l, wIn_t, wNotIn_l, wNotIn_t, items_l, items_t, lv_i, lv_b, lv_n, eqv_ii, eqv_bb, isNon_n, isNon_i, isNon_b, isNon_s, isNon_t, isNon_l, Bool.not_true, Bool.not_false, b2n_t, b2n_f, pl_i, pl_b, pl_n, decide_eq_true_eq]
    unfold m_law_r10
    simp only [sSeq, sSkip, sAsg, sAsgP, sNew, sNewP, sRet, sRetO, sIf, sApp, sAppP, sSet, sAug, sTgt, sTgtP, sPar, sFz, frz, sFor, sForR, sRev, sBrk, sCnt, sDrop, eOp, eUn, eCall, eVar, eC, eFr, eTup, eTupR, eAnd, eOr, eNot, eIf, eChain, eIndex, eSl, nLst, nList, nListR, nLc, nLc2, nCall, nSorted, nRep, tOf, tAndJ, tOrJ, tNotJ, tTrue, iSeq, iR1, iR2, iR3, rg1, rg2, evA, pNo, pSo, startE, hide, rd, hide_v, hide_o, hide_n, rd_v, rd_o, rd_n, bind_one, bind_many, setAll, List.map, List.replicate, List.length, List.cons_append, List.nil_append, List.getElem?_cons_zero, List.getElem?_cons_succ, List.set_cons_zero, List.set_cons_succ, Option.bind_some, ex_some, Option.some.injEq, Slot.own.injEq, Slot.val.injEq, exists_eq_left', true_and, and_true, Bool.false_eq_true, if_false, if_true, reduceIte, wEq, wNe, wAdd_i, wAdd_t, wAdd_l, wAdd_s, wSub_i, wMul_i, wDiv_i, wMod_i, wPow_i, wNeg_i, wLt_i, wLe_i, wGt_i, wGe_i, wIs_n, wIs_b, wIsNot_n, wIsNot_b, wIx_l, wIx_t, wLen_l, wLen_t, wAbs_i, wInt_i, wInt_b, wMax2_i, wMin2_i, wTuple_l, wTuple_t, wB_b, wI_i, seqOf_l, seqOf_t, wIAdd_i, wIAdd_t, wIMul_i, wSl_l, wSl_t, wIn_l, wIn_t, wNotIn_l, wNotIn_t, items_l, items_t, lv_i, lv_b, lv_n, eqv_ii, eqv_bb, isNon_n, isNon_i, isNon_b, isNon_s, isNon_t, isNon_l, Bool.not_true, Bool.not_false, b2n_t, b2n_f, pl_i, pl_b, pl_n, decide_eq_true_eq]
    refine ⟨1, rfl, by decide, _, rfl, by decide +kernel, ?_⟩
    simp only [sSeq, sSkip, sAsg, sAsgP, sNew, sNewP, sRet, sRetO, sIf, sApp, sAppP, sSet, sAug, sTgt, sTgtP, sPar, sFz, frz, sFor, sForR, sRev, sBrk, sCnt, sDrop, eOp, eUn, eCall, eVar, eC, eFr, eTup, eTupR, eAnd, eOr, eNot, eIf, eChain, eIndex, eSl, nLst, nList, nListR, nLc, nLc2, nCall, nSorted, nRep, tOf, tAndJ, tOrJ, tNotJ, tTrue, iSeq, iR1, iR2, iR3, rg1, rg2, evA, pNo, pSo, startE, hide, rd, hide_v, hide_o, hide_n, rd_v, rd_o, rd_n, bind_one, bind_many, setAll, List.map, List.replicate, List.length, List.cons_append, List.nil_append, List.getElem?_cons_zero, List.getElem?_cons_succ, List.set_cons_zero, List.set_cons_succ, Option.bind_some, ex_some, Option.some.injEq, Slot.own.injEq, Slot.val.injEq, exists_eq_left', true_and, and_true, Bool.false_eq_true, if_false, if_true, reduceIte, wEq, wNe, wAdd_i, wAdd_t, wAdd_l, wAdd_s, wSub_i, wMul_i, wDiv_i, wMod_i, wPow_i, wNeg_i, wLt_i, wLe_i, wGt_i, wGe_i, wIs_n, wIs_b, wIsNot_n, wIsNot_b, wIx_l, wIx_t, wLen_l, wLen_t, wAbs_i, wInt_i, wInt_b, wMax2_i, wMin2_i, wTuple_l, wTuple_t, wB_b, wI_i, seqOf_l, seqOf_t, wIAdd_i, wIAdd_t, wIMul_i, wSl_l, wSl_t, wIn_l, wIn_t, wNotIn_l, wNotIn_t, items_l, items_t, lv_i, lv_b, lv_n, eqv_ii, eqv_bb, isNon_n, isNon_i, isNon_b, isNon_s, isNon_t, isNon_l, Bool.not_true, Bool.not_false, b2n_t, b2n_f, pl_i, pl_b, pl_n, decide_eq_true_eq]
    refine ⟨1, rfl, by decide, _, rfl, by decide +kernel, ?_⟩
    simp only [sSeq, sSkip, sAsg, sAsgP, sNew, sNewP, sRet, sRetO, sIf, sApp, sAppP, sSet, sAug, sTgt, sTgtP, sPar, sFz, frz, sFor, sForR, sRev, sBrk, sCnt, sDrop, eOp, eUn, eCall, eVar, eC, eFr, eTup, eTupR, eAnd, eOr, eNot, eIf, eChain, eIndex, eSl, nLst, nList, nListR, nLc, nLc2, nCall, nSorted, nRep, tOf, tAndJ, tOrJ, tNotJ, tTrue, iSeq, iR1, iR2, iR3, rg1, rg2, evA, pNo, pSo, startE, hide, rd, hide_v, hide_o, hide_n, rd_v, rd_o, rd_n, bind_one, bind_many, setAll, List.map, List.replicate, List.length, List.cons_append, List.nil_append, List.getElem?_cons_zero, List.getElem?_cons_succ, List.set_cons_zero, List.set_cons_succ, Option.bind_some, ex_some, Option.some.injEq, Slot.own.injEq, Slot.val.injEq, exists_eq_left', true_and, and_true, Bool.false_eq_true, if_false, if_true, reduceIte, wEq, wNe, wAdd_i, wAdd_t, wAdd_l, wAdd_s, wSub_i, wMul_i, wDiv_i, wMod_i, wPow_i, wNeg_i, wLt_i, wLe_i, wGt_i, wGe_i, wIs_n, wIs_b, wIsNot_n, wIsNot_b, wIx_l, wIx_t, wLen_l, wLen_t, wAbs_i, wInt_i, wInt_b, wMax2_i, wMin2_i, wTuple_l, wTuple_t, wB_b, wI_i, seqOf_l, seqOf_t, wIAdd_i, wIAdd_t, wIMul_i, wSl_l, wSl_t, wIn_l, wIn_t, wNotIn_l, wNotIn_t, items_l, items_t, lv_i, lv_b, lv_n, eqv_ii, eqv_bb, isNon_n, isNon_i, isNon_b, isNon_s, isNon_t, isNon_l, Bool.not_true, Bool.not_false, b2n_t, b2n_f, pl_i, pl_b, pl_n, decide_eq_true_eq]
    refine ⟨1, rfl, by decide, _, rfl, by decide +kernel, ?_⟩
    simp only [sSeq, sSkip, sAsg, sAsgP, sNew, sNewP, sRet, sRetO, sIf, sApp, sAppP, sSet, sAug, sTgt, sTgtP, sPar, sFz, frz, sFor, sForR, sRev, sBrk, sCnt, sDrop, eOp, eUn, eCall, eVar, eC, eFr, eTup, eTupR, eAnd, eOr, eNot, eIf, eChain, eIndex, eSl, nLst, nList, nListR, nLc, nLc2, nCall, nSorted, nRep, tOf, tAndJ, tOrJ, tNotJ, tTrue, iSeq, iR1, iR2, iR3, rg1, rg2, evA, pNo, pSo, startE, hide, rd, hide_v, hide_o, hide_n, rd_v, rd_o, rd_n, bind_one, bind_many, setAll, List.map, List.replicate, List.length, List.cons_append, List.nil_append, List.getElem?_cons_zero, List.getElem?_cons_succ, List.set_cons_zero, List.set_cons_succ, Option.bind_some, ex_some, Option.some.injEq, Slot.own.injEq, Slot.val.injEq, exists_eq_left', true_and, and_true, Bool.false_eq_true, if_false, if_true, reduceIte, wEq, wNe, wAdd_i, wAdd_t, wAdd_l, wAdd_s, wSub_i, wMul_i, wDiv_i, wMod_i, wPow_i, wNeg_i, wLt_i, wLe_i, wGt_i, wGe_i, wIs_n, wIs_b, wIsNot_n, wIsNot_b, wIx_l, wIx_t, wLen_l, wLen_t, wAbs_i, wInt_i, wInt_b, wMax2_i, wMin2_i, wTuple_l, wTuple_t, wB_b, wI_i, seqOf_l, seqOf_t, wIAdd_i, wIAdd_t, wIMul_i, wSl_l, wSl_t, wIn_l, wIn_t, wNotIn_l, wNotIn_t, items_l, items_t, lv_i, lv_b, lv_n, eqv_ii, eqv_bb, isNon_n, isNon_i, isNon_b, isNon_s, isNon_t, isNon_l, Bool.not_true, Bool.not_false, b2n_t, b2n_f, pl_i, pl_b, pl_n, decide_eq_true_eq]
    unfold m_law_r12
    simp only [sSeq, sSkip, sAsg, sAsgP, sNew, sNewP, sRet, sRetO, sIf, sApp, sAppP, sSet, sAug, sTgt, sTgtP, sPar, sFz, frz, sFor, sForR, sRev, sBrk, sCnt, sDrop, eOp, eUn, eCall, eVar, eC, eFr, eTup, eTupR, eAnd, eOr, eNot, eIf, eChain, eIndex, eSl, nLst, nList, nListR, nLc, nLc2, nCall, nSorted, nRep, tOf, tAndJ, tOrJ, tNotJ, tTrue, iSeq, iR1, iR2, iR3, rg1, rg2, evA, pNo, pSo, startE, hide, rd, hide_v, hide_o, hide_n, rd_v, rd_o, rd_n, bind_one, bind_many, setAll, List.map, List.replicate, List.length, List.cons_append, List.nil_append, List.getElem?_cons_zero, List.getElem?_cons_succ, List.set_cons_zero, List.set_cons_succ, Option.bind_some, ex_some, Option.some.injEq, Slot.own.injEq, Slot.val.injEq, exists_eq_left', true_and, and_true, Bool.false_eq_true, if_false, if_true, reduceIte, wEq, wNe, wAdd_i, wAdd_t, wAdd_l, wAdd_s, wSub_i, wMul_i, wDiv_i, wMod_i, wPow_i, wNeg_i, wLt_i, wLe_i, wGt_i, wGe_i, wIs_n, wIs_b, wIsNot_n, wIsNot_b, wIx_l, wIx_t, wLen_l, wLen_t, wAbs_i, wInt_i, wInt_b, wMax2_i, wMin2_i, wTuple_l, wTuple_t, wB_b, wI_i, seqOf_l, seqOf_t, wIAdd_i, wIAdd_t, wIMul_i, wSl_l, wSl_t, wIn_l, wIn_t, wNotIn_l, wNotIn_t, items_l, items_t, lv_i, lv_b, lv_n, eqv_ii, eqv_bb, isNon_n, isNon_i, isNon_b, isNon_s, isNon_t, isNon_l, Bool.not_true, Bool.not_false, b2n_t, b2n_f, pl_i, pl_b, pl_n, decide_eq_true_eq]
    refine ⟨8, 0, 1, 0, 4, rfl, by decide, by decide +kernel, by decide +kernel, _, rfl, by decide +kernel, ?_⟩
    simp only [sSeq, sSkip, sAsg, sAsgP, sNew, sNewP, sRet, sRetO, sIf, sApp, sAppP, sSet, sAug, sTgt, sTgtP, sPar, sFz, frz, sFor, sForR, sRev, sBrk, sCnt, sDrop, eOp, eUn, eCall, eVar, eC, eFr, eTup, eTupR, eAnd, eOr, eNot, eIf, eChain, eIndex, eSl, nLst, nList, nListR, nLc, nLc2, nCall, nSorted, nRep, tOf, tAndJ, tOrJ, tNotJ, tTrue, iSeq, iR1, iR2, iR3, rg1, rg2, evA, pNo, pSo, startE, hide, rd, hide_v, hide_o, hide_n, rd_v, rd_o, rd_n, bind_one, bind_many, setAll, List.map, List.replicate, List.length, List.cons_append, List.nil_append, List.getElem?_cons_zero, List.getElem?_cons_succ, List.set_cons_zero, List.set_cons_succ, Option.bind_some, ex_some, Option.some.injEq, Slot.own.injEq, Slot.val.injEq, exists_eq_left', true_and, and_true, Bool.false_eq_true, if_false, if_true, reduceIte, wEq, wNe, wAdd_i, wAdd_t, wAdd_l, wAdd_s, wSub_i, wMul_i, wDiv_i, wMod_i, wPow_i, wNeg_i, wLt_i, wLe_i, wGt_i, wGe_i, wIs_n, wIs_b, wIsNot_n, wIsNot_b, wIx_l, wIx_t, wLen_l, wLen_t, wAbs_i, wInt_i, wInt_b, wMax2_i, wMin2_i, wTuple_l, wTuple_t, wB_b, wI_i, seqOf_l, seqOf_t, wIAdd_i, wIAdd_t, wIMul_i, wSl_l, wSl_t, wIn_l, wIn_t, wNotIn_l, wNotIn_t, items_l, items_t, lv_i, lv_b, lv_n, eqv_ii, eqv_bb, isNon_n, isNon_i, isNon_b, isNon_s, isNon_t, isNon_l, Bool.not_true, Bool.not_false, b2n_t, b2n_f, pl_i, pl_b, pl_n, decide_eq_true_eq]
    refine ⟨8, 0, 7, 0, 1, rfl, by decide, by decide +kernel, by decide +kernel, _, rfl, by decide +kernel, ?_⟩
    simp only [sSeq, sSkip, sAsg, sAsgP, sNew, sNewP, sRet, sRetO, sIf, sApp, sAppP, sSet, sAug, sTgt, sTgtP, sPar, sFz, frz, sFor, sForR, sRev, sBrk, sCnt, sDrop, eOp, eUn, eCall, eVar, eC, eFr, eTup, eTupR, eAnd, eOr, eNot, eIf, eChain, eIndex, eSl, nLst, nList, nListR, nLc, nLc2, nCall, nSorted, nRep, tOf, tAndJ, tOrJ, tNotJ, tTrue, iSeq, iR1, iR2, iR3, rg1, rg2, evA, pNo, pSo, startE, hide, rd, hide_v, hide_o, hide_n, rd_v, rd_o, rd_n, bind_one, bind_many, setAll, List.map, List.replicate, List.length, List.cons_append, List.nil_append, List.getElem?_cons_zero, List.getElem?_cons_succ, List.set_cons_zero, List.set_cons_succ, Option.bind_some, ex_some, Option.some.injEq, Slot.own.injEq, Slot.val.injEq, exists_eq_left', true_and, and_true, Bool.false_eq_true, if_false, if_true, reduceIte, wEq, wNe, wAdd_i, wAdd_t, wAdd_l, wAdd_s, wSub_i, wMul_i, wDiv_i, wMod_i, wPow_i, wNeg_i, wLt_i, wLe_i, wGt_i, wGe_i, wIs_n, wIs_b, wIsNot_n, wIsNot_b, wIx_l, wIx_t, wLen_l, wLen_t, wAbs_i, wInt_i, wInt_b, wMax2_i, wMin2_i, wTuple_l, wTuple_t, wB_b, wI_i, seqOf_l, seqOf_t, wIAdd_i, wIAdd_t, wIMul_i, wSl_l, wSl_t, wIn_l, wIn_t, wNotIn_l, wNotIn_t, items_l, items_t, lv_i, lv_b, lv_n, eqv_ii, eqv_bb, isNon_n, isNon_i, isNon_b, isNon_s, isNon_t, isNon_l, Bool.not_true, Bool.not_false, b2n_t, b2n_f, pl_i, pl_b, pl_n, decide_eq_true_eq]
    refine win3 ⟨_, rfl, by decide +kernel, ?_⟩
    exact q

end Lk75
namespace Lk75
open PySem PySem.Spec PyProof.Rows L2 J
def top (i : Nat) : Stmt := PySem.Challenge.pw_wordslit_k75_tables_of_battles.main.body.getD i (.Pass ⟨0, 0, 0, 0⟩)
structure Txt (mg : Str → Option Value) : Prop where
  b_len : mg "len" = none
  b_tuple : mg "tuple" = none
  b_range : mg "range" = none
  b_max : mg "max" = none
  b_int : mg "int" = none
  b_list : mg "list" = none
  b_abs : mg "abs" = none
  b_isinstance : mg "isinstance" = none
  b_bool : mg "bool" = none
  b_str : mg "str" = none
  b_min : mg "min" = none
  b_sum : mg "sum" = none
  b_sorted : mg "sorted" = none
abbrev s_rounds_of_battle : Stmt := top 1
abbrev N_rounds_of_battle : List Str := ["n", "rounds", "places"]
theorem sc_rounds_of_battle : FnScope N_rounds_of_battle ["n"] (defScope s_rounds_of_battle) := ⟨rfl, rfl, rfl, by decide +kernel, rfl, by decide +kernel, by decide +kernel⟩
abbrev s_table_of_seeds : Stmt := top 2
abbrev N_table_of_seeds : List Str := ["n", "table", "whole", "seed", "own"]
theorem sc_table_of_seeds : FnScope N_table_of_seeds ["n"] (defScope s_table_of_seeds) := ⟨rfl, rfl, rfl, by decide +kernel, rfl, by decide +kernel, by decide +kernel⟩
abbrev s_seeds_in_table : Stmt := top 3
abbrev N_seeds_in_table : List Str := ["n", "seed"]
theorem sc_seeds_in_table : FnScope N_seeds_in_table ["n"] (defScope s_seeds_in_table) := ⟨rfl, rfl, rfl, by decide +kernel, rfl, by decide +kernel, by decide +kernel⟩
abbrev s_first_pairs : Stmt := top 4
abbrev N_first_pairs : List Str := ["n", "table", "at"]
theorem sc_first_pairs : FnScope N_first_pairs ["n"] (defScope s_first_pairs) := ⟨rfl, rfl, rfl, by decide +kernel, rfl, by decide +kernel, by decide +kernel⟩
abbrev s_winner_of : Stmt := top 5
abbrev N_winner_of : List Str := ["n", "strengths"]
theorem sc_winner_of : FnScope N_winner_of ["n", "strengths"] (defScope s_winner_of) := ⟨rfl, rfl, rfl, by decide +kernel, rfl, by decide +kernel, by decide +kernel⟩
abbrev s_met_in_round : Stmt := top 6
abbrev N_met_in_round : List Str := ["n", "one", "other", "table", "rounds", "first", "second"]
theorem sc_met_in_round : FnScope N_met_in_round ["n", "one", "other"] (defScope s_met_in_round) := ⟨rfl, rfl, rfl, by decide +kernel, rfl, by decide +kernel, by decide +kernel⟩
abbrev s__law_draws : Stmt := top 8
abbrev N__law_draws : List Str := ["script", "many", "cells", "rest", "draws", "k", "at", "cell", "once"]
theorem sc__law_draws : FnScope N__law_draws ["script", "many"] (defScope s__law_draws) := ⟨rfl, rfl, rfl, by decide +kernel, rfl, by decide +kernel, by decide +kernel⟩
abbrev s__law_take : Stmt := top 9
abbrev N__law_take : List Str := ["draws", "many"]
theorem sc__law_take : FnScope N__law_take ["draws", "many"] (defScope s__law_take) := ⟨rfl, rfl, rfl, by decide +kernel, rfl, by decide +kernel, by decide +kernel⟩
abbrev s__law_cell : Stmt := top 10
abbrev N__law_cell : List Str := ["script", "at", "cell"]
theorem sc__law_cell : FnScope N__law_cell ["script", "at"] (defScope s__law_cell) := ⟨rfl, rfl, rfl, by decide +kernel, rfl, by decide +kernel, by decide +kernel⟩
abbrev s__law_same : Stmt := top 11
abbrev N__law_same : List Str := ["actual", "due", "k"]
theorem sc__law_same : FnScope N__law_same ["actual", "due"] (defScope s__law_same) := ⟨rfl, rfl, rfl, by decide +kernel, rfl, by decide +kernel, by decide +kernel⟩
abbrev s__law_table : Stmt := top 12
abbrev N__law_table : List Str := ["n", "table", "longer", "seed"]
theorem sc__law_table : FnScope N__law_table ["n"] (defScope s__law_table) := ⟨rfl, rfl, rfl, by decide +kernel, rfl, by decide +kernel, by decide +kernel⟩
abbrev s__law_played : Stmt := top 13
abbrev N__law_played : List Str := ["table", "strengths", "left", "rounds", "met", "later", "k", "seed", "one", "other", "first"]
theorem sc__law_played : FnScope N__law_played ["table", "strengths"] (defScope s__law_played) := ⟨rfl, rfl, rfl, by decide +kernel, rfl, by decide +kernel, by decide +kernel⟩
abbrev s__law_meet_right : Stmt := top 15
abbrev N__law_meet_right : List Str := ["draws", "n", "table", "k", "one", "other", "strengths", "due", "turn", "winner", "played", "seed"]
theorem sc__law_meet_right : FnScope N__law_meet_right ["draws", "n", "table"] (defScope s__law_meet_right) := ⟨rfl, rfl, rfl, by decide +kernel, rfl, by decide +kernel, by decide +kernel⟩
abbrev s__law_right : Stmt := top 14
abbrev N__law_right : List Str := ["draws", "n", "strengths", "table", "told", "rounds", "size", "best", "part", "winner", "played", "first", "own", "seed", "k", "met"]
theorem sc__law_right : FnScope N__law_right ["draws", "n", "strengths"] (defScope s__law_right) := ⟨rfl, rfl, rfl, by decide +kernel, rfl, by decide +kernel, by decide +kernel⟩
abbrev s_law : Stmt := top 16
abbrev N_law : List Str := ["script", "draws", "far", "k", "n", "strengths", "seed"]
theorem sc_law : FnScope N_law ["script"] (defScope s_law) := ⟨rfl, rfl, rfl, by decide +kernel, rfl, by decide +kernel, by decide +kernel⟩
section
variable {P : Program} {w : World} {K : PySem.W.Frag} {mg : Str → Option Value} {base : Heap}
theorem hb_rounds_of_battle {fa : Addr} (T : Txt mg)  : ∀ (cdv : Value) (A : Around) (outer : List Env) (s : Shared) (H : Hp) (E : XK), Room 0 (A.deeper (envOfC "rounds_of_battle" (defScope s_rounds_of_battle) s.heap.objs.size fa cdv)) → DSs (cxOf CX0 P w K mg base N_rounds_of_battle "rounds_of_battle" (defScope s_rounds_of_battle) fa cdv A outer s H E).nox (defBody s_rounds_of_battle) m_rounds_of_battle :=
  fun cdv A outer s H E hr => (ss_cons (s_tgt (d_tup (da_cons d_int (da_cons d_int da_nil))) (dg_tup rfl (dgs_cons 1 sc_rounds_of_battle.nd (dgs_cons 2 sc_rounds_of_battle.nd dgs_nil))))
      (ss_cons (s_while PassesOwn.never (dt_cmp (op_ltJ (hu65 hr)) (d_var 2) (d_var 0) (nomark _)) (ss_cons (s_aug 1 sc_rounds_of_battle.nd iop_addJ d_int)
      (ss_one (s_aug 2 sc_rounds_of_battle.nd iop_mulJ d_int))))
      (ss_one (s_ret (d_var 1)))))
theorem G_rounds_of_battle {fa : Addr} {fd : FuncData} (F : Fun K "rounds_of_battle" "rounds_of_battle" s_rounds_of_battle fa fd) (T : Txt mg)  : JFn P w K mg base 1 fa fd ["n"] S_rounds_of_battle := fn_j F sc_rounds_of_battle (hb_rounds_of_battle T ) fun ds QD _ h => wp_rounds_of_battle ds QD h
theorem hb_table_of_seeds {fa : Addr} (T : Txt mg)  : ∀ (cdv : Value) (A : Around) (outer : List Env) (s : Shared) (H : Hp) (E : XK), Room 0 (A.deeper (envOfC "table_of_seeds" (defScope s_table_of_seeds) s.heap.objs.size fa cdv)) → DSs (cxOf CX0 P w K mg base N_table_of_seeds "table_of_seeds" (defScope s_table_of_seeds) fa cdv A outer s H E).nox (defBody s_table_of_seeds) m_table_of_seeds :=
  fun cdv A outer s H E hr => (ss_cons (s_asg 1 sc_table_of_seeds.nd (d_of_n (n_lst (da_cons d_int da_nil))))
      (ss_cons (s_while PassesOwn.never (dt_cmp (op_ltJ (hu65 hr)) (d_callB call_lenJ rfl T.b_len boot_len (da_cons (d_var 1) da_nil)) (d_var 0) (nomark _)) (ss_cons (s_asg 2 sc_table_of_seeds.nd (d_op op_mulJ d_int (d_callB call_lenJ rfl T.b_len boot_len (da_cons (d_var 1) da_nil))))
      (ss_one (asgN_ok (ps_lc2 (i := 1) (own := [("seed", 3), ("own", 4)]) (vs1 := [4]) rfl sc_table_of_seeds.nd rfl rfl (sw_true rfl rfl rfl (by decide +kernel)) (di_seq (d_var 1)) (blkOk_by (N := N_table_of_seeds) (sc := defScope s_table_of_seeds) (by decide +kernel)) (by decide) (fun _ _ _ _ _ => (dg_name 3 sc_table_of_seeds.nd)) (fun _ _ _ _ _ => dts_nil) (fun _ _ _ _ _ => (di_seq (d_tup (da_cons (d_var 3) (da_cons (d_op op_subJ (d_op op_subJ (d_var 2) d_int) (d_var 3)) da_nil))))) (fun _ _ _ _ _ => (dg_name 4 sc_table_of_seeds.nd)) (fun _ _ _ _ _ => dts_nil) (fun _ _ _ _ _ => (d_var 4)) (by decide) (by decide) (by intro _; rfl) (by intro _ _; rfl))))))
      (ss_one (s_ret (d_var 1)))))
theorem G_table_of_seeds {fa : Addr} {fd : FuncData} (F : Fun K "table_of_seeds" "table_of_seeds" s_table_of_seeds fa fd) (T : Txt mg)  : JFn P w K mg base 1 fa fd ["n"] S_table_of_seeds := fn_j F sc_table_of_seeds (hb_table_of_seeds T ) fun ds QD _ h => wp_table_of_seeds ds QD h
theorem hb_seeds_in_table {fa : Addr} (T : Txt mg) {f_table_of_seeds : Addr} {fd_table_of_seeds : FuncData} (G_table_of_seeds : JFn P w K mg base 1 f_table_of_seeds fd_table_of_seeds ["n"] S_table_of_seeds) (R_table_of_seeds : Rf K mg "table_of_seeds" ["n"] f_table_of_seeds fd_table_of_seeds) : ∀ (cdv : Value) (A : Around) (outer : List Env) (s : Shared) (H : Hp) (E : XK), Room 1 (A.deeper (envOfC "seeds_in_table" (defScope s_seeds_in_table) s.heap.objs.size fa cdv)) → DSs (cxOf CX0 P w K mg base N_seeds_in_table "seeds_in_table" (defScope s_seeds_in_table) fa cdv A outer s H E).nox (defBody s_seeds_in_table) m_seeds_in_table :=
  fun cdv A outer s H E hr => (ss_one (s_ret (d_tuple rfl T.b_tuple (d_of_n (n_lc (own := [("seed", 1)]) rfl sc_seeds_in_table.nd (di_seq (d_fn G_table_of_seeds R_table_of_seeds (hr.mono (by decide)) rfl pass0 (da_cons (d_var 0) da_nil))) (blkOk_by (N := N_seeds_in_table) (sc := defScope s_seeds_in_table) (by decide +kernel)) (fun _ _ _ _ _ => (dg_name 1 sc_seeds_in_table.nd)) (fun _ _ _ _ _ => dts_nil) (fun _ _ _ _ _ => (d_if (dt_cmp (op_ltJ (hu65 hr)) (d_var 1) (d_var 0) (nomark _)) (d_var 1) d_non)))))))
theorem G_seeds_in_table {fa : Addr} {fd : FuncData} (F : Fun K "seeds_in_table" "seeds_in_table" s_seeds_in_table fa fd) (T : Txt mg) {f_table_of_seeds : Addr} {fd_table_of_seeds : FuncData} (G_table_of_seeds : JFn P w K mg base 1 f_table_of_seeds fd_table_of_seeds ["n"] S_table_of_seeds) (R_table_of_seeds : Rf K mg "table_of_seeds" ["n"] f_table_of_seeds fd_table_of_seeds) : JFn P w K mg base 2 fa fd ["n"] S_seeds_in_table := fn_j F sc_seeds_in_table (hb_seeds_in_table T G_table_of_seeds R_table_of_seeds) fun ds QD _ h => wp_seeds_in_table ds QD h
theorem hb_first_pairs {fa : Addr} (T : Txt mg) {f_seeds_in_table : Addr} {fd_seeds_in_table : FuncData} (G_seeds_in_table : JFn P w K mg base 2 f_seeds_in_table fd_seeds_in_table ["n"] S_seeds_in_table) (R_seeds_in_table : Rf K mg "seeds_in_table" ["n"] f_seeds_in_table fd_seeds_in_table) : ∀ (cdv : Value) (A : Around) (outer : List Env) (s : Shared) (H : Hp) (E : XK), Room 2 (A.deeper (envOfC "first_pairs" (defScope s_first_pairs) s.heap.objs.size fa cdv)) → DSs (cxOf CX0 P w K mg base N_first_pairs "first_pairs" (defScope s_first_pairs) fa cdv A outer s H E).nox (defBody s_first_pairs) m_first_pairs :=
  fun cdv A outer s H E hr => (ss_cons (s_asg 1 sc_first_pairs.nd (d_fn G_seeds_in_table R_seeds_in_table (hr.mono (by decide)) rfl pass0 (da_cons (d_var 0) da_nil)))
      (ss_one (s_ret (d_tuple rfl T.b_tuple (d_of_n (n_lc (own := [("at", 2)]) rfl sc_first_pairs.nd (di_a (dia_r3 rfl T.b_range d_int (d_op op_subJ (d_callB call_lenJ rfl T.b_len boot_len (da_cons (d_var 1) da_nil)) d_int) d_int (fun ha hb hc => pi_range3 rfl T.b_range (pa_cons ha (pa_cons hb (pa_cons hc pa_nil)))))) (blkOk_by (N := N_first_pairs) (sc := defScope s_first_pairs) (by decide +kernel)) (fun _ _ _ _ _ => (dg_name 2 sc_first_pairs.nd)) (fun _ _ _ _ _ => dts_nil) (fun _ _ _ _ _ => (d_tup (da_cons (d_ix (d_var 1) (d_var 2)) (da_cons (d_ix (d_var 1) (d_op op_addJ (d_var 2) d_int)) da_nil))))))))))
theorem G_first_pairs {fa : Addr} {fd : FuncData} (F : Fun K "first_pairs" "first_pairs" s_first_pairs fa fd) (T : Txt mg) {f_seeds_in_table : Addr} {fd_seeds_in_table : FuncData} (G_seeds_in_table : JFn P w K mg base 2 f_seeds_in_table fd_seeds_in_table ["n"] S_seeds_in_table) (R_seeds_in_table : Rf K mg "seeds_in_table" ["n"] f_seeds_in_table fd_seeds_in_table) : JFn P w K mg base 3 fa fd ["n"] S_first_pairs := fn_j F sc_first_pairs (hb_first_pairs T G_seeds_in_table R_seeds_in_table) fun ds QD _ h => wp_first_pairs ds QD h
theorem hb_winner_of {fa : Addr} (T : Txt mg)  : ∀ (cdv : Value) (A : Around) (outer : List Env) (s : Shared) (H : Hp) (E : XK), Room 0 (A.deeper (envOfC "winner_of" (defScope s_winner_of) s.heap.objs.size fa cdv)) → DSs (cxOf CX0 P w K mg base N_winner_of "winner_of" (defScope s_winner_of) fa cdv A outer s H E).nox (defBody s_winner_of) m_winner_of :=
  fun cdv A outer s H E hr => (ss_one (s_ret (d_index (hu65 hr) (d_var 1) (d_callB (call_max1J rfl (hu65 hr)) rfl T.b_max (by decide +kernel) (da_cons (d_var 1) da_nil)))))
theorem G_winner_of {fa : Addr} {fd : FuncData} (F : Fun K "winner_of" "winner_of" s_winner_of fa fd) (T : Txt mg)  : JFn P w K mg base 1 fa fd ["n", "strengths"] S_winner_of := fn_j F sc_winner_of (hb_winner_of T ) fun ds QD _ h => wp_winner_of ds QD h
theorem hb_met_in_round {fa : Addr} (T : Txt mg) {f_table_of_seeds : Addr} {fd_table_of_seeds : FuncData} (G_table_of_seeds : JFn P w K mg base 1 f_table_of_seeds fd_table_of_seeds ["n"] S_table_of_seeds) (R_table_of_seeds : Rf K mg "table_of_seeds" ["n"] f_table_of_seeds fd_table_of_seeds) : ∀ (cdv : Value) (A : Around) (outer : List Env) (s : Shared) (H : Hp) (E : XK), Room 1 (A.deeper (envOfC "met_in_round" (defScope s_met_in_round) s.heap.objs.size fa cdv)) → DSs (cxOf CX0 P w K mg base N_met_in_round "met_in_round" (defScope s_met_in_round) fa cdv A outer s H E).nox (defBody s_met_in_round) m_met_in_round :=
  fun cdv A outer s H E hr => (ss_cons (s_asg 3 sc_met_in_round.nd (d_fn G_table_of_seeds R_table_of_seeds (hr.mono (by decide)) rfl pass0 (da_cons (d_var 0) da_nil)))
      (ss_cons (s_par 5 6 rfl sc_met_in_round.nd (da_cons (d_index (hu65 hr) (d_var 3) (d_var 1)) (da_cons (d_index (hu65 hr) (d_var 3) (d_var 2)) da_nil)))
      (ss_cons (s_asg 4 sc_met_in_round.nd d_int)
      (ss_cons (s_while PassesOwn.never (dt_cmp (op_neJ (hu64 hr)) (d_var 5) (d_var 6) (nomark _)) (ss_cons (s_par 5 6 rfl sc_met_in_round.nd (da_cons (d_op op_divJ (d_var 5) d_int) (da_cons (d_op op_divJ (d_var 6) d_int) da_nil)))
      (ss_one (s_aug 4 sc_met_in_round.nd iop_addJ d_int))))
      (ss_one (s_ret (d_var 4)))))))
theorem G_met_in_round {fa : Addr} {fd : FuncData} (F : Fun K "met_in_round" "met_in_round" s_met_in_round fa fd) (T : Txt mg) {f_table_of_seeds : Addr} {fd_table_of_seeds : FuncData} (G_table_of_seeds : JFn P w K mg base 1 f_table_of_seeds fd_table_of_seeds ["n"] S_table_of_seeds) (R_table_of_seeds : Rf K mg "table_of_seeds" ["n"] f_table_of_seeds fd_table_of_seeds) : JFn P w K mg base 2 fa fd ["n", "one", "other"] S_met_in_round := fn_j F sc_met_in_round (hb_met_in_round T G_table_of_seeds R_table_of_seeds) fun ds QD _ h => wp_met_in_round ds QD h
theorem hb__law_draws {fa : Addr} (T : Txt mg)  : ∀ (cdv : Value) (A : Around) (outer : List Env) (s : Shared) (H : Hp) (E : XK), Room 0 (A.deeper (envOfC "_law_draws" (defScope s__law_draws) s.heap.objs.size fa cdv)) → DSs (cxOf CX0 P w K mg base N__law_draws "_law_draws" (defScope s__law_draws) fa cdv A outer s H E).nox (defBody s__law_draws) m_draws :=
  fun cdv A outer s H E hr => (ss_cons (new_ok (ps_lc (i := 2) (own := [("cell", 7)]) rfl sc__law_draws.nd rfl rfl (sw_true rfl rfl rfl (by decide +kernel)) (di_seq (d_var 0)) (blkOk_by (N := N__law_draws) (sc := defScope s__law_draws) (by decide +kernel)) (fun _ _ _ _ _ => (dg_name 7 sc__law_draws.nd)) (fun _ _ _ _ _ => dts_nil) (fun _ _ _ _ _ => (d_callTy call_intJ rfl T.b_int boot_int (da_cons (d_var 7) da_nil))) (by decide) (by intro _; rfl)))
      (ss_cons (s_if (dt_cmp (op_eqJ (hu64 hr)) (d_callB call_lenJ rfl T.b_len boot_len (da_cons (d_var 2) da_nil)) d_int (nomark _)) (ss_one (s_app 2 d_int)) ss_nil)
      (ss_cons (s_newP 3 sc__law_draws.nd (n_list rfl T.b_list (d_var 2)))
      (ss_cons (s_new 4 sc__law_draws.nd (n_lst da_nil))
      (ss_cons (s_forR PassesOwn.never rfl (dia_r1 rfl T.b_range (d_var 1)) (dg_name 5 sc__law_draws.nd) (ss_cons (s_asgP 6 sc__law_draws.nd (d_op op_modJ (d_var 5) (d_callB call_lenJ rfl T.b_len boot_len (da_cons (d_var 2) da_nil))))
      (ss_one (s_if (dt_w (dw_and (dt_cmp (op_geJ (hu65 hr)) (d_ix (d_var 2) (d_var 6)) (d_op op_powJ d_int d_int) (nomark _)) (dw_and1 (dt_cmp (op_gtJ (hu65 hr)) (d_ix (d_var 3) (d_var 6)) d_int (nomark _))))) (ss_cons (s_appP 4 (d_op op_modJ (d_callTy call_intJ rfl T.b_int boot_int (da_cons (d_ix (d_var 3) (d_var 6)) da_nil)) d_int))
      (ss_one (s_set 3 (d_var 6) (d_op op_divJ (d_ix (d_var 3) (d_var 6)) d_int)))) (ss_cons (s_asgP 8 sc__law_draws.nd (d_op op_modJ (d_callTy call_intJ rfl T.b_int boot_int (da_cons (d_op op_addJ (d_op op_addJ (d_op op_mulJ (d_ix (d_var 2) (d_var 6)) d_int) (d_op op_mulJ (d_var 5) d_int)) d_int) da_nil)) d_int))
      (ss_one (s_app 4 (d_op op_modJ (d_callTy call_intJ rfl T.b_int boot_int (da_cons (d_op op_addJ (d_op op_addJ (d_op op_mulJ (d_var 8) (d_var 8)) (d_op op_mulJ d_int (d_var 8))) (d_var 5)) da_nil)) d_int))))))))
      (ss_cons (s_rev 4)
      (ss_one (s_retO 4))))))))
theorem G__law_draws {fa : Addr} {fd : FuncData} (F : Fun K "_law_draws" "_law_draws" s__law_draws fa fd) (T : Txt mg)  : JFn P w K mg base 1 fa fd ["script", "many"] S__law_draws := pile_of (fnN_j F sc__law_draws (hb__law_draws T ) fun ds QD _ h => wp_draws ds QD h) draws_pile
theorem hb__law_take {fa : Addr} (T : Txt mg) : ∀ (cdv : Value) (A : Around) (outer : List Env) (s : Shared) (H : Hp) (E : XK), Room 0 (A.deeper (envOfC "_law_take" (defScope s__law_take) s.heap.objs.size fa cdv)) → PSs (cxOf CX0 P w K mg base N__law_take "_law_take" (defScope s__law_take) fa cdv A outer s H E).nox (defBody s__law_take) (tTake K) :=
  fun cdv A outer s H E hr => by
  refine pssW (pss_cons (ps_if (pt_cmpR op_eq (pe_callB call_len_seq rfl T.b_len boot_len (pa_cons (pv 0) pa_nil)) pe_int (nomark _)) (pss_one (ps_ret pe_int)) pss_nil)
    (pss_one (ps_ret (pe_op op_mod (pe_callTy call_int1 rfl T.b_int boot_int (pa_cons (pe_bm0 PySem.F.plainAttrs_list PySem.F.slot_list_pop PySem.F.type_list_pop mt_pop (pv 0)) pa_nil)) (pv 1))))) fun E σ H h => ?_
  obtain ⟨a, ns, n, rfl, ha, hns, hn, q0, q1⟩ := h
  refine ⟨_, rfl, ⟨a, ns.map V.int, rfl, .inl (SqL.of ha), rfl, ?_⟩⟩
  rw [dec_int, List.length_map]
  refine ⟨_, rfl, ?_⟩
  cases ns with
  | nil => exact q0 rfl
  | cons m ms =>
    rw [if_neg (by simp; omega)]
    obtain ⟨z, hz⟩ : ∃ z, (m :: ms)[(m :: ms).length - 1]? = some z := ⟨_, List.getElem?_eq_getElem (by simp)⟩
    refine ⟨_, rfl, .inl ⟨rfl, _, SqL.of ha⟩, a, _, .int z, rfl, rfl, ha, ?_, .inl ⟨_, rfl, _, rfl, z, n, rfl, rfl, hn, ?_⟩⟩
    · rw [List.length_map, List.getElem?_map, hz]
      rfl
    · rw [← List.map_dropLast]
      exact q1 z (hns z (List.mem_of_getElem? hz)) (by simp)
theorem G__law_take {fa : Addr} {fd : FuncData} (F : Fun K "_law_take" "_law_take" s__law_take fa fd) (T : Txt mg) : JFn P w K mg base 1 fa fd ["draws", "many"] S__law_take := take_j F sc__law_take (hb__law_take T)
theorem hb__law_cell {fa : Addr} (T : Txt mg)  : ∀ (cdv : Value) (A : Around) (outer : List Env) (s : Shared) (H : Hp) (E : XK), Room 0 (A.deeper (envOfC "_law_cell" (defScope s__law_cell) s.heap.objs.size fa cdv)) → DSs (cxOf CX0 P w K mg base N__law_cell "_law_cell" (defScope s__law_cell) fa cdv A outer s H E).nox (defBody s__law_cell) m_cell1 :=
  fun cdv A outer s H E hr => (ss_cons (s_if (dt_cmp (op_eqJ (hu64 hr)) (d_callB call_lenJ rfl T.b_len boot_len (da_cons (d_var 0) da_nil)) d_int (nomark _)) (ss_one (s_ret d_int)) ss_nil)
      (ss_cons (s_asg 2 sc__law_cell.nd (d_callTy call_intJ rfl T.b_int boot_int (da_cons (d_ix (d_var 0) (d_op op_modJ (d_callTy call_intJ rfl T.b_int boot_int (da_cons (d_var 1) da_nil)) (d_callB call_lenJ rfl T.b_len boot_len (da_cons (d_var 0) da_nil)))) da_nil)))
      (ss_one (s_ret (d_op op_mulJ (d_op op_modJ (d_callB call_absJ rfl T.b_abs (by decide +kernel) (da_cons (d_var 2) da_nil)) (d_op op_powJ d_int d_int)) (d_ix (d_of_n (n_lst (da_cons d_int (da_cons (d_un un_negJ d_int) da_nil)))) (d_callTy call_intJ rfl T.b_int boot_int (da_cons (d_cmp (op_ltJ (hu65 hr)) (d_var 2) d_int (nomark _)) da_nil))))))))
theorem G__law_cell {fa : Addr} {fd : FuncData} (F : Fun K "_law_cell" "_law_cell" s__law_cell fa fd) (T : Txt mg)  : JFn P w K mg base 1 fa fd ["script", "at"] S__law_cell := fn_j F sc__law_cell (hb__law_cell T ) fun ds QD _ h => wp_cell1 ds QD h
theorem hb__law_same {fa : Addr} {fd : FuncData} {k : Nat} {S : WL} (T : Txt mg) (G__law_same : JFn P w K mg base k fa fd ["actual", "due"] S) (R__law_same : Rf K mg "_law_same" ["actual", "due"] fa fd) : ∀ (cdv : Value) (A : Around) (outer : List Env) (s : Shared) (H : Hp) (E : XK), Room k (A.deeper (envOfC "_law_same" (defScope s__law_same) s.heap.objs.size fa cdv)) → DSs (cxOf CX0 P w K mg base N__law_same "_law_same" (defScope s__law_same) fa cdv A outer s H E).nox (defBody s__law_same) (m_same S) :=
  fun cdv A outer s H E hr => (ss_cons (s_if (dt_val (d_isi "bool" (by decide +kernel) (by decide +kernel) rfl T.b_isinstance rfl T.b_bool (d_var 1))) (ss_one (s_ret (d_and (d_isi "bool" (by decide +kernel) (by decide +kernel) rfl T.b_isinstance rfl T.b_bool (d_var 0)) (d_one (d_cmp (op_eqJ (hu64 hr)) (d_var 0) (d_var 1) (nomark _)))))) ss_nil)
      (ss_cons (s_if (dt_val (d_isi "int" (by decide +kernel) (by decide +kernel) rfl T.b_isinstance rfl T.b_int (d_var 1))) (ss_one (s_ret (d_and (d_isi "int" (by decide +kernel) (by decide +kernel) rfl T.b_isinstance rfl T.b_int (d_var 0)) (d_and (d_not (d_isi "bool" (by decide +kernel) (by decide +kernel) rfl T.b_isinstance rfl T.b_bool (d_var 0))) (d_one (d_cmp (op_eqJ (hu64 hr)) (d_var 0) (d_var 1) (nomark _))))))) ss_nil)
      (ss_cons (s_if (dt_val (d_isi "str" (by decide +kernel) (by decide +kernel) rfl T.b_isinstance rfl T.b_str (d_var 1))) (ss_one (s_ret (d_and (d_isi "str" (by decide +kernel) (by decide +kernel) rfl T.b_isinstance rfl T.b_str (d_var 0)) (d_one (d_cmp (op_eqJ (hu64 hr)) (d_var 0) (d_var 1) (nomark _)))))) ss_nil)
      (ss_cons (s_if (dt_cmp op_isJ (d_var 1) d_non (nomark _)) (ss_one (s_ret (d_cmp op_isJ (d_var 0) d_non (nomark _)))) ss_nil)
      (ss_cons (s_if (dt_w (dw_or (dt_not (dt_val (d_isi "tuple" (by decide +kernel) (by decide +kernel) rfl T.b_isinstance rfl T.b_tuple (d_var 0)))) (dw_or1 (dt_cmp (op_neJ (hu64 hr)) (d_callB call_lenJ rfl T.b_len boot_len (da_cons (d_var 0) da_nil)) (d_callB call_lenJ rfl T.b_len boot_len (da_cons (d_var 1) da_nil)) (nomark _))))) (ss_one (s_ret d_bl)) ss_nil)
      (ss_cons (s_forR PassesOwn.never rfl (dia_r1 rfl T.b_range (d_callB call_lenJ rfl T.b_len boot_len (da_cons (d_var 1) da_nil))) (dg_name 2 sc__law_same.nd) (ss_one (s_if (dt_not (dt_val (d_fn G__law_same R__law_same hr rfl pass0 (da_cons (d_ix (d_var 0) (d_var 2)) (da_cons (d_ix (d_var 1) (d_var 2)) da_nil))))) (ss_one (s_ret d_bl)) ss_nil)))
      (ss_one (s_ret d_bl))))))))
theorem G__law_same_n {fa : Addr} {fd : FuncData} (F : Fun K "_law_same" "_law_same" s__law_same fa fd) (T : Txt mg) (R : Rf K mg "_law_same" ["actual", "due"] fa fd) : ∀ n : Nat, JFn P w K mg base (n + 1) fa fd ["actual", "due"] (S_same n)
  | 0 => fn_j F sc__law_same (hb__law_same T no_j R) (fun ds QD _ h => wp_same 0 _ (fun m h => by cases h) ds QD h)
  | n + 1 => fn_j F sc__law_same (hb__law_same T (G__law_same_n F T R n) R) (fun ds QD _ h => wp_same (n + 1) _ (fun m h => by cases h; exact fun _ _ h => h) ds QD h)
theorem G__law_same {fa : Addr} {fd : FuncData} (F : Fun K "_law_same" "_law_same" s__law_same fa fd) (T : Txt mg) (R : Rf K mg "_law_same" ["actual", "due"] fa fd) : JFn P w K mg base 9 fa fd ["actual", "due"] S__law_same := G__law_same_n F T R 8
theorem hb__law_table {fa : Addr} (T : Txt mg)  : ∀ (cdv : Value) (A : Around) (outer : List Env) (s : Shared) (H : Hp) (E : XK), Room 0 (A.deeper (envOfC "_law_table" (defScope s__law_table) s.heap.objs.size fa cdv)) → DSs (cxOf CX0 P w K mg base N__law_table "_law_table" (defScope s__law_table) fa cdv A outer s H E).nox (defBody s__law_table) m__law_table :=
  fun cdv A outer s H E hr => (ss_cons (s_asg 1 sc__law_table.nd (d_of_n (n_lst (da_cons d_int da_nil))))
      (ss_cons (s_while PassesOwn.never (dt_cmp (op_ltJ (hu65 hr)) (d_callB call_lenJ rfl T.b_len boot_len (da_cons (d_var 1) da_nil)) (d_var 0) (nomark _)) (ss_cons (s_new 2 sc__law_table.nd (n_lst da_nil))
      (ss_cons (s_for PassesOwn.never rfl (di_seq (d_var 1)) (dg_name 3 sc__law_table.nd) (ss_cons (s_app 2 (d_var 3))
      (ss_one (s_app 2 (d_op op_subJ (d_op op_subJ (d_op op_mulJ d_int (d_callB call_lenJ rfl T.b_len boot_len (da_cons (d_var 1) da_nil))) d_int) (d_var 3))))))
      (ss_one (s_fz 2 (s_asg 1 sc__law_table.nd (d_var 2)))))))
      (ss_one (s_ret (d_var 1)))))
theorem G__law_table {fa : Addr} {fd : FuncData} (F : Fun K "_law_table" "_law_table" s__law_table fa fd) (T : Txt mg)  : JFn P w K mg base 1 fa fd ["n"] S__law_table := fn_j F sc__law_table (hb__law_table T ) fun ds QD _ h => wp__law_table ds QD h
theorem hb__law_played {fa : Addr} (T : Txt mg)  : ∀ (cdv : Value) (A : Around) (outer : List Env) (s : Shared) (H : Hp) (E : XK), Room 0 (A.deeper (envOfC "_law_played" (defScope s__law_played) s.heap.objs.size fa cdv)) → DSs (cxOf CX0 P w K mg base N__law_played "_law_played" (defScope s__law_played) fa cdv A outer s H E).nox (defBody s__law_played) m__law_played :=
  fun cdv A outer s H E hr => (ss_cons (asgN_ok (ps_lc (i := 2) (own := [("seed", 7)]) rfl sc__law_played.nd rfl rfl (sw_true rfl rfl rfl (by decide +kernel)) (di_seq (d_var 0)) (blkOk_by (N := N__law_played) (sc := defScope s__law_played) (by decide +kernel)) (fun _ _ _ _ _ => (dg_name 7 sc__law_played.nd)) (fun _ _ _ _ _ => dts_nil) (fun _ _ _ _ _ => (d_var 7)) (by decide) (by intro _; rfl)))
      (ss_cons (s_new 3 sc__law_played.nd (n_lst da_nil))
      (ss_cons (s_while PassesOwn.never (dt_cmp (op_gtJ (hu65 hr)) (d_callB call_lenJ rfl T.b_len boot_len (da_cons (d_var 2) da_nil)) d_int (nomark _)) (ss_cons (s_new 4 sc__law_played.nd (n_lst da_nil))
      (ss_cons (s_new 5 sc__law_played.nd (n_lst da_nil))
      (ss_cons (s_forR PassesOwn.never rfl (dia_r3 rfl T.b_range d_int (d_callB call_lenJ rfl T.b_len boot_len (da_cons (d_var 2) da_nil)) d_int (fun ha hb hc => pi_range3 rfl T.b_range (pa_cons ha (pa_cons hb (pa_cons hc pa_nil))))) (dg_name 6 sc__law_played.nd) (ss_cons (s_asg 8 sc__law_played.nd (d_ix (d_var 2) (d_var 6)))
      (ss_cons (s_asg 9 sc__law_played.nd (d_ix (d_var 2) (d_op op_addJ (d_var 6) d_int)))
      (ss_one (s_if (dt_w (dw_or (dt_cmp op_isJ (d_var 8) d_non (nomark _)) (dw_or1 (dt_cmp op_isJ (d_var 9) d_non (nomark _))))) (ss_one (s_app 5 (d_ix (d_of_n (n_lst (da_cons (d_var 8) (da_cons (d_var 9) da_nil)))) (d_callTy call_intJ rfl T.b_int boot_int (da_cons (d_cmp op_isJ (d_var 8) d_non (nomark _)) da_nil))))) (ss_cons (s_app 4 (d_tup (da_cons (d_callB (call_min2J rfl) rfl T.b_min (by decide +kernel) (da_cons (d_var 8) (da_cons (d_var 9) da_nil))) (da_cons (d_callB (call_max2J rfl) rfl T.b_max (by decide +kernel) (da_cons (d_var 8) (da_cons (d_var 9) da_nil))) da_nil))))
      (ss_cons (s_asg 10 sc__law_played.nd (d_callB (call_min2J rfl) rfl T.b_min (by decide +kernel) (da_cons (d_var 8) (da_cons (d_var 9) da_nil))))
      (ss_cons (s_if (dt_cmp (op_gtJ (hu65 hr)) (d_ix (d_var 1) (d_callB (call_max2J rfl) rfl T.b_max (by decide +kernel) (da_cons (d_var 8) (da_cons (d_var 9) da_nil)))) (d_ix (d_var 1) (d_var 10)) (nomark _)) (ss_one (s_asg 10 sc__law_played.nd (d_callB (call_max2J rfl) rfl T.b_max (by decide +kernel) (da_cons (d_var 8) (da_cons (d_var 9) da_nil))))) ss_nil)
      (ss_one (s_app 5 (d_var 10)))))))))))
      (ss_cons (s_fz 4 (s_app 3 (d_var 4)))
      (ss_one (s_fz 5 (s_asg 2 sc__law_played.nd (d_var 5)))))))))
      (ss_one (s_ret (d_tup (da_cons (d_ix (d_var 2) d_int) (da_cons (d_var 3) da_nil))))))))
theorem G__law_played {fa : Addr} {fd : FuncData} (F : Fun K "_law_played" "_law_played" s__law_played fa fd) (T : Txt mg)  : JFn P w K mg base 1 fa fd ["table", "strengths"] S__law_played := fn_j F sc__law_played (hb__law_played T ) fun ds QD _ h => wp__law_played ds QD h
theorem hb__law_meet_right {fa : Addr} (T : Txt mg) {f__law_take : Addr} {fd__law_take : FuncData} (G__law_take : JFn P w K mg base 1 f__law_take fd__law_take ["draws", "many"] S__law_take) (R__law_take : Rf K mg "_law_take" ["draws", "many"] f__law_take fd__law_take) {f__law_played : Addr} {fd__law_played : FuncData} (G__law_played : JFn P w K mg base 1 f__law_played fd__law_played ["table", "strengths"] S__law_played) (R__law_played : Rf K mg "_law_played" ["table", "strengths"] f__law_played fd__law_played) {f__law_same : Addr} {fd__law_same : FuncData} (G__law_same : JFn P w K mg base 9 f__law_same fd__law_same ["actual", "due"] S__law_same) (R__law_same : Rf K mg "_law_same" ["actual", "due"] f__law_same fd__law_same) {f_met_in_round : Addr} {fd_met_in_round : FuncData} (G_met_in_round : JFn P w K mg base 2 f_met_in_round fd_met_in_round ["n", "one", "other"] S_met_in_round) (R_met_in_round : Rf K mg "met_in_round" ["n", "one", "other"] f_met_in_round fd_met_in_round) : ∀ (cdv : Value) (A : Around) (outer : List Env) (s : Shared) (H : Hp) (E : XK), Room 9 (A.deeper (envOfC "_law_meet_right" (defScope s__law_meet_right) s.heap.objs.size fa cdv)) → DSs (cxOf CX0 P w K mg base N__law_meet_right "_law_meet_right" (defScope s__law_meet_right) fa cdv A outer s H E).nox (defBody s__law_meet_right) m__law_meet_right :=
  fun cdv A outer s H E hr => (ss_cons (s_forR PassesOwn.never rfl (dia_r1 rfl T.b_range (d_op op_mulJ d_int (d_callTy call_intJ rfl T.b_int boot_int (da_cons (d_cmp (op_gtJ (hu65 hr)) (d_var 1) d_int (nomark _)) da_nil)))) (dg_name 3 sc__law_meet_right.nd) (ss_cons (s_asg 4 sc__law_meet_right.nd (d_fn G__law_take R__law_take (hr.mono (by decide)) rfl pass0 (da_cons (d_var 0) (da_cons (d_var 1) da_nil))))
      (ss_cons (s_asg 5 sc__law_meet_right.nd (d_op op_modJ (d_callTy call_intJ rfl T.b_int boot_int (da_cons (d_op op_addJ (d_op op_addJ (d_var 4) d_int) (d_fn G__law_take R__law_take (hr.mono (by decide)) rfl pass0 (da_cons (d_var 0) (da_cons (d_op op_subJ (d_var 1) d_int) da_nil)))) da_nil)) (d_var 1)))
      (ss_cons (new_ok (ps_lc (i := 6) (own := [("seed", 11)]) rfl sc__law_meet_right.nd rfl rfl (sw_true rfl rfl rfl (by decide +kernel)) (di_a (dia_r1 rfl T.b_range (d_var 1))) (blkOk_by (N := N__law_meet_right) (sc := defScope s__law_meet_right) (by decide +kernel)) (fun _ _ _ _ _ => (dg_name 11 sc__law_meet_right.nd)) (fun _ _ _ _ _ => dts_nil) (fun _ _ _ _ _ => d_int) (by decide) (by intro _; rfl)))
      (ss_cons (s_set 6 (d_var 4) d_int)
      (ss_cons (s_set 6 (d_var 5) d_int)
      (ss_cons (s_fz 6 (s_tgt (d_fn G__law_played R__law_played (hr.mono (by decide)) rfl pass0 (da_cons (d_of_n (n_lc (own := [("seed", 11)]) rfl sc__law_meet_right.nd (di_seq (d_var 2)) (blkOk_by (N := N__law_meet_right) (sc := defScope s__law_meet_right) (by decide +kernel)) (fun _ _ _ _ _ => (dg_name 11 sc__law_meet_right.nd)) (fun _ _ _ _ _ => dts_nil) (fun _ _ _ _ _ => (d_ix (d_of_n (n_lst (da_cons (d_var 11) (da_cons d_non da_nil)))) (d_callTy call_intJ rfl T.b_int boot_int (da_cons (d_cmp (op_geJ (hu65 hr)) (d_var 11) (d_var 1) (nomark _)) da_nil)))))) (da_cons (d_var 6) da_nil))) (dg_tup rfl (dgs_cons 9 sc__law_meet_right.nd (dgs_cons 10 sc__law_meet_right.nd dgs_nil)))))
      (ss_cons (s_asg 7 sc__law_meet_right.nd d_non)
      (ss_cons (s_forR PassesOwn.never rfl (dia_r1 rfl T.b_range (d_callB call_lenJ rfl T.b_len boot_len (da_cons (d_var 10) da_nil))) (dg_name 8 sc__law_meet_right.nd) (ss_one (s_if (dt_cmp (op_inJ (hu65 hr)) (d_tup (da_cons (d_callB (call_min2J rfl) rfl T.b_min (by decide +kernel) (da_cons (d_var 4) (da_cons (d_var 5) da_nil))) (da_cons (d_callB (call_max2J rfl) rfl T.b_max (by decide +kernel) (da_cons (d_var 4) (da_cons (d_var 5) da_nil))) da_nil))) (d_ix (d_var 10) (d_var 8)) (by rfl)) (ss_one (s_asg 7 sc__law_meet_right.nd (d_op op_addJ (d_var 8) d_int))) ss_nil)))
      (ss_one (s_if (dt_w (dw_or (dt_cmp (op_neJ (hu64 hr)) (d_var 9) (d_var 4) (nomark _)) (dw_or (dt_not (dt_val (d_fn G__law_same R__law_same (hr.mono (by decide)) rfl pass0 (da_cons (d_fn G_met_in_round R_met_in_round (hr.mono (by decide)) rfl pass0 (da_cons (d_var 1) (da_cons (d_var 4) (da_cons (d_var 5) da_nil)))) (da_cons (d_var 7) da_nil))))) (dw_or1 (dt_not (dt_val (d_fn G__law_same R__law_same (hr.mono (by decide)) rfl pass0 (da_cons (d_fn G_met_in_round R_met_in_round (hr.mono (by decide)) rfl pass0 (da_cons (d_var 1) (da_cons (d_var 5) (da_cons (d_var 4) da_nil)))) (da_cons (d_var 7) da_nil))))))))) (ss_one (s_ret d_bl)) ss_nil)))))))))))
      (ss_one (s_ret d_bl)))
theorem G__law_meet_right {fa : Addr} {fd : FuncData} (F : Fun K "_law_meet_right" "_law_meet_right" s__law_meet_right fa fd) (T : Txt mg) {f__law_take : Addr} {fd__law_take : FuncData} (G__law_take : JFn P w K mg base 1 f__law_take fd__law_take ["draws", "many"] S__law_take) (R__law_take : Rf K mg "_law_take" ["draws", "many"] f__law_take fd__law_take) {f__law_played : Addr} {fd__law_played : FuncData} (G__law_played : JFn P w K mg base 1 f__law_played fd__law_played ["table", "strengths"] S__law_played) (R__law_played : Rf K mg "_law_played" ["table", "strengths"] f__law_played fd__law_played) {f__law_same : Addr} {fd__law_same : FuncData} (G__law_same : JFn P w K mg base 9 f__law_same fd__law_same ["actual", "due"] S__law_same) (R__law_same : Rf K mg "_law_same" ["actual", "due"] f__law_same fd__law_same) {f_met_in_round : Addr} {fd_met_in_round : FuncData} (G_met_in_round : JFn P w K mg base 2 f_met_in_round fd_met_in_round ["n", "one", "other"] S_met_in_round) (R_met_in_round : Rf K mg "met_in_round" ["n", "one", "other"] f_met_in_round fd_met_in_round) : JFn P w K mg base 10 fa fd ["draws", "n", "table"] S__law_meet_right := fn_j F sc__law_meet_right (hb__law_meet_right T G__law_take R__law_take G__law_played R__law_played G__law_same R__law_same G_met_in_round R_met_in_round) fun ds QD _ h => wp__law_meet_right ds QD h
theorem hb__law_right {fa : Addr} (T : Txt mg) {f__law_table : Addr} {fd__law_table : FuncData} (G__law_table : JFn P w K mg base 1 f__law_table fd__law_table ["n"] S__law_table) (R__law_table : Rf K mg "_law_table" ["n"] f__law_table fd__law_table) {f__law_same : Addr} {fd__law_same : FuncData} (G__law_same : JFn P w K mg base 9 f__law_same fd__law_same ["actual", "due"] S__law_same) (R__law_same : Rf K mg "_law_same" ["actual", "due"] f__law_same fd__law_same) {f_rounds_of_battle : Addr} {fd_rounds_of_battle : FuncData} (G_rounds_of_battle : JFn P w K mg base 1 f_rounds_of_battle fd_rounds_of_battle ["n"] S_rounds_of_battle) (R_rounds_of_battle : Rf K mg "rounds_of_battle" ["n"] f_rounds_of_battle fd_rounds_of_battle) {f_seeds_in_table : Addr} {fd_seeds_in_table : FuncData} (G_seeds_in_table : JFn P w K mg base 2 f_seeds_in_table fd_seeds_in_table ["n"] S_seeds_in_table) (R_seeds_in_table : Rf K mg "seeds_in_table" ["n"] f_seeds_in_table fd_seeds_in_table) {f_first_pairs : Addr} {fd_first_pairs : FuncData} (G_first_pairs : JFn P w K mg base 3 f_first_pairs fd_first_pairs ["n"] S_first_pairs) (R_first_pairs : Rf K mg "first_pairs" ["n"] f_first_pairs fd_first_pairs) {f__law_played : Addr} {fd__law_played : FuncData} (G__law_played : JFn P w K mg base 1 f__law_played fd__law_played ["table", "strengths"] S__law_played) (R__law_played : Rf K mg "_law_played" ["table", "strengths"] f__law_played fd__law_played) {f_winner_of : Addr} {fd_winner_of : FuncData} (G_winner_of : JFn P w K mg base 1 f_winner_of fd_winner_of ["n", "strengths"] S_winner_of) (R_winner_of : Rf K mg "winner_of" ["n", "strengths"] f_winner_of fd_winner_of) {f__law_meet_right : Addr} {fd__law_meet_right : FuncData} (G__law_meet_right : JFn P w K mg base 10 f__law_meet_right fd__law_meet_right ["draws", "n", "table"] S__law_meet_right) (R__law_meet_right : Rf K mg "_law_meet_right" ["draws", "n", "table"] f__law_meet_right fd__law_meet_right) : ∀ (cdv : Value) (A : Around) (outer : List Env) (s : Shared) (H : Hp) (E : XK), Room 10 (A.deeper (envOfC "_law_right" (defScope s__law_right) s.heap.objs.size fa cdv)) → DSs (cxOf CX0 P w K mg base N__law_right "_law_right" (defScope s__law_right) fa cdv A outer s H E).nox (defBody s__law_right) m__law_right :=
  fun cdv A outer s H E hr => (ss_cons (s_asg 3 sc__law_right.nd (d_fn G__law_table R__law_table (hr.mono (by decide)) rfl pass0 (da_cons (d_var 1) da_nil)))
      (ss_cons (s_asg 4 sc__law_right.nd (d_tuple rfl T.b_tuple (d_of_n (n_lc (own := [("seed", 13)]) rfl sc__law_right.nd (di_seq (d_var 3)) (blkOk_by (N := N__law_right) (sc := defScope s__law_right) (by decide +kernel)) (fun _ _ _ _ _ => (dg_name 13 sc__law_right.nd)) (fun _ _ _ _ _ => dts_nil) (fun _ _ _ _ _ => (d_ix (d_of_n (n_lst (da_cons (d_var 13) (da_cons d_non da_nil)))) (d_callTy call_intJ rfl T.b_int boot_int (da_cons (d_cmp (op_geJ (hu65 hr)) (d_var 13) (d_var 1) (nomark _)) da_nil))))))))
      (ss_cons (s_asg 5 sc__law_right.nd d_int)
      (ss_cons (s_asg 6 sc__law_right.nd d_int)
      (ss_cons (s_while PassesOwn.never (dt_cmp (op_ltJ (hu65 hr)) (d_var 6) (d_var 1) (nomark _)) (ss_cons (s_asg 6 sc__law_right.nd (d_op op_mulJ d_int (d_var 6)))
      (ss_one (s_asg 5 sc__law_right.nd (d_op op_addJ (d_var 5) d_int)))))
      (ss_cons (s_if (dt_w (dw_or (dt_not (dt_val (d_fn G__law_same R__law_same (hr.mono (by decide)) rfl pass0 (da_cons (d_fn G_rounds_of_battle R_rounds_of_battle (hr.mono (by decide)) rfl pass0 (da_cons (d_var 1) da_nil)) (da_cons (d_var 5) da_nil))))) (dw_or (dt_not (dt_val (d_fn G__law_same R__law_same (hr.mono (by decide)) rfl pass0 (da_cons (d_fn G_seeds_in_table R_seeds_in_table (hr.mono (by decide)) rfl pass0 (da_cons (d_var 1) da_nil)) (da_cons (d_var 4) da_nil))))) (dw_or1 (dt_cmp (op_neJ (hu64 hr)) (d_callB call_lenJ rfl T.b_len boot_len (da_cons (d_var 4) da_nil)) (d_var 6) (nomark _)))))) (ss_one (s_ret d_bl)) ss_nil)
      (ss_cons (s_if (dt_not (dt_val (d_fn G__law_same R__law_same (hr.mono (by decide)) rfl pass0 (da_cons (d_fn G_first_pairs R_first_pairs (hr.mono (by decide)) rfl pass0 (da_cons (d_var 1) da_nil)) (da_cons (d_tuple rfl T.b_tuple (d_of_n (n_lc (own := [("k", 14)]) rfl sc__law_right.nd (di_a (dia_r3 rfl T.b_range d_int (d_op op_subJ (d_var 6) d_int) d_int (fun ha hb hc => pi_range3 rfl T.b_range (pa_cons ha (pa_cons hb (pa_cons hc pa_nil)))))) (blkOk_by (N := N__law_right) (sc := defScope s__law_right) (by decide +kernel)) (fun _ _ _ _ _ => (dg_name 14 sc__law_right.nd)) (fun _ _ _ _ _ => dts_nil) (fun _ _ _ _ _ => (d_tup (da_cons (d_ix (d_var 4) (d_var 14)) (da_cons (d_ix (d_var 4) (d_op op_addJ (d_var 14) d_int)) da_nil))))))) da_nil))))) (ss_one (s_ret d_bl)) ss_nil)
      (ss_cons (s_tgt (d_fn G__law_played R__law_played (hr.mono (by decide)) rfl pass0 (da_cons (d_var 4) (da_cons (d_var 2) da_nil))) (dg_tup rfl (dgs_cons 9 sc__law_right.nd (dgs_cons 10 sc__law_right.nd dgs_nil))))
      (ss_cons (s_if (dt_w (dw_or (dt_not (dt_val (d_fn G__law_same R__law_same (hr.mono (by decide)) rfl pass0 (da_cons (d_fn G_winner_of R_winner_of (hr.mono (by decide)) rfl pass0 (da_cons (d_var 1) (da_cons (d_var 2) da_nil))) (da_cons (d_var 9) da_nil))))) (dw_or1 (dt_cmp (op_neJ (hu64 hr)) (d_callB call_lenJ rfl T.b_len boot_len (da_cons (d_var 10) da_nil)) (d_var 5) (nomark _))))) (ss_one (s_ret d_bl)) ss_nil)
      (ss_cons (s_asg 7 sc__law_right.nd (d_fn G_winner_of R_winner_of (hr.mono (by decide)) rfl pass0 (da_cons (d_var 1) (da_cons (d_tuple rfl T.b_tuple (d_of_n (n_lc (own := [("seed", 13)]) rfl sc__law_right.nd (di_a (dia_r1 rfl T.b_range (d_var 1))) (blkOk_by (N := N__law_right) (sc := defScope s__law_right) (by decide +kernel)) (fun _ _ _ _ _ => (dg_name 13 sc__law_right.nd)) (fun _ _ _ _ _ => dts_nil) (fun _ _ _ _ _ => (d_op op_subJ (d_var 1) (d_var 13)))))) da_nil))))
      (ss_cons (s_if (dt_w (dw_or (dt_cmp (op_neJ (hu64 hr)) (d_var 7) d_int (nomark _)) (dw_or1 (dt_cmp (op_neJ (hu64 hr)) (d_callB (call_sumJ rfl) rfl T.b_sum (by decide +kernel) (da_cons (d_of_n (n_lc (own := [("met", 15)]) rfl sc__law_right.nd (di_seq (d_var 10)) (blkOk_by (N := N__law_right) (sc := defScope s__law_right) (by decide +kernel)) (fun _ _ _ _ _ => (dg_name 15 sc__law_right.nd)) (fun _ _ _ _ _ => dts_nil) (fun _ _ _ _ _ => (d_callB call_lenJ rfl T.b_len boot_len (da_cons (d_var 15) da_nil))))) da_nil)) (d_op op_subJ (d_var 1) d_int) (nomark _))))) (ss_one (s_ret d_bl)) ss_nil)
      (ss_cons (s_asg 8 sc__law_right.nd (d_var 6))
      (ss_cons (s_while PassesOwn.never (dt_cmp (op_gtJ (hu65 hr)) (d_var 8) d_int (nomark _)) (ss_cons (s_forR PassesOwn.never rfl (dia_r3 rfl T.b_range d_int (d_var 6) (d_var 8) (fun ha hb hc => pi_range3 rfl T.b_range (pa_cons ha (pa_cons hb (pa_cons hc pa_nil))))) (dg_name 11 sc__law_right.nd) (ss_cons (s_asg 12 sc__law_right.nd (d_of_n (n_sorted (hu65 hr) rfl T.b_sorted (d_sl (d_var 3) (dp_so (d_var 11)) (dp_so (d_op op_addJ (d_var 11) (d_var 8)))))))
      (ss_one (s_if (dt_cmp (op_neJ (hu64 hr)) (d_callB call_lenJ rfl T.b_len boot_len (da_cons (d_of_n (n_lc (own := [("seed", 13)]) rfl sc__law_right.nd (di_seq (d_var 12)) (blkOk_by (N := N__law_right) (sc := defScope s__law_right) (by decide +kernel)) (fun _ _ _ _ _ => (dg_name 13 sc__law_right.nd)) (fun _ _ _ _ _ => (dts_one (dt_cmp (op_ltJ (hu65 hr)) (d_var 13) (d_op op_divJ (d_var 6) (d_var 8)) (nomark _)))) (fun _ _ _ _ _ => (d_var 13)))) da_nil)) d_int (nomark _)) (ss_one (s_ret d_bl)) ss_nil))))
      (ss_one (s_asg 8 sc__law_right.nd (d_op op_divJ (d_var 8) d_int)))))
      (ss_one (s_ret (d_fn G__law_meet_right R__law_meet_right (hr.mono (by decide)) rfl pass0 (da_cons (d_var 0) (da_cons (d_var 1) (da_cons (d_var 3) da_nil)))))))))))))))))))
theorem G__law_right {fa : Addr} {fd : FuncData} (F : Fun K "_law_right" "_law_right" s__law_right fa fd) (T : Txt mg) {f__law_table : Addr} {fd__law_table : FuncData} (G__law_table : JFn P w K mg base 1 f__law_table fd__law_table ["n"] S__law_table) (R__law_table : Rf K mg "_law_table" ["n"] f__law_table fd__law_table) {f__law_same : Addr} {fd__law_same : FuncData} (G__law_same : JFn P w K mg base 9 f__law_same fd__law_same ["actual", "due"] S__law_same) (R__law_same : Rf K mg "_law_same" ["actual", "due"] f__law_same fd__law_same) {f_rounds_of_battle : Addr} {fd_rounds_of_battle : FuncData} (G_rounds_of_battle : JFn P w K mg base 1 f_rounds_of_battle fd_rounds_of_battle ["n"] S_rounds_of_battle) (R_rounds_of_battle : Rf K mg "rounds_of_battle" ["n"] f_rounds_of_battle fd_rounds_of_battle) {f_seeds_in_table : Addr} {fd_seeds_in_table : FuncData} (G_seeds_in_table : JFn P w K mg base 2 f_seeds_in_table fd_seeds_in_table ["n"] S_seeds_in_table) (R_seeds_in_table : Rf K mg "seeds_in_table" ["n"] f_seeds_in_table fd_seeds_in_table) {f_first_pairs : Addr} {fd_first_pairs : FuncData} (G_first_pairs : JFn P w K mg base 3 f_first_pairs fd_first_pairs ["n"] S_first_pairs) (R_first_pairs : Rf K mg "first_pairs" ["n"] f_first_pairs fd_first_pairs) {f__law_played : Addr} {fd__law_played : FuncData} (G__law_played : JFn P w K mg base 1 f__law_played fd__law_played ["table", "strengths"] S__law_played) (R__law_played : Rf K mg "_law_played" ["table", "strengths"] f__law_played fd__law_played) {f_winner_of : Addr} {fd_winner_of : FuncData} (G_winner_of : JFn P w K mg base 1 f_winner_of fd_winner_of ["n", "strengths"] S_winner_of) (R_winner_of : Rf K mg "winner_of" ["n", "strengths"] f_winner_of fd_winner_of) {f__law_meet_right : Addr} {fd__law_meet_right : FuncData} (G__law_meet_right : JFn P w K mg base 10 f__law_meet_right fd__law_meet_right ["draws", "n", "table"] S__law_meet_right) (R__law_meet_right : Rf K mg "_law_meet_right" ["draws", "n", "table"] f__law_meet_right fd__law_meet_right) : JFn P w K mg base 11 fa fd ["draws", "n", "strengths"] S__law_right := fn_j F sc__law_right (hb__law_right T G__law_table R__law_table G__law_same R__law_same G_rounds_of_battle R_rounds_of_battle G_seeds_in_table R_seeds_in_table G_first_pairs R_first_pairs G__law_played R__law_played G_winner_of R_winner_of G__law_meet_right R__law_meet_right) fun ds QD _ h => wp__law_right ds QD h
theorem hb_law {fa : Addr} (T : Txt mg) {f__law_draws : Addr} {fd__law_draws : FuncData} (G__law_draws : JFn P w K mg base 1 f__law_draws fd__law_draws ["script", "many"] S__law_draws) (R__law_draws : Rf K mg "_law_draws" ["script", "many"] f__law_draws fd__law_draws) {f__law_cell : Addr} {fd__law_cell : FuncData} (G__law_cell : JFn P w K mg base 1 f__law_cell fd__law_cell ["script", "at"] S__law_cell) (R__law_cell : Rf K mg "_law_cell" ["script", "at"] f__law_cell fd__law_cell) {f__law_take : Addr} {fd__law_take : FuncData} (G__law_take : JFn P w K mg base 1 f__law_take fd__law_take ["draws", "many"] S__law_take) (R__law_take : Rf K mg "_law_take" ["draws", "many"] f__law_take fd__law_take) {f__law_right : Addr} {fd__law_right : FuncData} (G__law_right : JFn P w K mg base 11 f__law_right fd__law_right ["draws", "n", "strengths"] S__law_right) (R__law_right : Rf K mg "_law_right" ["draws", "n", "strengths"] f__law_right fd__law_right) {f__law_same : Addr} {fd__law_same : FuncData} (G__law_same : JFn P w K mg base 9 f__law_same fd__law_same ["actual", "due"] S__law_same) (R__law_same : Rf K mg "_law_same" ["actual", "due"] f__law_same fd__law_same) {f_seeds_in_table : Addr} {fd_seeds_in_table : FuncData} (G_seeds_in_table : JFn P w K mg base 2 f_seeds_in_table fd_seeds_in_table ["n"] S_seeds_in_table) (R_seeds_in_table : Rf K mg "seeds_in_table" ["n"] f_seeds_in_table fd_seeds_in_table) {f_first_pairs : Addr} {fd_first_pairs : FuncData} (G_first_pairs : JFn P w K mg base 3 f_first_pairs fd_first_pairs ["n"] S_first_pairs) (R_first_pairs : Rf K mg "first_pairs" ["n"] f_first_pairs fd_first_pairs) {f_rounds_of_battle : Addr} {fd_rounds_of_battle : FuncData} (G_rounds_of_battle : JFn P w K mg base 1 f_rounds_of_battle fd_rounds_of_battle ["n"] S_rounds_of_battle) (R_rounds_of_battle : Rf K mg "rounds_of_battle" ["n"] f_rounds_of_battle fd_rounds_of_battle) {f_met_in_round : Addr} {fd_met_in_round : FuncData} (G_met_in_round : JFn P w K mg base 2 f_met_in_round fd_met_in_round ["n", "one", "other"] S_met_in_round) (R_met_in_round : Rf K mg "met_in_round" ["n", "one", "other"] f_met_in_round fd_met_in_round) {f_winner_of : Addr} {fd_winner_of : FuncData} (G_winner_of : JFn P w K mg base 1 f_winner_of fd_winner_of ["n", "strengths"] S_winner_of) (R_winner_of : Rf K mg "winner_of" ["n", "strengths"] f_winner_of fd_winner_of) : ∀ (cdv : Value) (A : Around) (outer : List Env) (s : Shared) (H : Hp) (E : XK), Room 11 (A.deeper (envOfC "law" (defScope s_law) s.heap.objs.size fa cdv)) → DSs (cxOf CX0 P w K mg base N_law "law" (defScope s_law) fa cdv A outer s H E).nox (defBody s_law) m_law :=
  fun cdv A outer s H E hr => (ss_cons (s_asg 1 sc_law.nd (d_fn G__law_draws R__law_draws (hr.mono (by decide)) rfl pass0 (da_cons (d_var 0) (da_cons d_int da_nil))))
      (ss_cons (s_asg 2 sc_law.nd (d_callB call_absJ rfl T.b_abs (by decide +kernel) (da_cons (d_fn G__law_cell R__law_cell (hr.mono (by decide)) rfl pass0 (da_cons (d_var 0) (da_cons (d_fn G__law_take R__law_take (hr.mono (by decide)) rfl pass0 (da_cons (d_var 1) (da_cons d_int da_nil))) da_nil))) da_nil)))
      (ss_cons (s_forR PassesOwn.never rfl (dia_r1 rfl T.b_range d_int) (dg_name 3 sc_law.nd) (ss_cons (s_asg 4 sc_law.nd (d_op op_addJ d_int (d_fn G__law_take R__law_take (hr.mono (by decide)) rfl pass0 (da_cons (d_var 1) (da_cons (d_ix (d_of_n (n_lst (da_cons d_int (da_cons d_int (da_cons d_int da_nil))))) (d_var 3)) da_nil)))))
      (ss_cons (s_if (dt_cmp (op_eqJ (hu64 hr)) (d_fn G__law_take R__law_take (hr.mono (by decide)) rfl pass0 (da_cons (d_var 1) (da_cons d_int da_nil))) d_int (nomark _)) (ss_one (s_asg 4 sc_law.nd (d_ix (d_of_n (n_lst (da_cons d_int (da_cons d_int (da_cons d_int (da_cons d_int (da_cons d_int (da_cons d_int (da_cons d_int (da_cons d_int (da_cons d_int (da_cons d_int (da_cons d_int (da_cons d_int (da_cons d_int (da_cons d_int (da_cons d_int da_nil))))))))))))))))) (d_fn G__law_take R__law_take (hr.mono (by decide)) rfl pass0 (da_cons (d_var 1) (da_cons d_int da_nil)))))) ss_nil)
      (ss_cons (s_asg 5 sc_law.nd (d_tuple rfl T.b_tuple (d_of_n (n_lc (own := [("seed", 6)]) rfl sc_law.nd (di_a (dia_r1 rfl T.b_range (d_var 4))) (blkOk_by (N := N_law) (sc := defScope s_law) (by decide +kernel)) (fun _ _ _ _ _ => (dg_name 6 sc_law.nd)) (fun _ _ _ _ _ => dts_nil) (fun _ _ _ _ _ => (d_op op_addJ (d_fn G__law_take R__law_take (hr.mono (by decide)) rfl pass0 (da_cons (d_var 1) (da_cons (d_ix (d_of_n (n_lst (da_cons d_int (da_cons d_int da_nil)))) (d_fn G__law_take R__law_take (hr.mono (by decide)) rfl pass0 (da_cons (d_var 1) (da_cons d_int da_nil)))) da_nil))) (d_op op_mulJ (d_var 2) (d_fn G__law_take R__law_take (hr.mono (by decide)) rfl pass0 (da_cons (d_var 1) (da_cons d_int da_nil))))))))))
      (ss_one (s_if (dt_not (dt_val (d_fn G__law_right R__law_right (hr.mono (by decide)) rfl pass0 (da_cons (d_var 1) (da_cons (d_var 4) (da_cons (d_var 5) da_nil)))))) (ss_one (s_ret d_bl)) ss_nil))))))
      (ss_cons (s_if (dt_w (dw_or (dt_not (dt_val (d_fn G__law_same R__law_same (hr.mono (by decide)) rfl pass0 (da_cons (d_fn G_seeds_in_table R_seeds_in_table (hr.mono (by decide)) rfl pass0 (da_cons d_int da_nil)) (da_cons (d_tup (da_cons d_int (da_cons d_int (da_cons d_int (da_cons d_int da_nil))))) da_nil))))) (dw_or (dt_not (dt_val (d_fn G__law_same R__law_same (hr.mono (by decide)) rfl pass0 (da_cons (d_fn G_seeds_in_table R_seeds_in_table (hr.mono (by decide)) rfl pass0 (da_cons d_int da_nil)) (da_cons (d_tup (da_cons d_int (da_cons d_non (da_cons d_int (da_cons d_int (da_cons d_int (da_cons d_non (da_cons d_int (da_cons d_int da_nil))))))))) da_nil))))) (dw_or1 (dt_not (dt_val (d_fn G__law_same R__law_same (hr.mono (by decide)) rfl pass0 (da_cons (d_fn G_first_pairs R_first_pairs (hr.mono (by decide)) rfl pass0 (da_cons d_int da_nil)) (da_cons (d_tup (da_cons (d_tup (da_cons d_int (da_cons d_non da_nil))) (da_cons (d_tup (da_cons d_int (da_cons d_int da_nil))) da_nil))) da_nil))))))))) (ss_one (s_ret d_bl)) ss_nil)
      (ss_cons (s_if (dt_w (dw_or (dt_not (dt_val (d_fn G__law_same R__law_same (hr.mono (by decide)) rfl pass0 (da_cons (d_fn G_seeds_in_table R_seeds_in_table (hr.mono (by decide)) rfl pass0 (da_cons d_int da_nil)) (da_cons (d_tup (da_cons d_int da_nil)) da_nil))))) (dw_or (dt_not (dt_val (d_fn G__law_same R__law_same (hr.mono (by decide)) rfl pass0 (da_cons (d_fn G_first_pairs R_first_pairs (hr.mono (by decide)) rfl pass0 (da_cons d_int da_nil)) (da_cons (d_tup da_nil) da_nil))))) (dw_or1 (dt_not (dt_val (d_fn G__law_same R__law_same (hr.mono (by decide)) rfl pass0 (da_cons (d_fn G_rounds_of_battle R_rounds_of_battle (hr.mono (by decide)) rfl pass0 (da_cons d_int da_nil)) (da_cons d_int da_nil))))))))) (ss_one (s_ret d_bl)) ss_nil)
      (ss_one (s_ret (d_and (d_fn G__law_same R__law_same (hr.mono (by decide)) rfl pass0 (da_cons (d_fn G_met_in_round R_met_in_round (hr.mono (by decide)) rfl pass0 (da_cons d_int (da_cons d_int (da_cons d_int da_nil)))) (da_cons d_int da_nil))) (d_and (d_fn G__law_same R__law_same (hr.mono (by decide)) rfl pass0 (da_cons (d_fn G_met_in_round R_met_in_round (hr.mono (by decide)) rfl pass0 (da_cons d_int (da_cons d_int (da_cons d_int da_nil)))) (da_cons d_int da_nil))) (d_one (d_fn G__law_same R__law_same (hr.mono (by decide)) rfl pass0 (da_cons (d_fn G_winner_of R_winner_of (hr.mono (by decide)) rfl pass0 (da_cons d_int (da_cons (d_tup (da_cons d_int (da_cons d_int (da_cons d_int da_nil)))) da_nil))) (da_cons d_int da_nil)))))))))))))
theorem G_law {fa : Addr} {fd : FuncData} (F : Fun K "law" "law" s_law fa fd) (T : Txt mg) {f__law_draws : Addr} {fd__law_draws : FuncData} (G__law_draws : JFn P w K mg base 1 f__law_draws fd__law_draws ["script", "many"] S__law_draws) (R__law_draws : Rf K mg "_law_draws" ["script", "many"] f__law_draws fd__law_draws) {f__law_cell : Addr} {fd__law_cell : FuncData} (G__law_cell : JFn P w K mg base 1 f__law_cell fd__law_cell ["script", "at"] S__law_cell) (R__law_cell : Rf K mg "_law_cell" ["script", "at"] f__law_cell fd__law_cell) {f__law_take : Addr} {fd__law_take : FuncData} (G__law_take : JFn P w K mg base 1 f__law_take fd__law_take ["draws", "many"] S__law_take) (R__law_take : Rf K mg "_law_take" ["draws", "many"] f__law_take fd__law_take) {f__law_right : Addr} {fd__law_right : FuncData} (G__law_right : JFn P w K mg base 11 f__law_right fd__law_right ["draws", "n", "strengths"] S__law_right) (R__law_right : Rf K mg "_law_right" ["draws", "n", "strengths"] f__law_right fd__law_right) {f__law_same : Addr} {fd__law_same : FuncData} (G__law_same : JFn P w K mg base 9 f__law_same fd__law_same ["actual", "due"] S__law_same) (R__law_same : Rf K mg "_law_same" ["actual", "due"] f__law_same fd__law_same) {f_seeds_in_table : Addr} {fd_seeds_in_table : FuncData} (G_seeds_in_table : JFn P w K mg base 2 f_seeds_in_table fd_seeds_in_table ["n"] S_seeds_in_table) (R_seeds_in_table : Rf K mg "seeds_in_table" ["n"] f_seeds_in_table fd_seeds_in_table) {f_first_pairs : Addr} {fd_first_pairs : FuncData} (G_first_pairs : JFn P w K mg base 3 f_first_pairs fd_first_pairs ["n"] S_first_pairs) (R_first_pairs : Rf K mg "first_pairs" ["n"] f_first_pairs fd_first_pairs) {f_rounds_of_battle : Addr} {fd_rounds_of_battle : FuncData} (G_rounds_of_battle : JFn P w K mg base 1 f_rounds_of_battle fd_rounds_of_battle ["n"] S_rounds_of_battle) (R_rounds_of_battle : Rf K mg "rounds_of_battle" ["n"] f_rounds_of_battle fd_rounds_of_battle) {f_met_in_round : Addr} {fd_met_in_round : FuncData} (G_met_in_round : JFn P w K mg base 2 f_met_in_round fd_met_in_round ["n", "one", "other"] S_met_in_round) (R_met_in_round : Rf K mg "met_in_round" ["n", "one", "other"] f_met_in_round fd_met_in_round) {f_winner_of : Addr} {fd_winner_of : FuncData} (G_winner_of : JFn P w K mg base 1 f_winner_of fd_winner_of ["n", "strengths"] S_winner_of) (R_winner_of : Rf K mg "winner_of" ["n", "strengths"] f_winner_of fd_winner_of) : JFn P w K mg base 12 fa fd ["script"] S_law := fn_j F sc_law (hb_law T G__law_draws R__law_draws G__law_cell R__law_cell G__law_take R__law_take G__law_right R__law_right G__law_same R__law_same G_seeds_in_table R_seeds_in_table G_first_pairs R_first_pairs G_rounds_of_battle R_rounds_of_battle G_met_in_round R_met_in_round G_winner_of R_winner_of) fun ds QD _ h => wp_law ds QD h
theorem all_mk {l : PySem.W.OpenLaw} {h : Heap} {fa : Addr} (X : K.In h) (G : h.Ns mainGlobals mg) (hfa : mg "law" = some (.ref fa))
  {f_rounds_of_battle : Addr} {od_rounds_of_battle an_rounds_of_battle : Option Addr} {sl_rounds_of_battle : Array (Option Value)} {oc_rounds_of_battle kV_rounds_of_battle dc_rounds_of_battle pm_rounds_of_battle cd_rounds_of_battle ct_rounds_of_battle : Value}
  {f_table_of_seeds : Addr} {od_table_of_seeds an_table_of_seeds : Option Addr} {sl_table_of_seeds : Array (Option Value)} {oc_table_of_seeds kV_table_of_seeds dc_table_of_seeds pm_table_of_seeds cd_table_of_seeds ct_table_of_seeds : Value}
  {f_seeds_in_table : Addr} {od_seeds_in_table an_seeds_in_table : Option Addr} {sl_seeds_in_table : Array (Option Value)} {oc_seeds_in_table kV_seeds_in_table dc_seeds_in_table pm_seeds_in_table cd_seeds_in_table ct_seeds_in_table : Value}
  {f_first_pairs : Addr} {od_first_pairs an_first_pairs : Option Addr} {sl_first_pairs : Array (Option Value)} {oc_first_pairs kV_first_pairs dc_first_pairs pm_first_pairs cd_first_pairs ct_first_pairs : Value}
  {f_winner_of : Addr} {od_winner_of an_winner_of : Option Addr} {sl_winner_of : Array (Option Value)} {oc_winner_of kV_winner_of dc_winner_of pm_winner_of cd_winner_of ct_winner_of : Value}
  {f_met_in_round : Addr} {od_met_in_round an_met_in_round : Option Addr} {sl_met_in_round : Array (Option Value)} {oc_met_in_round kV_met_in_round dc_met_in_round pm_met_in_round cd_met_in_round ct_met_in_round : Value}
  {f__law_draws : Addr} {od__law_draws an__law_draws : Option Addr} {sl__law_draws : Array (Option Value)} {oc__law_draws kV__law_draws dc__law_draws pm__law_draws cd__law_draws ct__law_draws : Value}
  {f__law_take : Addr} {od__law_take an__law_take : Option Addr} {sl__law_take : Array (Option Value)} {oc__law_take kV__law_take dc__law_take pm__law_take cd__law_take ct__law_take : Value}
  {f__law_cell : Addr} {od__law_cell an__law_cell : Option Addr} {sl__law_cell : Array (Option Value)} {oc__law_cell kV__law_cell dc__law_cell pm__law_cell cd__law_cell ct__law_cell : Value}
  {f__law_same : Addr} {od__law_same an__law_same : Option Addr} {sl__law_same : Array (Option Value)} {oc__law_same kV__law_same dc__law_same pm__law_same cd__law_same ct__law_same : Value}
  {f__law_table : Addr} {od__law_table an__law_table : Option Addr} {sl__law_table : Array (Option Value)} {oc__law_table kV__law_table dc__law_table pm__law_table cd__law_table ct__law_table : Value}
  {f__law_played : Addr} {od__law_played an__law_played : Option Addr} {sl__law_played : Array (Option Value)} {oc__law_played kV__law_played dc__law_played pm__law_played cd__law_played ct__law_played : Value}
  {f__law_meet_right : Addr} {od__law_meet_right an__law_meet_right : Option Addr} {sl__law_meet_right : Array (Option Value)} {oc__law_meet_right kV__law_meet_right dc__law_meet_right pm__law_meet_right cd__law_meet_right ct__law_meet_right : Value}
  {f__law_right : Addr} {od__law_right an__law_right : Option Addr} {sl__law_right : Array (Option Value)} {oc__law_right kV__law_right dc__law_right pm__law_right cd__law_right ct__law_right : Value}
  {f_law : Addr} {od_law an_law : Option Addr} {sl_law : Array (Option Value)} {oc_law kV_law dc_law pm_law cd_law ct_law : Value}
  (a_rounds_of_battle : PySem.W.nsIn K mainGlobals "rounds_of_battle" = some (some (.ref f_rounds_of_battle))) (l_rounds_of_battle : K.lookup f_rounds_of_battle = some ⟨oc_rounds_of_battle, od_rounds_of_battle, .func (PySem.W.fnOf "rounds_of_battle" "rounds_of_battle" (defArgs s_rounds_of_battle) (defBody s_rounds_of_battle) (defScope s_rounds_of_battle) .none kV_rounds_of_battle dc_rounds_of_battle pm_rounds_of_battle an_rounds_of_battle cd_rounds_of_battle ct_rounds_of_battle), sl_rounds_of_battle⟩) (c_rounds_of_battle : PySem.W.codeIn K cd_rounds_of_battle "rounds_of_battle" = true) (k_rounds_of_battle : PySem.W.keepIn K (.ref f_rounds_of_battle) = true)
  (a_table_of_seeds : PySem.W.nsIn K mainGlobals "table_of_seeds" = some (some (.ref f_table_of_seeds))) (l_table_of_seeds : K.lookup f_table_of_seeds = some ⟨oc_table_of_seeds, od_table_of_seeds, .func (PySem.W.fnOf "table_of_seeds" "table_of_seeds" (defArgs s_table_of_seeds) (defBody s_table_of_seeds) (defScope s_table_of_seeds) .none kV_table_of_seeds dc_table_of_seeds pm_table_of_seeds an_table_of_seeds cd_table_of_seeds ct_table_of_seeds), sl_table_of_seeds⟩) (c_table_of_seeds : PySem.W.codeIn K cd_table_of_seeds "table_of_seeds" = true) (k_table_of_seeds : PySem.W.keepIn K (.ref f_table_of_seeds) = true)
  (a_seeds_in_table : PySem.W.nsIn K mainGlobals "seeds_in_table" = some (some (.ref f_seeds_in_table))) (l_seeds_in_table : K.lookup f_seeds_in_table = some ⟨oc_seeds_in_table, od_seeds_in_table, .func (PySem.W.fnOf "seeds_in_table" "seeds_in_table" (defArgs s_seeds_in_table) (defBody s_seeds_in_table) (defScope s_seeds_in_table) .none kV_seeds_in_table dc_seeds_in_table pm_seeds_in_table an_seeds_in_table cd_seeds_in_table ct_seeds_in_table), sl_seeds_in_table⟩) (c_seeds_in_table : PySem.W.codeIn K cd_seeds_in_table "seeds_in_table" = true) (k_seeds_in_table : PySem.W.keepIn K (.ref f_seeds_in_table) = true)
  (a_first_pairs : PySem.W.nsIn K mainGlobals "first_pairs" = some (some (.ref f_first_pairs))) (l_first_pairs : K.lookup f_first_pairs = some ⟨oc_first_pairs, od_first_pairs, .func (PySem.W.fnOf "first_pairs" "first_pairs" (defArgs s_first_pairs) (defBody s_first_pairs) (defScope s_first_pairs) .none kV_first_pairs dc_first_pairs pm_first_pairs an_first_pairs cd_first_pairs ct_first_pairs), sl_first_pairs⟩) (c_first_pairs : PySem.W.codeIn K cd_first_pairs "first_pairs" = true) (k_first_pairs : PySem.W.keepIn K (.ref f_first_pairs) = true)
  (a_winner_of : PySem.W.nsIn K mainGlobals "winner_of" = some (some (.ref f_winner_of))) (l_winner_of : K.lookup f_winner_of = some ⟨oc_winner_of, od_winner_of, .func (PySem.W.fnOf "winner_of" "winner_of" (defArgs s_winner_of) (defBody s_winner_of) (defScope s_winner_of) .none kV_winner_of dc_winner_of pm_winner_of an_winner_of cd_winner_of ct_winner_of), sl_winner_of⟩) (c_winner_of : PySem.W.codeIn K cd_winner_of "winner_of" = true) (k_winner_of : PySem.W.keepIn K (.ref f_winner_of) = true)
  (a_met_in_round : PySem.W.nsIn K mainGlobals "met_in_round" = some (some (.ref f_met_in_round))) (l_met_in_round : K.lookup f_met_in_round = some ⟨oc_met_in_round, od_met_in_round, .func (PySem.W.fnOf "met_in_round" "met_in_round" (defArgs s_met_in_round) (defBody s_met_in_round) (defScope s_met_in_round) .none kV_met_in_round dc_met_in_round pm_met_in_round an_met_in_round cd_met_in_round ct_met_in_round), sl_met_in_round⟩) (c_met_in_round : PySem.W.codeIn K cd_met_in_round "met_in_round" = true) (k_met_in_round : PySem.W.keepIn K (.ref f_met_in_round) = true)
  (a__law_draws : PySem.W.nsIn K mainGlobals "_law_draws" = some (some (.ref f__law_draws))) (l__law_draws : K.lookup f__law_draws = some ⟨oc__law_draws, od__law_draws, .func (PySem.W.fnOf "_law_draws" "_law_draws" (defArgs s__law_draws) (defBody s__law_draws) (defScope s__law_draws) .none kV__law_draws dc__law_draws pm__law_draws an__law_draws cd__law_draws ct__law_draws), sl__law_draws⟩) (c__law_draws : PySem.W.codeIn K cd__law_draws "_law_draws" = true) (k__law_draws : PySem.W.keepIn K (.ref f__law_draws) = true)
  (a__law_take : PySem.W.nsIn K mainGlobals "_law_take" = some (some (.ref f__law_take))) (l__law_take : K.lookup f__law_take = some ⟨oc__law_take, od__law_take, .func (PySem.W.fnOf "_law_take" "_law_take" (defArgs s__law_take) (defBody s__law_take) (defScope s__law_take) .none kV__law_take dc__law_take pm__law_take an__law_take cd__law_take ct__law_take), sl__law_take⟩) (c__law_take : PySem.W.codeIn K cd__law_take "_law_take" = true) (k__law_take : PySem.W.keepIn K (.ref f__law_take) = true)
  (a__law_cell : PySem.W.nsIn K mainGlobals "_law_cell" = some (some (.ref f__law_cell))) (l__law_cell : K.lookup f__law_cell = some ⟨oc__law_cell, od__law_cell, .func (PySem.W.fnOf "_law_cell" "_law_cell" (defArgs s__law_cell) (defBody s__law_cell) (defScope s__law_cell) .none kV__law_cell dc__law_cell pm__law_cell an__law_cell cd__law_cell ct__law_cell), sl__law_cell⟩) (c__law_cell : PySem.W.codeIn K cd__law_cell "_law_cell" = true) (k__law_cell : PySem.W.keepIn K (.ref f__law_cell) = true)
  (a__law_same : PySem.W.nsIn K mainGlobals "_law_same" = some (some (.ref f__law_same))) (l__law_same : K.lookup f__law_same = some ⟨oc__law_same, od__law_same, .func (PySem.W.fnOf "_law_same" "_law_same" (defArgs s__law_same) (defBody s__law_same) (defScope s__law_same) .none kV__law_same dc__law_same pm__law_same an__law_same cd__law_same ct__law_same), sl__law_same⟩) (c__law_same : PySem.W.codeIn K cd__law_same "_law_same" = true) (k__law_same : PySem.W.keepIn K (.ref f__law_same) = true)
  (a__law_table : PySem.W.nsIn K mainGlobals "_law_table" = some (some (.ref f__law_table))) (l__law_table : K.lookup f__law_table = some ⟨oc__law_table, od__law_table, .func (PySem.W.fnOf "_law_table" "_law_table" (defArgs s__law_table) (defBody s__law_table) (defScope s__law_table) .none kV__law_table dc__law_table pm__law_table an__law_table cd__law_table ct__law_table), sl__law_table⟩) (c__law_table : PySem.W.codeIn K cd__law_table "_law_table" = true) (k__law_table : PySem.W.keepIn K (.ref f__law_table) = true)
  (a__law_played : PySem.W.nsIn K mainGlobals "_law_played" = some (some (.ref f__law_played))) (l__law_played : K.lookup f__law_played = some ⟨oc__law_played, od__law_played, .func (PySem.W.fnOf "_law_played" "_law_played" (defArgs s__law_played) (defBody s__law_played) (defScope s__law_played) .none kV__law_played dc__law_played pm__law_played an__law_played cd__law_played ct__law_played), sl__law_played⟩) (c__law_played : PySem.W.codeIn K cd__law_played "_law_played" = true) (k__law_played : PySem.W.keepIn K (.ref f__law_played) = true)
  (a__law_meet_right : PySem.W.nsIn K mainGlobals "_law_meet_right" = some (some (.ref f__law_meet_right))) (l__law_meet_right : K.lookup f__law_meet_right = some ⟨oc__law_meet_right, od__law_meet_right, .func (PySem.W.fnOf "_law_meet_right" "_law_meet_right" (defArgs s__law_meet_right) (defBody s__law_meet_right) (defScope s__law_meet_right) .none kV__law_meet_right dc__law_meet_right pm__law_meet_right an__law_meet_right cd__law_meet_right ct__law_meet_right), sl__law_meet_right⟩) (c__law_meet_right : PySem.W.codeIn K cd__law_meet_right "_law_meet_right" = true) (k__law_meet_right : PySem.W.keepIn K (.ref f__law_meet_right) = true)
  (a__law_right : PySem.W.nsIn K mainGlobals "_law_right" = some (some (.ref f__law_right))) (l__law_right : K.lookup f__law_right = some ⟨oc__law_right, od__law_right, .func (PySem.W.fnOf "_law_right" "_law_right" (defArgs s__law_right) (defBody s__law_right) (defScope s__law_right) .none kV__law_right dc__law_right pm__law_right an__law_right cd__law_right ct__law_right), sl__law_right⟩) (c__law_right : PySem.W.codeIn K cd__law_right "_law_right" = true) (k__law_right : PySem.W.keepIn K (.ref f__law_right) = true)
  (a_law : PySem.W.nsIn K mainGlobals "law" = some (some (.ref f_law))) (l_law : K.lookup f_law = some ⟨oc_law, od_law, .func (PySem.W.fnOf "law" "law" (defArgs s_law) (defBody s_law) (defScope s_law) .none kV_law dc_law pm_law an_law cd_law ct_law), sl_law⟩) (c_law : PySem.W.codeIn K cd_law "law" = true) (k_law : PySem.W.keepIn K (.ref f_law) = true)
  (z_len : PySem.W.nsIn K mainGlobals "len" = some none)
  (z_tuple : PySem.W.nsIn K mainGlobals "tuple" = some none)
  (z_range : PySem.W.nsIn K mainGlobals "range" = some none)
  (z_max : PySem.W.nsIn K mainGlobals "max" = some none)
  (z_int : PySem.W.nsIn K mainGlobals "int" = some none)
  (z_list : PySem.W.nsIn K mainGlobals "list" = some none)
  (z_abs : PySem.W.nsIn K mainGlobals "abs" = some none)
  (z_isinstance : PySem.W.nsIn K mainGlobals "isinstance" = some none)
  (z_bool : PySem.W.nsIn K mainGlobals "bool" = some none)
  (z_str : PySem.W.nsIn K mainGlobals "str" = some none)
  (z_min : PySem.W.nsIn K mainGlobals "min" = some none)
  (z_sum : PySem.W.nsIn K mainGlobals "sum" = some none)
  (z_sorted : PySem.W.nsIn K mainGlobals "sorted" = some none) :
  ∃ fd : FuncData, (∀ (s : Shared) (v : Value), BindsTo s fd ⟨[v], []⟩ [("script", v)]) ∧ ∀ base : Heap, K.In base → base.Ns mainGlobals mg → JFn l.prog w K mg base 12 fa fd ["script"] SLaw := by
  have e := hfa.symm.trans (PySem.W.mg_of X G a_law)
  cases e
  have T : Txt mg := ⟨PySem.W.mg_none_of X G z_len, PySem.W.mg_none_of X G z_tuple, PySem.W.mg_none_of X G z_range, PySem.W.mg_none_of X G z_max, PySem.W.mg_none_of X G z_int, PySem.W.mg_none_of X G z_list, PySem.W.mg_none_of X G z_abs, PySem.W.mg_none_of X G z_isinstance, PySem.W.mg_none_of X G z_bool, PySem.W.mg_none_of X G z_str, PySem.W.mg_none_of X G z_min, PySem.W.mg_none_of X G z_sum, PySem.W.mg_none_of X G z_sorted⟩
  have F_rounds_of_battle := fun_mk (st := s_rounds_of_battle) l_rounds_of_battle c_rounds_of_battle k_rounds_of_battle
  have b_rounds_of_battle := F_rounds_of_battle.binds (ps := ["n"]) fun _ _ _ _ _ _ us hl => match us, hl with | [_], _ => rfl
  have R_rounds_of_battle : Rf K mg "rounds_of_battle" ["n"] f_rounds_of_battle _ := ⟨PySem.W.mg_of X G a_rounds_of_battle, k_rounds_of_battle, b_rounds_of_battle⟩
  have F_table_of_seeds := fun_mk (st := s_table_of_seeds) l_table_of_seeds c_table_of_seeds k_table_of_seeds
  have b_table_of_seeds := F_table_of_seeds.binds (ps := ["n"]) fun _ _ _ _ _ _ us hl => match us, hl with | [_], _ => rfl
  have R_table_of_seeds : Rf K mg "table_of_seeds" ["n"] f_table_of_seeds _ := ⟨PySem.W.mg_of X G a_table_of_seeds, k_table_of_seeds, b_table_of_seeds⟩
  have F_seeds_in_table := fun_mk (st := s_seeds_in_table) l_seeds_in_table c_seeds_in_table k_seeds_in_table
  have b_seeds_in_table := F_seeds_in_table.binds (ps := ["n"]) fun _ _ _ _ _ _ us hl => match us, hl with | [_], _ => rfl
  have R_seeds_in_table : Rf K mg "seeds_in_table" ["n"] f_seeds_in_table _ := ⟨PySem.W.mg_of X G a_seeds_in_table, k_seeds_in_table, b_seeds_in_table⟩
  have F_first_pairs := fun_mk (st := s_first_pairs) l_first_pairs c_first_pairs k_first_pairs
  have b_first_pairs := F_first_pairs.binds (ps := ["n"]) fun _ _ _ _ _ _ us hl => match us, hl with | [_], _ => rfl
  have R_first_pairs : Rf K mg "first_pairs" ["n"] f_first_pairs _ := ⟨PySem.W.mg_of X G a_first_pairs, k_first_pairs, b_first_pairs⟩
  have F_winner_of := fun_mk (st := s_winner_of) l_winner_of c_winner_of k_winner_of
  have b_winner_of := F_winner_of.binds (ps := ["n", "strengths"]) fun _ _ _ _ _ _ us hl => match us, hl with | [_, _], _ => rfl
  have R_winner_of : Rf K mg "winner_of" ["n", "strengths"] f_winner_of _ := ⟨PySem.W.mg_of X G a_winner_of, k_winner_of, b_winner_of⟩
  have F_met_in_round := fun_mk (st := s_met_in_round) l_met_in_round c_met_in_round k_met_in_round
  have b_met_in_round := F_met_in_round.binds (ps := ["n", "one", "other"]) fun _ _ _ _ _ _ us hl => match us, hl with | [_, _, _], _ => rfl
  have R_met_in_round : Rf K mg "met_in_round" ["n", "one", "other"] f_met_in_round _ := ⟨PySem.W.mg_of X G a_met_in_round, k_met_in_round, b_met_in_round⟩
  have F__law_draws := fun_mk (st := s__law_draws) l__law_draws c__law_draws k__law_draws
  have b__law_draws := F__law_draws.binds (ps := ["script", "many"]) fun _ _ _ _ _ _ us hl => match us, hl with | [_, _], _ => rfl
  have R__law_draws : Rf K mg "_law_draws" ["script", "many"] f__law_draws _ := ⟨PySem.W.mg_of X G a__law_draws, k__law_draws, b__law_draws⟩
  have F__law_take := fun_mk (st := s__law_take) l__law_take c__law_take k__law_take
  have b__law_take := F__law_take.binds (ps := ["draws", "many"]) fun _ _ _ _ _ _ us hl => match us, hl with | [_, _], _ => rfl
  have R__law_take : Rf K mg "_law_take" ["draws", "many"] f__law_take _ := ⟨PySem.W.mg_of X G a__law_take, k__law_take, b__law_take⟩
  have F__law_cell := fun_mk (st := s__law_cell) l__law_cell c__law_cell k__law_cell
  have b__law_cell := F__law_cell.binds (ps := ["script", "at"]) fun _ _ _ _ _ _ us hl => match us, hl with | [_, _], _ => rfl
  have R__law_cell : Rf K mg "_law_cell" ["script", "at"] f__law_cell _ := ⟨PySem.W.mg_of X G a__law_cell, k__law_cell, b__law_cell⟩
  have F__law_same := fun_mk (st := s__law_same) l__law_same c__law_same k__law_same
  have b__law_same := F__law_same.binds (ps := ["actual", "due"]) fun _ _ _ _ _ _ us hl => match us, hl with | [_, _], _ => rfl
  have R__law_same : Rf K mg "_law_same" ["actual", "due"] f__law_same _ := ⟨PySem.W.mg_of X G a__law_same, k__law_same, b__law_same⟩
  have F__law_table := fun_mk (st := s__law_table) l__law_table c__law_table k__law_table
  have b__law_table := F__law_table.binds (ps := ["n"]) fun _ _ _ _ _ _ us hl => match us, hl with | [_], _ => rfl
  have R__law_table : Rf K mg "_law_table" ["n"] f__law_table _ := ⟨PySem.W.mg_of X G a__law_table, k__law_table, b__law_table⟩
  have F__law_played := fun_mk (st := s__law_played) l__law_played c__law_played k__law_played
  have b__law_played := F__law_played.binds (ps := ["table", "strengths"]) fun _ _ _ _ _ _ us hl => match us, hl with | [_, _], _ => rfl
  have R__law_played : Rf K mg "_law_played" ["table", "strengths"] f__law_played _ := ⟨PySem.W.mg_of X G a__law_played, k__law_played, b__law_played⟩
  have F__law_meet_right := fun_mk (st := s__law_meet_right) l__law_meet_right c__law_meet_right k__law_meet_right
  have b__law_meet_right := F__law_meet_right.binds (ps := ["draws", "n", "table"]) fun _ _ _ _ _ _ us hl => match us, hl with | [_, _, _], _ => rfl
  have R__law_meet_right : Rf K mg "_law_meet_right" ["draws", "n", "table"] f__law_meet_right _ := ⟨PySem.W.mg_of X G a__law_meet_right, k__law_meet_right, b__law_meet_right⟩
  have F__law_right := fun_mk (st := s__law_right) l__law_right c__law_right k__law_right
  have b__law_right := F__law_right.binds (ps := ["draws", "n", "strengths"]) fun _ _ _ _ _ _ us hl => match us, hl with | [_, _, _], _ => rfl
  have R__law_right : Rf K mg "_law_right" ["draws", "n", "strengths"] f__law_right _ := ⟨PySem.W.mg_of X G a__law_right, k__law_right, b__law_right⟩
  have F_law := fun_mk (st := s_law) l_law c_law k_law
  refine ⟨PySem.W.fnOf "law" "law" (defArgs s_law) (defBody s_law) (defScope s_law) .none kV_law dc_law pm_law an_law cd_law ct_law, fun s v => .of_eq rfl, fun base _ _ => ?_⟩
  have g_rounds_of_battle := G_rounds_of_battle (P := l.prog) (w := w) (base := base) F_rounds_of_battle T 
  have g_table_of_seeds := G_table_of_seeds (P := l.prog) (w := w) (base := base) F_table_of_seeds T 
  have g_seeds_in_table := G_seeds_in_table (P := l.prog) (w := w) (base := base) F_seeds_in_table T g_table_of_seeds R_table_of_seeds
  have g_first_pairs := G_first_pairs (P := l.prog) (w := w) (base := base) F_first_pairs T g_seeds_in_table R_seeds_in_table
  have g_winner_of := G_winner_of (P := l.prog) (w := w) (base := base) F_winner_of T 
  have g_met_in_round := G_met_in_round (P := l.prog) (w := w) (base := base) F_met_in_round T g_table_of_seeds R_table_of_seeds
  have g__law_draws := G__law_draws (P := l.prog) (w := w) (base := base) F__law_draws T 
  have g__law_take := G__law_take (P := l.prog) (w := w) (base := base) F__law_take T 
  have g__law_cell := G__law_cell (P := l.prog) (w := w) (base := base) F__law_cell T 
  have g__law_same := G__law_same (P := l.prog) (w := w) (base := base) F__law_same T R__law_same
  have g__law_table := G__law_table (P := l.prog) (w := w) (base := base) F__law_table T 
  have g__law_played := G__law_played (P := l.prog) (w := w) (base := base) F__law_played T 
  have g__law_meet_right := G__law_meet_right (P := l.prog) (w := w) (base := base) F__law_meet_right T g__law_take R__law_take g__law_played R__law_played g__law_same R__law_same g_met_in_round R_met_in_round
  have g__law_right := G__law_right (P := l.prog) (w := w) (base := base) F__law_right T g__law_table R__law_table g__law_same R__law_same g_rounds_of_battle R_rounds_of_battle g_seeds_in_table R_seeds_in_table g_first_pairs R_first_pairs g__law_played R__law_played g_winner_of R_winner_of g__law_meet_right R__law_meet_right
  have g_law := G_law (P := l.prog) (w := w) (base := base) F_law T g__law_draws R__law_draws g__law_cell R__law_cell g__law_take R__law_take g__law_right R__law_right g__law_same R__law_same g_seeds_in_table R_seeds_in_table g_first_pairs R_first_pairs g_rounds_of_battle R_rounds_of_battle g_met_in_round R_met_in_round g_winner_of R_winner_of
  exact g_law
end
end Lk75
open PySem PySem.W PyProof.Rows in
set_option maxRecDepth 100000 in
set_option maxHeartbeats 0 in
theorem PySem.Challenge.cw_wordslit_k75_tables_of_battles_holds : PySem.Challenge.rw_wordslit_k75_tables_of_battles.Holds := by
  w_on; o_law; k_head; (case hw => w_witness2)
  k_fill
  refine J.walk_j (l := PySem.Challenge.rw_wordslit_k75_tables_of_battles) (k := 12) ⟨rfl, by decide, by decide⟩ rfl rfl (fun w h Y => PySem.W.kIn_of Y) ?F
  case F =>
    intro w mg fa h KX G hmg
    refine' Lk75.all_mk KX G hmg ?a_rounds_of_battle ?l_rounds_of_battle ?c_rounds_of_battle ?k_rounds_of_battle ?a_table_of_seeds ?l_table_of_seeds ?c_table_of_seeds ?k_table_of_seeds ?a_seeds_in_table ?l_seeds_in_table ?c_seeds_in_table ?k_seeds_in_table ?a_first_pairs ?l_first_pairs ?c_first_pairs ?k_first_pairs ?a_winner_of ?l_winner_of ?c_winner_of ?k_winner_of ?a_met_in_round ?l_met_in_round ?c_met_in_round ?k_met_in_round ?a__law_draws ?l__law_draws ?c__law_draws ?k__law_draws ?a__law_take ?l__law_take ?c__law_take ?k__law_take ?a__law_cell ?l__law_cell ?c__law_cell ?k__law_cell ?a__law_same ?l__law_same ?c__law_same ?k__law_same ?a__law_table ?l__law_table ?c__law_table ?k__law_table ?a__law_played ?l__law_played ?c__law_played ?k__law_played ?a__law_meet_right ?l__law_meet_right ?c__law_meet_right ?k__law_meet_right ?a__law_right ?l__law_right ?c__law_right ?k__law_right ?a_law ?l_law ?c_law ?k_law ?z_len ?z_tuple ?z_range ?z_max ?z_int ?z_list ?z_abs ?z_isinstance ?z_bool ?z_str ?z_min ?z_sum ?z_sorted
    (case a_rounds_of_battle => k_is)
    (case l_rounds_of_battle => k_is)
    (case c_rounds_of_battle => k_is)
    (case k_rounds_of_battle => k_is)
    (case a_table_of_seeds => k_is)
    (case l_table_of_seeds => k_is)
    (case c_table_of_seeds => k_is)
    (case k_table_of_seeds => k_is)
    (case a_seeds_in_table => k_is)
    (case l_seeds_in_table => k_is)
    (case c_seeds_in_table => k_is)
    (case k_seeds_in_table => k_is)
    (case a_first_pairs => k_is)
    (case l_first_pairs => k_is)
    (case c_first_pairs => k_is)
    (case k_first_pairs => k_is)
    (case a_winner_of => k_is)
    (case l_winner_of => k_is)
    (case c_winner_of => k_is)
    (case k_winner_of => k_is)
    (case a_met_in_round => k_is)
    (case l_met_in_round => k_is)
    (case c_met_in_round => k_is)
    (case k_met_in_round => k_is)
    (case a__law_draws => k_is)
    (case l__law_draws => k_is)
    (case c__law_draws => k_is)
    (case k__law_draws => k_is)
    (case a__law_take => k_is)
    (case l__law_take => k_is)
    (case c__law_take => k_is)
    (case k__law_take => k_is)
    (case a__law_cell => k_is)
    (case l__law_cell => k_is)
    (case c__law_cell => k_is)
    (case k__law_cell => k_is)
    (case a__law_same => k_is)
    (case l__law_same => k_is)
    (case c__law_same => k_is)
    (case k__law_same => k_is)
    (case a__law_table => k_is)
    (case l__law_table => k_is)
    (case c__law_table => k_is)
    (case k__law_table => k_is)
    (case a__law_played => k_is)
    (case l__law_played => k_is)
    (case c__law_played => k_is)
    (case k__law_played => k_is)
    (case a__law_meet_right => k_is)
    (case l__law_meet_right => k_is)
    (case c__law_meet_right => k_is)
    (case k__law_meet_right => k_is)
    (case a__law_right => k_is)
    (case l__law_right => k_is)
    (case c__law_right => k_is)
    (case k__law_right => k_is)
    (case a_law => k_is)
    (case l_law => k_is)
    (case c_law => k_is)
    (case k_law => k_is)
    (case z_len => k_is)
    (case z_tuple => k_is)
    (case z_range => k_is)
    (case z_max => k_is)
    (case z_int => k_is)
    (case z_list => k_is)
    (case z_abs => k_is)
    (case z_isinstance => k_is)
    (case z_bool => k_is)
    (case z_str => k_is)
    (case z_min => k_is)
    (case z_sum => k_is)
    (case z_sorted => k_is)
#print axioms PySem.Challenge.cw_wordslit_k75_tables_of_battles_holds
