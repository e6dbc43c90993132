import PyProof.Rows.All
import Wide.All
import OpenK.AllK
import Wide.FinOn
import KE.OsRunLaw
import HandS.ForMost
import HandS.IsInst
import HandS.TupAny
import HandS.TupMul
import HandS.Deep
import HandS.Zip
import HandS.Walk
import HandS.Style
import HandS.Flow
import KE.DataFind
import PyProof.SeqIndex
import KE.GoesMore
import HandS.Strs
import PySem.Challenge.RW_movedchest_k08_whole_rows_by_own_box
set_option Elab.async false
set_option linter.all false
/-! ## DL0 -/
set_option Elab.async false
set_option linter.all false
set_option maxRecDepth 100000
set_option maxHeartbeats 4000000
/-! Tuples whose object is known whole (it has no dict). -/
namespace DL
open PySem PySem.Spec PyProof.Rows L2 HT
section
variable {X : Cx} {pins : List (Addr × Obj)} {σ : L2.St} {H : Hp} {s : Shared}
theorem laid_tup {its : List Value} {xs : List V} {t' : Nat} (I : Inv X pins σ H s) (hv : Vals xs its) (hz : xs.length ≤ sizeLine) :
    Inv X pins σ (upd H s.heap.objs.size (.frz { cls := .type "tuple", data := .seq its.toArray } (.tup xs))) { s with heap := s.heap.push { cls := .type "tuple", data := .seq its.toArray }, toks := t' } :=
  I.laid (fun _ _ q => Heap.get?_push_of_some _ q) (Nat.le_refl _) ⟨Heap.get?_push_size _ rfl, hz, its, hv, IsTup.new _ _⟩
/-- a new tuple of xs -/
abbrev NewT (H : Hp) (xs : List V) (Q : VK) : Prop := ∀ p ob, ob.dict = none → H p = none → Q (.ref p) (upd H p (.frz ob (.tup xs)))
def tTupX (t : TA) : TE := fun σ H Q => t σ H fun xs H1 => xs.length ≤ sizeLine ∧ NewT H1 xs Q
theorem pe_tupX {es : List Expr} {t : TA} {x1 : Nat} {pos : Pos} (h : PA X es t) : PE X (.Tuple es x1 pos) (tTupX t) := by
  refine ⟨fun pins s σ H Q I hq => ?_⟩
  refine wpAny_Tuple_spliced (thn (h.run pos pins s σ H _ I hq) fun us s1 ⟨xs, H1, I1, r, z, q⟩ => ⟨by rw [← r.length]; exact z, ?_⟩)
  exact ⟨.ref s1.heap.objs.size, _, laid_tup (t' := s1.toks) I1 r z, rfl, q _ _ rfl (I1.hok.fresh (Nat.le_refl _))⟩
def rCatX (K : PySem.W.Frag) : R2 := fun x y H Q => ∃ a b xs ys, x = .ref a ∧ y = .ref b ∧ SqT K H a xs ∧ SqT K H b ys ∧ xs.length + ys.length ≤ sizeLine ∧
  (xs = [] → Q (.ref b) H) ∧ (xs ≠ [] → ys = [] → Q (.ref a) H) ∧ (xs ≠ [] → ys ≠ [] → NewT H (xs ++ ys) Q)
theorem op_catX : OpR X (binaryOp .Add) (rCatX X.K) := by
  intro pins s σ H x y v u Q I rx ry h
  obtain ⟨a, b, xs, ys, rfl, rfl, ha, hb, hz, q0, q1, q2⟩ := h
  cases rx
  cases ry
  obtain ⟨its, r1, p1, _⟩ := I.tuple ha
  obtain ⟨its2, r2, p2, _⟩ := I.tuple hb
  by_cases hx : xs = []
  · subst hx
    cases r1
    exact cat_tup0 p1 p2 ⟨.ref b, H, I, rfl, q0 rfl⟩
  · refine HT.cat_tup p1 p2 (fun z => hx (r1.nil_iff.mp z)) (fun z => ⟨.ref a, H, I, rfl, q1 hx (r2.nil_iff.mp z)⟩) (fun z => ?_) (by rw [← r1.length, ← r2.length]; exact hz)
    exact ⟨.ref s.heap.objs.size, _, laid_tup (t' := s.toks) I (r1.append r2) (by rw [List.length_append]; exact hz), rfl, q2 hx (fun w => z (r2.nil_iff.mpr w)) _ _ rfl (I.hok.fresh (Nat.le_refl _))⟩
def rSlX (K : PySem.W.Frag) : V → Option Int → Option Int → Hp → VK → Prop := fun x lo hi H Q => ∃ a xs, x = .ref a ∧ SqT K H a xs ∧
  (HT.sIx xs.length 0 lo = 0 ∧ HT.sIx xs.length xs.length hi = xs.length → Q (.ref a) H) ∧ (¬ (HT.sIx xs.length 0 lo = 0 ∧ HT.sIx xs.length xs.length hi = xs.length) → NewT H (cutV xs lo hi) Q)
theorem sl_tupX : SlR X (rSlX X.K) := by
  intro pins s σ H x v vl vu lo hi sl Q I rx hs pl pu h
  obtain ⟨a, xs, rfl, hx, q1, q2⟩ := h
  cases rx
  obtain ⟨its, r, ht, hz⟩ := I.tuple hx
  have hlen : its.toArray.size = xs.length := by rw [List.size_toArray]; exact r.length.symm
  refine ⟨"tuple", _, PyProof.Rows.slot_tuple_getitem.lookup, ht.typeIs, ?_⟩
  by_cases hw : HT.sIx xs.length 0 lo = 0 ∧ HT.sIx xs.length xs.length hi = xs.length
  · exact getItem_tuple_whole ht hs pl pu (by rw [hlen]; exact hw) ⟨.ref a, H, I, rfl, q1 hw⟩
  · refine HT.getItem_tuple_cut ht hs pl pu (by rw [hlen]; exact hw) ?_ (by rw [hlen]; exact hz)
    rw [hlen]
    exact ⟨.ref s.heap.objs.size, _, laid_tup (t' := s.toks) I ((r.drop (HT.sIx xs.length 0 lo)).take (HT.sIx xs.length xs.length hi - HT.sIx xs.length 0 lo)) (Nat.le_trans (cutV_length xs lo hi) hz), rfl, q2 hw _ _ rfl (I.hok.fresh (Nat.le_refl _))⟩
theorem call_tuple_X : CallR X (.type "tuple") (fun xs H Q => ∃ p ys, xs = [.ref p] ∧ ((SqL X.K H p ys ∧ NewT H ys Q) ∨ (SqT X.K H p ys ∧ Q (.ref p) H))) := by
  intro pins s σ H xs us Q I r h
  obtain ⟨p, ys, rfl, h⟩ := h
  obtain ⟨u, rfl, rx⟩ := vals1 r
  cases rx
  rcases h with ⟨hq, q⟩ | ⟨hq, q⟩
  · obtain ⟨its, r', pl, hz⟩ := I.list hq
    have hlen := r'.length
    refine call_tuple_list pl.isList (fun h' kp => ?_) (by simp only [List.size_toArray] <;> omega)
    have I1 : Inv X pins σ H { s with heap := h' } := I.kept (t' := s.toks) kp
    exact ⟨.ref h'.objs.size, _, laid_tup (t' := s.toks) I1 r' hz, rfl, q _ _ rfl (I1.hok.fresh (Nat.le_refl _))⟩
  · obtain ⟨its, r', pl, hz⟩ := I.tuple hq
    exact call_tuple_same pl ⟨.ref p, H, I, rfl, q⟩
def rRepX (K : PySem.W.Frag) : R2 := fun x y H Q => ∃ l k xs, x = .ref l ∧ y = .int k ∧ SqT K H l xs ∧ xs ≠ [] ∧ 2 ≤ k ∧ k ≤ 1000 ∧ xs.length ≤ 1000 ∧ NewT H (List.replicate k.toNat xs).flatten Q
theorem op_repX : OpR X (binaryOp .Mult) (rRepX X.K) := by
  intro pins s σ H x y v u Q I rx ry h
  obtain ⟨l, k, xs, rfl, rfl, hT, hne, h1, h2, hz, q⟩ := h
  cases rx
  obtain ⟨t, rfl⟩ := ry
  obtain ⟨its, r, ⟨⟨cls, dd, data, sl⟩, ho, hc, n, hd⟩, hs⟩ := I.tuple hT
  simp only at hc hd
  subst hc hd
  have hle : its.length = xs.length := r.length.symm
  have hn : its ≠ [] := fun e => hne (by
    rw [e] at hle
    exact List.eq_nil_of_length_eq_zero hle.symm)
  have hi : its.toArray.isEmpty = false := by
    cases its with
    | nil => exact absurd rfl hn
    | cons a b => rfl
  have hsz0 : its.toArray.size = xs.length := by rw [List.size_toArray, hle]
  have hm : ((its.toArray.size : Nat) : Int) * k ≤ 1000000 := by
    rw [hsz0]
    have a1 : ((xs.length : Nat) : Int) * k ≤ 1000 * k := Int.mul_le_mul_of_nonneg_right (by omega) (by omega)
    omega
  have flen : (List.replicate k.toNat its).flatten.length ≤ sizeLine := by
    rw [PyProof.Rows.lm_len_rep_flat, hle, sizeLine_eq]
    have a1 : k.toNat * xs.length ≤ 1000 * 1000 := Nat.mul_le_mul (by omega) hz
    omega
  have c0 : (decide (k < -(2 ^ 63)) || decide (k ≥ 2 ^ 63)) = false := by
    rw [decide_eq_false (by omega), decide_eq_false (by omega)] <;> rfl
  have c1 : (its.toArray.isEmpty || k == 1) = false := by
    rw [hi, Bool.false_or]
    exact beq_eq_false_iff_ne.mpr (by omega)
  have c2 : (decide (k ≤ 0) || its.toArray.isEmpty) = false := by
    rw [hi, Bool.or_false]
    exact decide_eq_false (by omega)
  have c4 : Builtin.Tuple.tupleTooMany (((its.toArray.size : Nat) : Int) * k) = false := by
    unfold Builtin.Tuple.tupleTooMany
    rw [sizeLine_eq]
    exact decide_eq_false (by omega)
  refine wpAny_binaryOp_repeat_ref (T := "tuple") (U := "int") (by decide) ⟨_, ho, rfl⟩ (fun s' => typeIs_int s' k t) noFill_tuple_mul F.fills_int_mul F.slot_int_rmul repeat_tuple F.slot_int_index.lookup
    (call_meets F.slot_int_rmul (typeIs_int s k t) F.entry_int_rmul (F.args_int_rmul_2 _ _) (int_rmul_tuple k t l its.toArray n dd sl)
      ⟨ho, rfl, ⟨_, ho, rfl⟩, call_meets F.slot_tuple_mul ⟨_, ho, rfl⟩ F.entry_tuple_mul (F.args_tuple_mul_2 _ _) (tuple_mulW l its.toArray n dd sl k t c0 c1 c2 (by omega) c4 (by rw [size_rep, List.size_toArray]; exact flen)) ⟨ho, ?_⟩⟩)
  rw [size_rep]
  have fl2 : (List.replicate k.toNat xs).flatten.length ≤ sizeLine := by
    rw [PyProof.Rows.lm_len_rep_flat, sizeLine_eq]
    have a1 : k.toNat * xs.length ≤ 1000 * 1000 := Nat.mul_le_mul (by omega) hz
    omega
  exact ⟨.ref s.heap.objs.size, _, laid_tup (t' := s.toks) I (r.rep k.toNat) fl2, rfl, q _ _ rfl (I.hok.fresh (Nat.le_refl _))⟩
end

/-! ### data over such tuples -/
/-- a tuple whose object is known, without a dict -/
def ExT (K : PySem.W.Frag) (H : Hp) (a : Addr) (xs : List V) : Prop :=
  (∃ o, H a = some (.frz o (.tup xs)) ∧ o.dict = none) ∨
    ∃ (o : Obj) (its : Array Value) (n : Nat), K.lookup a = some o ∧ o.cls = .type "tuple" ∧ o.dict = none ∧ o.data = .seq its n ∧ its.size ≤ sizeLine ∧ Vals xs its.toList
theorem ExT.sq {K : PySem.W.Frag} {H : Hp} {a : Addr} {xs : List V} (h : ExT K H a xs) : SqT K H a xs := by
  rcases h with ⟨o, h, _⟩ | ⟨o, its, n, h1, h2, _, h3⟩
  · exact .inl (.inr ⟨o, h⟩)
  · exact .inr ⟨o, its, n, h1, h2, h3⟩
theorem ExT.mono {K : PySem.W.Frag} {H H' : Hp} {a : Addr} {xs : List V} (h : ExT K H a xs) (e : Same H H') : ExT K H' a xs := by
  rcases h with ⟨o, h, d⟩ | h
  · exact .inl ⟨o, e _ _ h, d⟩
  · exact .inr h
mutual
inductive Rp (K : PySem.W.Frag) (H : Hp) : V → PyData → Prop
  | non : Rp K H .non .none
  | bl (b : Bool) : Rp K H (.bl b) (.bool b)
  | int (i : Int) : Rp K H (.int i) (.int i)
  | str (x : Str) : Rp K H (.str x) (.str x)
  | lst {a : Addr} {xs : List V} {ds : List PyData} : SqL K H a xs → RpAll K H xs ds → Rp K H (.ref a) (.list ds)
  | tup {a : Addr} {xs : List V} {ds : List PyData} : ExT K H a xs → RpAll K H xs ds → Rp K H (.ref a) (.tuple ds)
inductive RpAll (K : PySem.W.Frag) (H : Hp) : List V → List PyData → Prop
  | nil : RpAll K H [] []
  | cons {v : V} {vs : List V} {d : PyData} {ds : List PyData} : Rp K H v d → RpAll K H vs ds → RpAll K H (v :: vs) (d :: ds)
end
mutual
theorem Rp.dp {K : PySem.W.Frag} {H H' : Hp} (e : Same H H') : ∀ {v : V} {d : PyData}, Rp K H v d → Dp K H' v d
  | _, _, .non => .non
  | _, _, .bl b => .bl b
  | _, _, .int i => .int i
  | _, _, .str x => .str x
  | _, _, .lst h t => .lst (e.seq h) (RpAll.dp e t)
  | _, _, .tup h t => .tup (h.mono e).sq (RpAll.dp e t)
theorem RpAll.dp {K : PySem.W.Frag} {H H' : Hp} (e : Same H H') : ∀ {vs : List V} {ds : List PyData}, RpAll K H vs ds → DpAll K H' vs ds
  | _, _, .nil => .nil
  | _, _, .cons h t => .cons (Rp.dp e h) (RpAll.dp e t)
end
end DL

/-! ## DL1 -/
set_option Elab.async false
set_option linter.all false
set_option maxRecDepth 100000
set_option maxHeartbeats 4000000
/-! The data layer: every value is told by a PyData; a list that may be changed is told by the slot that owns it. -/
namespace DL
open PySem PySem.Spec PyProof.Rows L2

/-! ### slots, states -/
inductive Sl where
  | no
  | val (d : PyData)
  | own (ds : List PyData)
abbrev Ev := List Sl
def Ow (σ : L2.St) (ρ : Ev) (a : Addr) : Prop := ∃ (i : Nat) (ds : List PyData), ρ[i]? = some (.own ds) ∧ σ[i]? = some (some (V.ref a))
structure Wf (K : PySem.W.Frag) (F H : Hp) (σ : L2.St) (ρ : Ev) : Prop where
  sub : Same F H
  len : ρ.length = σ.length
  val : ∀ (i : Nat) (d : PyData), ρ[i]? = some (.val d) → ∃ v, σ[i]? = some (some v) ∧ Rp K F v d
  own : ∀ (i : Nat) (ds : List PyData), ρ[i]? = some (.own ds) → ∃ (a : Addr) (vs : List V), σ[i]? = some (some (.ref a)) ∧ F a = none ∧ H a = some (.lst vs) ∧ RpAll K F vs ds
  inj : ∀ (i j : Nat) (ds es : List PyData) (a : Addr), ρ[i]? = some (.own ds) → ρ[j]? = some (.own es) → σ[i]? = some (some (.ref a)) → σ[j]? = some (some (.ref a)) → i = j
/-- from a state to a later one -/
structure Go (F H : Hp) (σ : L2.St) (ρ : Ev) (F' H' : Hp) (σ' : L2.St) (ρ' : Ev) : Prop where
  grow : Same F F'
  fresh : ∀ a o, F' a = some o → F a = some o ∨ H a = none
  keep : ∀ a o, H a = some o → ¬ Ow σ ρ a → H' a = some o
  there : ∀ a, H' a = none → H a = none
  owns : ∀ a, Ow σ' ρ' a → Ow σ ρ a ∨ H a = none
  zero : ∀ ds, ρ[0]? = some (.own ds) → σ'[0]? = σ[0]? ∧ ∃ ds', ρ'[0]? = some (.own ds')
theorem Go.refl (F H : Hp) (σ : L2.St) (ρ : Ev) : Go F H σ ρ F H σ ρ :=
  ⟨Same.refl F, fun _ _ h => .inl h, fun _ _ h _ => h, fun _ h => h, fun _ h => .inl h, fun ds h => ⟨rfl, ds, h⟩⟩
theorem Go.trans {F H F1 H1 F2 H2 : Hp} {σ σ1 σ2 : L2.St} {ρ ρ1 ρ2 : Ev} (a : Go F H σ ρ F1 H1 σ1 ρ1) (b : Go F1 H1 σ1 ρ1 F2 H2 σ2 ρ2) : Go F H σ ρ F2 H2 σ2 ρ2 := by
  refine ⟨a.grow.trans b.grow, fun c o h => ?_, fun c o h hn => ?_, fun c h => a.there c (b.there c h), fun c h => ?_, fun ds h => ?_⟩
  · rcases b.fresh c o h with h | h
    · exact a.fresh c o h
    · exact .inr (a.there c h)
  · refine b.keep c o (a.keep c o h hn) fun z => ?_
    rcases a.owns c z with z | z
    · exact hn z
    · rw [h] at z; cases z
  · rcases b.owns c h with h | h
    · exact a.owns c h
    · exact .inr (a.there c h)
  · obtain ⟨e1, ds1, e2⟩ := a.zero ds h
    obtain ⟨e3, ds2, e4⟩ := b.zero ds1 e2
    exact ⟨e3.trans e1, ds2, e4⟩

/-! ### data and heaps that grow -/
theorem seqX {K : PySem.W.Frag} {H H' : Hp} {a : Addr} {xs : List V} (e : Same H H') (h : ExT K H a xs) : SqT K H' a xs := (h.mono e).sq
mutual
theorem Rp.mono {K : PySem.W.Frag} {H H' : Hp} (e : Same H H') : ∀ {v : V} {d : PyData}, Rp K H v d → Rp K H' v d
  | _, _, .non => .non
  | _, _, .bl b => .bl b
  | _, _, .int i => .int i
  | _, _, .str x => .str x
  | _, _, .lst h t => .lst (e.seq h) (RpAll.mono e t)
  | _, _, .tup h t => .tup (h.mono e) (RpAll.mono e t)
theorem RpAll.mono {K : PySem.W.Frag} {H H' : Hp} (e : Same H H') : ∀ {vs : List V} {ds : List PyData}, RpAll K H vs ds → RpAll K H' vs ds
  | _, _, .nil => .nil
  | _, _, .cons h t => .cons (Rp.mono e h) (RpAll.mono e t)
end
theorem RpAll.length {K : PySem.W.Frag} {H : Hp} : ∀ {vs : List V} {ds : List PyData}, RpAll K H vs ds → vs.length = ds.length
  | _, _, .nil => rfl
  | _, _, .cons _ t => congrArg (· + 1) t.length
theorem RpAll.get {K : PySem.W.Frag} {H : Hp} : ∀ {vs : List V} {ds : List PyData} {i : Nat} {d : PyData}, RpAll K H vs ds → ds[i]? = some d → ∃ v, vs[i]? = some v ∧ Rp K H v d
  | _, _, _, _, .nil, e => by simp at e
  | _, _, 0, _, .cons (v := v) h _, e => by
    simp at e; subst e
    exact ⟨v, by simp, h⟩
  | _, _, i + 1, d, .cons _ t, e => by
    obtain ⟨v, h1, h2⟩ := t.get (i := i) (d := d) (by simpa using e)
    exact ⟨v, by simpa using h1, h2⟩
theorem RpAll.at {K : PySem.W.Frag} {H : Hp} : ∀ {vs : List V} {ds : List PyData} {i : Nat} {v : V}, RpAll K H vs ds → vs[i]? = some v → ∃ d, ds[i]? = some d ∧ Rp K H v d
  | _, _, _, _, .nil, e => by simp at e
  | _, _, 0, _, .cons (d := d) h _, e => by
    simp at e; subst e
    exact ⟨d, by simp, h⟩
  | _, _, i + 1, v, .cons _ t, e => by
    obtain ⟨d, h1, h2⟩ := t.at (i := i) (v := v) (by simpa using e)
    exact ⟨d, by simpa using h1, h2⟩
theorem RpAll.append {K : PySem.W.Frag} {H : Hp} : ∀ {vs us : List V} {ds es : List PyData}, RpAll K H vs ds → RpAll K H us es → RpAll K H (vs ++ us) (ds ++ es)
  | _, _, _, _, .nil, h => h
  | _, _, _, _, .cons a t, h => .cons a (t.append h)
theorem RpAll.take {K : PySem.W.Frag} {H : Hp} : ∀ {vs : List V} {ds : List PyData} (n : Nat), RpAll K H vs ds → RpAll K H (vs.take n) (ds.take n)
  | _, _, 0, _ => by simp; exact .nil
  | _, _, _ + 1, .nil => .nil
  | _, _, n + 1, .cons a t => .cons a (t.take n)
theorem RpAll.drop {K : PySem.W.Frag} {H : Hp} : ∀ {vs : List V} {ds : List PyData} (n : Nat), RpAll K H vs ds → RpAll K H (vs.drop n) (ds.drop n)
  | _, _, 0, h => h
  | _, _, _ + 1, .nil => .nil
  | _, _, n + 1, .cons _ t => t.drop n
theorem RpAll.set {K : PySem.W.Frag} {H : Hp} {v : V} {d : PyData} (h : Rp K H v d) : ∀ {vs : List V} {ds : List PyData} (i : Nat), RpAll K H vs ds → RpAll K H (vs.set i v) (ds.set i d)
  | _, _, _, .nil => .nil
  | _, _, 0, .cons _ t => .cons h t
  | _, _, i + 1, .cons a t => .cons a (t.set h i)
theorem RpAll.rep {K : PySem.W.Frag} {H : Hp} {vs : List V} {ds : List PyData} (h : RpAll K H vs ds) : ∀ n : Nat, RpAll K H (List.replicate n vs).flatten (List.replicate n ds).flatten
  | 0 => .nil
  | n + 1 => by
    rw [List.replicate_succ, List.replicate_succ, List.flatten_cons, List.flatten_cons]
    exact h.append (h.rep n)
theorem RpAll.ints {K : PySem.W.Frag} {H : Hp} : ∀ (ns : List Int), RpAll K H (ns.map V.int) (ns.map PyData.int)
  | [] => .nil
  | n :: ns => .cons (.int n) (RpAll.ints ns)

/-- the frozen part and the heap grow alike -/
structure New (F H F' H' : Hp) : Prop where
  grow : Same F F'
  keep : Same H H'
  sub : Same F' H'
  fresh : ∀ a o, F' a = some o → F a = some o ∨ H a = none
theorem New.refl {F H : Hp} (h : Same F H) : New F H F H := ⟨Same.refl F, Same.refl H, h, fun _ _ h => .inl h⟩
theorem New.trans {F H F1 H1 F2 H2 : Hp} (a : New F H F1 H1) (b : New F1 H1 F2 H2) : New F H F2 H2 := by
  refine ⟨a.grow.trans b.grow, a.keep.trans b.keep, b.sub, fun c o h => ?_⟩
  rcases b.fresh c o h with h | h
  · exact a.fresh c o h
  · exact .inr (a.keep.free h)
theorem same_upd {H : Hp} {p : Addr} {o : HO} (h : H p = none) : Same H (upd H p o) := fun b x e => by
  rw [upd_ne (ne_of_none e h)]
  exact e
theorem New.one {F H : Hp} {p : Addr} {o : HO} (h : Same F H) (hp : H p = none) : New F H (upd F p o) (upd H p o) := by
  refine ⟨same_upd (h.free hp), same_upd hp, fun a x e => ?_, fun a x e => ?_⟩
  · by_cases c : a = p
    · subst c
      rw [upd_same] at e ⊢
      exact e
    · rw [upd_ne c] at e ⊢
      exact h a x e
  · by_cases c : a = p
    · subst c; exact .inr hp
    · rw [upd_ne c] at e
      exact .inl e
/-- a new object that is not told -/
theorem New.side {F H : Hp} {p : Addr} {o : HO} (h : Same F H) (hp : H p = none) : New F H F (upd H p o) :=
  ⟨Same.refl F, same_upd hp, h.trans (same_upd hp), fun _ _ h => .inl h⟩
theorem New.there {F H F' H' : Hp} (n : New F H F' H') : ∀ a, H' a = none → H a = none := fun _ h => n.keep.free h
theorem Wf.new {K : PySem.W.Frag} {F H F' H' : Hp} {σ : L2.St} {ρ : Ev} (w : Wf K F H σ ρ) (n : New F H F' H') : Wf K F' H' σ ρ := by
  refine ⟨n.sub, w.len, fun i d h => ?_, fun i ds h => ?_, w.inj⟩
  · obtain ⟨v, e, q⟩ := w.val i d h
    exact ⟨v, e, q.mono n.grow⟩
  · obtain ⟨a, vs, e1, e2, e3, q⟩ := w.own i ds h
    refine ⟨a, vs, e1, ?_, n.keep _ _ e3, q.mono n.grow⟩
    cases z : F' a with
    | none => rfl
    | some o =>
      rcases n.fresh a o z with z | z
      · rw [e2] at z; cases z
      · rw [e3] at z; cases z
theorem Go.new {F H F' H' : Hp} {σ : L2.St} {ρ : Ev} (n : New F H F' H') : Go F H σ ρ F' H' σ ρ :=
  ⟨n.grow, n.fresh, fun a o h _ => n.keep a o h, n.there, fun _ h => .inl h, fun ds h => ⟨rfl, ds, h⟩⟩

theorem Wf.notOw {K : PySem.W.Frag} {F H : Hp} {σ : L2.St} {ρ : Ev} (w : Wf K F H σ ρ) {a : Addr} (h : H a = none) : ¬ Ow σ ρ a := fun ⟨i, ds, e1, e2⟩ => by
  obtain ⟨b, vs, e3, _, e4, _⟩ := w.own i ds e1
  rw [e2] at e3
  cases e3
  rw [h] at e4
  cases e4
/-- a list that no slot owns is told as data -/
theorem Wf.freeze {K : PySem.W.Frag} {F H : Hp} {σ : L2.St} {ρ : Ev} (w : Wf K F H σ ρ) {a : Addr} {o : HO} (h : H a = some o) (hF : F a = none) (no : ¬ Ow σ ρ a) : Wf K (upd F a o) H σ ρ := by
  refine ⟨fun b x e => ?_, w.len, fun i d e => ?_, fun i ds e => ?_, w.inj⟩
  · by_cases c : b = a
    · subst c
      rw [upd_same] at e
      rw [h, e]
    · rw [upd_ne c] at e
      exact w.sub b x e
  · obtain ⟨v, e1, q⟩ := w.val i d e
    exact ⟨v, e1, q.mono (same_upd hF)⟩
  · obtain ⟨b, vs, e1, e2, e3, q⟩ := w.own i ds e
    have c : b ≠ a := fun z => no ⟨i, ds, e, by rw [← z]; exact e1⟩
    exact ⟨b, vs, e1, by rw [upd_ne c]; exact e2, e3, q.mono (same_upd hF)⟩
theorem Go.freeze {F H F' H' : Hp} {σ σ' : L2.St} {ρ ρ' : Ev} (g : Go F H σ ρ F' H' σ' ρ') {a : Addr} {o : HO} (h : H a = none) (hF : F' a = none) : Go F H σ ρ (upd F' a o) H' σ' ρ' := by
  refine ⟨g.grow.trans (same_upd hF), fun b x e => ?_, g.keep, g.there, g.owns, g.zero⟩
  by_cases c : b = a
  · subst c; exact .inr h
  · rw [upd_ne c] at e
    exact g.fresh b x e

/-! ### what a reading is told by -/
abbrev FE := Ev → Option (PyData × Ev)
abbrev FL := Ev → Option (List PyData × Ev)
/-- an expression whose value is data -/
def tD (K : PySem.W.Frag) (f : FE) : TE := fun σ H Q => ∃ F ρ d ρ', Wf K F H σ ρ ∧ f ρ = some (d, ρ') ∧ ∀ v F' H', Go F H σ ρ F' H' σ ρ' → Wf K F' H' σ ρ' → Rp K F' v d → Q v H'
/-- an expression whose value is a list that nobody else holds -/
def tO (K : PySem.W.Frag) (f : FL) : TE := fun σ H Q => ∃ F ρ ds ρ', Wf K F H σ ρ ∧ f ρ = some (ds, ρ') ∧
  ∀ a vs F' H', Go F H σ ρ F' H' σ ρ' → Wf K F' H' σ ρ' → H a = none → F' a = none → H' a = some (.lst vs) → RpAll K F' vs ds → ¬ Ow σ ρ' a → Q (.ref a) H'
/-- a test -/
def tBD (K : PySem.W.Frag) (f : FE) : TT := fun σ H Q => ∃ F ρ b ρ', Wf K F H σ ρ ∧ f ρ = some (.bool b, ρ') ∧ ∀ F' H', Go F H σ ρ F' H' σ ρ' → Wf K F' H' σ ρ' → Q b H'
/-- arguments -/
def aD (K : PySem.W.Frag) (f : FL) : TA := fun σ H Q => ∃ F ρ ds ρ', Wf K F H σ ρ ∧ f ρ = some (ds, ρ') ∧ ∀ vs F' H', Go F H σ ρ F' H' σ ρ' → Wf K F' H' σ ρ' → RpAll K F' vs ds → Q vs H'
section
variable {X : Cx}
theorem pe_weak {e : Expr} {t t' : TE} (h : PE X e t) (w : ∀ σ H Q, t' σ H Q → t σ H Q) : PE X e t' := ⟨fun pins s σ H Q I q => h.run pins s σ H Q I (w σ H Q q)⟩
theorem pt_weak {e : Expr} {t t' : TT} (h : PT X e t) (w : ∀ σ H Q, t' σ H Q → t σ H Q) : PT X e t' := ⟨fun pins s σ H Q I q => h.run pins s σ H Q I (w σ H Q q)⟩
theorem pw_weak {e : Expr} {t t' : TT} (h : PW X e t) (w : ∀ σ H Q, t' σ H Q → t σ H Q) : PW X e t' := ⟨fun wh pins s σ H Q I q => h.run wh pins s σ H Q I (w σ H Q q)⟩
theorem pa_weak {e : List Expr} {t t' : TA} (h : PA X e t) (w : ∀ σ H Q, t' σ H Q → t σ H Q) : PA X e t' := ⟨fun pos pins s σ H Q I q => h.run pos pins s σ H Q I (w σ H Q q)⟩
theorem ps_weak {e : Stmt} {t t' : TS} (h : PS X e t) (w : ∀ D σ H, t' D σ H → t D σ H) : PS X e t' := ⟨fun pins s σ H D I q => h.run pins s σ H D I (w D σ H q)⟩
theorem pss_weak {e : List Stmt} {t t' : TS} (h : PSs X e t) (w : ∀ D σ H, t' D σ H → t D σ H) : PSs X e t' := ⟨fun pins s σ H D I q => h.run pins s σ H D I (w D σ H q)⟩

/-! ### names, constants -/
def eVar (i : Nat) : FE := fun ρ => match ρ[i]? with
  | some (.val d) => some (d, ρ)
  | _ => none
theorem var_ok {K : PySem.W.Frag} {i : Nat} (σ : L2.St) (H : Hp) (Q : VK) (h : tD K (eVar i) σ H Q) : tVar i σ H Q := by
  obtain ⟨F, ρ, d, ρ', w, e, q⟩ := h
  unfold eVar at e
  split at e
  · rename_i d' h1
    cases e
    obtain ⟨v, e1, e2⟩ := w.val i d h1
    exact ⟨v, e1, q v F H (Go.refl ..) w e2⟩
  · cases e
theorem d_var (i : Nat) {x : Str} {pos : Pos} (hN : X.N[i]? = some x := by rfl) (hv : Vis X.env.scope x := by first | exact Or.inl rfl | exact Or.inr (Or.inl rfl) | exact Or.inr (Or.inr rfl)) (hd : (x == ("__debug__" : Str)) = false := by decide)
    (hcd : (x == ("__classdict__" : Str)) = false := by decide) : PE X (.Name x pos) (tD X.K (eVar i)) := pe_weak (pe_var hN hv hd hcd) var_ok
def eC (d : PyData) : FE := fun ρ => some (d, ρ)
theorem const_ok {K : PySem.W.Frag} {v : V} {d : PyData} (hd : ∀ F, Rp K F v d) (σ : L2.St) (H : Hp) (Q : VK) (h : tD K (eC d) σ H Q) : tC v σ H Q := by
  obtain ⟨F, ρ, d', ρ', w, e, q⟩ := h
  cases e
  exact q v F H (Go.refl ..) w (hd F)
theorem d_int {i j pos} : PE X (.Constant (.int i) j pos) (tD X.K (eC (.int i))) := pe_weak pe_int (const_ok fun _ => .int i)
theorem d_bl {b j pos} : PE X (.Constant (.bool b) j pos) (tD X.K (eC (.bool b))) := pe_weak pe_bl (const_ok fun _ => .bl b)
theorem d_non {j pos} : PE X (.Constant .none j pos) (tD X.K (eC .none)) := pe_weak pe_non (const_ok fun _ => .non)
theorem d_str {x j pos} : PE X (.Constant (.str x) j pos) (tD X.K (eC (.str x))) := pe_weak pe_str (const_ok fun _ => .str x)
/-- a constant of the module -/
theorem d_glob {x : Str} {v : V} {u : Value} {d : PyData} {pos : Pos} (hm : X.mg x = some u) (r : RelV v u) (hd : ∀ F, Rp X.K F v d) (hg : Gl X x := by rfl) (hdb : (x == ("__debug__" : Str)) = false := by decide) : PE X (.Name x pos) (tD X.K (eC d)) :=
  pe_weak (pe_glob hg hm r hdb) (const_ok hd)

/-! ### arguments, displays -/
def aNil : FL := fun ρ => some ([], ρ)
def aCons (f : FE) (g : FL) : FL := fun ρ => (f ρ).bind fun p => (g p.2).bind fun q => some (p.1 :: q.1, q.2)
theorem a_nil : PA X [] (aD X.K aNil) := pa_weak pa_nil fun σ H Q ⟨F, ρ, ds, ρ', w, e, q⟩ => by
  cases e
  exact q [] F H (Go.refl ..) w .nil
theorem a_cons {e : Expr} {es : List Expr} {f : FE} {g : FL} (he : PE X e (tD X.K f)) (hr : PA X es (aD X.K g)) (hs : starEach (e :: es) X.env = (false, eval e X.env) :: starEach es X.env := by rfl) : PA X (e :: es) (aD X.K (aCons f g)) :=
  pa_weak (pa_cons he hr hs) fun σ H Q ⟨F, ρ, ds, ρ', w, e, q⟩ => by
    obtain ⟨⟨x, ρ1⟩, e1, e⟩ := Option.bind_eq_some_iff.mp e
    obtain ⟨⟨xs, ρ2⟩, e2, e⟩ := Option.bind_eq_some_iff.mp e
    cases e
    refine ⟨F, ρ, x, ρ1, w, e1, fun v F1 H1 g1 w1 d1 => ⟨F1, ρ1, xs, _, w1, e2, fun vs F2 H2 g2 w2 d2 => ?_⟩⟩
    exact q (v :: vs) F2 H2 (g1.trans g2) w2 (.cons (d1.mono g2.grow) d2)
def few (n : Nat) : Bool := decide (n ≤ 1000000)
theorem few_ok {n : Nat} (h : few n = true) : n ≤ sizeLine := by
  have := of_decide_eq_true h
  rw [sizeLine_eq]; omega
def eTup (f : FL) : FE := fun ρ => (f ρ).bind fun p => if few p.1.length = true then some (.tuple p.1, p.2) else none
theorem d_tup {es : List Expr} {f : FL} {k : Nat} {pos : Pos} (h : PA X es (aD X.K f)) : PE X (.Tuple es k pos) (tD X.K (eTup f)) :=
  pe_weak (pe_tupX h) fun σ H Q ⟨F, ρ, d, ρ', w, e, q⟩ => by
    obtain ⟨⟨ds, ρ1⟩, e1, e⟩ := Option.bind_eq_some_iff.mp e
    split at e
    · rename_i hf
      cases e
      refine ⟨F, ρ, ds, _, w, e1, fun vs F1 H1 g1 w1 d1 => ⟨by rw [d1.length]; exact few_ok hf, fun p ob od hp => ?_⟩⟩
      have n := New.one (o := .frz ob (.tup vs)) w1.sub hp
      exact q _ _ _ (g1.trans (Go.new n)) (w1.new n) (.tup (.inl ⟨_, upd_same, od⟩) (d1.mono n.grow))
    · cases e
def oLst (f : FL) : FL := fun ρ => (f ρ).bind fun p => if few p.1.length = true then some (p.1, p.2) else none
theorem o_lst {es : List Expr} {f : FL} {pos : Pos} (h : PA X es (aD X.K f)) : PE X (.List es pos) (tO X.K (oLst f)) :=
  pe_weak (pe_lst h) fun σ H Q ⟨F, ρ, ds, ρ', w, e, q⟩ => by
    obtain ⟨⟨ds, ρ1⟩, e1, e⟩ := Option.bind_eq_some_iff.mp e
    split at e
    · rename_i hf
      cases e
      refine ⟨F, ρ, ds, _, w, e1, fun vs F1 H1 g1 w1 d1 => ⟨by rw [d1.length]; exact few_ok hf, fun p hp => ?_⟩⟩
      have n := New.side (o := .lst vs) w1.sub hp
      exact q p vs F1 _ (g1.trans (Go.new n)) (w1.new n) (g1.there p hp) (w1.sub.free hp) upd_same d1 (w1.notOw hp)
    · cases e
/-- a list of one's own becomes data -/
def eOf (f : FL) : FE := fun ρ => (f ρ).bind fun p => some (.list p.1, p.2)
theorem d_of {e : Expr} {f : FL} (h : PE X e (tO X.K f)) : PE X e (tD X.K (eOf f)) :=
  pe_weak h fun σ H Q ⟨F, ρ, d, ρ', w, e, q⟩ => by
    obtain ⟨⟨ds, ρ1⟩, e1, e⟩ := Option.bind_eq_some_iff.mp e
    cases e
    refine ⟨F, ρ, ds, _, w, e1, fun a vs F1 H1 g1 w1 h0 h1 h2 d1 no => ?_⟩
    have sm : Same F1 (upd F1 a (.lst vs)) := same_upd h1
    exact q _ _ _ (g1.freeze h0 h1) (w1.freeze h2 h1 no) (.lst (.inl (.inl upd_same)) (d1.mono sm))
end
end DL

/-! ## DL2 -/
set_option Elab.async false
set_option linter.all false
set_option maxRecDepth 100000
set_option maxHeartbeats 4000000
namespace DL
open PySem PySem.Spec PyProof.Rows L2

/-! ### operators by values -/
def OpD (K : PySem.W.Frag) (r : R2) (g : PyData → PyData → Option PyData) : Prop :=
  ∀ (F H : Hp) (v u : V) (x y d : PyData) (Q : VK), Same F H → Rp K F v x → Rp K F u y → g x y = some d → (∀ w F' H', New F H F' H' → Rp K F' w d → Q w H') → r v u H Q
def bin (g : PyData → PyData → Option PyData) (f1 f2 : FE) : FE := fun ρ => (f1 ρ).bind fun p => (f2 p.2).bind fun q => (g p.1 q.1).bind fun d => some (d, q.2)
section
variable {X : Cx} {a b c e : Expr} {f f1 f2 f3 : FE} {pos : Pos}
theorem bin_ok {K : PySem.W.Frag} {r : R2} {g : PyData → PyData → Option PyData} (h : OpD K r g) (σ : L2.St) (H : Hp) (Q : VK) (hq : tD K (bin g f1 f2) σ H Q) : tOp r (tD K f1) (tD K f2) σ H Q := by
  obtain ⟨F, ρ, d, ρ', w, e, q⟩ := hq
  obtain ⟨⟨x, ρ1⟩, e1, e⟩ := Option.bind_eq_some_iff.mp e
  obtain ⟨⟨y, ρ2⟩, e2, e⟩ := Option.bind_eq_some_iff.mp e
  obtain ⟨z, e3, e⟩ := Option.bind_eq_some_iff.mp e
  cases e
  refine ⟨F, ρ, x, ρ1, w, e1, fun v F1 H1 g1 w1 d1 => ⟨F1, ρ1, y, _, w1, e2, fun u F2 H2 g2 w2 d2 => ?_⟩⟩
  exact h F2 H2 v u x y _ Q w2.sub (d1.mono g2.grow) d2 e3 fun z F3 H3 n d3 => q z F3 H3 ((g1.trans g2).trans (Go.new n)) (w2.new n) d3
theorem d_bin {op : Operator} {r : R2} {g : PyData → PyData → Option PyData} (ho : OpR X (binaryOp op) r) (h : OpD X.K r g) (ha : PE X a (tD X.K f1)) (hb : PE X b (tD X.K f2)) : PE X (.BinOp a op b pos) (tD X.K (bin g f1 f2)) :=
  pe_weak (pe_op ho ha hb) (bin_ok h)
theorem d_cmp {op : CmpOp} {r : R2} {g : PyData → PyData → Option PyData} (ho : OpR X (compareOp op) r) (h : OpD X.K r g) (ha : PE X a (tD X.K f1)) (hb : PE X b (tD X.K f2)) (hm : behindInMarks op b = false) : PE X (.Compare a [op] [b] pos) (tD X.K (bin g f1 f2)) :=
  pe_weak (pe_cmpR ho ha hb hm) (bin_ok h)
/-- a value that is a truth value -/
theorem bool_in {K : PySem.W.Frag} (σ : L2.St) (H : Hp) (Q : Bool → Hp → Prop) (h : tBD K f σ H Q) : tD K f σ H fun x H1 => ∃ k, x = .bl k ∧ Q k H1 := by
  obtain ⟨F, ρ, k, ρ', w, e, q⟩ := h
  refine ⟨F, ρ, _, ρ', w, e, fun v F1 H1 g1 w1 d1 => ?_⟩
  cases d1
  exact ⟨k, rfl, q F1 H1 g1 w1⟩
theorem t_cmp {op : CmpOp} {r : R2} {g : PyData → PyData → Option PyData} (ho : OpR X (compareOp op) r) (h : OpD X.K r g) (ha : PE X a (tD X.K f1)) (hb : PE X b (tD X.K f2)) (hm : behindInMarks op b = false) : PT X (.Compare a [op] [b] pos) (tBD X.K (bin g f1 f2)) :=
  pt_weak (pt_cmpR ho ha hb hm) fun σ H Q hq => bin_ok h σ H _ (bool_in σ H Q hq)
theorem t_val (h : PE X e (tD X.K f)) (he : ∀ whole, isTrue e X.env whole = (do let v ← whole; standAt e.pos; holding [v] (truthy v)) := by intro _; rfl) : PT X e (tBD X.K f) :=
  pt_weak (pt_val h he) fun σ H Q hq => bool_in σ H Q hq

/-! ### and, or, not, if -/
def eNot (f : FE) : FE := fun ρ => (f ρ).bind fun p => match p.1 with
  | .bool b => some (.bool (!b), p.2)
  | _ => none
def eAnd (f g : FE) : FE := fun ρ => (f ρ).bind fun p => match p.1 with
  | .bool true => g p.2
  | .bool false => some (.bool false, p.2)
  | _ => none
def eOr (f g : FE) : FE := fun ρ => (f ρ).bind fun p => match p.1 with
  | .bool true => some (.bool true, p.2)
  | .bool false => g p.2
  | _ => none
def eIf (t f g : FE) : FE := fun ρ => (t ρ).bind fun p => match p.1 with
  | .bool true => f p.2
  | .bool false => g p.2
  | _ => none
theorem t_not (ha : PT X a (tBD X.K f)) : PT X (.UnaryOp .Not a pos) (tBD X.K (eNot f)) :=
  pt_weak (pt_not ha) fun σ H Q ⟨F, ρ, k, ρ', w, e, q⟩ => by
    obtain ⟨⟨x, ρ1⟩, e1, e⟩ := Option.bind_eq_some_iff.mp e
    cases x <;> try cases e
    rename_i b
    exact ⟨F, ρ, b, _, w, e1, q⟩
theorem d_not (ha : PE X a (tD X.K f)) : PE X (.UnaryOp .Not a pos) (tD X.K (eNot f)) :=
  pe_weak (pe_not ha) fun σ H Q ⟨F, ρ, d, ρ', w, e, q⟩ => by
    obtain ⟨⟨x, ρ1⟩, e1, e⟩ := Option.bind_eq_some_iff.mp e
    cases x <;> try cases e
    rename_i b
    refine ⟨F, ρ, .bool b, _, w, e1, fun v F1 H1 g1 w1 d1 => ?_⟩
    cases d1
    exact ⟨b, rfl, q _ F1 H1 g1 w1 (.bl _)⟩
theorem d_one {op} (h : PE X a (tD X.K f)) : PE X (.BoolOp op [a] pos) (tD X.K f) := pe_one h
theorem d_and {rest : List Expr} (ha : PE X a (tD X.K f1)) (hb : PE X (.BoolOp .And (b :: rest) pos) (tD X.K f2)) : PE X (.BoolOp .And (a :: b :: rest) pos) (tD X.K (eAnd f1 f2)) :=
  pe_weak (pe_and ha hb) fun σ H Q ⟨F, ρ, d, ρ', w, e, q⟩ => by
    obtain ⟨⟨x, ρ1⟩, e1, e⟩ := Option.bind_eq_some_iff.mp e
    cases x <;> try cases e
    rename_i k
    refine ⟨F, ρ, .bool k, ρ1, w, e1, fun v F1 H1 g1 w1 d1 => ?_⟩
    cases d1
    refine ⟨k, rfl, ?_⟩
    cases k with
    | true =>
      exact iteT ⟨F1, ρ1, d, ρ', w1, e, fun v F2 H2 g2 w2 d2 => q v F2 H2 (g1.trans g2) w2 d2⟩
    | false =>
      cases e
      exact iteF (q _ F1 H1 g1 w1 (.bl _))
theorem d_or {rest : List Expr} (ha : PE X a (tD X.K f1)) (hb : PE X (.BoolOp .Or (b :: rest) pos) (tD X.K f2)) : PE X (.BoolOp .Or (a :: b :: rest) pos) (tD X.K (eOr f1 f2)) :=
  pe_weak (pe_or ha hb) fun σ H Q ⟨F, ρ, d, ρ', w, e, q⟩ => by
    obtain ⟨⟨x, ρ1⟩, e1, e⟩ := Option.bind_eq_some_iff.mp e
    cases x <;> try cases e
    rename_i k
    refine ⟨F, ρ, .bool k, ρ1, w, e1, fun v F1 H1 g1 w1 d1 => ?_⟩
    cases d1
    refine ⟨k, rfl, ?_⟩
    cases k with
    | true =>
      cases e
      exact iteT (q _ F1 H1 g1 w1 (.bl _))
    | false =>
      exact iteF ⟨F1, ρ1, d, ρ', w1, e, fun v F2 H2 g2 w2 d2 => q v F2 H2 (g1.trans g2) w2 d2⟩
theorem w_and1 (ha : PT X a (tBD X.K f)) : PW X (.BoolOp .And [a] pos) (tBD X.K f) := pw_and1 ha
theorem w_or1 (ha : PT X a (tBD X.K f)) : PW X (.BoolOp .Or [a] pos) (tBD X.K f) := pw_or1 ha
theorem w_and {rest : List Expr} (ha : PT X a (tBD X.K f1)) (hb : PW X (.BoolOp .And (b :: rest) pos) (tBD X.K f2)) : PW X (.BoolOp .And (a :: b :: rest) pos) (tBD X.K (eAnd f1 f2)) :=
  pw_weak (pw_and ha hb) fun σ H Q ⟨F, ρ, d, ρ', w, e, q⟩ => by
    obtain ⟨⟨x, ρ1⟩, e1, e⟩ := Option.bind_eq_some_iff.mp e
    cases x <;> try cases e
    rename_i k
    refine ⟨F, ρ, k, ρ1, w, e1, fun F1 H1 g1 w1 => ?_⟩
    cases k with
    | true => exact iteT ⟨F1, ρ1, d, ρ', w1, e, fun F2 H2 g2 w2 => q F2 H2 (g1.trans g2) w2⟩
    | false =>
      cases e
      exact iteF (q F1 H1 g1 w1)
theorem w_or {rest : List Expr} (ha : PT X a (tBD X.K f1)) (hb : PW X (.BoolOp .Or (b :: rest) pos) (tBD X.K f2)) : PW X (.BoolOp .Or (a :: b :: rest) pos) (tBD X.K (eOr f1 f2)) :=
  pw_weak (pw_or ha hb) fun σ H Q ⟨F, ρ, d, ρ', w, e, q⟩ => by
    obtain ⟨⟨x, ρ1⟩, e1, e⟩ := Option.bind_eq_some_iff.mp e
    cases x <;> try cases e
    rename_i k
    refine ⟨F, ρ, k, ρ1, w, e1, fun F1 H1 g1 w1 => ?_⟩
    cases k with
    | true =>
      cases e
      exact iteT (q F1 H1 g1 w1)
    | false => exact iteF ⟨F1, ρ1, d, ρ', w1, e, fun F2 H2 g2 w2 => q F2 H2 (g1.trans g2) w2⟩
theorem d_if (hc : PT X c (tBD X.K f)) (ha : PE X a (tD X.K f1)) (hb : PE X b (tD X.K f2)) : PE X (.IfExp c a b pos) (tD X.K (eIf f f1 f2)) :=
  pe_weak (pe_ifExp hc ha hb) fun σ H Q ⟨F, ρ, d, ρ', w, e, q⟩ => by
    obtain ⟨⟨x, ρ1⟩, e1, e⟩ := Option.bind_eq_some_iff.mp e
    cases x <;> try cases e
    rename_i k
    refine ⟨F, ρ, k, ρ1, w, e1, fun F1 H1 g1 w1 => ?_⟩
    cases k with
    | true => exact iteT ⟨F1, ρ1, d, ρ', w1, e, fun v F2 H2 g2 w2 d2 => q v F2 H2 (g1.trans g2) w2 d2⟩
    | false => exact iteF ⟨F1, ρ1, d, ρ', w1, e, fun v F2 H2 g2 w2 d2 => q v F2 H2 (g1.trans g2) w2 d2⟩
/-- a list, or if it is empty another one -/
def oOr (f g : FL) : FL := fun ρ => (f ρ).bind fun p => match p.1 with
  | [] => g p.2
  | _ :: _ => some p
theorem o_or {fa fb : FL} (ha : PE X a (tO X.K fa)) (hb : PE X b (tO X.K fb)) : PE X (.BoolOp .Or [a, b] pos) (tO X.K (oOr fa fb)) :=
  pe_weak (pe_orT ha (pe_one hb)) fun σ H Q ⟨F, ρ, d, ρ', w, e, q⟩ => by
    obtain ⟨⟨ds, ρ1⟩, e1, e⟩ := Option.bind_eq_some_iff.mp e
    refine ⟨F, ρ, ds, ρ1, w, e1, fun p vs F1 H1 g1 w1 h0 h1 h2 d1 no => ?_⟩
    cases d1 with
    | nil =>
      refine ⟨false, .inl ⟨[], .inl (.inl h2), rfl⟩, iteF ⟨F1, ρ1, d, ρ', w1, e, fun p2 vs2 F2 H2 g2 w2 i0 i1 i2 d2 no2 => ?_⟩⟩
      exact q p2 vs2 F2 H2 (g1.trans g2) w2 (g1.there _ i0) i1 i2 d2 no2
    | cons d1 dr =>
      cases e
      exact ⟨true, .inl ⟨_, .inl (.inl h2), rfl⟩, iteT (q p _ F1 H1 g1 w1 h0 h1 h2 (.cons d1 dr) no)⟩
end

/-! ### arithmetic -/
def dAdd : PyData → PyData → Option PyData
  | .int i, .int j => some (.int (i + j))
  | .tuple xs, .tuple ys => if few (xs.length + ys.length) = true then some (.tuple (xs ++ ys)) else none
  | .list xs, .list ys => if few (xs.length + ys.length) = true then some (.list (xs ++ ys)) else none
  | _, _ => none
def dSub : PyData → PyData → Option PyData
  | .int i, .int j => some (.int (i - j))
  | _, _ => none
def mulOk (i j : Int) : Bool := (decide (-(2 ^ 64) < i) && decide (i < 2 ^ 64)) || (decide (-(2 ^ 64) < j) && decide (j < 2 ^ 64))
def repOk (n : Nat) (k : Int) : Bool := decide (n ≠ 0) && decide (2 ≤ k) && decide (k ≤ 1000) && decide (n ≤ 1000)
def dMul : PyData → PyData → Option PyData
  | .int i, .int j => if mulOk i j = true then some (.int (i * j)) else none
  | .tuple xs, .int k => if repOk xs.length k = true then some (.tuple (List.replicate k.toNat xs).flatten) else none
  | _, _ => none
def dDiv : PyData → PyData → Option PyData
  | .int i, .int j => if (decide (0 < j) && decide (j < 1073741824)) = true then some (.int (i / j)) else none
  | _, _ => none
def dMod : PyData → PyData → Option PyData
  | .int i, .int j => if decide (0 < j) = true then some (.int (i % j)) else none
  | _, _ => none
def dPow : PyData → PyData → Option PyData
  | .int i, .int j => if (decide (0 ≤ j) && decide (j ≤ 1000) && decide (i.natAbs < 1000)) = true then some (.int (i ^ j.toNat)) else none
  | _, _ => none
/-- list + list, whoever holds them -/
def rCatL (K : PySem.W.Frag) : R2 := fun x y H Q => ∃ l b xs zs, x = .ref l ∧ y = .ref b ∧ SqL K H l xs ∧ SqL K H b zs ∧ xs.length + zs.length ≤ sizeLine ∧ ∀ p, H p = none → Q (.ref p) (upd H p (.lst (xs ++ zs)))
section
variable {X : Cx}
theorem op_catL : OpR X (binaryOp .Add) (rCatL X.K) := by
  intro pins s σ H x y v u Q I rx ry h
  obtain ⟨l, b, xs, zs, rfl, rfl, hH, hB, hz, q⟩ := h
  cases rx
  cases ry
  obtain ⟨its, r, ⟨⟨cls, dd, data, sl⟩, n, e, hc, hd, hdt⟩, _⟩ := I.list hH
  obtain ⟨its2, r2, ⟨⟨cls2, dd2, data2, sl2⟩, n2, e2, hc2, hd2, hdt2⟩, _⟩ := I.list hB
  simp only at hc hd hdt hc2 hd2 hdt2
  subst hc hd hdt hc2 hd2 hdt2
  have hl := r.length
  have hl2 := r2.length
  have ea : its.toArray ++ its2.toArray = (its ++ its2).toArray := by simp
  refine concat_meets ⟨_, e, rfl⟩ ⟨_, e2, rfl⟩ noFill_list_add seq_list_add PySem.F.slot_list_add PySem.F.entry_list_add (PySem.F.args_list_add_2 _ _) (PyProof.Rows.list_addW l b its.toArray its2.toArray n n2 none none sl sl2 (by simp only [List.size_toArray]; omega)) ⟨e, e2, ?_⟩
  rw [ea]
  exact ⟨.ref _, _, I.lnew (t' := s.toks) (r.append r2) (by rw [List.length_append]; omega), rfl, q _ I.fresh⟩
end
end DL

/-! ## DL3 -/
set_option Elab.async false
set_option linter.all false
set_option maxRecDepth 100000
set_option maxHeartbeats 4000000
namespace DL
open PySem PySem.Spec PyProof.Rows L2

section
variable {K : PySem.W.Frag}
abbrev rAddD (K : PySem.W.Frag) : R2 := fun x y H Q => (rI0 fun i j => .int (i + j)) x y H Q ∨ (rCatX K x y H Q ∨ rCatL K x y H Q)
theorem add_D : OpD K (rAddD K) dAdd := by
  intro F H v u x y d Q sm hx hy e q
  cases hx with
  | int i =>
    cases hy with
    | int j =>
      cases e
      exact .inl ⟨i, j, rfl, rfl, q _ F H (New.refl sm) (.int _)⟩
    | _ => cases e
  | @tup a xs ds h1 h2 =>
    cases hy with
    | @tup b ys es h3 h4 =>
      simp only [dAdd] at e
      split at e
      · rename_i hf
        cases e
        have l1 := h2.length
        have l2 := h4.length
        have hfw := few_ok hf
        refine .inr (.inl ⟨a, b, xs, ys, rfl, rfl, seqX sm h1, seqX sm h3, by omega, fun z => ?_, fun z1 z2 => ?_, fun _ _ p ob od hp => ?_⟩)
        · subst z
          cases h2
          exact q _ F H (New.refl sm) (.tup h3 h4)
        · subst z2
          cases h4
          rw [List.append_nil] at q
          exact q _ F H (New.refl sm) (.tup h1 h2)
        · have n := New.one (o := .frz ob (.tup (xs ++ ys))) sm hp
          exact q _ _ _ n (.tup (.inl ⟨_, upd_same, od⟩) ((h2.append h4).mono n.grow))
      · cases e
    | _ => cases e
  | @lst a xs ds h1 h2 =>
    cases hy with
    | @lst b ys es h3 h4 =>
      simp only [dAdd] at e
      split at e
      · rename_i hf
        cases e
        have l1 := h2.length
        have l2 := h4.length
        have hfw := few_ok hf
        refine .inr (.inr ⟨a, b, xs, ys, rfl, rfl, sm.seq h1, sm.seq h3, by omega, fun p hp => ?_⟩)
        have n := New.one (o := .lst (xs ++ ys)) sm hp
        exact q _ _ _ n (.lst (.inl (.inl upd_same)) ((h2.append h4).mono n.grow))
      · cases e
    | _ => cases e
  | _ => cases e
theorem sub_D : OpD K (rI0 fun i j => .int (i - j)) dSub := by
  intro F H v u x y d Q sm hx hy e q
  cases hx <;> cases hy <;> cases e
  exact ⟨_, _, rfl, rfl, q _ F H (New.refl sm) (.int _)⟩
abbrev rMulD (K : PySem.W.Frag) : R2 := fun x y H Q => (rI CMul fun i j => .int (i * j)) x y H Q ∨ rRepX K x y H Q
theorem mul_D : OpD K (rMulD K) dMul := by
  intro F H v u x y d Q sm hx hy e q
  cases hx with
  | int i =>
    cases hy with
    | int j =>
      simp only [dMul] at e
      split at e
      · rename_i hm
        cases e
        refine .inl ⟨i, j, rfl, rfl, ?_, q _ F H (New.refl sm) (.int _)⟩
        rcases Bool.or_eq_true_iff.mp hm with z | z
        · exact .inl ⟨of_decide_eq_true (Bool.and_eq_true_iff.mp z).1, of_decide_eq_true (Bool.and_eq_true_iff.mp z).2⟩
        · exact .inr ⟨of_decide_eq_true (Bool.and_eq_true_iff.mp z).1, of_decide_eq_true (Bool.and_eq_true_iff.mp z).2⟩
      · cases e
    | _ => cases e
  | @tup a xs ds h1 h2 =>
    cases hy with
    | int k =>
      simp only [dMul] at e
      split at e
      · rename_i hm
        cases e
        have l1 := h2.length
        simp only [repOk, Bool.and_eq_true, decide_eq_true_eq] at hm
        obtain ⟨⟨⟨m1, m2⟩, m3⟩, m4⟩ := hm
        refine .inr ⟨a, k, xs, rfl, rfl, seqX sm h1, fun z => ?_, m2, m3, by omega, fun p ob od hp => ?_⟩
        · subst z
          exact m1 l1.symm
        · have n := New.one (o := .frz ob (.tup (List.replicate k.toNat xs).flatten)) sm hp
          exact q _ _ _ n (.tup (.inl ⟨_, upd_same, od⟩) ((h2.rep k.toNat).mono n.grow))
      · cases e
    | _ => cases e
  | _ => cases e
theorem div_D : OpD K (rI CDiv fun i j => .int (i / j)) dDiv := by
  intro F H v u x y d Q sm hx hy e q
  cases hx <;> cases hy <;> try cases e
  rename_i i j
  simp only [dDiv] at e
  split at e
  · rename_i hm
    cases e
    exact ⟨i, j, rfl, rfl, ⟨of_decide_eq_true (Bool.and_eq_true_iff.mp hm).1, of_decide_eq_true (Bool.and_eq_true_iff.mp hm).2⟩, q _ F H (New.refl sm) (.int _)⟩
  · cases e
theorem mod_D : OpD K (rI (fun _ j => 0 < j) fun i j => .int (i % j)) dMod := by
  intro F H v u x y d Q sm hx hy e q
  cases hx <;> cases hy <;> try cases e
  rename_i i j
  simp only [dMod] at e
  split at e
  · rename_i hm
    cases e
    exact ⟨i, j, rfl, rfl, of_decide_eq_true hm, q _ F H (New.refl sm) (.int _)⟩
  · cases e
theorem pow_D : OpD K (rI CPow fun i j => .int (i ^ j.toNat)) dPow := by
  intro F H v u x y d Q sm hx hy e q
  cases hx <;> cases hy <;> try cases e
  rename_i i j
  simp only [dPow] at e
  split at e
  · rename_i hm
    cases e
    simp only [Bool.and_eq_true, decide_eq_true_eq] at hm
    exact ⟨i, j, rfl, rfl, ⟨hm.1.1, by omega, by omega⟩, q _ F H (New.refl sm) (.int _)⟩
  · cases e
/-! ### comparisons -/
def dInt (p : Int → Int → Bool) : PyData → PyData → Option PyData
  | .int i, .int j => some (.bool (p i j))
  | _, _ => none
theorem int_D {p : Int → Int → Bool} : OpD K (rI0 fun i j => .bl (p i j)) (dInt p) := by
  intro F H v u x y d Q sm hx hy e q
  cases hx <;> cases hy <;> cases e
  exact ⟨_, _, rfl, rfl, q _ F H (New.refl sm) (.bl _)⟩
def dEq (x y : PyData) : Option PyData := if (SeqAt.shaped x && SeqAt.shaped y) = true then some (.bool (PyData.eqv x y)) else none
def dNe (x y : PyData) : Option PyData := if (SeqAt.shaped x && SeqAt.shaped y) = true then some (.bool (!PyData.eqv x y)) else none
theorem eq_D : OpD K (rEqD K) dEq := by
  intro F H v u x y d Q sm hx hy e q
  simp only [dEq] at e
  split at e
  · rename_i hm
    cases e
    exact ⟨x, y, hx.dp sm, hy.dp sm, (Bool.and_eq_true_iff.mp hm).1, (Bool.and_eq_true_iff.mp hm).2, q _ F H (New.refl sm) (.bl _)⟩
  · cases e
theorem ne_D : OpD K (rNeD K) dNe := by
  intro F H v u x y d Q sm hx hy e q
  simp only [dNe] at e
  split at e
  · rename_i hm
    cases e
    exact ⟨x, y, hx.dp sm, hy.dp sm, (Bool.and_eq_true_iff.mp hm).1, (Bool.and_eq_true_iff.mp hm).2, q _ F H (New.refl sm) (.bl _)⟩
  · cases e
def dIn (x : PyData) : PyData → Option PyData
  | .tuple ds => if (SeqAt.shaped x && SeqAt.shaped (.tuple ds)) = true then some (.bool (ds.any fun z => PyData.eqv z x)) else none
  | _ => none
def rInT (K : PySem.W.Frag) : R2 := fun x y H Q => ∃ d ds, Dp K H x d ∧ Dp K H y (.tuple ds) ∧ SeqAt.shaped d = true ∧ SeqAt.shaped (.tuple ds) = true ∧ Q (.bl (ds.any fun z => PyData.eqv z d)) H
theorem op_inT {X : Cx} (hu : X.A.units + 65 < cLine) : OpR X (compareOp .In) (rInT X.K) := by
  intro pins s σ H x y v u Q I rx ry h
  obtain ⟨d, ds, hd, he, sd, se, q⟩ := h
  obtain ⟨as, r1⟩ := Dp.reads I d x v hd rx
  obtain ⟨bs, r2⟩ := Dp.reads I (.tuple ds) y u he ry
  exact SeqAt.in_tuple_reads r2 r1 (SeqAt.canLay_of_shaped (d := .tuple ds) se) (SeqAt.canLay_of_shaped sd) (room_in_shaped sd hu) ⟨.bl _, H, I, rfl, q⟩
theorem in_D : OpD K (rInT K) dIn := by
  intro F H v u x y d Q sm hx hy e q
  cases y <;> try cases e
  rename_i ds
  simp only [dIn] at e
  split at e
  · rename_i hm
    cases e
    exact ⟨x, ds, hx.dp sm, hy.dp sm, (Bool.and_eq_true_iff.mp hm).1, (Bool.and_eq_true_iff.mp hm).2, q _ F H (New.refl sm) (.bl _)⟩
  · cases e
end
theorem room65 {k : Nat} {A : Around} (hr : Room (k + 1) A) : A.units + 65 < cLine := by
  have := hr.un
  omega
section
variable {X : Cx} {a b c e : Expr} {f f1 f2 f3 : FE} {pos : Pos} {k : Nat}
theorem d_add (ha : PE X a (tD X.K f1)) (hb : PE X b (tD X.K f2)) : PE X (.BinOp a .Add b pos) (tD X.K (bin dAdd f1 f2)) := d_bin (op_add.or (op_catX.or op_catL)) add_D ha hb
theorem d_sub (ha : PE X a (tD X.K f1)) (hb : PE X b (tD X.K f2)) : PE X (.BinOp a .Sub b pos) (tD X.K (bin dSub f1 f2)) := d_bin op_sub sub_D ha hb
theorem d_mul (ha : PE X a (tD X.K f1)) (hb : PE X b (tD X.K f2)) : PE X (.BinOp a .Mult b pos) (tD X.K (bin dMul f1 f2)) := d_bin (op_mul.or op_repX) mul_D ha hb
theorem d_div (ha : PE X a (tD X.K f1)) (hb : PE X b (tD X.K f2)) : PE X (.BinOp a .FloorDiv b pos) (tD X.K (bin dDiv f1 f2)) := d_bin op_fdiv div_D ha hb
theorem d_mod (ha : PE X a (tD X.K f1)) (hb : PE X b (tD X.K f2)) : PE X (.BinOp a .Mod b pos) (tD X.K (bin dMod f1 f2)) := d_bin op_mod mod_D ha hb
theorem d_pow (ha : PE X a (tD X.K f1)) (hb : PE X b (tD X.K f2)) : PE X (.BinOp a .Pow b pos) (tD X.K (bin dPow f1 f2)) := d_bin op_pow pow_D ha hb
abbrev dLt : PyData → PyData → Option PyData := dInt fun i j => decide (i < j)
abbrev dLe : PyData → PyData → Option PyData := dInt fun i j => decide (i ≤ j)
abbrev dGt : PyData → PyData → Option PyData := dInt fun i j => decide (j < i)
abbrev dGe : PyData → PyData → Option PyData := dInt fun i j => decide (j ≤ i)
theorem d_lt (ha : PE X a (tD X.K f1)) (hb : PE X b (tD X.K f2)) : PE X (.Compare a [.Lt] [b] pos) (tD X.K (bin dLt f1 f2)) := d_cmp op_lt int_D ha hb (nomark _)
theorem d_le (ha : PE X a (tD X.K f1)) (hb : PE X b (tD X.K f2)) : PE X (.Compare a [.LtE] [b] pos) (tD X.K (bin dLe f1 f2)) := d_cmp op_le int_D ha hb (nomark _)
theorem d_gt (ha : PE X a (tD X.K f1)) (hb : PE X b (tD X.K f2)) : PE X (.Compare a [.Gt] [b] pos) (tD X.K (bin dGt f1 f2)) := d_cmp op_gt int_D ha hb (nomark _)
theorem d_ge (ha : PE X a (tD X.K f1)) (hb : PE X b (tD X.K f2)) : PE X (.Compare a [.GtE] [b] pos) (tD X.K (bin dGe f1 f2)) := d_cmp op_ge int_D ha hb (nomark _)
theorem d_eq (hr : Room k X.A) (ha : PE X a (tD X.K f1)) (hb : PE X b (tD X.K f2)) : PE X (.Compare a [.Eq] [b] pos) (tD X.K (bin dEq f1 f2)) := d_cmp (op_eqD hr.units) eq_D ha hb (nomark _)
theorem d_ne (hr : Room k X.A) (ha : PE X a (tD X.K f1)) (hb : PE X b (tD X.K f2)) : PE X (.Compare a [.NotEq] [b] pos) (tD X.K (bin dNe f1 f2)) := d_cmp (op_neD hr.units) ne_D ha hb (nomark _)
theorem d_in (hr : Room (k + 1) X.A) (ha : PE X a (tD X.K f1)) (hb : PE X b (tD X.K f2)) (hm : behindInMarks .In b = false := by rfl) : PE X (.Compare a [.In] [b] pos) (tD X.K (bin dIn f1 f2)) := d_cmp (op_inT (room65 hr)) in_D ha hb hm
theorem t_lt (ha : PE X a (tD X.K f1)) (hb : PE X b (tD X.K f2)) : PT X (.Compare a [.Lt] [b] pos) (tBD X.K (bin dLt f1 f2)) := t_cmp op_lt int_D ha hb (nomark _)
theorem t_le (ha : PE X a (tD X.K f1)) (hb : PE X b (tD X.K f2)) : PT X (.Compare a [.LtE] [b] pos) (tBD X.K (bin dLe f1 f2)) := t_cmp op_le int_D ha hb (nomark _)
theorem t_gt (ha : PE X a (tD X.K f1)) (hb : PE X b (tD X.K f2)) : PT X (.Compare a [.Gt] [b] pos) (tBD X.K (bin dGt f1 f2)) := t_cmp op_gt int_D ha hb (nomark _)
theorem t_ge (ha : PE X a (tD X.K f1)) (hb : PE X b (tD X.K f2)) : PT X (.Compare a [.GtE] [b] pos) (tBD X.K (bin dGe f1 f2)) := t_cmp op_ge int_D ha hb (nomark _)
theorem t_eq (hr : Room k X.A) (ha : PE X a (tD X.K f1)) (hb : PE X b (tD X.K f2)) : PT X (.Compare a [.Eq] [b] pos) (tBD X.K (bin dEq f1 f2)) := t_cmp (op_eqD hr.units) eq_D ha hb (nomark _)
theorem t_ne (hr : Room k X.A) (ha : PE X a (tD X.K f1)) (hb : PE X b (tD X.K f2)) : PT X (.Compare a [.NotEq] [b] pos) (tBD X.K (bin dNe f1 f2)) := t_cmp (op_neD hr.units) ne_D ha hb (nomark _)
theorem t_in (hr : Room (k + 1) X.A) (ha : PE X a (tD X.K f1)) (hb : PE X b (tD X.K f2)) (hm : behindInMarks .In b = false := by rfl) : PT X (.Compare a [.In] [b] pos) (tBD X.K (bin dIn f1 f2)) := t_cmp (op_inT (room65 hr)) in_D ha hb hm
/-- a <= b <= c -/
def eChain (g g' : PyData → PyData → Option PyData) (f1 f2 f3 : FE) : FE := fun ρ => (f1 ρ).bind fun p => (f2 p.2).bind fun q => match g p.1 q.1 with
  | some (.bool true) => (f3 q.2).bind fun r => (g' q.1 r.1).bind fun d => some (d, r.2)
  | some (.bool false) => some (.bool false, q.2)
  | _ => none
theorem d_chain {op op' : CmpOp} {r r' : R2} {g g' : PyData → PyData → Option PyData} (ho : OpR X (compareOp op) r) (ho' : OpR X (compareOp op') r') (hd : OpD X.K r g) (hd' : OpD X.K r' g') (ha : PE X a (tD X.K f1)) (hb : PE X b (tD X.K f2)) (hc : PE X c (tD X.K f3))
    (hm : lastMarks [op, op'] [b, c] = false := by with_unfolding_all rfl) : PE X (.Compare a [op, op'] [b, c] pos) (tD X.K (eChain g g' f1 f2 f3)) :=
  pe_weak (pe_chain ho ho' ha hb hc hm) fun σ H Q ⟨F, ρ, d, ρ', w, e, q⟩ => by
    obtain ⟨⟨x, ρ1⟩, e1, e⟩ := Option.bind_eq_some_iff.mp e
    obtain ⟨⟨y, ρ2⟩, e2, e⟩ := Option.bind_eq_some_iff.mp e
    refine ⟨F, ρ, x, ρ1, w, e1, fun v F1 H1 g1 w1 d1 => ⟨F1, ρ1, y, _, w1, e2, fun u F2 H2 g2 w2 d2 => ?_⟩⟩
    split at e
    · rename_i e3
      obtain ⟨⟨z, ρ3⟩, e4, e⟩ := Option.bind_eq_some_iff.mp e
      obtain ⟨t, e5, e⟩ := Option.bind_eq_some_iff.mp e
      cases e
      refine hd F2 H2 v u x y _ _ w2.sub (d1.mono g2.grow) d2 e3 fun w0 F3 H3 n d3 => ?_
      cases d3
      refine ⟨true, rfl, iteT ⟨F3, ρ2, z, _, w2.new n, e4, fun w4 F4 H4 g4 w4' d4 => ?_⟩⟩
      refine hd' F4 H4 u w4 y z _ _ w4'.sub (d2.mono (n.grow.trans g4.grow)) d4 e5 fun w5 F5 H5 n5 d5 => ?_
      exact q _ F5 H5 ((((g1.trans g2).trans (Go.new n)).trans g4).trans (Go.new n5)) (w4'.new n5) d5
    · rename_i e3
      cases e
      refine hd F2 H2 v u x y _ _ w2.sub (d1.mono g2.grow) d2 e3 fun w0 F3 H3 n d3 => ?_
      cases d3
      exact ⟨false, rfl, iteF (q _ F3 H3 ((g1.trans g2).trans (Go.new n)) (w2.new n) (.bl _))⟩
    · cases e
def eNeg (f : FE) : FE := fun ρ => (f ρ).bind fun p => match p.1 with
  | .int i => some (.int (-i), p.2)
  | _ => none
theorem d_neg (ha : PE X a (tD X.K f)) : PE X (.UnaryOp .USub a pos) (tD X.K (eNeg f)) :=
  pe_weak (pe_un un_neg ha) fun σ H Q ⟨F, ρ, d, ρ', w, e, q⟩ => by
    obtain ⟨⟨x, ρ1⟩, e1, e⟩ := Option.bind_eq_some_iff.mp e
    cases x <;> try cases e
    rename_i i
    refine ⟨F, ρ, .int i, _, w, e1, fun v F1 H1 g1 w1 d1 => ?_⟩
    cases d1
    exact ⟨i, rfl, q _ F1 H1 g1 w1 (.int _)⟩
def isNon : PyData → Bool
  | .none => true
  | _ => false
def eIsN (f : FE) : FE := fun ρ => (f ρ).bind fun p => some (.bool (isNon p.1), p.2)
theorem non_iff {K : PySem.W.Frag} {F : Hp} {v : V} {d : PyData} (h : Rp K F v d) : decide (v = .non) = isNon d := by
  cases h <;> simp [isNon]
theorem isN_ok (σ : L2.St) (H : Hp) (Q : VK) (h : tD X.K (eIsN f) σ H Q) : tIsN (tD X.K f) σ H Q := by
  obtain ⟨F, ρ, d, ρ', w, e, q⟩ := h
  obtain ⟨⟨x, ρ1⟩, e1, e⟩ := Option.bind_eq_some_iff.mp e
  cases e
  refine ⟨F, ρ, x, _, w, e1, fun v F1 H1 g1 w1 d1 => ?_⟩
  show Q (V.bl (decide (v = V.non))) H1
  rw [non_iff d1]
  exact q _ F1 H1 g1 w1 (.bl _)
theorem d_isN {j p'} (ha : PE X a (tD X.K f)) : PE X (.Compare a [.Is] [.Constant .none j p'] pos) (tD X.K (eIsN f)) := pe_weak (pe_cmp (pc_isN ha) rfl) isN_ok
theorem t_isN {j p'} (ha : PE X a (tD X.K f)) : PT X (.Compare a [.Is] [.Constant .none j p'] pos) (tBD X.K (eIsN f)) :=
  pt_weak (pt_cmp (pc_isN ha) rfl) fun σ H Q hq => isN_ok σ H _ (bool_in σ H Q hq)
end

/-! ### isinstance -/
def tyN : PyData → String
  | .none => "NoneType"
  | .bool _ => "bool"
  | .int _ => "int"
  | .str _ => "str"
  | .list _ => "list"
  | .tuple _ => "tuple"
  | .dict _ => "dict"
inductive Ty where
  | int | bool | str | list | tuple
def Ty.nm : Ty → String
  | .int => "int"
  | .bool => "bool"
  | .str => "str"
  | .list => "list"
  | .tuple => "tuple"
def Ty.has : Ty → PyData → Bool
  | .int, .int _ => true
  | .int, .bool _ => true
  | .bool, .bool _ => true
  | .str, .str _ => true
  | .list, .list _ => true
  | .tuple, .tuple _ => true
  | _, _ => false
theorem tyX_of {K : PySem.W.Frag} {F : Hp} {v : V} {d : PyData} (h : Rp K F v d) : TyX K F v (.type (tyN d)) := by
  cases h with
  | non => exact .base .non
  | bl b => exact .base (.bl b)
  | int i => exact .base (.int i)
  | str x => exact .base (.str x)
  | lst h _ =>
    rcases h with (h | ⟨o, h⟩) | ⟨o, its, n, h, c, _⟩
    · exact .base (.lst h)
    · exact .base (.frz h)
    · exact .kList h c
  | tup h _ =>
    rcases h with ⟨o, h, _⟩ | ⟨o, its, n, h, c, _⟩
    · exact .fTuple h
    · exact .kTuple h c
def hasN (t : Ty) (n : String) : Bool := n == t.nm || (match t with | .int => n == "bool" | _ => false)
theorem kits : (["NoneType", "bool", "int", "str", "list", "tuple"].all fun n => [Ty.int, .bool, .str, .list, .tuple].all fun t => kitB n t.nm == some (hasN t n)) = true := by decide +kernel
theorem kit_one {n : String} (hn : n ∈ ["NoneType", "bool", "int", "str", "list", "tuple"]) (t : Ty) : kitB n t.nm = some (hasN t n) := by
  have h1 := List.all_eq_true.mp kits n hn
  have h2 := List.all_eq_true.mp h1 t (by cases t <;> simp)
  simpa using h2
theorem has_nm {K : PySem.W.Frag} {F : Hp} {v : V} {d : PyData} (h : Rp K F v d) (t : Ty) : hasN t (tyN d) = t.has d := by
  cases h <;> cases t <;> simp [hasN, tyN, Ty.nm, Ty.has]
theorem kit_D {K : PySem.W.Frag} {F : Hp} {v : V} {d : PyData} (h : Rp K F v d) (t : Ty) : PySem.W.kitOne K (.type (tyN d)) (.type t.nm) = some (t.has d) := by
  rw [← has_nm h t]
  refine kit_ty (kit_one ?_ t)
  cases h <;> simp [tyN]
def eIsi (t : Ty) (f : FE) : FE := fun ρ => (f ρ).bind fun p => some (.bool (t.has p.1), p.2)
def eIsi2 (t u : Ty) (f : FE) : FE := fun ρ => (f ρ).bind fun p => some (.bool (t.has p.1 || u.has p.1), p.2)
section
variable {X : Cx} {a b c e : Expr} {f f1 f2 f3 : FE} {p pos p1 p2 : Pos} {k : Nat}
/-- a built-in class's name -/
theorem pe_ty (t : Ty) {x : Str} (hm : X.mg x = none) (hv : bootBuiltins x = some (.type t.nm) := by decide +kernel) (hg : Gl X x := by rfl) (hn : x ≠ "__name__" := by decide) (hd : (x == ("__debug__" : Str)) = false := by decide) : PE X (.Name x pos) (tC (.ty t.nm)) :=
  pe_bltn hg hm hv rfl hn hd
theorem d_isi (t : Ty) (hm : X.mg "isinstance" = none) (ha : PE X a (tD X.K f)) (ht : PE X c (tC (.ty t.nm))) (hg : Gl X "isinstance" := by rfl)
    (h1 : starEach [a, c] X.env = (false, eval a X.env) :: starEach [c] X.env := by rfl) (h2 : starEach [c] X.env = (false, eval c X.env) :: starEach [] X.env := by rfl) (h3 : (backTo pos (starEach [c] X.env)).any (·.1) = false := by rfl) :
    PE X (.Call (.Name "isinstance" p) [a, c] [] pos) (tD X.K (eIsi t f)) :=
  pe_weak (pe_callB call_isi hg hm (by decide +kernel) (pa_cons ha (pa_cons ht pa_nil h2) h1) (by decide) (by decide) h1 h3) fun σ H Q ⟨F, ρ, d, ρ', w, e, q⟩ => by
    obtain ⟨⟨x, ρ1⟩, e1, e⟩ := Option.bind_eq_some_iff.mp e
    cases e
    refine ⟨F, ρ, x, _, w, e1, fun v F1 H1 g1 w1 d1 => ?_⟩
    have d2 := d1.mono w1.sub
    exact ⟨v, .ty t.nm, _, _, t.has x, rfl, .ty _, tyX_of d2, kit_D d2 t, q _ F1 H1 g1 w1 (.bl _)⟩
theorem d_isi2 (t u : Ty) {j : Nat} {tp : Pos} (hm : X.mg "isinstance" = none) (ha : PE X a (tD X.K f)) (ht : PE X b (tC (.ty t.nm))) (hu : PE X c (tC (.ty u.nm))) (hg : Gl X "isinstance" := by rfl)
    (h1 : starEach [a, .Tuple [b, c] j tp] X.env = (false, eval a X.env) :: starEach [.Tuple [b, c] j tp] X.env := by rfl) (h2 : starEach [.Tuple [b, c] j tp] X.env = (false, eval (.Tuple [b, c] j tp) X.env) :: starEach [] X.env := by rfl) (h3 : (backTo pos (starEach [.Tuple [b, c] j tp] X.env)).any (·.1) = false := by rfl)
    (h4 : starEach [b, c] X.env = (false, eval b X.env) :: starEach [c] X.env := by rfl) (h5 : starEach [c] X.env = (false, eval c X.env) :: starEach [] X.env := by rfl) :
    PE X (.Call (.Name "isinstance" p) [a, .Tuple [b, c] j tp] [] pos) (tD X.K (eIsi2 t u f)) :=
  pe_weak (pe_callB call_isiT hg hm (by decide +kernel) (pa_cons ha (pa_cons (pe_tup (pa_cons ht (pa_cons hu pa_nil h5) h4)) pa_nil h2) h1) (by decide) (by decide) h1 h3) fun σ H Q ⟨F, ρ, d, ρ', w, e, q⟩ => by
    obtain ⟨⟨x, ρ1⟩, e1, e⟩ := Option.bind_eq_some_iff.mp e
    cases e
    refine ⟨F, ρ, x, _, w, e1, fun v F1 H1 g1 w1 d1 => ⟨by show 2 ≤ sizeLine; decide, fun tp hp => ?_⟩⟩
    have n := New.side (o := .tup [.ty t.nm, .ty u.nm]) w1.sub hp
    have d2 := d1.mono (w1.sub.trans n.keep)
    refine ⟨v, tp, _, _, [.type t.nm, .type u.nm], _, rfl, upd_same, .cons (.ty _) (.cons (.ty _) .nil), tyX_of d2, ?_, q _ F1 _ (g1.trans (Go.new n)) (w1.new n) (.bl _)⟩
    refine kitAny_cons (kit_D d2 t) (fun e => ?_) (fun e => by rw [e]; rfl)
    refine kitAny_cons (kit_D d2 u) (fun e2 => by rw [e, e2]; rfl) (fun e2 => by rw [e, e2]; rfl)
end
end DL

/-! ## DL4 -/
set_option Elab.async false
set_option linter.all false
set_option maxRecDepth 100000
set_option maxHeartbeats 4000000
namespace DL
open PySem PySem.Spec PyProof.Rows L2

/-! ### calls of built-ins -/
def CallD (K : PySem.W.Frag) (r : List V → Hp → VK → Prop) (g : List PyData → Option PyData) : Prop :=
  ∀ (F H : Hp) (vs : List V) (ds : List PyData) (d : PyData) (Q : VK), Same F H → RpAll K F vs ds → g ds = some d → (∀ w F' H', New F H F' H' → Rp K F' w d → Q w H') → r vs H Q
def call (g : List PyData → Option PyData) (f : FL) : FE := fun ρ => (f ρ).bind fun p => (g p.1).bind fun d => some (d, p.2)
section
variable {X : Cx} {a b c e : Expr} {es : List Expr} {f f1 f2 f3 : FE} {fl : FL} {p pos : Pos} {k : Nat} {x : Str} {T cid : String} {r : List V → Hp → VK → Prop} {g : List PyData → Option PyData}
theorem call_ok {K : PySem.W.Frag} (h : CallD K r g) (σ : L2.St) (H : Hp) (Q : VK) (hq : tD K (call g fl) σ H Q) : tCB r (aD K fl) σ H Q := by
  obtain ⟨F, ρ, d, ρ', w, e, q⟩ := hq
  obtain ⟨⟨ds, ρ1⟩, e1, e⟩ := Option.bind_eq_some_iff.mp e
  obtain ⟨z, e3, e⟩ := Option.bind_eq_some_iff.mp e
  cases e
  refine ⟨F, ρ, ds, _, w, e1, fun vs F1 H1 g1 w1 d1 => ?_⟩
  exact h F1 H1 vs ds _ Q w1.sub d1 e3 fun z F3 H3 n d3 => q z F3 H3 (g1.trans (Go.new n)) (w1.new n) d3
theorem d_callB (hc : CallR X (.builtin cid) r) (h : CallD X.K r g) (hm : X.mg x = none) (ha : PA X (e :: es) (aD X.K fl)) (hv : bootBuiltins x = some (.builtin cid)) (hg : Gl X x) (hn : x ≠ "__name__") (hdb : (x == ("__debug__" : Str)) = false)
    (he : starEach (e :: es) X.env = (false, eval e X.env) :: starEach es X.env) (hpl : (backTo pos (starEach es X.env)).any (·.1) = false) : PE X (.Call (.Name x p) (e :: es) [] pos) (tD X.K (call g fl)) :=
  pe_weak (pe_callB hc hg hm hv ha hn hdb he hpl) (call_ok h)
theorem d_callTy (hc : CallR X (.type T) r) (h : CallD X.K r g) (hm : X.mg x = none) (ha : PA X (e :: es) (aD X.K fl)) (hv : bootBuiltins x = some (.type T)) (hg : Gl X x) (hn : x ≠ "__name__") (hdb : (x == ("__debug__" : Str)) = false)
    (he : starEach (e :: es) X.env = (false, eval e X.env) :: starEach es X.env) (hpl : (backTo pos (starEach es X.env)).any (·.1) = false) : PE X (.Call (.Name x p) (e :: es) [] pos) (tD X.K (call g fl)) :=
  pe_weak (pe_callTy hc hg hm hv ha hn hdb he hpl) (call_ok h)
def dLen : List PyData → Option PyData
  | [.list ds] => some (.int ds.length)
  | [.tuple ds] => some (.int ds.length)
  | _ => none
theorem one_D {K : PySem.W.Frag} {F : Hp} {vs : List V} {d : PyData} (h : RpAll K F vs [d]) : ∃ v, vs = [v] ∧ Rp K F v d := by
  cases h with
  | cons h t =>
    cases t
    exact ⟨_, rfl, h⟩
theorem len_D {K : PySem.W.Frag} : CallD K (fun xs H Q => ∃ p ys, xs = [.ref p] ∧ (SqL K H p ys ∨ SqT K H p ys) ∧ Q (.int ys.length) H) dLen := by
  intro F H vs ds d Q sm hd e q
  unfold dLen at e
  split at e
  · cases e
    obtain ⟨v, rfl, h⟩ := one_D hd
    cases h with
    | lst h1 h2 => exact ⟨_, _, rfl, .inl (sm.seq h1), by rw [h2.length]; exact q _ F H (New.refl sm) (.int _)⟩
  · cases e
    obtain ⟨v, rfl, h⟩ := one_D hd
    cases h with
    | tup h1 h2 => exact ⟨_, _, rfl, .inr (seqX sm h1), by rw [h2.length]; exact q _ F H (New.refl sm) (.int _)⟩
  · cases e
def bools : List PyData → Option (List Bool)
  | [] => some []
  | .bool b :: r => (bools r).bind fun bs => some (b :: bs)
  | _ :: _ => none
def intsOf : List PyData → Option (List Int)
  | [] => some []
  | .int b :: r => (intsOf r).bind fun bs => some (b :: bs)
  | _ :: _ => none
theorem bools_D {K : PySem.W.Frag} {F : Hp} : ∀ {vs : List V} {ds : List PyData} {bs : List Bool}, RpAll K F vs ds → bools ds = some bs → vs = bs.map V.bl
  | _, _, _, .nil, e => by cases e; rfl
  | _, _, bs, .cons (d := d) h t, e => by
    cases d <;> try cases e
    obtain ⟨cs, e1, e⟩ := Option.bind_eq_some_iff.mp e
    cases e
    cases h
    rw [bools_D t e1]
    rfl
theorem ints_D {K : PySem.W.Frag} {F : Hp} : ∀ {vs : List V} {ds : List PyData} {bs : List Int}, RpAll K F vs ds → intsOf ds = some bs → vs = bs.map V.int
  | _, _, _, .nil, e => by cases e; rfl
  | _, _, bs, .cons (d := d) h t, e => by
    cases d <;> try cases e
    obtain ⟨cs, e1, e⟩ := Option.bind_eq_some_iff.mp e
    cases e
    cases h
    rw [ints_D t e1]
    rfl
def dAll : List PyData → Option PyData
  | [.list ds] => (bools ds).bind fun bs => some (.bool (bs.all id))
  | _ => none
theorem all_D {K : PySem.W.Frag} : CallD K (rAll K) dAll := by
  intro F H vs ds d Q sm hd e q
  unfold dAll at e
  split at e
  · obtain ⟨bs, e1, e⟩ := Option.bind_eq_some_iff.mp e
    cases e
    obtain ⟨v, rfl, h⟩ := one_D hd
    cases h with
    | lst h1 h2 =>
      have e2 := bools_D h2 e1
      subst e2
      exact ⟨_, bs, rfl, sm.seq h1, q _ F H (New.refl sm) (.bl _)⟩
  · cases e
def dSum : List PyData → Option PyData
  | [.list ds] => (intsOf ds).bind fun bs => some (.int bs.sum)
  | _ => none
theorem sum_D {K : PySem.W.Frag} : CallD K (rSum K) dSum := by
  intro F H vs ds d Q sm hd e q
  unfold dSum at e
  split at e
  · obtain ⟨bs, e1, e⟩ := Option.bind_eq_some_iff.mp e
    cases e
    obtain ⟨v, rfl, h⟩ := one_D hd
    cases h with
    | lst h1 h2 =>
      have e2 := ints_D h2 e1
      subst e2
      exact ⟨_, bs, rfl, sm.seq h1, q _ F H (New.refl sm) (.int _)⟩
  · cases e
def dTuple : List PyData → Option PyData
  | [.list ds] => some (.tuple ds)
  | [.tuple ds] => some (.tuple ds)
  | _ => none
theorem tuple_D {K : PySem.W.Frag} : CallD K (fun xs H Q => ∃ p ys, xs = [.ref p] ∧ ((SqL K H p ys ∧ NewT H ys Q) ∨ (SqT K H p ys ∧ Q (.ref p) H))) dTuple := by
  intro F H vs ds d Q sm hd e q
  unfold dTuple at e
  split at e
  · cases e
    obtain ⟨v, rfl, h⟩ := one_D hd
    cases h with
    | @lst _ ys _ h1 h2 =>
      refine ⟨_, _, rfl, .inl ⟨sm.seq h1, fun l ob od hl => ?_⟩⟩
      have n := New.one (o := .frz ob (.tup ys)) sm hl
      exact q _ _ _ n (.tup (.inl ⟨_, upd_same, od⟩) (h2.mono n.grow))
  · cases e
    obtain ⟨v, rfl, h⟩ := one_D hd
    cases h with
    | tup h1 h2 => exact ⟨_, _, rfl, .inr ⟨seqX sm h1, q _ F H (New.refl sm) (.tup h1 h2)⟩⟩
  · cases e
def dAbs : List PyData → Option PyData
  | [.int i] => some (.int (if i < 0 then -i else i))
  | _ => none
theorem abs_D {K : PySem.W.Frag} : CallD K (fun xs H Q => ∃ i, xs = [.int i] ∧ Q (.int (if i < 0 then -i else i)) H) dAbs := by
  intro F H vs ds d Q sm hd e q
  unfold dAbs at e
  split at e
  · cases e
    obtain ⟨v, rfl, h⟩ := one_D hd
    cases h
    exact ⟨_, rfl, q _ F H (New.refl sm) (.int _)⟩
  · cases e
def dToInt : List PyData → Option PyData
  | [.int i] => some (.int i)
  | [.bool b] => some (.int (if b then 1 else 0))
  | _ => none
theorem toInt_D {K : PySem.W.Frag} : CallD K (fun xs H Q => (∃ i, xs = [.int i] ∧ Q (.int i) H) ∨ ∃ k, xs = [.bl k] ∧ Q (.int (if k then 1 else 0)) H) dToInt := by
  intro F H vs ds d Q sm hd e q
  unfold dToInt at e
  split at e
  · cases e
    obtain ⟨v, rfl, h⟩ := one_D hd
    cases h
    exact .inl ⟨_, rfl, q _ F H (New.refl sm) (.int _)⟩
  · cases e
    obtain ⟨v, rfl, h⟩ := one_D hd
    cases h
    exact .inr ⟨_, rfl, q _ F H (New.refl sm) (.int _)⟩
  · cases e
theorem d_len (hm : X.mg "len" = none) (ha : PA X [a] (aD X.K fl)) (hg : Gl X "len" := by rfl) (he : starEach [a] X.env = (false, eval a X.env) :: starEach [] X.env := by rfl) (hpl : (backTo pos (starEach [] X.env)).any (·.1) = false := by rfl) : PE X (.Call (.Name "len" p) [a] [] pos) (tD X.K (call dLen fl)) :=
  d_callB call_len_seq len_D hm ha PySem.boot_len hg (by decide) (by decide) he hpl
theorem d_all (hc : X.calm = true) (hm : X.mg "all" = none) (ha : PA X [a] (aD X.K fl)) (hg : Gl X "all" := by rfl) (he : starEach [a] X.env = (false, eval a X.env) :: starEach [] X.env := by rfl) (hpl : (backTo pos (starEach [] X.env)).any (·.1) = false := by rfl) : PE X (.Call (.Name "all" p) [a] [] pos) (tD X.K (call dAll fl)) :=
  d_callB (cr_all hc) all_D hm ha (by decide +kernel) hg (by decide) (by decide) he hpl
theorem d_sum (hc : X.calm = true) (hm : X.mg "sum" = none) (ha : PA X [a] (aD X.K fl)) (hg : Gl X "sum" := by rfl) (he : starEach [a] X.env = (false, eval a X.env) :: starEach [] X.env := by rfl) (hpl : (backTo pos (starEach [] X.env)).any (·.1) = false := by rfl) : PE X (.Call (.Name "sum" p) [a] [] pos) (tD X.K (call dSum fl)) :=
  d_callB (cr_sum hc) sum_D hm ha (by decide +kernel) hg (by decide) (by decide) he hpl
theorem d_abs (hm : X.mg "abs" = none) (ha : PA X [a] (aD X.K fl)) (hg : Gl X "abs" := by rfl) (he : starEach [a] X.env = (false, eval a X.env) :: starEach [] X.env := by rfl) (hpl : (backTo pos (starEach [] X.env)).any (·.1) = false := by rfl) : PE X (.Call (.Name "abs" p) [a] [] pos) (tD X.K (call dAbs fl)) :=
  d_callB call_abs abs_D hm ha (by decide +kernel) hg (by decide) (by decide) he hpl
theorem d_tuple (hm : X.mg "tuple" = none) (ha : PA X [a] (aD X.K fl)) (hg : Gl X "tuple" := by rfl) (he : starEach [a] X.env = (false, eval a X.env) :: starEach [] X.env := by rfl) (hpl : (backTo pos (starEach [] X.env)).any (·.1) = false := by rfl) : PE X (.Call (.Name "tuple" p) [a] [] pos) (tD X.K (call dTuple fl)) :=
  d_callTy call_tuple_X tuple_D hm ha (by decide +kernel) hg (by decide) (by decide) he hpl
theorem d_toInt (hm : X.mg "int" = none) (ha : PA X [a] (aD X.K fl)) (hg : Gl X "int" := by rfl) (he : starEach [a] X.env = (false, eval a X.env) :: starEach [] X.env := by rfl) (hpl : (backTo pos (starEach [] X.env)).any (·.1) = false := by rfl) : PE X (.Call (.Name "int" p) [a] [] pos) (tD X.K (call dToInt fl)) :=
  d_callTy call_int1 toInt_D hm ha (by decide +kernel) hg (by decide) (by decide) he hpl
/-- list(x): a list of one's own -/
def oList (fl : FL) : FL := fun ρ => (fl ρ).bind fun p => match p.1 with
  | [.list ds] => some (ds, p.2)
  | [.tuple ds] => some (ds, p.2)
  | _ => none
theorem o_list (hm : X.mg "list" = none) (ha : PA X [a] (aD X.K fl)) (hg : Gl X "list" := by rfl) (he : starEach [a] X.env = (false, eval a X.env) :: starEach [] X.env := by rfl) (hpl : (backTo pos (starEach [] X.env)).any (·.1) = false := by rfl) : PE X (.Call (.Name "list" p) [a] [] pos) (tO X.K (oList fl)) :=
  pe_weak (pe_callTy call_list_of hg hm (by decide +kernel) ha (by decide) (by decide) he hpl) fun σ H Q ⟨F, ρ, d, ρ', w, e, q⟩ => by
    obtain ⟨⟨ds, ρ1⟩, e1, e⟩ := Option.bind_eq_some_iff.mp e
    refine ⟨F, ρ, ds, _, w, e1, fun vs F1 H1 g1 w1 d1 => ?_⟩
    have fin : ∀ (ys : List V) (l : Addr), H1 l = none → ρ1 = ρ' → RpAll X.K F1 ys d → Q (.ref l) (upd H1 l (.lst ys)) := fun ys l hl er hd => by
      subst er
      have n := New.side (o := .lst ys) w1.sub hl
      exact q l ys F1 _ (g1.trans (Go.new n)) (w1.new n) (g1.there l hl) (w1.sub.free hl) upd_same hd (w1.notOw hl)
    split at e
    · rename_i z
      cases e
      have z : ds = _ := z
      subst z
      obtain ⟨v, rfl, h⟩ := one_D d1
      cases h with
      | lst h1 h2 => exact ⟨_, _, rfl, .inl (w1.sub.seq h1), fun l hl => fin _ l hl rfl h2⟩
    · rename_i z
      cases e
      have z : ds = _ := z
      subst z
      obtain ⟨v, rfl, h⟩ := one_D d1
      cases h with
      | tup h1 h2 => exact ⟨_, _, rfl, .inr (seqX w1.sub h1), fun l hl => fin _ l hl rfl h2⟩
    · cases e
/-- [..] * n -/
def oRep (f : FL) (g : FE) : FL := fun ρ => (f ρ).bind fun p => (g p.2).bind fun q => match q.1 with
  | .int k => if repOk p.1.length k = true then some ((List.replicate k.toNat p.1).flatten, q.2) else none
  | _ => none
end

/-! ### what a slot owns, read -/
section
variable {X : Cx} {a b c e : Expr} {es : List Expr} {f f1 f2 f3 : FE} {fl : FL} {p pos : Pos} {k i : Nat} {x : Str}
/-- an expression that is read with the list that slot i owns -/
theorem own_at {K : PySem.W.Frag} {F H : Hp} {σ : L2.St} {ρ : Ev} (w : Wf K F H σ ρ) {ds : List PyData} (h : ρ[i]? = some (.own ds)) : ∃ (a : Addr) (vs : List V), σ[i]? = some (some (.ref a)) ∧ SqL K H a vs ∧ RpAll K F vs ds ∧ H a = some (.lst vs) := by
  obtain ⟨a, vs, e1, _, e3, q⟩ := w.own i ds h
  exact ⟨a, vs, e1, .inl (.inl e3), q, e3⟩
/-- tuple(xs), xs owned -/
def eTupOwn (i : Nat) : FE := fun ρ => match ρ[i]? with
  | some (.own ds) => some (.tuple ds, ρ)
  | _ => none
theorem d_tupOwn (i : Nat) {y : Str} {q2 : Pos} (hm : X.mg "tuple" = none) (hN : X.N[i]? = some y := by rfl) (hv : Vis X.env.scope y := by first | exact Or.inl rfl | exact Or.inr (Or.inl rfl) | exact Or.inr (Or.inr rfl)) (hd : (y == ("__debug__" : Str)) = false := by decide)
    (hcd : (y == ("__classdict__" : Str)) = false := by decide) (hg : Gl X "tuple" := by rfl) (he : starEach [.Name y q2] X.env = (false, eval (.Name y q2) X.env) :: starEach [] X.env := by rfl) (hpl : (backTo pos (starEach [] X.env)).any (·.1) = false := by rfl) :
    PE X (.Call (.Name "tuple" p) [.Name y q2] [] pos) (tD X.K (eTupOwn i)) :=
  pe_weak (pe_callTy call_tuple_X hg hm (by decide +kernel) (pa_cons (pe_var hN hv hd hcd) pa_nil he) (by decide) (by decide) he hpl) fun σ H Q ⟨F, ρ, d, ρ', w, e, q⟩ => by
    unfold eTupOwn at e
    split at e
    · rename_i ds h1
      cases e
      obtain ⟨a, vs, e1, e2, e3, _⟩ := own_at w h1
      refine ⟨.ref a, e1, a, vs, rfl, .inl ⟨e2, fun l ob od hl => ?_⟩⟩
      have n := New.one (o := .frz ob (.tup vs)) w.sub hl
      exact q _ _ _ (Go.new n) (w.new n) (.tup (.inl ⟨_, upd_same, od⟩) (e3.mono n.grow))
    · cases e

/-! ### xs[i] -/
def ixD (ds : List PyData) (i : Int) : Option PyData := atI ds i
def dIx : PyData → PyData → Option PyData
  | .list ds, .int i => atI ds i
  | .tuple ds, .int i => atI ds i
  | _, _ => none
theorem atI_D {K : PySem.W.Frag} {F : Hp} {vs : List V} {ds : List PyData} {i : Int} {d : PyData} (h : RpAll K F vs ds) (e : atI ds i = some d) : ∃ v, atI vs i = some v ∧ Rp K F v d := by
  unfold atI at e ⊢
  rw [h.length]
  obtain ⟨j, e1, e2⟩ := Option.bind_eq_some_iff.mp e
  obtain ⟨v, e3, e4⟩ := h.get e2
  exact ⟨v, by rw [e1]; exact e3, e4⟩
theorem ix_D {K : PySem.W.Frag} : OpD K (rIx K) dIx := by
  intro F H v u x y d Q sm hx hy e q
  cases hx with
  | lst h1 h2 =>
    cases hy with
    | int i =>
      obtain ⟨z, e1, e2⟩ := atI_D h2 e
      exact .inl ⟨_, _, i, z, rfl, rfl, sm.seq h1, e1, q _ F H (New.refl sm) e2⟩
    | _ => cases e
  | tup h1 h2 =>
    cases hy with
    | int i =>
      obtain ⟨z, e1, e2⟩ := atI_D h2 e
      exact .inr (.inl ⟨_, _, i, z, rfl, rfl, seqX sm h1, e1, q _ F H (New.refl sm) e2⟩)
    | _ => cases e
  | _ => cases e
theorem d_ix (ha : PE X a (tD X.K f1)) (hb : PE X b (tD X.K f2)) (hs : PlainIx b := by exact fun _ _ => rfl) : PE X (.Subscript a b pos) (tD X.K (bin dIx f1 f2)) := pe_weak (pe_ix ix_seq ha hb hs) (bin_ok ix_D)
/-- .. of what slot i owns; the index may change it -/
def eIxOwn (i : Nat) (f : FE) : FE := fun ρ => match ρ[i]? with
  | some (.own _) => (f ρ).bind fun p => match p.2[i]?, p.1 with
    | some (.own ds), .int j => (atI ds j).bind fun d => some (d, p.2)
    | _, _ => none
  | _ => none
theorem d_ixOwn (i : Nat) {y : Str} {q2 : Pos} (hb : PE X b (tD X.K f)) (hs : PlainIx b := by exact fun _ _ => rfl) (hN : X.N[i]? = some y := by rfl) (hv : Vis X.env.scope y := by first | exact Or.inl rfl | exact Or.inr (Or.inl rfl) | exact Or.inr (Or.inr rfl)) (hd : (y == ("__debug__" : Str)) = false := by decide)
    (hcd : (y == ("__classdict__" : Str)) = false := by decide) : PE X (.Subscript (.Name y q2) b pos) (tD X.K (eIxOwn i f)) :=
  pe_weak (pe_ix ix_seq (pe_var hN hv hd hcd) hb hs) fun σ H Q ⟨F, ρ, d, ρ', w, e, q⟩ => by
    unfold eIxOwn at e
    split at e
    · rename_i ds0 h0
      obtain ⟨⟨z, ρ1⟩, e1, e⟩ := Option.bind_eq_some_iff.mp e
      split at e
      · rename_i ds j h1 h2
        obtain ⟨d', e2, e⟩ := Option.bind_eq_some_iff.mp e
        cases e
        have h1 : ρ1[i]? = some (.own ds) := h1
        have h2 : z = .int j := h2
        subst h2
        obtain ⟨a0, vs0, s1, _⟩ := w.own i ds0 h0
        refine ⟨.ref a0, s1, F, ρ, _, ρ1, w, e1, fun v F1 H1 g1 w1 d1 => ?_⟩
        cases d1
        obtain ⟨a, vs, s2, s3, s4, _⟩ := own_at w1 h1
        rw [s1] at s2
        cases s2
        obtain ⟨v, e3, e4⟩ := atI_D s4 e2
        exact .inl ⟨_, _, j, v, rfl, rfl, s3, e3, q v F1 H1 g1 w1 e4⟩
      · cases e
    · cases e
/-! ### slices -/
abbrev FO := Ev → Option (Option Int × Ev)
def tOD (K : PySem.W.Frag) (f : FO) : TO := fun σ H Q => ∃ F ρ o ρ', Wf K F H σ ρ ∧ f ρ = some (o, ρ') ∧ ∀ F' H', Go F H σ ρ F' H' σ ρ' → Wf K F' H' σ ρ' → Q o H'
def oNone : FO := fun ρ => some (none, ρ)
def oSome (f : FE) : FO := fun ρ => (f ρ).bind fun p => match p.1 with
  | .int i => some (some i, p.2)
  | _ => none
theorem po_weak {e : Option Expr} {t t' : TO} (h : PO X e t) (w : ∀ σ H Q, t' σ H Q → t σ H Q) : PO X e t' := ⟨fun pins s σ H Q I q => h.run pins s σ H Q I (w σ H Q q)⟩
theorem p_none : PO X none (tOD X.K oNone) := po_weak po_none fun σ H Q ⟨F, ρ, o, ρ', w, e, q⟩ => by
  cases e
  exact q F H (Go.refl ..) w
theorem p_some (h : PE X e (tD X.K f)) : PO X (some e) (tOD X.K (oSome f)) := po_weak (po_some h) fun σ H Q ⟨F, ρ, o, ρ', w, e, q⟩ => by
  obtain ⟨⟨z, ρ1⟩, e1, e⟩ := Option.bind_eq_some_iff.mp e
  cases z <;> try cases e
  rename_i i
  refine ⟨F, ρ, _, _, w, e1, fun v F1 H1 g1 w1 d1 => ?_⟩
  cases d1
  exact ⟨i, rfl, q F1 H1 g1 w1⟩
def cutD (ds : List PyData) (lo hi : Option Int) : List PyData := (ds.drop (HT.sIx ds.length 0 lo)).take (HT.sIx ds.length ds.length hi - HT.sIx ds.length 0 lo)
def dSl (x : PyData) (lo hi : Option Int) : Option PyData := match x with
  | .list ds => some (.list (cutD ds lo hi))
  | .tuple ds => some (.tuple (cutD ds lo hi))
  | _ => none
def eSl (f : FE) (g h : FO) : FE := fun ρ => (f ρ).bind fun p => (g p.2).bind fun q => (h q.2).bind fun r => (dSl p.1 q.1 r.1).bind fun d => some (d, r.2)
abbrev rSlD (K : PySem.W.Frag) : V → Option Int → Option Int → Hp → VK → Prop := fun x lo hi H Q => rSlL K x lo hi H Q ∨ rSlX K x lo hi H Q
theorem cut_all {ds : List PyData} {lo hi : Option Int} (h : HT.sIx ds.length 0 lo = 0 ∧ HT.sIx ds.length ds.length hi = ds.length) : cutD ds lo hi = ds := by
  unfold cutD
  rw [h.1, h.2, List.drop_zero, Nat.sub_zero, List.take_length]
theorem cut_D {K : PySem.W.Frag} {F : Hp} {vs : List V} {ds : List PyData} {lo hi : Option Int} (h : RpAll K F vs ds) : RpAll K F (cutV vs lo hi) (cutD ds lo hi) := by
  unfold cutV cutD
  rw [h.length]
  exact (h.drop _).take _
theorem d_slice {lo hi : Option Expr} {g h : FO} {p2 : Pos} (he : PE X e (tD X.K f)) (hl : PO X lo (tOD X.K g)) (hu : PO X hi (tOD X.K h)) : PE X (.Subscript e (.Slice lo hi none p2) pos) (tD X.K (eSl f g h)) :=
  pe_weak (pe_slice (sl_list.or sl_tupX) he hl hu) fun σ H Q ⟨F, ρ, d, ρ', w, e, q⟩ => by
    obtain ⟨⟨x, ρ1⟩, e1, e⟩ := Option.bind_eq_some_iff.mp e
    obtain ⟨⟨l, ρ2⟩, e2, e⟩ := Option.bind_eq_some_iff.mp e
    obtain ⟨⟨u, ρ3⟩, e3, e⟩ := Option.bind_eq_some_iff.mp e
    obtain ⟨z, e4, e⟩ := Option.bind_eq_some_iff.mp e
    cases e
    refine ⟨F, ρ, x, ρ1, w, e1, fun v F1 H1 g1 w1 d1 => ⟨F1, ρ1, l, ρ2, w1, e2, fun F2 H2 g2 w2 => ⟨F2, ρ2, u, ρ3, w2, e3, fun F3 H3 g3 w3 => ?_⟩⟩⟩
    have g := (g1.trans g2).trans g3
    have d3 := d1.mono (g2.grow.trans g3.grow)
    cases d3 with
    | @lst _ xs _ h1 h2 =>
      cases e4
      refine .inl ⟨_, _, rfl, w3.sub.seq h1, fun p hp => ?_⟩
      have n := New.one (o := .lst (cutV xs l u)) w3.sub hp
      exact q _ _ _ (g.trans (Go.new n)) (w3.new n) (.lst (.inl (.inl upd_same)) ((cut_D h2).mono n.grow))
    | @tup _ xs _ h1 h2 =>
      cases e4
      refine .inr ⟨_, _, rfl, seqX w3.sub h1, fun z => ?_, fun _ p ob od hp => ?_⟩
      · rw [h2.length] at z
        refine q _ F3 H3 g w3 ?_
        rw [cut_all z]
        exact .tup h1 h2
      · have n := New.one (o := .frz ob (.tup (cutV xs l u))) w3.sub hp
        exact q _ _ _ (g.trans (Go.new n)) (w3.new n) (.tup (.inl ⟨_, upd_same, od⟩) ((cut_D h2).mono n.grow))
    | _ => cases e4
/-- [..] * n -/
theorem o_rep (ha : PE X a (tO X.K fl)) (hb : PE X b (tD X.K f)) : PE X (.BinOp a .Mult b pos) (tO X.K (oRep fl f)) :=
  pe_weak (pe_op op_rep ha hb) fun σ H Q ⟨F, ρ, d, ρ', w, e, q⟩ => by
    obtain ⟨⟨ds, ρ1⟩, e1, e⟩ := Option.bind_eq_some_iff.mp e
    obtain ⟨⟨z, ρ2⟩, e2, e⟩ := Option.bind_eq_some_iff.mp e
    split at e
    · rename_i k z
      have z : _ = PyData.int k := z
      subst z
      split at e
      · rename_i hm
        cases e
        refine ⟨F, ρ, ds, ρ1, w, e1, fun l vs F1 H1 g1 w1 h0 h1 h2 d1 no => ⟨F1, ρ1, _, _, w1, e2, fun v F2 H2 g2 w2 d2 => ?_⟩⟩
        cases d2
        simp only [repOk, Bool.and_eq_true, decide_eq_true_eq] at hm
        obtain ⟨⟨⟨m1, m2⟩, m3⟩, m4⟩ := hm
        have hl := d1.length
        refine ⟨l, k, vs, rfl, rfl, g2.keep _ _ h2 no, by omega, by omega, ?_, fun p hp => ?_⟩
        · have a1 : vs.length * k.toNat ≤ 1000 * 1000 := Nat.mul_le_mul (by omega) (by omega)
          rw [sizeLine_eq]
          omega
        · have n := New.side (o := .lst (List.replicate k.toNat vs).flatten) w2.sub hp
          exact q p _ F2 _ ((g1.trans g2).trans (Go.new n)) (w2.new n) ((g1.trans g2).there p hp) (w2.sub.free hp) upd_same ((d1.mono g2.grow).rep k.toNat) (w2.notOw hp)
      · cases e
    · cases e
end
end DL

/-! ## DL5 -/
set_option Elab.async false
set_option linter.all false
set_option maxRecDepth 100000
set_option maxHeartbeats 4000000
namespace DL
open PySem PySem.Spec PyProof.Rows L2

/-! ### what a def promises -/
abbrev FD := List Sl → Option (Sl × Sl)
def put0 (as : List Sl) (z : Sl) : List Sl := match as with
  | .own _ :: t => z :: t
  | _ => as
def Res (K : PySem.W.Frag) (H F' H' : Hp) (v : V) : Sl → Prop
  | .val d => Rp K F' v d
  | .own ds => ∃ a vs, v = .ref a ∧ H a = none ∧ F' a = none ∧ H' a = some (.lst vs) ∧ RpAll K F' vs ds
  | .no => False
def spD (K : PySem.W.Frag) (n : Nat) (fn : FD) : Sp := fun vs H Q _ => ∃ F as r z, Wf K F H (vs.map some) as ∧ as.length = n ∧ fn as = some (r, z) ∧
  ∀ v F' H', Go F H (vs.map some) as F' H' (vs.map some) (put0 as z) → Wf K F' H' (vs.map some) (put0 as z) → Res K H F' H' v r → Q v H'
theorem spD_len {K : PySem.W.Frag} {n : Nat} {fn : FD} {vs : List V} {H : Hp} {Q : VK} {E : XK} (h : spD K n fn vs H Q E) : vs.length = n := by
  obtain ⟨F, as, r, z, w, hl, _⟩ := h
  have := w.len
  rw [List.length_map] at this
  omega
structure DefOk (P : Program) (w : World) (K : PySem.W.Frag) (mg : Str → Option Value) (base : Heap) (k : Nat) (x : Str) (st : Stmt) (ps : List Str) (fn : FD) : Prop where
  ex : ∃ (f : Addr) (fd : FuncData), mg x = some (.ref f) ∧ Fun K x x st f fd ∧ FnOk P w K mg base CX0 k f fd ps (spD K ps.length fn)
  bd : ∀ (kV doc pm : Value) (an : Option Addr) (cdv ct : Value) (us : List Value), us.length = ps.length → bindArgs (PySem.W.fnOf x x (defArgs st) (defBody st) (defScope st) .none kV doc pm an cdv ct) ⟨us, []⟩ = pure (ps.zip us)

/-! ### values alone as arguments -/
theorem val_not {i : Nat} {ds es : List PyData} : (ds.map Sl.val)[i]? ≠ some (.own es) := fun h => by
  rw [List.getElem?_map] at h
  cases e : ds[i]? with
  | none => rw [e] at h; cases h
  | some d => rw [e] at h; cases h
theorem put0_vals (ds : List PyData) (z : Sl) : put0 (ds.map Sl.val) z = ds.map Sl.val := by
  cases ds <;> rfl
theorem wf_vals {K : PySem.W.Frag} {F H : Hp} {vs : List V} {ds : List PyData} (sm : Same F H) (h : RpAll K F vs ds) : Wf K F H (vs.map some) (ds.map Sl.val) := by
  refine ⟨sm, by rw [List.length_map, List.length_map, h.length], fun i d e => ?_, fun i ds e => absurd e val_not, fun i j ds es a e => absurd e val_not⟩
  rw [List.getElem?_map] at e
  cases e1 : ds[i]? with
  | none => rw [e1] at e; cases e
  | some d' =>
    rw [e1] at e
    cases e
    obtain ⟨v, e2, e3⟩ := h.get e1
    exact ⟨v, by rw [List.getElem?_map, e2]; rfl, e3⟩
theorem new_of {F H F' H' : Hp} {vs : List V} {σ' : L2.St} {ds : List PyData} {ρ' : Ev} (g : Go F H (vs.map some) (ds.map Sl.val) F' H' σ' ρ') (sm : Same F' H') : New F H F' H' :=
  ⟨g.grow, fun a o h => g.keep a o h fun ⟨i, es, e, _⟩ => val_not e, sm, g.fresh⟩
theorem New.freeze {F H F' H' : Hp} (n : New F H F' H') {a : Addr} {o : HO} (h : H a = none) (hF : F' a = none) (hH : H' a = some o) : New F H (upd F' a o) H' := by
  refine ⟨n.grow.trans (same_upd hF), n.keep, fun b x e => ?_, fun b x e => ?_⟩
  · by_cases c : b = a
    · subst c
      rw [upd_same] at e
      rw [hH, e]
    · rw [upd_ne c] at e
      exact n.sub b x e
  · by_cases c : b = a
    · subst c; exact .inr h
    · rw [upd_ne c] at e
      exact n.fresh b x e
def resD : Option (Sl × Sl) → Option PyData
  | some (.val d, _) => some d
  | some (.own ds, _) => some (.list ds)
  | _ => none
def eCall (fn : FD) (fl : FL) : FE := fun ρ => (fl ρ).bind fun p => (resD (fn (p.1.map .val))).bind fun d => some (d, p.2)
theorem resD_some {o : Option (Sl × Sl)} {d : PyData} (h : resD o = some d) : ∃ r z, o = some (r, z) ∧ (r = .val d ∨ ∃ ds, r = .own ds ∧ d = .list ds) := by
  cases o with
  | none => cases h
  | some p =>
    obtain ⟨r, z⟩ := p
    cases r with
    | no => cases h
    | val d' => cases h; exact ⟨_, z, rfl, .inl rfl⟩
    | own ds => cases h; exact ⟨_, z, rfl, .inr ⟨ds, rfl, rfl⟩⟩
/-- the call by values, told for its caller -/
theorem call_sp {K : PySem.W.Frag} {fn : FD} {n : Nat} {F H : Hp} {vs : List V} {ds : List PyData} {d : PyData} {Q : VK} {E : XK} (sm : Same F H) (hd : RpAll K F vs ds) (hn : ds.length = n) (e : resD (fn (ds.map .val)) = some d)
    (q : ∀ v F' H', New F H F' H' → Rp K F' v d → Q v H') : spD K n fn vs H Q E := by
  obtain ⟨r, z, e1, e2⟩ := resD_some e
  refine ⟨F, ds.map .val, r, z, wf_vals sm hd, by rw [List.length_map]; exact hn, e1, fun v F' H' g w res => ?_⟩
  have nw := new_of g w.sub
  rcases e2 with rfl | ⟨es, rfl, rfl⟩
  · exact q v F' H' nw res
  · obtain ⟨a, us, rfl, h0, h1, h2, h3⟩ := res
    exact q _ _ _ (nw.freeze h0 h1 h2) (.lst (.inl (.inl upd_same)) (h3.mono (same_upd h1)))
section
variable {X : Cx} {a b c e : Expr} {es : List Expr} {f f1 f2 f3 : FE} {fl : FL} {p pos : Pos} {k j : Nat} {x : Str} {st : Stmt} {ps : List Str} {fn : FD}
theorem eCall_ok {K : PySem.W.Frag} {n : Nat} (hn : ∀ as, fn as ≠ none → as.length = n) (σ : L2.St) (H : Hp) (Q : VK) (h : tD K (eCall fn fl) σ H Q) : tCall (spD K n fn) [] E0 (aD K fl) σ H Q := by
  obtain ⟨F, ρ, d, ρ', w, e, q⟩ := h
  obtain ⟨⟨ds, ρ1⟩, e1, e⟩ := Option.bind_eq_some_iff.mp e
  obtain ⟨z, e2, e⟩ := Option.bind_eq_some_iff.mp e
  cases e
  refine ⟨F, ρ, ds, _, w, e1, fun vs F1 H1 g1 w1 d1 => ?_⟩
  show spD K n fn (vs ++ []) H1 Q E0
  rw [List.append_nil]
  have hl : ds.length = n := by
    have := hn (ds.map .val) (by
      obtain ⟨r, z', e3, _⟩ := resD_some e2
      rw [show fn (List.map Sl.val ds) = some (r, z') from e3]
      simp)
    rw [List.length_map] at this
    exact this
  exact call_sp w1.sub d1 hl e2 fun v F2 H2 n2 d2 => q v F2 H2 (g1.trans (Go.new n2)) (w1.new n2) d2
/-- a def whose number of arguments is told -/
structure Ar (fn : FD) (n : Nat) : Prop where
  ar : ∀ as, fn as ≠ none → as.length = n
theorem d_call (D : DefOk X.prog X.w X.K X.mg X.base k x st ps fn) (A : Ar fn ps.length) (hr : Room j X.A) (hk : k ≤ j) (ha : PA X (e :: es) (aD X.K fl)) (hg : Gl X x := by rfl) (hdb : (x == ("__debug__" : Str)) = false := by decide)
    (he : starEach (e :: es) X.env = (false, eval e X.env) :: starEach es X.env := by rfl) (hpl : (backTo pos (starEach es X.env)).any (·.1) = false := by rfl) : PE X (.Call (.Name x p) (e :: es) [] pos) (tD X.K (eCall fn fl)) := by
  obtain ⟨f, fd, hm, F, ok⟩ := D.ex
  exact pe_weak (pe_call (E := E0) (ds := []) (dvs := []) ok (hr.mono hk) hg hm F.kp (F.binds D.bd) .nil pass0 ha hdb he hpl) (eCall_ok A.ar)
theorem d_call0 (D : DefOk X.prog X.w X.K X.mg X.base k x st [] fn) (A : Ar fn 0) (hr : Room j X.A) (hk : k ≤ j) (hg : Gl X x := by rfl) (hdb : (x == ("__debug__" : Str)) = false := by decide) : PE X (.Call (.Name x p) [] [] pos) (tD X.K (eCall fn aNil)) := by
  obtain ⟨f, fd, hm, F, ok⟩ := D.ex
  refine pe_weak (pe_call0 (E := E0) (ds := []) (dvs := []) ok (hr.mono hk) hg hm F.kp (F.binds D.bd) .nil pass0 hdb) fun σ H Q h => ?_
  obtain ⟨F, ρ, d, ρ', w, e, q⟩ := h
  obtain ⟨⟨ds, ρ1⟩, e1, e⟩ := Option.bind_eq_some_iff.mp e
  obtain ⟨z, e2, e⟩ := Option.bind_eq_some_iff.mp e
  cases e
  cases e1
  exact call_sp (E := E0) w.sub .nil rfl e2 fun v F2 H2 n2 d2 => q v F2 H2 (Go.new n2) (w.new n2) d2
/-- .. that hands back a list of one's own -/
def resO : Option (Sl × Sl) → Option (List PyData)
  | some (.own ds, _) => some ds
  | _ => none
def oCall (fn : FD) (fl : FL) : FL := fun ρ => (fl ρ).bind fun p => (resO (fn (p.1.map .val))).bind fun d => some (d, p.2)
theorem o_call (D : DefOk X.prog X.w X.K X.mg X.base k x st ps fn) (A : Ar fn ps.length) (hr : Room j X.A) (hk : k ≤ j) (ha : PA X (e :: es) (aD X.K fl)) (hg : Gl X x := by rfl) (hdb : (x == ("__debug__" : Str)) = false := by decide)
    (he : starEach (e :: es) X.env = (false, eval e X.env) :: starEach es X.env := by rfl) (hpl : (backTo pos (starEach es X.env)).any (·.1) = false := by rfl) : PE X (.Call (.Name x p) (e :: es) [] pos) (tO X.K (oCall fn fl)) := by
  obtain ⟨f, fd, hm, F, ok⟩ := D.ex
  refine pe_weak (pe_call (E := E0) (ds := []) (dvs := []) ok (hr.mono hk) hg hm F.kp (F.binds D.bd) .nil pass0 ha hdb he hpl) fun σ H Q h => ?_
  obtain ⟨F, ρ, d, ρ', w, e, q⟩ := h
  obtain ⟨⟨ds, ρ1⟩, e1, e⟩ := Option.bind_eq_some_iff.mp e
  obtain ⟨z, e2, e⟩ := Option.bind_eq_some_iff.mp e
  cases e
  refine ⟨F, ρ, ds, _, w, e1, fun vs F1 H1 g1 w1 d1 => ?_⟩
  show spD X.K ps.length fn (vs ++ []) H1 Q E0
  rw [List.append_nil]
  have e2 : resO (fn (ds.map .val)) = some d := e2
  unfold resO at e2
  split at e2
  · rename_i ds' z' e3
    cases e2
    have hl := A.ar (ds.map .val) (by rw [e3]; simp)
    refine ⟨F1, ds.map .val, _, _, wf_vals w1.sub d1, hl, e3, fun v F' H' g w2 res => ?_⟩
    have nw := new_of g w2.sub
    obtain ⟨a, us, rfl, h0, h1, h2, h3⟩ := res
    exact q a us F' H' (g1.trans (Go.new nw)) (w1.new nw) (g1.there a h0) h1 h2 h3 (w1.notOw h0)
  · cases e2

/-! ### keywords alone -/
def prm {α : Type} (ix : List Nat) (l : List α) : List α := ix.filterMap fun j => l[j]?
theorem prm_vals {zs : List V} {ws : List Value} (h : Vals zs ws) : ∀ ix : List Nat, Vals (prm ix zs) (prm ix ws)
  | [] => .nil
  | j :: ix => by
    unfold prm
    rw [List.filterMap_cons, List.filterMap_cons]
    cases e : zs[j]? with
    | none =>
      rw [h.none_of e]
      exact prm_vals h ix
    | some v =>
      obtain ⟨u, e2, r⟩ := h.get e
      rw [e2]
      exact .cons r (prm_vals h ix)
theorem prm_D {K : PySem.W.Frag} {F : Hp} {zs : List V} {ws : List PyData} (h : RpAll K F zs ws) : ∀ ix : List Nat, RpAll K F (prm ix zs) (prm ix ws)
  | [] => .nil
  | j :: ix => by
    unfold prm
    rw [List.filterMap_cons, List.filterMap_cons]
    cases e : zs[j]? with
    | none =>
      have e2 : ws[j]? = none := by
        have l := h.length
        exact List.getElem?_eq_none_iff.mpr (by have := List.getElem?_eq_none_iff.mp e; omega)
      rw [e2]
      exact prm_D h ix
    | some v =>
      obtain ⟨d, e2, r⟩ := h.at e
      rw [e2]
      exact .cons r (prm_D h ix)
/-- keyword arguments -/
structure KD (X : Cx) (kws : List Keyword) (fl : FL) : Prop where
  pk : ∃ t, PK X kws t ∧ ∀ σ H Q, aD X.K fl σ H Q → t σ H Q
theorem k_nil : KD X [] aNil := ⟨_, pk_nil, fun σ H Q ⟨F, ρ, ds, ρ', w, e, q⟩ => by
  cases e
  exact q [] F H (Go.refl ..) w .nil⟩
theorem k_cons {g : FL} {kws : List Keyword} {nm : Option Str} {kpos : Pos} (he : PE X e (tD X.K f)) (hr : KD X kws g) : KD X (⟨nm, e, kpos⟩ :: kws) (aCons f g) := by
  obtain ⟨t, h1, h2⟩ := hr.pk
  refine ⟨_, pk_cons he h1, fun σ H Q ⟨F, ρ, ds, ρ', w, e, q⟩ => ?_⟩
  obtain ⟨⟨x, ρ1⟩, e1, e⟩ := Option.bind_eq_some_iff.mp e
  obtain ⟨⟨xs, ρ2⟩, e2, e⟩ := Option.bind_eq_some_iff.mp e
  cases e
  refine ⟨F, ρ, x, ρ1, w, e1, fun v F1 H1 g1 w1 d1 => h2 _ _ _ ⟨F1, ρ1, xs, _, w1, e2, fun vs F2 H2 g2 w2 d2 => ?_⟩⟩
  exact q (v :: vs) F2 H2 (g1.trans g2) w2 (.cons (d1.mono g2.grow) d2)
def eCallK (fn : FD) (ix : List Nat) (fl : FL) : FE := fun ρ => (fl ρ).bind fun p => if p.1.length = ix.length then (resD (fn ((prm ix p.1).map .val))).bind fun d => some (d, p.2) else none
theorem d_callK (ix : List Nat) {ks : List Str} {kws : List Keyword} (D : DefOk X.prog X.w X.K X.mg X.base k x st ps fn) (A : Ar fn ps.length) (hr : Room j X.A) (hk : k ≤ j) (ha : KD X kws fl)
    (hb : ∀ (kV doc pm : Value) (an : Option Addr) (cdv ct : Value) (ws : List Value), ws.length = ks.length → bindArgs (PySem.W.fnOf x x (defArgs st) (defBody st) (defScope st) .none kV doc pm an cdv ct) ⟨[], ks.zip ws⟩ = pure (ps.zip (prm ix ws)))
    (hkl : ix.length = ks.length := by rfl) (hg : Gl X x := by rfl) (hall : (backToKw pos (keywordEach kws X.env)).all (·.1.isSome) = true := by rfl) (hks : (backToKw pos (keywordEach kws X.env)).filterMap (·.1) = ks := by rfl) (hdb : (x == ("__debug__" : Str)) = false := by decide)
    (hpl : ((backTo pos (starEach [] X.env)).any (·.1) || (backToKw pos (keywordEach kws X.env)).any (·.1.isNone)) = false := by rfl) :
    PE X (.Call (.Name x p) [] kws pos) (tD X.K (eCallK fn ix fl)) := by
  obtain ⟨f, fd, hm, Fn, ok⟩ := D.ex
  obtain ⟨t, hpk, hsub⟩ := ha.pk
  refine ⟨fun pins s σ H Q I h => ?_⟩
  obtain ⟨F, ρ, d, ρ', w, e, q⟩ := h
  obtain ⟨⟨ds, ρ1⟩, e1, e⟩ := Option.bind_eq_some_iff.mp e
  by_cases hlen : ds.length = ix.length
  case neg =>
    rw [if_neg hlen] at e
    cases e
  rw [if_pos hlen] at e
  obtain ⟨z, e2, e⟩ := Option.bind_eq_some_iff.mp e
  cases e
  refine wpAny_Call_Name_kw (ld_glob I hg hm ?_ hdb)
  refine PySem.W.callWith_KW0 (h₀ := X.base) I.ok.mod.kin Fn.kp hall ?_ hpl
  refine thn (hpk.run pos pins s σ H _ I (hsub σ H (fun vs H1 => vs.length = ix.length ∧ spD X.K ps.length fn (prm ix vs) H1 Q E0) ⟨F, ρ, ds, ρ1, w, e1, fun vs F1 H1 g1 w1 d1 => ⟨by rw [d1.length]; exact hlen, ?_⟩⟩)) fun ws s2 ⟨zs, H2, I2, rz, hzl, q2⟩ => ⟨I2.kIn, ?_⟩
  · refine call_sp w1.sub (prm_D d1 ix) ?_ e2 fun v F2 H2 n2 d2 => q v F2 H2 (g1.trans (Go.new n2)) (w1.new n2) d2
    have := A.ar ((prm ix ds).map .val) (by
      obtain ⟨r, z', e3, _⟩ := resD_some e2
      rw [e3]
      simp)
    rw [List.length_map] at this
    exact this
  · rw [hks]
    obtain ⟨oc, od, kV, doc, pm, an, cdv, ct, osl, rfl, lk, hcd⟩ := Fn.ex
    have hwl : ws.length = ks.length := by rw [← rz.length, hzl]; exact hkl
    refine wpAny_call (codeAny_mono (ok.run X.A X.stack s2 H2 ⟨[] ++ [], ks.zip ws⟩ (prm ix ws) (prm ix zs) Q E0 (hr.mono hk) I2.env0 (.of_eq (hb kV doc pm an cdv ct ws hwl)) (prm_vals rz ix) q2) fun r s' hq => ?_)
    cases r with
    | error e => exact (pass0 pins σ H2 s2 e s' I2 hq)
    | ok fl =>
      cases fl with
      | ret u => exact I2.after hq
      | next => exact False.elim hq
      | brk => exact False.elim hq
      | cont => exact False.elim hq
end
end DL

/-! ## DL6 -/
set_option Elab.async false
set_option linter.all false
set_option maxRecDepth 100000
set_option maxHeartbeats 4000000
/-! enumerate of a tuple -/
namespace DL
open PySem PySem.Spec PyProof.Rows L2
open AutoSeq1 (wpAny_loadPart')
theorem meets_enumerate_newT (l : Addr) (items : Array Value) (n : Nat) (dct : Option Addr) (sl : Array (Option Value)) :
    Meets (Builtin.«enumerate.__new__» ⟨[.type "enumerate", .ref l], []⟩) (fun _ R s => s.heap.get? l = some { cls := .type "tuple", dict := dct, data := .seq items n, slots := sl } ∧
      R (.ok (.ret (.ref (s.heap.push { cls := .type "tuple_iterator", data := .fields #[.ref l, .int 0 0] }).objs.size)))
        { s with heap := (s.heap.push { cls := .type "tuple_iterator", data := .fields #[.ref l, .int 0 0] }).push { cls := .type "enumerate", data := .fields #[.none, .bool false, .ref s.heap.objs.size, rawInt 0, .none, .none] } }) :=
  .of_wp fun prog w A R s h => by
    obtain ⟨hp, g, d, tk, os⟩ := s; obtain ⟨hl, h⟩ := h
    have hsub := sub_enumerate
    have hL : Heap.IsTuple (Shared.heap ⟨hp, g, d, tk, os⟩) l items := ⟨_, hl, rfl, n, rfl⟩
    wp_walk using wpAny_loadPart' hl
    refine wpAny_stack_any fun st => wpAny_pure ?_
    split
    · rename_i c _ _ _ _ _
      cases (c == Value.type "enumerate")
      · wp_walk using wpAny_loadPart' hl, wpAny_pyIter_tuple hL
        exact ⟨_, rfl, h⟩
      · wp_walk using wpAny_loadPart' hl, wpAny_pyIter_tuple hL
        exact ⟨_, rfl, h⟩
    · wp_walk using wpAny_loadPart' hl, wpAny_pyIter_tuple hL
      exact ⟨_, rfl, h⟩
theorem call_enumerate_tuple {prog : Program} {w : World} {A : Around} {E : Value → Shared → Prop} {s : Shared} {l : Addr} {items : Array Value} {Q : Value → Shared → Prop} (hL : IsTup s.heap l items)
    (h : ∀ h', IsEnum h' (s.heap.objs.size + 1) s.heap.objs.size 0 .none → h'.IsTupleIter s.heap.objs.size l 0 → h'.objs.size = s.heap.objs.size + 2 →
      (∀ b o, s.heap.get? b = some o → h'.get? b = some o) → Q (.ref (s.heap.objs.size + 1)) { s with heap := h' }) :
    wpAny (model prog w) A (PySem.call (.type "enumerate") [.ref l]) Q E s := by
  obtain ⟨⟨c, dct, dt, sl⟩, hl, hc, n, hd⟩ := hL
  replace hc : c = .type "tuple" := hc
  replace hd : dt = .seq items n := hd
  subst hc hd
  refine callType_new F.called_enumerate (by decide) (F.typeCall_enumerate_1 _) (F.newCall_enumerate_1 _) (fun obj => F.args_object_init_2 obj _) F.entry_enumerate_new
    (meets_enumerate_newT l items n dct sl) ⟨hl, ?_⟩
  have hz : (s.heap.push { cls := .type "tuple_iterator", data := .fields #[.ref l, .int 0 0] }).objs.size = s.heap.objs.size + 1 := Heap.size_push ..
  show _ ∧ _
  rw [hz]
  have he : IsEnum ((s.heap.push { cls := .type "tuple_iterator", data := .fields #[.ref l, .int 0 0] }).push
      { cls := .type "enumerate", data := .fields #[.none, .bool false, .ref s.heap.objs.size, rawInt 0, .none, .none] }) (s.heap.objs.size + 1) s.heap.objs.size 0 .none := by
    have := Heap.get?_push_size (s.heap.push { cls := .type "tuple_iterator", data := .fields #[.ref l, .int 0 0] })
      (o := { cls := .type "enumerate", data := .fields #[.none, .bool false, .ref s.heap.objs.size, rawInt 0, .none, .none] }) rfl
    rw [hz] at this; exact this
  refine ⟨⟨_, he, rfl⟩, h _ he ⟨_, Heap.get?_push_of_some _ (Heap.get?_push_size _ rfl), rfl, rfl⟩ (by rw [Heap.size_push, hz]) fun b o x => Heap.get?_push_of_some _ (Heap.get?_push_of_some _ x)⟩
def IteT (K : PySem.W.Frag) (a : Addr) : It :=
  ⟨fun i H => ∃ (xs : List V) (x : V), SqT K H a xs ∧ xs[i]? = some x, fun i H v H' => ∃ T x, v = .ref T ∧ H T = none ∧ H' = upd H T (.tup [.int (i : Nat), x]) ∧ ∀ xs, SqT K H a xs → xs[i]? = some x, fun i H => ∃ xs : List V, SqT K H a xs ∧ xs.length = i⟩
theorem tupIter_keep {h h' : Heap} {it a : Addr} {i : Nat} (st : h.IsTupleIter it a i) (k : ∀ o, h.get? it = some o → h'.get? it = some o) : h'.IsTupleIter it a i := st.at k
theorem turn_enumT {P : Program} {w : World} {K : PySem.W.Frag} {elts : List Expr} {kk : Nat} {tpos : Pos} (a e it : Addr) (hai : a ≠ it) (hae : e ≠ a) :
    Turn P w K (.Tuple elts kk tpos) (IteT K a) [e, it] e (fun i h => (∃ old, IsEnum h e it ((i : Nat) : Int) old) ∧ h.IsTupleIter it a i ∧ e ≠ it) where
  mem := by simp
  obj := fun i h st b hb => by
    obtain ⟨⟨old, he⟩, ⟨o, ho, hc, hd⟩, _⟩ := st
    have e' : b = e ∨ b = it := by simpa using hb
    rcases e' with z | z
    · rw [z]; exact ⟨_, he, fun v q => nomatch q⟩
    · rw [z]; exact ⟨o, ho, fun v q => by rw [hd] at q; cases q⟩
  keep := fun i h h' st k => let ⟨⟨old, he⟩, hi, hne⟩ := st; ⟨⟨old, k e (by simp) _ he⟩, hi.at fun o q => k it (by simp) o q, hne⟩
  item := by
    intro X hP hw hK hc i pins s σ H E I hf st hg
    subst hP hw hK
    obtain ⟨⟨old, he⟩, hit, hne⟩ := st
    obtain ⟨xs, x, hq, hx⟩ := hg
    obtain ⟨its, rv, p, hz⟩ := I.tuple hq
    obtain ⟨u, hu, ru⟩ := rv.get hx
    have hel : e < s.heap.objs.size := Heap.lt_size he
    have hil : it < s.heap.objs.size := by obtain ⟨_, q, _⟩ := hit; exact Heap.lt_size q
    have hlt : i < its.toArray.size := by
      have := (List.getElem?_eq_some_iff.mp hu).1
      simpa using this
    refine wpAny_pyNext_enum_itemD (Draws.tuple (A := X.A.in1) (I.ok.hd hc) it a hai its.toArray) he ⟨hit, p⟩ hlt hne (by
      intro hm
      have e' : e = it ∨ e = a := by simpa using hm
      rcases e' with z | z
      · exact hne z
      · exact hae z) fun u' h' tk hP ho hst' hT hsz hk => ?_
    have eu : u' = u := by
      have h1 : its[i]? = some u' := by simpa using hP
      rw [hu] at h1
      exact (Option.some.inj h1).symm
    subst eu
    refine ⟨_, rfl, wpAny_letOwnedTupleGo_enum (s := { s with heap := h', toks := tk + 1 }) ho fun h'' he' sb => ?_⟩
    have hT2 : h''.get? s.heap.objs.size = some { cls := .type "tuple", data := .seq #[.int i tk, u'] } := (sb.2 _ (Nat.ne_of_gt hel)).trans hT
    have new : ObjOk X.prog X.w (upd H s.heap.objs.size (.tup [.int (i : Nat), x])) h'' s.heap.objs.size (.tup [.int (i : Nat), x]) :=
      ⟨by show 2 ≤ sizeLine; decide, [.int i tk, u'], .cons ⟨_, rfl⟩ (.cons ru .nil), ⟨_, hT2, rfl, _, rfl⟩⟩
    have I1 : Inv X pins σ (upd H s.heap.objs.size (.tup [.int (i : Nat), x])) { s with heap := h'', toks := tk + 1 } :=
      I.turnedNew (ch := [e, it]) (fun b ob hb q => (sb.2 b (fun z => hb (by simp [z]))).trans (hk b ob (fun z => hb (by simp [z])) (fun z => hb (by simp [z])) q)) hf (Nat.le_refl _) new
    refine ⟨.ref s.heap.objs.size, _, I1, rfl, ⟨_, x, rfl, I.hok.fresh (Nat.le_refl _), rfl, fun ys hy => by rw [I.tuple_inj hy hq]; exact hx⟩, ⟨⟨u', ?_⟩, hst'.1.at fun o q => (sb.2 it (Ne.symm hne)).trans q, hne⟩, fun b hb => ?_⟩
    · have e1 : ((i + 1 : Nat) : Int) = (i : Int) + 1 := by omega
      rw [e1]; exact he'
    · have hb' : b < s.heap.objs.size := by
        have e' : b = e ∨ b = it := by simpa using hb
        rcases e' with z | z
        · rw [z]; exact hel
        · rw [z]; exact hil
      rw [upd_ne (Nat.ne_of_lt hb')]
      exact (hf b hb).1
  done := by
    intro X hP hw hK hc i pins s σ H E I hf st hg
    subst hP hw hK
    obtain ⟨⟨old, he⟩, hit, hne⟩ := st
    obtain ⟨xs, hq, hx⟩ := hg
    obtain ⟨its, rv, p, hz⟩ := I.tuple hq
    obtain ⟨f0, f1, f2, f3, f4, f5⟩ := hf it (by simp)
    have hl : i = its.toArray.size := by
      have := rv.length
      simp only [List.size_toArray]
      omega
    rw [hl] at hit
    exact wpAny_pyNext_enum_endD (Draws.tuple (A := X.A.in1) (I.ok.hd hc) it a hai its.toArray) he ⟨hit, p⟩ fun h' eb => ⟨rfl, I.turned (t' := s.toks) (fun b o hb q => eb b o hb q) f0 f1 f3 f4 f5⟩
  self := fun A i s Q E st h => let ⟨⟨_, he⟩, _⟩ := st; wpAny_pyIter_enum he h
/-- enumerate of a list or a tuple -/
def iEnumA (K : PySem.W.Frag) (ta : TA) : TI := fun σ H R => ta σ H fun vs H1 => ∃ a xs, vs = [.ref a] ∧ ((SqL K H1 a xs ∧ R (Ite K a) H1) ∨ (SqT K H1 a xs ∧ R (IteT K a) H1))
theorem pi_enumA {X : Cx} {e : Expr} {ta : TA} {p pos tpos : Pos} {elts : List Expr} {kk : Nat} (hg : Gl X "enumerate") (hm : X.mg "enumerate" = none) (ha : PA X [e] ta) (hs : starEach [e] X.env = [(false, eval e X.env)] := by rfl) :
    PI X (.Tuple elts kk tpos) (.Call (.Name "enumerate" p) [e] [] pos) (iEnumA X.K ta) := by
  refine ⟨fun pins s σ H R I h => ?_⟩
  refine Call_ (ld_blt I hg hm boot_enumerate (PyProof.Rows.callWith_type1 (thn (ha.run pos pins s σ H _ I h) fun us s1 ⟨vs, H1, I1, r1, q1⟩ => ?_) hs rfl))
  obtain ⟨a, xs, ex, q1⟩ := q1
  subst ex
  cases r1 with
  | cons r rr =>
    cases rr
    cases r
    have fp : ∀ b ∈ [s1.heap.objs.size + 1, s1.heap.objs.size], FpOk X pins H1 b := fun b hb => by
      have e' : b = s1.heap.objs.size + 1 ∨ b = s1.heap.objs.size := by simpa using hb
      have hle : s1.heap.objs.size ≤ b := by
        rcases e' with z | z
        · rw [z]; exact Nat.le_add_right _ _
        · rw [z]; exact Nat.le_refl _
      exact I1.fpOk hle (I1.hok.fresh hle)
    rcases q1 with ⟨hq, q⟩ | ⟨hq, q⟩
    · obtain ⟨its, rv, p', hz⟩ := I1.list hq
      refine call_enumerate_list p'.isList fun h' he hit hsz hk => wpAny_pyIter_enum he ?_
      have I2 : Inv X pins σ H1 { s1 with heap := h' } := I1.kept (t' := s1.toks) hk
      exact ⟨s1.heap.objs.size + 1, [s1.heap.objs.size + 1, s1.heap.objs.size], _, _, H1, rfl, I2, turn_enum a (s1.heap.objs.size + 1) s1.heap.objs.size, ⟨⟨.none, he⟩, hit, Nat.succ_ne_self _⟩, fp, q⟩
    · obtain ⟨its, rv, p', hz⟩ := I1.tuple hq
      have hlt : a < s1.heap.objs.size := by
        obtain ⟨o, ho, _⟩ := p'
        exact Heap.lt_size ho
      refine call_enumerate_tuple p' fun h' he hit hsz hk => wpAny_pyIter_enum he ?_
      have I2 : Inv X pins σ H1 { s1 with heap := h' } := I1.kept (t' := s1.toks) hk
      refine ⟨s1.heap.objs.size + 1, [s1.heap.objs.size + 1, s1.heap.objs.size], _, _, H1, rfl, I2, turn_enumT a (s1.heap.objs.size + 1) s1.heap.objs.size (Nat.ne_of_lt hlt) (fun z => ?_), ⟨⟨.none, he⟩, hit, Nat.succ_ne_self _⟩, fp, q⟩
      rw [← z] at hlt
      exact absurd hlt (Nat.not_lt.mpr (Nat.le_succ _))

/-! ### a list or a tuple walked -/
def iSeq (K : PySem.W.Frag) (tl : TE) : TI := fun σ H R => tl σ H fun x H1 => ∃ a, x = .ref a ∧ (((∃ xs, SqL K H1 a xs) ∧ R (Itl K a) H1) ∨ ((∃ xs, SqT K H1 a xs) ∧ R (Itt K a) H1))
theorem pi_seq {X : Cx} {tg l : Expr} {tl : TE} (hl : PE X l tl) : PI X tg l (iSeq X.K tl) := by
  refine ⟨fun pins s σ H R I h => ?_⟩
  refine thn (hl.run pins s σ H _ I h) fun v s1 ⟨x, H1, I1, r1, q1⟩ => ?_
  obtain ⟨a, e, q⟩ := q1
  subst e
  cases r1
  have fp : ∀ b ∈ [s1.heap.objs.size], FpOk X pins H1 b := fun b hb => by
    have e : b = s1.heap.objs.size := by simpa using hb
    subst e
    exact I1.fpOk (Nat.le_refl _) (I1.hok.fresh (Nat.le_refl _))
  rcases q with ⟨⟨xs, hq⟩, q⟩ | ⟨⟨xs, hq⟩, q⟩
  · obtain ⟨its, rv, p, hz⟩ := I1.list hq
    refine wpAny_pyIter_list p.isList ?_
    exact ⟨s1.heap.objs.size, [s1.heap.objs.size], _, _, H1, rfl, I1.kept (t' := s1.toks) fun b o e => Heap.get?_push_of_some _ e, turn_list a _, ⟨_, Heap.get?_push_size _ rfl, rfl, rfl⟩, fp, q⟩
  · obtain ⟨its, rv, p, hz⟩ := I1.tuple hq
    refine wpAny_pyIter_tuple (show s1.heap.IsTuple a its.toArray from p) ?_
    exact ⟨s1.heap.objs.size, [s1.heap.objs.size], _, _, H1, rfl, I1.kept (t' := s1.toks) fun b o e => Heap.get?_push_of_some _ e, turn_tuple a _, ⟨_, Heap.get?_push_size _ rfl, rfl, rfl⟩, fp, q⟩

/-! ### what is walked, told by data -/
/-- an item: data, or a new pair of data -/
def ItD (K : PySem.W.Frag) (b : Bool) (F H : Hp) (x : V) (d : PyData) : Prop := match b with
  | false => Rp K F x d
  | true => ∃ a p r d1 d2, x = .ref a ∧ d = .tuple [d1, d2] ∧ SqT K H a [p, r] ∧ Rp K F p d1 ∧ Rp K F r d2
structure WalkD (K : PySem.W.Frag) (b : Bool) (J : It) (F : Hp) (ds : List PyData) : Prop where
  go : ∀ i F1 H1, i < ds.length → Same F F1 → Same F1 H1 → J.go i H1
  stop : ∀ F1 H1, Same F F1 → Same F1 H1 → J.stop ds.length H1
  yld : ∀ i d F1 H1 x H2, ds[i]? = some d → Same F F1 → Same F1 H1 → J.yld i H1 x H2 → ∃ F2, New F1 H1 F2 H2 ∧ ItD K b F2 H2 x d
def iD (K : PySem.W.Frag) (b : Bool) (fi : FL) : TI := fun σ H R => ∃ F ρ ds ρ', Wf K F H σ ρ ∧ fi ρ = some (ds, ρ') ∧ ∀ J F' H', Go F H σ ρ F' H' σ ρ' → Wf K F' H' σ ρ' → WalkD K b J F' ds → R J H'
theorem pi_weak {X : Cx} {tg e : Expr} {t t' : TI} (h : PI X tg e t) (w : ∀ σ H R, t' σ H R → t σ H R) : PI X tg e t' := ⟨fun pins s σ H R I q => h.run pins s σ H R I (w σ H R q)⟩
theorem walk_list {K : PySem.W.Frag} {F : Hp} {a : Addr} {xs : List V} {ds : List PyData} (h1 : SqL K F a xs) (h2 : RpAll K F xs ds) : WalkD K false (Itl K a) F ds := by
  refine ⟨fun i F1 H1 hi g s => ?_, fun F1 H1 g s => ⟨xs, s.seq (g.seq h1), Nat.le_of_eq h2.length⟩, fun i d F1 H1 x H2 e g s y => ?_⟩
  · have hi' : i < xs.length := by rw [h2.length]; exact hi
    exact ⟨xs, xs[i], s.seq (g.seq h1), by simp [hi']⟩
  · obtain ⟨rfl, y⟩ := y
    obtain ⟨v, e1, e2⟩ := h2.get e
    have e3 := y xs (s.seq (g.seq h1))
    rw [e1] at e3
    cases e3
    exact ⟨F1, New.refl s, e2.mono g⟩
theorem walk_tup {K : PySem.W.Frag} {F : Hp} {a : Addr} {xs : List V} {ds : List PyData} (h1 : ExT K F a xs) (h2 : RpAll K F xs ds) : WalkD K false (Itt K a) F ds := by
  refine ⟨fun i F1 H1 hi g s => ?_, fun F1 H1 g s => ⟨xs, seqX s (h1.mono g), Nat.le_of_eq h2.length⟩, fun i d F1 H1 x H2 e g s y => ?_⟩
  · have hi' : i < xs.length := by rw [h2.length]; exact hi
    exact ⟨xs, xs[i], seqX s (h1.mono g), by simp [hi']⟩
  · obtain ⟨rfl, y⟩ := y
    obtain ⟨v, e1, e2⟩ := h2.get e
    have e3 := y xs (seqX s (h1.mono g))
    rw [e1] at e3
    cases e3
    exact ⟨F1, New.refl s, e2.mono g⟩
def seqOf : PyData → Option (List PyData)
  | .list ds => some ds
  | .tuple ds => some ds
  | _ => none
def iSeqD (f : FE) : FL := fun ρ => (f ρ).bind fun p => (seqOf p.1).bind fun ds => some (ds, p.2)
theorem i_seq {X : Cx} {tg e : Expr} {f : FE} (h : PE X e (tD X.K f)) : PI X tg e (iD X.K false (iSeqD f)) := pi_weak (pi_seq h) fun σ H R ⟨F, ρ, ds, ρ', w, e, q⟩ => by
  obtain ⟨⟨x, ρ1⟩, e1, e⟩ := Option.bind_eq_some_iff.mp e
  obtain ⟨z, e2, e⟩ := Option.bind_eq_some_iff.mp e
  cases e
  refine ⟨F, ρ, x, _, w, e1, fun v F1 H1 g1 w1 d1 => ?_⟩
  cases d1 with
  | lst h1 h2 =>
    cases e2
    exact ⟨_, rfl, .inl ⟨⟨_, w1.sub.seq h1⟩, q _ F1 H1 g1 w1 (walk_list h1 h2)⟩⟩
  | tup h1 h2 =>
    cases e2
    exact ⟨_, rfl, .inr ⟨⟨_, seqX w1.sub h1⟩, q _ F1 H1 g1 w1 (walk_tup h1 h2)⟩⟩
  | _ => cases e2
def rangeD (n : Nat) : List PyData := (List.range n).map fun (i : Nat) => PyData.int (0 + (i : Int))
def iRange (fl : FL) : FL := fun ρ => (fl ρ).bind fun p => match p.1 with
  | [.int n] => if (decide (-(2 ^ 62) ≤ n) && decide (n < 2 ^ 62)) = true then some (rangeD n.toNat, p.2) else none
  | _ => none
theorem walk_range {K : PySem.W.Frag} {F : Hp} (n : Nat) : WalkD K false (Itr 0 n) F (rangeD n) := by
  have hl : (rangeD n).length = n := by unfold rangeD; rw [List.length_map, List.length_range]
  refine ⟨fun i F1 H1 hi g s => by rw [hl] at hi; exact hi, fun F1 H1 g s => Nat.le_of_eq hl.symm, fun i d F1 H1 x H2 e g s y => ?_⟩
  obtain ⟨rfl, rfl⟩ := y
  refine ⟨F1, New.refl s, ?_⟩
  unfold rangeD at e
  rw [List.getElem?_map] at e
  obtain ⟨j, e1, rfl⟩ := Option.map_eq_some_iff.mp e
  have e2 : j = i := by
    obtain ⟨h1, h2⟩ := List.getElem?_eq_some_iff.mp e1
    rw [List.getElem_range] at h2
    exact h2.symm
  subst e2
  exact .int _
theorem i_range {X : Cx} {tg a : Expr} {fl : FL} {p pos : Pos} (hm : X.mg "range" = none) (ha : PA X [a] (aD X.K fl)) (hg : Gl X "range" := by rfl) (hs : starEach [a] X.env = [(false, eval a X.env)] := by rfl) : PI X tg (.Call (.Name "range" p) [a] [] pos) (iD X.K false (iRange fl)) :=
  pi_weak (pi_range1 hg hm ha hs) fun σ H R ⟨F, ρ, ds, ρ', w, e, q⟩ => by
    obtain ⟨⟨x, ρ1⟩, e1, e⟩ := Option.bind_eq_some_iff.mp e
    split at e
    · rename_i n z
      have z : x = [PyData.int n] := z
      subst z
      split at e
      · rename_i hm
        cases e
        refine ⟨F, ρ, _, _, w, e1, fun vs F1 H1 g1 w1 d1 => ?_⟩
        obtain ⟨v, rfl, h⟩ := one_D d1
        cases h
        exact ⟨n, rfl, of_decide_eq_true (Bool.and_eq_true_iff.mp hm).1, of_decide_eq_true (Bool.and_eq_true_iff.mp hm).2, q _ F1 H1 g1 w1 (walk_range _)⟩
      · cases e
    · cases e
def zipD : List PyData → List PyData → List PyData
  | x :: xs, y :: ys => .tuple [x, y] :: zipD xs ys
  | _, _ => []
theorem zipD_len : ∀ xs ys : List PyData, (zipD xs ys).length = min xs.length ys.length
  | [], ys => by simp [zipD]
  | x :: xs, [] => by simp [zipD]
  | x :: xs, y :: ys => by simp only [zipD, List.length_cons, zipD_len xs ys]; omega
theorem zipD_get : ∀ {xs ys : List PyData} {i : Nat} {d : PyData}, (zipD xs ys)[i]? = some d → ∃ x y, xs[i]? = some x ∧ ys[i]? = some y ∧ d = .tuple [x, y]
  | [], _, _, _, h => by simp [zipD] at h
  | _ :: _, [], _, _, h => by simp [zipD] at h
  | x :: xs, y :: ys, 0, d, h => by
    simp [zipD] at h
    exact ⟨x, y, rfl, rfl, h.symm⟩
  | x :: xs, y :: ys, i + 1, d, h => by
    simp only [zipD, List.getElem?_cons_succ] at h ⊢
    exact zipD_get h
def iZipF (fl : FL) : FL := fun ρ => (fl ρ).bind fun p => match p.1 with
  | [.list xs, .list ys] => some (zipD xs ys, p.2)
  | [.tuple xs, .tuple ys] => some (zipD xs ys, p.2)
  | _ => none
theorem pair_new {K : PySem.W.Frag} {F1 H1 : Hp} {T : Addr} {x y : V} {d e : PyData} (s : Same F1 H1) (hT : H1 T = none) (hx : Rp K F1 x d) (hy : Rp K F1 y e) : ∃ F2, New F1 H1 F2 (upd H1 T (.tup [x, y])) ∧ ItD K true F2 (upd H1 T (.tup [x, y])) (.ref T) (.tuple [d, e]) := by
  have n := New.side (o := .tup [x, y]) s hT
  exact ⟨_, n, T, x, y, d, e, rfl, rfl, .inl (.inl upd_same), hx, hy⟩
theorem two_D {K : PySem.W.Frag} {F : Hp} {vs : List V} {d e : PyData} (h : RpAll K F vs [d, e]) : ∃ v u, vs = [v, u] ∧ Rp K F v d ∧ Rp K F u e := by
  cases h with
  | cons h t =>
    cases t with
    | cons h' t =>
      cases t
      exact ⟨_, _, rfl, h, h'⟩
theorem i_zip {X : Cx} {e e2 : Expr} {fl : FL} {p pos tpos : Pos} {elts : List Expr} {kk : Nat} (hm : X.mg "zip" = none) (ha : PA X [e, e2] (aD X.K fl)) (hg : Gl X "zip" := by rfl)
    (hs : starEach [e, e2] X.env = (false, eval e X.env) :: starEach [e2] X.env := by rfl) (hpl : (backTo pos (starEach [e2] X.env)).any (·.1) = false := by rfl) : PI X (.Tuple elts kk tpos) (.Call (.Name "zip" p) [e, e2] [] pos) (iD X.K true (iZipF fl)) :=
  pi_weak (RZ.pi_zipA hg hm ha hs hpl) fun σ H R ⟨F, ρ, ds, ρ', w, e, q⟩ => by
    obtain ⟨⟨x, ρ1⟩, e1, e⟩ := Option.bind_eq_some_iff.mp e
    split at e
    · rename_i xs ys z
      have z : x = _ := z
      subst z
      cases e
      refine ⟨F, ρ, _, _, w, e1, fun vs F1 H1 g1 w1 d1 => ?_⟩
      obtain ⟨v, u, rfl, hv, hu⟩ := two_D d1
      cases hv with
      | @lst a vx _ h1 h2 =>
        cases hu with
        | @lst b vy _ h3 h4 =>
          refine ⟨a, b, vx, vy, rfl, .inl ⟨w1.sub.seq h1, w1.sub.seq h3, q _ F1 H1 g1 w1 ⟨fun i F2 H2 hi g s => ?_, fun F2 H2 g s => ⟨vx, vy, s.seq (g.seq h1), s.seq (g.seq h3), ?_⟩, fun i d F2 H2 x H3 e g s y => ?_⟩⟩⟩
          · rw [zipD_len] at hi
            have i1 : i < vx.length := by rw [h2.length]; omega
            have i2 : i < vy.length := by rw [h4.length]; omega
            exact ⟨vx, vy, vx[i], vy[i], s.seq (g.seq h1), s.seq (g.seq h3), by simp [i1], by simp [i2]⟩
          · rw [zipD_len]
            have := h2.length
            have := h4.length
            omega
          · obtain ⟨T, p, r, rfl, hT, rfl, f1, f2⟩ := y
            obtain ⟨dx, dy, e2, e3, rfl⟩ := zipD_get e
            obtain ⟨v1, e4, e5⟩ := h2.get e2
            obtain ⟨v2, e6, e7⟩ := h4.get e3
            have e8 := f1 vx (s.seq (g.seq h1))
            have e9 := f2 vy (s.seq (g.seq h3))
            rw [e4] at e8
            rw [e6] at e9
            cases e8
            cases e9
            exact pair_new s hT (e5.mono g) (e7.mono g)
    · rename_i xs ys z
      have z : x = _ := z
      subst z
      cases e
      refine ⟨F, ρ, _, _, w, e1, fun vs F1 H1 g1 w1 d1 => ?_⟩
      obtain ⟨v, u, rfl, hv, hu⟩ := two_D d1
      cases hv with
      | @tup a vx _ h1 h2 =>
        cases hu with
        | @tup b vy _ h3 h4 =>
          refine ⟨a, b, vx, vy, rfl, .inr ⟨seqX w1.sub h1, seqX w1.sub h3, q _ F1 H1 g1 w1 ⟨fun i F2 H2 hi g s => ?_, fun F2 H2 g s => ⟨vx, vy, seqX s (h1.mono g), seqX s (h3.mono g), ?_⟩, fun i d F2 H2 x H3 e g s y => ?_⟩⟩⟩
          · rw [zipD_len] at hi
            have i1 : i < vx.length := by rw [h2.length]; omega
            have i2 : i < vy.length := by rw [h4.length]; omega
            exact ⟨vx, vy, vx[i], vy[i], seqX s (h1.mono g), seqX s (h3.mono g), by simp [i1], by simp [i2]⟩
          · rw [zipD_len]
            have := h2.length
            have := h4.length
            omega
          · obtain ⟨T, p, r, rfl, hT, rfl, f1, f2⟩ := y
            obtain ⟨dx, dy, e2, e3, rfl⟩ := zipD_get e
            obtain ⟨v1, e4, e5⟩ := h2.get e2
            obtain ⟨v2, e6, e7⟩ := h4.get e3
            have e8 := f1 vx (seqX s (h1.mono g))
            have e9 := f2 vy (seqX s (h3.mono g))
            rw [e4] at e8
            rw [e6] at e9
            cases e8
            cases e9
            exact pair_new s hT (e5.mono g) (e7.mono g)
    · cases e
def enumD : Nat → List PyData → List PyData
  | _, [] => []
  | n, d :: r => .tuple [.int (n : Int), d] :: enumD (n + 1) r
theorem enumD_len : ∀ (n : Nat) (xs : List PyData), (enumD n xs).length = xs.length
  | _, [] => rfl
  | n, d :: r => congrArg (· + 1) (enumD_len (n + 1) r)
theorem enumD_get : ∀ {n : Nat} {xs : List PyData} {i : Nat} {d : PyData}, (enumD n xs)[i]? = some d → ∃ x, xs[i]? = some x ∧ d = .tuple [.int ((n + i : Nat) : Int), x]
  | _, [], _, _, h => by simp [enumD] at h
  | n, x :: xs, 0, d, h => by
    simp [enumD] at h
    exact ⟨x, rfl, h.symm⟩
  | n, x :: xs, i + 1, d, h => by
    simp only [enumD, List.getElem?_cons_succ] at h ⊢
    obtain ⟨y, e1, e2⟩ := enumD_get h
    exact ⟨y, e1, by rw [e2, show n + 1 + i = n + (i + 1) by omega]⟩
def iEnumF (fl : FL) : FL := fun ρ => (fl ρ).bind fun p => match p.1 with
  | [.list xs] => some (enumD 0 xs, p.2)
  | [.tuple xs] => some (enumD 0 xs, p.2)
  | _ => none
theorem i_enum {X : Cx} {e : Expr} {fl : FL} {p pos tpos : Pos} {elts : List Expr} {kk : Nat} (hm : X.mg "enumerate" = none) (ha : PA X [e] (aD X.K fl)) (hg : Gl X "enumerate" := by rfl) (hs : starEach [e] X.env = [(false, eval e X.env)] := by rfl) :
    PI X (.Tuple elts kk tpos) (.Call (.Name "enumerate" p) [e] [] pos) (iD X.K true (iEnumF fl)) :=
  pi_weak (pi_enumA hg hm ha hs) fun σ H R ⟨F, ρ, ds, ρ', w, e, q⟩ => by
    obtain ⟨⟨x, ρ1⟩, e1, e⟩ := Option.bind_eq_some_iff.mp e
    split at e
    · rename_i xs z
      have z : x = _ := z
      subst z
      cases e
      refine ⟨F, ρ, _, _, w, e1, fun vs F1 H1 g1 w1 d1 => ?_⟩
      obtain ⟨v, rfl, hv⟩ := one_D d1
      cases hv with
      | @lst a vx _ h1 h2 =>
        refine ⟨a, vx, rfl, .inl ⟨w1.sub.seq h1, q _ F1 H1 g1 w1 ⟨fun i F2 H2 hi g s => ?_, fun F2 H2 g s => ⟨vx, s.seq (g.seq h1), ?_⟩, fun i d F2 H2 x H3 e g s y => ?_⟩⟩⟩
        · rw [enumD_len] at hi
          have i1 : i < vx.length := by rw [h2.length]; omega
          exact ⟨vx, vx[i], s.seq (g.seq h1), by simp [i1]⟩
        · rw [enumD_len]
          exact Nat.le_of_eq h2.length
        · obtain ⟨T, p, rfl, hT, rfl, f1⟩ := y
          obtain ⟨dx, e2, rfl⟩ := enumD_get e
          obtain ⟨v1, e4, e5⟩ := h2.get e2
          have e8 := f1 vx (s.seq (g.seq h1))
          rw [e4] at e8
          cases e8
          rw [Nat.zero_add]
          exact pair_new s hT (.int _) (e5.mono g)
    · rename_i xs z
      have z : x = _ := z
      subst z
      cases e
      refine ⟨F, ρ, _, _, w, e1, fun vs F1 H1 g1 w1 d1 => ?_⟩
      obtain ⟨v, rfl, hv⟩ := one_D d1
      cases hv with
      | @tup a vx _ h1 h2 =>
        refine ⟨a, vx, rfl, .inr ⟨seqX w1.sub h1, q _ F1 H1 g1 w1 ⟨fun i F2 H2 hi g s => ?_, fun F2 H2 g s => ⟨vx, seqX s (h1.mono g), ?_⟩, fun i d F2 H2 x H3 e g s y => ?_⟩⟩⟩
        · rw [enumD_len] at hi
          have i1 : i < vx.length := by rw [h2.length]; omega
          exact ⟨vx, vx[i], seqX s (h1.mono g), by simp [i1]⟩
        · rw [enumD_len]
          exact h2.length
        · obtain ⟨T, p, rfl, hT, rfl, f1⟩ := y
          obtain ⟨dx, e2, rfl⟩ := enumD_get e
          obtain ⟨v1, e4, e5⟩ := h2.get e2
          have e8 := f1 vx (seqX s (h1.mono g))
          rw [e4] at e8
          cases e8
          rw [Nat.zero_add]
          exact pair_new s hT (.int _) (e5.mono g)
    · cases e
end DL

/-! ## DL7 -/
set_option Elab.async false
set_option linter.all false
set_option maxRecDepth 100000
set_option maxHeartbeats 4000000
namespace DL
open PySem PySem.Spec PyProof.Rows L2

/-! ### a list that is owned, handed to a def -/
theorem wf_own {K : PySem.W.Frag} {F H : Hp} {a : Addr} {us vs : List V} {es ds : List PyData} (sm : Same F H) (h0 : F a = none) (h1 : H a = some (.lst us)) (h2 : RpAll K F us es) (h : RpAll K F vs ds) :
    Wf K F H ((V.ref a :: vs).map some) (.own es :: ds.map Sl.val) := by
  have wv := wf_vals sm h
  refine ⟨sm, by have := wv.len; simpa using this, fun i d e => ?_, fun i ds' e => ?_, fun i j ds' es' b e1 e2 _ _ => ?_⟩
  · cases i with
    | zero => simp at e
    | succ i => exact wv.val i d (by simpa using e)
  · cases i with
    | zero =>
      simp at e
      subst e
      exact ⟨a, us, rfl, h0, h1, h2⟩
    | succ i => exact absurd (show (ds.map Sl.val)[i]? = some (.own ds') by simpa using e) val_not
  · cases i with
    | zero =>
      cases j with
      | zero => rfl
      | succ j => exact absurd (show (ds.map Sl.val)[j]? = some (.own es') by simpa using e2) val_not
    | succ i => exact absurd (show (ds.map Sl.val)[i]? = some (.own ds') by simpa using e1) val_not
theorem ow_own {a b : Addr} {vs : List V} {es : List PyData} {ds : List PyData} (h : Ow ((V.ref a :: vs).map some) (.own es :: ds.map Sl.val) b) : b = a := by
  obtain ⟨i, ds', e1, e2⟩ := h
  cases i with
  | zero =>
    simp at e2
    exact e2.symm
  | succ i => exact absurd (show (ds.map Sl.val)[i]? = some (.own ds') by simpa using e1) val_not
/-- back from such a call: the caller's state -/
theorem own_back {K : PySem.W.Frag} {F H F' H' : Hp} {σ : L2.St} {ρ : Ev} {i : Nat} {a : Addr} {vs : List V} {es zs ds : List PyData} (w : Wf K F H σ ρ) (hρ : ρ[i]? = some (.own es)) (hσ : σ[i]? = some (some (.ref a)))
    (g : Go F H ((V.ref a :: vs).map some) (.own es :: ds.map Sl.val) F' H' ((V.ref a :: vs).map some) (.own zs :: ds.map Sl.val)) (w' : Wf K F' H' ((V.ref a :: vs).map some) (.own zs :: ds.map Sl.val)) :
    Go F H σ ρ F' H' σ (ρ.set i (.own zs)) ∧ Wf K F' H' σ (ρ.set i (.own zs)) := by
  have hi : i < ρ.length := (List.getElem?_eq_some_iff.mp hρ).1
  have aOw : Ow σ ρ a := ⟨i, es, hρ, hσ⟩
  have at_ : ∀ {j : Nat} {s : Sl}, (ρ.set i (.own zs))[j]? = some s → (j = i ∧ s = .own zs) ∨ (j ≠ i ∧ ρ[j]? = some s) := fun {j s} e => by
    by_cases c : j = i
    · subst c
      rw [List.getElem?_set_self hi] at e
      exact .inl ⟨rfl, (Option.some.inj e).symm⟩
    · rw [List.getElem?_set_ne (Ne.symm c)] at e
      exact .inr ⟨c, e⟩
  refine ⟨⟨g.grow, g.fresh, fun b o h hn => g.keep b o h fun z => hn (by rw [ow_own z]; exact aOw), g.there, fun b h => ?_, fun ds' h => ⟨rfl, ?_⟩⟩, ⟨w'.sub, by rw [List.length_set]; exact w.len, fun j d e => ?_, fun j ds' e => ?_, fun j l ds1 es1 b e1 e2 e3 e4 => ?_⟩⟩
  · obtain ⟨j, ds', e1, e2⟩ := h
    rcases at_ e1 with ⟨rfl, _⟩ | ⟨_, e1⟩
    · exact .inl ⟨j, es, hρ, e2⟩
    · exact .inl ⟨j, ds', e1, e2⟩
  · by_cases c : i = 0
    · subst c
      exact ⟨zs, by rw [List.getElem?_set_self hi]⟩
    · exact ⟨ds', by rw [List.getElem?_set_ne c]; exact h⟩
  · rcases at_ e with ⟨_, e⟩ | ⟨_, e⟩
    · cases e
    · obtain ⟨v, e1, q⟩ := w.val j d e
      exact ⟨v, e1, q.mono g.grow⟩
  · rcases at_ e with ⟨rfl, e0⟩ | ⟨c, e⟩
    · cases e0
      obtain ⟨b, us, e1, e2, e3, q⟩ := w'.own 0 zs rfl
      have e1 : some (V.ref a) = some (V.ref b) := by simpa using e1
      cases e1
      exact ⟨a, us, hσ, e2, e3, q⟩
    · obtain ⟨b, us, e1, e2, e3, q⟩ := w.own j ds' e
      have nb : b ≠ a := fun z => c (w.inj j i ds' es a e hρ (by rw [← z]; exact e1) hσ)
      refine ⟨b, us, e1, ?_, g.keep b _ e3 fun z => nb (ow_own z), q.mono g.grow⟩
      cases z : F' b with
      | none => rfl
      | some o =>
        rcases g.fresh b o z with z | z
        · rw [e2] at z; cases z
        · rw [e3] at z; cases z
  · rcases at_ e1 with ⟨z1, _⟩ | ⟨_, f1⟩
    · rcases at_ e2 with ⟨z2, _⟩ | ⟨_, f2⟩
      · exact z1.trans z2.symm
      · exact w.inj _ _ es es1 b (by rw [z1]; exact hρ) f2 e3 e4
    · rcases at_ e2 with ⟨z2, _⟩ | ⟨_, f2⟩
      · exact w.inj _ _ ds1 es b f1 (by rw [z2]; exact hρ) e3 e4
      · exact w.inj _ _ ds1 es1 b f1 f2 e3 e4
def resZ : Option (Sl × Sl) → Option (PyData × List PyData)
  | some (.val d, .own z) => some (d, z)
  | some (.own ds, .own z) => some (.list ds, z)
  | _ => none
theorem resZ_some {o : Option (Sl × Sl)} {d : PyData × List PyData} (h : resZ o = some d) : ∃ r, o = some (r, .own d.2) ∧ (r = .val d.1 ∨ ∃ ds, r = .own ds ∧ d.1 = .list ds) := by
  cases o with
  | none => cases h
  | some p =>
    obtain ⟨r, z⟩ := p
    cases r <;> cases z <;> cases h
    · exact ⟨_, rfl, .inl rfl⟩
    · exact ⟨_, rfl, .inr ⟨_, rfl, rfl⟩⟩
def eCallO (i : Nat) (fn : FD) (fl : FL) : FE := fun ρ => match ρ[i]? with
  | some (.own _) => (fl ρ).bind fun p => match p.2[i]? with
    | some (.own es) => (resZ (fn (.own es :: p.1.map .val))).bind fun r => some (r.1, p.2.set i (.own r.2))
    | _ => none
  | _ => none
section
variable {X : Cx} {a b c e : Expr} {es : List Expr} {f f1 f2 f3 : FE} {fl : FL} {p pos : Pos} {k j : Nat} {x : Str} {st : Stmt} {ps : List Str} {fn : FD}
theorem d_callO (i : Nat) {y : Str} {q2 : Pos} (D : DefOk X.prog X.w X.K X.mg X.base k x st ps fn) (A : Ar fn ps.length) (hr : Room j X.A) (hk : k ≤ j) (ha : PA X es (aD X.K fl)) (hg : Gl X x := by rfl) (hdb : (x == ("__debug__" : Str)) = false := by decide)
    (he : starEach (.Name y q2 :: es) X.env = (false, eval (.Name y q2) X.env) :: starEach es X.env := by rfl) (hpl : (backTo pos (starEach es X.env)).any (·.1) = false := by rfl)
    (hN : X.N[i]? = some y := by rfl) (hv : Vis X.env.scope y := by first | exact Or.inl rfl | exact Or.inr (Or.inl rfl) | exact Or.inr (Or.inr rfl)) (hd : (y == ("__debug__" : Str)) = false := by decide) (hcd : (y == ("__classdict__" : Str)) = false := by decide) :
    PE X (.Call (.Name x p) (.Name y q2 :: es) [] pos) (tD X.K (eCallO i fn fl)) := by
  obtain ⟨f, fd, hm, F, ok⟩ := D.ex
  refine pe_weak (pe_call (E := E0) (ds := []) (dvs := []) ok (hr.mono hk) hg hm F.kp (F.binds D.bd) .nil pass0 (pa_cons (pe_var hN hv hd hcd) ha he) hdb he hpl) fun σ H Q h => ?_
  obtain ⟨F, ρ, d, ρ', w, e, q⟩ := h
  unfold eCallO at e
  split at e
  · rename_i ds0 h0
    obtain ⟨⟨ds, ρ1⟩, e1, e⟩ := Option.bind_eq_some_iff.mp e
    split at e
    · rename_i es h1
      obtain ⟨⟨d', zs⟩, e2, e⟩ := Option.bind_eq_some_iff.mp e
      cases e
      have h1 : ρ1[i]? = some (.own es) := h1
      obtain ⟨a0, vs0, s1, _⟩ := w.own i ds0 h0
      refine ⟨.ref a0, s1, F, ρ, ds, ρ1, w, e1, fun vs F1 H1 g1 w1 d1 => ?_⟩
      show spD X.K ps.length fn (V.ref a0 :: vs ++ []) H1 Q E0
      rw [List.append_nil]
      obtain ⟨a, us, s2, s3, s4, s5⟩ := w1.own i es h1
      rw [s1] at s2
      cases s2
      obtain ⟨r, e3, e4⟩ := resZ_some e2
      refine ⟨F1, .own es :: ds.map .val, r, .own zs, wf_own w1.sub s3 s4 s5 d1, A.ar _ (by rw [show fn (.own es :: ds.map .val) = _ from e3]; simp), e3, fun v F' H' g w' res => ?_⟩
      obtain ⟨g2, w2⟩ := own_back w1 h1 s1 g w'
      rcases e4 with rfl | ⟨ds', rfl, e4⟩
      · exact q v F' H' (g1.trans g2) w2 res
      · have e4 : d' = .list ds' := e4
        subst e4
        obtain ⟨b, ws, rfl, i0, i1, i2, i3⟩ := res
        have no : ¬ Ow σ (ρ1.set i (.own zs)) b := fun z => by
          rcases g2.owns b z with z | z
          · exact w1.notOw i0 z
          · obtain ⟨k, dz, z1, z2⟩ := ‹Ow σ (ρ1.set i (.own zs)) b›
            by_cases ck : k = i
            · subst ck
              rw [s1] at z2
              cases z2
              rw [i0] at s4
              cases s4
            · rw [List.getElem?_set_ne (Ne.symm ck)] at z1
              exact w1.notOw i0 ⟨k, dz, z1, z2⟩
        exact q _ _ _ ((g1.trans g2).freeze (g1.there b i0) i1) (w2.freeze i2 i1 no) (.lst (.inl (.inl upd_same)) (i3.mono (same_upd i1)))
    · cases e
  · cases e
/-- a new list handed to a def -/
def eCallF (fn : FD) (fo : FL) : FE := fun ρ => (fo ρ).bind fun p => match fn [.own p.1] with
  | some (.val d, .own _) => some (d, p.2)
  | _ => none
theorem d_callF (D : DefOk X.prog X.w X.K X.mg X.base k x st ps fn) (A : Ar fn ps.length) (hr : Room j X.A) (hk : k ≤ j) (ha : PE X e (tO X.K fl)) (hg : Gl X x := by rfl) (hdb : (x == ("__debug__" : Str)) = false := by decide)
    (he : starEach [e] X.env = (false, eval e X.env) :: starEach [] X.env := by rfl) (hpl : (backTo pos (starEach [] X.env)).any (·.1) = false := by rfl) : PE X (.Call (.Name x p) [e] [] pos) (tD X.K (eCallF fn fl)) := by
  obtain ⟨f, fd, hm, F, ok⟩ := D.ex
  refine pe_weak (pe_call (E := E0) (ds := []) (dvs := []) ok (hr.mono hk) hg hm F.kp (F.binds D.bd) .nil pass0 (pa_cons ha pa_nil he) hdb he hpl) fun σ H Q h => ?_
  obtain ⟨F, ρ, d, ρ', w, e, q⟩ := h
  obtain ⟨⟨ds, ρ1⟩, e1, e⟩ := Option.bind_eq_some_iff.mp e
  split at e
  · rename_i d' zs e2
    cases e
    have e2 : fn [.own ds] = _ := e2
    refine ⟨F, ρ, ds, _, w, e1, fun a vs F1 H1 g1 w1 h0 h1 h2 d1 no => ?_⟩
    show spD X.K ps.length fn ([V.ref a] ++ []) H1 Q E0
    refine ⟨F1, [.own ds], .val d, .own zs, wf_own (vs := []) (ds := []) w1.sub h1 h2 d1 .nil, A.ar _ (by rw [e2]; simp), e2, fun v F' H' g w' res => ?_⟩
    have nb : ∀ b, Ow σ ρ1 b → ¬ Ow ((V.ref a :: []).map some) (.own ds :: ([] : List PyData).map Sl.val) b := fun b z z2 => no (by rw [← ow_own z2]; exact z)
    refine q v F' H' ⟨g1.grow.trans g.grow, fun b o e => ?_, fun b o e hn => ?_, fun b e => g1.there b (g.there b e), g1.owns, g1.zero⟩ ?_ res
    · rcases g.fresh b o e with z | z
      · exact g1.fresh b o z
      · exact .inr (g1.there b z)
    · refine g.keep b o (g1.keep b o e hn) fun z => ?_
      have z : Ow ((V.ref a :: []).map some) (.own ds :: ([] : List PyData).map Sl.val) b := z
      rw [ow_own z, h0] at e
      cases e
    · refine ⟨w'.sub, w1.len, fun i d e => ?_, fun i ds' e => ?_, w1.inj⟩
      · obtain ⟨v, e1, q⟩ := w1.val i d e
        exact ⟨v, e1, q.mono g.grow⟩
      · obtain ⟨b, us, e1, e2, e3, q⟩ := w1.own i ds' e
        refine ⟨b, us, e1, ?_, g.keep b _ e3 (nb b ⟨i, ds', e, e1⟩), q.mono g.grow⟩
        cases z : F' b with
        | none => rfl
        | some o =>
          rcases g.fresh b o z with z | z
          · rw [e2] at z; cases z
          · rw [e3] at z; cases z
  · cases e
end

/-! ### targets -/
abbrev FT := PyData → Ev → Option Ev
/-- the slots apart from those told stay -/
def Apart (ix : List Nat) (σ σ' : L2.St) : Prop := σ'.length = σ.length ∧ ∀ j, j ∉ ix → σ'[j]? = σ[j]?
theorem Apart.refl (ix : List Nat) (σ : L2.St) : Apart ix σ σ := ⟨rfl, fun _ _ => rfl⟩
theorem Apart.trans {ix jx : List Nat} {σ σ1 σ2 : L2.St} (a : Apart ix σ σ1) (b : Apart jx σ1 σ2) : Apart (ix ++ jx) σ σ2 :=
  ⟨b.1.trans a.1, fun j h => (b.2 j fun z => h (List.mem_append_right _ z)).trans (a.2 j fun z => h (List.mem_append_left _ z))⟩
def gD (K : PySem.W.Frag) (b : Bool) (ix : List Nat) (t : FT) : TG := fun v σ H Q => ∃ F ρ d ρ', Wf K F H σ ρ ∧ ItD K b F H v d ∧ t d ρ = some ρ' ∧ ∀ σ', Apart ix σ σ' → Go F H σ ρ F H σ' ρ' → Wf K F H σ' ρ' → Q σ' H
theorem pg_weak {X : Cx} {e : Expr} {t t' : TG} (h : PG X e t) (w : ∀ v σ H Q, t' v σ H Q → t v σ H Q) : PG X e t' := ⟨fun pins s σ H v u Q I r q => h.run pins s σ H v u Q I r (w v σ H Q q)⟩
def putS (i : Nat) (s : Sl) : Ev → Option Ev := fun ρ => if i < ρ.length then match i, ρ[i]? with
  | 0, some (.own _) => none
  | _, _ => some (ρ.set i s) else none
theorem putS_some {i : Nat} {s : Sl} {ρ ρ' : Ev} (h : putS i s ρ = some ρ') : i < ρ.length ∧ ρ' = ρ.set i s ∧ (i = 0 → ∀ ds, ρ[0]? ≠ some (.own ds)) := by
  unfold putS at h
  split at h
  · rename_i hi
    split at h
    · cases h
    · rename_i hno
      cases h
      exact ⟨hi, rfl, fun e ds z => by subst e; exact hno ds rfl z⟩
  · cases h
theorem put_val {K : PySem.W.Frag} {F H : Hp} {σ : L2.St} {ρ ρ' : Ev} {i : Nat} {v : V} {d : PyData} (w : Wf K F H σ ρ) (hd : Rp K F v d) (h : putS i (.val d) ρ = some ρ') :
    Go F H σ ρ F H (σ.set i (some v)) ρ' ∧ Wf K F H (σ.set i (some v)) ρ' := by
  obtain ⟨hi, rfl, h0⟩ := putS_some h
  have hiσ : i < σ.length := by rw [← w.len]; exact hi
  have at_ : ∀ {j : Nat} {s : Sl}, (ρ.set i (.val d))[j]? = some s → (j = i ∧ s = .val d) ∨ (j ≠ i ∧ ρ[j]? = some s) := fun {j s} e => by
    by_cases c : j = i
    · subst c
      rw [List.getElem?_set_self hi] at e
      exact .inl ⟨rfl, (Option.some.inj e).symm⟩
    · rw [List.getElem?_set_ne (Ne.symm c)] at e
      exact .inr ⟨c, e⟩
  have σne : ∀ {j : Nat}, j ≠ i → (σ.set i (some v))[j]? = σ[j]? := fun {j} c => List.getElem?_set_ne (Ne.symm c)
  refine ⟨⟨Same.refl F, fun _ _ h => .inl h, fun _ _ h _ => h, fun _ h => h, fun b hb => ?_, fun ds hz => ?_⟩, ⟨w.sub, by rw [List.length_set, List.length_set]; exact w.len, fun j d' e => ?_, fun j ds e => ?_, fun j l ds1 es1 b e1 e2 e3 e4 => ?_⟩⟩
  · obtain ⟨j, ds, e1, e2⟩ := hb
    rcases at_ e1 with ⟨_, e1⟩ | ⟨c, e1⟩
    · cases e1
    · rw [σne c] at e2
      exact .inl ⟨j, ds, e1, e2⟩
  · have c : i ≠ 0 := fun z => h0 z ds hz
    exact ⟨List.getElem?_set_ne c, ds, by rw [List.getElem?_set_ne c]; exact hz⟩
  · rcases at_ e with ⟨z0, e0⟩ | ⟨c, e0⟩
    · cases e0
      exact ⟨v, by rw [z0, List.getElem?_set_self hiσ], hd⟩
    · rw [σne c]
      exact w.val j d' e0
  · rcases at_ e with ⟨_, e⟩ | ⟨c, e⟩
    · cases e
    · rw [σne c]
      exact w.own j ds e
  · rcases at_ e1 with ⟨_, e1⟩ | ⟨c1, e1⟩
    · cases e1
    · rcases at_ e2 with ⟨_, e2⟩ | ⟨c2, e2⟩
      · cases e2
      · rw [σne c1] at e3
        rw [σne c2] at e4
        exact w.inj j l ds1 es1 b e1 e2 e3 e4
/-- a new list of one's own goes to slot i -/
theorem put_own {K : PySem.W.Frag} {F H : Hp} {σ : L2.St} {ρ ρ' : Ev} {i : Nat} {a : Addr} {vs : List V} {ds : List PyData} (w : Wf K F H σ ρ) (hF : F a = none) (hH : H a = some (.lst vs)) (hd : RpAll K F vs ds) (no : ¬ Ow σ ρ a) (h : putS i (.own ds) ρ = some ρ') :
    Wf K F H (σ.set i (some (.ref a))) ρ' ∧ (∀ b, Ow (σ.set i (some (.ref a))) ρ' b → Ow σ ρ b ∨ b = a) ∧ ∀ es, ρ[0]? = some (.own es) → (σ.set i (some (V.ref a)))[0]? = σ[0]? ∧ ∃ es', ρ'[0]? = some (.own es') := by
  obtain ⟨hi, rfl, h0⟩ := putS_some h
  have hiσ : i < σ.length := by rw [← w.len]; exact hi
  have at_ : ∀ {j : Nat} {s : Sl}, (ρ.set i (.own ds))[j]? = some s → (j = i ∧ s = .own ds) ∨ (j ≠ i ∧ ρ[j]? = some s) := fun {j s} e => by
    by_cases c : j = i
    · subst c
      rw [List.getElem?_set_self hi] at e
      exact .inl ⟨rfl, (Option.some.inj e).symm⟩
    · rw [List.getElem?_set_ne (Ne.symm c)] at e
      exact .inr ⟨c, e⟩
  have σne : ∀ {j : Nat}, j ≠ i → (σ.set i (some (V.ref a)))[j]? = σ[j]? := fun {j} c => List.getElem?_set_ne (Ne.symm c)
  have σeq : (σ.set i (some (V.ref a)))[i]? = some (some (V.ref a)) := List.getElem?_set_self hiσ
  refine ⟨⟨w.sub, by rw [List.length_set, List.length_set]; exact w.len, fun j d' e => ?_, fun j ds' e => ?_, fun j l ds1 es1 b e1 e2 e3 e4 => ?_⟩, fun b hb => ?_, fun es hz => ?_⟩
  · rcases at_ e with ⟨_, e⟩ | ⟨c, e⟩
    · cases e
    · rw [σne c]
      exact w.val j d' e
  · rcases at_ e with ⟨z0, e0⟩ | ⟨c, e0⟩
    · cases e0
      exact ⟨a, vs, by rw [z0]; exact σeq, hF, hH, hd⟩
    · rw [σne c]
      exact w.own j ds' e0
  · rcases at_ e1 with ⟨z1, f1⟩ | ⟨c1, f1⟩
    · rcases at_ e2 with ⟨z2, f2⟩ | ⟨c2, f2⟩
      · exact z1.trans z2.symm
      · rw [z1, σeq] at e3
        cases e3
        rw [σne c2] at e4
        exact absurd ⟨l, es1, f2, e4⟩ no
    · rcases at_ e2 with ⟨z2, f2⟩ | ⟨c2, f2⟩
      · rw [z2, σeq] at e4
        cases e4
        rw [σne c1] at e3
        exact absurd ⟨j, ds1, f1, e3⟩ no
      · rw [σne c1] at e3
        rw [σne c2] at e4
        exact w.inj j l ds1 es1 b f1 f2 e3 e4
  · obtain ⟨j, ds', e1, e2⟩ := hb
    rcases at_ e1 with ⟨z1, _⟩ | ⟨c, f1⟩
    · rw [z1, σeq] at e2
      cases e2
      exact .inr rfl
    · rw [σne c] at e2
      exact .inl ⟨j, ds', f1, e2⟩
  · have c : i ≠ 0 := fun z => h0 z es hz
    exact ⟨List.getElem?_set_ne c, es, by rw [List.getElem?_set_ne c]; exact hz⟩
def tgN (i : Nat) : FT := fun d => putS i (.val d)
section
variable {X : Cx} {pos : Pos}
theorem g_name (i : Nat) {x : Str} (hN : X.N.Nodup) (hi : X.N[i]? = some x := by rfl) (hx : Loc X.env.scope x := by first | exact Or.inl rfl | exact Or.inr rfl) (hf : X.fn x = true ∨ X.env.scope.names.lookup x = some .local := by first | exact .inl rfl | exact .inr rfl) : PG X (.Name x pos) (gD X.K false [i] (tgN i)) :=
  pg_weak (pg_name hN hi hx hf) fun v σ H Q ⟨F, ρ, d, ρ', w, hd, e, q⟩ => by
    obtain ⟨g, w2⟩ := put_val w (show Rp X.K F v d from hd) e
    exact q _ ⟨List.length_set, fun j hj => List.getElem?_set_ne fun z => hj (by simp [z])⟩ g w2
/-- several names -/
abbrev FTs := List PyData → Ev → Option Ev
def gDs (K : PySem.W.Frag) (ix : List Nat) (t : FTs) : TGs := fun vs σ H Q => ∃ F ρ ds ρ', Wf K F H σ ρ ∧ RpAll K F vs ds ∧ t ds ρ = some ρ' ∧ ∀ σ', Apart ix σ σ' → Go F H σ ρ F H σ' ρ' → Wf K F H σ' ρ' → Q σ' H
theorem pgs_weak {e : List Expr} {t t' : TGs} (h : PGs X e t) (w : ∀ v σ H Q, t' v σ H Q → t v σ H Q) : PGs X e t' := ⟨fun pins s σ H v u Q I r q => h.run pins s σ H v u Q I r (w v σ H Q q)⟩
def tgNil : FTs := fun ds ρ => match ds with
  | [] => some ρ
  | _ => none
def tgCons (t : FT) (u : FTs) : FTs := fun ds ρ => match ds with
  | d :: r => (t d ρ).bind fun ρ1 => u r ρ1
  | [] => none
theorem gs_nil : PGs X [] (gDs X.K [] tgNil) := pgs_weak pgs_nil fun vs σ H Q ⟨F, ρ, ds, ρ', w, hd, e, q⟩ => by
  cases hd with
  | nil =>
    cases e
    exact ⟨rfl, q σ (Apart.refl ..) (Go.refl ..) w⟩
  | cons _ _ => cases e
theorem gs_cons {e : Expr} {es : List Expr} {t : FT} {u : FTs} {ix jx : List Nat} (h1 : PG X e (gD X.K false ix t)) (h2 : PGs X es (gDs X.K jx u)) (hs : (assignEach (e :: es) X.env).map (·.2) = assign e X.env :: (assignEach es X.env).map (·.2) := by rfl) : PGs X (e :: es) (gDs X.K (ix ++ jx) (tgCons t u)) :=
  pgs_weak (pgs_cons h1 h2 hs) fun vs σ H Q ⟨F, ρ, ds, ρ', w, hd, e, q⟩ => by
    cases hd with
    | nil => cases e
    | cons h t =>
      obtain ⟨ρ1, e1, e⟩ := Option.bind_eq_some_iff.mp e
      exact ⟨_, _, rfl, F, ρ, _, ρ1, w, h, e1, fun σ1 a1 g1 w1 => ⟨F, ρ1, _, ρ', w1, t, e, fun σ2 a2 g2 w2 => q σ2 (a1.trans a2) (g1.trans g2) w2⟩⟩
def tgTup (n : Nat) (t : FTs) : FT := fun d ρ => match d with
  | .tuple ds => if ds.length = n then t ds ρ else none
  | _ => none
theorem g_tup {es : List Expr} {k : Nat} {t : FTs} {n : Nat} {ix : List Nat} (hc : X.calm = true) (h : PGs X es (gDs X.K ix t)) (hn : (assignEach es X.env).length = n := by rfl) (hst : (assignEach es X.env).findIdx? (·.1) = none := by rfl) : PG X (.Tuple es k pos) (gD X.K false ix (tgTup n t)) :=
  pg_weak (pg_tup hc h hn hst) fun v σ H Q ⟨F, ρ, d, ρ', w, hd, e, q⟩ => by
    unfold tgTup at e
    split at e
    · split at e
      · rename_i hl
        cases (show Rp X.K F v _ from hd) with
        | tup h1 h2 => exact ⟨_, _, rfl, seqX w.sub h1, by rw [h2.length]; exact hl, F, ρ, _, ρ', w, h2, e, q⟩
      · cases e
    · cases e
theorem g_pair {es : List Expr} {k : Nat} {t : FTs} {ix : List Nat} (hc : X.calm = true) (h : PGs X es (gDs X.K ix t)) (hn : (assignEach es X.env).length = 2 := by rfl) (hst : (assignEach es X.env).findIdx? (·.1) = none := by rfl) : PG X (.Tuple es k pos) (gD X.K true ix (tgTup 2 t)) :=
  pg_weak (pg_tup hc h hn hst) fun v σ H Q ⟨F, ρ, d, ρ', w, hd, e, q⟩ => by
    obtain ⟨a, p, r, d1, d2, rfl, rfl, h1, h2, h3⟩ := hd
    exact ⟨a, [p, r], rfl, h1, rfl, F, ρ, [d1, d2], ρ', w, .cons h2 (.cons h3 .nil), e, q⟩
end
end DL

/-! ## DL8 -/
set_option Elab.async false
set_option linter.all false
set_option maxRecDepth 100000
set_option maxHeartbeats 4000000
namespace DL
open PySem PySem.Spec PyProof.Rows L2

/-! ### comprehensions -/
def wipeE (ρ : Ev) : List Nat → Ev
  | [] => ρ
  | v :: vs => (wipeE ρ vs).set v .no
theorem wipeE_len (ρ : Ev) : ∀ vs : List Nat, (wipeE ρ vs).length = ρ.length
  | [] => rfl
  | v :: vs => by unfold wipeE; rw [List.length_set, wipeE_len ρ vs]
theorem wipeE_out {ρ : Ev} {i : Nat} : ∀ {vs : List Nat}, i ∉ vs → (wipeE ρ vs)[i]? = ρ[i]?
  | [], _ => rfl
  | v :: vs, h => by
    have h1 : v ≠ i := fun e => h (by rw [e]; exact List.mem_cons_self)
    have h2 : i ∉ vs := fun m => h (List.mem_cons_of_mem _ m)
    unfold wipeE
    rw [List.getElem?_set_ne h1]
    exact wipeE_out h2
theorem wipeE_in {ρ : Ev} {i : Nat} {s : Sl} : ∀ {vs : List Nat}, i ∈ vs → (wipeE ρ vs)[i]? = some s → s = .no
  | v :: vs, h, e => by
    unfold wipeE at e
    by_cases c : v = i
    · subst c
      by_cases hv : v < (wipeE ρ vs).length
      · rw [List.getElem?_set_self hv] at e
        exact (Option.some.inj e).symm
      · rw [List.getElem?_eq_none (by simpa using hv)] at e
        cases e
    · rw [List.getElem?_set_ne c] at e
      rcases List.mem_cons.mp h with z | z
      · exact absurd z.symm c
      · exact wipeE_in z e
theorem wipe_in {σ : L2.St} {i : Nat} : ∀ {vs : List Nat}, i ∈ vs → (wipe σ vs)[i]? = if i < σ.length then some none else none
  | v :: vs, h => by
    unfold wipe
    by_cases c : v = i
    · subst c
      by_cases hv : v < σ.length
      · rw [if_pos hv, List.getElem?_set_self (by rw [wipe_length]; exact hv)]
      · rw [if_neg hv, List.getElem?_eq_none (by rw [List.length_set, wipe_length]; omega)]
    · rw [List.getElem?_set_ne c]
      rcases List.mem_cons.mp h with z | z
      · exact absurd z.symm c
      · exact wipe_in z
theorem wipe_apart {σ σ' : L2.St} {ix vs : List Nat} (a : Apart ix (wipe σ vs) σ') (h : ∀ j ∈ ix, j ∈ vs) : wipe σ' vs = wipe σ vs := by
  have hl : σ'.length = σ.length := by rw [a.1, wipe_length]
  apply List.ext_getElem?
  intro i
  by_cases c : i ∈ vs
  · rw [wipe_in c, wipe_in c, hl]
  · rw [wipe_out c, wipe_out c, a.2 i fun z => c (h i z), wipe_out c]
/-- the slots of a block are free -/
def Clean (vs : List Nat) (ρ : Ev) : Prop := ∀ v ∈ vs, ∀ s, ρ[v]? = some s → s = .no
theorem clean_wipe (vs : List Nat) (ρ : Ev) : Clean vs (wipeE ρ vs) := fun _ hv _ e => wipeE_in hv e
theorem wf_in {K : PySem.W.Frag} {F H : Hp} {σ : L2.St} {ρ : Ev} {vs : List Nat} (w : Wf K F H σ ρ) (c : Clean vs ρ) : Wf K F H (wipe σ vs) ρ := by
  have key : ∀ {i : Nat} {s : Sl}, ρ[i]? = some s → s ≠ .no → (wipe σ vs)[i]? = σ[i]? := fun {i s} e hn => wipe_out fun z => hn (c i z s e)
  refine ⟨w.sub, by rw [wipe_length]; exact w.len, fun i d e => ?_, fun i ds e => ?_, fun i j ds es a e1 e2 e3 e4 => ?_⟩
  · rw [key e (by simp)]
    exact w.val i d e
  · rw [key e (by simp)]
    exact w.own i ds e
  · rw [key e1 (by simp)] at e3
    rw [key e2 (by simp)] at e4
    exact w.inj i j ds es a e1 e2 e3 e4
theorem ow_wiped {σ : L2.St} {ρ : Ev} {vs : List Nat} {a : Addr} (h : Ow (wipe σ vs) ρ a) : Ow σ ρ a := by
  obtain ⟨i, ds, e1, e2⟩ := h
  exact ⟨i, ds, e1, (wipe_some e2).1⟩
/-- from a block's slots back to the def's -/
theorem back_slot {σ σ2 : L2.St} {vs : List Nat} (h : wipe σ2 vs = wipe σ vs) {i : Nat} (hi : i ∉ vs) : σ2[i]? = σ[i]? := by
  rw [← wipe_out (σ := σ2) hi, h, wipe_out hi]
theorem wf_out {K : PySem.W.Frag} {F H : Hp} {σ σ2 : L2.St} {ρ2 : Ev} {vs : List Nat} (w : Wf K F H σ2 ρ2) (h : wipe σ2 vs = wipe σ vs) : Wf K F H σ (wipeE ρ2 vs) := by
  have key : ∀ {i : Nat} {s : Sl}, (wipeE ρ2 vs)[i]? = some s → s ≠ .no → ρ2[i]? = some s ∧ σ2[i]? = σ[i]? := fun {i s} e hn => by
    have hi : i ∉ vs := fun z => hn (wipeE_in z e)
    rw [wipeE_out hi] at e
    exact ⟨e, back_slot h hi⟩
  have hl : σ2.length = σ.length := by rw [← wipe_length σ2 vs, h, wipe_length]
  refine ⟨w.sub, by rw [wipeE_len, w.len, hl], fun i d e => ?_, fun i ds e => ?_, fun i j ds es a e1 e2 e3 e4 => ?_⟩
  · obtain ⟨k1, k2⟩ := key e (by simp)
    rw [← k2]
    exact w.val i d k1
  · obtain ⟨k1, k2⟩ := key e (by simp)
    rw [← k2]
    exact w.own i ds k1
  · obtain ⟨k1, k2⟩ := key e1 (by simp)
    obtain ⟨k3, k4⟩ := key e2 (by simp)
    rw [← k2] at e3
    rw [← k4] at e4
    exact w.inj i j ds es a k1 k3 e3 e4
theorem go_out {F H F2 H2 : Hp} {σ σ2 : L2.St} {ρ ρ2 : Ev} {vs : List Nat} (g : Go F H (wipe σ vs) ρ F2 H2 σ2 ρ2) (h : wipe σ2 vs = wipe σ vs) (h0 : 0 ∉ vs) : Go F H σ ρ F2 H2 σ (wipeE ρ2 vs) := by
  refine ⟨g.grow, g.fresh, fun a o e hn => g.keep a o e fun z => hn (ow_wiped z), g.there, fun a ha => ?_, fun ds e => ⟨rfl, ?_⟩⟩
  · obtain ⟨i, ds, e1, e2⟩ := ha
    have hi : i ∉ vs := fun z => by
      have := wipeE_in z e1
      cases this
    rw [wipeE_out hi] at e1
    rw [← back_slot h hi] at e2
    rcases g.owns a ⟨i, ds, e1, e2⟩ with z | z
    · exact .inl (ow_wiped z)
    · exact .inr z
  · obtain ⟨_, ds', e2⟩ := g.zero ds e
    exact ⟨ds', by rw [wipeE_out h0]; exact e2⟩
theorem go_wipe {F H : Hp} {σ : L2.St} {ρ : Ev} {vs : List Nat} (h0 : 0 ∉ vs) : Go F H σ ρ F H σ (wipeE ρ vs) := by
  refine ⟨Same.refl F, fun _ _ h => .inl h, fun _ _ h _ => h, fun _ h => h, fun a ha => ?_, fun ds e => ⟨rfl, ds, by rw [wipeE_out h0]; exact e⟩⟩
  obtain ⟨i, ds, e1, e2⟩ := ha
  have hi : i ∉ vs := fun z => by
    have := wipeE_in z e1
    cases this
  rw [wipeE_out hi] at e1
  exact .inl ⟨i, ds, e1, e2⟩
theorem wf_wipe {K : PySem.W.Frag} {F H : Hp} {σ : L2.St} {ρ : Ev} {vs : List Nat} (w : Wf K F H σ ρ) : Wf K F H σ (wipeE ρ vs) := wf_out w rfl
def cYes : FE := fun ρ => some (.bool true, ρ)
def loopC (t : FT) (c f : FE) (vs : List Nat) : List PyData → Ev → Option (List PyData × Ev)
  | [], ρ => some ([], ρ)
  | d :: ds, ρ => (t d ρ).bind fun ρ1 => (c ρ1).bind fun p => match p.1 with
    | .bool true => (f p.2).bind fun q => (loopC t c f vs ds (wipeE q.2 vs)).bind fun r => some (q.1 :: r.1, r.2)
    | .bool false => loopC t c f vs ds (wipeE p.2 vs)
    | _ => none
def oComp (fi : FL) (t : FT) (c f : FE) (vs : List Nat) : FL := fun ρ => (fi ρ).bind fun p => if few p.1.length = true then loopC t c f vs p.1 (wipeE p.2 vs) else none
structure PTD (X : Cx) (ifs : List Expr) (c : FE) : Prop where
  run : PTs X ifs (tBD X.K c)
theorem pts_weak {X : Cx} {e : List Expr} {t t' : TT} (h : PTs X e t) (w : ∀ σ H Q, t' σ H Q → t σ H Q) : PTs X e t' := ⟨fun pins s σ H Q I q => h.run pins s σ H Q I (w σ H Q q)⟩
theorem c_nil {X : Cx} : PTD X [] cYes := ⟨pts_weak pts_nil fun σ H Q ⟨F, ρ, b, ρ', w, e, q⟩ => by
  cases e
  exact q F H (Go.refl ..) w⟩
theorem c_one {X : Cx} {c : Expr} {f : FE} (h : PT X c (tBD X.K f)) : PTD X [c] f := ⟨pts_one h⟩
theorem lc_ok {K : PySem.W.Frag} {b : Bool} {fi : FL} {t : FT} {c f : FE} {ix vs : List Nat} (hix : ∀ j ∈ ix, j ∈ vs) (h0 : 0 ∉ vs) (σ : L2.St) (H : Hp) (Q : VK) (h : tO K (oComp fi t c f vs) σ H Q) : tLc (iD K b fi) (gD K b ix t) (tBD K c) (tD K f) vs σ H Q := by
  obtain ⟨F, ρ, res, ρend, w, e, q⟩ := h
  obtain ⟨⟨ds, ρ1⟩, e1, e⟩ := Option.bind_eq_some_iff.mp e
  split at e
  case isFalse => cases e
  case isTrue hfew =>
  refine ⟨F, ρ, ds, ρ1, w, e1, fun J F1 H1 g1 w1 wk D hD => ?_⟩
  have gw : Go F1 H1 σ ρ1 F1 H1 σ (wipeE ρ1 vs) := go_wipe h0
  have n0 : New F1 H1 F1 (upd H1 D (.lst [])) := New.side w1.sub hD
  refine ⟨fun i m H => m = ds.length - i ∧ i ≤ ds.length ∧ ∃ F' ρ' acc us rest, Wf K F' H σ ρ' ∧ Clean vs ρ' ∧ Go F1 H1 σ ρ1 F' H σ ρ' ∧ F' D = none ∧ H D = some (.lst us) ∧ RpAll K F' us acc ∧ ¬ Ow σ ρ' D ∧ acc.length ≤ i ∧
    loopC t c f vs (ds.drop i) ρ' = some (rest, ρend) ∧ acc ++ rest = res, ⟨ds.length, by omega, Nat.zero_le _, F1, wipeE ρ1 vs, [], [], res, (wf_wipe w1).new n0, clean_wipe _ _, gw.trans (Go.new n0), w1.sub.free hD, upd_same, .nil, (wf_wipe w1).notOw hD, Nat.le_refl _, e, rfl⟩, ?_⟩
  rintro i m Hi ⟨rfl, hi, F', ρ', acc, us, rest, w', cl, g', hF, hH, hA, no, hl, eL, eR⟩
  by_cases hlt : i < ds.length
  · right
    refine ⟨wk.go i F' Hi hlt g'.grow w'.sub, fun H' => ∃ F2 ρ2 acc us rest, Wf K F2 H' σ ρ2 ∧ Clean vs ρ2 ∧ Go F1 H1 σ ρ1 F2 H' σ ρ2 ∧ F2 D = none ∧ H' D = some (.lst us) ∧ RpAll K F2 us acc ∧ ¬ Ow σ ρ2 D ∧ acc.length ≤ i + 1 ∧
      loopC t c f vs (ds.drop (i + 1)) ρ2 = some (rest, ρend) ∧ acc ++ rest = res, fun H' hN => ⟨ds.length - (i + 1), by omega, rfl, hlt, hN⟩, fun x H2 y => ?_⟩
    rw [List.drop_eq_getElem_cons hlt] at eL
    obtain ⟨ρa, f1, eL⟩ := Option.bind_eq_some_iff.mp eL
    obtain ⟨⟨bb, ρb⟩, f2, eL⟩ := Option.bind_eq_some_iff.mp eL
    obtain ⟨F2, n2, dx⟩ := wk.yld i ds[i] F' Hi x H2 (List.getElem?_eq_getElem hlt) g'.grow w'.sub y
    have w2 := w'.new n2
    refine ⟨F2, ρ', ds[i], ρa, wf_in w2 cl, dx, f1, fun σ3 ap g3 w3 => ⟨wipe_apart ap hix, ?_⟩⟩
    have hw : wipe σ3 vs = wipe σ vs := wipe_apart ap hix
    -- what stays of the new list through the block
    have keepD : ∀ {F4 H4 : Hp} {ρ4 : Ev}, Go F2 H2 (wipe σ vs) ρ' F4 H4 σ3 ρ4 → H4 D = some (.lst us) ∧ F4 D = none := fun {F4 H4 ρ4} g => by
      have hD2 : H2 D = some (.lst us) := n2.keep _ _ hH
      refine ⟨g.keep D _ hD2 fun z => no (ow_wiped z), ?_⟩
      cases z : F4 D with
      | none => rfl
      | some o =>
        rcases g.fresh D o z with z | z
        · rcases n2.fresh D o z with z | z
          · rw [hF] at z; cases z
          · rw [hH] at z; cases z
        · rw [hD2] at z; cases z
    have noD : ∀ {F4 H4 : Hp} {ρ4 : Ev}, Go F2 H2 (wipe σ vs) ρ' F4 H4 σ3 ρ4 → ¬ Ow σ (wipeE ρ4 vs) D := fun {F4 H4 ρ4} g z => by
      rcases (go_out g hw h0).owns D z with z | z
      · exact no z
      · rw [n2.keep _ _ hH] at z; cases z
    cases bb <;> try cases eL
    rename_i bb
    refine ⟨F2, ρa, bb, ρb, w3, f2, fun F4 H4 g4 w4 => ?_⟩
    have g34 := g3.trans g4
    cases bb with
    | false =>
      refine iteF ?_
      obtain ⟨k1, k2⟩ := keepD g34
      refine ⟨F4, wipeE ρb vs, acc, us, rest, wf_out w4 hw, clean_wipe _ _, (g'.trans (Go.new n2)).trans (go_out g34 hw h0), k2, k1, hA.mono (n2.grow.trans g34.grow), noD g34, by omega, eL, eR⟩
    | true =>
      refine iteT ?_
      obtain ⟨⟨z, ρc⟩, f3, eL⟩ := Option.bind_eq_some_iff.mp eL
      obtain ⟨⟨rs, ρr⟩, f4, eL⟩ := Option.bind_eq_some_iff.mp eL
      cases eL
      refine ⟨F4, ρb, z, ρc, w4, f3, fun yv F5 H5 g5 w5 d5 => ?_⟩
      have g35 := g34.trans g5
      obtain ⟨k1, k2⟩ := keepD g35
      have hA5 := hA.mono (n2.grow.trans g35.grow)
      have ub : us.length < sizeLine := by
        rw [hA.length]
        have h1 : ds.length ≤ 1000000 := of_decide_eq_true hfew
        rw [sizeLine_eq]
        omega
      refine ⟨us, k1, ub, ?_⟩
      have no5 := noD g35
      have w6 := wf_out w5 hw
      have g6 := (g'.trans (Go.new n2)).trans (go_out g35 hw h0)
      -- the list grows
      refine ⟨F5, wipeE ρc vs, acc ++ [z], us ++ [yv], rs, ⟨fun a o h => ?_, w6.len, w6.val, fun j es h => ?_, w6.inj⟩, clean_wipe _ _, ⟨g6.grow, g6.fresh, fun a o h hn => ?_, fun a h => ?_, g6.owns, g6.zero⟩, k2, upd_same, hA5.append (.cons d5 .nil), no5, by simp; omega, f4, by simp [← eR]⟩
      · have c : a ≠ D := fun z => by rw [z, k2] at h; cases h
        rw [upd_ne c]
        exact w6.sub a o h
      · obtain ⟨b, ws, e1, e2, e3, q⟩ := w6.own j es h
        have c : b ≠ D := fun z => no5 ⟨j, es, h, by rw [← z]; exact e1⟩
        exact ⟨b, ws, e1, e2, by rw [upd_ne c]; exact e3, q⟩
      · have c : a ≠ D := fun z => by rw [z, hD] at h; cases h
        rw [upd_ne c]
        exact g6.keep a o h hn
      · by_cases c : a = D
        · rw [c, upd_same] at h; cases h
        · rw [upd_ne c] at h
          exact g6.there a h
  · left
    have ei : i = ds.length := by omega
    subst ei
    refine ⟨wk.stop F' Hi g'.grow w'.sub, ?_⟩
    rw [List.drop_length] at eL
    cases eL
    rw [List.append_nil] at eR
    subst eR
    exact q D us F' Hi (g1.trans g') w' (g1.there D hD) hF hH hA no
section
variable {X : Cx} {elt tg iter : Expr} {ifs : List Expr} {scope : Scope} {pos spos py : Pos} {fi : FL} {t : FT} {c f : FE} {ix : List Nat} {b : Bool}
theorem o_comp (own : List (Str × Nat)) (hc : X.calm = true) (hN : X.N.Nodup) (hi : PI X tg iter (iD X.K b fi)) (ok : BlkOk X.N X.env.scope scope own)
    (hg : ∀ (s : Shared) (H : Hp) (C : Addr) (cl : List (Str × Addr)) (fp : List Addr), PG (X.blk s H scope (compEnvC scope cl C X.env) fp) tg (gD X.K b ix t)) (ht : ∀ (s : Shared) (H : Hp) (C : Addr) (cl : List (Str × Addr)) (fp : List Addr), PTD (X.blk s H scope (compEnvC scope cl C X.env) fp) ifs c)
    (he : ∀ (s : Shared) (H : Hp) (C : Addr) (cl : List (Str × Addr)) (fp : List Addr), PE (X.blk s H scope (compEnvC scope cl C X.env) fp) elt (tD X.K f)) (hix : ∀ j ∈ ix, j ∈ own.map (·.2) := by decide) (h0 : 0 ∉ own.map (·.2) := by decide) (hs : ∀ x, foldedSetIterable iter X.env x = pure x := by intro _; rfl) :
    PE X (.ListComp elt [⟨tg, iter, ifs, 0⟩] scope pos) (tO X.K (oComp fi t c f (own.map (·.2)))) :=
  pe_weak (pe_lc hc hN hi ok hg (fun s H C cl fp => (ht s H C cl fp).run) he hs) (lc_ok hix h0)
end
end DL

/-! ## DL9 -/
set_option Elab.async false
set_option linter.all false
set_option maxRecDepth 100000
set_option maxHeartbeats 4000000
namespace DL
open PySem PySem.Spec PyProof.Rows L2

/-! ### t.count(x), t.index(x) -/
theorem ext_is {X : Cx} {pins : List (Addr × Obj)} {σ : L2.St} {H : Hp} {s : Shared} {a : Addr} {xs : List V} (I : Inv X pins σ H s) (h : ExT X.K H a xs) :
    s.TypeIs (.ref a) "tuple" ∧ ∀ b, Value.ref a = .ref b → ∃ ob, s.heap.get? b = some ob ∧ ob.dict = none := by
  obtain ⟨its, rv, ⟨o, ho, hc, n, hd⟩, _⟩ := I.tuple h.sq
  refine ⟨⟨o, ho, hc⟩, fun b e => ?_⟩
  cases e
  rcases h with ⟨o', h, d⟩ | ⟨o', _, _, h, _, d, _⟩
  · obtain ⟨e, _⟩ := I.hok a _ h
    exact ⟨o', e, d⟩
  · exact ⟨o', I.kIn a o' h, d⟩
/-- a method of tuples -/
def tTM (K : PySem.W.Frag) (r : V → List V → Hp → VK → Prop) (to : TE) (t : TA) : TE := fun σ H Q => to σ H fun x H1 => (∃ a xs, x = .ref a ∧ ExT K H1 a xs) ∧ t σ H1 fun xs H2 => r x xs H2 Q
theorem pe_tm {X : Cx} {o e : Expr} {es : List Expr} {to : TE} {t : TA} {name : Str} {apos cpos : Pos} {cid : String} {r : V → List V → Hp → VK → Prop} (pa : PlainAttrs "tuple") (slot : Slot "tuple" name cid) (hty : typeOf (.builtin cid) = pure (.type "method_descriptor")) (hm : MtR X cid r) (ho : PE X o to) (ha : PA X (e :: es) t)
    (hbase : attributeBase o name X.env (eval o X.env) = eval o X.env)
    (hfew : ((backTo cpos (starEach (e :: es) X.env)).all (fun x => !x.1) && (backToKw cpos (keywordEach [] X.env)).all (fun x => x.1.isSome)
      && decide ((e :: es).length + ([] : List Keyword).length + (if ([] : List Keyword).isEmpty then 0 else 1) < 30)) = true)
    (hline : (apos.endLine == cpos.line) = true) (hs : starEach (e :: es) X.env = (false, eval e X.env) :: starEach es X.env) (hplain : (backTo cpos (starEach es X.env)).any (·.1) = false) :
    PE X (.Call (.Attribute o name apos) (e :: es) [] cpos) (tTM X.K r to t) := by
  refine ⟨fun pins s σ H Q I h => ?_⟩
  refine wpAny_Call_method_late hbase hfew hline rfl (thn (ho.run pins s σ H _ I h) fun v s1 ⟨x, H1, I1, r1, ⟨a, xs, e1, ex⟩, q1⟩ => ?_)
  subst e1
  have r1' : v = .ref a := r1
  subst r1'
  obtain ⟨h1, h2⟩ := ext_is I1 ex
  refine ⟨"tuple", cid, pa, slot, hty, h1, h2, ?_⟩
  have hA := ha.run cpos pins s1 σ H1 _ I1 q1
  rw [hs] at hA ⊢
  refine Calls.callWith_builtin (by show (false || (backTo cpos (starEach es X.env)).any (·.1)) = false; rw [hplain] <;> rfl) (Calls.evalArgs_plain ?_)
  exact thn hA fun us s2 ⟨vs, H2, I2, r2, q2⟩ => hm pins s2 σ H2 (.ref a) vs (.ref a) us Q I2 rfl r2 q2
def tmOk (ds : List PyData) (d : PyData) : Bool := PyData.plainAll ds && PyData.plain d && decide (PyData.depthAll ds ≤ 60)
def rCountT (K : PySem.W.Frag) : V → List V → Hp → VK → Prop := fun x vs H Q => ∃ p y ds d, x = .ref p ∧ vs = [y] ∧ Dp K H (.ref p) (.tuple ds) ∧ Dp K H y d ∧ tmOk ds d = true ∧ Q (.int ((ds.countP fun z => PyData.eqv z d : Nat) : Int)) H
def rIndexT (K : PySem.W.Frag) : V → List V → Hp → VK → Prop := fun x vs H Q => ∃ p y ds d j, x = .ref p ∧ vs = [y] ∧ Dp K H (.ref p) (.tuple ds) ∧ Dp K H y d ∧ tmOk ds d = true ∧ SeqAt.dataPlace ds d = some j ∧ Q (.int (j : Nat)) H
theorem mt_countT {X : Cx} (hu : X.A.units + 65 < cLine) : MtR X "tuple.count" (rCountT X.K) := by
  intro pins s σ H x xs v us Q I rx rs h
  obtain ⟨p, y, ds, d, rfl, rfl, hp, hy, hk, q⟩ := h
  have e1 : v = .ref p := rx
  subst e1
  obtain ⟨u, rfl, ry⟩ := vals1 rs
  simp only [tmOk, Bool.and_eq_true, decide_eq_true_eq] at hk
  obtain ⟨bs, r1⟩ := Dp.reads I d y u hy ry
  cases hp with
  | tup hs ha =>
    obtain ⟨its, rv, pl, _⟩ := I.tuple hs
    obtain ⟨as, hr⟩ := Dp.readsAll I ds _ its ha rv
    exact SeqAt.count_tuple_data (show s.heap.IsTuple p its.toArray from pl) (by simpa using hr) r1 hk.1.1 hk.1.2 (by omega) ⟨.int _, H, I.tok _, ⟨_, rfl⟩, q⟩
theorem mt_indexT {X : Cx} (hu : X.A.units + 65 < cLine) : MtR X "tuple.index" (rIndexT X.K) := by
  intro pins s σ H x xs v us Q I rx rs h
  obtain ⟨p, y, ds, d, j, rfl, rfl, hp, hy, hk, hj, q⟩ := h
  have e1 : v = .ref p := rx
  subst e1
  obtain ⟨u, rfl, ry⟩ := vals1 rs
  simp only [tmOk, Bool.and_eq_true, decide_eq_true_eq] at hk
  obtain ⟨bs, r1⟩ := Dp.reads I d y u hy ry
  cases hp with
  | tup hs ha =>
    obtain ⟨its, rv, pl, _⟩ := I.tuple hs
    obtain ⟨as, hr⟩ := Dp.readsAll I ds _ its ha rv
    obtain ⟨⟨cls, dd, data, sl⟩, ho, hc, n, hd'⟩ := id pl
    simp only at hc hd'
    subst hc hd'
    have hr' : ReadsAll s.heap its.toArray.toList ds as := by simpa using hr
    obtain ⟨h1, h2, h3⟩ := SeqAt.hit_at hr' hk.1.1 hj
    exact call_meets F.slot_tuple_index ⟨_, ho, rfl⟩ F.entry_tuple_index (F.args_tuple_index_2 _ _) (TI.tuple_indexAt p its.toArray n dd sl u (fun w => PyData.eqv (SeqAt.readOf s.heap w) d) j h1 h2 h3)
      ⟨ho, SeqAt.items_plain hr' r1 hk.1.1 hk.1.2 (by omega), ⟨.int _, H, I.tok _, ⟨_, rfl⟩, q⟩⟩
def dCount : PyData → PyData → Option PyData
  | .tuple ds, d => if tmOk ds d = true then some (.int ((ds.countP fun z => PyData.eqv z d : Nat) : Int)) else none
  | _, _ => none
def dIndex : PyData → PyData → Option PyData
  | .tuple ds, d => if tmOk ds d = true then (SeqAt.dataPlace ds d).bind fun j => some (.int (j : Nat)) else none
  | _, _ => none
section
variable {X : Cx} {o e : Expr} {f g : FE} {apos cpos : Pos} {k : Nat}
theorem d_count (hr : Room (k + 1) X.A) (ho : PE X o (tD X.K f)) (he : PE X e (tD X.K g)) (hbase : attributeBase o "count" X.env (eval o X.env) = eval o X.env := by rfl)
    (hfew : ((backTo cpos (starEach [e] X.env)).all (fun x => !x.1) && (backToKw cpos (keywordEach [] X.env)).all (fun x => x.1.isSome)
      && decide ([e].length + ([] : List Keyword).length + (if ([] : List Keyword).isEmpty then 0 else 1) < 30)) = true := by rfl)
    (hline : (apos.endLine == cpos.line) = true := by rfl) (hs : starEach [e] X.env = (false, eval e X.env) :: starEach [] X.env := by rfl) (hplain : (backTo cpos (starEach [] X.env)).any (·.1) = false := by rfl) :
    PE X (.Call (.Attribute o "count" apos) [e] [] cpos) (tD X.K (bin dCount f g)) :=
  pe_weak (pe_tm F.plainAttrs_tuple F.slot_tuple_count F.type_tuple_count (mt_countT (room65 hr)) ho (pa_cons he pa_nil hs) hbase hfew hline hs hplain) fun σ H Q ⟨F, ρ, d, ρ', w, e, q⟩ => by
    obtain ⟨⟨x, ρ1⟩, e1, e⟩ := Option.bind_eq_some_iff.mp e
    obtain ⟨⟨y, ρ2⟩, e2, e⟩ := Option.bind_eq_some_iff.mp e
    obtain ⟨z, e3, e⟩ := Option.bind_eq_some_iff.mp e
    cases e
    cases x <;> try cases e3
    rename_i ds
    simp only [dCount] at e3
    split at e3
    · rename_i hk
      cases e3
      refine ⟨F, ρ, _, ρ1, w, e1, fun v F1 H1 g1 w1 d1 => ?_⟩
      cases d1 with
      | @tup p xs _ h1 h2 =>
        refine ⟨⟨p, xs, rfl, h1.mono w1.sub⟩, F1, ρ1, y, _, w1, e2, fun u F2 H2 g2 w2 d2 => ?_⟩
        exact ⟨p, u, _, y, rfl, rfl, (Rp.tup h1 h2).dp (g2.grow.trans w2.sub), d2.dp w2.sub, hk, q _ F2 H2 (g1.trans g2) w2 (.int _)⟩
    · cases e3
theorem d_index (hr : Room (k + 1) X.A) (ho : PE X o (tD X.K f)) (he : PE X e (tD X.K g)) (hbase : attributeBase o "index" X.env (eval o X.env) = eval o X.env := by rfl)
    (hfew : ((backTo cpos (starEach [e] X.env)).all (fun x => !x.1) && (backToKw cpos (keywordEach [] X.env)).all (fun x => x.1.isSome)
      && decide ([e].length + ([] : List Keyword).length + (if ([] : List Keyword).isEmpty then 0 else 1) < 30)) = true := by rfl)
    (hline : (apos.endLine == cpos.line) = true := by rfl) (hs : starEach [e] X.env = (false, eval e X.env) :: starEach [] X.env := by rfl) (hplain : (backTo cpos (starEach [] X.env)).any (·.1) = false := by rfl) :
    PE X (.Call (.Attribute o "index" apos) [e] [] cpos) (tD X.K (bin dIndex f g)) :=
  pe_weak (pe_tm F.plainAttrs_tuple F.slot_tuple_index F.type_tuple_index (mt_indexT (room65 hr)) ho (pa_cons he pa_nil hs) hbase hfew hline hs hplain) fun σ H Q ⟨F, ρ, d, ρ', w, e, q⟩ => by
    obtain ⟨⟨x, ρ1⟩, e1, e⟩ := Option.bind_eq_some_iff.mp e
    obtain ⟨⟨y, ρ2⟩, e2, e⟩ := Option.bind_eq_some_iff.mp e
    obtain ⟨z, e3, e⟩ := Option.bind_eq_some_iff.mp e
    cases e
    cases x <;> try cases e3
    rename_i ds
    simp only [dIndex] at e3
    split at e3
    · rename_i hk
      obtain ⟨j, e4, e3⟩ := Option.bind_eq_some_iff.mp e3
      cases e3
      refine ⟨F, ρ, _, ρ1, w, e1, fun v F1 H1 g1 w1 d1 => ?_⟩
      cases d1 with
      | @tup p xs _ h1 h2 =>
        refine ⟨⟨p, xs, rfl, h1.mono w1.sub⟩, F1, ρ1, y, _, w1, e2, fun u F2 H2 g2 w2 d2 => ?_⟩
        exact ⟨p, u, _, y, j, rfl, rfl, (Rp.tup h1 h2).dp (g2.grow.trans w2.sub), d2.dp w2.sub, hk, e4, q _ F2 H2 (g1.trans g2) w2 (.int _)⟩
    · cases e3
end

/-! ### statements -/
inductive Out where
  | nx (ρ : Ev)
  | rt (r : Sl) (ρ : Ev)
abbrev FS := Ev → Option Out
/-- what a def hands back, seen from a statement's start -/
def ResS (K : PySem.W.Frag) (H : Hp) (σ : L2.St) (ρ : Ev) (F' H' : Hp) (σ' : L2.St) (ρ' : Ev) (v : V) : Sl → Prop
  | .val d => Rp K F' v d
  | .own ds => ∃ a vs, v = .ref a ∧ (H a = none ∨ Ow σ ρ a) ∧ (∀ es, ρ[0]? = some (.own es) → σ[0]? ≠ some (some (.ref a))) ∧ F' a = none ∧ H' a = some (.lst vs) ∧ RpAll K F' vs ds
  | .no => False
def sD (K : PySem.W.Frag) (g : FS) : TS := fun D σ H => ∃ F ρ o, Wf K F H σ ρ ∧ g ρ = some o ∧ match o with
  | .nx ρ' => ∀ σ' F' H', Go F H σ ρ F' H' σ' ρ' → Wf K F' H' σ' ρ' → D.nx σ' H'
  | .rt r ρ' => ∀ v σ' F' H', Go F H σ ρ F' H' σ' ρ' → Wf K F' H' σ' ρ' → ResS K H σ ρ F' H' σ' ρ' v r → D.rt v H'
theorem res_back {K : PySem.W.Frag} {F H F1 H1 F2 H2 : Hp} {σ σ1 σ2 : L2.St} {ρ ρ1 ρ2 : Ev} {v : V} {r : Sl} (g : Go F H σ ρ F1 H1 σ1 ρ1) (h : ResS K H1 σ1 ρ1 F2 H2 σ2 ρ2 v r) : ResS K H σ ρ F2 H2 σ2 ρ2 v r := by
  cases r with
  | no => exact h
  | val d => exact h
  | own ds =>
    obtain ⟨a, vs, rfl, h1, h2, h3, h4, h5⟩ := h
    refine ⟨a, vs, rfl, ?_, fun es e z => ?_, h3, h4, h5⟩
    · rcases h1 with h1 | h1
      · exact .inl (g.there a h1)
      · exact (g.owns a h1).elim .inr .inl
    · obtain ⟨e1, es', e2⟩ := g.zero es e
      exact h2 es' e2 (e1.trans z)
def sNil : FS := fun ρ => some (.nx ρ)
def sSeq (f g : FS) : FS := fun ρ => (f ρ).bind fun o => match o with
  | .nx ρ1 => g ρ1
  | .rt r ρ1 => some (.rt r ρ1)
section
variable {X : Cx} {st : Stmt} {sts : List Stmt} {f g h : FS} {e c : Expr} {fe fc : FE} {fl : FL} {pos : Pos}
theorem b_nil : PSs X [] (sD X.K sNil) := pss_weak pss_nil fun D σ H ⟨F, ρ, o, w, e, q⟩ => by
  cases e
  exact q σ F H (Go.refl ..) w
theorem b_one (h1 : PS X st (sD X.K f)) : PSs X [st] (sD X.K f) := pss_one h1
theorem b_cons (h1 : PS X st (sD X.K f)) (h2 : PSs X sts (sD X.K g)) : PSs X (st :: sts) (sD X.K (sSeq f g)) :=
  pss_weak (pss_cons h1 h2) fun D σ H ⟨F, ρ, o, w, e, q⟩ => by
    obtain ⟨o1, e1, e⟩ := Option.bind_eq_some_iff.mp e
    refine ⟨F, ρ, o1, w, e1, ?_⟩
    cases o1 with
    | nx ρ1 =>
      intro σ1 F1 H1 g1 w1
      refine ⟨F1, ρ1, o, w1, e, ?_⟩
      cases o with
      | nx ρ2 => exact fun σ2 F2 H2 g2 w2 => q σ2 F2 H2 (g1.trans g2) w2
      | rt r ρ2 => exact fun v σ2 F2 H2 g2 w2 res => q v σ2 F2 H2 (g1.trans g2) w2 (res_back g1 res)
    | rt r ρ1 =>
      cases e
      exact q
def sIf (c : FE) (f g : FS) : FS := fun ρ => (c ρ).bind fun p => match p.1 with
  | .bool true => f p.2
  | .bool false => g p.2
  | _ => none
theorem s_if {a b : List Stmt} (hc : PT X c (tBD X.K fc)) (ha : PSs X a (sD X.K f)) (hb : PSs X b (sD X.K g)) : PS X (.If c a b pos) (sD X.K (sIf fc f g)) :=
  ps_weak (ps_if hc ha hb) fun D σ H ⟨F, ρ, o, w, e, q⟩ => by
    obtain ⟨⟨x, ρ1⟩, e1, e⟩ := Option.bind_eq_some_iff.mp e
    cases x <;> try cases e
    rename_i k
    refine ⟨F, ρ, k, ρ1, w, e1, fun F1 H1 g1 w1 => ?_⟩
    have fin : ∀ {f : FS}, f ρ1 = some o → sD X.K f D σ H1 := fun {f} e => by
      refine ⟨F1, ρ1, o, w1, e, ?_⟩
      cases o with
      | nx ρ2 => exact fun σ2 F2 H2 g2 w2 => q σ2 F2 H2 (g1.trans g2) w2
      | rt r ρ2 => exact fun v σ2 F2 H2 g2 w2 res => q v σ2 F2 H2 (g1.trans g2) w2 (res_back g1 res)
    cases k with
    | true => exact iteT (fin e)
    | false => exact iteF (fin e)
def sRet (f : FE) : FS := fun ρ => (f ρ).bind fun p => some (.rt (.val p.1) p.2)
theorem s_ret (he : PE X e (tD X.K fe)) : PS X (.Return (some e) pos) (sD X.K (sRet fe)) := ps_weak (ps_ret he) fun D σ H ⟨F, ρ, o, w, e, q⟩ => by
  obtain ⟨⟨x, ρ1⟩, e1, e⟩ := Option.bind_eq_some_iff.mp e
  cases e
  exact ⟨F, ρ, x, ρ1, w, e1, fun v F1 H1 g1 w1 d1 => q v σ F1 H1 g1 w1 d1⟩
def sRetL (f : FL) : FS := fun ρ => (f ρ).bind fun p => some (.rt (.own p.1) p.2)
theorem s_retL (he : PE X e (tO X.K fl)) : PS X (.Return (some e) pos) (sD X.K (sRetL fl)) := ps_weak (ps_ret he) fun D σ H ⟨F, ρ, o, w, e, q⟩ => by
  obtain ⟨⟨x, ρ1⟩, e1, e⟩ := Option.bind_eq_some_iff.mp e
  cases e
  refine ⟨F, ρ, x, ρ1, w, e1, fun a vs F1 H1 g1 w1 h0 h1 h2 d1 no => q _ σ F1 H1 g1 w1 ⟨a, vs, rfl, .inl h0, fun es e z => ?_, h1, h2, d1⟩⟩
  exact w.notOw h0 ⟨0, es, e, z⟩
/-- a list that a slot owns is handed back -/
def sRetO (i : Nat) : FS := fun ρ => if i = 0 then none else match ρ[i]? with
  | some (.own ds) => some (.rt (.own ds) ρ)
  | _ => none
theorem s_retO (i : Nat) {y : Str} {q2 : Pos} (hN : X.N[i]? = some y := by rfl) (hv : Vis X.env.scope y := by first | exact Or.inl rfl | exact Or.inr (Or.inl rfl) | exact Or.inr (Or.inr rfl)) (hd : (y == ("__debug__" : Str)) = false := by decide) (hcd : (y == ("__classdict__" : Str)) = false := by decide) :
    PS X (.Return (some (.Name y q2)) pos) (sD X.K (sRetO i)) := ps_weak (ps_ret (pe_var hN hv hd hcd)) fun D σ H ⟨F, ρ, o, w, e, q⟩ => by
  unfold sRetO at e
  split at e
  · cases e
  · rename_i h0
    split at e
    · rename_i ds h1
      cases e
      obtain ⟨a, vs, e1, e2, e3, e4⟩ := w.own i ds h1
      refine ⟨.ref a, e1, q _ σ F H (Go.refl ..) w ⟨a, vs, rfl, .inr ⟨i, ds, h1, e1⟩, fun es e z => ?_, e2, e3, e4⟩⟩
      exact h0 (w.inj i 0 ds es a h1 e e1 z)
    · cases e
/-- code that isn't come to -/
def sNever : FS := fun _ => none
theorem s_never : PS X st (sD X.K sNever) := ps_weak ps_never fun D σ H ⟨F, ρ, o, w, e, q⟩ => by cases e
def sSet (f : FE) (t : FT) : FS := fun ρ => (f ρ).bind fun p => (t p.1 p.2).bind fun ρ' => some (.nx ρ')
theorem set_ok {b : Bool} {ix : List Nat} {t : FT} (D : Ends) (σ : L2.St) (H : Hp) (hq : sD X.K (sSet fe t) D σ H) : tAsg (tD X.K fe) (gD X.K false ix t) D σ H := by
  obtain ⟨F, ρ, o, w, e, q⟩ := hq
  obtain ⟨⟨x, ρ1⟩, e1, e⟩ := Option.bind_eq_some_iff.mp e
  obtain ⟨ρ2, e2, e⟩ := Option.bind_eq_some_iff.mp e
  cases e
  exact ⟨F, ρ, x, ρ1, w, e1, fun v F1 H1 g1 w1 d1 => ⟨F1, ρ1, x, ρ2, w1, d1, e2, fun σ2 _ g2 w2 => q σ2 F1 H1 (g1.trans g2) w2⟩⟩
/-- name = e, names = e -/
theorem s_set {tg : Expr} {ix : List Nat} {t : FT} (he : PE X e (tD X.K fe)) (hg : PG X tg (gD X.K false ix t)) (hs : swapsWithSole [tg] e pos.line X.env = pure false := by rfl) (hw : swappedStores [tg] e X.env = pure none := by rfl)
    (h1 : (assignEach [tg] X.env).map (·.2) = [assign tg X.env] := by rfl) : PS X (.Assign [tg] e pos) (sD X.K (sSet fe t)) := ps_weak (ps_asg he hg hs hw h1) (set_ok (b := false))
/-- name = a new list -/
def sSetO (i : Nat) (f : FL) : FS := fun ρ => (f ρ).bind fun p => (putS i (.own p.1) p.2).bind fun ρ' => some (.nx ρ')
theorem go_own {F H F1 H1 : Hp} {σ : L2.St} {ρ ρ1 ρ2 : Ev} {i : Nat} {a : Addr} (g1 : Go F H σ ρ F1 H1 σ ρ1) (h0 : H a = none) (h2 : ∀ b, Ow (σ.set i (some (.ref a))) ρ2 b → Ow σ ρ1 b ∨ b = a)
    (h3 : ∀ es, ρ1[0]? = some (.own es) → (σ.set i (some (V.ref a)))[0]? = σ[0]? ∧ ∃ es', ρ2[0]? = some (.own es')) : Go F H σ ρ F1 H1 (σ.set i (some (.ref a))) ρ2 := by
  refine ⟨g1.grow, g1.fresh, g1.keep, g1.there, fun b hb => ?_, fun ds hz => ?_⟩
  · rcases h2 b hb with z | z
    · exact g1.owns b z
    · rw [z]; exact .inr h0
  · obtain ⟨_, ds', e⟩ := g1.zero ds hz
    exact h3 ds' e
theorem setO_ok {i : Nat} (D : Ends) (σ : L2.St) (H : Hp) (hq : sD X.K (sSetO i fl) D σ H) : tAsg (tO X.K fl) (gName i) D σ H := by
  obtain ⟨F, ρ, o, w, e, q⟩ := hq
  obtain ⟨⟨x, ρ1⟩, e1, e⟩ := Option.bind_eq_some_iff.mp e
  obtain ⟨ρ2, e2, e⟩ := Option.bind_eq_some_iff.mp e
  cases e
  refine ⟨F, ρ, x, ρ1, w, e1, fun a vs F1 H1 g1 w1 h0 h1 h2 d1 no => ?_⟩
  obtain ⟨p1, p2, p3⟩ := put_own w1 h1 h2 d1 no e2
  exact q _ F1 H1 (go_own g1 h0 p2 p3) p1
theorem s_setO (i : Nat) {y : Str} {py : Pos} (hN : X.N.Nodup) (he : PE X e (tO X.K fl)) (hi : X.N[i]? = some y := by rfl) (hx : Loc X.env.scope y := by first | exact Or.inl rfl | exact Or.inr rfl) (hs : swapsWith e (some (.Name y py)) pos.line X.env = pure false := by rfl)
    (hf : X.fn y = true ∨ X.env.scope.names.lookup y = some .local := by first | exact .inl rfl | exact .inr rfl) : PS X (.Assign [.Name y py] e pos) (sD X.K (sSetO i fl)) := ps_weak (ps_set hN hi hx he hs hf) setO_ok
end
end DL

/-! ## DL10 -/
set_option Elab.async false
set_option linter.all false
set_option maxRecDepth 100000
set_option maxHeartbeats 4000000
namespace DL
open PySem PySem.Spec PyProof.Rows L2

/-- what slot i owns is written -/
theorem own_write {K : PySem.W.Frag} {F H : Hp} {σ : L2.St} {ρ : Ev} {i : Nat} {a : Addr} {ds es : List PyData} {us : List V} (w : Wf K F H σ ρ) (hρ : ρ[i]? = some (.own ds)) (hσ : σ[i]? = some (some (.ref a))) (h : RpAll K F us es) :
    Go F H σ ρ F (upd H a (.lst us)) σ (ρ.set i (.own es)) ∧ Wf K F (upd H a (.lst us)) σ (ρ.set i (.own es)) := by
  have hi : i < ρ.length := (List.getElem?_eq_some_iff.mp hρ).1
  obtain ⟨a', vs, e1, e2, e3, _⟩ := w.own i ds hρ
  rw [hσ] at e1
  cases e1
  have aOw : Ow σ ρ a := ⟨i, ds, hρ, hσ⟩
  have at_ : ∀ {j : Nat} {s : Sl}, (ρ.set i (.own es))[j]? = some s → (j = i ∧ s = .own es) ∨ (j ≠ i ∧ ρ[j]? = some s) := fun {j s} e => by
    by_cases c : j = i
    · subst c
      rw [List.getElem?_set_self hi] at e
      exact .inl ⟨rfl, (Option.some.inj e).symm⟩
    · rw [List.getElem?_set_ne (Ne.symm c)] at e
      exact .inr ⟨c, e⟩
  refine ⟨⟨Same.refl F, fun _ _ h => .inl h, fun b o h hn => ?_, fun b h => ?_, fun b h => ?_, fun ds' h => ⟨rfl, ?_⟩⟩, ⟨fun b o h => ?_, by rw [List.length_set]; exact w.len, fun j d e => ?_, fun j ds' e => ?_, fun j l ds1 es1 b f1 f2 f3 f4 => ?_⟩⟩
  · rw [upd_ne fun z => hn (by rw [z]; exact aOw)]
    exact h
  · by_cases c : b = a
    · rw [c, upd_same] at h; cases h
    · rw [upd_ne c] at h
      exact h
  · obtain ⟨j, ds', f1, f2⟩ := h
    rcases at_ f1 with ⟨z, _⟩ | ⟨_, f1⟩
    · exact .inl ⟨i, ds, hρ, by rw [← z]; exact f2⟩
    · exact .inl ⟨j, ds', f1, f2⟩
  · by_cases c : i = 0
    · subst c
      exact ⟨es, by rw [List.getElem?_set_self hi]⟩
    · exact ⟨ds', by rw [List.getElem?_set_ne c]; exact h⟩
  · have c : b ≠ a := fun z => by rw [z, e2] at h; cases h
    rw [upd_ne c]
    exact w.sub b o h
  · rcases at_ e with ⟨_, e0⟩ | ⟨_, e0⟩
    · cases e0
    · exact w.val j d e0
  · rcases at_ e with ⟨z, e0⟩ | ⟨c, e0⟩
    · cases e0
      exact ⟨a, us, by rw [z]; exact hσ, e2, upd_same, h⟩
    · obtain ⟨b, ws, g1, g2, g3, g4⟩ := w.own j ds' e0
      have nb : b ≠ a := fun z => c (w.inj j i ds' ds a e0 hρ (by rw [← z]; exact g1) hσ)
      exact ⟨b, ws, g1, g2, by rw [upd_ne nb]; exact g3, g4⟩
  · rcases at_ f1 with ⟨z1, _⟩ | ⟨_, f1⟩
    · rcases at_ f2 with ⟨z2, _⟩ | ⟨_, f2⟩
      · exact z1.trans z2.symm
      · exact w.inj _ _ ds es1 b (by rw [z1]; exact hρ) f2 f3 f4
    · rcases at_ f2 with ⟨z2, _⟩ | ⟨_, f2⟩
      · exact w.inj _ _ ds1 ds b f1 (by rw [z2]; exact hρ) f3 f4
      · exact w.inj _ _ ds1 es1 b f1 f2 f3 f4
theorem of_ok {K : PySem.W.Frag} {f : FL} (σ : L2.St) (H : Hp) (Q : VK) (h : tD K (eOf f) σ H Q) : tO K f σ H Q := by
  obtain ⟨F, ρ, d, ρ', w, e, q⟩ := h
  obtain ⟨⟨ds, ρ1⟩, e1, e⟩ := Option.bind_eq_some_iff.mp e
  cases e
  refine ⟨F, ρ, ds, _, w, e1, fun a vs F1 H1 g1 w1 h0 h1 h2 d1 no => ?_⟩
  have sm : Same F1 (upd F1 a (.lst vs)) := same_upd h1
  exact q _ _ _ (g1.freeze h0 h1) (w1.freeze h2 h1 no) (.lst (.inl (.inl upd_same)) (d1.mono sm))
section
variable {X : Cx} {st : Stmt} {sts : List Stmt} {f g h : FS} {e c a b : Expr} {fe fc fi f1 f2 : FE} {fl fl2 : FL} {pos : Pos}
/-! ### name = [..] -/
section
variable {elt tg iter : Expr} {ifs : List Expr} {scope : Scope} {lpos spos py : Pos} {y : Str} {li : FL} {t : FT} {ix : List Nat} {bb : Bool}
theorem s_setLc (i : Nat) (own : List (Str × Nat)) (hc : X.calm = true) (hN : X.N.Nodup) (hi : PI X tg iter (iD X.K bb li)) (ok : BlkOk X.N X.env.scope scope own)
    (hg : ∀ (s : Shared) (H : Hp) (C : Addr) (cl : List (Str × Addr)) (fp : List Addr), PG (X.blk s H scope (compEnvC scope cl C X.env) fp) tg (gD X.K bb ix t)) (ht : ∀ (s : Shared) (H : Hp) (C : Addr) (cl : List (Str × Addr)) (fp : List Addr), PTD (X.blk s H scope (compEnvC scope cl C X.env) fp) ifs fc)
    (he : ∀ (s : Shared) (H : Hp) (C : Addr) (cl : List (Str × Addr)) (fp : List Addr), PE (X.blk s H scope (compEnvC scope cl C X.env) fp) elt (tD X.K fe)) (hy : X.N[i]? = some y := by rfl) (hyl : X.env.scope.names.lookup y = some .local := by rfl)
    (hsw : swapsWith (.ListComp elt [⟨tg, iter, ifs, 0⟩] scope lpos) (some (.Name y py)) spos.line X.env = pure true := by exact sw_true rfl rfl rfl (by decide +kernel)) (hix : ∀ j ∈ ix, j ∈ own.map (·.2) := by decide) (h0 : 0 ∉ own.map (·.2) := by decide) (hs : ∀ x, foldedSetIterable iter X.env x = pure x := by intro _; rfl) :
    PS X (.Assign [.Name y py] (.ListComp elt [⟨tg, iter, ifs, 0⟩] scope lpos) spos) (sD X.K (sSetO i (oComp li t fc fe (own.map (·.2))))) :=
  ps_weak (ps_setLc hc hN hy hyl hsw hi ok hg (fun s H C cl fp => (ht s H C cl fp).run) he hs) fun D σ H hq => lc_ok hix h0 σ H _ (setO_ok D σ H hq)
theorem s_setLcD (i : Nat) (own : List (Str × Nat)) (hc : X.calm = true) (hN : X.N.Nodup) (hi : PI X tg iter (iD X.K bb li)) (ok : BlkOk X.N X.env.scope scope own)
    (hg : ∀ (s : Shared) (H : Hp) (C : Addr) (cl : List (Str × Addr)) (fp : List Addr), PG (X.blk s H scope (compEnvC scope cl C X.env) fp) tg (gD X.K bb ix t)) (ht : ∀ (s : Shared) (H : Hp) (C : Addr) (cl : List (Str × Addr)) (fp : List Addr), PTD (X.blk s H scope (compEnvC scope cl C X.env) fp) ifs fc)
    (he : ∀ (s : Shared) (H : Hp) (C : Addr) (cl : List (Str × Addr)) (fp : List Addr), PE (X.blk s H scope (compEnvC scope cl C X.env) fp) elt (tD X.K fe)) (hy : X.N[i]? = some y := by rfl) (hyl : X.env.scope.names.lookup y = some .local := by rfl)
    (hsw : swapsWith (.ListComp elt [⟨tg, iter, ifs, 0⟩] scope lpos) (some (.Name y py)) spos.line X.env = pure true := by exact sw_true rfl rfl rfl (by decide +kernel)) (hix : ∀ j ∈ ix, j ∈ own.map (·.2) := by decide) (h0 : 0 ∉ own.map (·.2) := by decide) (hs : ∀ x, foldedSetIterable iter X.env x = pure x := by intro _; rfl) :
    PS X (.Assign [.Name y py] (.ListComp elt [⟨tg, iter, ifs, 0⟩] scope lpos) spos) (sD X.K (sSet (eOf (oComp li t fc fe (own.map (·.2)))) (tgN i))) :=
  ps_weak (ps_setLc hc hN hy hyl hsw hi ok hg (fun s H C cl fp => (ht s H C cl fp).run) he hs) fun D σ H hq => by
    refine lc_ok (c := fc) hix h0 σ H _ (of_ok σ H _ ?_)
    obtain ⟨F, ρ, o, w, e, q⟩ := hq
    obtain ⟨⟨x, ρ1⟩, e1, e⟩ := Option.bind_eq_some_iff.mp e
    obtain ⟨ρ2, e2, e⟩ := Option.bind_eq_some_iff.mp e
    cases e
    refine ⟨F, ρ, x, ρ1, w, e1, fun v F1 H1 g1 w1 d1 => ?_⟩
    obtain ⟨g2, w2⟩ := put_val w1 d1 e2
    exact q _ F1 H1 (g1.trans g2) w2
end
/-! ### a, b = x, y -/
def sPar (i j : Nat) (f g : FE) : FS := fun ρ => (f ρ).bind fun p => (g p.2).bind fun q => (putS i (.val p.1) q.2).bind fun ρ1 => (putS j (.val q.1) ρ1).bind fun ρ2 => some (.nx ρ2)
def sParVO (i j : Nat) (f : FE) (g : FL) : FS := fun ρ => (f ρ).bind fun p => (g p.2).bind fun q => (putS i (.val p.1) q.2).bind fun ρ1 => (putS j (.own q.1) ρ1).bind fun ρ2 => some (.nx ρ2)
def sParO (i j : Nat) (f g : FL) : FS := fun ρ => (f ρ).bind fun p => (g p.2).bind fun q => (putS i (.own p.1) q.2).bind fun ρ1 => (putS j (.own q.1) ρ1).bind fun ρ2 => some (.nx ρ2)
section
variable {i j : Nat} {x y : Str} {px py pt : Pos} {kt k2 : Nat} {pt2 : Pos}
theorem s_par (i j : Nat) {x y : Str} {px py pt : Pos} {kt k2 : Nat} {pt2 : Pos} (hc : X.calm = true) (hN : X.N.Nodup) (ha : PE X a (tD X.K f1)) (hb : PE X b (tD X.K f2)) (hi : X.N[i]? = some x := by rfl) (hj : X.N[j]? = some y := by rfl) (hij : i ≠ j := by decide)
    (hx : X.env.scope.names.lookup x = some .local := by rfl) (hy : X.env.scope.names.lookup y = some .local := by rfl) (he : starEach [a, b] X.env = (false, eval a X.env) :: starEach [b] X.env := by rfl) (he2 : starEach [b] X.env = (false, eval b X.env) :: starEach [] X.env := by rfl)
    (hw : swappedStores [.Tuple [.Name x px, .Name y py] kt pt] (.Tuple [a, b] k2 pt2) X.env = pure (some [x, y]) := by rfl)
    (hs : swapsWithSole [.Tuple [.Name x px, .Name y py] kt pt] (.Tuple [a, b] k2 pt2) pos.line X.env = pure false := by rfl) :
    PS X (.Assign [.Tuple [.Name x px, .Name y py] kt pt] (.Tuple [a, b] k2 pt2) pos) (sD X.K (sPar i j f1 f2)) :=
  ps_weak (ps_par hc hN hi hj hij hx hy (pa_cons ha (pa_cons hb pa_nil he2) he) hw hs) fun D σ H ⟨F, ρ, o, w, e, q⟩ => by
    obtain ⟨⟨u, ρ1⟩, e1, e⟩ := Option.bind_eq_some_iff.mp e
    obtain ⟨⟨v, ρ2⟩, e2, e⟩ := Option.bind_eq_some_iff.mp e
    obtain ⟨ρ3, e3, e⟩ := Option.bind_eq_some_iff.mp e
    obtain ⟨ρ4, e4, e⟩ := Option.bind_eq_some_iff.mp e
    cases e
    refine ⟨F, ρ, u, ρ1, w, e1, fun x1 F1 H1 g1 w1 d1 => ⟨F1, ρ1, v, ρ2, w1, e2, fun x2 F2 H2 g2 w2 d2 => ⟨x1, x2, rfl, ?_⟩⟩⟩
    obtain ⟨g3, w3⟩ := put_val w2 (d1.mono g2.grow) e3
    obtain ⟨g4, w4⟩ := put_val w3 d2 e4
    exact q _ F2 H2 (((g1.trans g2).trans g3).trans g4) w4
theorem s_parVO (i j : Nat) {x y : Str} {px py pt : Pos} {kt k2 : Nat} {pt2 : Pos} (hc : X.calm = true) (hN : X.N.Nodup) (ha : PE X a (tD X.K f1)) (hb : PE X b (tO X.K fl)) (hi : X.N[i]? = some x := by rfl) (hj : X.N[j]? = some y := by rfl) (hij : i ≠ j := by decide)
    (hx : X.env.scope.names.lookup x = some .local := by rfl) (hy : X.env.scope.names.lookup y = some .local := by rfl) (he : starEach [a, b] X.env = (false, eval a X.env) :: starEach [b] X.env := by rfl) (he2 : starEach [b] X.env = (false, eval b X.env) :: starEach [] X.env := by rfl)
    (hw : swappedStores [.Tuple [.Name x px, .Name y py] kt pt] (.Tuple [a, b] k2 pt2) X.env = pure (some [x, y]) := by rfl)
    (hs : swapsWithSole [.Tuple [.Name x px, .Name y py] kt pt] (.Tuple [a, b] k2 pt2) pos.line X.env = pure false := by rfl) :
    PS X (.Assign [.Tuple [.Name x px, .Name y py] kt pt] (.Tuple [a, b] k2 pt2) pos) (sD X.K (sParVO i j f1 fl)) :=
  ps_weak (ps_par hc hN hi hj hij hx hy (pa_cons ha (pa_cons hb pa_nil he2) he) hw hs) fun D σ H ⟨F, ρ, o, w, e, q⟩ => by
    obtain ⟨⟨u, ρ1⟩, e1, e⟩ := Option.bind_eq_some_iff.mp e
    obtain ⟨⟨v, ρ2⟩, e2, e⟩ := Option.bind_eq_some_iff.mp e
    obtain ⟨ρ3, e3, e⟩ := Option.bind_eq_some_iff.mp e
    obtain ⟨ρ4, e4, e⟩ := Option.bind_eq_some_iff.mp e
    cases e
    refine ⟨F, ρ, u, ρ1, w, e1, fun x1 F1 H1 g1 w1 d1 => ⟨F1, ρ1, v, ρ2, w1, e2, fun l vs F2 H2 g2 w2 h0 h1 h2 d2 no => ⟨x1, .ref l, rfl, ?_⟩⟩⟩
    obtain ⟨g3, w3⟩ := put_val w2 (d1.mono g2.grow) e3
    have no3 : ¬ Ow (σ.set i (some x1)) ρ3 l := fun z => by
      rcases g3.owns l z with z | z
      · exact no z
      · rw [h2] at z; cases z
    obtain ⟨p1, p2, p3⟩ := put_own w3 h1 h2 d2 no3 e4
    refine q _ F2 H2 ?_ p1
    have g := (g1.trans g2).trans g3
    refine ⟨g.grow, g.fresh, g.keep, g.there, fun b hb => ?_, fun ds hz => ?_⟩
    · rcases p2 b hb with z | z
      · exact g.owns b z
      · rw [z]; exact .inr (g1.there l h0)
    · obtain ⟨k1, ds', k2⟩ := g.zero ds hz
      obtain ⟨k3, k4⟩ := p3 ds' k2
      exact ⟨k3.trans k1, k4⟩
theorem s_parO (i j : Nat) {x y : Str} {px py pt : Pos} {kt k2 : Nat} {pt2 : Pos} (hc : X.calm = true) (hN : X.N.Nodup) (ha : PE X a (tO X.K fl)) (hb : PE X b (tO X.K fl2)) (hi : X.N[i]? = some x := by rfl) (hj : X.N[j]? = some y := by rfl) (hij : i ≠ j := by decide)
    (hx : X.env.scope.names.lookup x = some .local := by rfl) (hy : X.env.scope.names.lookup y = some .local := by rfl) (he : starEach [a, b] X.env = (false, eval a X.env) :: starEach [b] X.env := by rfl) (he2 : starEach [b] X.env = (false, eval b X.env) :: starEach [] X.env := by rfl)
    (hw : swappedStores [.Tuple [.Name x px, .Name y py] kt pt] (.Tuple [a, b] k2 pt2) X.env = pure (some [x, y]) := by rfl)
    (hs : swapsWithSole [.Tuple [.Name x px, .Name y py] kt pt] (.Tuple [a, b] k2 pt2) pos.line X.env = pure false := by rfl) :
    PS X (.Assign [.Tuple [.Name x px, .Name y py] kt pt] (.Tuple [a, b] k2 pt2) pos) (sD X.K (sParO i j fl fl2)) :=
  ps_weak (ps_par hc hN hi hj hij hx hy (pa_cons ha (pa_cons hb pa_nil he2) he) hw hs) fun D σ H ⟨F, ρ, o, w, e, q⟩ => by
    obtain ⟨⟨u, ρ1⟩, e1, e⟩ := Option.bind_eq_some_iff.mp e
    obtain ⟨⟨v, ρ2⟩, e2, e⟩ := Option.bind_eq_some_iff.mp e
    obtain ⟨ρ3, e3, e⟩ := Option.bind_eq_some_iff.mp e
    obtain ⟨ρ4, e4, e⟩ := Option.bind_eq_some_iff.mp e
    cases e
    refine ⟨F, ρ, u, ρ1, w, e1, fun k ks F1 H1 g1 w1 i0 i1 i2 d1 no1 => ⟨F1, ρ1, v, ρ2, w1, e2, fun l vs F2 H2 g2 w2 h0 h1 h2 d2 no => ⟨.ref k, .ref l, rfl, ?_⟩⟩⟩
    have k2 : H2 k = some (.lst ks) := g2.keep _ _ i2 no1
    have k1 : F2 k = none := by
      cases z : F2 k with
      | none => rfl
      | some o =>
        rcases g2.fresh k o z with z | z
        · rw [i1] at z; cases z
        · rw [i2] at z; cases z
    have nk : ¬ Ow σ ρ2 k := fun z => by
      rcases g2.owns k z with z | z
      · exact no1 z
      · rw [i2] at z; cases z
    have lk : l ≠ k := fun z => by rw [z, i2] at h0; cases h0
    obtain ⟨p1, p2, p3⟩ := put_own w2 k1 k2 (d1.mono g2.grow) nk e3
    have nl : ¬ Ow (σ.set i (some (.ref k))) ρ3 l := fun z => by
      rcases p2 l z with z | z
      · exact no z
      · exact lk z
    obtain ⟨q1, q2, q3⟩ := put_own p1 h1 h2 d2 nl e4
    refine q _ F2 H2 ?_ q1
    have g := g1.trans g2
    refine ⟨g.grow, g.fresh, g.keep, g.there, fun b hb => ?_, fun ds hz => ?_⟩
    · rcases q2 b hb with z | z
      · rcases p2 b z with z | z
        · exact g.owns b z
        · rw [z]; exact .inr i0
      · rw [z]; exact .inr (g1.there l h0)
    · obtain ⟨_, ds', k2⟩ := g.zero ds hz
      obtain ⟨k3, ds2, k4⟩ := p3 ds' k2
      obtain ⟨k5, k6⟩ := q3 ds2 k4
      exact ⟨k5.trans k3, k6⟩
end
/-! ### xs.append(e), xs[i] = e -/
def sApp (i : Nat) (f : FE) : FS := fun ρ => match ρ[i]? with
  | some (.own _) => (f ρ).bind fun p => match p.2[i]? with
    | some (.own ds) => if few (ds.length + 1) = true then some (.nx (p.2.set i (.own (ds ++ [p.1])))) else none
    | _ => none
  | _ => none
theorem s_app (i : Nat) {y : Str} {q2 apos cpos : Pos} (he : PE X e (tD X.K fe)) (hN : X.N[i]? = some y := by rfl) (hv : Vis X.env.scope y := by first | exact Or.inl rfl | exact Or.inr (Or.inl rfl) | exact Or.inr (Or.inr rfl)) (hd : (y == ("__debug__" : Str)) = false := by decide) (hcd : (y == ("__classdict__" : Str)) = false := by decide)
    (hbase : attributeBase (.Name y q2) "append" X.env (eval (.Name y q2) X.env) = eval (.Name y q2) X.env := by rfl)
    (hfew : ((backTo cpos (starEach [e] X.env)).all (fun x => !x.1) && (backToKw cpos (keywordEach [] X.env)).all (fun x => x.1.isSome)
      && decide ([e].length + ([] : List Keyword).length + (if ([] : List Keyword).isEmpty then 0 else 1) < 30)) = true := by rfl)
    (hline : (apos.endLine == cpos.line) = true := by rfl) (hs : starEach [e] X.env = (false, eval e X.env) :: starEach [] X.env := by rfl) (hplain : (backTo cpos (starEach [] X.env)).any (·.1) = false := by rfl)
    (hsw : swapsWith (.Call (.Attribute (.Name y q2) "append" apos) [e] [] cpos) none pos.line X.env = pure false := by rfl) :
    PS X (.Expr (.Call (.Attribute (.Name y q2) "append" apos) [e] [] cpos) pos) (sD X.K (sApp i fe)) :=
  ps_weak (ps_expr (pe_bm PySem.F.plainAttrs_list PySem.F.slot_list_append PySem.F.type_list_append mt_append (pe_var hN hv hd hcd) (pa_cons he pa_nil hs) hbase hfew hline hs hplain) hsw) fun D σ H ⟨F, ρ, o, w, e, q⟩ => by
    unfold sApp at e
    split at e
    · rename_i ds0 h0
      obtain ⟨⟨x, ρ1⟩, e1, e⟩ := Option.bind_eq_some_iff.mp e
      split at e
      · rename_i ds h1
        have h1 : ρ1[i]? = some (.own ds) := h1
        split at e
        · rename_i hf
          cases e
          obtain ⟨a, us, s1, s2, s3, s4⟩ := w.own i ds0 h0
          refine ⟨.ref a, s1, .inl ⟨rfl, us, .inl (.inl s3)⟩, F, ρ, x, ρ1, w, e1, fun v F1 H1 g1 w1 d1 => ?_⟩
          obtain ⟨a', us', t1, t2, t3, t4⟩ := w1.own i ds h1
          rw [s1] at t1
          cases t1
          obtain ⟨g2, w2⟩ := own_write w1 h1 s1 (t4.append (.cons d1 .nil))
          refine ⟨a, us', v, rfl, rfl, t3, ?_, q σ F1 _ (g1.trans g2) w2⟩
          have := of_decide_eq_true hf
          rw [t4.length, sizeLine_eq]
          omega
        · cases e
      · cases e
    · cases e
def sSetI (i : Nat) (fe fi : FE) : FS := fun ρ => match ρ[i]? with
  | some (.own _) => (fe ρ).bind fun p => (fi p.2).bind fun q => match q.2[i]?, q.1 with
    | some (.own ds), .int k => (ixN ds.length k).bind fun j => some (.nx (q.2.set i (.own (ds.set j p.1))))
    | _, _ => none
  | _ => none
theorem s_setI (i : Nat) {y : Str} {q2 sp : Pos} {ie : Expr} (he : PE X e (tD X.K fe)) (hi : PE X ie (tD X.K fi)) (hN : X.N[i]? = some y := by rfl) (hv : Vis X.env.scope y := by first | exact Or.inl rfl | exact Or.inr (Or.inl rfl) | exact Or.inr (Or.inr rfl)) (hd : (y == ("__debug__" : Str)) = false := by decide) (hcd : (y == ("__classdict__" : Str)) = false := by decide)
    (ha : ∀ v, assign (.Subscript (.Name y q2) ie sp) X.env v = (do
      let ov ← holding [v] (eval (.Name y q2) X.env)
      let iv ← holding [v, ov] (eval ie X.env)
      standAt sp
      holding [v, ov, iv] (setItem ov iv v)
      release [v, ov, iv] []) := by intro _; rfl)
    (hs : swapsWithSole [.Subscript (.Name y q2) ie sp] e pos.line X.env = pure false := by rfl) (hw : swappedStores [.Subscript (.Name y q2) ie sp] e X.env = pure none := by rfl)
    (h1 : (assignEach [.Subscript (.Name y q2) ie sp] X.env).map (·.2) = [assign (.Subscript (.Name y q2) ie sp) X.env] := by rfl) :
    PS X (.Assign [.Subscript (.Name y q2) ie sp] e pos) (sD X.K (sSetI i fe fi)) :=
  ps_weak (ps_asg he (pg_sub (pe_var hN hv hd hcd) hi set_list ha) hs hw h1) fun D σ H ⟨F, ρ, o, w, e, q⟩ => by
    unfold sSetI at e
    split at e
    · rename_i ds0 h0
      obtain ⟨⟨x, ρ1⟩, e1, e⟩ := Option.bind_eq_some_iff.mp e
      obtain ⟨⟨z, ρ2⟩, e2, e⟩ := Option.bind_eq_some_iff.mp e
      split at e
      · rename_i ds k h1 h2
        obtain ⟨j, e3, e⟩ := Option.bind_eq_some_iff.mp e
        cases e
        have h1 : ρ2[i]? = some (.own ds) := h1
        have h2 : z = .int k := h2
        subst h2
        obtain ⟨a, us, s1, s2, s3, s4⟩ := w.own i ds0 h0
        refine ⟨F, ρ, x, ρ1, w, e1, fun v F1 H1 g1 w1 d1 => ⟨.ref a, s1, F1, ρ1, _, ρ2, w1, e2, fun u F2 H2 g2 w2 d2 => ?_⟩⟩
        cases d2
        obtain ⟨a', us', t1, t2, t3, t4⟩ := w2.own i ds h1
        rw [s1] at t1
        cases t1
        obtain ⟨g3, w3⟩ := own_write w2 h1 s1 (t4.set (d1.mono g2.grow) j)
        exact ⟨a, us', k, j, rfl, rfl, t3, by rw [t4.length]; exact e3, q σ F2 _ ((g1.trans g2).trans g3) w3⟩
      · cases e
    · cases e
/-! ### for -/
def loopS (t : FT) (g : FS) : List PyData → Ev → Option Ev
  | [], ρ => some ρ
  | d :: ds, ρ => (t d ρ).bind fun ρ1 => match g ρ1 with
    | some (.nx ρ2) => loopS t g ds ρ2
    | _ => none
def sFor (li : FL) (t : FT) (g : FS) : FS := fun ρ => (li ρ).bind fun p => (loopS t g p.1 p.2).bind fun ρ' => some (.nx ρ')
theorem s_for {tg iter : Expr} {body : List Stmt} {li : FL} {t : FT} {ix : List Nat} {bb : Bool} (hp : PassesOwn (model X.prog X.w) X.A X.env X.xe) (hc : X.calm = true) (hi : PI X tg iter (iD X.K bb li)) (hg : PG X tg (gD X.K bb ix t)) (hb : PSs X body (sD X.K g))
    (hs : ∀ x, foldedSetIterable iter X.env x = pure x := by intro _; rfl) : PS X (.For tg iter body [] pos) (sD X.K (sFor li t g)) :=
  ps_weak (ps_for hp hc hi hg hb hs) fun D σ H ⟨F, ρ, o, w, e, q⟩ => by
    obtain ⟨⟨ds, ρ1⟩, e1, e⟩ := Option.bind_eq_some_iff.mp e
    obtain ⟨ρend, e2, e⟩ := Option.bind_eq_some_iff.mp e
    cases e
    refine ⟨F, ρ, ds, ρ1, w, e1, fun J F1 H1 g1 w1 wk => ?_⟩
    refine ⟨fun i m σi Hi => m = ds.length - i ∧ i ≤ ds.length ∧ ∃ F' ρ', Wf X.K F' Hi σi ρ' ∧ Go F1 H1 σ ρ1 F' Hi σi ρ' ∧ loopS t g (ds.drop i) ρ' = some ρend, ⟨ds.length, by omega, Nat.zero_le _, F1, ρ1, w1, Go.refl .., e2⟩, ?_⟩
    rintro i m σi Hi ⟨rfl, hi, F', ρ', w', g', eL⟩
    by_cases hlt : i < ds.length
    · right
      refine ⟨wk.go i F' Hi hlt g'.grow w'.sub, fun σ2 H2 => ∃ F2 ρ2, Wf X.K F2 H2 σ2 ρ2 ∧ Go F1 H1 σ ρ1 F2 H2 σ2 ρ2 ∧ loopS t g (ds.drop (i + 1)) ρ2 = some ρend, fun σ2 H2 h => ⟨ds.length - (i + 1), by omega, rfl, hlt, h⟩, fun x H2 y => ?_⟩
      rw [List.drop_eq_getElem_cons hlt] at eL
      obtain ⟨ρa, f1, eL⟩ := Option.bind_eq_some_iff.mp eL
      obtain ⟨F2, n2, dx⟩ := wk.yld i ds[i] F' Hi x H2 (List.getElem?_eq_getElem hlt) g'.grow w'.sub y
      refine ⟨F2, ρ', ds[i], ρa, w'.new n2, dx, f1, fun σ3 ap g3 w3 => ?_⟩
      have g03 := (g'.trans (Go.new n2)).trans g3
      split at eL
      · rename_i ρ2 e3
        exact ⟨F2, ρa, _, w3, e3, fun σ4 F4 H4 g4 w4 => ⟨F4, ρ2, w4, g03.trans g4, eL⟩⟩
      · cases eL
    · left
      have ei : i = ds.length := by omega
      subst ei
      refine ⟨wk.stop F' Hi g'.grow w'.sub, ?_⟩
      rw [List.drop_length] at eL
      cases eL
      exact q σi F' Hi (g1.trans g') w'
end

/-! ### a def by its body -/
def isOwn : Sl → Bool
  | .own _ => true
  | _ => false
/-- n names, np of them parameters; only the first parameter may be a list that is changed -/
def runD (n np : Nat) (g : FS) : FD := fun as => if (decide (as.length = np) && as.tail.all fun s => !isOwn s) = true then match g (as ++ List.replicate (n - np) .no) with
  | some (.rt r ρ) => some (r, ρ[0]?.getD .no)
  | some (.nx ρ) => some (.val .none, ρ[0]?.getD .no)
  | none => none else none
theorem runD_ar (n np : Nat) (g : FS) : Ar (runD n np g) np := ⟨fun as h => by
  unfold runD at h
  split at h
  · rename_i hc
    exact of_decide_eq_true (Bool.and_eq_true_iff.mp hc).1
  · exact absurd rfl h⟩
section
variable {P : Program} {w : World} {K : PySem.W.Frag} {mg : Str → Option Value} {base : Heap}
theorem start_wf {F H : Hp} {N : List Str} {vs : List V} {as : List Sl} (h : Wf K F H (vs.map some) as) (hl : vs.length ≤ N.length) : Wf K F H (start N vs) (as ++ List.replicate (N.length - as.length) .no) := by
  have l0 : as.length = vs.length := by have := h.len; rwa [List.length_map] at this
  have key : ∀ {i : Nat} {s : Sl}, (as ++ List.replicate (N.length - as.length) Sl.no)[i]? = some s → s ≠ .no → i < as.length ∧ as[i]? = some s := fun {i s} e hn => by
    by_cases c : i < as.length
    · rw [List.getElem?_append_left c] at e
      exact ⟨c, e⟩
    · rw [List.getElem?_append_right (by omega), List.getElem?_replicate] at e
      split at e
      · exact absurd (Option.some.inj e).symm hn
      · cases e
  have st : ∀ {i : Nat}, i < as.length → (start N vs)[i]? = (vs.map some)[i]? := fun {i} c => by
    unfold L2.start
    rw [List.getElem?_append_left (by rw [List.length_map]; omega)]
  refine ⟨h.sub, ?_, fun i d e => ?_, fun i ds e => ?_, fun i j ds es a e1 e2 e3 e4 => ?_⟩
  · unfold L2.start
    rw [List.length_append, List.length_append, List.length_replicate, List.length_replicate, List.length_map]
    omega
  · obtain ⟨c, e'⟩ := key e (by simp)
    rw [st c]
    exact h.val i d e'
  · obtain ⟨c, e'⟩ := key e (by simp)
    rw [st c]
    exact h.own i ds e'
  · obtain ⟨c1, f1⟩ := key e1 (by simp)
    obtain ⟨c2, f2⟩ := key e2 (by simp)
    rw [st c1] at e3
    rw [st c2] at e4
    exact h.inj i j ds es a f1 f2 e3 e4
theorem start_ow {N : List Str} {vs : List V} {as : List Sl} {a : Addr} (l0 : as.length = vs.length) (h : Ow (start N vs) (as ++ List.replicate (N.length - as.length) .no) a) : Ow (vs.map some) as a := by
  obtain ⟨i, ds, e1, e2⟩ := h
  by_cases c : i < as.length
  · rw [List.getElem?_append_left c] at e1
    unfold L2.start at e2
    rw [List.getElem?_append_left (by rw [List.length_map]; omega)] at e2
    exact ⟨i, ds, e1, e2⟩
  · rw [List.getElem?_append_right (by omega), List.getElem?_replicate] at e1
    split at e1 <;> cases e1
theorem ow_start {N : List Str} {vs : List V} {as : List Sl} {a : Addr} (l0 : as.length = vs.length) (h : Ow (vs.map some) as a) : Ow (start N vs) (as ++ List.replicate (N.length - as.length) .no) a := by
  obtain ⟨i, ds, e1, e2⟩ := h
  have c : i < as.length := (List.getElem?_eq_some_iff.mp e1).1
  refine ⟨i, ds, by rw [List.getElem?_append_left c]; exact e1, ?_⟩
  unfold L2.start
  rw [List.getElem?_append_left (by rw [List.length_map]; omega)]
  exact e2
/-- only slot 0 is owned -/
theorem own_first {vs : List V} {as : List Sl} (h : (as.tail.all fun s => !isOwn s) = true) {i : Nat} {ds : List PyData} (e : as[i]? = some (.own ds)) : i = 0 := by
  cases i with
  | zero => rfl
  | succ i =>
    exfalso
    cases as with
    | nil => cases e
    | cons s r =>
      have e' : r[i]? = some (.own ds) := by simpa using e
      have := List.all_eq_true.mp h (.own ds) (List.mem_of_getElem? e')
      cases this
theorem def_ok {x : Str} {st : Stmt} {f : Addr} {fd : FuncData} {N ps : List Str} {k : Nat} {g : FS} (F : Fun K x x st f fd) (hm : mg x = some (.ref f)) (S : FnScope N ps (defScope st)) (bd : ∀ (kV doc pm : Value) (an : Option Addr) (cdv ct : Value) (us : List Value), us.length = ps.length → bindArgs (PySem.W.fnOf x x (defArgs st) (defBody st) (defScope st) .none kV doc pm an cdv ct) ⟨us, []⟩ = pure (ps.zip us))
    (body : ∀ (cdv : Value) (A : Around) (outer : List Env) (s : Shared) (H : Hp) (E : XK), Room k (A.deeper (envOfC x (defScope st) s.heap.objs.size f cdv)) → PSs (cxOf CX0 P w K mg base N x (defScope st) f cdv A outer s H E).nox (defBody st) (sD K g)) :
    DefOk P w K mg base (k + 1) x st ps (runD N.length ps.length g) := by
  refine ⟨⟨f, fd, hm, F, F.ok S (fun vs H Q E h => spD_len h) fun cdv A outer s H vs Q E hr h => ⟨sD K g, body cdv A outer s H E hr, ?_⟩⟩, bd⟩
  obtain ⟨F0, as, r, z, w0, hl, e, q⟩ := h
  have l0 : as.length = vs.length := by have := w0.len; rwa [List.length_map] at this
  have hpN : ps.length ≤ N.length := by have := congrArg List.length S.pre; rw [List.length_take] at this; omega
  unfold runD at e
  split at e
  case isFalse => cases e
  case isTrue hc =>
  have hown := (Bool.and_eq_true_iff.mp hc).2
  have lN : N.length - ps.length = N.length - as.length := by rw [hl]
  rw [lN] at e
  have w1 := start_wf (N := N) w0 (by omega)
  -- the state at the end, seen by the caller
  have fin : ∀ (r : Sl) (ρ' : Ev) (v : V) (σ' : L2.St) (F' H' : Hp), z = ρ'[0]?.getD .no → Go F0 H (start N vs) (as ++ List.replicate (N.length - as.length) .no) F' H' σ' ρ' → Wf K F' H' σ' ρ' →
      Go F0 H (vs.map some) as F' H' (vs.map some) (put0 as z) ∧ Wf K F' H' (vs.map some) (put0 as z) := by
    intro r ρ' v σ' F' H' hz gg ww
    have kp : ∀ a o, H a = some o → ¬ Ow (vs.map some) as a → H' a = some o := fun a o h hn => gg.keep a o h fun c => hn (start_ow l0 c)
    cases as with
    | nil =>
      refine ⟨⟨gg.grow, gg.fresh, kp, gg.there, fun a h => ?_, fun ds h => by simp at h⟩, ⟨ww.sub, w0.len, fun i d h => by simp [put0] at h, fun i d h => by simp [put0] at h, fun i j ds es a h => by simp [put0] at h⟩⟩
      obtain ⟨i, ds, h, _⟩ := h
      simp [put0] at h
    | cons s rr =>
      cases s with
      | own es =>
        obtain ⟨k1, es', k2⟩ := gg.zero es rfl
        have hz' : z = .own es' := by rw [hz, k2]; rfl
        subst hz'
        have hv : ∃ v0 vr, vs = v0 :: vr := by
          cases vs with
          | nil => cases l0
          | cons v0 vr => exact ⟨v0, vr, rfl⟩
        obtain ⟨v0, vr, rfl⟩ := hv
        obtain ⟨a, us, s1, s2, s3, s4⟩ := ww.own 0 es' k2
        obtain ⟨a0, us0, t1, t2, t3, t4⟩ := w0.own 0 es rfl
        have ea : v0 = .ref a0 := by
          have : some v0 = some (V.ref a0) := by simpa using t1
          exact Option.some.inj this
        subst ea
        have ea2 : a = a0 := by
          rw [k1] at s1
          have : (start N (V.ref a0 :: vr))[0]? = some (some (V.ref a0)) := rfl
          rw [this] at s1
          cases s1
          rfl
        subst ea2
        have noR : ∀ (i : Nat) (ds : List PyData), rr[i]? ≠ some (.own ds) := fun i ds h => by
          have := own_first (vs := []) (as := .own es :: rr) hown (i := i + 1) (ds := ds) (by simpa using h)
          cases this
        refine ⟨⟨gg.grow, gg.fresh, kp, gg.there, fun b h => ?_, fun ds h => ⟨rfl, es', rfl⟩⟩, ⟨ww.sub, w0.len, fun i d h => ?_, fun i ds h => ?_, fun i j ds1 ds2 b h1 h2 _ _ => ?_⟩⟩
        · obtain ⟨i, ds, h1, h2⟩ := h
          cases i with
          | zero => exact .inl ⟨0, es, rfl, h2⟩
          | succ i => exact absurd (show rr[i]? = some (.own ds) by simpa [put0] using h1) (noR i ds)
        · cases i with
          | zero => simp [put0] at h
          | succ i =>
            obtain ⟨v, e1, e2⟩ := w0.val (i + 1) d (by simpa [put0] using h)
            exact ⟨v, e1, e2.mono gg.grow⟩
        · cases i with
          | zero =>
            simp [put0] at h
            subst h
            exact ⟨a, us, rfl, s2, s3, s4⟩
          | succ i => exact absurd (show rr[i]? = some (.own ds) by simpa [put0] using h) (noR i ds)
        · cases i with
          | zero =>
            cases j with
            | zero => rfl
            | succ j => exact absurd (show rr[j]? = some (.own ds2) by simpa [put0] using h2) (noR j ds2)
          | succ i => exact absurd (show rr[i]? = some (.own ds1) by simpa [put0] using h1) (noR i ds1)
      | no =>
        have no : ∀ (i : Nat) (ds : List PyData), (Sl.no :: rr)[i]? ≠ some (.own ds) := fun i ds h => by
          have c := own_first (vs := []) hown h
          subst c
          cases h
        refine ⟨⟨gg.grow, gg.fresh, kp, gg.there, fun b ⟨i, ds, h, _⟩ => absurd h (no i ds), fun ds h => absurd h (no 0 ds)⟩, ⟨ww.sub, w0.len, fun i d h => ?_, fun i ds h => absurd h (no i ds), fun i j ds1 ds2 b h1 => absurd h1 (no i ds1)⟩⟩
        obtain ⟨v, e1, e2⟩ := w0.val i d h
        exact ⟨v, e1, e2.mono gg.grow⟩
      | val d0 =>
        have no : ∀ (i : Nat) (ds : List PyData), (Sl.val d0 :: rr)[i]? ≠ some (.own ds) := fun i ds h => by
          have c := own_first (vs := []) hown h
          subst c
          cases h
        refine ⟨⟨gg.grow, gg.fresh, kp, gg.there, fun b ⟨i, ds, h, _⟩ => absurd h (no i ds), fun ds h => absurd h (no 0 ds)⟩, ⟨ww.sub, w0.len, fun i d h => ?_, fun i ds h => absurd h (no i ds), fun i j ds1 ds2 b h1 => absurd h1 (no i ds1)⟩⟩
        obtain ⟨v, e1, e2⟩ := w0.val i d h
        exact ⟨v, e1, e2.mono gg.grow⟩
  cases eo : g (as ++ List.replicate (N.length - as.length) .no) with
  | none =>
    rw [eo] at e
    cases e
  | some o =>
    rw [eo] at e
    refine ⟨F0, _, o, w1, eo, ?_⟩
    cases o with
    | nx ρ' =>
      cases e
      intro σ' F' H' gg ww
      obtain ⟨a1, a2⟩ := fin (.val .none) ρ' .non σ' F' H' rfl gg ww
      exact q .non F' H' a1 a2 .non
    | rt r' ρ' =>
      cases e
      intro v σ' F' H' gg ww res
      obtain ⟨a1, a2⟩ := fin r ρ' v σ' F' H' rfl gg ww
      refine q v F' H' a1 a2 ?_
      cases r with
      | no => exact res
      | val d => exact res
      | own ds =>
        obtain ⟨a, us, rfl, h1, h2, h3, h4, h5⟩ := res
        refine ⟨a, us, rfl, ?_, h3, h4, h5⟩
        rcases h1 with h1 | h1
        · exact h1
        · exfalso
          obtain ⟨i, es, f1, f2⟩ := start_ow l0 h1
          have c := own_first (vs := []) hown f1
          subst c
          have lt : 0 < as.length := (List.getElem?_eq_some_iff.mp f1).1
          refine h2 es (by rw [List.getElem?_append_left lt]; exact f1) ?_
          unfold L2.start
          rw [List.getElem?_append_left (by rw [List.length_map]; omega)]
          exact f2
/-- nothing is promised -/
theorem def_none {x : Str} {st : Stmt} {f : Addr} {fd : FuncData} {ps : List Str} {k : Nat} (F : Fun K x x st f fd) (hm : mg x = some (.ref f)) (bd : ∀ (kV doc pm : Value) (an : Option Addr) (cdv ct : Value) (us : List Value), us.length = ps.length → bindArgs (PySem.W.fnOf x x (defArgs st) (defBody st) (defScope st) .none kV doc pm an cdv ct) ⟨us, []⟩ = pure (ps.zip us)) :
    DefOk P w K mg base k x st ps (fun _ => none) := by
  refine ⟨⟨f, fd, hm, F, ⟨fun vs H Q E h => spD_len h, fun A outer s H args us vs Q E _ _ _ _ h => ?_⟩⟩, bd⟩
  obtain ⟨_, _, _, _, _, _, e, _⟩ := h
  cases e
end
end DL

/-! ## FNS -/
set_option Elab.async false
set_option linter.all false
set_option maxRecDepth 100000
set_option maxHeartbeats 40000000
namespace DL
open PySem PySem.Spec PyProof.Rows L2
/-- the ring of the six shapes -/
def ringD : PyData := .tuple [.tuple [.int 0, .int 1, .int 2], .tuple [.int 2, .int 1, .int 0], .tuple [.int 2, .int 0, .int 1], .tuple [.int 1, .int 0, .int 2], .tuple [.int 1, .int 2, .int 0], .tuple [.int 0, .int 2, .int 1]]
/-! ### is_number -/
def f_is_number : FS :=
  (sRet (eAnd (eIsi .int (eVar 0)) (eNot (eIsi .bool (eVar 0)))))
def fn_is_number : FD := runD 1 1 f_is_number
/-! ### is_from -/
def f_is_from : FS :=
  (sRet (eAnd (eCall fn_is_number (aCons (eVar 0) aNil)) (bin dGe (eVar 0) (eVar 1))))
def fn_is_from : FD := runD 2 2 f_is_from
/-! ### is_within -/
def f_is_within : FS :=
  (sRet (eAnd (eCall fn_is_number (aCons (eVar 0) aNil)) (eChain dLe dLe (eVar 1) (eVar 0) (eVar 2))))
def fn_is_within : FD := runD 3 3 f_is_within
/-! ### is_long -/
def f_is_long : FS :=
  (sRet (eAnd (eIsi .tuple (eVar 0)) (bin dEq (call dLen (aCons (eVar 0) aNil)) (eVar 1))))
def fn_is_long : FD := runD 2 2 f_is_long
/-! ### tupled -/
def f_tupled (self : FD) : FS :=
  (sRet (eIf (eIsi2 .list .tuple (eVar 0)) (call dTuple (aCons (eOf (oComp (iSeqD (eVar 0)) (tgN 1) cYes (eCall self (aCons (eVar 1) aNil)) [1])) aNil)) (eVar 0)))
def fn_tupled : Nat → FD
  | 0 => fun _ => none
  | n + 1 => runD 2 1 (f_tupled (fn_tupled n))
/-! ### are_numbers -/
def f_are_numbers : FS :=
  (sRet (eAnd (eIsi .tuple (eVar 0)) (call dAll (aCons (eOf (oComp (iSeqD (eVar 0)) (tgN 1) cYes (eCall fn_is_number (aCons (eVar 1) aNil)) [1])) aNil))))
def fn_are_numbers : FD := runD 2 1 f_are_numbers
/-! ### is_chest -/
def f_is_chest : FS :=
  (sRet (eAnd (eCall fn_is_long (aCons (eVar 0) (aCons (eC (.int 3)) aNil))) (call dAll (aCons (eOf (oComp (iSeqD (eVar 0)) (tgN 1) cYes (eCall fn_is_from (aCons (eVar 1) (aCons (eC (.int 1)) aNil))) [1])) aNil))))
def fn_is_chest : FD := runD 2 1 f_is_chest
/-! ### sure_chest -/
def f_sure_chest : FS :=
  (sSeq (sSet (eCall (fn_tupled 8) (aCons (eVar 0) aNil)) (tgN 1))
  (sSeq (sIf (eNot (eCall fn_is_chest (aCons (eVar 1) aNil))) sNever sNil)
  (sRet (eVar 1))))
def fn_sure_chest : FD := runD 2 1 f_sure_chest
/-! ### is_shape -/
def f_is_shape : FS :=
  (sRet (eAnd (eCall fn_is_long (aCons (eVar 0) (aCons (eC (.int 3)) aNil))) (eAnd (call dAll (aCons (eOf (oComp (iSeqD (eVar 0)) (tgN 1) cYes (eCall fn_is_number (aCons (eVar 1) aNil)) [1])) aNil)) (bin dIn (eVar 0) (eC ringD)))))
def fn_is_shape : FD := runD 2 1 f_is_shape
/-! ### is_stand -/
def f_is_stand : FS :=
  (sSeq (sIf (eOr (eNot (eCall fn_is_long (aCons (eVar 0) (aCons (eC (.int 4)) aNil)))) (eNot (eCall fn_is_shape (aCons (bin dIx (eVar 0) (eC (.int 0))) aNil)))) (sRet (eC (.bool false))) sNil)
  (sSeq (sIf (eNot (call dAll (aCons (eOf (oComp (iSeqD (eSl (eVar 0) (oSome (eC (.int 1))) oNone)) (tgN 1) cYes (eAnd (eCall fn_is_long (aCons (eVar 1) (aCons (eC (.int 3)) aNil))) (eCall fn_are_numbers (aCons (eVar 1) aNil))) [1])) aNil))) (sRet (eC (.bool false))) sNil)
  (sRet (call dAll (aCons (eOf (oComp (iSeqD (bin dIx (eVar 0) (eC (.int 3)))) (tgN 1) cYes (bin dIn (eVar 1) (eTup (aCons (eC (.int 1)) (aCons (eNeg (eC (.int 1))) aNil)))) [1])) aNil)))))
def fn_is_stand : FD := runD 2 1 f_is_stand
/-! ### sure_stand -/
def f_sure_stand : FS :=
  (sSeq (sSet (eCall (fn_tupled 8) (aCons (eVar 0) aNil)) (tgN 1))
  (sSeq (sIf (eNot (eCall fn_is_stand (aCons (eVar 1) aNil))) sNever sNil)
  (sRet (eVar 1))))
def fn_sure_stand : FD := runD 2 1 f_sure_stand
/-! ### is_move -/
def f_is_move : FS :=
  (sSeq (sIf (eCall fn_is_long (aCons (eVar 0) (aCons (eC (.int 2)) aNil))) (sRet (eAnd (bin dEq (bin dIx (eVar 0) (eC (.int 0))) (eC (.str "tip"))) (eCall fn_is_within (aCons (bin dIx (eVar 0) (eC (.int 1))) (aCons (eC (.int 0)) (aCons (eC (.int 3)) aNil)))))) sNil)
  (sSeq (sIf (eOr (eNot (eCall fn_is_long (aCons (eVar 0) (aCons (eC (.int 3)) aNil)))) (eOr (bin dNe (bin dIx (eVar 0) (eC (.int 0))) (eC (.str "turn"))) (eNot (eCall fn_is_within (aCons (bin dIx (eVar 0) (eC (.int 1))) (aCons (eC (.int 0)) (aCons (eC (.int 3)) aNil))))))) (sRet (eC (.bool false))) sNil)
  (sRet (eAnd (eCall fn_is_number (aCons (bin dIx (eVar 0) (eC (.int 2))) aNil)) (bin dIn (bin dIx (eVar 0) (eC (.int 2))) (eTup (aCons (eC (.int 1)) (aCons (eNeg (eC (.int 1))) aNil))))))))
def fn_is_move : FD := runD 1 1 f_is_move
/-! ### more_at -/
def f_more_at : FS :=
  (sRet (bin dAdd (bin dAdd (eSl (eVar 0) oNone (oSome (eVar 1))) (eTup (aCons (bin dAdd (bin dIx (eVar 0) (eVar 1)) (eVar 2)) aNil))) (eSl (eVar 0) (oSome (bin dAdd (eVar 1) (eC (.int 1)))) oNone)))
def fn_more_at : FD := runD 3 3 f_more_at
/-! ### flipped -/
def f_flipped : FS :=
  (sRet (eCall fn_more_at (aCons (eVar 0) (aCons (eVar 1) (aCons (bin dMul (eNeg (eC (.int 2))) (bin dIx (eVar 0) (eVar 1))) aNil)))))
def fn_flipped : FD := runD 2 2 f_flipped
/-! ### tipped_in -/
def f_tipped_in : FS :=
  (sSeq (sSet (eVar 0) (tgTup 4 (tgCons (tgN 2) (tgCons (tgN 3) (tgCons (tgN 4) (tgCons (tgN 5) tgNil))))))
  (sSeq (sSet (eVar 2) (tgTup 3 (tgCons (tgN 6) (tgCons (tgN 7) (tgCons (tgN 8) tgNil)))))
  (sSeq (sSet (eIf (bin dLt (eVar 1) (eC (.int 2))) (eC (.int 1)) (eNeg (eC (.int 1)))) (tgN 9))
  (sSeq (sIf (bin dEq (bin dMod (eVar 1) (eC (.int 2))) (eC (.int 0))) (sRet (eTup (aCons (eTup (aCons (eVar 8) (aCons (eVar 7) (aCons (eVar 6) aNil)))) (aCons (eCall fn_more_at (aCons (eCall fn_more_at (aCons (eVar 3) (aCons (eVar 6) (aCons (eVar 9) aNil)))) (aCons (eVar 8) (aCons (eVar 9) aNil)))) (aCons (eVar 4) (aCons (eCall fn_flipped (aCons (eVar 5) (aCons (eIf (bin dEq (eVar 9) (eC (.int 1))) (eVar 6) (eVar 8)) aNil))) aNil)))))) sNil)
  (sRet (eTup (aCons (eTup (aCons (eVar 6) (aCons (eVar 8) (aCons (eVar 7) aNil)))) (aCons (eVar 3) (aCons (eCall fn_more_at (aCons (eCall fn_more_at (aCons (eVar 4) (aCons (eVar 7) (aCons (eVar 9) aNil)))) (aCons (eVar 8) (aCons (eVar 9) aNil)))) (aCons (eCall fn_flipped (aCons (eVar 5) (aCons (eIf (bin dEq (eVar 9) (eC (.int 1))) (eVar 7) (eVar 8)) aNil))) aNil))))))))))
def fn_tipped_in : FD := runD 10 2 f_tipped_in
/-! ### turned_in -/
def f_turned_in : FS :=
  (sSeq (sSet (eVar 0) (tgTup 4 (tgCons (tgN 3) (tgCons (tgN 4) (tgCons (tgN 5) (tgCons (tgN 6) tgNil))))))
  (sSeq (sSet (eVar 3) (tgTup 3 (tgCons (tgN 7) (tgCons (tgN 8) (tgCons (tgN 9) tgNil)))))
  (sSeq (sSet (eIf (bin dIn (eVar 1) (eTup (aCons (eC (.int 1)) (aCons (eC (.int 2)) aNil)))) (eC (.int 1)) (eNeg (eC (.int 1)))) (tgN 10))
  (sSeq (sSet (eIf (bin dGe (eVar 1) (eC (.int 2))) (eC (.int 1)) (eNeg (eC (.int 1)))) (tgN 11))
  (sSeq (sIf (bin dEq (eVar 2) (eC (.int 1))) (sSeq (sPar 4 5 (eCall fn_more_at (aCons (eCall fn_more_at (aCons (eVar 4) (aCons (eVar 7) (aCons (eVar 10) aNil)))) (aCons (eVar 8) (aCons (eVar 11) aNil)))) (eCall fn_more_at (aCons (eCall fn_more_at (aCons (eVar 5) (aCons (eVar 7) (aCons (eNeg (eVar 10)) aNil)))) (aCons (eVar 8) (aCons (eVar 11) aNil)))))
  (sRet (eTup (aCons (eTup (aCons (eVar 8) (aCons (eVar 7) (aCons (eVar 9) aNil)))) (aCons (eVar 4) (aCons (eVar 5) (aCons (eCall fn_flipped (aCons (eVar 6) (aCons (eVar 8) aNil))) aNil))))))) sNil)
  (sSeq (sPar 4 5 (eCall fn_more_at (aCons (eCall fn_more_at (aCons (eVar 4) (aCons (eVar 7) (aCons (eVar 10) aNil)))) (aCons (eVar 8) (aCons (eNeg (eVar 11)) aNil)))) (eCall fn_more_at (aCons (eCall fn_more_at (aCons (eVar 5) (aCons (eVar 7) (aCons (eVar 10) aNil)))) (aCons (eVar 8) (aCons (eVar 11) aNil)))))
  (sRet (eTup (aCons (eTup (aCons (eVar 8) (aCons (eVar 7) (aCons (eVar 9) aNil)))) (aCons (eVar 4) (aCons (eVar 5) (aCons (eCall fn_flipped (aCons (eVar 6) (aCons (eVar 7) aNil))) aNil))))))))))))
def fn_turned_in : FD := runD 12 3 f_turned_in
/-! ### moved_in -/
def f_moved_in : FS :=
  (sRet (eIf (bin dEq (bin dIx (eVar 1) (eC (.int 0))) (eC (.str "tip"))) (eCall fn_tipped_in (aCons (eVar 0) (aCons (bin dIx (eVar 1) (eC (.int 1))) aNil))) (eCall fn_turned_in (aCons (eVar 0) (aCons (bin dIx (eVar 1) (eC (.int 1))) (aCons (bin dIx (eVar 1) (eC (.int 2))) aNil))))))
def fn_moved_in : FD := runD 2 2 f_moved_in
/-! ### middle_in -/
def f_middle_in : FS :=
  (sSeq (sSet (call dSum (aCons (eOf (oComp (iZipF (aCons (bin dIx (eVar 1) (eC (.int 1))) (aCons (eVar 0) aNil))) (tgTup 2 (tgCons (tgN 3) (tgCons (tgN 4) tgNil))) cYes (bin dMul (eVar 3) (eVar 4)) [3, 4])) aNil)) (tgN 2))
  (sRet (eTup (aCons (eVar 2) (aCons (call dSum (aCons (eOf (oComp (iZipF (aCons (bin dIx (eVar 1) (eC (.int 2))) (aCons (eVar 0) aNil))) (tgTup 2 (tgCons (tgN 3) (tgCons (tgN 4) tgNil))) cYes (bin dMul (eVar 3) (eVar 4)) [3, 4])) aNil)) aNil)))))
def fn_middle_in : FD := runD 5 2 f_middle_in
/-! ### is_row_in -/
def f_is_row_in : FS :=
  (sRet (eAnd (eIsi .tuple (eVar 0)) (call dAll (aCons (eOf (oComp (iSeqD (eVar 0)) (tgN 1) cYes (eCall fn_is_move (aCons (eVar 1) aNil)) [1])) aNil))))
def fn_is_row_in : FD := runD 2 1 f_is_row_in
/-! ### sure_row -/
def f_sure_row : FS :=
  (sSeq (sSet (eCall (fn_tupled 8) (aCons (eVar 0) aNil)) (tgN 1))
  (sSeq (sIf (eNot (eCall fn_is_row_in (aCons (eVar 1) aNil))) sNever sNil)
  (sRet (eVar 1))))
def fn_sure_row : FD := runD 2 1 f_sure_row
/-! ### along_in -/
def f_along_in : FS :=
  (sSeq (sSetO 2 (oLst (aCons (eVar 0) aNil)))
  (sSeq (sFor (iSeqD (eVar 1)) (tgN 3) (sApp 2 (eCall fn_moved_in (aCons (eIxOwn 2 (eNeg (eC (.int 1)))) (aCons (eVar 3) aNil)))))
  (sRetO 2)))
def fn_along_in : FD := runD 4 2 f_along_in
/-! ### behind_in -/
def f_behind_in : FS :=
  (sSeq (sFor (iSeqD (eVar 1)) (tgN 2) (sSet (eCall fn_moved_in (aCons (eVar 0) (aCons (eVar 2) aNil))) (tgN 0)))
  (sRet (eVar 0)))
def fn_behind_in : FD := runD 3 2 f_behind_in
/-! ### is_row -/
def f_is_row : FS :=
  (sRet (eCall fn_is_row_in (aCons (eVar 0) aNil)))
def fn_is_row : FD := runD 1 1 f_is_row
/-! ### behind -/
def f_behind : FS :=
  (sSeq (sSet (eCall fn_sure_stand (aCons (eVar 0) aNil)) (tgN 2))
  (sRet (eCall fn_behind_in (aCons (eVar 2) (aCons (eCall fn_sure_row (aCons (eVar 1) aNil)) aNil)))))
def fn_behind : FD := runD 3 2 f_behind
/-! ### stands_along -/
def f_stands_along : FS :=
  (sSeq (sSet (eCall fn_sure_stand (aCons (eVar 0) aNil)) (tgN 2))
  (sRet (call dTuple (aCons (eCall fn_along_in (aCons (eVar 2) (aCons (eCall fn_sure_row (aCons (eVar 1) aNil)) aNil))) aNil))))
def fn_stands_along : FD := runD 3 2 f_stands_along
/-! ### shapes_along -/
def f_shapes_along : FS :=
  (sRet (call dTuple (aCons (eOf (oComp (iSeqD (eCall fn_stands_along (aCons (eVar 0) (aCons (eVar 1) aNil)))) (tgN 2) cYes (bin dIx (eVar 2) (eC (.int 0))) [2])) aNil)))
def fn_shapes_along : FD := runD 3 2 f_shapes_along
/-! ### middles_along -/
def f_middles_along : FS :=
  (sSeq (sSet (eCall fn_sure_chest (aCons (eVar 0) aNil)) (tgN 3))
  (sSeq (sSet (eCall fn_sure_stand (aCons (eVar 1) aNil)) (tgN 4))
  (sRet (call dTuple (aCons (eOf (oComp (iSeqD (eCall fn_along_in (aCons (eVar 4) (aCons (eCall fn_sure_row (aCons (eVar 2) aNil)) aNil)))) (tgN 5) cYes (eCall fn_middle_in (aCons (eVar 3) (aCons (eVar 5) aNil))) [5])) aNil)))))
def fn_middles_along : FD := runD 6 3 f_middles_along
/-! ### tips_alone -/
def f_tips_alone : FS :=
  (sRet (call dAll (aCons (eOf (oComp (iSeqD (eCall fn_sure_row (aCons (eVar 0) aNil))) (tgN 1) cYes (bin dEq (bin dIx (eVar 1) (eC (.int 0))) (eC (.str "tip"))) [1])) aNil)))
def fn_tips_alone : FD := runD 2 1 f_tips_alone
/-! ### turns_alone -/
def f_turns_alone : FS :=
  (sRet (call dAll (aCons (eOf (oComp (iSeqD (eCall fn_sure_row (aCons (eVar 0) aNil))) (tgN 1) cYes (bin dEq (bin dIx (eVar 1) (eC (.int 0))) (eC (.str "turn"))) [1])) aNil)))
def fn_turns_alone : FD := runD 2 1 f_turns_alone
/-! ### how_often -/
def f_how_often : FS :=
  (sSeq (sSet (eCall fn_sure_row (aCons (eVar 0) aNil)) (tgN 1))
  (sSeq (sSet (eOf (oComp (iRange (aCons (eC (.int 4)) aNil)) (tgN 5) cYes (call dLen (aCons (eOf (oComp (iSeqD (eVar 1)) (tgN 4) (bin dEq (eVar 4) (eTup (aCons (eC (.str "tip")) (aCons (eVar 5) aNil)))) (eVar 4) [4])) aNil)) [5])) (tgN 2))
  (sSeq (sSet (eOf (oComp (iSeqD (eTup (aCons (eC (.int 1)) (aCons (eNeg (eC (.int 1))) aNil)))) (tgN 6) cYes (call dLen (aCons (eOf (oComp (iSeqD (eVar 1)) (tgN 4) (eAnd (bin dEq (bin dIx (eVar 4) (eC (.int 0))) (eC (.str "turn"))) (bin dEq (bin dIx (eVar 4) (eC (.int 2))) (eVar 6))) (eVar 4) [4])) aNil)) [6])) (tgN 3))
  (sRet (call dTuple (aCons (bin dAdd (eVar 2) (eVar 3)) aNil))))))
def fn_how_often : FD := runD 7 1 f_how_often
/-! ### first_met -/
def f_first_met : FS :=
  (sSeq (sSet (eCall fn_sure_stand (aCons (eVar 0) aNil)) (tgN 3))
  (sSeq (sSet (eCall fn_sure_row (aCons (eVar 1) aNil)) (tgN 4))
  (sSeq (sSet (eCall fn_sure_stand (aCons (eVar 2) aNil)) (tgN 5))
  (sSeq (sSet (eOf (oComp (iEnumF (aCons (eCall fn_along_in (aCons (eVar 3) (aCons (eVar 4) aNil))) aNil)) (tgTup 2 (tgCons (tgN 7) (tgCons (tgN 8) tgNil))) (bin dEq (eVar 8) (eVar 5)) (eVar 7) [7, 8])) (tgN 6))
  (sRet (eIf (bin dNe (eVar 6) (eOf (oLst aNil))) (bin dIx (eVar 6) (eC (.int 0))) (eC .none)))))))
def fn_first_met : FD := runD 9 3 f_first_met
/-! ### _law_box -/
def f_law_box : FS :=
  (sSeq (sSet (eIf (bin dLt (eVar 1) (call dLen (aCons (eVar 0) aNil))) (bin dIx (eVar 0) (eVar 1)) (eC (.int 0))) (tgN 2))
  (sRetL (oLst (aCons (bin dMul (call dAbs (aCons (eVar 2) aNil)) (call dToInt (aCons (bin dGe (call dAbs (aCons (eVar 2) aNil)) (bin dPow (eC (.int 10)) (eC (.int 18)))) aNil))) (aCons (bin dAdd (bin dAdd (bin dMod (call dToInt (aCons (eVar 2) aNil)) (eC (.int 2305843009213693951))) (bin dMul (eC (.int 39373)) (eVar 1))) (eC (.int 3194008))) (aCons (eC (.int 0)) aNil))))))
def fn_law_box : FD := runD 3 2 f_law_box
/-! ### _law_take -/
def f_law_take : FS :=
  (sSeq (sIf (bin dGt (eIxOwn 0 (eC (.int 0))) (eC (.int 0))) (sSeq (sSet (bin dMod (call dToInt (aCons (eIxOwn 0 (eC (.int 0))) aNil)) (eVar 1)) (tgN 2))
  (sSeq (sSetI 0 (bin dDiv (eIxOwn 0 (eC (.int 0))) (eVar 1)) (eC (.int 0)))
  (sRet (eVar 2)))) sNil)
  (sSeq (sSetI 0 (bin dAdd (eIxOwn 0 (eC (.int 2))) (eC (.int 1))) (eC (.int 2)))
  (sSeq (sSet (bin dMod (call dToInt (aCons (bin dMul (bin dAdd (eIxOwn 0 (eC (.int 1))) (bin dMul (eC (.int 48271)) (eIxOwn 0 (eC (.int 2))))) (bin dAdd (eC (.int 39373)) (eIxOwn 0 (eC (.int 2))))) aNil)) (eC (.int 2147483647))) (tgN 3))
  (sSeq (sSet (bin dAdd (bin dMod (call dToInt (aCons (eVar 3) aNil)) (eC (.int 40009))) (eC (.int 7))) (tgN 4))
  (sSeq (sSet (bin dMod (call dToInt (aCons (bin dMul (bin dAdd (bin dAdd (eVar 3) (eIxOwn 0 (eC (.int 2)))) (bin dDiv (eIxOwn 0 (eC (.int 1))) (eC (.int 1000003)))) (eVar 4)) aNil)) (eC (.int 2147483629))) (tgN 5))
  (sRet (bin dMod (call dToInt (aCons (bin dDiv (bin dMod (call dToInt (aCons (bin dAdd (bin dMul (eVar 5) (eC (.int 48271))) (eVar 3)) aNil)) (eC (.int 2147483587))) (eC (.int 64))) aNil)) (eVar 1))))))))
def fn_law_take : FD := runD 6 2 f_law_take
/-! ### _law_cells -/
def f_law_cells : FS :=
  (sSeq (sSetO 2 (oOr (oList (aCons (eSl (eVar 0) oNone (oSome (eVar 1))) aNil)) (oLst (aCons (eC (.int 0)) aNil))))
  (sSeq (sFor (iEnumF (aCons (eSl (eVar 0) (oSome (eVar 1)) (oSome (eC (.int 63)))) aNil)) (tgTup 2 (tgCons (tgN 3) (tgCons (tgN 4) tgNil))) (sSeq (sSet (bin dMod (call dToInt (aCons (eVar 3) aNil)) (eVar 1)) (tgN 5))
  (sSetI 2 (bin dAdd (eIxOwn 2 (eVar 5)) (bin dMul (eVar 4) (bin dAdd (eVar 3) (eC (.int 2))))) (eVar 5))))
  (sRetO 2)))
def fn_law_cells : FD := runD 6 2 f_law_cells
/-! ### _law_of -/
def f_law_of : FS :=
  (sRet (bin dIx (eVar 1) (eCallO 0 fn_law_take (aCons (call dLen (aCons (eVar 1) aNil)) aNil))))
def fn_law_of : FD := runD 2 2 f_law_of
/-! ### _law_lists -/
def f_law_lists (self : FD) : FS :=
  (sRet (eIf (eIsi2 .list .tuple (eVar 0)) (eOf (oComp (iSeqD (eVar 0)) (tgN 1) cYes (eCall self (aCons (eVar 1) aNil)) [1])) (eVar 0)))
def fn_law_lists : Nat → FD
  | 0 => fun _ => none
  | n + 1 => runD 2 1 (f_law_lists (fn_law_lists n))
/-! ### _law_same -/
def f_law_same (self : FD) : FS :=
  (sSeq (sIf (eIsi2 .list .tuple (eVar 1)) (sSeq (sIf (eOr (bin dNe (eIsi .list (eVar 0)) (eIsi .list (eVar 1))) (bin dNe (eIsi .tuple (eVar 0)) (eIsi .tuple (eVar 1)))) (sRet (eC (.bool false))) sNil)
  (sRet (eAnd (bin dEq (call dLen (aCons (eVar 0) aNil)) (call dLen (aCons (eVar 1) aNil))) (call dAll (aCons (eOf (oComp (iZipF (aCons (eVar 0) (aCons (eVar 1) aNil))) (tgTup 2 (tgCons (tgN 2) (tgCons (tgN 3) tgNil))) cYes (eCall self (aCons (eVar 2) (aCons (eVar 3) aNil))) [2, 3])) aNil))))) sNil)
  (sSeq (sIf (eOr (eIsN (eVar 1)) (eIsi2 .bool .str (eVar 1))) (sRet (eAnd (bin dEq (eVar 0) (eVar 1)) (eAnd (bin dEq (eIsi .bool (eVar 0)) (eIsi .bool (eVar 1))) (bin dEq (eIsN (eVar 0)) (eIsN (eVar 1)))))) sNil)
  (sRet (eAnd (eIsi .int (eVar 0)) (eAnd (eNot (eIsi .bool (eVar 0))) (bin dEq (eVar 0) (eVar 1)))))))
def fn_law_same : Nat → FD
  | 0 => fun _ => none
  | n + 1 => runD 4 2 (f_law_same (fn_law_same n))
/-! ### _law_home -/
def f_law_home : FS :=
  (sRet (eTup (aCons (eTup (aCons (eC (.int 0)) (aCons (eC (.int 1)) (aCons (eC (.int 2)) aNil)))) (aCons (eTup (aCons (eC (.int 0)) (aCons (eC (.int 0)) (aCons (eC (.int 0)) aNil)))) (aCons (eTup (aCons (eC (.int 0)) (aCons (eC (.int 0)) (aCons (eC (.int 0)) aNil)))) (aCons (eTup (aCons (eC (.int 1)) (aCons (eC (.int 1)) (aCons (eC (.int 1)) aNil)))) aNil))))))
def fn_law_home : FD := runD 1 0 f_law_home
/-! ### _law_poses -/
def f_law_poses : FS :=
  (sRet (eOf (oLst (aCons (eTup (aCons (eC (.int 0)) (aCons (eC (.int 1)) (aCons (eC (.int 2)) aNil)))) (aCons (eTup (aCons (eC (.int 2)) (aCons (eC (.int 1)) (aCons (eC (.int 0)) aNil)))) (aCons (eTup (aCons (eC (.int 2)) (aCons (eC (.int 0)) (aCons (eC (.int 1)) aNil)))) (aCons (eTup (aCons (eC (.int 1)) (aCons (eC (.int 0)) (aCons (eC (.int 2)) aNil)))) (aCons (eTup (aCons (eC (.int 1)) (aCons (eC (.int 2)) (aCons (eC (.int 0)) aNil)))) (aCons (eTup (aCons (eC (.int 0)) (aCons (eC (.int 2)) (aCons (eC (.int 1)) aNil)))) aNil)))))))))
def fn_law_poses : FD := runD 1 0 f_law_poses
/-! ### _law_tips -/
def f_law_tips : FS :=
  (sRet (eOf (oComp (iRange (aCons (eC (.int 4)) aNil)) (tgN 1) cYes (eTup (aCons (eC (.str "tip")) (aCons (eVar 1) aNil))) [1])))
def fn_law_tips : FD := runD 2 0 f_law_tips
/-! ### _law_turns -/
def f_law_turns : FS :=
  (sRet (bin dAdd (eOf (oComp (iRange (aCons (eC (.int 4)) aNil)) (tgN 1) cYes (eTup (aCons (eC (.str "turn")) (aCons (eVar 1) (aCons (eC (.int 1)) aNil)))) [1])) (eOf (oComp (iRange (aCons (eC (.int 4)) aNil)) (tgN 1) cYes (eTup (aCons (eC (.str "turn")) (aCons (eVar 1) (aCons (eNeg (eC (.int 1))) aNil)))) [1]))))
def fn_law_turns : FD := runD 2 0 f_law_turns
/-! ### _law_walk -/
def f_law_walk : FS :=
  (sRet (call dTuple (aCons (eOf (oComp (iRange (aCons (eVar 1) aNil)) (tgN 3) cYes (eCallO 0 fn_law_of (aCons (eVar 2) aNil)) [3])) aNil)))
def fn_law_walk : FD := runD 4 3 f_law_walk
/-! ### _law_trunk -/
def f_law_trunk : FS :=
  (sSeq (sSetO 1 (oComp (iRange (aCons (eC (.int 3)) aNil)) (tgN 2) cYes (bin dAdd (eC (.int 1)) (eCallO 0 fn_law_take (aCons (eC (.int 7)) aNil))) [2]))
  (sSeq (sIf (bin dEq (eCallO 0 fn_law_take (aCons (eC (.int 4)) aNil)) (eC (.int 0))) (sSetI 1 (eIxOwn 1 (eCallO 0 fn_law_take (aCons (eC (.int 2)) aNil))) (eC (.int 2))) sNil)
  (sRet (eTupOwn 1))))
def fn_law_trunk : FD := runD 3 1 f_law_trunk
/-! ### _law_box_of -/
def f_law_box_of : FS :=
  (sSeq (sSet (eVar 1) (tgTup 4 (tgCons (tgN 2) (tgCons (tgN 3) (tgCons (tgN 4) (tgCons (tgN 5) tgNil))))))
  (sSeq (sSet (call dSum (aCons (eOf (oComp (iZipF (aCons (eVar 3) (aCons (eVar 0) aNil))) (tgTup 2 (tgCons (tgN 12) (tgCons (tgN 13) tgNil))) cYes (bin dMul (eVar 12) (eVar 13)) [12, 13])) aNil)) (tgN 6))
  (sSeq (sSet (call dSum (aCons (eOf (oComp (iZipF (aCons (eVar 4) (aCons (eVar 0) aNil))) (tgTup 2 (tgCons (tgN 12) (tgCons (tgN 13) tgNil))) cYes (bin dMul (eVar 12) (eVar 13)) [12, 13])) aNil)) (tgN 7))
  (sSeq (sSetO 8 (oLst (aCons (eC .none) (aCons (eC .none) (aCons (eC .none) aNil)))))
  (sSeq (sFor (iEnumF (aCons (eVar 2) aNil)) (tgTup 2 (tgCons (tgN 9) (tgCons (tgN 10) tgNil))) (sSeq (sSetO 11 (oLst (aCons (eC (.int 0)) (aCons (eC (.int 0)) (aCons (eC (.int 0)) aNil)))))
  (sSeq (sSetI 11 (bin dIx (eVar 5) (eVar 10)) (eVar 9))
  (sSetI 8 (eTupOwn 11) (eVar 10)))))
  (sRet (eTup (aCons (eTup (aCons (eVar 6) (aCons (eVar 7) (aCons (bin dIx (eVar 0) (bin dIx (eVar 2) (eC (.int 2)))) aNil)))) (aCons (eTupOwn 8) aNil)))))))))
def fn_law_box_of : FD := runD 14 2 f_law_box_of
/-! ### _law_half -/
def f_law_half : FS :=
  (sRet (call dSum (aCons (eOf (oComp (iRange (aCons (eC (.int 3)) aNil)) (tgN 3) (bin dNe (bin dIx (bin dIx (eVar 1) (eVar 3)) (eVar 2)) (eC (.int 0))) (bin dIx (eVar 0) (eVar 3)) [3])) aNil)))
def fn_law_half : FD := runD 4 3 f_law_half
/-! ### _law_rolled -/
def f_law_rolled : FS :=
  (sSeq (sSet (eVar 1) (tgTup 3 (tgCons (tgN 2) (tgCons (tgN 3) (tgCons (tgN 4) tgNil)))))
  (sRet (bin dIx (eOf (oLst (aCons (eTup (aCons (eVar 4) (aCons (eVar 3) (aCons (eNeg (eVar 2)) aNil)))) (aCons (eTup (aCons (eVar 2) (aCons (eVar 4) (aCons (eNeg (eVar 3)) aNil)))) (aCons (eTup (aCons (eNeg (eVar 4)) (aCons (eVar 3) (aCons (eVar 2) aNil)))) (aCons (eTup (aCons (eVar 2) (aCons (eNeg (eVar 4)) (aCons (eVar 3) aNil)))) aNil)))))) (eVar 0))))
def fn_law_rolled : FD := runD 5 2 f_law_rolled
/-! ### _law_round -/
def f_law_round : FS :=
  (sSeq (sSet (eVar 1) (tgTup 3 (tgCons (tgN 2) (tgCons (tgN 3) (tgCons (tgN 4) tgNil)))))
  (sRet (eTup (aCons (bin dMul (eNeg (eVar 0)) (eVar 3)) (aCons (bin dMul (eVar 0) (eVar 2)) (aCons (eVar 4) aNil))))))
def fn_law_round : FD := runD 5 2 f_law_round
/-! ### _law_box_step -/
def f_law_box_step : FS :=
  (sSeq (sSet (eVar 1) (tgTup 2 (tgCons (tgN 3) (tgCons (tgN 4) tgNil))))
  (sSeq (sPar 5 6 (eCall fn_law_half (aCons (eVar 0) (aCons (eVar 4) (aCons (eC (.int 0)) aNil)))) (eCall fn_law_half (aCons (eVar 0) (aCons (eVar 4) (aCons (eC (.int 1)) aNil)))))
  (sSeq (sIf (bin dEq (bin dIx (eVar 2) (eC (.int 0))) (eC (.str "tip"))) (sSeq (sSet (bin dIx (eOf (oLst (aCons (eTup (aCons (eVar 5) (aCons (eC (.int 0)) aNil))) (aCons (eTup (aCons (eC (.int 0)) (aCons (eVar 6) aNil))) (aCons (eTup (aCons (eNeg (eVar 5)) (aCons (eC (.int 0)) aNil))) (aCons (eTup (aCons (eC (.int 0)) (aCons (eNeg (eVar 6)) aNil))) aNil)))))) (bin dIx (eVar 2) (eC (.int 1)))) (tgTup 2 (tgCons (tgN 7) (tgCons (tgN 8) tgNil))))
  (sSeq (sSet (eCall fn_law_rolled (aCons (bin dIx (eVar 2) (eC (.int 1))) (aCons (eTup (aCons (eNeg (eVar 7)) (aCons (eNeg (eVar 8)) (aCons (bin dIx (eVar 3) (eC (.int 2))) aNil)))) aNil))) (tgN 9))
  (sSeq (sSet (call dTuple (aCons (eOf (oComp (iSeqD (eVar 4)) (tgN 11) cYes (eCall fn_law_rolled (aCons (bin dIx (eVar 2) (eC (.int 1))) (aCons (eVar 11) aNil))) [11])) aNil)) (tgN 10))
  (sRet (eTup (aCons (eTup (aCons (bin dAdd (bin dAdd (bin dIx (eVar 3) (eC (.int 0))) (eVar 7)) (bin dIx (eVar 9) (eC (.int 0)))) (aCons (bin dAdd (bin dAdd (bin dIx (eVar 3) (eC (.int 1))) (eVar 8)) (bin dIx (eVar 9) (eC (.int 1)))) (aCons (bin dIx (eVar 9) (eC (.int 2))) aNil)))) (aCons (eVar 10) aNil))))))) sNil)
  (sSeq (sSet (eIf (bin dIn (bin dIx (eVar 2) (eC (.int 1))) (eTup (aCons (eC (.int 1)) (aCons (eC (.int 2)) aNil)))) (eVar 5) (eNeg (eVar 5))) (tgN 7))
  (sSeq (sSet (eIf (bin dIn (bin dIx (eVar 2) (eC (.int 1))) (eTup (aCons (eC (.int 2)) (aCons (eC (.int 3)) aNil)))) (eVar 6) (eNeg (eVar 6))) (tgN 8))
  (sSeq (sSet (eCall fn_law_round (aCons (bin dIx (eVar 2) (eC (.int 2))) (aCons (eTup (aCons (eNeg (eVar 7)) (aCons (eNeg (eVar 8)) (aCons (eC (.int 0)) aNil)))) aNil))) (tgN 9))
  (sSeq (sSet (call dTuple (aCons (eOf (oComp (iSeqD (eVar 4)) (tgN 11) cYes (eCall fn_law_round (aCons (bin dIx (eVar 2) (eC (.int 2))) (aCons (eVar 11) aNil))) [11])) aNil)) (tgN 10))
  (sRet (eTup (aCons (eTup (aCons (bin dAdd (bin dAdd (bin dIx (eVar 3) (eC (.int 0))) (eVar 7)) (bin dIx (eVar 9) (eC (.int 0)))) (aCons (bin dAdd (bin dAdd (bin dIx (eVar 3) (eC (.int 1))) (eVar 8)) (bin dIx (eVar 9) (eC (.int 1)))) (aCons (bin dIx (eVar 3) (eC (.int 2))) aNil)))) (aCons (eVar 10) aNil)))))))))))
def fn_law_box_step : FD := runD 12 3 f_law_box_step
/-! ### _law_digits_of -/
def f_law_digits_of : FS :=
  (sSeq (sSetO 1 (oLst aNil))
  (sSeq (sFor (iRange (aCons (eC (.int 3)) aNil)) (tgN 2) (sSeq (sSet (bin dSub (bin dMod (bin dAdd (eVar 0) (eC (.int 5000))) (eC (.int 10000))) (eC (.int 5000))) (tgN 3))
  (sSeq (sApp 1 (eVar 3))
  (sSet (bin dDiv (bin dSub (eVar 0) (eVar 3)) (eC (.int 10000))) (tgN 0)))))
  (sRet (eTupOwn 1))))
def fn_law_digits_of : FD := runD 4 1 f_law_digits_of
/-! ### _law_spot_of -/
def f_law_spot_of : FS :=
  (sSeq (sSet (eVar 0) (tgTup 2 (tgCons (tgN 1) (tgCons (tgN 2) tgNil))))
  (sSeq (sParO 3 4 (oLst (aCons (eC (.int 0)) (aCons (eC (.int 0)) (aCons (eC (.int 0)) aNil)))) (oLst (aCons (eC (.int 0)) (aCons (eC (.int 0)) (aCons (eC (.int 0)) aNil)))))
  (sSeq (sFor (iEnumF (aCons (eVar 2) aNil)) (tgTup 2 (tgCons (tgN 5) (tgCons (tgN 6) tgNil))) (sSeq (sSet (bin dIx (eOf (oComp (iRange (aCons (eC (.int 3)) aNil)) (tgN 8) (bin dNe (bin dIx (eVar 6) (eVar 8)) (eC (.int 0))) (eVar 8) [8])) (eC (.int 0))) (tgN 7))
  (sSeq (sSetI 3 (eVar 5) (eVar 7))
  (sSetI 4 (bin dIx (eVar 6) (eVar 7)) (eVar 5)))))
  (sRet (eTup (aCons (eTupOwn 3) (aCons (eCall fn_law_digits_of (aCons (bin dIx (eVar 1) (eC (.int 0))) aNil)) (aCons (eCall fn_law_digits_of (aCons (bin dIx (eVar 1) (eC (.int 1))) aNil)) (aCons (eTupOwn 4) aNil)))))))))
def fn_law_spot_of : FD := runD 9 1 f_law_spot_of
/-! ### _law_boxed -/
def f_law_boxed : FS :=
  (sSeq (sSet (eTup (aCons (eC (.int 1)) (aCons (bin dPow (eC (.int 10)) (eC (.int 4))) (aCons (bin dPow (eC (.int 10)) (eC (.int 8))) aNil)))) (tgN 2))
  (sSeq (sSet (eCall fn_law_box_of (aCons (eVar 2) (aCons (eVar 0) aNil))) (tgN 3))
  (sSeq (sSetO 4 (oLst (aCons (eVar 0) aNil)))
  (sSeq (sFor (iSeqD (eVar 1)) (tgN 5) (sSeq (sSet (eCall fn_law_box_step (aCons (eVar 2) (aCons (eVar 3) (aCons (eVar 5) aNil)))) (tgN 3))
  (sApp 4 (eCall fn_law_spot_of (aCons (eVar 3) aNil)))))
  (sRet (eTupOwn 4))))))
def fn_law_boxed : FD := runD 6 2 f_law_boxed
/-! ### _law_all_steps -/
def f_law_all_steps : FS :=
  (sRet (bin dAdd (eCall fn_law_tips aNil) (eCall fn_law_turns aNil)))
def fn_law_all_steps : FD := runD 1 0 f_law_all_steps
/-! ### _law_drawn_spot -/
def f_law_drawn_spot : FS :=
  (sSeq (sSet (eCallO 0 fn_law_of (aCons (eCall fn_law_poses aNil) aNil)) (tgN 1))
  (sSeq (sSet (call dTuple (aCons (eOf (oComp (iRange (aCons (eC (.int 3)) aNil)) (tgN 4) cYes (bin dSub (eCallO 0 fn_law_take (aCons (eC (.int 41)) aNil)) (eC (.int 20))) [4])) aNil)) (tgN 2))
  (sSeq (sSet (call dTuple (aCons (eOf (oComp (iRange (aCons (eC (.int 3)) aNil)) (tgN 4) cYes (bin dSub (eCallO 0 fn_law_take (aCons (eC (.int 41)) aNil)) (eC (.int 20))) [4])) aNil)) (tgN 3))
  (sRet (eTup (aCons (eVar 1) (aCons (eVar 2) (aCons (eVar 3) (aCons (call dTuple (aCons (eOf (oComp (iRange (aCons (eC (.int 3)) aNil)) (tgN 4) cYes (bin dSub (eC (.int 1)) (bin dMul (eC (.int 2)) (eCallO 0 fn_law_take (aCons (eC (.int 2)) aNil)))) [4])) aNil)) aNil)))))))))
def fn_law_drawn_spot : FD := runD 5 1 f_law_drawn_spot
/-! ### _law_mixed -/
def f_law_mixed : FS :=
  (sSeq (sSet (eCallO 0 fn_law_of (aCons (eOf (oLst (aCons (eCall fn_law_tips aNil) (aCons (eCall fn_law_turns aNil) (aCons (eCall fn_law_all_steps aNil) (aCons (eCall fn_law_all_steps aNil) aNil)))))) aNil)) (tgN 2))
  (sRet (eCallO 0 fn_law_walk (aCons (eCallO 0 fn_law_take (aCons (bin dAdd (eVar 1) (eC (.int 1))) aNil)) (aCons (eVar 2) aNil)))))
def fn_law_mixed : FD := runD 3 2 f_law_mixed
/-! ### _law_by_hand_right -/
def f_law_by_hand_right : FS :=
  (sSeq (sSet (eTup (aCons (eCall fn_law_home aNil) (aCons (eTup (aCons (eTup (aCons (eC (.str "tip")) (aCons (eC (.int 0)) aNil))) aNil)) (aCons (eTup (aCons (eTup (aCons (eC (.str "turn")) (aCons (eC (.int 2)) (aCons (eC (.int 1)) aNil)))) aNil)) aNil)))) (tgTup 3 (tgCons (tgN 0) (tgCons (tgN 1) (tgCons (tgN 2) tgNil)))))
  (sSeq (sSet (eOf (oLst (aCons (eCall fn_behind (aCons (eVar 0) (aCons (eVar 1) aNil))) (aCons (eCall fn_behind (aCons (eVar 0) (aCons (bin dMul (eVar 1) (eC (.int 2))) aNil))) (aCons (eCall fn_behind (aCons (eVar 0) (aCons (eTup (aCons (eTup (aCons (eC (.str "tip")) (aCons (eC (.int 1)) aNil))) (aCons (eTup (aCons (eC (.str "tip")) (aCons (eC (.int 2)) aNil))) aNil))) aNil))) (aCons (eCall fn_behind (aCons (eVar 0) (aCons (eVar 2) aNil))) (aCons (eCall fn_behind (aCons (eVar 0) (aCons (eTup aNil) aNil))) aNil))))))) (tgN 3))
  (sSeq (sSet (eOf (oLst (aCons (eTup (aCons (eTup (aCons (eC (.int 2)) (aCons (eC (.int 1)) (aCons (eC (.int 0)) aNil)))) (aCons (eTup (aCons (eC (.int 1)) (aCons (eC (.int 0)) (aCons (eC (.int 1)) aNil)))) (aCons (eTup (aCons (eC (.int 0)) (aCons (eC (.int 0)) (aCons (eC (.int 0)) aNil)))) (aCons (eTup (aCons (eNeg (eC (.int 1))) (aCons (eC (.int 1)) (aCons (eC (.int 1)) aNil)))) aNil))))) (aCons (eTup (aCons (eTup (aCons (eC (.int 0)) (aCons (eC (.int 1)) (aCons (eC (.int 2)) aNil)))) (aCons (eTup (aCons (eC (.int 2)) (aCons (eC (.int 0)) (aCons (eC (.int 2)) aNil)))) (aCons (eTup (aCons (eC (.int 0)) (aCons (eC (.int 0)) (aCons (eC (.int 0)) aNil)))) (aCons (eTup (aCons (eNeg (eC (.int 1))) (aCons (eC (.int 1)) (aCons (eNeg (eC (.int 1))) aNil)))) aNil))))) (aCons (eTup (aCons (eTup (aCons (eC (.int 1)) (aCons (eC (.int 2)) (aCons (eC (.int 0)) aNil)))) (aCons (eTup (aCons (eNeg (eC (.int 1))) (aCons (eNeg (eC (.int 1))) (aCons (eC (.int 0)) aNil)))) (aCons (eTup (aCons (eC (.int 0)) (aCons (eC (.int 1)) (aCons (eC (.int 1)) aNil)))) (aCons (eTup (aCons (eC (.int 1)) (aCons (eC (.int 1)) (aCons (eC (.int 1)) aNil)))) aNil))))) aNil))))) (tgN 4))
  (sSeq (sSet (bin dAdd (eVar 4) (eOf (oLst (aCons (eTup (aCons (eTup (aCons (eC (.int 1)) (aCons (eC (.int 0)) (aCons (eC (.int 2)) aNil)))) (aCons (eTup (aCons (eC (.int 1)) (aCons (eC (.int 1)) (aCons (eC (.int 0)) aNil)))) (aCons (eTup (aCons (eNeg (eC (.int 1))) (aCons (eC (.int 1)) (aCons (eC (.int 0)) aNil)))) (aCons (eTup (aCons (eC (.int 1)) (aCons (eNeg (eC (.int 1))) (aCons (eC (.int 1)) aNil)))) aNil))))) (aCons (eVar 0) aNil))))) (tgN 4))
  (sSeq (sSet (bin dAdd (eVar 3) (eOf (oComp (iSeqD (eCall fn_law_turns aNil)) (tgN 7) cYes (eSl (eCall fn_behind (aCons (eVar 0) (aCons (eTup (aCons (eVar 7) aNil)) aNil))) (oSome (eC (.int 1))) (oSome (eC (.int 3)))) [7]))) (tgN 3))
  (sSeq (sSet (bin dAdd (eVar 4) (eOf (oLst (aCons (eTup (aCons (eTup (aCons (eNeg (eC (.int 1))) (aCons (eNeg (eC (.int 1))) (aCons (eC (.int 0)) aNil)))) (aCons (eTup (aCons (eC (.int 1)) (aCons (eNeg (eC (.int 1))) (aCons (eC (.int 0)) aNil)))) aNil))) (aCons (eTup (aCons (eTup (aCons (eC (.int 1)) (aCons (eNeg (eC (.int 1))) (aCons (eC (.int 0)) aNil)))) (aCons (eTup (aCons (eNeg (eC (.int 1))) (aCons (eNeg (eC (.int 1))) (aCons (eC (.int 0)) aNil)))) aNil))) (aCons (eTup (aCons (eTup (aCons (eC (.int 1)) (aCons (eC (.int 1)) (aCons (eC (.int 0)) aNil)))) (aCons (eTup (aCons (eNeg (eC (.int 1))) (aCons (eC (.int 1)) (aCons (eC (.int 0)) aNil)))) aNil))) (aCons (eTup (aCons (eTup (aCons (eNeg (eC (.int 1))) (aCons (eC (.int 1)) (aCons (eC (.int 0)) aNil)))) (aCons (eTup (aCons (eC (.int 1)) (aCons (eC (.int 1)) (aCons (eC (.int 0)) aNil)))) aNil))) aNil))))))) (tgN 4))
  (sSeq (sSet (bin dAdd (eVar 4) (eOf (oLst (aCons (eTup (aCons (eTup (aCons (eNeg (eC (.int 1))) (aCons (eC (.int 1)) (aCons (eC (.int 0)) aNil)))) (aCons (eTup (aCons (eNeg (eC (.int 1))) (aCons (eNeg (eC (.int 1))) (aCons (eC (.int 0)) aNil)))) aNil))) (aCons (eTup (aCons (eTup (aCons (eC (.int 1)) (aCons (eC (.int 1)) (aCons (eC (.int 0)) aNil)))) (aCons (eTup (aCons (eC (.int 1)) (aCons (eNeg (eC (.int 1))) (aCons (eC (.int 0)) aNil)))) aNil))) (aCons (eTup (aCons (eTup (aCons (eC (.int 1)) (aCons (eNeg (eC (.int 1))) (aCons (eC (.int 0)) aNil)))) (aCons (eTup (aCons (eC (.int 1)) (aCons (eC (.int 1)) (aCons (eC (.int 0)) aNil)))) aNil))) (aCons (eTup (aCons (eTup (aCons (eNeg (eC (.int 1))) (aCons (eNeg (eC (.int 1))) (aCons (eC (.int 0)) aNil)))) (aCons (eTup (aCons (eNeg (eC (.int 1))) (aCons (eC (.int 1)) (aCons (eC (.int 0)) aNil)))) aNil))) aNil))))))) (tgN 4))
  (sSeq (sSet (bin dAdd (eVar 3) (eOf (oLst (aCons (eCall fn_shapes_along (aCons (eVar 0) (aCons (eTup (aCons (eTup (aCons (eC (.str "tip")) (aCons (eC (.int 0)) aNil))) (aCons (eTup (aCons (eC (.str "tip")) (aCons (eC (.int 1)) aNil))) (aCons (eTup (aCons (eC (.str "tip")) (aCons (eC (.int 0)) aNil))) (aCons (eTup (aCons (eC (.str "tip")) (aCons (eC (.int 1)) aNil))) aNil))))) aNil))) (aCons (eCall fn_middles_along (aCons (eTup (aCons (eC (.int 2)) (aCons (eC (.int 3)) (aCons (eC (.int 5)) aNil)))) (aCons (eVar 0) (aCons (eTup (aCons (eTup (aCons (eC (.str "tip")) (aCons (eC (.int 0)) aNil))) (aCons (eTup (aCons (eC (.str "tip")) (aCons (eC (.int 0)) aNil))) (aCons (eTup (aCons (eC (.str "turn")) (aCons (eC (.int 0)) (aCons (eC (.int 1)) aNil)))) aNil)))) aNil)))) aNil))))) (tgN 3))
  (sSeq (sSet (bin dAdd (eVar 4) (eOf (oLst (aCons (eTup (aCons (eTup (aCons (eC (.int 0)) (aCons (eC (.int 1)) (aCons (eC (.int 2)) aNil)))) (aCons (eTup (aCons (eC (.int 2)) (aCons (eC (.int 1)) (aCons (eC (.int 0)) aNil)))) (aCons (eTup (aCons (eC (.int 2)) (aCons (eC (.int 0)) (aCons (eC (.int 1)) aNil)))) (aCons (eTup (aCons (eC (.int 1)) (aCons (eC (.int 0)) (aCons (eC (.int 2)) aNil)))) (aCons (eTup (aCons (eC (.int 1)) (aCons (eC (.int 2)) (aCons (eC (.int 0)) aNil)))) aNil)))))) (aCons (eTup (aCons (eTup (aCons (eC (.int 0)) (aCons (eC (.int 0)) aNil))) (aCons (eTup (aCons (eC (.int 7)) (aCons (eC (.int 0)) aNil))) (aCons (eTup (aCons (eC (.int 14)) (aCons (eC (.int 0)) aNil))) (aCons (eTup (aCons (eC (.int 9)) (aCons (eNeg (eC (.int 1))) aNil))) aNil))))) aNil))))) (tgN 4))
  (sSeq (sSet (bin dAdd (bin dAdd (eVar 1) (bin dMul (eVar 2) (eC (.int 2)))) (eTup (aCons (eTup (aCons (eC (.str "tip")) (aCons (eC (.int 2)) aNil))) (aCons (eTup (aCons (eC (.str "turn")) (aCons (eC (.int 0)) (aCons (eNeg (eC (.int 1))) aNil)))) aNil)))) (tgN 5))
  (sSeq (sSet (bin dAdd (eVar 3) (eOf (oLst (aCons (eCall fn_tips_alone (aCons (eVar 1) aNil)) (aCons (eCall fn_tips_alone (aCons (eVar 5) aNil)) (aCons (eCall fn_turns_alone (aCons (eVar 2) aNil)) (aCons (eCall fn_turns_alone (aCons (eTup aNil) aNil)) (aCons (eCallK fn_tips_alone [0] (aCons (eOf (oLst aNil)) aNil)) (aCons (eCall fn_how_often (aCons (eVar 5) aNil)) (aCons (eCall fn_how_often (aCons (eTup aNil) aNil)) (aCons (call dLen (aCons (eCall fn_stands_along (aCons (eVar 0) (aCons (eVar 5) aNil))) aNil)) aNil))))))))))) (tgN 3))
  (sSeq (sSet (bin dAdd (eVar 4) (eOf (oLst (aCons (eC (.bool true)) (aCons (eC (.bool false)) (aCons (eC (.bool true)) (aCons (eC (.bool true)) (aCons (eC (.bool true)) (aCons (eTup (aCons (eC (.int 1)) (aCons (eC (.int 0)) (aCons (eC (.int 1)) (aCons (eC (.int 0)) (aCons (eC (.int 2)) (aCons (eC (.int 1)) aNil))))))) (aCons (bin dMul (eTup (aCons (eC (.int 0)) aNil)) (eC (.int 6))) (aCons (eC (.int 6)) aNil))))))))))) (tgN 4))
  (sSeq (sSet (bin dAdd (eVar 3) (eOf (oLst (aCons (eCall fn_first_met (aCons (eVar 0) (aCons (bin dMul (eVar 1) (eC (.int 4))) (aCons (eCall fn_behind (aCons (eVar 0) (aCons (bin dMul (eVar 1) (eC (.int 2))) aNil))) aNil)))) (aCons (eCall fn_first_met (aCons (eVar 0) (aCons (eVar 1) (aCons (eVar 0) aNil)))) (aCons (eCall fn_first_met (aCons (eVar 0) (aCons (bin dMul (eVar 2) (eC (.int 4))) (aCons (eCall fn_behind (aCons (eVar 0) (aCons (eVar 1) aNil))) aNil)))) (aCons (eCall fn_first_met (aCons (eVar 0) (aCons (bin dAdd (eVar 1) (eTup (aCons (eTup (aCons (eC (.str "tip")) (aCons (eC (.int 2)) aNil))) aNil))) (aCons (eVar 0) aNil)))) aNil))))))) (tgN 3))
  (sSeq (sSet (bin dAdd (eVar 4) (eOf (oLst (aCons (eC (.int 2)) (aCons (eC (.int 0)) (aCons (eC .none) (aCons (eC (.int 0)) aNil))))))) (tgN 4))
  (sSeq (sSet (eOf (oLst (aCons (eTup aNil) (aCons (eVar 1) (aCons (eVar 5) (aCons (eOf (oList (aCons (eVar 1) aNil))) (aCons (eTup (aCons (eTup (aCons (eC (.str "tip")) (aCons (eC (.int 4)) aNil))) aNil)) (aCons (eTup (aCons (eTup (aCons (eC (.str "turn")) (aCons (eC (.int 0)) (aCons (eC (.int 0)) aNil)))) aNil)) (aCons (eTup (aCons (eTup (aCons (eC (.str "turn")) (aCons (eC (.int 0)) (aCons (eC (.int 1)) (aCons (eC (.int 0)) aNil))))) aNil)) (aCons (eTup (aCons (eC (.str "tip")) (aCons (eC (.int 0)) aNil))) (aCons (eTup (aCons (eOf (oLst (aCons (eC (.str "tip")) (aCons (eC (.int 0)) aNil)))) aNil)) (aCons (eTup (aCons (eTup (aCons (eC (.str "tip")) (aCons (eC (.bool true)) aNil))) aNil)) (aCons (eTup (aCons (eTup (aCons (eC (.str "Tip")) (aCons (eC (.int 0)) aNil))) aNil)) (aCons (eC .none) (aCons (eC (.str "tip")) (aCons (eTup (aCons (eTup aNil) aNil)) (aCons (eTup (aCons (eTup (aCons (eC (.str "turn")) (aCons (eC (.int 0)) (aCons (eC (.bool true)) aNil)))) aNil)) aNil))))))))))))))))) (tgN 6))
  (sRet (eCall (fn_law_same 8) (aCons (bin dAdd (eVar 3) (eOf (oLst (aCons (eOf (oComp (iSeqD (eVar 6)) (tgN 7) cYes (eCall fn_is_row (aCons (eVar 7) aNil)) [7])) aNil)))) (aCons (bin dAdd (eVar 4) (eOf (oLst (aCons (bin dAdd (eOf (oLst (aCons (eC (.bool true)) (aCons (eC (.bool true)) (aCons (eC (.bool true)) aNil))))) (eOf (oRep (oLst (aCons (eC (.bool false)) aNil)) (eC (.int 12))))) aNil)))) aNil)))))))))))))))))))
def fn_law_by_hand_right : FD := runD 8 0 f_law_by_hand_right
/-! ### _law_right -/
def f_law_right : FS :=
  (sSeq (sSet (eTup (aCons (eCallO 0 fn_law_drawn_spot aNil) (aCons (eCallO 0 fn_law_mixed (aCons (eC (.int 20)) aNil)) (aCons (eCallO 0 fn_law_trunk aNil) aNil)))) (tgTup 3 (tgCons (tgN 1) (tgCons (tgN 2) (tgCons (tgN 3) tgNil)))))
  (sSeq (sPar 4 5 (eCall fn_law_boxed (aCons (eVar 1) (aCons (eVar 2) aNil))) (eCall (fn_law_lists 8) (aCons (eVar 2) aNil)))
  (sSeq (sSet (eOf (oLst (aCons (eCall fn_behind (aCons (eVar 1) (aCons (eVar 2) aNil))) (aCons (eCallK fn_behind [1, 0] (aCons (eVar 5) (aCons (eCall (fn_law_lists 8) (aCons (eVar 1) aNil)) aNil))) (aCons (eCall fn_stands_along (aCons (eVar 1) (aCons (eVar 5) aNil))) (aCons (eCallK fn_stands_along [1, 0] (aCons (eVar 2) (aCons (eVar 1) aNil))) aNil)))))) (tgN 6))
  (sSeq (sIf (eNot (eCall (fn_law_same 8) (aCons (eVar 6) (aCons (eOf (oLst (aCons (bin dIx (eVar 4) (eNeg (eC (.int 1)))) (aCons (bin dIx (eVar 4) (eNeg (eC (.int 1)))) (aCons (eVar 4) (aCons (eVar 4) aNil)))))) aNil)))) (sRet (eC (.bool false))) sNil)
  (sSeq (sParVO 7 8 (eCall fn_law_box_of (aCons (eVar 3) (aCons (eVar 1) aNil))) (oLst aNil))
  (sSeq (sFor (iSeqD (eVar 2)) (tgN 9) (sSeq (sApp 8 (eSl (bin dIx (eVar 7) (eC (.int 0))) oNone (oSome (eC (.int 2)))))
  (sSet (eCall fn_law_box_step (aCons (eVar 3) (aCons (eVar 7) (aCons (eVar 9) aNil)))) (tgN 7))))
  (sSeq (sApp 8 (eSl (bin dIx (eVar 7) (eC (.int 0))) oNone (oSome (eC (.int 2)))))
  (sSeq (sSet (eOf (oLst (aCons (eCall fn_shapes_along (aCons (eCall (fn_law_lists 8) (aCons (eVar 1) aNil)) (aCons (eVar 2) aNil))) (aCons (eCallK fn_middles_along [2, 0, 1] (aCons (eVar 1) (aCons (eVar 5) (aCons (eOf (oList (aCons (eVar 3) aNil))) aNil)))) (aCons (eCall fn_tips_alone (aCons (eVar 5) aNil)) (aCons (eCall fn_turns_alone (aCons (eVar 2) aNil)) (aCons (eCall fn_is_row (aCons (eVar 2) aNil)) (aCons (eCall fn_is_row (aCons (eVar 5) aNil)) aNil)))))))) (tgN 6))
  (sSeq (sSet (eOf (oLst (aCons (call dTuple (aCons (eOf (oComp (iSeqD (eVar 4)) (tgN 15) cYes (bin dIx (eVar 15) (eC (.int 0))) [15])) aNil)) (aCons (eTupOwn 8) (aCons (bin dEq (eOf (oComp (iSeqD (eVar 2)) (tgN 15) (bin dNe (bin dIx (eVar 15) (eC (.int 0))) (eC (.str "tip"))) (eC (.int 1)) [15])) (eOf (oLst aNil))) (aCons (bin dEq (eOf (oComp (iSeqD (eVar 2)) (tgN 15) (bin dNe (bin dIx (eVar 15) (eC (.int 0))) (eC (.str "turn"))) (eC (.int 1)) [15])) (eOf (oLst aNil))) (aCons (eC (.bool true)) (aCons (eC (.bool false)) aNil)))))))) (tgN 10))
  (sSeq (sIf (eNot (eCall (fn_law_same 8) (aCons (eVar 6) (aCons (eVar 10) aNil)))) (sRet (eC (.bool false))) sNil)
  (sSeq (sSet (eOf (oComp (iSeqD (eCall fn_law_tips aNil)) (tgN 15) cYes (bin dCount (eVar 2) (eVar 15)) [15])) (tgN 11))
  (sSeq (sSet (eOf (oComp (iSeqD (eTup (aCons (eC (.int 1)) (aCons (eNeg (eC (.int 1))) aNil)))) (tgN 16) cYes (call dLen (aCons (eOf (oComp (iSeqD (eVar 2)) (tgN 15) (eAnd (bin dEq (bin dIx (eVar 15) (eC (.int 0))) (eC (.str "turn"))) (bin dEq (bin dIx (eVar 15) (eC (.int 2))) (eVar 16))) (eC (.int 1)) [15])) aNil)) [16])) (tgN 12))
  (sSeq (sPar 13 14 (eCallO 0 fn_law_of (aCons (eOf (oList (aCons (eVar 4) aNil))) aNil)) (eCallO 0 fn_law_drawn_spot aNil))
  (sSeq (sSet (eOf (oLst (aCons (eCall fn_how_often (aCons (eVar 5) aNil)) (aCons (eCall fn_first_met (aCons (eVar 1) (aCons (eVar 2) (aCons (eVar 13) aNil)))) (aCons (eCallK fn_first_met [2, 1, 0] (aCons (eCall (fn_law_lists 8) (aCons (eVar 14) aNil)) (aCons (eVar 5) (aCons (eVar 1) aNil)))) aNil))))) (tgN 6))
  (sRet (eCall (fn_law_same 8) (aCons (eVar 6) (aCons (eOf (oLst (aCons (call dTuple (aCons (bin dAdd (eVar 11) (eVar 12)) aNil)) (aCons (bin dIndex (eVar 4) (eVar 13)) (aCons (eIf (bin dIn (eVar 14) (eVar 4)) (bin dIndex (eVar 4) (eVar 14)) (eC .none)) aNil))))) aNil))))))))))))))))))
def fn_law_right : FD := runD 17 1 f_law_right
/-! ### law -/
def f_law : FS :=
  (sSeq (sIf (eNot (eCall fn_law_by_hand_right aNil)) (sRet (eC (.bool false))) sNil)
  (sSeq (sSet (eCall fn_law_cells (aCons (eVar 0) (aCons (eC (.int 2)) aNil))) (tgN 1))
  (sRet (call dAll (aCons (eOf (oComp (iRange (aCons (call dLen (aCons (eVar 1) aNil)) aNil)) (tgN 2) cYes (eCallF fn_law_right (oCall fn_law_box (aCons (eVar 1) (aCons (eVar 2) aNil)))) [2])) aNil)))))
def fn_law : FD := runD 3 1 f_law
end DL

/-! ## OKS -/
set_option Elab.async false
set_option linter.all false
set_option maxRecDepth 100000
set_option maxHeartbeats 40000000
namespace DL
open PySem PySem.Spec PyProof.Rows L2
def topS (i : Nat) : Stmt := PySem.Challenge.pw_movedchest_k08_whole_rows_by_own_box.main.body.getD i (.Pass ⟨0, 0, 0, 0⟩)
structure Txt (K : PySem.W.Frag) (mg : Str → Option Value) : Prop where
  isinstance : mg "isinstance" = none
  len : mg "len" = none
  all : mg "all" = none
  tuple : mg "tuple" = none
  list : mg "list" = none
  sum : mg "sum" = none
  abs : mg "abs" = none
  int : mg "int" = none
  bool : mg "bool" = none
  str : mg "str" = none
  range : mg "range" = none
  zip : mg "zip" = none
  enumerate : mg "enumerate" = none
  rg : ∃ a : Addr, mg "RING" = some (.ref a) ∧ ∀ F, Rp K F (.ref a) ringD
theorem d_ring {K : PySem.W.Frag} {mg : Str → Option Value} {X : Cx} (T : Txt K mg) (e1 : X.K = K) (e2 : X.mg = mg) {pos : Pos} (hg : Gl X "RING" := by rfl) : PE X (.Name "RING" pos) (tD X.K (eC ringD)) := by
  subst e1 e2
  obtain ⟨a, h, d⟩ := T.rg
  exact d_glob (v := .ref a) h rfl d hg
section
variable {P : Program} {w : World} {K : PySem.W.Frag} {mg : Str → Option Value} {base : Heap}
/-! ### is_number -/
abbrev s_is_number : Stmt := topS 3
abbrev ps_is_number : List Str := ["thing"]
theorem sc_is_number : FnScope ["thing"] ps_is_number (defScope s_is_number) := ⟨rfl, rfl, rfl, by decide +kernel, rfl, by decide +kernel, by decide +kernel⟩
theorem ar_is_number : Ar fn_is_number ps_is_number.length := runD_ar _ _ _
theorem ok_is_number {f : Addr} {fd : FuncData} (F : Fun K "is_number" "is_number" s_is_number f fd) (hm : mg "is_number" = some (.ref f)) (T : Txt K mg) : DefOk P w K mg base 2 "is_number" s_is_number ps_is_number fn_is_number :=
  def_ok (N := ["thing"]) (k := 1) F hm sc_is_number (fun _ _ _ _ _ _ us hl => match us, hl with | [_], _ => rfl) (fun cdv A outer s H E hr =>
    (b_one (s_ret (d_and (d_isi .int T.isinstance (d_var 0) (pe_ty .int T.int)) (d_one (d_not (d_isi .bool T.isinstance (d_var 0) (pe_ty .bool T.bool))))))))
/-! ### is_from -/
abbrev s_is_from : Stmt := topS 4
abbrev ps_is_from : List Str := ["thing", "least"]
theorem sc_is_from : FnScope ["thing", "least"] ps_is_from (defScope s_is_from) := ⟨rfl, rfl, rfl, by decide +kernel, rfl, by decide +kernel, by decide +kernel⟩
theorem ar_is_from : Ar fn_is_from ps_is_from.length := runD_ar _ _ _
theorem ok_is_from {f : Addr} {fd : FuncData} (F : Fun K "is_from" "is_from" s_is_from f fd) (hm : mg "is_from" = some (.ref f)) (T : Txt K mg) (D_is_number : DefOk P w K mg base 2 "is_number" s_is_number ps_is_number fn_is_number) : DefOk P w K mg base 3 "is_from" s_is_from ps_is_from fn_is_from :=
  def_ok (N := ["thing", "least"]) (k := 2) F hm sc_is_from (fun _ _ _ _ _ _ us hl => match us, hl with | [_, _], _ => rfl) (fun cdv A outer s H E hr =>
    (b_one (s_ret (d_and (d_call D_is_number ar_is_number hr (by decide) (a_cons (d_var 0) a_nil)) (d_one (d_ge (d_var 0) (d_var 1)))))))
/-! ### is_within -/
abbrev s_is_within : Stmt := topS 5
abbrev ps_is_within : List Str := ["thing", "least", "most"]
theorem sc_is_within : FnScope ["thing", "least", "most"] ps_is_within (defScope s_is_within) := ⟨rfl, rfl, rfl, by decide +kernel, rfl, by decide +kernel, by decide +kernel⟩
theorem ar_is_within : Ar fn_is_within ps_is_within.length := runD_ar _ _ _
theorem ok_is_within {f : Addr} {fd : FuncData} (F : Fun K "is_within" "is_within" s_is_within f fd) (hm : mg "is_within" = some (.ref f)) (T : Txt K mg) (D_is_number : DefOk P w K mg base 2 "is_number" s_is_number ps_is_number fn_is_number) : DefOk P w K mg base 3 "is_within" s_is_within ps_is_within fn_is_within :=
  def_ok (N := ["thing", "least", "most"]) (k := 2) F hm sc_is_within (fun _ _ _ _ _ _ us hl => match us, hl with | [_, _, _], _ => rfl) (fun cdv A outer s H E hr =>
    (b_one (s_ret (d_and (d_call D_is_number ar_is_number hr (by decide) (a_cons (d_var 0) a_nil)) (d_one (d_chain op_le op_le int_D int_D (d_var 1) (d_var 0) (d_var 2)))))))
/-! ### is_long -/
abbrev s_is_long : Stmt := topS 6
abbrev ps_is_long : List Str := ["thing", "length"]
theorem sc_is_long : FnScope ["thing", "length"] ps_is_long (defScope s_is_long) := ⟨rfl, rfl, rfl, by decide +kernel, rfl, by decide +kernel, by decide +kernel⟩
theorem ar_is_long : Ar fn_is_long ps_is_long.length := runD_ar _ _ _
theorem ok_is_long {f : Addr} {fd : FuncData} (F : Fun K "is_long" "is_long" s_is_long f fd) (hm : mg "is_long" = some (.ref f)) (T : Txt K mg) : DefOk P w K mg base 2 "is_long" s_is_long ps_is_long fn_is_long :=
  def_ok (N := ["thing", "length"]) (k := 1) F hm sc_is_long (fun _ _ _ _ _ _ us hl => match us, hl with | [_, _], _ => rfl) (fun cdv A outer s H E hr =>
    (b_one (s_ret (d_and (d_isi .tuple T.isinstance (d_var 0) (pe_ty .tuple T.tuple)) (d_one (d_eq hr (d_len T.len (a_cons (d_var 0) a_nil)) (d_var 1)))))))
/-! ### tupled -/
abbrev s_tupled : Stmt := topS 7
abbrev ps_tupled : List Str := ["value"]
theorem sc_tupled : FnScope ["value", "own"] ps_tupled (defScope s_tupled) := ⟨rfl, rfl, rfl, by decide +kernel, rfl, by decide +kernel, by decide +kernel⟩
theorem ar_tupled : ∀ n : Nat, Ar (fn_tupled n) ps_tupled.length
  | 0 => ⟨fun _ h => absurd rfl h⟩
  | _ + 1 => runD_ar _ _ _
theorem ok_tupled {f : Addr} {fd : FuncData} (F : Fun K "tupled" "tupled" s_tupled f fd) (hm : mg "tupled" = some (.ref f)) (T : Txt K mg) : ∀ n : Nat, DefOk P w K mg base (n + 1) "tupled" s_tupled ps_tupled (fn_tupled n)
  | 0 => def_none F hm (fun _ _ _ _ _ _ us hl => match us, hl with | [_], _ => rfl)
  | n + 1 => have D_self : DefOk P w K mg base (n + 1) "tupled" s_tupled ps_tupled (fn_tupled n) := ok_tupled F hm T n
    def_ok F hm sc_tupled (fun _ _ _ _ _ _ us hl => match us, hl with | [_], _ => rfl) (fun cdv A outer s H E hr =>
    (b_one (s_ret (d_if (t_val (d_isi2 .list .tuple T.isinstance (d_var 0) (pe_ty .list T.list) (pe_ty .tuple T.tuple))) (d_tuple T.tuple (a_cons (d_of (o_comp [("own", 1)] rfl sc_tupled.nd (i_seq (d_var 0)) (blkOk_by (by kernel_rfl)) (fun _ _ _ _ _ => (g_name 1 sc_tupled.nd)) (fun _ _ _ _ _ => c_nil) (fun _ _ _ _ _ => (d_call D_self (ar_tupled n) hr (Nat.le_refl _) (a_cons (d_var 1) a_nil))))) a_nil)) (d_var 0)))))
/-! ### are_numbers -/
abbrev s_are_numbers : Stmt := topS 8
abbrev ps_are_numbers : List Str := ["thing"]
theorem sc_are_numbers : FnScope ["thing", "own"] ps_are_numbers (defScope s_are_numbers) := ⟨rfl, rfl, rfl, by decide +kernel, rfl, by decide +kernel, by decide +kernel⟩
theorem ar_are_numbers : Ar fn_are_numbers ps_are_numbers.length := runD_ar _ _ _
theorem ok_are_numbers {f : Addr} {fd : FuncData} (F : Fun K "are_numbers" "are_numbers" s_are_numbers f fd) (hm : mg "are_numbers" = some (.ref f)) (T : Txt K mg) (D_is_number : DefOk P w K mg base 2 "is_number" s_is_number ps_is_number fn_is_number) : DefOk P w K mg base 3 "are_numbers" s_are_numbers ps_are_numbers fn_are_numbers :=
  def_ok (N := ["thing", "own"]) (k := 2) F hm sc_are_numbers (fun _ _ _ _ _ _ us hl => match us, hl with | [_], _ => rfl) (fun cdv A outer s H E hr =>
    (b_one (s_ret (d_and (d_isi .tuple T.isinstance (d_var 0) (pe_ty .tuple T.tuple)) (d_one (d_all rfl T.all (a_cons (d_of (o_comp [("own", 1)] rfl sc_are_numbers.nd (i_seq (d_var 0)) (blkOk_by (by kernel_rfl)) (fun _ _ _ _ _ => (g_name 1 sc_are_numbers.nd)) (fun _ _ _ _ _ => c_nil) (fun _ _ _ _ _ => (d_call D_is_number ar_is_number hr (by decide) (a_cons (d_var 1) a_nil))))) a_nil)))))))
/-! ### is_chest -/
abbrev s_is_chest : Stmt := topS 11
abbrev ps_is_chest : List Str := ["thing"]
theorem sc_is_chest : FnScope ["thing", "own"] ps_is_chest (defScope s_is_chest) := ⟨rfl, rfl, rfl, by decide +kernel, rfl, by decide +kernel, by decide +kernel⟩
theorem ar_is_chest : Ar fn_is_chest ps_is_chest.length := runD_ar _ _ _
theorem ok_is_chest {f : Addr} {fd : FuncData} (F : Fun K "is_chest" "is_chest" s_is_chest f fd) (hm : mg "is_chest" = some (.ref f)) (T : Txt K mg) (D_is_long : DefOk P w K mg base 2 "is_long" s_is_long ps_is_long fn_is_long) (D_is_from : DefOk P w K mg base 3 "is_from" s_is_from ps_is_from fn_is_from) : DefOk P w K mg base 4 "is_chest" s_is_chest ps_is_chest fn_is_chest :=
  def_ok (N := ["thing", "own"]) (k := 3) F hm sc_is_chest (fun _ _ _ _ _ _ us hl => match us, hl with | [_], _ => rfl) (fun cdv A outer s H E hr =>
    (b_one (s_ret (d_and (d_call D_is_long ar_is_long hr (by decide) (a_cons (d_var 0) (a_cons d_int a_nil))) (d_one (d_all rfl T.all (a_cons (d_of (o_comp [("own", 1)] rfl sc_is_chest.nd (i_seq (d_var 0)) (blkOk_by (by kernel_rfl)) (fun _ _ _ _ _ => (g_name 1 sc_is_chest.nd)) (fun _ _ _ _ _ => c_nil) (fun _ _ _ _ _ => (d_call D_is_from ar_is_from hr (by decide) (a_cons (d_var 1) (a_cons d_int a_nil)))))) a_nil)))))))
/-! ### sure_chest -/
abbrev s_sure_chest : Stmt := topS 12
abbrev ps_sure_chest : List Str := ["chest"]
theorem sc_sure_chest : FnScope ["chest", "own"] ps_sure_chest (defScope s_sure_chest) := ⟨rfl, rfl, rfl, by decide +kernel, rfl, by decide +kernel, by decide +kernel⟩
theorem ar_sure_chest : Ar fn_sure_chest ps_sure_chest.length := runD_ar _ _ _
theorem ok_sure_chest {f : Addr} {fd : FuncData} (F : Fun K "sure_chest" "sure_chest" s_sure_chest f fd) (hm : mg "sure_chest" = some (.ref f)) (T : Txt K mg) (D_tupled : DefOk P w K mg base 9 "tupled" s_tupled ps_tupled (fn_tupled 8)) (D_is_chest : DefOk P w K mg base 4 "is_chest" s_is_chest ps_is_chest fn_is_chest) : DefOk P w K mg base 10 "sure_chest" s_sure_chest ps_sure_chest fn_sure_chest :=
  def_ok (N := ["chest", "own"]) (k := 9) F hm sc_sure_chest (fun _ _ _ _ _ _ us hl => match us, hl with | [_], _ => rfl) (fun cdv A outer s H E hr =>
    (b_cons (s_set (d_call D_tupled (ar_tupled 8) hr (by decide) (a_cons (d_var 0) a_nil)) (g_name 1 sc_sure_chest.nd))
    (b_cons (s_if (t_not (t_val (d_call D_is_chest ar_is_chest hr (by decide) (a_cons (d_var 1) a_nil)))) (b_one s_never) b_nil)
    (b_one (s_ret (d_var 1))))))
/-! ### is_shape -/
abbrev s_is_shape : Stmt := topS 13
abbrev ps_is_shape : List Str := ["thing"]
theorem sc_is_shape : FnScope ["thing", "own"] ps_is_shape (defScope s_is_shape) := ⟨rfl, rfl, rfl, by decide +kernel, rfl, by decide +kernel, by decide +kernel⟩
theorem ar_is_shape : Ar fn_is_shape ps_is_shape.length := runD_ar _ _ _
theorem ok_is_shape {f : Addr} {fd : FuncData} (F : Fun K "is_shape" "is_shape" s_is_shape f fd) (hm : mg "is_shape" = some (.ref f)) (T : Txt K mg) (D_is_long : DefOk P w K mg base 2 "is_long" s_is_long ps_is_long fn_is_long) (D_is_number : DefOk P w K mg base 2 "is_number" s_is_number ps_is_number fn_is_number) : DefOk P w K mg base 3 "is_shape" s_is_shape ps_is_shape fn_is_shape :=
  def_ok (N := ["thing", "own"]) (k := 2) F hm sc_is_shape (fun _ _ _ _ _ _ us hl => match us, hl with | [_], _ => rfl) (fun cdv A outer s H E hr =>
    (b_one (s_ret (d_and (d_call D_is_long ar_is_long hr (by decide) (a_cons (d_var 0) (a_cons d_int a_nil))) (d_and (d_all rfl T.all (a_cons (d_of (o_comp [("own", 1)] rfl sc_is_shape.nd (i_seq (d_var 0)) (blkOk_by (by kernel_rfl)) (fun _ _ _ _ _ => (g_name 1 sc_is_shape.nd)) (fun _ _ _ _ _ => c_nil) (fun _ _ _ _ _ => (d_call D_is_number ar_is_number hr (by decide) (a_cons (d_var 1) a_nil))))) a_nil)) (d_one (d_in hr (d_var 0) (d_ring T rfl rfl))))))))
/-! ### is_stand -/
abbrev s_is_stand : Stmt := topS 15
abbrev ps_is_stand : List Str := ["thing"]
theorem sc_is_stand : FnScope ["thing", "own"] ps_is_stand (defScope s_is_stand) := ⟨rfl, rfl, rfl, by decide +kernel, rfl, by decide +kernel, by decide +kernel⟩
theorem ar_is_stand : Ar fn_is_stand ps_is_stand.length := runD_ar _ _ _
theorem ok_is_stand {f : Addr} {fd : FuncData} (F : Fun K "is_stand" "is_stand" s_is_stand f fd) (hm : mg "is_stand" = some (.ref f)) (T : Txt K mg) (D_is_long : DefOk P w K mg base 2 "is_long" s_is_long ps_is_long fn_is_long) (D_is_shape : DefOk P w K mg base 3 "is_shape" s_is_shape ps_is_shape fn_is_shape) (D_are_numbers : DefOk P w K mg base 3 "are_numbers" s_are_numbers ps_are_numbers fn_are_numbers) : DefOk P w K mg base 4 "is_stand" s_is_stand ps_is_stand fn_is_stand :=
  def_ok (N := ["thing", "own"]) (k := 3) F hm sc_is_stand (fun _ _ _ _ _ _ us hl => match us, hl with | [_], _ => rfl) (fun cdv A outer s H E hr =>
    (b_cons (s_if ((w_or (t_not (t_val (d_call D_is_long ar_is_long hr (by decide) (a_cons (d_var 0) (a_cons d_int a_nil))))) (w_or1 (t_not (t_val (d_call D_is_shape ar_is_shape hr (by decide) (a_cons (d_ix (d_var 0) d_int) a_nil))))))).pt (b_one (s_ret d_bl)) b_nil)
    (b_cons (s_if (t_not (t_val (d_all rfl T.all (a_cons (d_of (o_comp [("own", 1)] rfl sc_is_stand.nd (i_seq (d_slice (d_var 0) (p_some d_int) p_none)) (blkOk_by (by kernel_rfl)) (fun _ _ _ _ _ => (g_name 1 sc_is_stand.nd)) (fun _ _ _ _ _ => c_nil) (fun _ _ _ _ _ => (d_and (d_call D_is_long ar_is_long hr (by decide) (a_cons (d_var 1) (a_cons d_int a_nil))) (d_one (d_call D_are_numbers ar_are_numbers hr (by decide) (a_cons (d_var 1) a_nil))))))) a_nil)))) (b_one (s_ret d_bl)) b_nil)
    (b_one (s_ret (d_all rfl T.all (a_cons (d_of (o_comp [("own", 1)] rfl sc_is_stand.nd (i_seq (d_ix (d_var 0) d_int)) (blkOk_by (by kernel_rfl)) (fun _ _ _ _ _ => (g_name 1 sc_is_stand.nd)) (fun _ _ _ _ _ => c_nil) (fun _ _ _ _ _ => (d_in hr (d_var 1) (d_tup (a_cons d_int (a_cons (d_neg d_int) a_nil))))))) a_nil)))))))
/-! ### sure_stand -/
abbrev s_sure_stand : Stmt := topS 16
abbrev ps_sure_stand : List Str := ["stand"]
theorem sc_sure_stand : FnScope ["stand", "own"] ps_sure_stand (defScope s_sure_stand) := ⟨rfl, rfl, rfl, by decide +kernel, rfl, by decide +kernel, by decide +kernel⟩
theorem ar_sure_stand : Ar fn_sure_stand ps_sure_stand.length := runD_ar _ _ _
theorem ok_sure_stand {f : Addr} {fd : FuncData} (F : Fun K "sure_stand" "sure_stand" s_sure_stand f fd) (hm : mg "sure_stand" = some (.ref f)) (T : Txt K mg) (D_tupled : DefOk P w K mg base 9 "tupled" s_tupled ps_tupled (fn_tupled 8)) (D_is_stand : DefOk P w K mg base 4 "is_stand" s_is_stand ps_is_stand fn_is_stand) : DefOk P w K mg base 10 "sure_stand" s_sure_stand ps_sure_stand fn_sure_stand :=
  def_ok (N := ["stand", "own"]) (k := 9) F hm sc_sure_stand (fun _ _ _ _ _ _ us hl => match us, hl with | [_], _ => rfl) (fun cdv A outer s H E hr =>
    (b_cons (s_set (d_call D_tupled (ar_tupled 8) hr (by decide) (a_cons (d_var 0) a_nil)) (g_name 1 sc_sure_stand.nd))
    (b_cons (s_if (t_not (t_val (d_call D_is_stand ar_is_stand hr (by decide) (a_cons (d_var 1) a_nil)))) (b_one s_never) b_nil)
    (b_one (s_ret (d_var 1))))))
/-! ### is_move -/
abbrev s_is_move : Stmt := topS 17
abbrev ps_is_move : List Str := ["thing"]
theorem sc_is_move : FnScope ["thing"] ps_is_move (defScope s_is_move) := ⟨rfl, rfl, rfl, by decide +kernel, rfl, by decide +kernel, by decide +kernel⟩
theorem ar_is_move : Ar fn_is_move ps_is_move.length := runD_ar _ _ _
theorem ok_is_move {f : Addr} {fd : FuncData} (F : Fun K "is_move" "is_move" s_is_move f fd) (hm : mg "is_move" = some (.ref f)) (T : Txt K mg) (D_is_long : DefOk P w K mg base 2 "is_long" s_is_long ps_is_long fn_is_long) (D_is_number : DefOk P w K mg base 2 "is_number" s_is_number ps_is_number fn_is_number) (D_is_within : DefOk P w K mg base 3 "is_within" s_is_within ps_is_within fn_is_within) : DefOk P w K mg base 4 "is_move" s_is_move ps_is_move fn_is_move :=
  def_ok (N := ["thing"]) (k := 3) F hm sc_is_move (fun _ _ _ _ _ _ us hl => match us, hl with | [_], _ => rfl) (fun cdv A outer s H E hr =>
    (b_cons (s_if (t_val (d_call D_is_long ar_is_long hr (by decide) (a_cons (d_var 0) (a_cons d_int a_nil)))) (b_one (s_ret (d_and (d_eq hr (d_ix (d_var 0) d_int) d_str) (d_one (d_call D_is_within ar_is_within hr (by decide) (a_cons (d_ix (d_var 0) d_int) (a_cons d_int (a_cons d_int a_nil)))))))) b_nil)
    (b_cons (s_if ((w_or (t_not (t_val (d_call D_is_long ar_is_long hr (by decide) (a_cons (d_var 0) (a_cons d_int a_nil))))) (w_or (t_ne hr (d_ix (d_var 0) d_int) d_str) (w_or1 (t_not (t_val (d_call D_is_within ar_is_within hr (by decide) (a_cons (d_ix (d_var 0) d_int) (a_cons d_int (a_cons d_int a_nil)))))))))).pt (b_one (s_ret d_bl)) b_nil)
    (b_one (s_ret (d_and (d_call D_is_number ar_is_number hr (by decide) (a_cons (d_ix (d_var 0) d_int) a_nil)) (d_one (d_in hr (d_ix (d_var 0) d_int) (d_tup (a_cons d_int (a_cons (d_neg d_int) a_nil)))))))))))
/-! ### more_at -/
abbrev s_more_at : Stmt := topS 18
abbrev ps_more_at : List Str := ["row", "place", "by"]
theorem sc_more_at : FnScope ["row", "place", "by"] ps_more_at (defScope s_more_at) := ⟨rfl, rfl, rfl, by decide +kernel, rfl, by decide +kernel, by decide +kernel⟩
theorem ar_more_at : Ar fn_more_at ps_more_at.length := runD_ar _ _ _
theorem ok_more_at {f : Addr} {fd : FuncData} (F : Fun K "more_at" "more_at" s_more_at f fd) (hm : mg "more_at" = some (.ref f)) (T : Txt K mg) : DefOk P w K mg base 2 "more_at" s_more_at ps_more_at fn_more_at :=
  def_ok (N := ["row", "place", "by"]) (k := 1) F hm sc_more_at (fun _ _ _ _ _ _ us hl => match us, hl with | [_, _, _], _ => rfl) (fun cdv A outer s H E hr =>
    (b_one (s_ret (d_add (d_add (d_slice (d_var 0) p_none (p_some (d_var 1))) (d_tup (a_cons (d_add (d_ix (d_var 0) (d_var 1)) (d_var 2)) a_nil))) (d_slice (d_var 0) (p_some (d_add (d_var 1) d_int)) p_none)))))
/-! ### flipped -/
abbrev s_flipped : Stmt := topS 19
abbrev ps_flipped : List Str := ["row", "place"]
theorem sc_flipped : FnScope ["row", "place"] ps_flipped (defScope s_flipped) := ⟨rfl, rfl, rfl, by decide +kernel, rfl, by decide +kernel, by decide +kernel⟩
theorem ar_flipped : Ar fn_flipped ps_flipped.length := runD_ar _ _ _
theorem ok_flipped {f : Addr} {fd : FuncData} (F : Fun K "flipped" "flipped" s_flipped f fd) (hm : mg "flipped" = some (.ref f)) (T : Txt K mg) (D_more_at : DefOk P w K mg base 2 "more_at" s_more_at ps_more_at fn_more_at) : DefOk P w K mg base 3 "flipped" s_flipped ps_flipped fn_flipped :=
  def_ok (N := ["row", "place"]) (k := 2) F hm sc_flipped (fun _ _ _ _ _ _ us hl => match us, hl with | [_, _], _ => rfl) (fun cdv A outer s H E hr =>
    (b_one (s_ret (d_call D_more_at ar_more_at hr (by decide) (a_cons (d_var 0) (a_cons (d_var 1) (a_cons (d_mul (d_neg d_int) (d_ix (d_var 0) (d_var 1))) a_nil)))))))
/-! ### tipped_in -/
abbrev s_tipped_in : Stmt := topS 20
abbrev ps_tipped_in : List Str := ["stand", "way"]
theorem sc_tipped_in : FnScope ["stand", "way", "shape", "xs", "ys", "fronts", "i", "j", "k", "by"] ps_tipped_in (defScope s_tipped_in) := ⟨rfl, rfl, rfl, by decide +kernel, rfl, by decide +kernel, by decide +kernel⟩
theorem ar_tipped_in : Ar fn_tipped_in ps_tipped_in.length := runD_ar _ _ _
theorem ok_tipped_in {f : Addr} {fd : FuncData} (F : Fun K "tipped_in" "tipped_in" s_tipped_in f fd) (hm : mg "tipped_in" = some (.ref f)) (T : Txt K mg) (D_more_at : DefOk P w K mg base 2 "more_at" s_more_at ps_more_at fn_more_at) (D_flipped : DefOk P w K mg base 3 "flipped" s_flipped ps_flipped fn_flipped) : DefOk P w K mg base 4 "tipped_in" s_tipped_in ps_tipped_in fn_tipped_in :=
  def_ok (N := ["stand", "way", "shape", "xs", "ys", "fronts", "i", "j", "k", "by"]) (k := 3) F hm sc_tipped_in (fun _ _ _ _ _ _ us hl => match us, hl with | [_, _], _ => rfl) (fun cdv A outer s H E hr =>
    (b_cons (s_set (d_var 0) (g_tup rfl (gs_cons (g_name 2 sc_tipped_in.nd) (gs_cons (g_name 3 sc_tipped_in.nd) (gs_cons (g_name 4 sc_tipped_in.nd) (gs_cons (g_name 5 sc_tipped_in.nd) gs_nil))))))
    (b_cons (s_set (d_var 2) (g_tup rfl (gs_cons (g_name 6 sc_tipped_in.nd) (gs_cons (g_name 7 sc_tipped_in.nd) (gs_cons (g_name 8 sc_tipped_in.nd) gs_nil)))))
    (b_cons (s_set (d_if (t_lt (d_var 1) d_int) d_int (d_neg d_int)) (g_name 9 sc_tipped_in.nd))
    (b_cons (s_if (t_eq hr (d_mod (d_var 1) d_int) d_int) (b_one (s_ret (d_tup (a_cons (d_tup (a_cons (d_var 8) (a_cons (d_var 7) (a_cons (d_var 6) a_nil)))) (a_cons (d_call D_more_at ar_more_at hr (by decide) (a_cons (d_call D_more_at ar_more_at hr (by decide) (a_cons (d_var 3) (a_cons (d_var 6) (a_cons (d_var 9) a_nil)))) (a_cons (d_var 8) (a_cons (d_var 9) a_nil)))) (a_cons (d_var 4) (a_cons (d_call D_flipped ar_flipped hr (by decide) (a_cons (d_var 5) (a_cons (d_if (t_eq hr (d_var 9) d_int) (d_var 6) (d_var 8)) a_nil))) a_nil))))))) b_nil)
    (b_one (s_ret (d_tup (a_cons (d_tup (a_cons (d_var 6) (a_cons (d_var 8) (a_cons (d_var 7) a_nil)))) (a_cons (d_var 3) (a_cons (d_call D_more_at ar_more_at hr (by decide) (a_cons (d_call D_more_at ar_more_at hr (by decide) (a_cons (d_var 4) (a_cons (d_var 7) (a_cons (d_var 9) a_nil)))) (a_cons (d_var 8) (a_cons (d_var 9) a_nil)))) (a_cons (d_call D_flipped ar_flipped hr (by decide) (a_cons (d_var 5) (a_cons (d_if (t_eq hr (d_var 9) d_int) (d_var 7) (d_var 8)) a_nil))) a_nil))))))))))))
/-! ### turned_in -/
abbrev s_turned_in : Stmt := topS 21
abbrev ps_turned_in : List Str := ["stand", "corner", "hand"]
theorem sc_turned_in : FnScope ["stand", "corner", "hand", "shape", "xs", "ys", "fronts", "i", "j", "k", "east", "north"] ps_turned_in (defScope s_turned_in) := ⟨rfl, rfl, rfl, by decide +kernel, rfl, by decide +kernel, by decide +kernel⟩
theorem ar_turned_in : Ar fn_turned_in ps_turned_in.length := runD_ar _ _ _
theorem ok_turned_in {f : Addr} {fd : FuncData} (F : Fun K "turned_in" "turned_in" s_turned_in f fd) (hm : mg "turned_in" = some (.ref f)) (T : Txt K mg) (D_more_at : DefOk P w K mg base 2 "more_at" s_more_at ps_more_at fn_more_at) (D_flipped : DefOk P w K mg base 3 "flipped" s_flipped ps_flipped fn_flipped) : DefOk P w K mg base 4 "turned_in" s_turned_in ps_turned_in fn_turned_in :=
  def_ok (N := ["stand", "corner", "hand", "shape", "xs", "ys", "fronts", "i", "j", "k", "east", "north"]) (k := 3) F hm sc_turned_in (fun _ _ _ _ _ _ us hl => match us, hl with | [_, _, _], _ => rfl) (fun cdv A outer s H E hr =>
    (b_cons (s_set (d_var 0) (g_tup rfl (gs_cons (g_name 3 sc_turned_in.nd) (gs_cons (g_name 4 sc_turned_in.nd) (gs_cons (g_name 5 sc_turned_in.nd) (gs_cons (g_name 6 sc_turned_in.nd) gs_nil))))))
    (b_cons (s_set (d_var 3) (g_tup rfl (gs_cons (g_name 7 sc_turned_in.nd) (gs_cons (g_name 8 sc_turned_in.nd) (gs_cons (g_name 9 sc_turned_in.nd) gs_nil)))))
    (b_cons (s_set (d_if (t_in hr (d_var 1) (d_tup (a_cons d_int (a_cons d_int a_nil)))) d_int (d_neg d_int)) (g_name 10 sc_turned_in.nd))
    (b_cons (s_set (d_if (t_ge (d_var 1) d_int) d_int (d_neg d_int)) (g_name 11 sc_turned_in.nd))
    (b_cons (s_if (t_eq hr (d_var 2) d_int) (b_cons (s_par 4 5 rfl sc_turned_in.nd (d_call D_more_at ar_more_at hr (by decide) (a_cons (d_call D_more_at ar_more_at hr (by decide) (a_cons (d_var 4) (a_cons (d_var 7) (a_cons (d_var 10) a_nil)))) (a_cons (d_var 8) (a_cons (d_var 11) a_nil)))) (d_call D_more_at ar_more_at hr (by decide) (a_cons (d_call D_more_at ar_more_at hr (by decide) (a_cons (d_var 5) (a_cons (d_var 7) (a_cons (d_neg (d_var 10)) a_nil)))) (a_cons (d_var 8) (a_cons (d_var 11) a_nil)))))
    (b_one (s_ret (d_tup (a_cons (d_tup (a_cons (d_var 8) (a_cons (d_var 7) (a_cons (d_var 9) a_nil)))) (a_cons (d_var 4) (a_cons (d_var 5) (a_cons (d_call D_flipped ar_flipped hr (by decide) (a_cons (d_var 6) (a_cons (d_var 8) a_nil))) a_nil)))))))) b_nil)
    (b_cons (s_par 4 5 rfl sc_turned_in.nd (d_call D_more_at ar_more_at hr (by decide) (a_cons (d_call D_more_at ar_more_at hr (by decide) (a_cons (d_var 4) (a_cons (d_var 7) (a_cons (d_var 10) a_nil)))) (a_cons (d_var 8) (a_cons (d_neg (d_var 11)) a_nil)))) (d_call D_more_at ar_more_at hr (by decide) (a_cons (d_call D_more_at ar_more_at hr (by decide) (a_cons (d_var 5) (a_cons (d_var 7) (a_cons (d_var 10) a_nil)))) (a_cons (d_var 8) (a_cons (d_var 11) a_nil)))))
    (b_one (s_ret (d_tup (a_cons (d_tup (a_cons (d_var 8) (a_cons (d_var 7) (a_cons (d_var 9) a_nil)))) (a_cons (d_var 4) (a_cons (d_var 5) (a_cons (d_call D_flipped ar_flipped hr (by decide) (a_cons (d_var 6) (a_cons (d_var 7) a_nil))) a_nil))))))))))))))
/-! ### moved_in -/
abbrev s_moved_in : Stmt := topS 22
abbrev ps_moved_in : List Str := ["stand", "move"]
theorem sc_moved_in : FnScope ["stand", "move"] ps_moved_in (defScope s_moved_in) := ⟨rfl, rfl, rfl, by decide +kernel, rfl, by decide +kernel, by decide +kernel⟩
theorem ar_moved_in : Ar fn_moved_in ps_moved_in.length := runD_ar _ _ _
theorem ok_moved_in {f : Addr} {fd : FuncData} (F : Fun K "moved_in" "moved_in" s_moved_in f fd) (hm : mg "moved_in" = some (.ref f)) (T : Txt K mg) (D_tipped_in : DefOk P w K mg base 4 "tipped_in" s_tipped_in ps_tipped_in fn_tipped_in) (D_turned_in : DefOk P w K mg base 4 "turned_in" s_turned_in ps_turned_in fn_turned_in) : DefOk P w K mg base 5 "moved_in" s_moved_in ps_moved_in fn_moved_in :=
  def_ok (N := ["stand", "move"]) (k := 4) F hm sc_moved_in (fun _ _ _ _ _ _ us hl => match us, hl with | [_, _], _ => rfl) (fun cdv A outer s H E hr =>
    (b_one (s_ret (d_if (t_eq hr (d_ix (d_var 1) d_int) d_str) (d_call D_tipped_in ar_tipped_in hr (by decide) (a_cons (d_var 0) (a_cons (d_ix (d_var 1) d_int) a_nil))) (d_call D_turned_in ar_turned_in hr (by decide) (a_cons (d_var 0) (a_cons (d_ix (d_var 1) d_int) (a_cons (d_ix (d_var 1) d_int) a_nil))))))))
/-! ### middle_in -/
abbrev s_middle_in : Stmt := topS 23
abbrev ps_middle_in : List Str := ["chest", "stand"]
theorem sc_middle_in : FnScope ["chest", "stand", "east", "many", "side"] ps_middle_in (defScope s_middle_in) := ⟨rfl, rfl, rfl, by decide +kernel, rfl, by decide +kernel, by decide +kernel⟩
theorem ar_middle_in : Ar fn_middle_in ps_middle_in.length := runD_ar _ _ _
theorem ok_middle_in {f : Addr} {fd : FuncData} (F : Fun K "middle_in" "middle_in" s_middle_in f fd) (hm : mg "middle_in" = some (.ref f)) (T : Txt K mg) : DefOk P w K mg base 2 "middle_in" s_middle_in ps_middle_in fn_middle_in :=
  def_ok (N := ["chest", "stand", "east", "many", "side"]) (k := 1) F hm sc_middle_in (fun _ _ _ _ _ _ us hl => match us, hl with | [_, _], _ => rfl) (fun cdv A outer s H E hr =>
    (b_cons (s_set (d_sum rfl T.sum (a_cons (d_of (o_comp [("many", 3), ("side", 4)] rfl sc_middle_in.nd (i_zip T.zip (a_cons (d_ix (d_var 1) d_int) (a_cons (d_var 0) a_nil))) (blkOk_by (by kernel_rfl)) (fun _ _ _ _ _ => (g_pair rfl (gs_cons (g_name 3 sc_middle_in.nd) (gs_cons (g_name 4 sc_middle_in.nd) gs_nil)))) (fun _ _ _ _ _ => c_nil) (fun _ _ _ _ _ => (d_mul (d_var 3) (d_var 4))))) a_nil)) (g_name 2 sc_middle_in.nd))
    (b_one (s_ret (d_tup (a_cons (d_var 2) (a_cons (d_sum rfl T.sum (a_cons (d_of (o_comp [("many", 3), ("side", 4)] rfl sc_middle_in.nd (i_zip T.zip (a_cons (d_ix (d_var 1) d_int) (a_cons (d_var 0) a_nil))) (blkOk_by (by kernel_rfl)) (fun _ _ _ _ _ => (g_pair rfl (gs_cons (g_name 3 sc_middle_in.nd) (gs_cons (g_name 4 sc_middle_in.nd) gs_nil)))) (fun _ _ _ _ _ => c_nil) (fun _ _ _ _ _ => (d_mul (d_var 3) (d_var 4))))) a_nil)) a_nil)))))))
/-! ### is_row_in -/
abbrev s_is_row_in : Stmt := topS 25
abbrev ps_is_row_in : List Str := ["thing"]
theorem sc_is_row_in : FnScope ["thing", "move"] ps_is_row_in (defScope s_is_row_in) := ⟨rfl, rfl, rfl, by decide +kernel, rfl, by decide +kernel, by decide +kernel⟩
theorem ar_is_row_in : Ar fn_is_row_in ps_is_row_in.length := runD_ar _ _ _
theorem ok_is_row_in {f : Addr} {fd : FuncData} (F : Fun K "is_row_in" "is_row_in" s_is_row_in f fd) (hm : mg "is_row_in" = some (.ref f)) (T : Txt K mg) (D_is_move : DefOk P w K mg base 4 "is_move" s_is_move ps_is_move fn_is_move) : DefOk P w K mg base 5 "is_row_in" s_is_row_in ps_is_row_in fn_is_row_in :=
  def_ok (N := ["thing", "move"]) (k := 4) F hm sc_is_row_in (fun _ _ _ _ _ _ us hl => match us, hl with | [_], _ => rfl) (fun cdv A outer s H E hr =>
    (b_one (s_ret (d_and (d_isi .tuple T.isinstance (d_var 0) (pe_ty .tuple T.tuple)) (d_one (d_all rfl T.all (a_cons (d_of (o_comp [("move", 1)] rfl sc_is_row_in.nd (i_seq (d_var 0)) (blkOk_by (by kernel_rfl)) (fun _ _ _ _ _ => (g_name 1 sc_is_row_in.nd)) (fun _ _ _ _ _ => c_nil) (fun _ _ _ _ _ => (d_call D_is_move ar_is_move hr (by decide) (a_cons (d_var 1) a_nil))))) a_nil)))))))
/-! ### sure_row -/
abbrev s_sure_row : Stmt := topS 26
abbrev ps_sure_row : List Str := ["row"]
theorem sc_sure_row : FnScope ["row", "own"] ps_sure_row (defScope s_sure_row) := ⟨rfl, rfl, rfl, by decide +kernel, rfl, by decide +kernel, by decide +kernel⟩
theorem ar_sure_row : Ar fn_sure_row ps_sure_row.length := runD_ar _ _ _
theorem ok_sure_row {f : Addr} {fd : FuncData} (F : Fun K "sure_row" "sure_row" s_sure_row f fd) (hm : mg "sure_row" = some (.ref f)) (T : Txt K mg) (D_tupled : DefOk P w K mg base 9 "tupled" s_tupled ps_tupled (fn_tupled 8)) (D_is_row_in : DefOk P w K mg base 5 "is_row_in" s_is_row_in ps_is_row_in fn_is_row_in) : DefOk P w K mg base 10 "sure_row" s_sure_row ps_sure_row fn_sure_row :=
  def_ok (N := ["row", "own"]) (k := 9) F hm sc_sure_row (fun _ _ _ _ _ _ us hl => match us, hl with | [_], _ => rfl) (fun cdv A outer s H E hr =>
    (b_cons (s_set (d_call D_tupled (ar_tupled 8) hr (by decide) (a_cons (d_var 0) a_nil)) (g_name 1 sc_sure_row.nd))
    (b_cons (s_if (t_not (t_val (d_call D_is_row_in ar_is_row_in hr (by decide) (a_cons (d_var 1) a_nil)))) (b_one s_never) b_nil)
    (b_one (s_ret (d_var 1))))))
/-! ### along_in -/
abbrev s_along_in : Stmt := topS 27
abbrev ps_along_in : List Str := ["stand", "row"]
theorem sc_along_in : FnScope ["stand", "row", "found", "move"] ps_along_in (defScope s_along_in) := ⟨rfl, rfl, rfl, by decide +kernel, rfl, by decide +kernel, by decide +kernel⟩
theorem ar_along_in : Ar fn_along_in ps_along_in.length := runD_ar _ _ _
theorem ok_along_in {f : Addr} {fd : FuncData} (F : Fun K "along_in" "along_in" s_along_in f fd) (hm : mg "along_in" = some (.ref f)) (T : Txt K mg) (D_moved_in : DefOk P w K mg base 5 "moved_in" s_moved_in ps_moved_in fn_moved_in) : DefOk P w K mg base 6 "along_in" s_along_in ps_along_in fn_along_in :=
  def_ok (N := ["stand", "row", "found", "move"]) (k := 5) F hm sc_along_in (fun _ _ _ _ _ _ us hl => match us, hl with | [_, _], _ => rfl) (fun cdv A outer s H E hr =>
    (b_cons (s_setO 2 sc_along_in.nd (o_lst (a_cons (d_var 0) a_nil)))
    (b_cons (s_for PassesOwn.never rfl (i_seq (d_var 1)) (g_name 3 sc_along_in.nd) (b_one (s_app 2 (d_call D_moved_in ar_moved_in hr (by decide) (a_cons (d_ixOwn 2 (d_neg d_int)) (a_cons (d_var 3) a_nil))))))
    (b_one (s_retO 2)))))
/-! ### behind_in -/
abbrev s_behind_in : Stmt := topS 28
abbrev ps_behind_in : List Str := ["stand", "row"]
theorem sc_behind_in : FnScope ["stand", "row", "move"] ps_behind_in (defScope s_behind_in) := ⟨rfl, rfl, rfl, by decide +kernel, rfl, by decide +kernel, by decide +kernel⟩
theorem ar_behind_in : Ar fn_behind_in ps_behind_in.length := runD_ar _ _ _
theorem ok_behind_in {f : Addr} {fd : FuncData} (F : Fun K "behind_in" "behind_in" s_behind_in f fd) (hm : mg "behind_in" = some (.ref f)) (T : Txt K mg) (D_moved_in : DefOk P w K mg base 5 "moved_in" s_moved_in ps_moved_in fn_moved_in) : DefOk P w K mg base 6 "behind_in" s_behind_in ps_behind_in fn_behind_in :=
  def_ok (N := ["stand", "row", "move"]) (k := 5) F hm sc_behind_in (fun _ _ _ _ _ _ us hl => match us, hl with | [_, _], _ => rfl) (fun cdv A outer s H E hr =>
    (b_cons (s_for PassesOwn.never rfl (i_seq (d_var 1)) (g_name 2 sc_behind_in.nd) (b_one (s_set (d_call D_moved_in ar_moved_in hr (by decide) (a_cons (d_var 0) (a_cons (d_var 2) a_nil))) (g_name 0 sc_behind_in.nd))))
    (b_one (s_ret (d_var 0)))))
/-! ### is_row -/
abbrev s_is_row : Stmt := topS 29
abbrev ps_is_row : List Str := ["thing"]
theorem sc_is_row : FnScope ["thing"] ps_is_row (defScope s_is_row) := ⟨rfl, rfl, rfl, by decide +kernel, rfl, by decide +kernel, by decide +kernel⟩
theorem ar_is_row : Ar fn_is_row ps_is_row.length := runD_ar _ _ _
theorem ok_is_row {f : Addr} {fd : FuncData} (F : Fun K "is_row" "is_row" s_is_row f fd) (hm : mg "is_row" = some (.ref f)) (T : Txt K mg) (D_is_row_in : DefOk P w K mg base 5 "is_row_in" s_is_row_in ps_is_row_in fn_is_row_in) : DefOk P w K mg base 6 "is_row" s_is_row ps_is_row fn_is_row :=
  def_ok (N := ["thing"]) (k := 5) F hm sc_is_row (fun _ _ _ _ _ _ us hl => match us, hl with | [_], _ => rfl) (fun cdv A outer s H E hr =>
    (b_one (s_ret (d_call D_is_row_in ar_is_row_in hr (by decide) (a_cons (d_var 0) a_nil)))))
/-! ### behind -/
abbrev s_behind : Stmt := topS 30
abbrev ps_behind : List Str := ["stand", "row"]
theorem sc_behind : FnScope ["stand", "row", "own"] ps_behind (defScope s_behind) := ⟨rfl, rfl, rfl, by decide +kernel, rfl, by decide +kernel, by decide +kernel⟩
theorem ar_behind : Ar fn_behind ps_behind.length := runD_ar _ _ _
theorem ok_behind {f : Addr} {fd : FuncData} (F : Fun K "behind" "behind" s_behind f fd) (hm : mg "behind" = some (.ref f)) (T : Txt K mg) (D_sure_stand : DefOk P w K mg base 10 "sure_stand" s_sure_stand ps_sure_stand fn_sure_stand) (D_behind_in : DefOk P w K mg base 6 "behind_in" s_behind_in ps_behind_in fn_behind_in) (D_sure_row : DefOk P w K mg base 10 "sure_row" s_sure_row ps_sure_row fn_sure_row) : DefOk P w K mg base 11 "behind" s_behind ps_behind fn_behind :=
  def_ok (N := ["stand", "row", "own"]) (k := 10) F hm sc_behind (fun _ _ _ _ _ _ us hl => match us, hl with | [_, _], _ => rfl) (fun cdv A outer s H E hr =>
    (b_cons (s_set (d_call D_sure_stand ar_sure_stand hr (by decide) (a_cons (d_var 0) a_nil)) (g_name 2 sc_behind.nd))
    (b_one (s_ret (d_call D_behind_in ar_behind_in hr (by decide) (a_cons (d_var 2) (a_cons (d_call D_sure_row ar_sure_row hr (by decide) (a_cons (d_var 1) a_nil)) a_nil)))))))
/-! ### stands_along -/
abbrev s_stands_along : Stmt := topS 31
abbrev ps_stands_along : List Str := ["stand", "row"]
theorem sc_stands_along : FnScope ["stand", "row", "own"] ps_stands_along (defScope s_stands_along) := ⟨rfl, rfl, rfl, by decide +kernel, rfl, by decide +kernel, by decide +kernel⟩
theorem ar_stands_along : Ar fn_stands_along ps_stands_along.length := runD_ar _ _ _
theorem ok_stands_along {f : Addr} {fd : FuncData} (F : Fun K "stands_along" "stands_along" s_stands_along f fd) (hm : mg "stands_along" = some (.ref f)) (T : Txt K mg) (D_sure_stand : DefOk P w K mg base 10 "sure_stand" s_sure_stand ps_sure_stand fn_sure_stand) (D_along_in : DefOk P w K mg base 6 "along_in" s_along_in ps_along_in fn_along_in) (D_sure_row : DefOk P w K mg base 10 "sure_row" s_sure_row ps_sure_row fn_sure_row) : DefOk P w K mg base 11 "stands_along" s_stands_along ps_stands_along fn_stands_along :=
  def_ok (N := ["stand", "row", "own"]) (k := 10) F hm sc_stands_along (fun _ _ _ _ _ _ us hl => match us, hl with | [_, _], _ => rfl) (fun cdv A outer s H E hr =>
    (b_cons (s_set (d_call D_sure_stand ar_sure_stand hr (by decide) (a_cons (d_var 0) a_nil)) (g_name 2 sc_stands_along.nd))
    (b_one (s_ret (d_tuple T.tuple (a_cons (d_call D_along_in ar_along_in hr (by decide) (a_cons (d_var 2) (a_cons (d_call D_sure_row ar_sure_row hr (by decide) (a_cons (d_var 1) a_nil)) a_nil))) a_nil))))))
/-! ### shapes_along -/
abbrev s_shapes_along : Stmt := topS 32
abbrev ps_shapes_along : List Str := ["stand", "row"]
theorem sc_shapes_along : FnScope ["stand", "row", "own"] ps_shapes_along (defScope s_shapes_along) := ⟨rfl, rfl, rfl, by decide +kernel, rfl, by decide +kernel, by decide +kernel⟩
theorem ar_shapes_along : Ar fn_shapes_along ps_shapes_along.length := runD_ar _ _ _
theorem ok_shapes_along {f : Addr} {fd : FuncData} (F : Fun K "shapes_along" "shapes_along" s_shapes_along f fd) (hm : mg "shapes_along" = some (.ref f)) (T : Txt K mg) (D_stands_along : DefOk P w K mg base 11 "stands_along" s_stands_along ps_stands_along fn_stands_along) : DefOk P w K mg base 12 "shapes_along" s_shapes_along ps_shapes_along fn_shapes_along :=
  def_ok (N := ["stand", "row", "own"]) (k := 11) F hm sc_shapes_along (fun _ _ _ _ _ _ us hl => match us, hl with | [_, _], _ => rfl) (fun cdv A outer s H E hr =>
    (b_one (s_ret (d_tuple T.tuple (a_cons (d_of (o_comp [("own", 2)] rfl sc_shapes_along.nd (i_seq (d_call D_stands_along ar_stands_along hr (by decide) (a_cons (d_var 0) (a_cons (d_var 1) a_nil)))) (blkOk_by (by kernel_rfl)) (fun _ _ _ _ _ => (g_name 2 sc_shapes_along.nd)) (fun _ _ _ _ _ => c_nil) (fun _ _ _ _ _ => (d_ix (d_var 2) d_int)))) a_nil)))))
/-! ### middles_along -/
abbrev s_middles_along : Stmt := topS 33
abbrev ps_middles_along : List Str := ["chest", "stand", "row"]
theorem sc_middles_along : FnScope ["chest", "stand", "row", "sides", "own", "one"] ps_middles_along (defScope s_middles_along) := ⟨rfl, rfl, rfl, by decide +kernel, rfl, by decide +kernel, by decide +kernel⟩
theorem ar_middles_along : Ar fn_middles_along ps_middles_along.length := runD_ar _ _ _
theorem ok_middles_along {f : Addr} {fd : FuncData} (F : Fun K "middles_along" "middles_along" s_middles_along f fd) (hm : mg "middles_along" = some (.ref f)) (T : Txt K mg) (D_sure_chest : DefOk P w K mg base 10 "sure_chest" s_sure_chest ps_sure_chest fn_sure_chest) (D_sure_stand : DefOk P w K mg base 10 "sure_stand" s_sure_stand ps_sure_stand fn_sure_stand) (D_middle_in : DefOk P w K mg base 2 "middle_in" s_middle_in ps_middle_in fn_middle_in) (D_along_in : DefOk P w K mg base 6 "along_in" s_along_in ps_along_in fn_along_in) (D_sure_row : DefOk P w K mg base 10 "sure_row" s_sure_row ps_sure_row fn_sure_row) : DefOk P w K mg base 11 "middles_along" s_middles_along ps_middles_along fn_middles_along :=
  def_ok (N := ["chest", "stand", "row", "sides", "own", "one"]) (k := 10) F hm sc_middles_along (fun _ _ _ _ _ _ us hl => match us, hl with | [_, _, _], _ => rfl) (fun cdv A outer s H E hr =>
    (b_cons (s_set (d_call D_sure_chest ar_sure_chest hr (by decide) (a_cons (d_var 0) a_nil)) (g_name 3 sc_middles_along.nd))
    (b_cons (s_set (d_call D_sure_stand ar_sure_stand hr (by decide) (a_cons (d_var 1) a_nil)) (g_name 4 sc_middles_along.nd))
    (b_one (s_ret (d_tuple T.tuple (a_cons (d_of (o_comp [("one", 5)] rfl sc_middles_along.nd (i_seq (d_call D_along_in ar_along_in hr (by decide) (a_cons (d_var 4) (a_cons (d_call D_sure_row ar_sure_row hr (by decide) (a_cons (d_var 2) a_nil)) a_nil)))) (blkOk_by (by kernel_rfl)) (fun _ _ _ _ _ => (g_name 5 sc_middles_along.nd)) (fun _ _ _ _ _ => c_nil) (fun _ _ _ _ _ => (d_call D_middle_in ar_middle_in hr (by decide) (a_cons (d_var 3) (a_cons (d_var 5) a_nil)))))) a_nil)))))))
/-! ### tips_alone -/
abbrev s_tips_alone : Stmt := topS 34
abbrev ps_tips_alone : List Str := ["row"]
theorem sc_tips_alone : FnScope ["row", "move"] ps_tips_alone (defScope s_tips_alone) := ⟨rfl, rfl, rfl, by decide +kernel, rfl, by decide +kernel, by decide +kernel⟩
theorem ar_tips_alone : Ar fn_tips_alone ps_tips_alone.length := runD_ar _ _ _
theorem ok_tips_alone {f : Addr} {fd : FuncData} (F : Fun K "tips_alone" "tips_alone" s_tips_alone f fd) (hm : mg "tips_alone" = some (.ref f)) (T : Txt K mg) (D_sure_row : DefOk P w K mg base 10 "sure_row" s_sure_row ps_sure_row fn_sure_row) : DefOk P w K mg base 11 "tips_alone" s_tips_alone ps_tips_alone fn_tips_alone :=
  def_ok (N := ["row", "move"]) (k := 10) F hm sc_tips_alone (fun _ _ _ _ _ _ us hl => match us, hl with | [_], _ => rfl) (fun cdv A outer s H E hr =>
    (b_one (s_ret (d_all rfl T.all (a_cons (d_of (o_comp [("move", 1)] rfl sc_tips_alone.nd (i_seq (d_call D_sure_row ar_sure_row hr (by decide) (a_cons (d_var 0) a_nil))) (blkOk_by (by kernel_rfl)) (fun _ _ _ _ _ => (g_name 1 sc_tips_alone.nd)) (fun _ _ _ _ _ => c_nil) (fun _ _ _ _ _ => (d_eq hr (d_ix (d_var 1) d_int) d_str)))) a_nil)))))
/-! ### turns_alone -/
abbrev s_turns_alone : Stmt := topS 35
abbrev ps_turns_alone : List Str := ["row"]
theorem sc_turns_alone : FnScope ["row", "move"] ps_turns_alone (defScope s_turns_alone) := ⟨rfl, rfl, rfl, by decide +kernel, rfl, by decide +kernel, by decide +kernel⟩
theorem ar_turns_alone : Ar fn_turns_alone ps_turns_alone.length := runD_ar _ _ _
theorem ok_turns_alone {f : Addr} {fd : FuncData} (F : Fun K "turns_alone" "turns_alone" s_turns_alone f fd) (hm : mg "turns_alone" = some (.ref f)) (T : Txt K mg) (D_sure_row : DefOk P w K mg base 10 "sure_row" s_sure_row ps_sure_row fn_sure_row) : DefOk P w K mg base 11 "turns_alone" s_turns_alone ps_turns_alone fn_turns_alone :=
  def_ok (N := ["row", "move"]) (k := 10) F hm sc_turns_alone (fun _ _ _ _ _ _ us hl => match us, hl with | [_], _ => rfl) (fun cdv A outer s H E hr =>
    (b_one (s_ret (d_all rfl T.all (a_cons (d_of (o_comp [("move", 1)] rfl sc_turns_alone.nd (i_seq (d_call D_sure_row ar_sure_row hr (by decide) (a_cons (d_var 0) a_nil))) (blkOk_by (by kernel_rfl)) (fun _ _ _ _ _ => (g_name 1 sc_turns_alone.nd)) (fun _ _ _ _ _ => c_nil) (fun _ _ _ _ _ => (d_eq hr (d_ix (d_var 1) d_int) d_str)))) a_nil)))))
/-! ### how_often -/
abbrev s_how_often : Stmt := topS 36
abbrev ps_how_often : List Str := ["row"]
theorem sc_how_often : FnScope ["row", "own", "tips", "turns", "move", "way", "hand"] ps_how_often (defScope s_how_often) := ⟨rfl, rfl, rfl, by decide +kernel, rfl, by decide +kernel, by decide +kernel⟩
theorem ar_how_often : Ar fn_how_often ps_how_often.length := runD_ar _ _ _
theorem ok_how_often {f : Addr} {fd : FuncData} (F : Fun K "how_often" "how_often" s_how_often f fd) (hm : mg "how_often" = some (.ref f)) (T : Txt K mg) (D_sure_row : DefOk P w K mg base 10 "sure_row" s_sure_row ps_sure_row fn_sure_row) : DefOk P w K mg base 11 "how_often" s_how_often ps_how_often fn_how_often :=
  def_ok (N := ["row", "own", "tips", "turns", "move", "way", "hand"]) (k := 10) F hm sc_how_often (fun _ _ _ _ _ _ us hl => match us, hl with | [_], _ => rfl) (fun cdv A outer s H E hr =>
    (b_cons (s_set (d_call D_sure_row ar_sure_row hr (by decide) (a_cons (d_var 0) a_nil)) (g_name 1 sc_how_often.nd))
    (b_cons (s_setLcD 2 [("way", 5)] rfl sc_how_often.nd (i_range T.range (a_cons d_int a_nil)) (blkOk_by (by kernel_rfl)) (fun _ _ _ _ _ => (g_name 5 sc_how_often.nd)) (fun _ _ _ _ _ => c_nil) (fun _ _ _ _ _ => (d_len T.len (a_cons (d_of (o_comp [("move", 4)] rfl sc_how_often.nd (i_seq (d_var 1)) (blkOk_by (by kernel_rfl)) (fun _ _ _ _ _ => (g_name 4 sc_how_often.nd)) (fun _ _ _ _ _ => (c_one (t_eq hr (d_var 4) (d_tup (a_cons d_str (a_cons (d_var 5) a_nil)))))) (fun _ _ _ _ _ => (d_var 4)))) a_nil))))
    (b_cons (s_setLcD 3 [("hand", 6)] rfl sc_how_often.nd (i_seq (d_tup (a_cons d_int (a_cons (d_neg d_int) a_nil)))) (blkOk_by (by kernel_rfl)) (fun _ _ _ _ _ => (g_name 6 sc_how_often.nd)) (fun _ _ _ _ _ => c_nil) (fun _ _ _ _ _ => (d_len T.len (a_cons (d_of (o_comp [("move", 4)] rfl sc_how_often.nd (i_seq (d_var 1)) (blkOk_by (by kernel_rfl)) (fun _ _ _ _ _ => (g_name 4 sc_how_often.nd)) (fun _ _ _ _ _ => (c_one ((w_and (t_eq hr (d_ix (d_var 4) d_int) d_str) (w_and1 (t_eq hr (d_ix (d_var 4) d_int) (d_var 6))))).pt)) (fun _ _ _ _ _ => (d_var 4)))) a_nil))))
    (b_one (s_ret (d_tuple T.tuple (a_cons (d_add (d_var 2) (d_var 3)) a_nil))))))))
/-! ### first_met -/
abbrev s_first_met : Stmt := topS 37
abbrev ps_first_met : List Str := ["stand", "row", "goal"]
theorem sc_first_met : FnScope ["stand", "row", "goal", "own", "moves", "last", "met", "number", "one"] ps_first_met (defScope s_first_met) := ⟨rfl, rfl, rfl, by decide +kernel, rfl, by decide +kernel, by decide +kernel⟩
theorem ar_first_met : Ar fn_first_met ps_first_met.length := runD_ar _ _ _
theorem ok_first_met {f : Addr} {fd : FuncData} (F : Fun K "first_met" "first_met" s_first_met f fd) (hm : mg "first_met" = some (.ref f)) (T : Txt K mg) (D_sure_stand : DefOk P w K mg base 10 "sure_stand" s_sure_stand ps_sure_stand fn_sure_stand) (D_sure_row : DefOk P w K mg base 10 "sure_row" s_sure_row ps_sure_row fn_sure_row) (D_along_in : DefOk P w K mg base 6 "along_in" s_along_in ps_along_in fn_along_in) : DefOk P w K mg base 11 "first_met" s_first_met ps_first_met fn_first_met :=
  def_ok (N := ["stand", "row", "goal", "own", "moves", "last", "met", "number", "one"]) (k := 10) F hm sc_first_met (fun _ _ _ _ _ _ us hl => match us, hl with | [_, _, _], _ => rfl) (fun cdv A outer s H E hr =>
    (b_cons (s_set (d_call D_sure_stand ar_sure_stand hr (by decide) (a_cons (d_var 0) a_nil)) (g_name 3 sc_first_met.nd))
    (b_cons (s_set (d_call D_sure_row ar_sure_row hr (by decide) (a_cons (d_var 1) a_nil)) (g_name 4 sc_first_met.nd))
    (b_cons (s_set (d_call D_sure_stand ar_sure_stand hr (by decide) (a_cons (d_var 2) a_nil)) (g_name 5 sc_first_met.nd))
    (b_cons (s_setLcD 6 [("number", 7), ("one", 8)] rfl sc_first_met.nd (i_enum T.enumerate (a_cons (d_call D_along_in ar_along_in hr (by decide) (a_cons (d_var 3) (a_cons (d_var 4) a_nil))) a_nil)) (blkOk_by (by kernel_rfl)) (fun _ _ _ _ _ => (g_pair rfl (gs_cons (g_name 7 sc_first_met.nd) (gs_cons (g_name 8 sc_first_met.nd) gs_nil)))) (fun _ _ _ _ _ => (c_one (t_eq hr (d_var 8) (d_var 5)))) (fun _ _ _ _ _ => (d_var 7)))
    (b_one (s_ret (d_if (t_ne hr (d_var 6) (d_of (o_lst a_nil))) (d_ix (d_var 6) d_int) d_non))))))))
/-! ### _law_box -/
abbrev s_law_box : Stmt := topS 39
abbrev ps_law_box : List Str := ["_law_script", "_law_k"]
theorem sc_law_box : FnScope ["_law_script", "_law_k", "_law_bit_so"] ps_law_box (defScope s_law_box) := ⟨rfl, rfl, rfl, by decide +kernel, rfl, by decide +kernel, by decide +kernel⟩
theorem ar_law_box : Ar fn_law_box ps_law_box.length := runD_ar _ _ _
theorem ok_law_box {f : Addr} {fd : FuncData} (F : Fun K "_law_box" "_law_box" s_law_box f fd) (hm : mg "_law_box" = some (.ref f)) (T : Txt K mg) : DefOk P w K mg base 2 "_law_box" s_law_box ps_law_box fn_law_box :=
  def_ok (N := ["_law_script", "_law_k", "_law_bit_so"]) (k := 1) F hm sc_law_box (fun _ _ _ _ _ _ us hl => match us, hl with | [_, _], _ => rfl) (fun cdv A outer s H E hr =>
    (b_cons (s_set (d_if (t_lt (d_var 1) (d_len T.len (a_cons (d_var 0) a_nil))) (d_ix (d_var 0) (d_var 1)) d_int) (g_name 2 sc_law_box.nd))
    (b_one (s_retL (o_lst (a_cons (d_mul (d_abs T.abs (a_cons (d_var 2) a_nil)) (d_toInt T.int (a_cons (d_ge (d_abs T.abs (a_cons (d_var 2) a_nil)) (d_pow d_int d_int)) a_nil))) (a_cons (d_add (d_add (d_mod (d_toInt T.int (a_cons (d_var 2) a_nil)) d_int) (d_mul d_int (d_var 1))) d_int) (a_cons d_int a_nil))))))))
/-! ### _law_take -/
abbrev s_law_take : Stmt := topS 40
abbrev ps_law_take : List Str := ["_law_tin", "_law_below_so"]
theorem sc_law_take : FnScope ["_law_tin", "_law_below_so", "_law_drawn", "_law_once_so", "_law_wide_so", "_law_twice_so"] ps_law_take (defScope s_law_take) := ⟨rfl, rfl, rfl, by decide +kernel, rfl, by decide +kernel, by decide +kernel⟩
theorem ar_law_take : Ar fn_law_take ps_law_take.length := runD_ar _ _ _
theorem ok_law_take {f : Addr} {fd : FuncData} (F : Fun K "_law_take" "_law_take" s_law_take f fd) (hm : mg "_law_take" = some (.ref f)) (T : Txt K mg) : DefOk P w K mg base 2 "_law_take" s_law_take ps_law_take fn_law_take :=
  def_ok (N := ["_law_tin", "_law_below_so", "_law_drawn", "_law_once_so", "_law_wide_so", "_law_twice_so"]) (k := 1) F hm sc_law_take (fun _ _ _ _ _ _ us hl => match us, hl with | [_, _], _ => rfl) (fun cdv A outer s H E hr =>
    (b_cons (s_if (t_gt (d_ixOwn 0 d_int) d_int) (b_cons (s_set (d_mod (d_toInt T.int (a_cons (d_ixOwn 0 d_int) a_nil)) (d_var 1)) (g_name 2 sc_law_take.nd))
    (b_cons (s_setI 0 (d_div (d_ixOwn 0 d_int) (d_var 1)) d_int)
    (b_one (s_ret (d_var 2))))) b_nil)
    (b_cons (s_setI 0 (d_add (d_ixOwn 0 d_int) d_int) d_int)
    (b_cons (s_set (d_mod (d_toInt T.int (a_cons (d_mul (d_add (d_ixOwn 0 d_int) (d_mul d_int (d_ixOwn 0 d_int))) (d_add d_int (d_ixOwn 0 d_int))) a_nil)) d_int) (g_name 3 sc_law_take.nd))
    (b_cons (s_set (d_add (d_mod (d_toInt T.int (a_cons (d_var 3) a_nil)) d_int) d_int) (g_name 4 sc_law_take.nd))
    (b_cons (s_set (d_mod (d_toInt T.int (a_cons (d_mul (d_add (d_add (d_var 3) (d_ixOwn 0 d_int)) (d_div (d_ixOwn 0 d_int) d_int)) (d_var 4)) a_nil)) d_int) (g_name 5 sc_law_take.nd))
    (b_one (s_ret (d_mod (d_toInt T.int (a_cons (d_div (d_mod (d_toInt T.int (a_cons (d_add (d_mul (d_var 5) d_int) (d_var 3)) a_nil)) d_int) d_int) a_nil)) (d_var 1))))))))))
/-! ### _law_cells -/
abbrev s_law_cells : Stmt := topS 41
abbrev ps_law_cells : List Str := ["_law_script", "_law_most_so"]
theorem sc_law_cells : FnScope ["_law_script", "_law_most_so", "_law_cells_so", "_law_k", "_law_bit_so", "_law_at_so"] ps_law_cells (defScope s_law_cells) := ⟨rfl, rfl, rfl, by decide +kernel, rfl, by decide +kernel, by decide +kernel⟩
theorem ar_law_cells : Ar fn_law_cells ps_law_cells.length := runD_ar _ _ _
theorem ok_law_cells {f : Addr} {fd : FuncData} (F : Fun K "_law_cells" "_law_cells" s_law_cells f fd) (hm : mg "_law_cells" = some (.ref f)) (T : Txt K mg) : DefOk P w K mg base 2 "_law_cells" s_law_cells ps_law_cells fn_law_cells :=
  def_ok (N := ["_law_script", "_law_most_so", "_law_cells_so", "_law_k", "_law_bit_so", "_law_at_so"]) (k := 1) F hm sc_law_cells (fun _ _ _ _ _ _ us hl => match us, hl with | [_, _], _ => rfl) (fun cdv A outer s H E hr =>
    (b_cons (s_setO 2 sc_law_cells.nd (o_or (o_list T.list (a_cons (d_slice (d_var 0) p_none (p_some (d_var 1))) a_nil)) (o_lst (a_cons d_int a_nil))))
    (b_cons (s_for PassesOwn.never rfl (i_enum T.enumerate (a_cons (d_slice (d_var 0) (p_some (d_var 1)) (p_some d_int)) a_nil)) (g_pair rfl (gs_cons (g_name 3 sc_law_cells.nd) (gs_cons (g_name 4 sc_law_cells.nd) gs_nil))) (b_cons (s_set (d_mod (d_toInt T.int (a_cons (d_var 3) a_nil)) (d_var 1)) (g_name 5 sc_law_cells.nd))
    (b_one (s_setI 2 (d_add (d_ixOwn 2 (d_var 5)) (d_mul (d_var 4) (d_add (d_var 3) d_int))) (d_var 5)))))
    (b_one (s_retO 2)))))
/-! ### _law_of -/
abbrev s_law_of : Stmt := topS 42
abbrev ps_law_of : List Str := ["_law_tin", "_law_goods_so"]
theorem sc_law_of : FnScope ["_law_tin", "_law_goods_so"] ps_law_of (defScope s_law_of) := ⟨rfl, rfl, rfl, by decide +kernel, rfl, by decide +kernel, by decide +kernel⟩
theorem ar_law_of : Ar fn_law_of ps_law_of.length := runD_ar _ _ _
theorem ok_law_of {f : Addr} {fd : FuncData} (F : Fun K "_law_of" "_law_of" s_law_of f fd) (hm : mg "_law_of" = some (.ref f)) (T : Txt K mg) (D_law_take : DefOk P w K mg base 2 "_law_take" s_law_take ps_law_take fn_law_take) : DefOk P w K mg base 3 "_law_of" s_law_of ps_law_of fn_law_of :=
  def_ok (N := ["_law_tin", "_law_goods_so"]) (k := 2) F hm sc_law_of (fun _ _ _ _ _ _ us hl => match us, hl with | [_, _], _ => rfl) (fun cdv A outer s H E hr =>
    (b_one (s_ret (d_ix (d_var 1) (d_callO 0 D_law_take ar_law_take hr (by decide) (a_cons (d_len T.len (a_cons (d_var 1) a_nil)) a_nil))))))
/-! ### _law_lists -/
abbrev s_law_lists : Stmt := topS 43
abbrev ps_law_lists : List Str := ["_law_matter"]
theorem sc_law_lists : FnScope ["_law_matter", "_law_bit"] ps_law_lists (defScope s_law_lists) := ⟨rfl, rfl, rfl, by decide +kernel, rfl, by decide +kernel, by decide +kernel⟩
theorem ar_law_lists : ∀ n : Nat, Ar (fn_law_lists n) ps_law_lists.length
  | 0 => ⟨fun _ h => absurd rfl h⟩
  | _ + 1 => runD_ar _ _ _
theorem ok_law_lists {f : Addr} {fd : FuncData} (F : Fun K "_law_lists" "_law_lists" s_law_lists f fd) (hm : mg "_law_lists" = some (.ref f)) (T : Txt K mg) : ∀ n : Nat, DefOk P w K mg base (n + 1) "_law_lists" s_law_lists ps_law_lists (fn_law_lists n)
  | 0 => def_none F hm (fun _ _ _ _ _ _ us hl => match us, hl with | [_], _ => rfl)
  | n + 1 => have D_self : DefOk P w K mg base (n + 1) "_law_lists" s_law_lists ps_law_lists (fn_law_lists n) := ok_law_lists F hm T n
    def_ok F hm sc_law_lists (fun _ _ _ _ _ _ us hl => match us, hl with | [_], _ => rfl) (fun cdv A outer s H E hr =>
    (b_one (s_ret (d_if (t_val (d_isi2 .list .tuple T.isinstance (d_var 0) (pe_ty .list T.list) (pe_ty .tuple T.tuple))) (d_of (o_comp [("_law_bit", 1)] rfl sc_law_lists.nd (i_seq (d_var 0)) (blkOk_by (by kernel_rfl)) (fun _ _ _ _ _ => (g_name 1 sc_law_lists.nd)) (fun _ _ _ _ _ => c_nil) (fun _ _ _ _ _ => (d_call D_self (ar_law_lists n) hr (Nat.le_refl _) (a_cons (d_var 1) a_nil))))) (d_var 0)))))
/-! ### _law_same -/
abbrev s_law_same : Stmt := topS 44
abbrev ps_law_same : List Str := ["_law_got", "_law_due"]
theorem sc_law_same : FnScope ["_law_got", "_law_due", "_law_mine", "_law_its"] ps_law_same (defScope s_law_same) := ⟨rfl, rfl, rfl, by decide +kernel, rfl, by decide +kernel, by decide +kernel⟩
theorem ar_law_same : ∀ n : Nat, Ar (fn_law_same n) ps_law_same.length
  | 0 => ⟨fun _ h => absurd rfl h⟩
  | _ + 1 => runD_ar _ _ _
theorem ok_law_same {f : Addr} {fd : FuncData} (F : Fun K "_law_same" "_law_same" s_law_same f fd) (hm : mg "_law_same" = some (.ref f)) (T : Txt K mg) : ∀ n : Nat, DefOk P w K mg base (n + 1) "_law_same" s_law_same ps_law_same (fn_law_same n)
  | 0 => def_none F hm (fun _ _ _ _ _ _ us hl => match us, hl with | [_, _], _ => rfl)
  | n + 1 => have D_self : DefOk P w K mg base (n + 1) "_law_same" s_law_same ps_law_same (fn_law_same n) := ok_law_same F hm T n
    def_ok F hm sc_law_same (fun _ _ _ _ _ _ us hl => match us, hl with | [_, _], _ => rfl) (fun cdv A outer s H E hr =>
    (b_cons (s_if (t_val (d_isi2 .list .tuple T.isinstance (d_var 1) (pe_ty .list T.list) (pe_ty .tuple T.tuple))) (b_cons (s_if ((w_or (t_ne hr (d_isi .list T.isinstance (d_var 0) (pe_ty .list T.list)) (d_isi .list T.isinstance (d_var 1) (pe_ty .list T.list))) (w_or1 (t_ne hr (d_isi .tuple T.isinstance (d_var 0) (pe_ty .tuple T.tuple)) (d_isi .tuple T.isinstance (d_var 1) (pe_ty .tuple T.tuple)))))).pt (b_one (s_ret d_bl)) b_nil)
    (b_one (s_ret (d_and (d_eq hr (d_len T.len (a_cons (d_var 0) a_nil)) (d_len T.len (a_cons (d_var 1) a_nil))) (d_one (d_all rfl T.all (a_cons (d_of (o_comp [("_law_mine", 2), ("_law_its", 3)] rfl sc_law_same.nd (i_zip T.zip (a_cons (d_var 0) (a_cons (d_var 1) a_nil))) (blkOk_by (by kernel_rfl)) (fun _ _ _ _ _ => (g_pair rfl (gs_cons (g_name 2 sc_law_same.nd) (gs_cons (g_name 3 sc_law_same.nd) gs_nil)))) (fun _ _ _ _ _ => c_nil) (fun _ _ _ _ _ => (d_call D_self (ar_law_same n) hr (Nat.le_refl _) (a_cons (d_var 2) (a_cons (d_var 3) a_nil)))))) a_nil))))))) b_nil)
    (b_cons (s_if ((w_or (t_isN (d_var 1)) (w_or1 (t_val (d_isi2 .bool .str T.isinstance (d_var 1) (pe_ty .bool T.bool) (pe_ty .str T.str)))))).pt (b_one (s_ret (d_and (d_eq hr (d_var 0) (d_var 1)) (d_and (d_eq hr (d_isi .bool T.isinstance (d_var 0) (pe_ty .bool T.bool)) (d_isi .bool T.isinstance (d_var 1) (pe_ty .bool T.bool))) (d_one (d_eq hr (d_isN (d_var 0)) (d_isN (d_var 1)))))))) b_nil)
    (b_one (s_ret (d_and (d_isi .int T.isinstance (d_var 0) (pe_ty .int T.int)) (d_and (d_not (d_isi .bool T.isinstance (d_var 0) (pe_ty .bool T.bool))) (d_one (d_eq hr (d_var 0) (d_var 1))))))))))
/-! ### _law_home -/
abbrev s_law_home : Stmt := topS 45
abbrev ps_law_home : List Str := []
theorem sc_law_home : FnScope ["_law_none"] ps_law_home (defScope s_law_home) := ⟨rfl, rfl, rfl, by decide +kernel, rfl, by decide +kernel, by decide +kernel⟩
theorem ar_law_home : Ar fn_law_home ps_law_home.length := runD_ar _ _ _
theorem ok_law_home {f : Addr} {fd : FuncData} (F : Fun K "_law_home" "_law_home" s_law_home f fd) (hm : mg "_law_home" = some (.ref f)) (T : Txt K mg) : DefOk P w K mg base 2 "_law_home" s_law_home ps_law_home fn_law_home :=
  def_ok (N := ["_law_none"]) (k := 1) F hm sc_law_home (fun _ _ _ _ _ _ us hl => match us, hl with | [], _ => rfl) (fun cdv A outer s H E hr =>
    (b_one (s_ret (d_tup (a_cons (d_tup (a_cons d_int (a_cons d_int (a_cons d_int a_nil)))) (a_cons (d_tup (a_cons d_int (a_cons d_int (a_cons d_int a_nil)))) (a_cons (d_tup (a_cons d_int (a_cons d_int (a_cons d_int a_nil)))) (a_cons (d_tup (a_cons d_int (a_cons d_int (a_cons d_int a_nil)))) a_nil))))))))
/-! ### _law_poses -/
abbrev s_law_poses : Stmt := topS 46
abbrev ps_law_poses : List Str := []
theorem sc_law_poses : FnScope ["_law_none"] ps_law_poses (defScope s_law_poses) := ⟨rfl, rfl, rfl, by decide +kernel, rfl, by decide +kernel, by decide +kernel⟩
theorem ar_law_poses : Ar fn_law_poses ps_law_poses.length := runD_ar _ _ _
theorem ok_law_poses {f : Addr} {fd : FuncData} (F : Fun K "_law_poses" "_law_poses" s_law_poses f fd) (hm : mg "_law_poses" = some (.ref f)) (T : Txt K mg) : DefOk P w K mg base 2 "_law_poses" s_law_poses ps_law_poses fn_law_poses :=
  def_ok (N := ["_law_none"]) (k := 1) F hm sc_law_poses (fun _ _ _ _ _ _ us hl => match us, hl with | [], _ => rfl) (fun cdv A outer s H E hr =>
    (b_one (s_ret (d_of (o_lst (a_cons (d_tup (a_cons d_int (a_cons d_int (a_cons d_int a_nil)))) (a_cons (d_tup (a_cons d_int (a_cons d_int (a_cons d_int a_nil)))) (a_cons (d_tup (a_cons d_int (a_cons d_int (a_cons d_int a_nil)))) (a_cons (d_tup (a_cons d_int (a_cons d_int (a_cons d_int a_nil)))) (a_cons (d_tup (a_cons d_int (a_cons d_int (a_cons d_int a_nil)))) (a_cons (d_tup (a_cons d_int (a_cons d_int (a_cons d_int a_nil)))) a_nil)))))))))))
/-! ### _law_tips -/
abbrev s_law_tips : Stmt := topS 47
abbrev ps_law_tips : List Str := []
theorem sc_law_tips : FnScope ["_law_none", "_law_k"] ps_law_tips (defScope s_law_tips) := ⟨rfl, rfl, rfl, by decide +kernel, rfl, by decide +kernel, by decide +kernel⟩
theorem ar_law_tips : Ar fn_law_tips ps_law_tips.length := runD_ar _ _ _
theorem ok_law_tips {f : Addr} {fd : FuncData} (F : Fun K "_law_tips" "_law_tips" s_law_tips f fd) (hm : mg "_law_tips" = some (.ref f)) (T : Txt K mg) : DefOk P w K mg base 2 "_law_tips" s_law_tips ps_law_tips fn_law_tips :=
  def_ok (N := ["_law_none", "_law_k"]) (k := 1) F hm sc_law_tips (fun _ _ _ _ _ _ us hl => match us, hl with | [], _ => rfl) (fun cdv A outer s H E hr =>
    (b_one (s_ret (d_of (o_comp [("_law_k", 1)] rfl sc_law_tips.nd (i_range T.range (a_cons d_int a_nil)) (blkOk_by (by kernel_rfl)) (fun _ _ _ _ _ => (g_name 1 sc_law_tips.nd)) (fun _ _ _ _ _ => c_nil) (fun _ _ _ _ _ => (d_tup (a_cons d_str (a_cons (d_var 1) a_nil)))))))))
/-! ### _law_turns -/
abbrev s_law_turns : Stmt := topS 48
abbrev ps_law_turns : List Str := []
theorem sc_law_turns : FnScope ["_law_none", "_law_k"] ps_law_turns (defScope s_law_turns) := ⟨rfl, rfl, rfl, by decide +kernel, rfl, by decide +kernel, by decide +kernel⟩
theorem ar_law_turns : Ar fn_law_turns ps_law_turns.length := runD_ar _ _ _
theorem ok_law_turns {f : Addr} {fd : FuncData} (F : Fun K "_law_turns" "_law_turns" s_law_turns f fd) (hm : mg "_law_turns" = some (.ref f)) (T : Txt K mg) : DefOk P w K mg base 2 "_law_turns" s_law_turns ps_law_turns fn_law_turns :=
  def_ok (N := ["_law_none", "_law_k"]) (k := 1) F hm sc_law_turns (fun _ _ _ _ _ _ us hl => match us, hl with | [], _ => rfl) (fun cdv A outer s H E hr =>
    (b_one (s_ret (d_add (d_of (o_comp [("_law_k", 1)] rfl sc_law_turns.nd (i_range T.range (a_cons d_int a_nil)) (blkOk_by (by kernel_rfl)) (fun _ _ _ _ _ => (g_name 1 sc_law_turns.nd)) (fun _ _ _ _ _ => c_nil) (fun _ _ _ _ _ => (d_tup (a_cons d_str (a_cons (d_var 1) (a_cons d_int a_nil))))))) (d_of (o_comp [("_law_k", 1)] rfl sc_law_turns.nd (i_range T.range (a_cons d_int a_nil)) (blkOk_by (by kernel_rfl)) (fun _ _ _ _ _ => (g_name 1 sc_law_turns.nd)) (fun _ _ _ _ _ => c_nil) (fun _ _ _ _ _ => (d_tup (a_cons d_str (a_cons (d_var 1) (a_cons (d_neg d_int) a_nil)))))))))))
/-! ### _law_walk -/
abbrev s_law_walk : Stmt := topS 49
abbrev ps_law_walk : List Str := ["_law_tin", "_law_many_so", "_law_steps_so"]
theorem sc_law_walk : FnScope ["_law_tin", "_law_many_so", "_law_steps_so", "_law_lap"] ps_law_walk (defScope s_law_walk) := ⟨rfl, rfl, rfl, by decide +kernel, rfl, by decide +kernel, by decide +kernel⟩
theorem ar_law_walk : Ar fn_law_walk ps_law_walk.length := runD_ar _ _ _
theorem ok_law_walk {f : Addr} {fd : FuncData} (F : Fun K "_law_walk" "_law_walk" s_law_walk f fd) (hm : mg "_law_walk" = some (.ref f)) (T : Txt K mg) (D_law_of : DefOk P w K mg base 3 "_law_of" s_law_of ps_law_of fn_law_of) : DefOk P w K mg base 4 "_law_walk" s_law_walk ps_law_walk fn_law_walk :=
  def_ok (N := ["_law_tin", "_law_many_so", "_law_steps_so", "_law_lap"]) (k := 3) F hm sc_law_walk (fun _ _ _ _ _ _ us hl => match us, hl with | [_, _, _], _ => rfl) (fun cdv A outer s H E hr =>
    (b_one (s_ret (d_tuple T.tuple (a_cons (d_of (o_comp [("_law_lap", 3)] rfl sc_law_walk.nd (i_range T.range (a_cons (d_var 1) a_nil)) (blkOk_by (by kernel_rfl)) (fun _ _ _ _ _ => (g_name 3 sc_law_walk.nd)) (fun _ _ _ _ _ => c_nil) (fun _ _ _ _ _ => (d_callO 0 D_law_of ar_law_of hr (by decide) (a_cons (d_var 2) a_nil))))) a_nil)))))
/-! ### _law_trunk -/
abbrev s_law_trunk : Stmt := topS 50
abbrev ps_law_trunk : List Str := ["_law_tin"]
theorem sc_law_trunk : FnScope ["_law_tin", "_law_found", "_law_lap"] ps_law_trunk (defScope s_law_trunk) := ⟨rfl, rfl, rfl, by decide +kernel, rfl, by decide +kernel, by decide +kernel⟩
theorem ar_law_trunk : Ar fn_law_trunk ps_law_trunk.length := runD_ar _ _ _
theorem ok_law_trunk {f : Addr} {fd : FuncData} (F : Fun K "_law_trunk" "_law_trunk" s_law_trunk f fd) (hm : mg "_law_trunk" = some (.ref f)) (T : Txt K mg) (D_law_take : DefOk P w K mg base 2 "_law_take" s_law_take ps_law_take fn_law_take) : DefOk P w K mg base 3 "_law_trunk" s_law_trunk ps_law_trunk fn_law_trunk :=
  def_ok (N := ["_law_tin", "_law_found", "_law_lap"]) (k := 2) F hm sc_law_trunk (fun _ _ _ _ _ _ us hl => match us, hl with | [_], _ => rfl) (fun cdv A outer s H E hr =>
    (b_cons (s_setLc 1 [("_law_lap", 2)] rfl sc_law_trunk.nd (i_range T.range (a_cons d_int a_nil)) (blkOk_by (by kernel_rfl)) (fun _ _ _ _ _ => (g_name 2 sc_law_trunk.nd)) (fun _ _ _ _ _ => c_nil) (fun _ _ _ _ _ => (d_add d_int (d_callO 0 D_law_take ar_law_take hr (by decide) (a_cons d_int a_nil)))))
    (b_cons (s_if (t_eq hr (d_callO 0 D_law_take ar_law_take hr (by decide) (a_cons d_int a_nil)) d_int) (b_one (s_setI 1 (d_ixOwn 1 (d_callO 0 D_law_take ar_law_take hr (by decide) (a_cons d_int a_nil))) d_int)) b_nil)
    (b_one (s_ret (d_tupOwn 1 T.tuple))))))
/-! ### _law_box_of -/
abbrev s_law_box_of : Stmt := topS 51
abbrev ps_law_box_of : List Str := ["_law_sides_so", "_law_spot"]
theorem sc_law_box_of : FnScope ["_law_sides_so", "_law_spot", "_law_pose", "_law_xs_so", "_law_ys_so", "_law_looks_so", "_law_east_so", "_law_north_so", "_law_axes_so", "_law_place_so", "_law_side_so", "_law_way_so", "_law_own", "_law_its"] ps_law_box_of (defScope s_law_box_of) := ⟨rfl, rfl, rfl, by decide +kernel, rfl, by decide +kernel, by decide +kernel⟩
theorem ar_law_box_of : Ar fn_law_box_of ps_law_box_of.length := runD_ar _ _ _
theorem ok_law_box_of {f : Addr} {fd : FuncData} (F : Fun K "_law_box_of" "_law_box_of" s_law_box_of f fd) (hm : mg "_law_box_of" = some (.ref f)) (T : Txt K mg) : DefOk P w K mg base 2 "_law_box_of" s_law_box_of ps_law_box_of fn_law_box_of :=
  def_ok (N := ["_law_sides_so", "_law_spot", "_law_pose", "_law_xs_so", "_law_ys_so", "_law_looks_so", "_law_east_so", "_law_north_so", "_law_axes_so", "_law_place_so", "_law_side_so", "_law_way_so", "_law_own", "_law_its"]) (k := 1) F hm sc_law_box_of (fun _ _ _ _ _ _ us hl => match us, hl with | [_, _], _ => rfl) (fun cdv A outer s H E hr =>
    (b_cons (s_set (d_var 1) (g_tup rfl (gs_cons (g_name 2 sc_law_box_of.nd) (gs_cons (g_name 3 sc_law_box_of.nd) (gs_cons (g_name 4 sc_law_box_of.nd) (gs_cons (g_name 5 sc_law_box_of.nd) gs_nil))))))
    (b_cons (s_set (d_sum rfl T.sum (a_cons (d_of (o_comp [("_law_own", 12), ("_law_its", 13)] rfl sc_law_box_of.nd (i_zip T.zip (a_cons (d_var 3) (a_cons (d_var 0) a_nil))) (blkOk_by (by kernel_rfl)) (fun _ _ _ _ _ => (g_pair rfl (gs_cons (g_name 12 sc_law_box_of.nd) (gs_cons (g_name 13 sc_law_box_of.nd) gs_nil)))) (fun _ _ _ _ _ => c_nil) (fun _ _ _ _ _ => (d_mul (d_var 12) (d_var 13))))) a_nil)) (g_name 6 sc_law_box_of.nd))
    (b_cons (s_set (d_sum rfl T.sum (a_cons (d_of (o_comp [("_law_own", 12), ("_law_its", 13)] rfl sc_law_box_of.nd (i_zip T.zip (a_cons (d_var 4) (a_cons (d_var 0) a_nil))) (blkOk_by (by kernel_rfl)) (fun _ _ _ _ _ => (g_pair rfl (gs_cons (g_name 12 sc_law_box_of.nd) (gs_cons (g_name 13 sc_law_box_of.nd) gs_nil)))) (fun _ _ _ _ _ => c_nil) (fun _ _ _ _ _ => (d_mul (d_var 12) (d_var 13))))) a_nil)) (g_name 7 sc_law_box_of.nd))
    (b_cons (s_setO 8 sc_law_box_of.nd (o_lst (a_cons d_non (a_cons d_non (a_cons d_non a_nil)))))
    (b_cons (s_for PassesOwn.never rfl (i_enum T.enumerate (a_cons (d_var 2) a_nil)) (g_pair rfl (gs_cons (g_name 9 sc_law_box_of.nd) (gs_cons (g_name 10 sc_law_box_of.nd) gs_nil))) (b_cons (s_setO 11 sc_law_box_of.nd (o_lst (a_cons d_int (a_cons d_int (a_cons d_int a_nil)))))
    (b_cons (s_setI 11 (d_ix (d_var 5) (d_var 10)) (d_var 9))
    (b_one (s_setI 8 (d_tupOwn 11 T.tuple) (d_var 10))))))
    (b_one (s_ret (d_tup (a_cons (d_tup (a_cons (d_var 6) (a_cons (d_var 7) (a_cons (d_ix (d_var 0) (d_ix (d_var 2) d_int)) a_nil)))) (a_cons (d_tupOwn 8 T.tuple) a_nil)))))))))))
/-! ### _law_half -/
abbrev s_law_half : Stmt := topS 52
abbrev ps_law_half : List Str := ["_law_sides_so", "_law_axes_so", "_law_place_so"]
theorem sc_law_half : FnScope ["_law_sides_so", "_law_axes_so", "_law_place_so", "_law_k"] ps_law_half (defScope s_law_half) := ⟨rfl, rfl, rfl, by decide +kernel, rfl, by decide +kernel, by decide +kernel⟩
theorem ar_law_half : Ar fn_law_half ps_law_half.length := runD_ar _ _ _
theorem ok_law_half {f : Addr} {fd : FuncData} (F : Fun K "_law_half" "_law_half" s_law_half f fd) (hm : mg "_law_half" = some (.ref f)) (T : Txt K mg) : DefOk P w K mg base 2 "_law_half" s_law_half ps_law_half fn_law_half :=
  def_ok (N := ["_law_sides_so", "_law_axes_so", "_law_place_so", "_law_k"]) (k := 1) F hm sc_law_half (fun _ _ _ _ _ _ us hl => match us, hl with | [_, _, _], _ => rfl) (fun cdv A outer s H E hr =>
    (b_one (s_ret (d_sum rfl T.sum (a_cons (d_of (o_comp [("_law_k", 3)] rfl sc_law_half.nd (i_range T.range (a_cons d_int a_nil)) (blkOk_by (by kernel_rfl)) (fun _ _ _ _ _ => (g_name 3 sc_law_half.nd)) (fun _ _ _ _ _ => (c_one (t_ne hr (d_ix (d_ix (d_var 1) (d_var 3)) (d_var 2)) d_int))) (fun _ _ _ _ _ => (d_ix (d_var 0) (d_var 3))))) a_nil)))))
/-! ### _law_rolled -/
abbrev s_law_rolled : Stmt := topS 53
abbrev ps_law_rolled : List Str := ["_law_way_so", "_law_point"]
theorem sc_law_rolled : FnScope ["_law_way_so", "_law_point", "_law_x", "_law_y", "_law_z"] ps_law_rolled (defScope s_law_rolled) := ⟨rfl, rfl, rfl, by decide +kernel, rfl, by decide +kernel, by decide +kernel⟩
theorem ar_law_rolled : Ar fn_law_rolled ps_law_rolled.length := runD_ar _ _ _
theorem ok_law_rolled {f : Addr} {fd : FuncData} (F : Fun K "_law_rolled" "_law_rolled" s_law_rolled f fd) (hm : mg "_law_rolled" = some (.ref f)) (T : Txt K mg) : DefOk P w K mg base 2 "_law_rolled" s_law_rolled ps_law_rolled fn_law_rolled :=
  def_ok (N := ["_law_way_so", "_law_point", "_law_x", "_law_y", "_law_z"]) (k := 1) F hm sc_law_rolled (fun _ _ _ _ _ _ us hl => match us, hl with | [_, _], _ => rfl) (fun cdv A outer s H E hr =>
    (b_cons (s_set (d_var 1) (g_tup rfl (gs_cons (g_name 2 sc_law_rolled.nd) (gs_cons (g_name 3 sc_law_rolled.nd) (gs_cons (g_name 4 sc_law_rolled.nd) gs_nil)))))
    (b_one (s_ret (d_ix (d_of (o_lst (a_cons (d_tup (a_cons (d_var 4) (a_cons (d_var 3) (a_cons (d_neg (d_var 2)) a_nil)))) (a_cons (d_tup (a_cons (d_var 2) (a_cons (d_var 4) (a_cons (d_neg (d_var 3)) a_nil)))) (a_cons (d_tup (a_cons (d_neg (d_var 4)) (a_cons (d_var 3) (a_cons (d_var 2) a_nil)))) (a_cons (d_tup (a_cons (d_var 2) (a_cons (d_neg (d_var 4)) (a_cons (d_var 3) a_nil)))) a_nil)))))) (d_var 0))))))
/-! ### _law_round -/
abbrev s_law_round : Stmt := topS 54
abbrev ps_law_round : List Str := ["_law_hand_so", "_law_point"]
theorem sc_law_round : FnScope ["_law_hand_so", "_law_point", "_law_x", "_law_y", "_law_z"] ps_law_round (defScope s_law_round) := ⟨rfl, rfl, rfl, by decide +kernel, rfl, by decide +kernel, by decide +kernel⟩
theorem ar_law_round : Ar fn_law_round ps_law_round.length := runD_ar _ _ _
theorem ok_law_round {f : Addr} {fd : FuncData} (F : Fun K "_law_round" "_law_round" s_law_round f fd) (hm : mg "_law_round" = some (.ref f)) (T : Txt K mg) : DefOk P w K mg base 2 "_law_round" s_law_round ps_law_round fn_law_round :=
  def_ok (N := ["_law_hand_so", "_law_point", "_law_x", "_law_y", "_law_z"]) (k := 1) F hm sc_law_round (fun _ _ _ _ _ _ us hl => match us, hl with | [_, _], _ => rfl) (fun cdv A outer s H E hr =>
    (b_cons (s_set (d_var 1) (g_tup rfl (gs_cons (g_name 2 sc_law_round.nd) (gs_cons (g_name 3 sc_law_round.nd) (gs_cons (g_name 4 sc_law_round.nd) gs_nil)))))
    (b_one (s_ret (d_tup (a_cons (d_mul (d_neg (d_var 0)) (d_var 3)) (a_cons (d_mul (d_var 0) (d_var 2)) (a_cons (d_var 4) a_nil))))))))
/-! ### _law_box_step -/
abbrev s_law_box_step : Stmt := topS 55
abbrev ps_law_box_step : List Str := ["_law_sides_so", "_law_case", "_law_step"]
theorem sc_law_box_step : FnScope ["_law_sides_so", "_law_case", "_law_step", "_law_mid_so", "_law_axes_so", "_law_wide_so", "_law_deep_so", "_law_x", "_law_y", "_law_far_so", "_law_later_so", "_law_own"] ps_law_box_step (defScope s_law_box_step) := ⟨rfl, rfl, rfl, by decide +kernel, rfl, by decide +kernel, by decide +kernel⟩
theorem ar_law_box_step : Ar fn_law_box_step ps_law_box_step.length := runD_ar _ _ _
theorem ok_law_box_step {f : Addr} {fd : FuncData} (F : Fun K "_law_box_step" "_law_box_step" s_law_box_step f fd) (hm : mg "_law_box_step" = some (.ref f)) (T : Txt K mg) (D_law_round : DefOk P w K mg base 2 "_law_round" s_law_round ps_law_round fn_law_round) (D_law_half : DefOk P w K mg base 2 "_law_half" s_law_half ps_law_half fn_law_half) (D_law_rolled : DefOk P w K mg base 2 "_law_rolled" s_law_rolled ps_law_rolled fn_law_rolled) : DefOk P w K mg base 3 "_law_box_step" s_law_box_step ps_law_box_step fn_law_box_step :=
  def_ok (N := ["_law_sides_so", "_law_case", "_law_step", "_law_mid_so", "_law_axes_so", "_law_wide_so", "_law_deep_so", "_law_x", "_law_y", "_law_far_so", "_law_later_so", "_law_own"]) (k := 2) F hm sc_law_box_step (fun _ _ _ _ _ _ us hl => match us, hl with | [_, _, _], _ => rfl) (fun cdv A outer s H E hr =>
    (b_cons (s_set (d_var 1) (g_tup rfl (gs_cons (g_name 3 sc_law_box_step.nd) (gs_cons (g_name 4 sc_law_box_step.nd) gs_nil))))
    (b_cons (s_par 5 6 rfl sc_law_box_step.nd (d_call D_law_half ar_law_half hr (by decide) (a_cons (d_var 0) (a_cons (d_var 4) (a_cons d_int a_nil)))) (d_call D_law_half ar_law_half hr (by decide) (a_cons (d_var 0) (a_cons (d_var 4) (a_cons d_int a_nil)))))
    (b_cons (s_if (t_eq hr (d_ix (d_var 2) d_int) d_str) (b_cons (s_set (d_ix (d_of (o_lst (a_cons (d_tup (a_cons (d_var 5) (a_cons d_int a_nil))) (a_cons (d_tup (a_cons d_int (a_cons (d_var 6) a_nil))) (a_cons (d_tup (a_cons (d_neg (d_var 5)) (a_cons d_int a_nil))) (a_cons (d_tup (a_cons d_int (a_cons (d_neg (d_var 6)) a_nil))) a_nil)))))) (d_ix (d_var 2) d_int)) (g_tup rfl (gs_cons (g_name 7 sc_law_box_step.nd) (gs_cons (g_name 8 sc_law_box_step.nd) gs_nil))))
    (b_cons (s_set (d_call D_law_rolled ar_law_rolled hr (by decide) (a_cons (d_ix (d_var 2) d_int) (a_cons (d_tup (a_cons (d_neg (d_var 7)) (a_cons (d_neg (d_var 8)) (a_cons (d_ix (d_var 3) d_int) a_nil)))) a_nil))) (g_name 9 sc_law_box_step.nd))
    (b_cons (s_set (d_tuple T.tuple (a_cons (d_of (o_comp [("_law_own", 11)] rfl sc_law_box_step.nd (i_seq (d_var 4)) (blkOk_by (by kernel_rfl)) (fun _ _ _ _ _ => (g_name 11 sc_law_box_step.nd)) (fun _ _ _ _ _ => c_nil) (fun _ _ _ _ _ => (d_call D_law_rolled ar_law_rolled hr (by decide) (a_cons (d_ix (d_var 2) d_int) (a_cons (d_var 11) a_nil)))))) a_nil)) (g_name 10 sc_law_box_step.nd))
    (b_one (s_ret (d_tup (a_cons (d_tup (a_cons (d_add (d_add (d_ix (d_var 3) d_int) (d_var 7)) (d_ix (d_var 9) d_int)) (a_cons (d_add (d_add (d_ix (d_var 3) d_int) (d_var 8)) (d_ix (d_var 9) d_int)) (a_cons (d_ix (d_var 9) d_int) a_nil)))) (a_cons (d_var 10) a_nil)))))))) b_nil)
    (b_cons (s_set (d_if (t_in hr (d_ix (d_var 2) d_int) (d_tup (a_cons d_int (a_cons d_int a_nil)))) (d_var 5) (d_neg (d_var 5))) (g_name 7 sc_law_box_step.nd))
    (b_cons (s_set (d_if (t_in hr (d_ix (d_var 2) d_int) (d_tup (a_cons d_int (a_cons d_int a_nil)))) (d_var 6) (d_neg (d_var 6))) (g_name 8 sc_law_box_step.nd))
    (b_cons (s_set (d_call D_law_round ar_law_round hr (by decide) (a_cons (d_ix (d_var 2) d_int) (a_cons (d_tup (a_cons (d_neg (d_var 7)) (a_cons (d_neg (d_var 8)) (a_cons d_int a_nil)))) a_nil))) (g_name 9 sc_law_box_step.nd))
    (b_cons (s_set (d_tuple T.tuple (a_cons (d_of (o_comp [("_law_own", 11)] rfl sc_law_box_step.nd (i_seq (d_var 4)) (blkOk_by (by kernel_rfl)) (fun _ _ _ _ _ => (g_name 11 sc_law_box_step.nd)) (fun _ _ _ _ _ => c_nil) (fun _ _ _ _ _ => (d_call D_law_round ar_law_round hr (by decide) (a_cons (d_ix (d_var 2) d_int) (a_cons (d_var 11) a_nil)))))) a_nil)) (g_name 10 sc_law_box_step.nd))
    (b_one (s_ret (d_tup (a_cons (d_tup (a_cons (d_add (d_add (d_ix (d_var 3) d_int) (d_var 7)) (d_ix (d_var 9) d_int)) (a_cons (d_add (d_add (d_ix (d_var 3) d_int) (d_var 8)) (d_ix (d_var 9) d_int)) (a_cons (d_ix (d_var 3) d_int) a_nil)))) (a_cons (d_var 10) a_nil)))))))))))))
/-! ### _law_digits_of -/
abbrev s_law_digits_of : Stmt := topS 56
abbrev ps_law_digits_of : List Str := ["_law_total_so"]
theorem sc_law_digits_of : FnScope ["_law_total_so", "_law_found", "_law_lap", "_law_low_so"] ps_law_digits_of (defScope s_law_digits_of) := ⟨rfl, rfl, rfl, by decide +kernel, rfl, by decide +kernel, by decide +kernel⟩
theorem ar_law_digits_of : Ar fn_law_digits_of ps_law_digits_of.length := runD_ar _ _ _
theorem ok_law_digits_of {f : Addr} {fd : FuncData} (F : Fun K "_law_digits_of" "_law_digits_of" s_law_digits_of f fd) (hm : mg "_law_digits_of" = some (.ref f)) (T : Txt K mg) : DefOk P w K mg base 2 "_law_digits_of" s_law_digits_of ps_law_digits_of fn_law_digits_of :=
  def_ok (N := ["_law_total_so", "_law_found", "_law_lap", "_law_low_so"]) (k := 1) F hm sc_law_digits_of (fun _ _ _ _ _ _ us hl => match us, hl with | [_], _ => rfl) (fun cdv A outer s H E hr =>
    (b_cons (s_setO 1 sc_law_digits_of.nd (o_lst a_nil))
    (b_cons (s_for PassesOwn.never rfl (i_range T.range (a_cons d_int a_nil)) (g_name 2 sc_law_digits_of.nd) (b_cons (s_set (d_sub (d_mod (d_add (d_var 0) d_int) d_int) d_int) (g_name 3 sc_law_digits_of.nd))
    (b_cons (s_app 1 (d_var 3))
    (b_one (s_set (d_div (d_sub (d_var 0) (d_var 3)) d_int) (g_name 0 sc_law_digits_of.nd))))))
    (b_one (s_ret (d_tupOwn 1 T.tuple))))))
/-! ### _law_spot_of -/
abbrev s_law_spot_of : Stmt := topS 57
abbrev ps_law_spot_of : List Str := ["_law_case"]
theorem sc_law_spot_of : FnScope ["_law_case", "_law_mid_so", "_law_axes_so", "_law_pose", "_law_looks_so", "_law_side_so", "_law_way_so", "_law_place_so", "_law_k"] ps_law_spot_of (defScope s_law_spot_of) := ⟨rfl, rfl, rfl, by decide +kernel, rfl, by decide +kernel, by decide +kernel⟩
theorem ar_law_spot_of : Ar fn_law_spot_of ps_law_spot_of.length := runD_ar _ _ _
theorem ok_law_spot_of {f : Addr} {fd : FuncData} (F : Fun K "_law_spot_of" "_law_spot_of" s_law_spot_of f fd) (hm : mg "_law_spot_of" = some (.ref f)) (T : Txt K mg) (D_law_digits_of : DefOk P w K mg base 2 "_law_digits_of" s_law_digits_of ps_law_digits_of fn_law_digits_of) : DefOk P w K mg base 3 "_law_spot_of" s_law_spot_of ps_law_spot_of fn_law_spot_of :=
  def_ok (N := ["_law_case", "_law_mid_so", "_law_axes_so", "_law_pose", "_law_looks_so", "_law_side_so", "_law_way_so", "_law_place_so", "_law_k"]) (k := 2) F hm sc_law_spot_of (fun _ _ _ _ _ _ us hl => match us, hl with | [_], _ => rfl) (fun cdv A outer s H E hr =>
    (b_cons (s_set (d_var 0) (g_tup rfl (gs_cons (g_name 1 sc_law_spot_of.nd) (gs_cons (g_name 2 sc_law_spot_of.nd) gs_nil))))
    (b_cons (s_parO 3 4 rfl sc_law_spot_of.nd (o_lst (a_cons d_int (a_cons d_int (a_cons d_int a_nil)))) (o_lst (a_cons d_int (a_cons d_int (a_cons d_int a_nil)))))
    (b_cons (s_for PassesOwn.never rfl (i_enum T.enumerate (a_cons (d_var 2) a_nil)) (g_pair rfl (gs_cons (g_name 5 sc_law_spot_of.nd) (gs_cons (g_name 6 sc_law_spot_of.nd) gs_nil))) (b_cons (s_set (d_ix (d_of (o_comp [("_law_k", 8)] rfl sc_law_spot_of.nd (i_range T.range (a_cons d_int a_nil)) (blkOk_by (by kernel_rfl)) (fun _ _ _ _ _ => (g_name 8 sc_law_spot_of.nd)) (fun _ _ _ _ _ => (c_one (t_ne hr (d_ix (d_var 6) (d_var 8)) d_int))) (fun _ _ _ _ _ => (d_var 8)))) d_int) (g_name 7 sc_law_spot_of.nd))
    (b_cons (s_setI 3 (d_var 5) (d_var 7))
    (b_one (s_setI 4 (d_ix (d_var 6) (d_var 7)) (d_var 5))))))
    (b_one (s_ret (d_tup (a_cons (d_tupOwn 3 T.tuple) (a_cons (d_call D_law_digits_of ar_law_digits_of hr (by decide) (a_cons (d_ix (d_var 1) d_int) a_nil)) (a_cons (d_call D_law_digits_of ar_law_digits_of hr (by decide) (a_cons (d_ix (d_var 1) d_int) a_nil)) (a_cons (d_tupOwn 4 T.tuple) a_nil)))))))))))
/-! ### _law_boxed -/
abbrev s_law_boxed : Stmt := topS 58
abbrev ps_law_boxed : List Str := ["_law_spot", "_law_walk_here"]
theorem sc_law_boxed : FnScope ["_law_spot", "_law_walk_here", "_law_sides_so", "_law_case", "_law_found", "_law_step"] ps_law_boxed (defScope s_law_boxed) := ⟨rfl, rfl, rfl, by decide +kernel, rfl, by decide +kernel, by decide +kernel⟩
theorem ar_law_boxed : Ar fn_law_boxed ps_law_boxed.length := runD_ar _ _ _
theorem ok_law_boxed {f : Addr} {fd : FuncData} (F : Fun K "_law_boxed" "_law_boxed" s_law_boxed f fd) (hm : mg "_law_boxed" = some (.ref f)) (T : Txt K mg) (D_law_box_of : DefOk P w K mg base 2 "_law_box_of" s_law_box_of ps_law_box_of fn_law_box_of) (D_law_box_step : DefOk P w K mg base 3 "_law_box_step" s_law_box_step ps_law_box_step fn_law_box_step) (D_law_spot_of : DefOk P w K mg base 3 "_law_spot_of" s_law_spot_of ps_law_spot_of fn_law_spot_of) : DefOk P w K mg base 4 "_law_boxed" s_law_boxed ps_law_boxed fn_law_boxed :=
  def_ok (N := ["_law_spot", "_law_walk_here", "_law_sides_so", "_law_case", "_law_found", "_law_step"]) (k := 3) F hm sc_law_boxed (fun _ _ _ _ _ _ us hl => match us, hl with | [_, _], _ => rfl) (fun cdv A outer s H E hr =>
    (b_cons (s_set (d_tup (a_cons d_int (a_cons (d_pow d_int d_int) (a_cons (d_pow d_int d_int) a_nil)))) (g_name 2 sc_law_boxed.nd))
    (b_cons (s_set (d_call D_law_box_of ar_law_box_of hr (by decide) (a_cons (d_var 2) (a_cons (d_var 0) a_nil))) (g_name 3 sc_law_boxed.nd))
    (b_cons (s_setO 4 sc_law_boxed.nd (o_lst (a_cons (d_var 0) a_nil)))
    (b_cons (s_for PassesOwn.never rfl (i_seq (d_var 1)) (g_name 5 sc_law_boxed.nd) (b_cons (s_set (d_call D_law_box_step ar_law_box_step hr (by decide) (a_cons (d_var 2) (a_cons (d_var 3) (a_cons (d_var 5) a_nil)))) (g_name 3 sc_law_boxed.nd))
    (b_one (s_app 4 (d_call D_law_spot_of ar_law_spot_of hr (by decide) (a_cons (d_var 3) a_nil))))))
    (b_one (s_ret (d_tupOwn 4 T.tuple))))))))
/-! ### _law_all_steps -/
abbrev s_law_all_steps : Stmt := topS 59
abbrev ps_law_all_steps : List Str := []
theorem sc_law_all_steps : FnScope ["_law_none"] ps_law_all_steps (defScope s_law_all_steps) := ⟨rfl, rfl, rfl, by decide +kernel, rfl, by decide +kernel, by decide +kernel⟩
theorem ar_law_all_steps : Ar fn_law_all_steps ps_law_all_steps.length := runD_ar _ _ _
theorem ok_law_all_steps {f : Addr} {fd : FuncData} (F : Fun K "_law_all_steps" "_law_all_steps" s_law_all_steps f fd) (hm : mg "_law_all_steps" = some (.ref f)) (T : Txt K mg) (D_law_tips : DefOk P w K mg base 2 "_law_tips" s_law_tips ps_law_tips fn_law_tips) (D_law_turns : DefOk P w K mg base 2 "_law_turns" s_law_turns ps_law_turns fn_law_turns) : DefOk P w K mg base 3 "_law_all_steps" s_law_all_steps ps_law_all_steps fn_law_all_steps :=
  def_ok (N := ["_law_none"]) (k := 2) F hm sc_law_all_steps (fun _ _ _ _ _ _ us hl => match us, hl with | [], _ => rfl) (fun cdv A outer s H E hr =>
    (b_one (s_ret (d_add (d_call0 D_law_tips ar_law_tips hr (by decide)) (d_call0 D_law_turns ar_law_turns hr (by decide))))))
/-! ### _law_drawn_spot -/
abbrev s_law_drawn_spot : Stmt := topS 60
abbrev ps_law_drawn_spot : List Str := ["_law_tin"]
theorem sc_law_drawn_spot : FnScope ["_law_tin", "_law_pose", "_law_xs_so", "_law_ys_so", "_law_lap"] ps_law_drawn_spot (defScope s_law_drawn_spot) := ⟨rfl, rfl, rfl, by decide +kernel, rfl, by decide +kernel, by decide +kernel⟩
theorem ar_law_drawn_spot : Ar fn_law_drawn_spot ps_law_drawn_spot.length := runD_ar _ _ _
theorem ok_law_drawn_spot {f : Addr} {fd : FuncData} (F : Fun K "_law_drawn_spot" "_law_drawn_spot" s_law_drawn_spot f fd) (hm : mg "_law_drawn_spot" = some (.ref f)) (T : Txt K mg) (D_law_of : DefOk P w K mg base 3 "_law_of" s_law_of ps_law_of fn_law_of) (D_law_poses : DefOk P w K mg base 2 "_law_poses" s_law_poses ps_law_poses fn_law_poses) (D_law_take : DefOk P w K mg base 2 "_law_take" s_law_take ps_law_take fn_law_take) : DefOk P w K mg base 4 "_law_drawn_spot" s_law_drawn_spot ps_law_drawn_spot fn_law_drawn_spot :=
  def_ok (N := ["_law_tin", "_law_pose", "_law_xs_so", "_law_ys_so", "_law_lap"]) (k := 3) F hm sc_law_drawn_spot (fun _ _ _ _ _ _ us hl => match us, hl with | [_], _ => rfl) (fun cdv A outer s H E hr =>
    (b_cons (s_set (d_callO 0 D_law_of ar_law_of hr (by decide) (a_cons (d_call0 D_law_poses ar_law_poses hr (by decide)) a_nil)) (g_name 1 sc_law_drawn_spot.nd))
    (b_cons (s_set (d_tuple T.tuple (a_cons (d_of (o_comp [("_law_lap", 4)] rfl sc_law_drawn_spot.nd (i_range T.range (a_cons d_int a_nil)) (blkOk_by (by kernel_rfl)) (fun _ _ _ _ _ => (g_name 4 sc_law_drawn_spot.nd)) (fun _ _ _ _ _ => c_nil) (fun _ _ _ _ _ => (d_sub (d_callO 0 D_law_take ar_law_take hr (by decide) (a_cons d_int a_nil)) d_int)))) a_nil)) (g_name 2 sc_law_drawn_spot.nd))
    (b_cons (s_set (d_tuple T.tuple (a_cons (d_of (o_comp [("_law_lap", 4)] rfl sc_law_drawn_spot.nd (i_range T.range (a_cons d_int a_nil)) (blkOk_by (by kernel_rfl)) (fun _ _ _ _ _ => (g_name 4 sc_law_drawn_spot.nd)) (fun _ _ _ _ _ => c_nil) (fun _ _ _ _ _ => (d_sub (d_callO 0 D_law_take ar_law_take hr (by decide) (a_cons d_int a_nil)) d_int)))) a_nil)) (g_name 3 sc_law_drawn_spot.nd))
    (b_one (s_ret (d_tup (a_cons (d_var 1) (a_cons (d_var 2) (a_cons (d_var 3) (a_cons (d_tuple T.tuple (a_cons (d_of (o_comp [("_law_lap", 4)] rfl sc_law_drawn_spot.nd (i_range T.range (a_cons d_int a_nil)) (blkOk_by (by kernel_rfl)) (fun _ _ _ _ _ => (g_name 4 sc_law_drawn_spot.nd)) (fun _ _ _ _ _ => c_nil) (fun _ _ _ _ _ => (d_sub d_int (d_mul d_int (d_callO 0 D_law_take ar_law_take hr (by decide) (a_cons d_int a_nil))))))) a_nil)) a_nil)))))))))))
/-! ### _law_mixed -/
abbrev s_law_mixed : Stmt := topS 61
abbrev ps_law_mixed : List Str := ["_law_tin", "_law_most_so"]
theorem sc_law_mixed : FnScope ["_law_tin", "_law_most_so", "_law_steps_so"] ps_law_mixed (defScope s_law_mixed) := ⟨rfl, rfl, rfl, by decide +kernel, rfl, by decide +kernel, by decide +kernel⟩
theorem ar_law_mixed : Ar fn_law_mixed ps_law_mixed.length := runD_ar _ _ _
theorem ok_law_mixed {f : Addr} {fd : FuncData} (F : Fun K "_law_mixed" "_law_mixed" s_law_mixed f fd) (hm : mg "_law_mixed" = some (.ref f)) (T : Txt K mg) (D_law_of : DefOk P w K mg base 3 "_law_of" s_law_of ps_law_of fn_law_of) (D_law_walk : DefOk P w K mg base 4 "_law_walk" s_law_walk ps_law_walk fn_law_walk) (D_law_take : DefOk P w K mg base 2 "_law_take" s_law_take ps_law_take fn_law_take) (D_law_tips : DefOk P w K mg base 2 "_law_tips" s_law_tips ps_law_tips fn_law_tips) (D_law_turns : DefOk P w K mg base 2 "_law_turns" s_law_turns ps_law_turns fn_law_turns) (D_law_all_steps : DefOk P w K mg base 3 "_law_all_steps" s_law_all_steps ps_law_all_steps fn_law_all_steps) : DefOk P w K mg base 5 "_law_mixed" s_law_mixed ps_law_mixed fn_law_mixed :=
  def_ok (N := ["_law_tin", "_law_most_so", "_law_steps_so"]) (k := 4) F hm sc_law_mixed (fun _ _ _ _ _ _ us hl => match us, hl with | [_, _], _ => rfl) (fun cdv A outer s H E hr =>
    (b_cons (s_set (d_callO 0 D_law_of ar_law_of hr (by decide) (a_cons (d_of (o_lst (a_cons (d_call0 D_law_tips ar_law_tips hr (by decide)) (a_cons (d_call0 D_law_turns ar_law_turns hr (by decide)) (a_cons (d_call0 D_law_all_steps ar_law_all_steps hr (by decide)) (a_cons (d_call0 D_law_all_steps ar_law_all_steps hr (by decide)) a_nil)))))) a_nil)) (g_name 2 sc_law_mixed.nd))
    (b_one (s_ret (d_callO 0 D_law_walk ar_law_walk hr (by decide) (a_cons (d_callO 0 D_law_take ar_law_take hr (by decide) (a_cons (d_add (d_var 1) d_int) a_nil)) (a_cons (d_var 2) a_nil)))))))
/-! ### _law_by_hand_right -/
abbrev s_law_by_hand_right : Stmt := topS 62
abbrev ps_law_by_hand_right : List Str := []
theorem sc_law_by_hand_right : FnScope ["_law_here", "_law_east", "_law_left", "_law_got", "_law_due", "_law_mixed_here", "_law_things", "_law_own"] ps_law_by_hand_right (defScope s_law_by_hand_right) := ⟨rfl, rfl, rfl, by decide +kernel, rfl, by decide +kernel, by decide +kernel⟩
theorem ar_law_by_hand_right : Ar fn_law_by_hand_right ps_law_by_hand_right.length := runD_ar _ _ _
theorem ok_law_by_hand_right {f : Addr} {fd : FuncData} (F : Fun K "_law_by_hand_right" "_law_by_hand_right" s_law_by_hand_right f fd) (hm : mg "_law_by_hand_right" = some (.ref f)) (T : Txt K mg) (D_law_same : DefOk P w K mg base 9 "_law_same" s_law_same ps_law_same (fn_law_same 8)) (D_law_home : DefOk P w K mg base 2 "_law_home" s_law_home ps_law_home fn_law_home) (D_behind : DefOk P w K mg base 11 "behind" s_behind ps_behind fn_behind) (D_shapes_along : DefOk P w K mg base 12 "shapes_along" s_shapes_along ps_shapes_along fn_shapes_along) (D_middles_along : DefOk P w K mg base 11 "middles_along" s_middles_along ps_middles_along fn_middles_along) (D_tips_alone : DefOk P w K mg base 11 "tips_alone" s_tips_alone ps_tips_alone fn_tips_alone) (D_turns_alone : DefOk P w K mg base 11 "turns_alone" s_turns_alone ps_turns_alone fn_turns_alone) (D_how_often : DefOk P w K mg base 11 "how_often" s_how_often ps_how_often fn_how_often) (D_first_met : DefOk P w K mg base 11 "first_met" s_first_met ps_first_met fn_first_met) (D_law_turns : DefOk P w K mg base 2 "_law_turns" s_law_turns ps_law_turns fn_law_turns) (D_stands_along : DefOk P w K mg base 11 "stands_along" s_stands_along ps_stands_along fn_stands_along) (D_is_row : DefOk P w K mg base 6 "is_row" s_is_row ps_is_row fn_is_row) : DefOk P w K mg base 13 "_law_by_hand_right" s_law_by_hand_right ps_law_by_hand_right fn_law_by_hand_right :=
  def_ok (N := ["_law_here", "_law_east", "_law_left", "_law_got", "_law_due", "_law_mixed_here", "_law_things", "_law_own"]) (k := 12) F hm sc_law_by_hand_right (fun _ _ _ _ _ _ us hl => match us, hl with | [], _ => rfl) (fun cdv A outer s H E hr =>
    (b_cons (s_set (d_tup (a_cons (d_call0 D_law_home ar_law_home hr (by decide)) (a_cons (d_tup (a_cons (d_tup (a_cons d_str (a_cons d_int a_nil))) a_nil)) (a_cons (d_tup (a_cons (d_tup (a_cons d_str (a_cons d_int (a_cons d_int a_nil)))) a_nil)) a_nil)))) (g_tup rfl (gs_cons (g_name 0 sc_law_by_hand_right.nd) (gs_cons (g_name 1 sc_law_by_hand_right.nd) (gs_cons (g_name 2 sc_law_by_hand_right.nd) gs_nil)))))
    (b_cons (s_set (d_of (o_lst (a_cons (d_call D_behind ar_behind hr (by decide) (a_cons (d_var 0) (a_cons (d_var 1) a_nil))) (a_cons (d_call D_behind ar_behind hr (by decide) (a_cons (d_var 0) (a_cons (d_mul (d_var 1) d_int) a_nil))) (a_cons (d_call D_behind ar_behind hr (by decide) (a_cons (d_var 0) (a_cons (d_tup (a_cons (d_tup (a_cons d_str (a_cons d_int a_nil))) (a_cons (d_tup (a_cons d_str (a_cons d_int a_nil))) a_nil))) a_nil))) (a_cons (d_call D_behind ar_behind hr (by decide) (a_cons (d_var 0) (a_cons (d_var 2) a_nil))) (a_cons (d_call D_behind ar_behind hr (by decide) (a_cons (d_var 0) (a_cons (d_tup a_nil) a_nil))) a_nil))))))) (g_name 3 sc_law_by_hand_right.nd))
    (b_cons (s_set (d_of (o_lst (a_cons (d_tup (a_cons (d_tup (a_cons d_int (a_cons d_int (a_cons d_int a_nil)))) (a_cons (d_tup (a_cons d_int (a_cons d_int (a_cons d_int a_nil)))) (a_cons (d_tup (a_cons d_int (a_cons d_int (a_cons d_int a_nil)))) (a_cons (d_tup (a_cons (d_neg d_int) (a_cons d_int (a_cons d_int a_nil)))) a_nil))))) (a_cons (d_tup (a_cons (d_tup (a_cons d_int (a_cons d_int (a_cons d_int a_nil)))) (a_cons (d_tup (a_cons d_int (a_cons d_int (a_cons d_int a_nil)))) (a_cons (d_tup (a_cons d_int (a_cons d_int (a_cons d_int a_nil)))) (a_cons (d_tup (a_cons (d_neg d_int) (a_cons d_int (a_cons (d_neg d_int) a_nil)))) a_nil))))) (a_cons (d_tup (a_cons (d_tup (a_cons d_int (a_cons d_int (a_cons d_int a_nil)))) (a_cons (d_tup (a_cons (d_neg d_int) (a_cons (d_neg d_int) (a_cons d_int a_nil)))) (a_cons (d_tup (a_cons d_int (a_cons d_int (a_cons d_int a_nil)))) (a_cons (d_tup (a_cons d_int (a_cons d_int (a_cons d_int a_nil)))) a_nil))))) a_nil))))) (g_name 4 sc_law_by_hand_right.nd))
    (b_cons (s_set (d_add (d_var 4) (d_of (o_lst (a_cons (d_tup (a_cons (d_tup (a_cons d_int (a_cons d_int (a_cons d_int a_nil)))) (a_cons (d_tup (a_cons d_int (a_cons d_int (a_cons d_int a_nil)))) (a_cons (d_tup (a_cons (d_neg d_int) (a_cons d_int (a_cons d_int a_nil)))) (a_cons (d_tup (a_cons d_int (a_cons (d_neg d_int) (a_cons d_int a_nil)))) a_nil))))) (a_cons (d_var 0) a_nil))))) (g_name 4 sc_law_by_hand_right.nd))
    (b_cons (s_set (d_add (d_var 3) (d_of (o_comp [("_law_own", 7)] rfl sc_law_by_hand_right.nd (i_seq (d_call0 D_law_turns ar_law_turns hr (by decide))) (blkOk_by (by kernel_rfl)) (fun _ _ _ _ _ => (g_name 7 sc_law_by_hand_right.nd)) (fun _ _ _ _ _ => c_nil) (fun _ _ _ _ _ => (d_slice (d_call D_behind ar_behind hr (by decide) (a_cons (d_var 0) (a_cons (d_tup (a_cons (d_var 7) a_nil)) a_nil))) (p_some d_int) (p_some d_int)))))) (g_name 3 sc_law_by_hand_right.nd))
    (b_cons (s_set (d_add (d_var 4) (d_of (o_lst (a_cons (d_tup (a_cons (d_tup (a_cons (d_neg d_int) (a_cons (d_neg d_int) (a_cons d_int a_nil)))) (a_cons (d_tup (a_cons d_int (a_cons (d_neg d_int) (a_cons d_int a_nil)))) a_nil))) (a_cons (d_tup (a_cons (d_tup (a_cons d_int (a_cons (d_neg d_int) (a_cons d_int a_nil)))) (a_cons (d_tup (a_cons (d_neg d_int) (a_cons (d_neg d_int) (a_cons d_int a_nil)))) a_nil))) (a_cons (d_tup (a_cons (d_tup (a_cons d_int (a_cons d_int (a_cons d_int a_nil)))) (a_cons (d_tup (a_cons (d_neg d_int) (a_cons d_int (a_cons d_int a_nil)))) a_nil))) (a_cons (d_tup (a_cons (d_tup (a_cons (d_neg d_int) (a_cons d_int (a_cons d_int a_nil)))) (a_cons (d_tup (a_cons d_int (a_cons d_int (a_cons d_int a_nil)))) a_nil))) a_nil))))))) (g_name 4 sc_law_by_hand_right.nd))
    (b_cons (s_set (d_add (d_var 4) (d_of (o_lst (a_cons (d_tup (a_cons (d_tup (a_cons (d_neg d_int) (a_cons d_int (a_cons d_int a_nil)))) (a_cons (d_tup (a_cons (d_neg d_int) (a_cons (d_neg d_int) (a_cons d_int a_nil)))) a_nil))) (a_cons (d_tup (a_cons (d_tup (a_cons d_int (a_cons d_int (a_cons d_int a_nil)))) (a_cons (d_tup (a_cons d_int (a_cons (d_neg d_int) (a_cons d_int a_nil)))) a_nil))) (a_cons (d_tup (a_cons (d_tup (a_cons d_int (a_cons (d_neg d_int) (a_cons d_int a_nil)))) (a_cons (d_tup (a_cons d_int (a_cons d_int (a_cons d_int a_nil)))) a_nil))) (a_cons (d_tup (a_cons (d_tup (a_cons (d_neg d_int) (a_cons (d_neg d_int) (a_cons d_int a_nil)))) (a_cons (d_tup (a_cons (d_neg d_int) (a_cons d_int (a_cons d_int a_nil)))) a_nil))) a_nil))))))) (g_name 4 sc_law_by_hand_right.nd))
    (b_cons (s_set (d_add (d_var 3) (d_of (o_lst (a_cons (d_call D_shapes_along ar_shapes_along hr (by decide) (a_cons (d_var 0) (a_cons (d_tup (a_cons (d_tup (a_cons d_str (a_cons d_int a_nil))) (a_cons (d_tup (a_cons d_str (a_cons d_int a_nil))) (a_cons (d_tup (a_cons d_str (a_cons d_int a_nil))) (a_cons (d_tup (a_cons d_str (a_cons d_int a_nil))) a_nil))))) a_nil))) (a_cons (d_call D_middles_along ar_middles_along hr (by decide) (a_cons (d_tup (a_cons d_int (a_cons d_int (a_cons d_int a_nil)))) (a_cons (d_var 0) (a_cons (d_tup (a_cons (d_tup (a_cons d_str (a_cons d_int a_nil))) (a_cons (d_tup (a_cons d_str (a_cons d_int a_nil))) (a_cons (d_tup (a_cons d_str (a_cons d_int (a_cons d_int a_nil)))) a_nil)))) a_nil)))) a_nil))))) (g_name 3 sc_law_by_hand_right.nd))
    (b_cons (s_set (d_add (d_var 4) (d_of (o_lst (a_cons (d_tup (a_cons (d_tup (a_cons d_int (a_cons d_int (a_cons d_int a_nil)))) (a_cons (d_tup (a_cons d_int (a_cons d_int (a_cons d_int a_nil)))) (a_cons (d_tup (a_cons d_int (a_cons d_int (a_cons d_int a_nil)))) (a_cons (d_tup (a_cons d_int (a_cons d_int (a_cons d_int a_nil)))) (a_cons (d_tup (a_cons d_int (a_cons d_int (a_cons d_int a_nil)))) a_nil)))))) (a_cons (d_tup (a_cons (d_tup (a_cons d_int (a_cons d_int a_nil))) (a_cons (d_tup (a_cons d_int (a_cons d_int a_nil))) (a_cons (d_tup (a_cons d_int (a_cons d_int a_nil))) (a_cons (d_tup (a_cons d_int (a_cons (d_neg d_int) a_nil))) a_nil))))) a_nil))))) (g_name 4 sc_law_by_hand_right.nd))
    (b_cons (s_set (d_add (d_add (d_var 1) (d_mul (d_var 2) d_int)) (d_tup (a_cons (d_tup (a_cons d_str (a_cons d_int a_nil))) (a_cons (d_tup (a_cons d_str (a_cons d_int (a_cons (d_neg d_int) a_nil)))) a_nil)))) (g_name 5 sc_law_by_hand_right.nd))
    (b_cons (s_set (d_add (d_var 3) (d_of (o_lst (a_cons (d_call D_tips_alone ar_tips_alone hr (by decide) (a_cons (d_var 1) a_nil)) (a_cons (d_call D_tips_alone ar_tips_alone hr (by decide) (a_cons (d_var 5) a_nil)) (a_cons (d_call D_turns_alone ar_turns_alone hr (by decide) (a_cons (d_var 2) a_nil)) (a_cons (d_call D_turns_alone ar_turns_alone hr (by decide) (a_cons (d_tup a_nil) a_nil)) (a_cons (d_callK (ks := ["row"]) [0] D_tips_alone ar_tips_alone hr (by decide) (k_cons (d_of (o_lst a_nil)) k_nil) (fun _ _ _ _ _ _ ws hl => match ws, hl with | [_], _ => rfl)) (a_cons (d_call D_how_often ar_how_often hr (by decide) (a_cons (d_var 5) a_nil)) (a_cons (d_call D_how_often ar_how_often hr (by decide) (a_cons (d_tup a_nil) a_nil)) (a_cons (d_len T.len (a_cons (d_call D_stands_along ar_stands_along hr (by decide) (a_cons (d_var 0) (a_cons (d_var 5) a_nil))) a_nil)) a_nil))))))))))) (g_name 3 sc_law_by_hand_right.nd))
    (b_cons (s_set (d_add (d_var 4) (d_of (o_lst (a_cons d_bl (a_cons d_bl (a_cons d_bl (a_cons d_bl (a_cons d_bl (a_cons (d_tup (a_cons d_int (a_cons d_int (a_cons d_int (a_cons d_int (a_cons d_int (a_cons d_int a_nil))))))) (a_cons (d_mul (d_tup (a_cons d_int a_nil)) d_int) (a_cons d_int a_nil))))))))))) (g_name 4 sc_law_by_hand_right.nd))
    (b_cons (s_set (d_add (d_var 3) (d_of (o_lst (a_cons (d_call D_first_met ar_first_met hr (by decide) (a_cons (d_var 0) (a_cons (d_mul (d_var 1) d_int) (a_cons (d_call D_behind ar_behind hr (by decide) (a_cons (d_var 0) (a_cons (d_mul (d_var 1) d_int) a_nil))) a_nil)))) (a_cons (d_call D_first_met ar_first_met hr (by decide) (a_cons (d_var 0) (a_cons (d_var 1) (a_cons (d_var 0) a_nil)))) (a_cons (d_call D_first_met ar_first_met hr (by decide) (a_cons (d_var 0) (a_cons (d_mul (d_var 2) d_int) (a_cons (d_call D_behind ar_behind hr (by decide) (a_cons (d_var 0) (a_cons (d_var 1) a_nil))) a_nil)))) (a_cons (d_call D_first_met ar_first_met hr (by decide) (a_cons (d_var 0) (a_cons (d_add (d_var 1) (d_tup (a_cons (d_tup (a_cons d_str (a_cons d_int a_nil))) a_nil))) (a_cons (d_var 0) a_nil)))) a_nil))))))) (g_name 3 sc_law_by_hand_right.nd))
    (b_cons (s_set (d_add (d_var 4) (d_of (o_lst (a_cons d_int (a_cons d_int (a_cons d_non (a_cons d_int a_nil))))))) (g_name 4 sc_law_by_hand_right.nd))
    (b_cons (s_set (d_of (o_lst (a_cons (d_tup a_nil) (a_cons (d_var 1) (a_cons (d_var 5) (a_cons (d_of (o_list T.list (a_cons (d_var 1) a_nil))) (a_cons (d_tup (a_cons (d_tup (a_cons d_str (a_cons d_int a_nil))) a_nil)) (a_cons (d_tup (a_cons (d_tup (a_cons d_str (a_cons d_int (a_cons d_int a_nil)))) a_nil)) (a_cons (d_tup (a_cons (d_tup (a_cons d_str (a_cons d_int (a_cons d_int (a_cons d_int a_nil))))) a_nil)) (a_cons (d_tup (a_cons d_str (a_cons d_int a_nil))) (a_cons (d_tup (a_cons (d_of (o_lst (a_cons d_str (a_cons d_int a_nil)))) a_nil)) (a_cons (d_tup (a_cons (d_tup (a_cons d_str (a_cons d_bl a_nil))) a_nil)) (a_cons (d_tup (a_cons (d_tup (a_cons d_str (a_cons d_int a_nil))) a_nil)) (a_cons d_non (a_cons d_str (a_cons (d_tup (a_cons (d_tup a_nil) a_nil)) (a_cons (d_tup (a_cons (d_tup (a_cons d_str (a_cons d_int (a_cons d_bl a_nil)))) a_nil)) a_nil))))))))))))))))) (g_name 6 sc_law_by_hand_right.nd))
    (b_one (s_ret (d_call D_law_same (ar_law_same 8) hr (by decide) (a_cons (d_add (d_var 3) (d_of (o_lst (a_cons (d_of (o_comp [("_law_own", 7)] rfl sc_law_by_hand_right.nd (i_seq (d_var 6)) (blkOk_by (by kernel_rfl)) (fun _ _ _ _ _ => (g_name 7 sc_law_by_hand_right.nd)) (fun _ _ _ _ _ => c_nil) (fun _ _ _ _ _ => (d_call D_is_row ar_is_row hr (by decide) (a_cons (d_var 7) a_nil))))) a_nil)))) (a_cons (d_add (d_var 4) (d_of (o_lst (a_cons (d_add (d_of (o_lst (a_cons d_bl (a_cons d_bl (a_cons d_bl a_nil))))) (d_of (o_rep (o_lst (a_cons d_bl a_nil)) d_int))) a_nil)))) a_nil)))))))))))))))))))))
/-! ### _law_right -/
abbrev s_law_right : Stmt := topS 63
abbrev ps_law_right : List Str := ["_law_tin"]
theorem sc_law_right : FnScope ["_law_tin", "_law_spot", "_law_walk_here", "_law_trunk_here", "_law_along_so", "_law_soft", "_law_got", "_law_case", "_law_mids_so", "_law_step", "_law_due", "_law_many_so", "_law_hands_so", "_law_goal_so", "_law_far_so", "_law_own", "_law_its"] ps_law_right (defScope s_law_right) := ⟨rfl, rfl, rfl, by decide +kernel, rfl, by decide +kernel, by decide +kernel⟩
theorem ar_law_right : Ar fn_law_right ps_law_right.length := runD_ar _ _ _
theorem ok_law_right {f : Addr} {fd : FuncData} (F : Fun K "_law_right" "_law_right" s_law_right f fd) (hm : mg "_law_right" = some (.ref f)) (T : Txt K mg) (D_law_same : DefOk P w K mg base 9 "_law_same" s_law_same ps_law_same (fn_law_same 8)) (D_law_drawn_spot : DefOk P w K mg base 4 "_law_drawn_spot" s_law_drawn_spot ps_law_drawn_spot fn_law_drawn_spot) (D_law_mixed : DefOk P w K mg base 5 "_law_mixed" s_law_mixed ps_law_mixed fn_law_mixed) (D_law_trunk : DefOk P w K mg base 3 "_law_trunk" s_law_trunk ps_law_trunk fn_law_trunk) (D_law_boxed : DefOk P w K mg base 4 "_law_boxed" s_law_boxed ps_law_boxed fn_law_boxed) (D_law_lists : DefOk P w K mg base 9 "_law_lists" s_law_lists ps_law_lists (fn_law_lists 8)) (D_behind : DefOk P w K mg base 11 "behind" s_behind ps_behind fn_behind) (D_stands_along : DefOk P w K mg base 11 "stands_along" s_stands_along ps_stands_along fn_stands_along) (D_law_box_of : DefOk P w K mg base 2 "_law_box_of" s_law_box_of ps_law_box_of fn_law_box_of) (D_law_box_step : DefOk P w K mg base 3 "_law_box_step" s_law_box_step ps_law_box_step fn_law_box_step) (D_shapes_along : DefOk P w K mg base 12 "shapes_along" s_shapes_along ps_shapes_along fn_shapes_along) (D_middles_along : DefOk P w K mg base 11 "middles_along" s_middles_along ps_middles_along fn_middles_along) (D_tips_alone : DefOk P w K mg base 11 "tips_alone" s_tips_alone ps_tips_alone fn_tips_alone) (D_turns_alone : DefOk P w K mg base 11 "turns_alone" s_turns_alone ps_turns_alone fn_turns_alone) (D_is_row : DefOk P w K mg base 6 "is_row" s_is_row ps_is_row fn_is_row) (D_law_of : DefOk P w K mg base 3 "_law_of" s_law_of ps_law_of fn_law_of) (D_how_often : DefOk P w K mg base 11 "how_often" s_how_often ps_how_often fn_how_often) (D_first_met : DefOk P w K mg base 11 "first_met" s_first_met ps_first_met fn_first_met) (D_law_tips : DefOk P w K mg base 2 "_law_tips" s_law_tips ps_law_tips fn_law_tips) : DefOk P w K mg base 13 "_law_right" s_law_right ps_law_right fn_law_right :=
  def_ok (N := ["_law_tin", "_law_spot", "_law_walk_here", "_law_trunk_here", "_law_along_so", "_law_soft", "_law_got", "_law_case", "_law_mids_so", "_law_step", "_law_due", "_law_many_so", "_law_hands_so", "_law_goal_so", "_law_far_so", "_law_own", "_law_its"]) (k := 12) F hm sc_law_right (fun _ _ _ _ _ _ us hl => match us, hl with | [_], _ => rfl) (fun cdv A outer s H E hr =>
    (b_cons (s_set (d_tup (a_cons (d_callO 0 D_law_drawn_spot ar_law_drawn_spot hr (by decide) a_nil) (a_cons (d_callO 0 D_law_mixed ar_law_mixed hr (by decide) (a_cons d_int a_nil)) (a_cons (d_callO 0 D_law_trunk ar_law_trunk hr (by decide) a_nil) a_nil)))) (g_tup rfl (gs_cons (g_name 1 sc_law_right.nd) (gs_cons (g_name 2 sc_law_right.nd) (gs_cons (g_name 3 sc_law_right.nd) gs_nil)))))
    (b_cons (s_par 4 5 rfl sc_law_right.nd (d_call D_law_boxed ar_law_boxed hr (by decide) (a_cons (d_var 1) (a_cons (d_var 2) a_nil))) (d_call D_law_lists (ar_law_lists 8) hr (by decide) (a_cons (d_var 2) a_nil)))
    (b_cons (s_set (d_of (o_lst (a_cons (d_call D_behind ar_behind hr (by decide) (a_cons (d_var 1) (a_cons (d_var 2) a_nil))) (a_cons (d_callK (ks := ["row", "stand"]) [1, 0] D_behind ar_behind hr (by decide) (k_cons (d_var 5) (k_cons (d_call D_law_lists (ar_law_lists 8) hr (by decide) (a_cons (d_var 1) a_nil)) k_nil)) (fun _ _ _ _ _ _ ws hl => match ws, hl with | [_, _], _ => rfl)) (a_cons (d_call D_stands_along ar_stands_along hr (by decide) (a_cons (d_var 1) (a_cons (d_var 5) a_nil))) (a_cons (d_callK (ks := ["row", "stand"]) [1, 0] D_stands_along ar_stands_along hr (by decide) (k_cons (d_var 2) (k_cons (d_var 1) k_nil)) (fun _ _ _ _ _ _ ws hl => match ws, hl with | [_, _], _ => rfl)) a_nil)))))) (g_name 6 sc_law_right.nd))
    (b_cons (s_if (t_not (t_val (d_call D_law_same (ar_law_same 8) hr (by decide) (a_cons (d_var 6) (a_cons (d_of (o_lst (a_cons (d_ix (d_var 4) (d_neg d_int)) (a_cons (d_ix (d_var 4) (d_neg d_int)) (a_cons (d_var 4) (a_cons (d_var 4) a_nil)))))) a_nil))))) (b_one (s_ret d_bl)) b_nil)
    (b_cons (s_parVO 7 8 rfl sc_law_right.nd (d_call D_law_box_of ar_law_box_of hr (by decide) (a_cons (d_var 3) (a_cons (d_var 1) a_nil))) (o_lst a_nil))
    (b_cons (s_for PassesOwn.never rfl (i_seq (d_var 2)) (g_name 9 sc_law_right.nd) (b_cons (s_app 8 (d_slice (d_ix (d_var 7) d_int) p_none (p_some d_int)))
    (b_one (s_set (d_call D_law_box_step ar_law_box_step hr (by decide) (a_cons (d_var 3) (a_cons (d_var 7) (a_cons (d_var 9) a_nil)))) (g_name 7 sc_law_right.nd)))))
    (b_cons (s_app 8 (d_slice (d_ix (d_var 7) d_int) p_none (p_some d_int)))
    (b_cons (s_set (d_of (o_lst (a_cons (d_call D_shapes_along ar_shapes_along hr (by decide) (a_cons (d_call D_law_lists (ar_law_lists 8) hr (by decide) (a_cons (d_var 1) a_nil)) (a_cons (d_var 2) a_nil))) (a_cons (d_callK (ks := ["stand", "row", "chest"]) [2, 0, 1] D_middles_along ar_middles_along hr (by decide) (k_cons (d_var 1) (k_cons (d_var 5) (k_cons (d_of (o_list T.list (a_cons (d_var 3) a_nil))) k_nil))) (fun _ _ _ _ _ _ ws hl => match ws, hl with | [_, _, _], _ => rfl)) (a_cons (d_call D_tips_alone ar_tips_alone hr (by decide) (a_cons (d_var 5) a_nil)) (a_cons (d_call D_turns_alone ar_turns_alone hr (by decide) (a_cons (d_var 2) a_nil)) (a_cons (d_call D_is_row ar_is_row hr (by decide) (a_cons (d_var 2) a_nil)) (a_cons (d_call D_is_row ar_is_row hr (by decide) (a_cons (d_var 5) a_nil)) a_nil)))))))) (g_name 6 sc_law_right.nd))
    (b_cons (s_set (d_of (o_lst (a_cons (d_tuple T.tuple (a_cons (d_of (o_comp [("_law_own", 15)] rfl sc_law_right.nd (i_seq (d_var 4)) (blkOk_by (by kernel_rfl)) (fun _ _ _ _ _ => (g_name 15 sc_law_right.nd)) (fun _ _ _ _ _ => c_nil) (fun _ _ _ _ _ => (d_ix (d_var 15) d_int)))) a_nil)) (a_cons (d_tupOwn 8 T.tuple) (a_cons (d_eq hr (d_of (o_comp [("_law_own", 15)] rfl sc_law_right.nd (i_seq (d_var 2)) (blkOk_by (by kernel_rfl)) (fun _ _ _ _ _ => (g_name 15 sc_law_right.nd)) (fun _ _ _ _ _ => (c_one (t_ne hr (d_ix (d_var 15) d_int) d_str))) (fun _ _ _ _ _ => d_int))) (d_of (o_lst a_nil))) (a_cons (d_eq hr (d_of (o_comp [("_law_own", 15)] rfl sc_law_right.nd (i_seq (d_var 2)) (blkOk_by (by kernel_rfl)) (fun _ _ _ _ _ => (g_name 15 sc_law_right.nd)) (fun _ _ _ _ _ => (c_one (t_ne hr (d_ix (d_var 15) d_int) d_str))) (fun _ _ _ _ _ => d_int))) (d_of (o_lst a_nil))) (a_cons d_bl (a_cons d_bl a_nil)))))))) (g_name 10 sc_law_right.nd))
    (b_cons (s_if (t_not (t_val (d_call D_law_same (ar_law_same 8) hr (by decide) (a_cons (d_var 6) (a_cons (d_var 10) a_nil))))) (b_one (s_ret d_bl)) b_nil)
    (b_cons (s_setLcD 11 [("_law_own", 15)] rfl sc_law_right.nd (i_seq (d_call0 D_law_tips ar_law_tips hr (by decide))) (blkOk_by (by kernel_rfl)) (fun _ _ _ _ _ => (g_name 15 sc_law_right.nd)) (fun _ _ _ _ _ => c_nil) (fun _ _ _ _ _ => (d_count hr (d_var 2) (d_var 15))))
    (b_cons (s_setLcD 12 [("_law_its", 16)] rfl sc_law_right.nd (i_seq (d_tup (a_cons d_int (a_cons (d_neg d_int) a_nil)))) (blkOk_by (by kernel_rfl)) (fun _ _ _ _ _ => (g_name 16 sc_law_right.nd)) (fun _ _ _ _ _ => c_nil) (fun _ _ _ _ _ => (d_len T.len (a_cons (d_of (o_comp [("_law_own", 15)] rfl sc_law_right.nd (i_seq (d_var 2)) (blkOk_by (by kernel_rfl)) (fun _ _ _ _ _ => (g_name 15 sc_law_right.nd)) (fun _ _ _ _ _ => (c_one ((w_and (t_eq hr (d_ix (d_var 15) d_int) d_str) (w_and1 (t_eq hr (d_ix (d_var 15) d_int) (d_var 16))))).pt)) (fun _ _ _ _ _ => d_int))) a_nil))))
    (b_cons (s_par 13 14 rfl sc_law_right.nd (d_callO 0 D_law_of ar_law_of hr (by decide) (a_cons (d_of (o_list T.list (a_cons (d_var 4) a_nil))) a_nil)) (d_callO 0 D_law_drawn_spot ar_law_drawn_spot hr (by decide) a_nil))
    (b_cons (s_set (d_of (o_lst (a_cons (d_call D_how_often ar_how_often hr (by decide) (a_cons (d_var 5) a_nil)) (a_cons (d_call D_first_met ar_first_met hr (by decide) (a_cons (d_var 1) (a_cons (d_var 2) (a_cons (d_var 13) a_nil)))) (a_cons (d_callK (ks := ["goal", "row", "stand"]) [2, 1, 0] D_first_met ar_first_met hr (by decide) (k_cons (d_call D_law_lists (ar_law_lists 8) hr (by decide) (a_cons (d_var 14) a_nil)) (k_cons (d_var 5) (k_cons (d_var 1) k_nil))) (fun _ _ _ _ _ _ ws hl => match ws, hl with | [_, _, _], _ => rfl)) a_nil))))) (g_name 6 sc_law_right.nd))
    (b_one (s_ret (d_call D_law_same (ar_law_same 8) hr (by decide) (a_cons (d_var 6) (a_cons (d_of (o_lst (a_cons (d_tuple T.tuple (a_cons (d_add (d_var 11) (d_var 12)) a_nil)) (a_cons (d_index hr (d_var 4) (d_var 13)) (a_cons (d_if (t_in hr (d_var 14) (d_var 4)) (d_index hr (d_var 4) (d_var 14)) d_non) a_nil))))) a_nil))))))))))))))))))))
/-! ### law -/
abbrev s_law : Stmt := topS 64
abbrev ps_law : List Str := ["_law_script"]
theorem sc_law : FnScope ["_law_script", "_law_cells_so", "_law_k"] ps_law (defScope s_law) := ⟨rfl, rfl, rfl, by decide +kernel, rfl, by decide +kernel, by decide +kernel⟩
theorem ar_law : Ar fn_law ps_law.length := runD_ar _ _ _
theorem ok_law {f : Addr} {fd : FuncData} (F : Fun K "law" "law" s_law f fd) (hm : mg "law" = some (.ref f)) (T : Txt K mg) (D_law_cells : DefOk P w K mg base 2 "_law_cells" s_law_cells ps_law_cells fn_law_cells) (D_law_by_hand_right : DefOk P w K mg base 13 "_law_by_hand_right" s_law_by_hand_right ps_law_by_hand_right fn_law_by_hand_right) (D_law_right : DefOk P w K mg base 13 "_law_right" s_law_right ps_law_right fn_law_right) (D_law_box : DefOk P w K mg base 2 "_law_box" s_law_box ps_law_box fn_law_box) : DefOk P w K mg base 14 "law" s_law ps_law fn_law :=
  def_ok (N := ["_law_script", "_law_cells_so", "_law_k"]) (k := 13) F hm sc_law (fun _ _ _ _ _ _ us hl => match us, hl with | [_], _ => rfl) (fun cdv A outer s H E hr =>
    (b_cons (s_if (t_not (t_val (d_call0 D_law_by_hand_right ar_law_by_hand_right hr (by decide)))) (b_one (s_ret d_bl)) b_nil)
    (b_cons (s_set (d_call D_law_cells ar_law_cells hr (by decide) (a_cons (d_var 0) (a_cons d_int a_nil))) (g_name 1 sc_law.nd))
    (b_one (s_ret (d_all rfl T.all (a_cons (d_of (o_comp [("_law_k", 2)] rfl sc_law.nd (i_range T.range (a_cons (d_len T.len (a_cons (d_var 1) a_nil)) a_nil)) (blkOk_by (by kernel_rfl)) (fun _ _ _ _ _ => (g_name 2 sc_law.nd)) (fun _ _ _ _ _ => c_nil) (fun _ _ _ _ _ => (d_callF D_law_right ar_law_right hr (by decide) (o_call D_law_box ar_law_box hr (by decide) (a_cons (d_var 1) (a_cons (d_var 2) a_nil))))))) a_nil)))))))
end
end DL

/-! ## PL0 -/
set_option linter.all false
set_option maxRecDepth 100000
set_option maxHeartbeats 4000000
namespace DL
open PySem PySem.Spec PyProof.Rows L2
theorem mulOk_l {i j : Int} (h1 : -(2 ^ 64) < i) (h2 : i < 2 ^ 64) : mulOk i j = true := by
  unfold mulOk
  rw [decide_eq_true h1, decide_eq_true h2]
  rfl
theorem mulOk_r {i j : Int} (h1 : -(2 ^ 64) < j) (h2 : j < 2 ^ 64) : mulOk i j = true := by
  unfold mulOk
  rw [decide_eq_true h1, decide_eq_true h2, Bool.or_comm]
  rfl
/-- the state of the draws: two numbers and a count of at most m -/
def TI (m : Int) (tin : List PyData) : Prop := ∃ A B C : Int, tin = [.int A, .int B, .int C] ∧ 0 ≤ C ∧ C ≤ m
theorem take_ok {m : Int} {tin : List PyData} (below : Int) (h0 : 0 < below) (h1 : below < 1073741824) (hm : m < 2 ^ 60) (h : TI m tin) :
    ∃ (n : Int) (tin' : List PyData), fn_law_take [.own tin, .val (.int below)] = some (.val (.int n), .own tin') ∧ 0 ≤ n ∧ n < below ∧ TI (m + 1) tin' := by
  obtain ⟨A, B, C, rfl, c0, c1⟩ := h
  by_cases hA : 0 < A
  · refine ⟨A % below, [.int (A / below), .int B, .int C], ?_, Int.emod_nonneg _ (by omega), Int.emod_lt_of_pos _ h0, ⟨_, _, _, rfl, c0, by omega⟩⟩
    simp [fn_law_take, runD, f_law_take, isOwn, sSeq, sIf, bin, eIxOwn, eC, dInt, hA, atI, ixN, sSet, call, aCons, aNil, eVar, dToInt, dMod, h0, tgN, putS, sSetI, dDiv, h1, sRet]
  · have m1 : mulOk 48271 (C + 1) = true := mulOk_l (by decide) (by decide)
    have m2 : mulOk (B + 48271 * (C + 1)) (39373 + (C + 1)) = true := mulOk_r (by omega) (by omega)
    have m3 : ∀ i j : Int, mulOk i (j % 40009 + 7) = true := fun i j => mulOk_r (by omega) (by omega)
    have m4 : ∀ j : Int, mulOk j 48271 = true := fun j => mulOk_r (by decide) (by decide)
    have e : ∃ r : Int, fn_law_take [.own [.int A, .int B, .int C], .val (.int below)] = some (.val (.int (r % below)), .own [.int A, .int B, .int (C + 1)]) := by
      simp [fn_law_take, runD, f_law_take, isOwn, sSeq, sIf, bin, eIxOwn, eC, dInt, hA, atI, ixN, sSet, call, aCons, aNil, eVar, dToInt, dMod, h0, tgN, putS, sSetI, dDiv, h1, sRet, sNil, dAdd, dMul, m1, m2, m3, m4]
      exact ⟨_, rfl⟩
    obtain ⟨r, e⟩ := e
    exact ⟨_, _, e, Int.emod_nonneg _ (by omega), Int.emod_lt_of_pos _ h0, ⟨_, _, _, rfl, by omega, by omega⟩⟩
end DL

/-! ## PL1 -/
set_option linter.all false
set_option maxRecDepth 100000
set_option maxHeartbeats 4000000
namespace DL
open PySem PySem.Spec PyProof.Rows L2
/-! ### the types of what is drawn -/
inductive Sh where
  | a | b | c | d | e | f
def Sh.z : Sh → PyData
  | .a => .tuple [.int 0, .int 1, .int 2]
  | .b => .tuple [.int 2, .int 1, .int 0]
  | .c => .tuple [.int 2, .int 0, .int 1]
  | .d => .tuple [.int 1, .int 0, .int 2]
  | .e => .tuple [.int 1, .int 2, .int 0]
  | .f => .tuple [.int 0, .int 2, .int 1]
def sg : Bool → Int
  | true => 1
  | false => -1
structure Po where
  s : Sh
  f0 : Bool
  f1 : Bool
  f2 : Bool
structure Spot where
  p : Po
  x0 : Int
  x1 : Int
  x2 : Int
  y0 : Int
  y1 : Int
  y2 : Int
def Po.fr (p : Po) : PyData := .tuple [.int (sg p.f0), .int (sg p.f1), .int (sg p.f2)]
def Spot.d (S : Spot) : PyData := .tuple [S.p.s.z, .tuple [.int S.x0, .int S.x1, .int S.x2], .tuple [.int S.y0, .int S.y1, .int S.y2], S.p.fr]
/-- within n of the middle -/
def Spot.within (S : Spot) (n : Int) : Prop := (-n ≤ S.x0 ∧ S.x0 ≤ n) ∧ (-n ≤ S.x1 ∧ S.x1 ≤ n) ∧ (-n ≤ S.x2 ∧ S.x2 ≤ n) ∧ (-n ≤ S.y0 ∧ S.y0 ≤ n) ∧ (-n ≤ S.y1 ∧ S.y1 ≤ n) ∧ (-n ≤ S.y2 ∧ S.y2 ≤ n)
inductive Mv where
  | t0 | t1 | t2 | t3 | p0 | p1 | p2 | p3 | m0 | m1 | m2 | m3
def Mv.d : Mv → PyData
  | .t0 => .tuple [.str "tip", .int 0]
  | .t1 => .tuple [.str "tip", .int 1]
  | .t2 => .tuple [.str "tip", .int 2]
  | .t3 => .tuple [.str "tip", .int 3]
  | .p0 => .tuple [.str "turn", .int 0, .int 1]
  | .p1 => .tuple [.str "turn", .int 1, .int 1]
  | .p2 => .tuple [.str "turn", .int 2, .int 1]
  | .p3 => .tuple [.str "turn", .int 3, .int 1]
  | .m0 => .tuple [.str "turn", .int 0, .int (-1)]
  | .m1 => .tuple [.str "turn", .int 1, .int (-1)]
  | .m2 => .tuple [.str "turn", .int 2, .int (-1)]
  | .m3 => .tuple [.str "turn", .int 3, .int (-1)]
def tipsD : List PyData := [Mv.d .t0, Mv.d .t1, Mv.d .t2, Mv.d .t3]
def turnsD : List PyData := [Mv.d .p0, Mv.d .p1, Mv.d .p2, Mv.d .p3, Mv.d .m0, Mv.d .m1, Mv.d .m2, Mv.d .m3]
def rowD (ms : List Mv) : PyData := .tuple (ms.map Mv.d)
theorem poses_ok : resD (fn_law_poses []) = some (.list [Sh.z .a, Sh.z .b, Sh.z .c, Sh.z .d, Sh.z .e, Sh.z .f]) := by kernel_rfl
theorem tips_ok : resD (fn_law_tips []) = some (.list tipsD) := by kernel_rfl
theorem turns_ok : resD (fn_law_turns []) = some (.list turnsD) := by kernel_rfl
theorem all_ok : resD (fn_law_all_steps []) = some (.list (tipsD ++ turnsD)) := by kernel_rfl
/-- an entry drawn -/
theorem of_ok' {m : Int} {tin : List PyData} (ds : List PyData) (h0 : ds ≠ []) (h1 : ds.length < 1000000) (hm : m < 2 ^ 60) (h : TI m tin) (g : PyData) (hg : g = .list ds ∨ g = .tuple ds) :
    ∃ (d : PyData) (tin' : List PyData), fn_law_of [.own tin, .val g] = some (.val d, .own tin') ∧ d ∈ ds ∧ TI (m + 1) tin' := by
  have hp : 0 < ds.length := List.length_pos_iff.mpr h0
  obtain ⟨n, tin', e, n0, n1, t⟩ := take_ok (ds.length : Int) (by omega) (by omega) hm h
  have hn : n.toNat < ds.length := by omega
  refine ⟨ds[n.toNat], tin', ?_, List.getElem_mem hn, t⟩
  rcases hg with rfl | rfl
  · simp [fn_law_of, runD, f_law_of, isOwn, sRet, bin, eVar, eCallO, aCons, aNil, call, dLen, resZ, e, dIx, atI, ixN, n0, n1, hn]
  · simp [fn_law_of, runD, f_law_of, isOwn, sRet, bin, eVar, eCallO, aCons, aNil, call, dLen, resZ, e, dIx, atI, ixN, n0, n1, hn]
theorem bit2 {n : Int} (h0 : 0 ≤ n) (h1 : n < 2) : ∃ b : Bool, 1 - 2 * n = sg b := by
  rcases (by omega : n = 0 ∨ n = 1) with rfl | rfl
  · exact ⟨true, rfl⟩
  · exact ⟨false, rfl⟩
theorem sh_of {d : PyData} (h : d ∈ [Sh.z .a, Sh.z .b, Sh.z .c, Sh.z .d, Sh.z .e, Sh.z .f]) : ∃ s : Sh, d = s.z := by
  simp only [List.mem_cons, List.not_mem_nil, or_false] at h
  rcases h with h | h | h | h | h | h
  · exact ⟨_, h⟩
  · exact ⟨_, h⟩
  · exact ⟨_, h⟩
  · exact ⟨_, h⟩
  · exact ⟨_, h⟩
  · exact ⟨_, h⟩
theorem drawn_ok {m : Int} {tin : List PyData} (hm : m < 2 ^ 59) (h : TI m tin) :
    ∃ (S : Spot) (tin' : List PyData), fn_law_drawn_spot [.own tin] = some (.val S.d, .own tin') ∧ S.within 20 ∧ TI (m + 10) tin' := by
  obtain ⟨pd, u0, e0, p0, i0⟩ := of_ok' [Sh.z .a, Sh.z .b, Sh.z .c, Sh.z .d, Sh.z .e, Sh.z .f] (by simp) (by simp) (by omega) h _ (.inl rfl)
  obtain ⟨s, rfl⟩ := sh_of p0
  obtain ⟨n1, u1, e1, a1, b1, i1⟩ := take_ok 41 (by omega) (by omega) (by omega) i0
  obtain ⟨n2, u2, e2, a2, b2, i2⟩ := take_ok 41 (by omega) (by omega) (by omega) i1
  obtain ⟨n3, u3, e3, a3, b3, i3⟩ := take_ok 41 (by omega) (by omega) (by omega) i2
  obtain ⟨n4, u4, e4, a4, b4, i4⟩ := take_ok 41 (by omega) (by omega) (by omega) i3
  obtain ⟨n5, u5, e5, a5, b5, i5⟩ := take_ok 41 (by omega) (by omega) (by omega) i4
  obtain ⟨n6, u6, e6, a6, b6, i6⟩ := take_ok 41 (by omega) (by omega) (by omega) i5
  obtain ⟨n7, u7, e7, a7, b7, i7⟩ := take_ok 2 (by omega) (by omega) (by omega) i6
  obtain ⟨n8, u8, e8, a8, b8, i8⟩ := take_ok 2 (by omega) (by omega) (by omega) i7
  obtain ⟨n9, u9, e9, a9, b9, i9⟩ := take_ok 2 (by omega) (by omega) (by omega) i8
  obtain ⟨g7, q7⟩ := bit2 a7 b7
  obtain ⟨g8, q8⟩ := bit2 a8 b8
  obtain ⟨g9, q9⟩ := bit2 a9 b9
  refine ⟨⟨⟨s, g7, g8, g9⟩, n1 - 20, n2 - 20, n3 - 20, n4 - 20, n5 - 20, n6 - 20⟩, u9, ?_, ?_, ?_⟩
  · have m2 : ∀ j : Int, mulOk 2 j = true := fun j => mulOk_l (by decide) (by decide)
    simp [fn_law_drawn_spot, runD, f_law_drawn_spot, isOwn, sSeq, sSet, sRet, bin, eVar, eC, eCallO, eCall, poses_ok, aCons, aNil, call, dTuple, eOf, oComp, iRange, rangeD, List.range_succ, few, loopC, wipeE, tgN, putS, cYes, resZ, dSub, dMul, m2, eTup, e0, e1, e2, e3, e4, e5, e6, e7, e8, e9, q7, q8, q9, Spot.d, Po.fr]
  · refine ⟨?_, ?_, ?_, ?_, ?_, ?_⟩ <;> constructor <;> dsimp only <;> omega
  · have e : m + 10 = m + 1 + 1 + 1 + 1 + 1 + 1 + 1 + 1 + 1 + 1 := by omega
    rw [e]
    exact i9
end DL

/-! ## PL2 -/
set_option linter.all false
set_option maxRecDepth 100000
set_option maxHeartbeats 4000000
namespace DL
open PySem PySem.Spec PyProof.Rows L2
theorem walk_loop (ds : List PyData) (mv : Sl) (hd : ds ≠ []) (hl : ds.length < 1000000) : ∀ (ks : List PyData) (m : Int) (tin : List PyData), m + ks.length < 2 ^ 60 → TI m tin →
    ∃ (os : List PyData) (tin' : List PyData), os.length = ks.length ∧ (∀ d ∈ os, d ∈ ds) ∧ loopC (tgN 3) cYes (eCallO 0 fn_law_of (aCons (eVar 2) aNil)) [3] ks [.own tin, mv, .val (.list ds), .no] = some (os, [.own tin', mv, .val (.list ds), .no]) ∧ TI (m + ks.length) tin'
  | [], m, tin, hm, h => ⟨[], tin, rfl, fun _ z => absurd z (by simp), rfl, by simpa using h⟩
  | k :: ks, m, tin, hm, h => by
    rw [List.length_cons] at hm
    obtain ⟨d, t1, e1, p1, i1⟩ := of_ok' ds hd hl (by omega) h _ (.inl rfl)
    obtain ⟨os, t2, q1, q2, e2, i2⟩ := walk_loop ds mv hd hl ks (m + 1) t1 (by omega) i1
    refine ⟨d :: os, t2, by rw [List.length_cons, List.length_cons, q1], fun z hz => ?_, ?_, ?_⟩
    · rcases List.mem_cons.mp hz with rfl | hz
      · exact p1
      · exact q2 z hz
    · simp [loopC, tgN, putS, cYes, eCallO, aCons, aNil, eVar, resZ, e1, wipeE, e2]
    · have : m + (k :: ks).length = m + 1 + ks.length := by rw [List.length_cons]; omega
      rw [this]
      exact i2
theorem walk_ok {m : Int} {tin : List PyData} (ds : List PyData) (hd : ds ≠ []) (hl : ds.length < 1000000) (n : Int) (hn : n ≤ 1000000) (hm : m < 2 ^ 59) (h0 : 0 ≤ n) (h : TI m tin) :
    ∃ (os : List PyData) (tin' : List PyData), fn_law_walk [.own tin, .val (.int n), .val (.list ds)] = some (.val (.tuple os), .own tin') ∧ (os.length : Int) = n ∧ (∀ d ∈ os, d ∈ ds) ∧ TI (m + n) tin' := by
  have e : ((rangeD n.toNat).length : Int) = n := by
    unfold rangeD
    rw [List.length_map, List.length_range]
    omega
  obtain ⟨os, t, q1, q2, e1, i⟩ := walk_loop ds (.val (.int n)) hd hl (rangeD n.toNat) m tin (by rw [e]; omega) h
  have hf : few (rangeD n.toNat).length = true := decide_eq_true (by omega)
  refine ⟨os, t, ?_, by rw [q1, e], q2, by rw [e] at i; exact i⟩
  have r1 : -4611686018427387904 ≤ n := by omega
  have r2 : n < 4611686018427387904 := by omega
  simp [r1, r2, fn_law_walk, runD, f_law_walk, isOwn, sRet, call, aCons, aNil, eOf, oComp, iRange, eVar, hf, wipeE, e1, dTuple]
theorem mv_of : ∀ d ∈ tipsD ++ turnsD, ∃ m : Mv, d = m.d := by
  intro d h
  simp only [tipsD, turnsD, List.cons_append, List.nil_append, List.mem_cons, List.not_mem_nil, or_false] at h
  rcases h with h | h | h | h | h | h | h | h | h | h | h | h <;> exact ⟨_, h⟩
theorem mvs_of : ∀ os : List PyData, (∀ d ∈ os, d ∈ tipsD ++ turnsD) → ∃ ms : List Mv, os = ms.map Mv.d
  | [], _ => ⟨[], rfl⟩
  | d :: os, h => by
    obtain ⟨m, rfl⟩ := mv_of d (h d (List.mem_cons_self ..))
    obtain ⟨ms, rfl⟩ := mvs_of os fun z hz => h z (List.mem_cons_of_mem _ hz)
    exact ⟨m :: ms, rfl⟩
theorem mixed_ok {m : Int} {tin : List PyData} (hm : m < 2 ^ 58) (h : TI m tin) :
    ∃ (ms : List Mv) (tin' : List PyData), fn_law_mixed [.own tin, .val (.int 20)] = some (.val (rowD ms), .own tin') ∧ ms.length ≤ 20 ∧ TI (m + 30) tin' := by
  obtain ⟨g, t1, e1, p1, i1⟩ := of_ok' [.list tipsD, .list turnsD, .list (tipsD ++ turnsD), .list (tipsD ++ turnsD)] (by simp) (by simp) (by omega) h _ (.inl rfl)
  obtain ⟨ds, rfl, hd, hl, hs⟩ : ∃ ds, g = .list ds ∧ ds ≠ [] ∧ ds.length < 1000000 ∧ ∀ d ∈ ds, d ∈ tipsD ++ turnsD := by
    simp only [List.mem_cons, List.not_mem_nil, or_false] at p1
    rcases p1 with h | h | h | h
    · exact ⟨_, h, by simp [tipsD], by simp [tipsD], fun d hd => List.mem_append_left _ hd⟩
    · exact ⟨_, h, by simp [turnsD], by simp [turnsD], fun d hd => List.mem_append_right _ hd⟩
    · exact ⟨_, h, by simp [tipsD], by simp [tipsD, turnsD], fun d hd => hd⟩
    · exact ⟨_, h, by simp [tipsD], by simp [tipsD, turnsD], fun d hd => hd⟩
  obtain ⟨n, t2, e2, n0, n1, i2⟩ := take_ok 21 (by omega) (by omega) (by omega) i1
  obtain ⟨os, t3, e3, l3, q3, i3⟩ := walk_ok ds hd hl n (by omega) (by omega) n0 i2
  obtain ⟨ms, rfl⟩ := mvs_of os fun d hd => hs d (q3 d hd)
  rw [List.length_map] at l3
  refine ⟨ms, t3, ?_, by omega, ?_⟩
  · simp [fn_law_mixed, runD, f_law_mixed, isOwn, sSeq, sSet, sRet, eCallO, eCall, aCons, aNil, eOf, oLst, few, tips_ok, turns_ok, all_ok, resZ, e1, tgN, putS, eVar, bin, dAdd, eC, e2, e3, rowD]
  · obtain ⟨A, B, C, z, c0, c1⟩ := i3
    exact ⟨A, B, C, z, c0, by omega⟩
theorem shaped_int (i : Int) : SeqAt.shaped (.int i) = true := rfl
theorem eqv_int (i j : Int) : PyData.eqv (.int i) (.int j) = (i == j) := by unfold PyData.eqv; rfl
theorem trunk_ok {m : Int} {tin : List PyData} (hm : m < 2 ^ 58) (h : TI m tin) :
    ∃ (a b c : Int) (tin' : List PyData), fn_law_trunk [.own tin] = some (.val (.tuple [.int a, .int b, .int c]), .own tin') ∧ (1 ≤ a ∧ a ≤ 7) ∧ (1 ≤ b ∧ b ≤ 7) ∧ (1 ≤ c ∧ c ≤ 7) ∧ TI (m + 10) tin' := by
  obtain ⟨n1, u1, e1, a1, b1, i1⟩ := take_ok 7 (by omega) (by omega) (by omega) h
  obtain ⟨n2, u2, e2, a2, b2, i2⟩ := take_ok 7 (by omega) (by omega) (by omega) i1
  obtain ⟨n3, u3, e3, a3, b3, i3⟩ := take_ok 7 (by omega) (by omega) (by omega) i2
  obtain ⟨n4, u4, e4, a4, b4, i4⟩ := take_ok 4 (by omega) (by omega) (by omega) i3
  by_cases c4 : n4 = 0
  · obtain ⟨n5, u5, e5, a5, b5, i5⟩ := take_ok 2 (by omega) (by omega) (by omega) i4
    have ti : TI (m + 10) u5 := by
      obtain ⟨A, B, C, z, c0, c1⟩ := i5
      exact ⟨A, B, C, z, c0, by omega⟩
    rcases (by omega : n5 = 0 ∨ n5 = 1) with c5 | c5
    · refine ⟨1 + n1, 1 + n2, 1 + n1, u5, ?_, by omega, by omega, by omega, ti⟩
      simp [fn_law_trunk, runD, f_law_trunk, isOwn, sSeq, sSetO, sRet, bin, eVar, eC, eCallO, aCons, aNil, oComp, iRange, rangeD, List.range_succ, few, loopC, wipeE, tgN, putS, cYes, resZ, dAdd, e1, e2, e3, e4, e5, sIf, dEq, shaped_int, eqv_int, c4, sNil, eTupOwn, sSetI, eIxOwn, c5, atI, ixN]
    · refine ⟨1 + n1, 1 + n2, 1 + n2, u5, ?_, by omega, by omega, by omega, ti⟩
      simp [fn_law_trunk, runD, f_law_trunk, isOwn, sSeq, sSetO, sRet, bin, eVar, eC, eCallO, aCons, aNil, oComp, iRange, rangeD, List.range_succ, few, loopC, wipeE, tgN, putS, cYes, resZ, dAdd, e1, e2, e3, e4, e5, sIf, dEq, shaped_int, eqv_int, c4, sNil, eTupOwn, sSetI, eIxOwn, c5, atI, ixN]
  · refine ⟨1 + n1, 1 + n2, 1 + n3, u4, ?_, by omega, by omega, by omega, ?_⟩
    · have c5 : (n4 == 0) = false := by simp [c4]
      simp [fn_law_trunk, runD, f_law_trunk, isOwn, sSeq, sSetO, sRet, bin, eVar, eC, eCallO, aCons, aNil, oComp, iRange, rangeD, List.range_succ, few, loopC, wipeE, tgN, putS, cYes, resZ, dAdd, e1, e2, e3, e4, sIf, dEq, shaped_int, eqv_int, c5, sNil, eTupOwn]
    · obtain ⟨A, B, C, z, c0, c1⟩ := i4
      exact ⟨A, B, C, z, c0, by omega⟩
end DL

/-! ## PL3 -/
set_option linter.all false
set_option maxRecDepth 100000
set_option maxHeartbeats 40000000
namespace DL
open PySem PySem.Spec PyProof.Rows L2
/-! ### a move, told plainly -/
def Sh.ijk : Sh → Nat × Nat × Nat
  | .a => (0, 1, 2)
  | .b => (2, 1, 0)
  | .c => (2, 0, 1)
  | .d => (1, 0, 2)
  | .e => (1, 2, 0)
  | .f => (0, 2, 1)
def Sh.ik : Sh → Sh
  | .a => .b
  | .b => .a
  | .c => .d
  | .d => .c
  | .e => .f
  | .f => .e
def Sh.jk : Sh → Sh
  | .a => .f
  | .b => .c
  | .c => .b
  | .d => .e
  | .e => .d
  | .f => .a
def Sh.ij : Sh → Sh
  | .a => .d
  | .b => .e
  | .c => .f
  | .d => .a
  | .e => .b
  | .f => .c
def bmp (i : Nat) (d : Int) (x : Int × Int × Int) : Int × Int × Int := match i with
  | 0 => (x.1 + d, x.2.1, x.2.2)
  | 1 => (x.1, x.2.1 + d, x.2.2)
  | _ => (x.1, x.2.1, x.2.2 + d)
def Po.flip (p : Po) (s : Sh) (i : Nat) : Po := match i with
  | 0 => ⟨s, !p.f0, p.f1, p.f2⟩
  | 1 => ⟨s, p.f0, !p.f1, p.f2⟩
  | _ => ⟨s, p.f0, p.f1, !p.f2⟩
abbrev Spot.x (S : Spot) : Int × Int × Int := (S.x0, S.x1, S.x2)
abbrev Spot.y (S : Spot) : Int × Int × Int := (S.y0, S.y1, S.y2)
def spot (p : Po) (x y : Int × Int × Int) : Spot := ⟨p, x.1, x.2.1, x.2.2, y.1, y.2.1, y.2.2⟩
def turnP (S : Spot) (i j : Nat) (e n : Int) : Spot := spot (S.p.flip S.p.s.ij j) (bmp j n (bmp i e S.x)) (bmp j n (bmp i (-e) S.y))
def turnM (S : Spot) (i j : Nat) (e n : Int) : Spot := spot (S.p.flip S.p.s.ij i) (bmp j (-n) (bmp i e S.x)) (bmp j n (bmp i e S.y))
def next (S : Spot) (m : Mv) : Spot := match S.p.s.ijk with
  | (i, j, k) => match m with
    | .t0 => spot (S.p.flip S.p.s.ik i) (bmp k 1 (bmp i 1 S.x)) S.y
    | .t1 => spot (S.p.flip S.p.s.jk j) S.x (bmp k 1 (bmp j 1 S.y))
    | .t2 => spot (S.p.flip S.p.s.ik k) (bmp k (-1) (bmp i (-1) S.x)) S.y
    | .t3 => spot (S.p.flip S.p.s.jk k) S.x (bmp k (-1) (bmp j (-1) S.y))
    | .p0 => turnP S i j (-1) (-1)
    | .p1 => turnP S i j 1 (-1)
    | .p2 => turnP S i j 1 1
    | .p3 => turnP S i j (-1) 1
    | .m0 => turnM S i j (-1) (-1)
    | .m1 => turnM S i j 1 (-1)
    | .m2 => turnM S i j 1 1
    | .m3 => turnM S i j (-1) 1
theorem moved_ok (S : Spot) (m : Mv) : resD (fn_moved_in [.val S.d, .val m.d]) = some (next S m).d := by
  obtain ⟨⟨s, f, g, h⟩, x0, x1, x2, y0, y1, y2⟩ := S
  cases s <;> cases f <;> cases g <;> cases h <;> cases m <;> kernel_rfl
end DL

/-! ## PL4 -/
set_option linter.all false
set_option maxRecDepth 100000
set_option maxHeartbeats 40000000
namespace DL
open PySem PySem.Spec PyProof.Rows L2
/-! ### the own box -/
def Sh.pl : Sh → Nat × Nat × Nat
  | .a => (0, 1, 2)
  | .b => (2, 1, 0)
  | .c => (1, 2, 0)
  | .d => (1, 0, 2)
  | .e => (2, 0, 1)
  | .f => (0, 2, 1)
def axis (pl : Nat) (v : Int) : PyData := match pl with
  | 0 => .tuple [.int v, .int 0, .int 0]
  | 1 => .tuple [.int 0, .int v, .int 0]
  | _ => .tuple [.int 0, .int 0, .int v]
def sel (i : Nat) (a b c : Int) : Int := match i with
  | 0 => a
  | 1 => b
  | _ => c
def Po.axes (p : Po) : PyData := .tuple [axis p.s.pl.1 (sg p.f0), axis p.s.pl.2.1 (sg p.f1), axis p.s.pl.2.2 (sg p.f2)]
def bx (p : Po) (e n u : Int) : PyData := .tuple [.tuple [.int e, .int n, .int u], p.axes]
def sd (a b c : Int) : PyData := .tuple [.int a, .int b, .int c]
def bmid (a b c : Int) (s : Sh) (m : Mv) (e n u : Int) : Int × Int × Int :=
  let W := sel s.ijk.1 a b c + 0
  let D := sel s.ijk.2.1 a b c + 0
  match m with
  | .t0 => (e + W + u, n + 0 + 0, - -W)
  | .t1 => (e + 0 + 0, n + D + u, - -D)
  | .t2 => (e + -W + -u, n + 0 + 0, - -W)
  | .t3 => (e + 0 + 0, n + -D + -u, - -D)
  | .p0 => (e + -W + (-1) * - -D, n + -D + 1 * - -W, u)
  | .p1 => (e + W + (-1) * - -D, n + -D + 1 * -W, u)
  | .p2 => (e + W + (-1) * -D, n + D + 1 * -W, u)
  | .p3 => (e + -W + (-1) * -D, n + D + 1 * - -W, u)
  | .m0 => (e + -W + 1 * - -D, n + -D + (-1) * - -W, u)
  | .m1 => (e + W + 1 * - -D, n + -D + (-1) * -W, u)
  | .m2 => (e + W + 1 * -D, n + D + (-1) * -W, u)
  | .m3 => (e + -W + 1 * -D, n + D + (-1) * - -W, u)
def nextP (p : Po) (m : Mv) : Po := (next ⟨p, 0, 0, 0, 0, 0, 0⟩ m).p
theorem bstep_ok (a b c e n u : Int) (p : Po) (m : Mv) : resD (fn_law_box_step [.val (sd a b c), .val (bx p e n u), .val m.d]) = some (bx (nextP p m) (bmid a b c p.s m e n u).1 (bmid a b c p.s m e n u).2.1 (bmid a b c p.s m e n u).2.2) := by
  obtain ⟨s, f, g, h⟩ := p
  cases s <;> cases f <;> cases g <;> cases h <;> cases m <;> kernel_rfl
end DL

/-! ## PL5 -/
set_option linter.all false
set_option maxRecDepth 100000
set_option maxHeartbeats 40000000
namespace DL
open PySem PySem.Spec PyProof.Rows L2
def dot (x : Int × Int × Int) (a b c : Int) : Int := x.1 * a + (x.2.1 * b + (x.2.2 * c + 0))
def up (s : Sh) (a b c : Int) : Int := sel s.ijk.2.2 a b c
theorem nextP_eq (S : Spot) (m : Mv) : (next S m).p = nextP S.p m := by
  obtain ⟨⟨s, f, g, h⟩, x0, x1, x2, y0, y1, y2⟩ := S
  cases s <;> cases m <;> rfl
theorem bmid_ok (a b c : Int) (S : Spot) (m : Mv) : bmid a b c S.p.s m (dot S.x a b c) (dot S.y a b c) (up S.p.s a b c) = (dot (next S m).x a b c, dot (next S m).y a b c, up (next S m).p.s a b c) := by
  obtain ⟨⟨s, f, g, h⟩, x0, x1, x2, y0, y1, y2⟩ := S
  cases s <;> cases m <;> simp only [bmid, next, Sh.ijk, Sh.ik, Sh.jk, Sh.ij, sel, dot, up, turnP, turnM, spot, bmp, Po.flip, Int.add_mul, Prod.mk.injEq, and_true] <;> omega
theorem next_within {S : Spot} {n : Int} (m : Mv) (h : S.within n) : (next S m).within (n + 1) := by
  obtain ⟨⟨s, f, g, k⟩, x0, x1, x2, y0, y1, y2⟩ := S
  obtain ⟨⟨h1, h2⟩, ⟨h3, h4⟩, ⟨h5, h6⟩, ⟨h7, h8⟩, ⟨h9, h10⟩, ⟨h11, h12⟩⟩ := h
  dsimp only at h1 h2 h3 h4 h5 h6 h7 h8 h9 h10 h11 h12
  cases s <;> cases m <;> simp only [Spot.within, next, Sh.ijk, Sh.ik, Sh.jk, Sh.ij, turnP, turnM, spot, bmp, Po.flip] <;> omega
end DL

/-! ## PL6 -/
set_option linter.all false
set_option maxRecDepth 100000
set_option maxHeartbeats 40000000
namespace DL
open PySem PySem.Spec PyProof.Rows L2
theorem resD_val (d : PyData) (z : Sl) : resD (some (.val d, z)) = some d := rfl
def outD : Option Out → Option PyData
  | some (.rt (.val d) _) => some d
  | some (.rt (.own ds) _) => some (.list ds)
  | some (.rt .no _) => none
  | some (.nx _) => some .none
  | none => none
theorem mulOk_x {i j : Int} (h : -1000000 ≤ i ∧ i ≤ 1000000) : mulOk i j = true := mulOk_l (by omega) (by omega)
def box_rest : FS :=
  (sSeq (sSetO 8 (oLst (aCons (eC .none) (aCons (eC .none) (aCons (eC .none) aNil)))))
  (sSeq (sFor (iEnumF (aCons (eVar 2) aNil)) (tgTup 2 (tgCons (tgN 9) (tgCons (tgN 10) tgNil))) (sSeq (sSetO 11 (oLst (aCons (eC (.int 0)) (aCons (eC (.int 0)) (aCons (eC (.int 0)) aNil)))))
  (sSeq (sSetI 11 (bin dIx (eVar 5) (eVar 10)) (eVar 9))
  (sSetI 8 (eTupOwn 11) (eVar 10)))))
  (sRet (eTup (aCons (eTup (aCons (eVar 6) (aCons (eVar 7) (aCons (bin dIx (eVar 0) (bin dIx (eVar 2) (eC (.int 2)))) aNil)))) (aCons (eTupOwn 8) aNil))))))
theorem box_head (rest : FS) (a b c : Int) (S : Spot) (w : S.within 1000000) :
    (sSeq (sSet (eVar 1) (tgTup 4 (tgCons (tgN 2) (tgCons (tgN 3) (tgCons (tgN 4) (tgCons (tgN 5) tgNil))))))
    (sSeq (sSet (call dSum (aCons (eOf (oComp (iZipF (aCons (eVar 3) (aCons (eVar 0) aNil))) (tgTup 2 (tgCons (tgN 12) (tgCons (tgN 13) tgNil))) cYes (bin dMul (eVar 12) (eVar 13)) [12, 13])) aNil)) (tgN 6))
    (sSeq (sSet (call dSum (aCons (eOf (oComp (iZipF (aCons (eVar 4) (aCons (eVar 0) aNil))) (tgTup 2 (tgCons (tgN 12) (tgCons (tgN 13) tgNil))) cYes (bin dMul (eVar 12) (eVar 13)) [12, 13])) aNil)) (tgN 7)) rest))) [.val (sd a b c), .val S.d, .no, .no, .no, .no, .no, .no, .no, .no, .no, .no, .no, .no] = rest [.val (sd a b c), .val S.d, .val S.p.s.z, .val (.tuple [.int S.x0, .int S.x1, .int S.x2]), .val (.tuple [.int S.y0, .int S.y1, .int S.y2]), .val S.p.fr, .val (.int (dot S.x a b c)), .val (.int (dot S.y a b c)), .no, .no, .no, .no, .no, .no] := by
  obtain ⟨h1, h2, h3, h4, h5, h6⟩ := w
  simp [sSeq, sSet, eVar, tgTup, tgCons, tgNil, tgN, putS, Spot.d, sd, call, aCons, aNil, eOf, oComp, iZipF, zipD, few, loopC, wipeE, cYes, bin, dMul, mulOk_x h1, mulOk_x h2, mulOk_x h3, mulOk_x h4, mulOk_x h5, mulOk_x h6, dSum, intsOf, dot]
theorem box_of_ok (a b c : Int) (S : Spot) (w : S.within 1000000) : resD (fn_law_box_of [.val (sd a b c), .val S.d]) = some (bx S.p (dot S.x a b c) (dot S.y a b c) (up S.p.s a b c)) := by
  have e1 : resD (fn_law_box_of [.val (sd a b c), .val S.d]) = outD (box_rest [.val (sd a b c), .val S.d, .val S.p.s.z, .val (.tuple [.int S.x0, .int S.x1, .int S.x2]), .val (.tuple [.int S.y0, .int S.y1, .int S.y2]), .val S.p.fr, .val (.int (dot S.x a b c)), .val (.int (dot S.y a b c)), .no, .no, .no, .no, .no, .no]) := by
    rw [← box_head box_rest a b c S w]
    have : ∀ o : Option Out, resD (match o with
      | some (.rt r ρ) => some (r, ρ[0]?.getD .no)
      | some (.nx ρ) => some (.val .none, ρ[0]?.getD .no)
      | none => none) = outD o := fun o => by
      rcases o with _ | ⟨_ | _⟩
      · rfl
      · rfl
      · rename_i r ρ
        cases r <;> rfl
    exact this _
  rw [e1]
  generalize dot S.x a b c = e
  generalize dot S.y a b c = n
  obtain ⟨⟨s, f, g, h⟩, x0, x1, x2, y0, y1, y2⟩ := S
  cases s <;> cases f <;> cases g <;> cases h <;> kernel_rfl
theorem digits_ok (t t1 t2 x0 x1 x2 : Int) (q0 : (t + 5000) % 10000 - 5000 = x0) (r0 : (t - x0) / 10000 = t1) (q1 : (t1 + 5000) % 10000 - 5000 = x1) (r1 : (t1 - x1) / 10000 = t2) (q2 : (t2 + 5000) % 10000 - 5000 = x2) :
    resD (fn_law_digits_of [.val (.int t)]) = some (.tuple [.int x0, .int x1, .int x2]) := by
  simp [fn_law_digits_of, runD, f_law_digits_of, isOwn, sSeq, sSetO, oLst, aNil, few, putS, sFor, iRange, aCons, eC, rangeD, List.range_succ, loopS, tgN, sSet, bin, dSub, dMod, dAdd, eVar, sApp, dDiv, sRet, eTupOwn, q0, r0, q1, r1, q2, resD]
theorem digits_dot {x0 x1 x2 : Int} (h0 : -1000 ≤ x0 ∧ x0 ≤ 1000) (h1 : -1000 ≤ x1 ∧ x1 ≤ 1000) (h2 : -1000 ≤ x2 ∧ x2 ≤ 1000) :
    resD (fn_law_digits_of [.val (.int (dot (x0, x1, x2) 1 10000 100000000))]) = some (.tuple [.int x0, .int x1, .int x2]) := by
  refine digits_ok _ (x1 + 10000 * x2) x2 x0 x1 x2 ?_ ?_ ?_ ?_ ?_ <;> (try unfold dot) <;> (try dsimp only) <;> omega
theorem spot_head (rest : FS) (p : Po) (e n u : Int) :
    (sSeq (sSet (eVar 0) (tgTup 2 (tgCons (tgN 1) (tgCons (tgN 2) tgNil))))
    (sSeq (sParO 3 4 (oLst (aCons (eC (.int 0)) (aCons (eC (.int 0)) (aCons (eC (.int 0)) aNil)))) (oLst (aCons (eC (.int 0)) (aCons (eC (.int 0)) (aCons (eC (.int 0)) aNil)))))
    (sSeq (sFor (iEnumF (aCons (eVar 2) aNil)) (tgTup 2 (tgCons (tgN 5) (tgCons (tgN 6) tgNil))) (sSeq (sSet (bin dIx (eOf (oComp (iRange (aCons (eC (.int 3)) aNil)) (tgN 8) (bin dNe (bin dIx (eVar 6) (eVar 8)) (eC (.int 0))) (eVar 8) [8])) (eC (.int 0))) (tgN 7))
  (sSeq (sSetI 3 (eVar 5) (eVar 7))
  (sSetI 4 (bin dIx (eVar 6) (eVar 7)) (eVar 5))))) rest))) [.val (bx p e n u), .no, .no, .no, .no, .no, .no, .no, .no] = rest [.val (bx p e n u), .val (.tuple [.int e, .int n, .int u]), .val p.axes, .own (match p.s.z with | .tuple l => l | _ => []), .own [.int (sg p.f0), .int (sg p.f1), .int (sg p.f2)], .val (.int 2), .val (axis p.s.pl.2.2 (sg p.f2)), .val (.int (p.s.pl.2.2 : Nat)), .no] := by
  obtain ⟨s, f, g, h⟩ := p
  cases s <;> cases f <;> cases g <;> cases h <;> kernel_rfl
def spot_rest : FS :=
  (sRet (eTup (aCons (eTupOwn 3) (aCons (eCall fn_law_digits_of (aCons (bin dIx (eVar 1) (eC (.int 0))) aNil)) (aCons (eCall fn_law_digits_of (aCons (bin dIx (eVar 1) (eC (.int 1))) aNil)) (aCons (eTupOwn 4) aNil))))))
theorem spot_of_ok (S : Spot) (u : Int) (w : S.within 1000) : resD (fn_law_spot_of [.val (bx S.p (dot S.x 1 10000 100000000) (dot S.y 1 10000 100000000) u)]) = some S.d := by
  obtain ⟨h1, h2, h3, h4, h5, h6⟩ := w
  have d1 := digits_dot h1 h2 h3
  have d2 := digits_dot h4 h5 h6
  have e1 : f_law_spot_of [.val (bx S.p (dot S.x 1 10000 100000000) (dot S.y 1 10000 100000000) u), .no, .no, .no, .no, .no, .no, .no, .no] = _ := spot_head spot_rest S.p _ _ u
  have z : S.p.s.z = .tuple (match S.p.s.z with | .tuple l => l | _ => []) := by cases S.p.s <;> rfl
  simp [fn_law_spot_of, runD, isOwn, e1, spot_rest, sRet, eTup, aCons, aNil, eTupOwn, eCall, bin, eVar, eC, dIx, atI, ixN, d1, d2, few, resD_val, Spot.d, Po.fr]
  exact z.symm
end DL

/-! ## PL7 -/
set_option linter.all false
set_option maxRecDepth 100000
set_option maxHeartbeats 40000000
namespace DL
open PySem PySem.Spec PyProof.Rows L2
theorem resD_own (d : List PyData) (z : Sl) : resD (some (.own d, z)) = some (.list d) := rfl
theorem loop_map {t : FT} {c f : FE} {vs : List Nat} {ρ : Ev} (g : PyData → PyData) : ∀ ds : List PyData,
    (∀ d ∈ ds, ∃ ρ1, t d ρ = some ρ1 ∧ c ρ1 = some (.bool true, ρ1) ∧ ∃ ρ2, f ρ1 = some (g d, ρ2) ∧ wipeE ρ2 vs = ρ) → loopC t c f vs ds ρ = some (ds.map g, ρ)
  | [], _ => rfl
  | d :: ds, h => by
    obtain ⟨ρ1, h1, h2, ρ2, h3, h4⟩ := h d (List.mem_cons_self ..)
    have ih := loop_map g ds fun z hz => h z (List.mem_cons_of_mem _ hz)
    simp [loopC, h1, h2, h3, h4, ih]
theorem loop_filter {t : FT} {c f : FE} {vs : List Nat} {ρ : Ev} (p : PyData → Bool) (g : PyData → PyData) : ∀ ds : List PyData,
    (∀ d ∈ ds, ∃ ρ1, t d ρ = some ρ1 ∧ c ρ1 = some (.bool (p d), ρ1) ∧ wipeE ρ1 vs = ρ ∧ ∃ ρ2, f ρ1 = some (g d, ρ2) ∧ wipeE ρ2 vs = ρ) → loopC t c f vs ds ρ = some ((ds.filter p).map g, ρ)
  | [], _ => rfl
  | d :: ds, h => by
    obtain ⟨ρ1, h1, h2, h5, ρ2, h3, h4⟩ := h d (List.mem_cons_self ..)
    have ih := loop_filter p g ds fun z hz => h z (List.mem_cons_of_mem _ hz)
    cases hp : p d with
    | true =>
      rw [hp] at h2
      simp [loopC, h1, h2, h3, h4, ih, hp]
    | false =>
      rw [hp] at h2
      simp [loopC, h1, h2, h5, ih, hp]
theorem bools_yes : ∀ {ds : List PyData} {g : PyData → PyData}, (∀ d ∈ ds, g d = .bool true) → bools (ds.map g) = some (ds.map fun _ => true)
  | [], _, _ => rfl
  | d :: ds, g, h => by
    rw [List.map_cons, h d (List.mem_cons_self ..)]
    simp [bools, bools_yes fun z hz => h z (List.mem_cons_of_mem _ hz)]
/-! ### lists for tuples -/
def Sh.l (s : Sh) : PyData := .list (match s.z with | .tuple l => l | _ => [])
def Spot.l (S : Spot) : PyData := .list [S.p.s.l, .list [.int S.x0, .int S.x1, .int S.x2], .list [.int S.y0, .int S.y1, .int S.y2], .list [.int (sg S.p.f0), .int (sg S.p.f1), .int (sg S.p.f2)]]
def Mv.l (m : Mv) : PyData := .list (match m.d with | .tuple l => l | _ => [])
def rowL (ms : List Mv) : PyData := .list (ms.map Mv.l)
theorem tupled_spot (S : Spot) : resD (fn_tupled 8 [.val S.d]) = some S.d := by
  obtain ⟨⟨s, f, g, h⟩, x0, x1, x2, y0, y1, y2⟩ := S
  cases s <;> kernel_rfl
theorem tupled_spotL (S : Spot) : resD (fn_tupled 8 [.val S.l]) = some S.d := by
  obtain ⟨⟨s, f, g, h⟩, x0, x1, x2, y0, y1, y2⟩ := S
  cases s <;> kernel_rfl
theorem lists_spot (S : Spot) : resD (fn_law_lists 8 [.val S.d]) = some S.l := by
  obtain ⟨⟨s, f, g, h⟩, x0, x1, x2, y0, y1, y2⟩ := S
  cases s <;> kernel_rfl
theorem tupled_mv (m : Mv) : resD (fn_tupled 7 [.val m.d]) = some m.d := by cases m <;> kernel_rfl
theorem tupled_mvL (m : Mv) : resD (fn_tupled 7 [.val m.l]) = some m.d := by cases m <;> kernel_rfl
theorem lists_mv (m : Mv) : resD (fn_law_lists 7 [.val m.d]) = some m.l := by cases m <;> kernel_rfl
theorem is_mv (m : Mv) : resD (fn_is_move [.val m.d]) = some (.bool true) := by cases m <;> kernel_rfl
theorem is_mvL (m : Mv) : resD (fn_is_move [.val m.l]) = some (.bool false) := by cases m <;> kernel_rfl
theorem is_stand_ok (S : Spot) : resD (fn_is_stand [.val S.d]) = some (.bool true) := by
  obtain ⟨⟨s, f, g, h⟩, x0, x1, x2, y0, y1, y2⟩ := S
  cases s <;> cases f <;> cases g <;> cases h <;> kernel_rfl
/-- a comprehension by one call -/
theorem map_call {fn : FD} {ds es : List PyData} (hl : ds.length ≤ 1000000) (h : ∀ (i : Nat) (d e : PyData), ds[i]? = some d → es[i]? = some e → resD (fn [.val d]) = some e) (hz : ds.length = es.length) (ρ : Ev) (hρ : ρ = [.val (.tuple ds), .no] ∨ ρ = [.val (.list ds), .no]) :
    oComp (iSeqD (eVar 0)) (tgN 1) cYes (eCall fn (aCons (eVar 1) aNil)) [1] ρ = some (es, ρ) := by
  have hf : few ds.length = true := decide_eq_true hl
  have key : ∀ (s : Sl) (ds es : List PyData), (∀ (i : Nat) (d e : PyData), ds[i]? = some d → es[i]? = some e → resD (fn [.val d]) = some e) → ds.length = es.length → loopC (tgN 1) cYes (eCall fn (aCons (eVar 1) aNil)) [1] ds [s, .no] = some (es, [s, .no]) := by
    intro s ds
    induction ds with
    | nil =>
      intro es h hz
      cases es with
      | nil => rfl
      | cons _ _ => cases hz
    | cons d ds ih =>
      intro es h hz
      cases es with
      | nil => cases hz
      | cons e es =>
        have h0 := h 0 d e rfl rfl
        have := ih es (fun i d' e' a b => h (i + 1) d' e' (by simpa using a) (by simpa using b)) (by simpa using hz)
        simp [loopC, tgN, putS, cYes, eCall, aCons, aNil, eVar, h0, wipeE, this]
  rcases hρ with rfl | rfl
  · simp [oComp, iSeqD, eVar, seqOf, hf, wipeE, key _ ds es h hz]
  · simp [oComp, iSeqD, eVar, seqOf, hf, wipeE, key _ ds es h hz]
theorem zip_at {α : Type} {f g : α → PyData} {ms : List α} {P : PyData → PyData → Prop} (h : ∀ m ∈ ms, P (f m) (g m)) : ∀ (i : Nat) (d e : PyData), (ms.map f)[i]? = some d → (ms.map g)[i]? = some e → P d e := fun i d e a b => by
  rw [List.getElem?_map] at a b
  cases z : ms[i]? with
  | none => rw [z] at a; cases a
  | some m =>
    rw [z] at a b
    cases a
    cases b
    exact h m (List.mem_of_getElem? z)
section
variable {ms : List Mv}
theorem tupled_row (hl : ms.length ≤ 1000000) : resD (fn_tupled 8 [.val (rowD ms)]) = some (rowD ms) := by
  have := map_call (fn := fn_tupled 7) (ds := ms.map Mv.d) (es := ms.map Mv.d) (by rw [List.length_map]; exact hl) (zip_at fun m _ => tupled_mv m) rfl _ (.inl rfl)
  show resD (runD 2 1 (f_tupled (fn_tupled 7)) [.val (.tuple (ms.map Mv.d))]) = some (.tuple (ms.map Mv.d))
  simp [runD, f_tupled, isOwn, sRet, eIf, eIsi2, eVar, Ty.has, call, aCons, aNil, eOf, resD_val, this, dTuple]
theorem tupled_rowL (hl : ms.length ≤ 1000000) : resD (fn_tupled 8 [.val (rowL ms)]) = some (rowD ms) := by
  have := map_call (fn := fn_tupled 7) (ds := ms.map Mv.l) (es := ms.map Mv.d) (by rw [List.length_map]; exact hl) (zip_at fun m _ => tupled_mvL m) (by simp) _ (.inr rfl)
  show resD (runD 2 1 (f_tupled (fn_tupled 7)) [.val (.list (ms.map Mv.l))]) = some (.tuple (ms.map Mv.d))
  simp [runD, f_tupled, isOwn, sRet, eIf, eIsi2, eVar, Ty.has, call, aCons, aNil, eOf, resD_val, this, dTuple]
theorem lists_row (hl : ms.length ≤ 1000000) : resD (fn_law_lists 8 [.val (rowD ms)]) = some (rowL ms) := by
  have := map_call (fn := fn_law_lists 7) (ds := ms.map Mv.d) (es := ms.map Mv.l) (by rw [List.length_map]; exact hl) (zip_at fun m _ => lists_mv m) (by simp) _ (.inl rfl)
  show resD (runD 2 1 (f_law_lists (fn_law_lists 7)) [.val (.tuple (ms.map Mv.d))]) = some (.list (ms.map Mv.l))
  simp [runD, f_law_lists, isOwn, sRet, eIf, eIsi2, eVar, Ty.has, aCons, aNil, eOf, resD_val, this]
theorem is_row_in_ok (hl : ms.length ≤ 1000000) : resD (fn_is_row_in [.val (rowD ms)]) = some (.bool true) := by
  have := map_call (fn := fn_is_move) (ds := ms.map Mv.d) (es := ms.map fun _ => .bool true) (by rw [List.length_map]; exact hl) (zip_at fun m _ => is_mv m) (by simp) _ (.inl rfl)
  have hb : bools (ms.map fun _ => PyData.bool true) = some (ms.map fun _ => true) := by
    clear this hl
    induction ms with
    | nil => rfl
    | cons m ms ih => simp [bools, ih]
  have ha : (ms.map fun _ => true).all id = true := by simp
  simp [rowD] at this ⊢
  simp [fn_is_row_in, runD, f_is_row_in, isOwn, sRet, eAnd, eIsi, eVar, Ty.has, call, aCons, aNil, eOf, resD_val, this, dAll, hb]
theorem sure_row_ok (hl : ms.length ≤ 1000000) : resD (fn_sure_row [.val (rowD ms)]) = some (rowD ms) := by
  have h1 := tupled_row hl
  have h2 := is_row_in_ok hl
  simp [fn_sure_row, runD, f_sure_row, isOwn, sSeq, sSet, eCall, aCons, aNil, eVar, h1, tgN, putS, sIf, eNot, h2, sNil, sRet, resD_val]
theorem sure_rowL_ok (hl : ms.length ≤ 1000000) : resD (fn_sure_row [.val (rowL ms)]) = some (rowD ms) := by
  have h1 := tupled_rowL hl
  have h2 := is_row_in_ok hl
  simp [fn_sure_row, runD, f_sure_row, isOwn, sSeq, sSet, eCall, aCons, aNil, eVar, h1, tgN, putS, sIf, eNot, h2, sNil, sRet, resD_val]
theorem is_row_ok (hl : ms.length ≤ 1000000) : resD (fn_is_row [.val (rowD ms)]) = some (.bool true) := by
  have h2 := is_row_in_ok hl
  simp [fn_is_row, runD, f_is_row, isOwn, sRet, eCall, aCons, aNil, eVar, h2, resD_val]
theorem is_rowL_ok : resD (fn_is_row [.val (rowL ms)]) = some (.bool false) := by
  have h2 : resD (fn_is_row_in [.val (rowL ms)]) = some (.bool false) := by kernel_rfl
  simp [fn_is_row, runD, f_is_row, isOwn, sRet, eCall, aCons, aNil, eVar, h2, resD_val]
theorem sure_stand_ok (S : Spot) : resD (fn_sure_stand [.val S.d]) = some S.d := by
  have h1 := tupled_spot S
  have h2 := is_stand_ok S
  simp [fn_sure_stand, runD, f_sure_stand, isOwn, sSeq, sSet, eCall, aCons, aNil, eVar, h1, tgN, putS, sIf, eNot, h2, sNil, sRet, resD_val]
theorem sure_standL_ok (S : Spot) : resD (fn_sure_stand [.val S.l]) = some S.d := by
  have h1 := tupled_spotL S
  have h2 := is_stand_ok S
  simp [fn_sure_stand, runD, f_sure_stand, isOwn, sSeq, sSet, eCall, aCons, aNil, eVar, h1, tgN, putS, sIf, eNot, h2, sNil, sRet, resD_val]

end
end DL

/-! ## PL8 -/
set_option linter.all false
set_option maxRecDepth 100000
set_option maxHeartbeats 40000000
namespace DL
open PySem PySem.Spec PyProof.Rows L2
def alongL (S : Spot) : List Mv → List Spot
  | [] => [S]
  | m :: ms => S :: alongL (next S m) ms
def lastS (S : Spot) : List Mv → Spot
  | [] => S
  | m :: ms => lastS (next S m) ms
theorem along_len : ∀ (ms : List Mv) (S : Spot), (alongL S ms).length = ms.length + 1
  | [], _ => rfl
  | m :: ms, S => by rw [alongL, List.length_cons, along_len ms, List.length_cons]
theorem atI_last (acc : List PyData) (d : PyData) : atI (acc ++ [d]) (-1) = some d := by
  have h : ixN (acc ++ [d]).length (-1) = some acc.length := by
    unfold ixN
    rw [List.length_append, List.length_singleton, if_neg (by omega), if_pos (by omega)]
    congr 1
    omega
  unfold atI
  rw [h]
  simp
theorem along_loop (a b : Sl) : ∀ (ms : List Mv) (S : Spot) (acc : List PyData) (s : Sl), acc.length + ms.length < 999990 →
    ∃ s', loopS (tgN 3) (sApp 2 (eCall fn_moved_in (aCons (eIxOwn 2 (eNeg (eC (.int 1)))) (aCons (eVar 3) aNil)))) (ms.map Mv.d) [a, b, .own (acc ++ [S.d]), s] = some [a, b, .own (acc ++ (alongL S ms).map Spot.d), s']
  | [], S, acc, s, h => ⟨s, rfl⟩
  | m :: ms, S, acc, s, h => by
    rw [List.length_cons] at h
    obtain ⟨s', e⟩ := along_loop a b ms (next S m) (acc ++ [S.d]) (.val m.d) (by rw [List.length_append, List.length_singleton]; omega)
    have hm := moved_ok S m
    have hl := atI_last acc S.d
    have hf : few ((acc ++ [S.d]).length + 1) = true := decide_eq_true (by rw [List.length_append, List.length_singleton]; omega)
    refine ⟨s', ?_⟩
    rw [List.append_assoc] at e
    simp [loopS, tgN, putS, sApp, eCall, aCons, aNil, eIxOwn, eNeg, eC, hl, eVar, hm, -List.length_append, hf, -List.append_assoc, alongL]
    simpa using e
theorem along_ok (S : Spot) (ms : List Mv) (h : ms.length < 999990) : resD (fn_along_in [.val S.d, .val (rowD ms)]) = some (.list ((alongL S ms).map Spot.d)) := by
  obtain ⟨s', e⟩ := along_loop (.val S.d) (.val (rowD ms)) ms S [] .no (by simpa using h)
  simp [rowD] at e
  simp [fn_along_in, runD, f_along_in, isOwn, sSeq, sSetO, oLst, aCons, aNil, eVar, few, putS, sFor, iSeqD, seqOf, rowD, e, sRetO, resD_own]
theorem behind_loop (b : Sl) : ∀ (ms : List Mv) (S : Spot) (s : Sl), ∃ s', loopS (tgN 2) (sSet (eCall fn_moved_in (aCons (eVar 0) (aCons (eVar 2) aNil))) (tgN 0)) (ms.map Mv.d) [.val S.d, b, s] = some [.val (lastS S ms).d, b, s']
  | [], S, s => ⟨s, rfl⟩
  | m :: ms, S, s => by
    obtain ⟨s', e⟩ := behind_loop b ms (next S m) (.val m.d)
    have hm := moved_ok S m
    refine ⟨s', ?_⟩
    simp [loopS, tgN, putS, sSet, eCall, aCons, aNil, eVar, hm, lastS]
    simpa using e
theorem behind_in_ok (S : Spot) (ms : List Mv) : resD (fn_behind_in [.val S.d, .val (rowD ms)]) = some (lastS S ms).d := by
  obtain ⟨s', e⟩ := behind_loop (.val (rowD ms)) ms S .no
  simp [rowD] at e
  simp [fn_behind_in, runD, f_behind_in, isOwn, sSeq, eVar, sFor, iSeqD, seqOf, rowD, e, sRet, resD_val]
/-- what one may hand over for a stand, a row -/
def IsS (S : Spot) (d : PyData) : Prop := d = S.d ∨ d = S.l
def IsR (ms : List Mv) (d : PyData) : Prop := d = rowD ms ∨ d = rowL ms
theorem IsS.sure {S : Spot} {d : PyData} (h : IsS S d) : resD (fn_sure_stand [.val d]) = some S.d := by
  rcases h with rfl | rfl
  · exact sure_stand_ok S
  · exact sure_standL_ok S
theorem IsR.sure {ms : List Mv} {d : PyData} (h : IsR ms d) (hl : ms.length ≤ 1000000) : resD (fn_sure_row [.val d]) = some (rowD ms) := by
  rcases h with rfl | rfl
  · exact sure_row_ok hl
  · exact sure_rowL_ok hl
section
variable {S : Spot} {ms : List Mv} {a b : PyData}
theorem behind_ok (hs : IsS S a) (hr : IsR ms b) (hl : ms.length < 999990) : resD (fn_behind [.val a, .val b]) = some (lastS S ms).d := by
  have h1 := hs.sure
  have h2 := hr.sure (by omega)
  have h3 := behind_in_ok S ms
  simp [fn_behind, runD, f_behind, isOwn, sSeq, sSet, eCall, aCons, aNil, eVar, h1, tgN, putS, h2, h3, sRet, resD_val]
theorem stands_ok (hs : IsS S a) (hr : IsR ms b) (hl : ms.length < 999990) : resD (fn_stands_along [.val a, .val b]) = some (.tuple ((alongL S ms).map Spot.d)) := by
  have h1 := hs.sure
  have h2 := hr.sure (by omega)
  have h3 := along_ok S ms hl
  simp [fn_stands_along, runD, f_stands_along, isOwn, sSeq, sSet, eCall, aCons, aNil, eVar, h1, tgN, putS, h2, h3, sRet, resD_val, call, dTuple]
end
/-! ### the own box -/
def box_body : FS := sSeq (sSet (eCall fn_law_box_step (aCons (eVar 2) (aCons (eVar 3) (aCons (eVar 5) aNil)))) (tgN 3)) (sApp 4 (eCall fn_law_spot_of (aCons (eVar 3) aNil)))
def f_boxed2 : FS :=
  (sSeq (sSet (eTup (aCons (eC (.int 1)) (aCons (bin dPow (eC (.int 10)) (eC (.int 4))) (aCons (bin dPow (eC (.int 10)) (eC (.int 8))) aNil)))) (tgN 2))
  (sSeq (sSet (eCall fn_law_box_of (aCons (eVar 2) (aCons (eVar 0) aNil))) (tgN 3))
  (sSeq (sSetO 4 (oLst (aCons (eVar 0) aNil)))
  (sSeq (sFor (iSeqD (eVar 1)) (tgN 5) box_body)
  (sRet (eTupOwn 4))))))
theorem boxed2 : fn_law_boxed = runD 6 2 f_boxed2 := rfl
theorem box_loop (a b : Sl) : ∀ (ms : List Mv) (S : Spot) (acc : List PyData) (s : Sl) (n : Int), S.within n → n + ms.length ≤ 1000 → 0 ≤ n → acc.length + ms.length < 999990 →
    ∃ c s', loopS (tgN 5) box_body (ms.map Mv.d)
      [a, b, .val (sd 1 10000 100000000), .val (bx S.p (dot S.x 1 10000 100000000) (dot S.y 1 10000 100000000) (up S.p.s 1 10000 100000000)), .own (acc ++ [S.d]), s] = some [a, b, .val (sd 1 10000 100000000), c, .own (acc ++ (alongL S ms).map Spot.d), s']
  | [], S, acc, s, n, _, _, _, h => ⟨_, s, rfl⟩
  | m :: ms, S, acc, s, n, w, hn, h0, h => by
    rw [List.length_cons] at h hn
    have w2 := next_within m w
    obtain ⟨c, s', e⟩ := box_loop a b ms (next S m) (acc ++ [S.d]) (.val m.d) (n + 1) w2 (by omega) (by omega) (by rw [List.length_append, List.length_singleton]; omega)
    have hb := bstep_ok 1 10000 100000000 (dot S.x 1 10000 100000000) (dot S.y 1 10000 100000000) (up S.p.s 1 10000 100000000) S.p m
    rw [bmid_ok, ← nextP_eq] at hb
    have hs := spot_of_ok (next S m) (up (next S m).p.s 1 10000 100000000) (by
      obtain ⟨h1, h2, h3, h4, h5, h6⟩ := w2
      refine ⟨?_, ?_, ?_, ?_, ?_, ?_⟩ <;> constructor <;> omega)
    have hf : few ((acc ++ [S.d]).length + 1) = true := decide_eq_true (by rw [List.length_append, List.length_singleton]; omega)
    refine ⟨c, s', ?_⟩
    rw [List.append_assoc] at e
    simp [loopS, box_body, tgN, putS, sSeq, sSet, sApp, eCall, aCons, aNil, eVar, hb, hs, -List.length_append, hf, -List.append_assoc, alongL]
    simpa [box_body, sSeq, sSet, sApp, eCall, aCons, aNil, eVar, tgN] using e
theorem boxed_ok (S : Spot) (ms : List Mv) (w : S.within 20) (h : ms.length ≤ 900) : resD (fn_law_boxed [.val S.d, .val (rowD ms)]) = some (.tuple ((alongL S ms).map Spot.d)) := by
  obtain ⟨c, s', e⟩ := box_loop (.val S.d) (.val (rowD ms)) ms S [] .no 20 w (by omega) (by omega) (by simp; omega)
  have hb := box_of_ok 1 10000 100000000 S (by
      obtain ⟨h1, h2, h3, h4, h5, h6⟩ := w
      refine ⟨?_, ?_, ?_, ?_, ?_, ?_⟩ <;> constructor <;> omega)
  have hz : sd 1 10000 100000000 = .tuple [.int 1, .int 10000, .int 100000000] := rfl
  simp [rowD] at e
  rw [hz] at e hb
  rw [boxed2]
  simp [runD, f_boxed2, isOwn, sSeq, sSet, sSetO, eTup, oLst, aCons, aNil, eC, bin, dPow, eVar, few, tgN, putS, eCall, hb, sFor, iSeqD, seqOf, rowD, sRet, eTupOwn, resD_val]
  simp [e, resD_val]
end DL

/-! ## PL9 -/
set_option linter.all false
set_option maxRecDepth 100000
set_option maxHeartbeats 40000000
namespace DL
open PySem PySem.Spec PyProof.Rows L2
/-! ### numbers, truth values and None in tuples and lists, n deep -/
def okD : Nat → PyData → Bool
  | _, .int _ => true
  | _, .bool _ => true
  | _, .none => true
  | n + 1, .tuple ds => decide (ds.length ≤ 1000000) && ds.all (okD n)
  | n + 1, .list ds => decide (ds.length ≤ 1000000) && ds.all (okD n)
  | _, _ => false
theorem ok_lay : ∀ (n : Nat) (d : PyData), okD n d = true → d.canLay0 = true ∧ d.depth ≤ n := by
  intro n
  induction n with
  | zero =>
    intro d h
    cases d <;> first | (simp [okD] at h; done) | exact ⟨by simp [PyData.canLay0], by simp [PyData.depth]⟩
  | succ n ih =>
    have all : ∀ ds : List PyData, ds.all (okD n) = true → PyData.canLayAll0 ds = true ∧ PyData.depthAll ds ≤ n := by
      intro ds
      induction ds with
      | nil => intro _; exact ⟨rfl, Nat.zero_le _⟩
      | cons d ds ihd =>
        intro h
        simp only [List.all_cons, Bool.and_eq_true] at h
        obtain ⟨h1, h2⟩ := ih d h.1
        obtain ⟨h3, h4⟩ := ihd h.2
        refine ⟨by simp [PyData.canLayAll0, h1, h3], by simp only [PyData.depthAll]; omega⟩
    intro d h
    cases d with
    | tuple ds =>
      simp only [okD, Bool.and_eq_true] at h
      obtain ⟨h1, h2⟩ := all ds h.2
      exact ⟨by simp [PyData.canLay0, h1], by simp only [PyData.depth]; omega⟩
    | list ds =>
      simp only [okD, Bool.and_eq_true] at h
      obtain ⟨h1, h2⟩ := all ds h.2
      exact ⟨by simp [PyData.canLay0, h1], by simp only [PyData.depth]; omega⟩
    | int i => exact ⟨by simp [PyData.canLay0], by simp [PyData.depth]⟩
    | bool i => exact ⟨by simp [PyData.canLay0], by simp [PyData.depth]⟩
    | none => exact ⟨by simp [PyData.canLay0], by simp [PyData.depth]⟩
    | str _ => simp [okD] at h
    | dict _ => simp [okD] at h
theorem ok_shaped {n : Nat} {d : PyData} (h : okD n d = true) (hn : n ≤ 64) : SeqAt.shaped d = true := by
  obtain ⟨h1, h2⟩ := ok_lay n d h
  unfold SeqAt.shaped
  rw [h1, decide_eq_true (by omega)]
  rfl
theorem eqv_refl : ∀ (n : Nat) (d : PyData), okD n d = true → PyData.eqv d d = true := by
  intro n
  induction n with
  | zero => intro d h; cases d <;> first | (simp [PyData.eqv]; done) | (simp [okD] at h)
  | succ n ih =>
    have all : ∀ ds : List PyData, ds.all (okD n) = true → PyData.eqvAll ds ds = true := by
      intro ds
      induction ds with
      | nil => intro _; rfl
      | cons d ds ihd =>
        intro h
        simp only [List.all_cons, Bool.and_eq_true] at h
        simp [PyData.eqvAll, ih d h.1, ihd h.2]
    intro d h
    cases d with
    | tuple ds =>
      simp only [okD, Bool.and_eq_true] at h
      simp [PyData.eqv, all ds h.2]
    | list ds =>
      simp only [okD, Bool.and_eq_true] at h
      simp [PyData.eqv, all ds h.2]
    | int i => simp [PyData.eqv]
    | bool i => simp [PyData.eqv]
    | none => simp [PyData.eqv]
    | str _ => simp [okD] at h
    | dict _ => simp [okD] at h
theorem zipD_self : ∀ ds : List PyData, zipD ds ds = ds.map fun d => .tuple [d, d]
  | [] => rfl
  | d :: ds => by rw [zipD, zipD_self ds, List.map_cons]
theorem shaped_bool (b : Bool) : SeqAt.shaped (.bool b) = true := rfl
theorem shaped_none : SeqAt.shaped .none = true := rfl
theorem eqv_bool (i j : Bool) : PyData.eqv (.bool i) (.bool j) = (i == j) := by unfold PyData.eqv; rfl
theorem same_zip {n : Nat} (ih : ∀ d : PyData, okD n d = true → resD (fn_law_same (n + 1) [.val d, .val d]) = some (.bool true)) (a : Sl) : ∀ ds : List PyData, ds.all (okD n) = true →
    loopC (tgTup 2 (tgCons (tgN 2) (tgCons (tgN 3) tgNil))) cYes (eCall (fn_law_same (n + 1)) (aCons (eVar 2) (aCons (eVar 3) aNil))) [2, 3] (zipD ds ds) [a, a, .no, .no] = some (ds.map fun _ => .bool true, [a, a, .no, .no])
  | [], _ => rfl
  | d :: ds, h => by
    simp only [List.all_cons, Bool.and_eq_true] at h
    have e := same_zip ih a ds h.2
    have e0 := ih d h.1
    simp [zipD, loopC, tgTup, tgCons, tgN, putS, tgNil, cYes, eCall, aCons, aNil, eVar, e0, wipeE, e]
theorem bools_map {α : Type} : ∀ ds : List α, bools (ds.map fun _ => PyData.bool true) = some (ds.map fun _ => true)
  | [] => rfl
  | _ :: ds => by simp [bools, bools_map ds]
theorem oComp_ap (fi : FL) (t : FT) (c f : FE) (vs : List Nat) (ρ : Ev) : oComp fi t c f vs ρ = (fi ρ).bind fun p => if few p.1.length = true then loopC t c f vs p.1 (wipeE p.2 vs) else none := rfl
theorem same_ok : ∀ (n : Nat) (d : PyData), okD n d = true → resD (fn_law_same (n + 1) [.val d, .val d]) = some (.bool true) := by
  intro n
  have seq : ∀ (n : Nat) (ih : ∀ d : PyData, okD n d = true → resD (fn_law_same (n + 1) [.val d, .val d]) = some (.bool true)) (d : PyData) (ds : List PyData), (d = .tuple ds ∨ d = .list ds) → ds.length ≤ 1000000 → ds.all (okD n) = true →
      resD (runD 4 2 (f_law_same (fn_law_same (n + 1))) [.val d, .val d]) = some (.bool true) := by
    intro n ih d ds hd hl ha
    have hz : few (zipD ds ds).length = true := decide_eq_true (by rw [zipD_len]; omega)
    have e := oComp_ap (iZipF (aCons (eVar 0) (aCons (eVar 1) aNil))) (tgTup 2 (tgCons (tgN 2) (tgCons (tgN 3) tgNil))) cYes (eCall (fn_law_same (n + 1)) (aCons (eVar 2) (aCons (eVar 3) aNil))) [2, 3] [.val d, .val d, .no, .no]
    have e2 : (iZipF (aCons (eVar 0) (aCons (eVar 1) aNil))) [.val d, .val d, .no, .no] = some (zipD ds ds, [.val d, .val d, .no, .no]) := by
      rcases hd with rfl | rfl <;> simp [iZipF, aCons, aNil, eVar]
    rw [e2, Option.bind_some, if_pos hz] at e
    have e3 := same_zip ih (.val d) ds ha
    have hw : wipeE [.val d, .val d, Sl.no, Sl.no] [2, 3] = [.val d, .val d, .no, .no] := rfl
    rw [hw, e3] at e
    rcases hd with rfl | rfl
    · simp [runD, f_law_same, isOwn, sSeq, sIf, eIsi2, eIsi, eVar, Ty.has, eOr, bin, dNe, dEq, shaped_bool, eqv_bool, sNil, sRet, eAnd, call, aCons, aNil, dLen, shaped_int, eqv_int, eOf, dAll, bools_map, resD_val]
      simp [e, bools_map, resD_val]
    · simp [runD, f_law_same, isOwn, sSeq, sIf, eIsi2, eIsi, eVar, Ty.has, eOr, bin, dNe, dEq, shaped_bool, eqv_bool, sNil, sRet, eAnd, call, aCons, aNil, dLen, shaped_int, eqv_int, eOf, dAll, bools_map, resD_val]
      simp [e, bools_map, resD_val]
  have leaf : ∀ (n : Nat) (d : PyData), (∃ i, d = .int i) ∨ (∃ b, d = .bool b) ∨ d = .none → resD (runD 4 2 (f_law_same (fn_law_same n)) [.val d, .val d]) = some (.bool true) := by
    intro n d h
    rcases h with ⟨i, rfl⟩ | ⟨b, rfl⟩ | rfl
    · simp [runD, f_law_same, isOwn, sSeq, sIf, eIsi2, eIsi, eIsN, isNon, eNot, eVar, Ty.has, eOr, bin, dNe, dEq, shaped_bool, eqv_bool, sNil, sRet, eAnd, call, aCons, aNil, dLen, shaped_int, eqv_int, eOf, dAll, resD_val]
    · have : PyData.eqv (.bool b) (.bool b) = true := by rw [eqv_bool]; simp
      simp [runD, f_law_same, isOwn, sSeq, sIf, eIsi2, eIsi, eIsN, isNon, eNot, eVar, Ty.has, eOr, bin, dNe, dEq, shaped_bool, eqv_bool, sNil, sRet, eAnd, call, aCons, aNil, dLen, shaped_int, eqv_int, eOf, dAll, resD_val, this]
    · have : PyData.eqv .none .none = true := by unfold PyData.eqv; rfl
      simp [runD, f_law_same, isOwn, sSeq, sIf, eIsi2, eIsi, eIsN, isNon, eNot, eVar, Ty.has, eOr, bin, dNe, dEq, shaped_bool, shaped_none, eqv_bool, sNil, sRet, eAnd, call, aCons, aNil, dLen, shaped_int, eqv_int, eOf, dAll, resD_val, this]
  induction n with
  | zero =>
    intro d h
    refine leaf 0 d ?_
    cases d with
    | int i => exact .inl ⟨_, rfl⟩
    | bool i => exact .inr (.inl ⟨_, rfl⟩)
    | none => exact .inr (.inr rfl)
    | _ => simp [okD] at h
  | succ n ih =>
    intro d h
    cases d with
    | int i => exact leaf _ _ (.inl ⟨_, rfl⟩)
    | bool i => exact leaf _ _ (.inr (.inl ⟨_, rfl⟩))
    | none => exact leaf _ _ (.inr (.inr rfl))
    | tuple ds =>
      simp only [okD, Bool.and_eq_true, decide_eq_true_eq] at h
      exact seq n ih _ ds (.inl rfl) h.1 h.2
    | list ds =>
      simp only [okD, Bool.and_eq_true, decide_eq_true_eq] at h
      exact seq n ih _ ds (.inr rfl) h.1 h.2
    | str _ => simp [okD] at h
    | dict _ => simp [okD] at h
theorem same_8 {d e : PyData} (h : okD 6 d = true) (he : d = e) : resD (fn_law_same 8 [.val d, .val e]) = some (.bool true) := by
  subst he
  refine same_ok 7 d ?_
  have up : ∀ (n : Nat) (d : PyData), okD n d = true → okD (n + 1) d = true := by
    intro n
    induction n with
    | zero => intro d h; cases d <;> first | rfl | (simp [okD] at h)
    | succ n ih =>
      intro d h
      cases d with
      | tuple ds =>
        simp only [okD, Bool.and_eq_true, List.all_eq_true] at h ⊢
        exact ⟨h.1, fun x hx => ih x (h.2 x hx)⟩
      | list ds =>
        simp only [okD, Bool.and_eq_true, List.all_eq_true] at h ⊢
        exact ⟨h.1, fun x hx => ih x (h.2 x hx)⟩
      | str _ => simp [okD] at h
      | dict _ => simp [okD] at h
      | _ => rfl
  exact up 6 d h
end DL

/-! ## PL10 -/
set_option linter.all false
set_option maxRecDepth 100000
set_option maxHeartbeats 40000000
namespace DL
open PySem PySem.Spec PyProof.Rows L2
theorem along_within : ∀ (ms : List Mv) (S : Spot) (n : Int), S.within n → 0 ≤ n → ∀ T ∈ alongL S ms, T.within (n + ms.length)
  | [], S, n, w, h0, T, hT => by
    simp only [alongL, List.mem_singleton] at hT
    subst hT
    simpa using w
  | m :: ms, S, n, w, h0, T, hT => by
    rw [List.length_cons]
    rcases List.mem_cons.mp hT with rfl | hT
    · obtain ⟨h1, h2, h3, h4, h5, h6⟩ := w
      refine ⟨?_, ?_, ?_, ?_, ?_, ?_⟩ <;> constructor <;> omega
    · have := along_within ms (next S m) (n + 1) (next_within m w) (by omega) T hT
      have e : n + ((ms.length + 1 : Nat) : Int) = n + 1 + ms.length := by omega
      rw [e]
      exact this
theorem loop_maps {α : Type} (f0 : α → PyData) (g0 : α → PyData) {t : FT} {c f : FE} {vs : List Nat} {ρ : Ev} : ∀ ds : List α,
    (∀ d ∈ ds, ∃ ρ1, t (f0 d) ρ = some ρ1 ∧ c ρ1 = some (.bool true, ρ1) ∧ ∃ ρ2, f ρ1 = some (g0 d, ρ2) ∧ wipeE ρ2 vs = ρ) → loopC t c f vs (ds.map f0) ρ = some (ds.map g0, ρ)
  | [], _ => rfl
  | d :: ds, h => by
    obtain ⟨ρ1, h1, h2, ρ2, h3, h4⟩ := h d (List.mem_cons_self ..)
    have ih := loop_maps f0 g0 ds fun z hz => h z (List.mem_cons_of_mem _ hz)
    simp [loopC, h1, h2, h3, h4, ih]
theorem loop_filters {α : Type} (f0 : α → PyData) (p : α → Bool) (g0 : α → PyData) {t : FT} {c f : FE} {vs : List Nat} {ρ : Ev} : ∀ ds : List α,
    (∀ d ∈ ds, ∃ ρ1, t (f0 d) ρ = some ρ1 ∧ c ρ1 = some (.bool (p d), ρ1) ∧ wipeE ρ1 vs = ρ ∧ ∃ ρ2, f ρ1 = some (g0 d, ρ2) ∧ wipeE ρ2 vs = ρ) → loopC t c f vs (ds.map f0) ρ = some ((ds.filter p).map g0, ρ)
  | [], _ => rfl
  | d :: ds, h => by
    obtain ⟨ρ1, h1, h2, h5, ρ2, h3, h4⟩ := h d (List.mem_cons_self ..)
    have ih := loop_filters f0 p g0 ds fun z hz => h z (List.mem_cons_of_mem _ hz)
    cases hp : p d with
    | true =>
      rw [hp] at h2
      simp [loopC, h1, h2, h3, h4, ih, hp]
    | false =>
      rw [hp] at h2
      simp [loopC, h1, h2, h5, ih, hp]
theorem ix0 (S : Spot) : dIx S.d (.int 0) = some S.p.s.z := rfl
section
variable {S : Spot} {ms : List Mv} {a b : PyData}
def shapesD (S : Spot) (ms : List Mv) : PyData := .tuple ((alongL S ms).map fun T => T.p.s.z)
theorem shapes_ok (hs : IsS S a) (hr : IsR ms b) (hl : ms.length < 999990) : resD (fn_shapes_along [.val a, .val b]) = some (shapesD S ms) := by
  have h1 := stands_ok hs hr hl
  have hf : few ((alongL S ms).map Spot.d).length = true := decide_eq_true (by rw [List.length_map, along_len]; omega)
  have e := oComp_ap (iSeqD (eCall fn_stands_along (aCons (eVar 0) (aCons (eVar 1) aNil)))) (tgN 2) cYes (bin dIx (eVar 2) (eC (.int 0))) [2] [.val a, .val b, .no]
  have e2 : iSeqD (eCall fn_stands_along (aCons (eVar 0) (aCons (eVar 1) aNil))) [.val a, .val b, .no] = some ((alongL S ms).map Spot.d, [.val a, .val b, .no]) := by
    simp [iSeqD, eCall, aCons, aNil, eVar, h1, seqOf]
  rw [e2, Option.bind_some, if_pos hf] at e
  have e3 : loopC (tgN 2) cYes (bin dIx (eVar 2) (eC (.int 0))) [2] ((alongL S ms).map Spot.d) [.val a, .val b, .no] = some ((alongL S ms).map fun T => T.p.s.z, [.val a, .val b, .no]) :=
    loop_maps Spot.d (fun T => T.p.s.z) (alongL S ms) fun T _ => ⟨_, rfl, rfl, [.val a, .val b, .val T.d], by simp [bin, eVar, eC, ix0], rfl⟩
  rw [show wipeE [.val a, .val b, Sl.no] [2] = [.val a, .val b, .no] from rfl, e3] at e
  simp [fn_shapes_along, runD, f_shapes_along, isOwn, sRet, call, aCons, aNil, eOf, e, dTuple, resD_val, shapesD]
/-! ### chests, middles -/
theorem sure_chest_ok {x y z : Int} (hx : 1 ≤ x) (hy : 1 ≤ y) (hz : 1 ≤ z) : resD (fn_sure_chest [.val (.list [.int x, .int y, .int z])]) = some (sd x y z) := by
  have h1 : resD (fn_tupled 8 [.val (.list [.int x, .int y, .int z])]) = some (sd x y z) := by kernel_rfl
  have fr : ∀ i : Int, 1 ≤ i → resD (fn_is_from [.val (.int i), .val (.int 1)]) = some (.bool true) := fun i hi => by
    have n1 : resD (fn_is_number [.val (.int i)]) = some (.bool true) := by kernel_rfl
    simp [fn_is_from, runD, f_is_from, isOwn, sRet, eAnd, eCall, aCons, aNil, eVar, n1, bin, dInt, hi, resD_val]
  have lg : resD (fn_is_long [.val (sd x y z), .val (.int 3)]) = some (.bool true) := by kernel_rfl
  have h2 : resD (fn_is_chest [.val (sd x y z)]) = some (.bool true) := by
    simp [fn_is_chest, runD, f_is_chest, isOwn, sRet, eAnd, eCall, aCons, aNil, eVar, eC, lg, call, eOf, oComp_ap, iSeqD]
    simp [sd, seqOf, few, wipeE, loopC, tgN, putS, cYes, eCall, aCons, aNil, eVar, eC, fr x hx, fr y hy, fr z hz, dAll, bools, resD_val]
  simp [fn_sure_chest, runD, f_sure_chest, isOwn, sSeq, sSet, eCall, aCons, aNil, eVar, h1, tgN, putS, sIf, eNot, h2, sNil, sRet, resD_val]
theorem middle_ok {x y z : Int} (T : Spot) (w : T.within 1000000) : resD (fn_middle_in [.val (sd x y z), .val T.d]) = some (.tuple [.int (dot T.x x y z), .int (dot T.y x y z)]) := by
  obtain ⟨h1, h2, h3, h4, h5, h6⟩ := w
  have i1 : dIx T.d (.int 1) = some (.tuple [.int T.x0, .int T.x1, .int T.x2]) := rfl
  have i2 : dIx T.d (.int 2) = some (.tuple [.int T.y0, .int T.y1, .int T.y2]) := rfl
  simp [fn_middle_in, runD, f_middle_in, isOwn, sSeq, sSet, sRet, call, aCons, aNil, eOf, oComp, iZipF, bin, eVar, eC, i1, i2, sd, zipD, few, wipeE, loopC, tgTup, tgCons, tgNil, tgN, putS, cYes, dMul, mulOk_x h1, mulOk_x h2, mulOk_x h3, mulOk_x h4, mulOk_x h5, mulOk_x h6, dSum, intsOf, eTup, resD_val, dot]
def midsD (x y z : Int) (S : Spot) (ms : List Mv) : List PyData := (alongL S ms).map fun T => .tuple [.int (dot T.x x y z), .int (dot T.y x y z)]
theorem middles_ok {x y z : Int} (hx : 1 ≤ x) (hy : 1 ≤ y) (hz : 1 ≤ z) (w : S.within 1000) (hs : IsS S a) (hr : IsR ms b) (hl : ms.length < 1000) :
    resD (fn_middles_along [.val (.list [.int x, .int y, .int z]), .val a, .val b]) = some (.tuple (midsD x y z S ms)) := by
  have h0 := sure_chest_ok hx hy hz
  have h1 := hs.sure
  have h2 := hr.sure (by omega)
  have h3 := along_ok S ms (by omega)
  have hf : few ((alongL S ms).map Spot.d).length = true := decide_eq_true (by rw [List.length_map, along_len]; omega)
  have e := oComp_ap (iSeqD (eCall fn_along_in (aCons (eVar 4) (aCons (eCall fn_sure_row (aCons (eVar 2) aNil)) aNil)))) (tgN 5) cYes (eCall fn_middle_in (aCons (eVar 3) (aCons (eVar 5) aNil))) [5] [.val (.list [.int x, .int y, .int z]), .val a, .val b, .val (sd x y z), .val S.d, .no]
  have e2 : iSeqD (eCall fn_along_in (aCons (eVar 4) (aCons (eCall fn_sure_row (aCons (eVar 2) aNil)) aNil))) [.val (.list [.int x, .int y, .int z]), .val a, .val b, .val (sd x y z), .val S.d, .no] = some ((alongL S ms).map Spot.d, [.val (.list [.int x, .int y, .int z]), .val a, .val b, .val (sd x y z), .val S.d, .no]) := by
    simp [iSeqD, eCall, aCons, aNil, eVar, h2, h3, seqOf]
  rw [e2, Option.bind_some, if_pos hf] at e
  have e3 : loopC (tgN 5) cYes (eCall fn_middle_in (aCons (eVar 3) (aCons (eVar 5) aNil))) [5] ((alongL S ms).map Spot.d) [.val (.list [.int x, .int y, .int z]), .val a, .val b, .val (sd x y z), .val S.d, .no] = some (midsD x y z S ms, [.val (.list [.int x, .int y, .int z]), .val a, .val b, .val (sd x y z), .val S.d, .no]) :=
    loop_maps Spot.d (fun T => .tuple [.int (dot T.x x y z), .int (dot T.y x y z)]) (alongL S ms) fun T hT => ⟨_, rfl, rfl, _, by
      have wT := along_within ms S 1000 w (by omega) T hT
      have hm := middle_ok (x := x) (y := y) (z := z) T (by
        obtain ⟨h1, h2, h3, h4, h5, h6⟩ := wT
        refine ⟨?_, ?_, ?_, ?_, ?_, ?_⟩ <;> constructor <;> omega)
      simp [eCall, aCons, aNil, eVar, hm]
      rfl, rfl⟩
  rw [show wipeE [.val (.list [.int x, .int y, .int z]), .val a, .val b, .val (sd x y z), .val S.d, Sl.no] [5] = [.val (.list [.int x, .int y, .int z]), .val a, .val b, .val (sd x y z), .val S.d, .no] from rfl, e3] at e
  simp [fn_middles_along, runD, f_middles_along, isOwn, sSeq, sSet, eCall, sRet, call, aCons, aNil, eVar, h0, tgN, putS, h1, eOf]
  simp [e, dTuple, resD_val]
end
end DL

/-! ## PL11 -/
set_option linter.all false
set_option maxRecDepth 100000
set_option maxHeartbeats 40000000
namespace DL
open PySem PySem.Spec PyProof.Rows L2
def Mv.tip : Mv → Bool
  | .t0 | .t1 | .t2 | .t3 => true
  | _ => false
def Mv.hand (h : Bool) : Mv → Bool
  | .p0 | .p1 | .p2 | .p3 => h
  | .m0 | .m1 | .m2 | .m3 => !h
  | _ => false
def tipD (k : Int) : PyData := .tuple [.str "tip", .int k]
def isTipD (k : Int) (m : Mv) : Bool := PyData.eqv m.d (tipD k)
theorem bools_maps {α : Type} (p : α → Bool) : ∀ ds : List α, bools (ds.map fun m => PyData.bool (p m)) = some (ds.map p)
  | [] => rfl
  | _ :: ds => by simp [bools, bools_maps p ds]
theorem okD_spot (S : Spot) : okD 2 S.d = true := by
  obtain ⟨⟨s, f, g, h⟩, x0, x1, x2, y0, y1, y2⟩ := S
  cases s <;> kernel_rfl
theorem ok_ints : ∀ l : List PyData, (∀ d ∈ l, ∃ i, d = .int i) → l.length ≤ 1000000 → okD 1 (.list l) = true := fun l h hl => by
  simp only [okD, Bool.and_eq_true, decide_eq_true_eq, List.all_eq_true]
  refine ⟨hl, fun d hd => ?_⟩
  obtain ⟨i, rfl⟩ := h d hd
  rfl
theorem ne_nil {l : List PyData} (h : SeqAt.shaped (.list l) = true) : dNe (.list l) (.list []) = some (.bool (!l.isEmpty)) := by
  have h0 : SeqAt.shaped (.list []) = true := rfl
  unfold dNe
  rw [h, h0]
  cases l with
  | nil => simp [PyData.eqv, PyData.eqvAll]
  | cons x l => simp [PyData.eqv, PyData.eqvAll]
theorem eq_nil {l : List PyData} (h : SeqAt.shaped (.list l) = true) : dEq (.list l) (.list []) = some (.bool l.isEmpty) := by
  have h0 : SeqAt.shaped (.list []) = true := rfl
  unfold dEq
  rw [h, h0]
  cases l with
  | nil => simp [PyData.eqv, PyData.eqvAll]
  | cons x l => simp [PyData.eqv, PyData.eqvAll]
theorem ones_eq {ms : List Mv} (p : Mv → Bool) (hl : ms.length ≤ 1000000) : dEq (.list ((ms.filter p).map fun _ => .int 1)) (.list []) = some (.bool (ms.all fun m => !p m)) := by
  have h := ok_ints ((ms.filter p).map fun _ => .int 1) (fun d hd => by
    obtain ⟨m, _, rfl⟩ := List.mem_map.mp hd
    exact ⟨1, rfl⟩) (by rw [List.length_map]; exact Nat.le_trans (List.length_filter_le ..) hl)
  rw [eq_nil (ok_shaped h (by omega))]
  congr 2
  clear h hl
  induction ms with
  | nil => rfl
  | cons m ms ih => cases hp : p m <;> simp [hp, ih] <;> simpa using ih
section
variable {S : Spot} {ms : List Mv} {a b : PyData}
theorem tips_alone_ok (hr : IsR ms b) (hl : ms.length ≤ 1000000) : resD (fn_tips_alone [.val b]) = some (.bool (ms.all Mv.tip)) := by
  have h2 := hr.sure hl
  have hf : few (ms.map Mv.d).length = true := decide_eq_true (by rw [List.length_map]; omega)
  have e := oComp_ap (iSeqD (eCall fn_sure_row (aCons (eVar 0) aNil))) (tgN 1) cYes (bin dEq (bin dIx (eVar 1) (eC (.int 0))) (eC (.str "tip"))) [1] [.val b, .no]
  have e2 : iSeqD (eCall fn_sure_row (aCons (eVar 0) aNil)) [.val b, .no] = some (ms.map Mv.d, [.val b, .no]) := by
    simp [iSeqD, eCall, aCons, aNil, eVar, h2, seqOf, rowD]
  rw [e2, Option.bind_some, if_pos hf] at e
  have e3 : loopC (tgN 1) cYes (bin dEq (bin dIx (eVar 1) (eC (.int 0))) (eC (.str "tip"))) [1] (ms.map Mv.d) [.val b, .no] = some (ms.map fun m => .bool m.tip, [.val b, .no]) :=
    loop_maps Mv.d (fun m => .bool m.tip) ms fun m _ => ⟨_, rfl, rfl, [.val b, .val m.d], by cases m <;> kernel_rfl, rfl⟩
  rw [show wipeE [.val b, Sl.no] [1] = [.val b, .no] from rfl, e3] at e
  simp [fn_tips_alone, runD, f_tips_alone, isOwn, sRet, call, aCons, aNil, eOf, e, dAll, bools_maps, resD_val]
theorem turns_alone_ok (hr : IsR ms b) (hl : ms.length ≤ 1000000) : resD (fn_turns_alone [.val b]) = some (.bool (ms.all fun m => !m.tip)) := by
  have h2 := hr.sure hl
  have hf : few (ms.map Mv.d).length = true := decide_eq_true (by rw [List.length_map]; omega)
  have e := oComp_ap (iSeqD (eCall fn_sure_row (aCons (eVar 0) aNil))) (tgN 1) cYes (bin dEq (bin dIx (eVar 1) (eC (.int 0))) (eC (.str "turn"))) [1] [.val b, .no]
  have e2 : iSeqD (eCall fn_sure_row (aCons (eVar 0) aNil)) [.val b, .no] = some (ms.map Mv.d, [.val b, .no]) := by
    simp [iSeqD, eCall, aCons, aNil, eVar, h2, seqOf, rowD]
  rw [e2, Option.bind_some, if_pos hf] at e
  have e3 : loopC (tgN 1) cYes (bin dEq (bin dIx (eVar 1) (eC (.int 0))) (eC (.str "turn"))) [1] (ms.map Mv.d) [.val b, .no] = some (ms.map fun m => .bool (!m.tip), [.val b, .no]) :=
    loop_maps Mv.d (fun m => .bool (!m.tip)) ms fun m _ => ⟨_, rfl, rfl, [.val b, .val m.d], by cases m <;> kernel_rfl, rfl⟩
  rw [show wipeE [.val b, Sl.no] [1] = [.val b, .no] from rfl, e3] at e
  simp [fn_turns_alone, runD, f_turns_alone, isOwn, sRet, call, aCons, aNil, eOf, e, dAll, bools_maps, resD_val]
/-! ### first met -/
def fmD : Option Nat → PyData
  | some j => .int (j : Int)
  | none => .none
def pE (g : PyData) : PyData → Bool
  | .tuple [_, d] => PyData.eqv d g
  | _ => false
def nE : PyData → PyData
  | .tuple [i, _] => i
  | d => d
theorem enum_find (g : PyData) : ∀ (ds : List PyData) (n : Nat), (((enumD n ds).filter (pE g)).map nE).head? = (ds.findIdx? fun y => PyData.eqv y g).map fun j => .int ((n + j : Nat) : Int)
  | [], n => rfl
  | d :: ds, n => by
    have ih := enum_find g ds (n + 1)
    rw [List.findIdx?_cons]
    cases h : PyData.eqv d g with
    | true => simp [enumD, List.filter_cons, pE, h, nE]
    | false =>
      simp only [enumD, List.filter_cons, pE, h]
      rw [if_neg (by simp), ih]
      cases ds.findIdx? fun y => PyData.eqv y g with
      | none => rfl
      | some j =>
        simp only [Option.map_some]
        rw [if_neg (by simp)]
        simp only [Option.map_some]
        congr 3
        omega
theorem enum_ints (g : PyData) : ∀ (ds : List PyData) (n : Nat) (d : PyData), d ∈ ((enumD n ds).filter (pE g)).map nE → ∃ i, d = .int i
  | [], n, d, h => by simp [enumD] at h
  | x :: ds, n, d, h => by
    simp only [enumD, List.filter_cons] at h
    split at h
    · rcases List.mem_cons.mp h with rfl | h
      · exact ⟨_, rfl⟩
      · exact enum_ints g ds (n + 1) d h
    · exact enum_ints g ds (n + 1) d h
theorem mem_enum : ∀ (ds : List PyData) (n : Nat) (x : PyData), x ∈ enumD n ds → ∃ (i : Int) (d : PyData), d ∈ ds ∧ x = .tuple [.int i, d]
  | [], n, x, h => by simp [enumD] at h
  | d :: ds, n, x, h => by
    rcases List.mem_cons.mp h with rfl | h
    · exact ⟨_, d, List.mem_cons_self .., rfl⟩
    · obtain ⟨i, e, h1, h2⟩ := mem_enum ds (n + 1) x h
      exact ⟨i, e, List.mem_cons_of_mem _ h1, h2⟩
theorem first_met_ok {T : Spot} {c : PyData} (hs : IsS S a) (hr : IsR ms b) (ht : IsS T c) (hl : ms.length < 999990) :
    resD (fn_first_met [.val a, .val b, .val c]) = some (fmD (((alongL S ms).map Spot.d).findIdx? fun y => PyData.eqv y T.d)) := by
  have h1 := hs.sure
  have h2 := hr.sure (by omega)
  have h3 := ht.sure
  have h4 := along_ok S ms (by omega)
  have hlen : (enumD 0 ((alongL S ms).map Spot.d)).length ≤ 1000000 := by rw [enumD_len, List.length_map, along_len]; omega
  have hf : few (enumD 0 ((alongL S ms).map Spot.d)).length = true := decide_eq_true hlen
  have e := oComp_ap (iEnumF (aCons (eCall fn_along_in (aCons (eVar 3) (aCons (eVar 4) aNil))) aNil)) (tgTup 2 (tgCons (tgN 7) (tgCons (tgN 8) tgNil))) (bin dEq (eVar 8) (eVar 5)) (eVar 7) [7, 8] [.val a, .val b, .val c, .val S.d, .val (rowD ms), .val T.d, .no, .no, .no]
  have e2 : iEnumF (aCons (eCall fn_along_in (aCons (eVar 3) (aCons (eVar 4) aNil))) aNil) [.val a, .val b, .val c, .val S.d, .val (rowD ms), .val T.d, .no, .no, .no] = some (enumD 0 ((alongL S ms).map Spot.d), [.val a, .val b, .val c, .val S.d, .val (rowD ms), .val T.d, .no, .no, .no]) := by
    simp [iEnumF, eCall, aCons, aNil, eVar, h4]
  rw [e2, Option.bind_some, if_pos hf] at e
  have e3 : loopC (tgTup 2 (tgCons (tgN 7) (tgCons (tgN 8) tgNil))) (bin dEq (eVar 8) (eVar 5)) (eVar 7) [7, 8] (enumD 0 ((alongL S ms).map Spot.d)) [.val a, .val b, .val c, .val S.d, .val (rowD ms), .val T.d, .no, .no, .no]
      = some (((enumD 0 ((alongL S ms).map Spot.d)).filter (pE T.d)).map nE, [.val a, .val b, .val c, .val S.d, .val (rowD ms), .val T.d, .no, .no, .no]) :=
    loop_filter (pE T.d) nE _ fun x hx => by
      obtain ⟨i, d, hd, rfl⟩ := mem_enum _ _ _ hx
      obtain ⟨U, _, rfl⟩ := List.mem_map.mp hd
      have s1 := ok_shaped (okD_spot U) (by omega)
      have s2 := ok_shaped (okD_spot T) (by omega)
      refine ⟨[.val a, .val b, .val c, .val S.d, .val (rowD ms), .val T.d, .no, .val (.int i), .val U.d], ?_, ?_, rfl, [.val a, .val b, .val c, .val S.d, .val (rowD ms), .val T.d, .no, .val (.int i), .val U.d], ?_, rfl⟩
      · simp [tgTup, tgCons, tgN, putS, tgNil]
      · simp [bin, eVar, dEq, s1, s2, pE]
      · simp [eVar, nE]
  rw [show wipeE [.val a, .val b, .val c, .val S.d, .val (rowD ms), .val T.d, Sl.no, .no, .no] [7, 8] = [.val a, .val b, .val c, .val S.d, .val (rowD ms), .val T.d, .no, .no, .no] from rfl, e3] at e
  have hfind := enum_find T.d ((alongL S ms).map Spot.d) 0
  have hok := ok_ints _ (enum_ints T.d ((alongL S ms).map Spot.d) 0) (by rw [List.length_map]; exact Nat.le_trans (List.length_filter_le ..) hlen)
  have hne := ne_nil (ok_shaped hok (by omega))
  revert e hfind hne
  generalize ((enumD 0 ((alongL S ms).map Spot.d)).filter (pE T.d)).map nE = L
  generalize ((alongL S ms).map Spot.d).findIdx? (fun y => PyData.eqv y T.d) = o
  intro e hfind hne
  cases L with
  | nil =>
    cases o with
    | some j => simp at hfind
    | none => simp [fn_first_met, runD, f_first_met, isOwn, sSeq, sSet, eCall, aCons, aNil, eVar, h1, h2, h3, tgN, putS, eOf, e, sRet, eIf, bin, oLst, few, hne, eC, resD_val, fmD]
  | cons x L =>
    cases o with
    | none => simp at hfind
    | some j =>
      simp at hfind
      subst hfind
      simp [fn_first_met, runD, f_first_met, isOwn, sSeq, sSet, eCall, aCons, aNil, eVar, h1, h2, h3, tgN, putS, eOf, e, sRet, eIf, bin, oLst, few, hne, eC, resD_val, fmD, dIx, atI, ixN]
/-! ### how often -/
theorem isTip_eq (k : Int) (m : Mv) : PyData.eqv m.d (tipD k) = isTipD k m := rfl
def howD (ms : List Mv) : PyData := .tuple [.int ((ms.filter (isTipD 0)).length : Nat), .int ((ms.filter (isTipD 1)).length : Nat), .int ((ms.filter (isTipD 2)).length : Nat), .int ((ms.filter (isTipD 3)).length : Nat), .int ((ms.filter (Mv.hand true)).length : Nat), .int ((ms.filter (Mv.hand false)).length : Nat)]
theorem filt_few {α β : Type} {ms : List α} {p : α → Bool} {f : α → β} (h : ms.length ≤ 1000000) : ((ms.filter p).map f).length ≤ 1000000 := by
  rw [List.length_map]
  exact Nat.le_trans (List.length_filter_le ..) h
theorem shaped_tip (k : Int) : SeqAt.shaped (tipD k) = true := by kernel_rfl
theorem shaped_mv (m : Mv) : SeqAt.shaped m.d = true := by cases m <;> kernel_rfl
theorem inner_tip (hl : ms.length ≤ 1000000) (k : Int) (s0 s2 s3 s6 : Sl) : oComp (iSeqD (eVar 1)) (tgN 4) (bin dEq (eVar 4) (eTup (aCons (eC (.str "tip")) (aCons (eVar 5) aNil)))) (eVar 4) [4] [s0, .val (rowD ms), s2, s3, .no, .val (.int k), s6]
    = some ((ms.filter (isTipD k)).map Mv.d, [s0, .val (rowD ms), s2, s3, .no, .val (.int k), s6]) := by
  have hf : few (ms.map Mv.d).length = true := decide_eq_true (by rw [List.length_map]; omega)
  rw [oComp_ap]
  have e2 : iSeqD (eVar 1) [s0, .val (rowD ms), s2, s3, .no, .val (.int k), s6] = some (ms.map Mv.d, [s0, .val (rowD ms), s2, s3, .no, .val (.int k), s6]) := by
    simp [iSeqD, eVar, seqOf, rowD]
  rw [e2, Option.bind_some, if_pos hf]
  refine loop_filters Mv.d (isTipD k) Mv.d ms fun m _ => ⟨[s0, .val (rowD ms), s2, s3, .val m.d, .val (.int k), s6], by simp [tgN, putS, wipeE], ?_, rfl, [s0, .val (rowD ms), s2, s3, .val m.d, .val (.int k), s6], by simp [eVar], rfl⟩
  have h1 := shaped_mv m
  have h2 := shaped_tip k
  unfold tipD at h2
  simp [bin, eVar, eTup, aCons, eC, aNil, few, dEq, h1, h2]
  rfl
theorem cond_hand (h : Bool) (m : Mv) (s0 s1 s2 s3 s5 : Sl) : (eAnd (bin dEq (bin dIx (eVar 4) (eC (.int 0))) (eC (.str "turn"))) (bin dEq (bin dIx (eVar 4) (eC (.int 2))) (eVar 6))) [s0, s1, s2, s3, .val m.d, s5, .val (.int (sg h))]
    = some (.bool (m.hand h), [s0, s1, s2, s3, .val m.d, s5, .val (.int (sg h))]) := by
  cases h <;> cases m <;> kernel_rfl
theorem inner_hand (hl : ms.length ≤ 1000000) (h : Bool) (s0 s2 s3 s5 : Sl) : oComp (iSeqD (eVar 1)) (tgN 4) (eAnd (bin dEq (bin dIx (eVar 4) (eC (.int 0))) (eC (.str "turn"))) (bin dEq (bin dIx (eVar 4) (eC (.int 2))) (eVar 6))) (eVar 4) [4] [s0, .val (rowD ms), s2, s3, .no, s5, .val (.int (sg h))]
    = some ((ms.filter (Mv.hand h)).map Mv.d, [s0, .val (rowD ms), s2, s3, .no, s5, .val (.int (sg h))]) := by
  have hf : few (ms.map Mv.d).length = true := decide_eq_true (by rw [List.length_map]; omega)
  rw [oComp_ap]
  have e2 : iSeqD (eVar 1) [s0, .val (rowD ms), s2, s3, .no, s5, .val (.int (sg h))] = some (ms.map Mv.d, [s0, .val (rowD ms), s2, s3, .no, s5, .val (.int (sg h))]) := by
    simp [iSeqD, eVar, seqOf, rowD]
  rw [e2, Option.bind_some, if_pos hf]
  refine loop_filters Mv.d (Mv.hand h) Mv.d ms fun m _ => ⟨[s0, .val (rowD ms), s2, s3, .val m.d, s5, .val (.int (sg h))], by simp [tgN, putS, wipeE], cond_hand h m _ _ _ _ _, rfl, [s0, .val (rowD ms), s2, s3, .val m.d, s5, .val (.int (sg h))], by simp [eVar], rfl⟩
theorem how_often_ok (hr : IsR ms b) (hl : ms.length ≤ 1000000) : resD (fn_how_often [.val b]) = some (howD ms) := by
  have h2 := hr.sure hl
  have t := fun k => inner_tip (ms := ms) hl k
  have p := inner_hand (ms := ms) hl true
  have q := inner_hand (ms := ms) hl false
  simp only [sg] at p q
  have e1 : oComp (iRange (aCons (eC (.int 4)) aNil)) (tgN 5) cYes (call dLen (aCons (eOf (oComp (iSeqD (eVar 1)) (tgN 4) (bin dEq (eVar 4) (eTup (aCons (eC (.str "tip")) (aCons (eVar 5) aNil)))) (eVar 4) [4])) aNil)) [5] [.val b, .val (rowD ms), .no, .no, .no, .no, .no]
      = some ([.int ((ms.filter (isTipD 0)).length : Nat), .int ((ms.filter (isTipD 1)).length : Nat), .int ((ms.filter (isTipD 2)).length : Nat), .int ((ms.filter (isTipD 3)).length : Nat)], [.val b, .val (rowD ms), .no, .no, .no, .no, .no]) := by
    rw [oComp_ap]
    simp [iRange, aCons, eC, aNil, rangeD, List.range_succ, few, wipeE, loopC, tgN, putS, cYes, call, eOf, t, dLen]
  have e2 : oComp (iSeqD (eTup (aCons (eC (.int 1)) (aCons (eNeg (eC (.int 1))) aNil)))) (tgN 6) cYes (call dLen (aCons (eOf (oComp (iSeqD (eVar 1)) (tgN 4) (eAnd (bin dEq (bin dIx (eVar 4) (eC (.int 0))) (eC (.str "turn"))) (bin dEq (bin dIx (eVar 4) (eC (.int 2))) (eVar 6))) (eVar 4) [4])) aNil)) [6]
      [.val b, .val (rowD ms), .val (.list [.int ((ms.filter (isTipD 0)).length : Nat), .int ((ms.filter (isTipD 1)).length : Nat), .int ((ms.filter (isTipD 2)).length : Nat), .int ((ms.filter (isTipD 3)).length : Nat)]), .no, .no, .no, .no]
      = some ([.int ((ms.filter (Mv.hand true)).length : Nat), .int ((ms.filter (Mv.hand false)).length : Nat)], [.val b, .val (rowD ms), .val (.list [.int ((ms.filter (isTipD 0)).length : Nat), .int ((ms.filter (isTipD 1)).length : Nat), .int ((ms.filter (isTipD 2)).length : Nat), .int ((ms.filter (isTipD 3)).length : Nat)]), .no, .no, .no, .no]) := by
    rw [oComp_ap]
    simp [iSeqD, eTup, aCons, eC, eNeg, aNil, seqOf, few, wipeE, loopC, tgN, putS, cYes, call, eOf, p, q, dLen]
  simp [fn_how_often, runD, f_how_often, isOwn, sSeq, sSet, eCall, aCons, aNil, eVar, h2, tgN, putS, eOf, e1, e2, sRet, call, bin, dAdd, few, dTuple, resD_val, howD]
end
end DL

/-! ## PL12 -/
set_option linter.all false
set_option maxRecDepth 100000
set_option maxHeartbeats 40000000
namespace DL
open PySem PySem.Spec PyProof.Rows L2
theorem sq {f g : FS} {ρ : Ev} (ρ' : Ev) (h : f ρ = some (.nx ρ')) : sSeq f g ρ = g ρ' := by simp [sSeq, h]
theorem along_map : ∀ (ms : List Mv) (S : Spot), ∃ l : List Spot, alongL S ms = l ++ [lastS S ms]
  | [], S => ⟨[], rfl⟩
  | m :: ms, S => by
    obtain ⟨l, e⟩ := along_map ms (next S m)
    exact ⟨S :: l, by rw [alongL, e]; rfl⟩
theorem along_last (S : Spot) (ms : List Mv) : atI ((alongL S ms).map Spot.d) (-1) = some (lastS S ms).d := by
  obtain ⟨l, e⟩ := along_map ms S
  rw [e, List.map_append]
  exact atI_last _ _
theorem last_mem (S : Spot) (ms : List Mv) : lastS S ms ∈ alongL S ms := by
  obtain ⟨l, e⟩ := along_map ms S
  rw [e]
  simp
/-- the middles but the last -/
def midsI (x y z : Int) (S : Spot) : List Mv → List PyData
  | [] => []
  | m :: ms => .tuple [.int (dot S.x x y z), .int (dot S.y x y z)] :: midsI x y z (next S m) ms
theorem mids_eq (x y z : Int) : ∀ (ms : List Mv) (S : Spot), midsI x y z S ms ++ [.tuple [.int (dot (lastS S ms).x x y z), .int (dot (lastS S ms).y x y z)]] = midsD x y z S ms
  | [], S => rfl
  | m :: ms, S => by
    have := mids_eq x y z ms (next S m)
    unfold midsD at this ⊢
    rw [alongL, List.map_cons, ← this]
    rfl
theorem midsI_len (x y z : Int) : ∀ (ms : List Mv) (S : Spot), (midsI x y z S ms).length = ms.length
  | [], S => rfl
  | m :: ms, S => by rw [midsI, List.length_cons, midsI_len x y z ms, List.length_cons]
def slE : FE := (eSl (bin dIx (eVar 7) (eC (.int 0))) oNone (oSome (eC (.int 2))))
theorem sl_ok (p : Po) (e n u : Int) (s0 s1 s2 s3 s4 s5 s6 s8 s9 s10 s11 s12 s13 s14 s15 s16 : Sl) : slE [s0, s1, s2, s3, s4, s5, s6, .val (bx p e n u), s8, s9, s10, s11, s12, s13, s14, s15, s16] = some (.tuple [.int e, .int n], [s0, s1, s2, s3, s4, s5, s6, .val (bx p e n u), s8, s9, s10, s11, s12, s13, s14, s15, s16]) := by kernel_rfl
def midB : FS := sSeq (sApp 8 slE) (sSet (eCall fn_law_box_step (aCons (eVar 3) (aCons (eVar 7) (aCons (eVar 9) aNil)))) (tgN 7))
theorem mids_loop (x y z : Int) (s0 s1 s2 s4 s5 s6 : Sl) : ∀ (ms : List Mv) (S : Spot) (acc : List PyData) (s : Sl), acc.length + ms.length < 999990 →
    ∃ s', loopS (tgN 9) midB (ms.map Mv.d) [s0, s1, s2, .val (sd x y z), s4, s5, s6, .val (bx S.p (dot S.x x y z) (dot S.y x y z) (up S.p.s x y z)), .own acc, s, .no, .no, .no, .no, .no, .no, .no]
      = some [s0, s1, s2, .val (sd x y z), s4, s5, s6, .val (bx (lastS S ms).p (dot (lastS S ms).x x y z) (dot (lastS S ms).y x y z) (up (lastS S ms).p.s x y z)), .own (acc ++ midsI x y z S ms), s', .no, .no, .no, .no, .no, .no, .no]
  | [], S, acc, s, h => ⟨s, by simp [loopS, lastS, midsI]⟩
  | m :: ms, S, acc, s, h => by
    rw [List.length_cons] at h
    obtain ⟨s', e⟩ := mids_loop x y z s0 s1 s2 s4 s5 s6 ms (next S m) (acc ++ [.tuple [.int (dot S.x x y z), .int (dot S.y x y z)]]) (.val m.d) (by rw [List.length_append, List.length_singleton]; omega)
    have hb := bstep_ok x y z (dot S.x x y z) (dot S.y x y z) (up S.p.s x y z) S.p m
    rw [bmid_ok, ← nextP_eq] at hb
    have hf : few (acc.length + 1) = true := decide_eq_true (by omega)
    rw [List.append_assoc] at e
    refine ⟨s', ?_⟩
    simp [loopS, tgN, putS, midB, sSeq, sApp, sl_ok, hf, sSet, eCall, aCons, aNil, eVar, hb]
    simpa [midB, sSeq, sSet, eCall, aCons, aNil, eVar, tgN, lastS, midsI, sApp] using e
end DL

/-! ## PL13 -/
set_option linter.all false
set_option maxRecDepth 100000
set_option maxHeartbeats 40000000
namespace DL
open PySem PySem.Spec PyProof.Rows L2
theorem nt_c (m : Mv) (ms : List Mv) (s0 s1 s3 s4 s5 s6 s7 s8 s9 s10 s11 s12 s13 s14 s16 : Sl) : (bin dNe (bin dIx (eVar 15) (eC (.int 0))) (eC (.str "tip"))) [s0, s1, .val (rowD ms), s3, s4, s5, s6, s7, s8, s9, s10, s11, s12, s13, s14, .val m.d, s16] = some (.bool (!m.tip), [s0, s1, .val (rowD ms), s3, s4, s5, s6, s7, s8, s9, s10, s11, s12, s13, s14, .val m.d, s16]) := by cases m <;> kernel_rfl
theorem nt_l {ms : List Mv} (hl : ms.length ≤ 1000000) (s0 s1 s3 s4 s5 s6 s7 s8 s9 s10 s11 s12 s13 s14 s16 : Sl) : oComp (iSeqD (eVar 2)) (tgN 15) (bin dNe (bin dIx (eVar 15) (eC (.int 0))) (eC (.str "tip"))) (eC (.int 1)) [15] [s0, s1, .val (rowD ms), s3, s4, s5, s6, s7, s8, s9, s10, s11, s12, s13, s14, .no, s16] = some ((ms.filter fun m => !m.tip).map fun _ => .int 1, [s0, s1, .val (rowD ms), s3, s4, s5, s6, s7, s8, s9, s10, s11, s12, s13, s14, .no, s16]) := by
  have hf : few (ms.map Mv.d).length = true := decide_eq_true (by rw [List.length_map]; omega)
  rw [oComp_ap]
  have e2 : iSeqD (eVar 2) [s0, s1, .val (rowD ms), s3, s4, s5, s6, s7, s8, s9, s10, s11, s12, s13, s14, .no, s16] = some (ms.map Mv.d, [s0, s1, .val (rowD ms), s3, s4, s5, s6, s7, s8, s9, s10, s11, s12, s13, s14, .no, s16]) := by
    simp [iSeqD, eVar, seqOf, rowD]
  rw [e2, Option.bind_some, if_pos hf]
  refine loop_filters Mv.d (fun m => !m.tip) (fun _ => .int 1) ms fun m _ => ⟨[s0, s1, .val (rowD ms), s3, s4, s5, s6, s7, s8, s9, s10, s11, s12, s13, s14, .val m.d, s16], by simp [tgN, putS, wipeE], nt_c m ms _ _ _ _ _ _ _ _ _ _ _ _ _ _ _, rfl, [s0, s1, .val (rowD ms), s3, s4, s5, s6, s7, s8, s9, s10, s11, s12, s13, s14, .val m.d, s16], by simp [eC], rfl⟩
theorem nu_c (m : Mv) (ms : List Mv) (s0 s1 s3 s4 s5 s6 s7 s8 s9 s10 s11 s12 s13 s14 s16 : Sl) : (bin dNe (bin dIx (eVar 15) (eC (.int 0))) (eC (.str "turn"))) [s0, s1, .val (rowD ms), s3, s4, s5, s6, s7, s8, s9, s10, s11, s12, s13, s14, .val m.d, s16] = some (.bool (m.tip), [s0, s1, .val (rowD ms), s3, s4, s5, s6, s7, s8, s9, s10, s11, s12, s13, s14, .val m.d, s16]) := by cases m <;> kernel_rfl
theorem nu_l {ms : List Mv} (hl : ms.length ≤ 1000000) (s0 s1 s3 s4 s5 s6 s7 s8 s9 s10 s11 s12 s13 s14 s16 : Sl) : oComp (iSeqD (eVar 2)) (tgN 15) (bin dNe (bin dIx (eVar 15) (eC (.int 0))) (eC (.str "turn"))) (eC (.int 1)) [15] [s0, s1, .val (rowD ms), s3, s4, s5, s6, s7, s8, s9, s10, s11, s12, s13, s14, .no, s16] = some ((ms.filter fun m => m.tip).map fun _ => .int 1, [s0, s1, .val (rowD ms), s3, s4, s5, s6, s7, s8, s9, s10, s11, s12, s13, s14, .no, s16]) := by
  have hf : few (ms.map Mv.d).length = true := decide_eq_true (by rw [List.length_map]; omega)
  rw [oComp_ap]
  have e2 : iSeqD (eVar 2) [s0, s1, .val (rowD ms), s3, s4, s5, s6, s7, s8, s9, s10, s11, s12, s13, s14, .no, s16] = some (ms.map Mv.d, [s0, s1, .val (rowD ms), s3, s4, s5, s6, s7, s8, s9, s10, s11, s12, s13, s14, .no, s16]) := by
    simp [iSeqD, eVar, seqOf, rowD]
  rw [e2, Option.bind_some, if_pos hf]
  refine loop_filters Mv.d (fun m => m.tip) (fun _ => .int 1) ms fun m _ => ⟨[s0, s1, .val (rowD ms), s3, s4, s5, s6, s7, s8, s9, s10, s11, s12, s13, s14, .val m.d, s16], by simp [tgN, putS, wipeE], nu_c m ms _ _ _ _ _ _ _ _ _ _ _ _ _ _ _, rfl, [s0, s1, .val (rowD ms), s3, s4, s5, s6, s7, s8, s9, s10, s11, s12, s13, s14, .val m.d, s16], by simp [eC], rfl⟩
theorem hand_c (h : Bool) (m : Mv) (ms : List Mv) (s0 s1 s3 s4 s5 s6 s7 s8 s9 s10 s11 s12 s13 s14 : Sl) : (eAnd (bin dEq (bin dIx (eVar 15) (eC (.int 0))) (eC (.str "turn"))) (bin dEq (bin dIx (eVar 15) (eC (.int 2))) (eVar 16))) [s0, s1, .val (rowD ms), s3, s4, s5, s6, s7, s8, s9, s10, s11, s12, s13, s14, .val m.d, .val (.int (sg h))] = some (.bool (m.hand h), [s0, s1, .val (rowD ms), s3, s4, s5, s6, s7, s8, s9, s10, s11, s12, s13, s14, .val m.d, .val (.int (sg h))]) := by cases h <;> cases m <;> kernel_rfl
theorem hand_l {ms : List Mv} (hl : ms.length ≤ 1000000) (h : Bool) (s0 s1 s3 s4 s5 s6 s7 s8 s9 s10 s11 s12 s13 s14 : Sl) : oComp (iSeqD (eVar 2)) (tgN 15) (eAnd (bin dEq (bin dIx (eVar 15) (eC (.int 0))) (eC (.str "turn"))) (bin dEq (bin dIx (eVar 15) (eC (.int 2))) (eVar 16))) (eC (.int 1)) [15] [s0, s1, .val (rowD ms), s3, s4, s5, s6, s7, s8, s9, s10, s11, s12, s13, s14, .no, .val (.int (sg h))] = some ((ms.filter (Mv.hand h)).map fun _ => .int 1, [s0, s1, .val (rowD ms), s3, s4, s5, s6, s7, s8, s9, s10, s11, s12, s13, s14, .no, .val (.int (sg h))]) := by
  have hf : few (ms.map Mv.d).length = true := decide_eq_true (by rw [List.length_map]; omega)
  rw [oComp_ap]
  have e2 : iSeqD (eVar 2) [s0, s1, .val (rowD ms), s3, s4, s5, s6, s7, s8, s9, s10, s11, s12, s13, s14, .no, .val (.int (sg h))] = some (ms.map Mv.d, [s0, s1, .val (rowD ms), s3, s4, s5, s6, s7, s8, s9, s10, s11, s12, s13, s14, .no, .val (.int (sg h))]) := by
    simp [iSeqD, eVar, seqOf, rowD]
  rw [e2, Option.bind_some, if_pos hf]
  refine loop_filters Mv.d (Mv.hand h) (fun _ => .int 1) ms fun m _ => ⟨[s0, s1, .val (rowD ms), s3, s4, s5, s6, s7, s8, s9, s10, s11, s12, s13, s14, .val m.d, .val (.int (sg h))], by simp [tgN, putS, wipeE], hand_c h m ms _ _ _ _ _ _ _ _ _ _ _ _ _ _, rfl, [s0, s1, .val (rowD ms), s3, s4, s5, s6, s7, s8, s9, s10, s11, s12, s13, s14, .val m.d, .val (.int (sg h))], by simp [eC], rfl⟩
theorem mv_plain (m : Mv) : m.d.plain = true ∧ m.d.depth ≤ 1 := by cases m <;> exact ⟨by kernel_rfl, by decide⟩
theorem row_plain : ∀ ms : List Mv, PyData.plainAll (ms.map Mv.d) = true ∧ PyData.depthAll (ms.map Mv.d) ≤ 1
  | [] => ⟨rfl, Nat.zero_le _⟩
  | m :: ms => by
    obtain ⟨h1, h2⟩ := row_plain ms
    obtain ⟨h3, h4⟩ := mv_plain m
    refine ⟨by simp [PyData.plainAll, h1, h3], by simp only [List.map_cons, PyData.depthAll]; omega⟩
theorem count_ok (ms : List Mv) (k : Int) : dCount (rowD ms) (tipD k) = some (.int ((ms.filter (isTipD k)).length : Nat)) := by
  obtain ⟨h1, h2⟩ := row_plain ms
  have h3 : PyData.plain (tipD k) = true := by kernel_rfl
  have h4 : tmOk (ms.map Mv.d) (tipD k) = true := by
    unfold tmOk
    rw [h1, h3, decide_eq_true (by omega)]
    rfl
  have h5 : ((ms.map Mv.d).countP fun z => PyData.eqv z (tipD k)) = (ms.filter (isTipD k)).length := by
    rw [List.countP_map, List.countP_eq_length_filter]
    rfl
  unfold dCount rowD
  simp only [h4, if_pos, h5]
theorem all_spots : ∀ l : List Spot, (l.map Spot.d).all (okD 2) = true
  | [] => rfl
  | S :: l => by rw [List.map_cons, List.all_cons, okD_spot, all_spots l]; rfl
theorem ok_along (S : Spot) (ms : List Mv) (hl : ms.length ≤ 900000) : okD 3 (.tuple ((alongL S ms).map Spot.d)) = true := by
  have h : (3 : Nat) = 2 + 1 := rfl
  rw [h]
  simp only [okD, Bool.and_eq_true, decide_eq_true_eq]
  exact ⟨by rw [List.length_map, along_len]; omega, all_spots _⟩
theorem spots_plain : ∀ l : List Spot, PyData.plainAll (l.map Spot.d) = true ∧ PyData.depthAll (l.map Spot.d) ≤ 2
  | [] => ⟨rfl, Nat.zero_le _⟩
  | S :: l => by
    obtain ⟨h1, h2⟩ := spots_plain l
    obtain ⟨h3, h4⟩ := ok_lay 2 S.d (okD_spot S)
    have h5 := PyData.plain_of_canLay0 _ h3
    refine ⟨by simp [PyData.plainAll, h1, h5], by simp only [List.map_cons, PyData.depthAll]; omega⟩
theorem index_ok (l : List Spot) (T : Spot) : dIndex (.tuple (l.map Spot.d)) T.d = ((l.map Spot.d).findIdx? fun w => PyData.eqv w T.d).bind fun j => some (.int (j : Nat)) := by
  obtain ⟨h1, h2⟩ := spots_plain l
  have h3 := PyData.plain_of_canLay0 _ (ok_lay 2 T.d (okD_spot T)).1
  have h4 : tmOk (l.map Spot.d) T.d = true := by
    unfold tmOk
    rw [h1, h3, decide_eq_true (by omega)]
    rfl
  unfold dIndex
  simp only [h4, if_pos]
  rfl
theorem in_ok (l : List Spot) (T : Spot) (hl : l.length ≤ 1000000) : dIn T.d (.tuple (l.map Spot.d)) = some (.bool ((l.map Spot.d).findIdx? fun w => PyData.eqv w T.d).isSome) := by
  have h1 := ok_shaped (okD_spot T) (by omega)
  have h2 : SeqAt.shaped (.tuple (l.map Spot.d)) = true := ok_shaped (n := 3) (by
    simp only [okD, Bool.and_eq_true, decide_eq_true_eq]
    exact ⟨by rw [List.length_map]; exact hl, all_spots _⟩) (by omega)
  rw [List.findIdx?_isSome]
  simp only [dIn, h1, h2, Bool.and_self, if_pos]
theorem found {l : List Spot} {T : Spot} (h : T ∈ l) : ∃ j, ((l.map Spot.d).findIdx? fun w => PyData.eqv w T.d) = some j := by
  have : ((l.map Spot.d).findIdx? fun w => PyData.eqv w T.d).isSome = true := by
    rw [List.findIdx?_isSome, List.any_eq_true]
    exact ⟨T.d, List.mem_map_of_mem h, eqv_refl 2 _ (okD_spot T)⟩
  exact Option.isSome_iff_exists.mp this
end DL

/-! ## PL14 -/
set_option linter.all false
set_option maxRecDepth 100000
set_option maxHeartbeats 40000000
namespace DL
open PySem PySem.Spec PyProof.Rows L2
theorem along_last' (S : Spot) (ms : List Mv) : dIx (.tuple ((alongL S ms).map Spot.d)) (.int (-1)) = some (lastS S ms).d := along_last S ms
theorem shapes_l (S : Spot) (ms : List Mv) (hl : ms.length ≤ 900000) (s0 s1 s2 s3 s5 s6 s7 s8 s9 s10 s11 s12 s13 s14 s16 : Sl) : oComp (iSeqD (eVar 4)) (tgN 15) cYes (bin dIx (eVar 15) (eC (.int 0))) [15] [s0, s1, s2, s3, .val (.tuple ((alongL S ms).map Spot.d)), s5, s6, s7, s8, s9, s10, s11, s12, s13, s14, .no, s16]
    = some ((alongL S ms).map fun T => T.p.s.z, [s0, s1, s2, s3, .val (.tuple ((alongL S ms).map Spot.d)), s5, s6, s7, s8, s9, s10, s11, s12, s13, s14, .no, s16]) := by
  have hf : few ((alongL S ms).map Spot.d).length = true := decide_eq_true (by rw [List.length_map, along_len]; omega)
  rw [oComp_ap]
  have e2 : iSeqD (eVar 4) [s0, s1, s2, s3, .val (.tuple ((alongL S ms).map Spot.d)), s5, s6, s7, s8, s9, s10, s11, s12, s13, s14, .no, s16] = some ((alongL S ms).map Spot.d, [s0, s1, s2, s3, .val (.tuple ((alongL S ms).map Spot.d)), s5, s6, s7, s8, s9, s10, s11, s12, s13, s14, .no, s16]) := by
    simp [iSeqD, eVar, seqOf]
  rw [e2, Option.bind_some, if_pos hf]
  exact loop_maps Spot.d (fun T => T.p.s.z) (alongL S ms) fun T _ => ⟨[s0, s1, s2, s3, .val (.tuple ((alongL S ms).map Spot.d)), s5, s6, s7, s8, s9, s10, s11, s12, s13, s14, .val T.d, s16], by simp [tgN, putS, wipeE], rfl, [s0, s1, s2, s3, .val (.tuple ((alongL S ms).map Spot.d)), s5, s6, s7, s8, s9, s10, s11, s12, s13, s14, .val T.d, s16], by simp [bin, eVar, eC, ix0], rfl⟩
theorem ok_shapes (S : Spot) (ms : List Mv) (hl : ms.length ≤ 900000) : okD 5 (shapesD S ms) = true := by
  have h : (5 : Nat) = 4 + 1 := rfl
  unfold shapesD
  rw [h]
  simp only [okD, Bool.and_eq_true, decide_eq_true_eq, List.all_eq_true]
  refine ⟨by rw [List.length_map, along_len]; omega, fun d hd => ?_⟩
  obtain ⟨T, _, rfl⟩ := List.mem_map.mp hd
  cases T.p.s <;> rfl
theorem ok_mids (x y z : Int) (S : Spot) (ms : List Mv) (hl : ms.length ≤ 900000) : okD 5 (.tuple (midsD x y z S ms)) = true := by
  have h : (5 : Nat) = 4 + 1 := rfl
  unfold midsD
  rw [h]
  simp only [okD, Bool.and_eq_true, decide_eq_true_eq, List.all_eq_true]
  refine ⟨by rw [List.length_map, along_len]; omega, fun d hd => ?_⟩
  obtain ⟨T, _, rfl⟩ := List.mem_map.mp hd
  rfl
theorem okD_up : ∀ (n : Nat) (d : PyData), okD n d = true → okD (n + 1) d = true := by
  intro n
  induction n with
  | zero => intro d h; cases d <;> first | rfl | (simp [okD] at h)
  | succ n ih =>
    intro d h
    cases d with
    | tuple ds =>
      simp only [okD, Bool.and_eq_true, List.all_eq_true] at h ⊢
      exact ⟨h.1, fun x hx => ih x (h.2 x hx)⟩
    | list ds =>
      simp only [okD, Bool.and_eq_true, List.all_eq_true] at h ⊢
      exact ⟨h.1, fun x hx => ih x (h.2 x hx)⟩
    | str _ => simp [okD] at h
    | dict _ => simp [okD] at h
    | _ => rfl
theorem okD_bl (n : Nat) (b : Bool) : okD n (.bool b) = true := by cases n <;> rfl
theorem ok_list {n : Nat} {l : List PyData} (h : l.all (okD n) = true) (hl : l.length ≤ 1000000) : okD (n + 1) (.list l) = true := by
  simp only [okD, Bool.and_eq_true, decide_eq_true_eq]
  exact ⟨hl, h⟩
theorem okD_fm (o : Option Nat) : okD 5 (fmD o) = true := by cases o <;> rfl
theorem many_l (ms : List Mv) (s0 s1 s3 s4 s5 s6 s7 s8 s9 s10 s11 s12 s13 s14 : Sl) : oComp (iSeqD (eCall fn_law_tips aNil)) (tgN 15) cYes (bin dCount (eVar 2) (eVar 15)) [15] [s0, s1, .val (rowD ms), s3, s4, s5, s6, s7, s8, s9, s10, s11, s12, s13, s14, .no, .no] = some ([.int ((ms.filter (isTipD 0)).length : Nat), .int ((ms.filter (isTipD 1)).length : Nat), .int ((ms.filter (isTipD 2)).length : Nat), .int ((ms.filter (isTipD 3)).length : Nat)], [s0, s1, .val (rowD ms), s3, s4, s5, s6, s7, s8, s9, s10, s11, s12, s13, s14, .no, .no]) := by
  have k0 : dCount (rowD ms) (Mv.d .t0) = _ := count_ok ms 0
  have k1 : dCount (rowD ms) (Mv.d .t1) = _ := count_ok ms 1
  have k2 : dCount (rowD ms) (Mv.d .t2) = _ := count_ok ms 2
  have k3 : dCount (rowD ms) (Mv.d .t3) = _ := count_ok ms 3
  rw [oComp_ap]
  simp [iSeqD, eCall, aNil, tips_ok, tipsD, seqOf, few, wipeE, loopC, tgN, putS, cYes, bin, eVar, k0, k1, k2, k3]
theorem hands_l {ms : List Mv} (hl : ms.length ≤ 1000000) (s0 s1 s3 s4 s5 s6 s7 s8 s9 s10 s11 s12 s13 s14 : Sl) : oComp (iSeqD (eTup (aCons (eC (.int 1)) (aCons (eNeg (eC (.int 1))) aNil)))) (tgN 16) cYes (call dLen (aCons (eOf (oComp (iSeqD (eVar 2)) (tgN 15) (eAnd (bin dEq (bin dIx (eVar 15) (eC (.int 0))) (eC (.str "turn"))) (bin dEq (bin dIx (eVar 15) (eC (.int 2))) (eVar 16))) (eC (.int 1)) [15])) aNil)) [16] [s0, s1, .val (rowD ms), s3, s4, s5, s6, s7, s8, s9, s10, s11, s12, s13, s14, .no, .no] = some ([.int ((ms.filter (Mv.hand true)).length : Nat), .int ((ms.filter (Mv.hand false)).length : Nat)], [s0, s1, .val (rowD ms), s3, s4, s5, s6, s7, s8, s9, s10, s11, s12, s13, s14, .no, .no]) := by
  have p := hand_l hl true
  have q := hand_l hl false
  simp only [sg] at p q
  rw [oComp_ap]
  simp [iSeqD, eTup, aCons, eC, eNeg, aNil, seqOf, few, wipeE, loopC, tgN, putS, cYes, call, eOf, p, q, dLen, -List.map_const]
theorem right_ok {tin : List PyData} (h : TI 0 tin) : ∃ tin', fn_law_right [.own tin] = some (.val (.bool true), .own tin') := by
  obtain ⟨S, t1, e1, w, i1⟩ := drawn_ok (by omega) h
  obtain ⟨ms, t2, e2, hl, i2⟩ := mixed_ok (by omega) i1
  obtain ⟨x, y, z, t3, e3, hx, hy, hz, i3⟩ := trunk_ok (by omega) i2
  have c1 := boxed_ok S ms w (by omega)
  have c2 : resD (fn_law_lists 8 [.val (rowD ms)]) = some (rowL ms) := lists_row (by omega)
  have c3 := lists_spot S
  have k1 := behind_ok (S := S) (ms := ms) (.inl rfl) (.inl rfl) (by omega)
  have k2 := behind_ok (S := S) (ms := ms) (.inr rfl) (.inr rfl) (by omega)
  have k3 := stands_ok (S := S) (ms := ms) (.inl rfl) (.inr rfl) (by omega)
  have k4 := stands_ok (S := S) (ms := ms) (.inl rfl) (.inl rfl) (by omega)
  have w6 : S.within 1000000 := by
    obtain ⟨h1, h2, h3, h4, h5, h6⟩ := w
    refine ⟨?_, ?_, ?_, ?_, ?_, ?_⟩ <;> constructor <;> omega
  have w3 : S.within 1000 := by
    obtain ⟨h1, h2, h3, h4, h5, h6⟩ := w
    refine ⟨?_, ?_, ?_, ?_, ?_, ?_⟩ <;> constructor <;> omega
  have oA := ok_along S ms (by omega)
  have oL := okD_spot (lastS S ms)
  have q1 : resD (fn_law_same 8 [.val (.list [(lastS S ms).d, (lastS S ms).d, (.tuple ((alongL S ms).map Spot.d)), (.tuple ((alongL S ms).map Spot.d))]), .val (.list [(lastS S ms).d, (lastS S ms).d, (.tuple ((alongL S ms).map Spot.d)), (.tuple ((alongL S ms).map Spot.d))])]) = some (.bool true) := same_8 (by
    have u1 := okD_up _ _ (okD_up _ _ (okD_up _ _ oL))
    have u2 := okD_up _ _ (okD_up _ _ oA)
    exact ok_list (by simp only [List.all_cons, List.all_nil, Bool.and_self, okD_bl, u1, u2]) (by simp)) rfl
  have q2 : resD (fn_law_same 8 [.val (.list [shapesD S ms, .tuple (midsD x y z S ms), .bool (ms.all Mv.tip), .bool (ms.all fun m => !m.tip), .bool true, .bool false]), .val (.list [shapesD S ms, .tuple (midsD x y z S ms), .bool (ms.all Mv.tip), .bool (ms.all fun m => !m.tip), .bool true, .bool false])]) = some (.bool true) := same_8 (by
    have u1 := ok_shapes S ms (by omega)
    have u2 := ok_mids x y z S ms (by omega)
    exact ok_list (by simp only [List.all_cons, List.all_nil, Bool.and_self, okD_bl, u1, u2]) (by simp)) rfl
  have c4 := box_of_ok x y z S w6
  have lz := midsI_len x y z ms S
  obtain ⟨s9, eL⟩ := mids_loop x y z (.own t3) (.val S.d) (.val (rowD ms)) (.val (.tuple ((alongL S ms).map Spot.d))) (.val (rowL ms)) (.val (.list [(lastS S ms).d, (lastS S ms).d, (.tuple ((alongL S ms).map Spot.d)), (.tuple ((alongL S ms).map Spot.d))])) ms S [] .no (by simp; omega)
  have hf8 : few ((midsI x y z S ms).length + 1) = true := decide_eq_true (by omega)
  have m1 := shapes_ok (S := S) (ms := ms) (a := S.l) (b := rowD ms) (.inr rfl) (.inl rfl) (by omega)
  have m2 := middles_ok (S := S) (ms := ms) (a := S.d) (b := rowL ms) hx.1 hy.1 hz.1 w3 (.inl rfl) (.inr rfl) (by omega)
  have m3 := tips_alone_ok (ms := ms) (b := rowL ms) (.inr rfl) (by omega)
  have m4 := turns_alone_ok (ms := ms) (b := rowD ms) (.inl rfl) (by omega)
  have m5 := is_row_ok (ms := ms) (by omega)
  have m6 := is_rowL_ok (ms := ms)
  have n1 := ones_eq (ms := ms) (fun m => !m.tip) (by omega)
  have n2 := ones_eq (ms := ms) (fun m => m.tip) (by omega)
  simp only [Bool.not_not] at n1
  have ne : alongL S ms ≠ [] := fun e => by
    have := along_len ms S
    rw [e] at this
    simp at this
  obtain ⟨dT, t4, e4, pT, i4⟩ := of_ok' ((alongL S ms).map Spot.d) (by simpa using ne) (by rw [List.length_map, along_len]; omega) (by omega) i3 _ (.inl rfl)
  obtain ⟨T, hT, rfl⟩ := List.mem_map.mp pT
  obtain ⟨U, t5, e5, w5, i5⟩ := drawn_ok (by omega) i4
  have f1 := how_often_ok (ms := ms) (b := rowL ms) (.inr rfl) (by omega)
  have f2 := first_met_ok (S := S) (ms := ms) (T := T) (c := T.d) (.inl rfl) (.inl rfl) (.inl rfl) (by omega)
  have f3 := first_met_ok (S := S) (ms := ms) (T := U) (c := U.l) (.inl rfl) (.inr rfl) (.inr rfl) (by omega)
  have f4 := lists_spot U
  have q3 : resD (fn_law_same 8 [.val (.list [howD ms, (fmD (((alongL S ms).map Spot.d).findIdx? fun w => PyData.eqv w T.d)), (fmD (((alongL S ms).map Spot.d).findIdx? fun w => PyData.eqv w U.d))]), .val (.list [howD ms, (fmD (((alongL S ms).map Spot.d).findIdx? fun w => PyData.eqv w T.d)), (fmD (((alongL S ms).map Spot.d).findIdx? fun w => PyData.eqv w U.d))])]) = some (.bool true) := same_8 (by
    have u1 := okD_fm (((alongL S ms).map Spot.d).findIdx? fun w => PyData.eqv w T.d)
    have u2 := okD_fm (((alongL S ms).map Spot.d).findIdx? fun w => PyData.eqv w U.d)
    have u3 : okD 5 (howD ms) = true := rfl
    exact ok_list (by simp only [List.all_cons, List.all_nil, Bool.and_self, okD_bl, u1, u2, u3]) (by simp)) rfl
  have x1 := index_ok (alongL S ms) T
  obtain ⟨j, ej⟩ := found hT
  have x2 := index_ok (alongL S ms) U
  have x3 := in_ok (alongL S ms) U (by rw [along_len]; omega)
  have main : ∃ r, f_law_right [.own tin, .no, .no, .no, .no, .no, .no, .no, .no, .no, .no, .no, .no, .no, .no, .no, .no] = some (.rt (.val (.bool true)) (.own t5 :: r)) := by
    unfold f_law_right
    rw [sq ([.own t3, .val S.d, .val (rowD ms), .val (sd x y z), .no, .no, .no, .no, .no, .no, .no, .no, .no, .no, .no, .no, .no]) (by simp [sSet, eTup, eCallO, eVar, eC, aCons, aNil, eCall, bin, resZ, e1, e2, e3, few, tgTup, tgCons, tgNil, tgN, putS, sd])]
    rw [sq ([.own t3, .val S.d, .val (rowD ms), .val (sd x y z), .val (.tuple ((alongL S ms).map Spot.d)), .val (rowL ms), .no, .no, .no, .no, .no, .no, .no, .no, .no, .no, .no]) (by simp [sPar, putS, eVar, eC, aCons, aNil, eCall, bin, c1, c2])]
    rw [sq ([.own t3, .val S.d, .val (rowD ms), .val (sd x y z), .val (.tuple ((alongL S ms).map Spot.d)), .val (rowL ms), .val (.list [(lastS S ms).d, (lastS S ms).d, (.tuple ((alongL S ms).map Spot.d)), (.tuple ((alongL S ms).map Spot.d))]), .no, .no, .no, .no, .no, .no, .no, .no, .no, .no]) (by simp [sSet, eOf, oLst, few, eCallK, prm, tgN, putS, eVar, eC, aCons, aNil, eCall, bin, c3, k1, k2, k3, k4])]
    rw [sq ([.own t3, .val S.d, .val (rowD ms), .val (sd x y z), .val (.tuple ((alongL S ms).map Spot.d)), .val (rowL ms), .val (.list [(lastS S ms).d, (lastS S ms).d, (.tuple ((alongL S ms).map Spot.d)), (.tuple ((alongL S ms).map Spot.d))]), .no, .no, .no, .no, .no, .no, .no, .no, .no, .no]) (by simp [sIf, eNot, eOf, oLst, few, eNeg, sNil, eVar, eC, aCons, aNil, eCall, bin, along_last', q1])]
    rw [sq ([.own t3, .val S.d, .val (rowD ms), .val (sd x y z), .val (.tuple ((alongL S ms).map Spot.d)), .val (rowL ms), .val (.list [(lastS S ms).d, (lastS S ms).d, (.tuple ((alongL S ms).map Spot.d)), (.tuple ((alongL S ms).map Spot.d))]), .val (bx S.p (dot S.x x y z) (dot S.y x y z) (up S.p.s x y z)), .own [], .no, .no, .no, .no, .no, .no, .no, .no]) (by simp [sParVO, oLst, few, putS, eVar, eC, aCons, aNil, eCall, bin, c4])]
    rw [show (sSeq (sApp 8 (eSl (bin dIx (eVar 7) (eC (.int 0))) oNone (oSome (eC (.int 2)))))
  (sSet (eCall fn_law_box_step (aCons (eVar 3) (aCons (eVar 7) (aCons (eVar 9) aNil)))) (tgN 7))) = midB from rfl, show (eSl (bin dIx (eVar 7) (eC (.int 0))) oNone (oSome (eC (.int 2)))) = slE from rfl]
    rw [sq ([.own t3, .val S.d, .val (rowD ms), .val (sd x y z), .val (.tuple ((alongL S ms).map Spot.d)), .val (rowL ms), .val (.list [(lastS S ms).d, (lastS S ms).d, (.tuple ((alongL S ms).map Spot.d)), (.tuple ((alongL S ms).map Spot.d))]), .val (bx (lastS S ms).p (dot (lastS S ms).x x y z) (dot (lastS S ms).y x y z) (up (lastS S ms).p.s x y z)), .own (midsI x y z S ms), s9, .no, .no, .no, .no, .no, .no, .no]) (by rw [show rowD ms = .tuple (ms.map Mv.d) from rfl] at eL ⊢; simp [sFor, iSeqD, eVar, seqOf, eL])]
    rw [sq ([.own t3, .val S.d, .val (rowD ms), .val (sd x y z), .val (.tuple ((alongL S ms).map Spot.d)), .val (rowL ms), .val (.list [(lastS S ms).d, (lastS S ms).d, (.tuple ((alongL S ms).map Spot.d)), (.tuple ((alongL S ms).map Spot.d))]), .val (bx (lastS S ms).p (dot (lastS S ms).x x y z) (dot (lastS S ms).y x y z) (up (lastS S ms).p.s x y z)), .own (midsD x y z S ms), s9, .no, .no, .no, .no, .no, .no, .no]) (by rw [← mids_eq]; simp [sApp, sl_ok, hf8])]
    rw [sq ([.own t3, .val S.d, .val (rowD ms), .val (sd x y z), .val (.tuple ((alongL S ms).map Spot.d)), .val (rowL ms), .val (.list [shapesD S ms, .tuple (midsD x y z S ms), .bool (ms.all Mv.tip), .bool (ms.all fun m => !m.tip), .bool true, .bool false]), .val (bx (lastS S ms).p (dot (lastS S ms).x x y z) (dot (lastS S ms).y x y z) (up (lastS S ms).p.s x y z)), .own (midsD x y z S ms), s9, .no, .no, .no, .no, .no, .no, .no]) (by simp [sSet, eOf, oLst, oList, few, eCallK, prm, tgN, putS, eVar, eC, aCons, aNil, eCall, bin, c3, m1, show (PyData.list [.int x, .int y, .int z]) = .list [.int x, .int y, .int z] from rfl, sd, m2, m3, m4, m5, m6])]
    rw [sq ([.own t3, .val S.d, .val (rowD ms), .val (sd x y z), .val (.tuple ((alongL S ms).map Spot.d)), .val (rowL ms), .val (.list [shapesD S ms, .tuple (midsD x y z S ms), .bool (ms.all Mv.tip), .bool (ms.all fun m => !m.tip), .bool true, .bool false]), .val (bx (lastS S ms).p (dot (lastS S ms).x x y z) (dot (lastS S ms).y x y z) (up (lastS S ms).p.s x y z)), .own (midsD x y z S ms), s9, .val (.list [shapesD S ms, .tuple (midsD x y z S ms), .bool (ms.all Mv.tip), .bool (ms.all fun m => !m.tip), .bool true, .bool false]), .no, .no, .no, .no, .no, .no]) (by simp [sSet, eOf, oLst, few, call, dTuple, eTupOwn, tgN, putS, eVar, eC, aCons, aNil, eCall, bin, shapes_l S ms (by omega), nt_l (ms := ms) (by omega), nu_l (ms := ms) (by omega), n1, n2, shapesD, -List.map_const])]
    rw [sq ([.own t3, .val S.d, .val (rowD ms), .val (sd x y z), .val (.tuple ((alongL S ms).map Spot.d)), .val (rowL ms), .val (.list [shapesD S ms, .tuple (midsD x y z S ms), .bool (ms.all Mv.tip), .bool (ms.all fun m => !m.tip), .bool true, .bool false]), .val (bx (lastS S ms).p (dot (lastS S ms).x x y z) (dot (lastS S ms).y x y z) (up (lastS S ms).p.s x y z)), .own (midsD x y z S ms), s9, .val (.list [shapesD S ms, .tuple (midsD x y z S ms), .bool (ms.all Mv.tip), .bool (ms.all fun m => !m.tip), .bool true, .bool false]), .no, .no, .no, .no, .no, .no]) (by simp [sIf, eNot, sNil, eVar, eC, aCons, aNil, eCall, bin, q2])]
    rw [sq ([.own t3, .val S.d, .val (rowD ms), .val (sd x y z), .val (.tuple ((alongL S ms).map Spot.d)), .val (rowL ms), .val (.list [shapesD S ms, .tuple (midsD x y z S ms), .bool (ms.all Mv.tip), .bool (ms.all fun m => !m.tip), .bool true, .bool false]), .val (bx (lastS S ms).p (dot (lastS S ms).x x y z) (dot (lastS S ms).y x y z) (up (lastS S ms).p.s x y z)), .own (midsD x y z S ms), s9, .val (.list [shapesD S ms, .tuple (midsD x y z S ms), .bool (ms.all Mv.tip), .bool (ms.all fun m => !m.tip), .bool true, .bool false]), .val (.list [.int ((ms.filter (isTipD 0)).length : Nat), .int ((ms.filter (isTipD 1)).length : Nat), .int ((ms.filter (isTipD 2)).length : Nat), .int ((ms.filter (isTipD 3)).length : Nat)]), .no, .no, .no, .no, .no]) (by simp [sSet, eOf, many_l ms, tgN, putS])]
    rw [sq ([.own t3, .val S.d, .val (rowD ms), .val (sd x y z), .val (.tuple ((alongL S ms).map Spot.d)), .val (rowL ms), .val (.list [shapesD S ms, .tuple (midsD x y z S ms), .bool (ms.all Mv.tip), .bool (ms.all fun m => !m.tip), .bool true, .bool false]), .val (bx (lastS S ms).p (dot (lastS S ms).x x y z) (dot (lastS S ms).y x y z) (up (lastS S ms).p.s x y z)), .own (midsD x y z S ms), s9, .val (.list [shapesD S ms, .tuple (midsD x y z S ms), .bool (ms.all Mv.tip), .bool (ms.all fun m => !m.tip), .bool true, .bool false]), .val (.list [.int ((ms.filter (isTipD 0)).length : Nat), .int ((ms.filter (isTipD 1)).length : Nat), .int ((ms.filter (isTipD 2)).length : Nat), .int ((ms.filter (isTipD 3)).length : Nat)]), .val (.list [.int ((ms.filter (Mv.hand true)).length : Nat), .int ((ms.filter (Mv.hand false)).length : Nat)]), .no, .no, .no, .no]) (by simp [sSet, eOf, hands_l (ms := ms) (by omega), tgN, putS])]
    rw [sq ([.own t5, .val S.d, .val (rowD ms), .val (sd x y z), .val (.tuple ((alongL S ms).map Spot.d)), .val (rowL ms), .val (.list [shapesD S ms, .tuple (midsD x y z S ms), .bool (ms.all Mv.tip), .bool (ms.all fun m => !m.tip), .bool true, .bool false]), .val (bx (lastS S ms).p (dot (lastS S ms).x x y z) (dot (lastS S ms).y x y z) (up (lastS S ms).p.s x y z)), .own (midsD x y z S ms), s9, .val (.list [shapesD S ms, .tuple (midsD x y z S ms), .bool (ms.all Mv.tip), .bool (ms.all fun m => !m.tip), .bool true, .bool false]), .val (.list [.int ((ms.filter (isTipD 0)).length : Nat), .int ((ms.filter (isTipD 1)).length : Nat), .int ((ms.filter (isTipD 2)).length : Nat), .int ((ms.filter (isTipD 3)).length : Nat)]), .val (.list [.int ((ms.filter (Mv.hand true)).length : Nat), .int ((ms.filter (Mv.hand false)).length : Nat)]), .val T.d, .val U.d, .no, .no]) (by simp [sPar, eCallO, resZ, eOf, oList, putS, eVar, eC, aCons, aNil, eCall, bin, e4, e5])]
    rw [sq ([.own t5, .val S.d, .val (rowD ms), .val (sd x y z), .val (.tuple ((alongL S ms).map Spot.d)), .val (rowL ms), .val (.list [howD ms, (fmD (((alongL S ms).map Spot.d).findIdx? fun w => PyData.eqv w T.d)), (fmD (((alongL S ms).map Spot.d).findIdx? fun w => PyData.eqv w U.d))]), .val (bx (lastS S ms).p (dot (lastS S ms).x x y z) (dot (lastS S ms).y x y z) (up (lastS S ms).p.s x y z)), .own (midsD x y z S ms), s9, .val (.list [shapesD S ms, .tuple (midsD x y z S ms), .bool (ms.all Mv.tip), .bool (ms.all fun m => !m.tip), .bool true, .bool false]), .val (.list [.int ((ms.filter (isTipD 0)).length : Nat), .int ((ms.filter (isTipD 1)).length : Nat), .int ((ms.filter (isTipD 2)).length : Nat), .int ((ms.filter (isTipD 3)).length : Nat)]), .val (.list [.int ((ms.filter (Mv.hand true)).length : Nat), .int ((ms.filter (Mv.hand false)).length : Nat)]), .val T.d, .val U.d, .no, .no]) (by simp [sSet, eOf, oLst, few, eCallK, prm, tgN, putS, eVar, eC, aCons, aNil, eCall, bin, f1, f2, f3, f4])]
    have y1 : dIndex (.tuple ((alongL S ms).map Spot.d)) T.d = some (fmD (((alongL S ms).map Spot.d).findIdx? fun w => PyData.eqv w T.d)) := by rw [x1, ej]; rfl
    have y2 : eIf (bin dIn (eVar 14) (eVar 4)) (bin dIndex (eVar 4) (eVar 14)) (eC .none) [.own t5, .val S.d, .val (rowD ms), .val (sd x y z), .val (.tuple ((alongL S ms).map Spot.d)), .val (rowL ms), .val (.list [howD ms, (fmD (((alongL S ms).map Spot.d).findIdx? fun w => PyData.eqv w T.d)), (fmD (((alongL S ms).map Spot.d).findIdx? fun w => PyData.eqv w U.d))]), .val (bx (lastS S ms).p (dot (lastS S ms).x x y z) (dot (lastS S ms).y x y z) (up (lastS S ms).p.s x y z)), .own (midsD x y z S ms), s9, .val (.list [shapesD S ms, .tuple (midsD x y z S ms), .bool (ms.all Mv.tip), .bool (ms.all fun m => !m.tip), .bool true, .bool false]), .val (.list [.int ((ms.filter (isTipD 0)).length : Nat), .int ((ms.filter (isTipD 1)).length : Nat), .int ((ms.filter (isTipD 2)).length : Nat), .int ((ms.filter (isTipD 3)).length : Nat)]), .val (.list [.int ((ms.filter (Mv.hand true)).length : Nat), .int ((ms.filter (Mv.hand false)).length : Nat)]), .val T.d, .val U.d, .no, .no] = some ((fmD (((alongL S ms).map Spot.d).findIdx? fun w => PyData.eqv w U.d)), [.own t5, .val S.d, .val (rowD ms), .val (sd x y z), .val (.tuple ((alongL S ms).map Spot.d)), .val (rowL ms), .val (.list [howD ms, (fmD (((alongL S ms).map Spot.d).findIdx? fun w => PyData.eqv w T.d)), (fmD (((alongL S ms).map Spot.d).findIdx? fun w => PyData.eqv w U.d))]), .val (bx (lastS S ms).p (dot (lastS S ms).x x y z) (dot (lastS S ms).y x y z) (up (lastS S ms).p.s x y z)), .own (midsD x y z S ms), s9, .val (.list [shapesD S ms, .tuple (midsD x y z S ms), .bool (ms.all Mv.tip), .bool (ms.all fun m => !m.tip), .bool true, .bool false]), .val (.list [.int ((ms.filter (isTipD 0)).length : Nat), .int ((ms.filter (isTipD 1)).length : Nat), .int ((ms.filter (isTipD 2)).length : Nat), .int ((ms.filter (isTipD 3)).length : Nat)]), .val (.list [.int ((ms.filter (Mv.hand true)).length : Nat), .int ((ms.filter (Mv.hand false)).length : Nat)]), .val T.d, .val U.d, .no, .no]) := by
      cases eu : ((alongL S ms).map Spot.d).findIdx? fun w => PyData.eqv w U.d with
      | none => simp [eIf, bin, eVar, x3, eu, eC, fmD, -List.findIdx?_map]
      | some k => simp [eIf, bin, eVar, x3, x2, eu, eC, fmD, -List.findIdx?_map]
    have hD : PyData.tuple [.int ((ms.filter (isTipD 0)).length : Nat), .int ((ms.filter (isTipD 1)).length : Nat), .int ((ms.filter (isTipD 2)).length : Nat), .int ((ms.filter (isTipD 3)).length : Nat), .int ((ms.filter (Mv.hand true)).length : Nat), .int ((ms.filter (Mv.hand false)).length : Nat)] = howD ms := rfl
    refine ⟨[.val S.d, .val (rowD ms), .val (sd x y z), .val (.tuple ((alongL S ms).map Spot.d)), .val (rowL ms), .val (.list [howD ms, (fmD (((alongL S ms).map Spot.d).findIdx? fun w => PyData.eqv w T.d)), (fmD (((alongL S ms).map Spot.d).findIdx? fun w => PyData.eqv w U.d))]), .val (bx (lastS S ms).p (dot (lastS S ms).x x y z) (dot (lastS S ms).y x y z) (up (lastS S ms).p.s x y z)), .own (midsD x y z S ms), s9, .val (.list [shapesD S ms, .tuple (midsD x y z S ms), .bool (ms.all Mv.tip), .bool (ms.all fun m => !m.tip), .bool true, .bool false]), .val (.list [.int ((ms.filter (isTipD 0)).length : Nat), .int ((ms.filter (isTipD 1)).length : Nat), .int ((ms.filter (isTipD 2)).length : Nat), .int ((ms.filter (isTipD 3)).length : Nat)]), .val (.list [.int ((ms.filter (Mv.hand true)).length : Nat), .int ((ms.filter (Mv.hand false)).length : Nat)]), .val T.d, .val U.d, .no, .no], ?_⟩
    simp [sRet, eCall, aCons, aNil, eVar, eOf, oLst, few, call, dTuple, bin, dAdd, y1, y2, hD, q3, -List.findIdx?_map]
  obtain ⟨r, main⟩ := main
  refine ⟨t5, ?_⟩
  unfold fn_law_right runD
  rw [if_pos (by rfl)]
  show (match f_law_right [.own tin, .no, .no, .no, .no, .no, .no, .no, .no, .no, .no, .no, .no, .no, .no, .no, .no] with
    | some (.rt r ρ) => some (r, ρ[0]?.getD Sl.no)
    | some (.nx ρ) => some (Sl.val PyData.none, ρ[0]?.getD Sl.no)
    | none => none) = _
  rw [main]
  rfl
end DL

/-! ## PL15 -/
set_option linter.all false
set_option maxRecDepth 100000
set_option maxHeartbeats 40000000
namespace DL
open PySem PySem.Spec PyProof.Rows L2
theorem by_hand_ok : resD (fn_law_by_hand_right []) = some (.bool true) := by kernel_rfl
/-! ### the cells -/
def cellB : FS := sSeq (sSet (bin dMod (call dToInt (aCons (eVar 3) aNil)) (eVar 1)) (tgN 5))
  (sSetI 2 (bin dAdd (eIxOwn 2 (eVar 5)) (bin dMul (eVar 4) (bin dAdd (eVar 3) (eC (.int 2))))) (eVar 5))
theorem cell_loop (a : Sl) : ∀ (rs : List Int) (n : Nat) (c0 c1 : Int) (s3 s4 s5 : Sl), n + rs.length ≤ 1000 →
    ∃ (d0 d1 : Int) (z3 z4 z5 : Sl), loopS (tgTup 2 (tgCons (tgN 3) (tgCons (tgN 4) tgNil))) cellB (enumD n (rs.map PyData.int)) [a, .val (.int 2), .own [.int c0, .int c1], s3, s4, s5] = some [a, .val (.int 2), .own [.int d0, .int d1], z3, z4, z5]
  | [], n, c0, c1, s3, s4, s5, h => ⟨c0, c1, s3, s4, s5, rfl⟩
  | r :: rs, n, c0, c1, s3, s4, s5, h => by
    rw [List.length_cons] at h
    have m : mulOk r ((n : Int) + 2) = true := mulOk_r (by omega) (by omega)
    rcases (by omega : (n : Int) % 2 = 0 ∨ (n : Int) % 2 = 1) with hn | hn
    · obtain ⟨d0, d1, z3, z4, z5, e⟩ := cell_loop a rs (n + 1) (c0 + r * ((n : Int) + 2)) c1 (.val (.int n)) (.val (.int r)) (.val (.int 0)) (by omega)
      refine ⟨d0, d1, z3, z4, z5, ?_⟩
      rw [← e]
      simp [enumD, loopS, tgTup, tgCons, tgN, putS, tgNil, cellB, sSeq, sSet, bin, call, aCons, aNil, eVar, dToInt, dMod, hn, sSetI, eIxOwn, atI, ixN, eC, dAdd, dMul, m]
    · obtain ⟨d0, d1, z3, z4, z5, e⟩ := cell_loop a rs (n + 1) c0 (c1 + r * ((n : Int) + 2)) (.val (.int n)) (.val (.int r)) (.val (.int 1)) (by omega)
      refine ⟨d0, d1, z3, z4, z5, ?_⟩
      rw [← e]
      simp [enumD, loopS, tgTup, tgCons, tgN, putS, tgNil, cellB, sSeq, sSet, bin, call, aCons, aNil, eVar, dToInt, dMod, hn, sSetI, eIxOwn, atI, ixN, eC, dAdd, dMul, m]
def f_cells2 : FS :=
  (sSeq (sSetO 2 (oOr (oList (aCons (eSl (eVar 0) oNone (oSome (eVar 1))) aNil)) (oLst (aCons (eC (.int 0)) aNil))))
  (sSeq (sFor (iEnumF (aCons (eSl (eVar 0) (oSome (eVar 1)) (oSome (eC (.int 63)))) aNil)) (tgTup 2 (tgCons (tgN 3) (tgCons (tgN 4) tgNil))) cellB)
  (sRetO 2)))
theorem cells2 : fn_law_cells = runD 6 2 f_cells2 := rfl
theorem cut_a (ds : List PyData) : cutD ds none (some 2) = ds.take 2 := by
  unfold cutD
  rw [HT.sIx_none, show HT.sIx ds.length ds.length (some 2) = min 2 ds.length from HT.sIx_nat ds.length ds.length 2, List.drop_zero, Nat.sub_zero]
  rw [List.take_eq_take_iff]
  omega
theorem cut_b (ds : List PyData) : ∃ k, k ≤ 63 ∧ cutD ds (some 2) (some 63) = (ds.drop 2).take k := by
  unfold cutD
  rw [show HT.sIx ds.length 0 (some 2) = min 2 ds.length from HT.sIx_nat ds.length 0 2, show HT.sIx ds.length ds.length (some 63) = min 63 ds.length from HT.sIx_nat ds.length ds.length 63]
  by_cases h : 2 ≤ ds.length
  · exact ⟨min 63 ds.length - 2, by omega, by rw [show min 2 ds.length = 2 by omega]⟩
  · refine ⟨0, by omega, ?_⟩
    rw [show min 63 ds.length - min 2 ds.length = 0 by omega]
    simp
theorem cells_ok (ns : List Int) : ∃ cs : List Int, (cs.length = 1 ∨ cs.length = 2) ∧ resD (fn_law_cells [.val (.list (ns.map PyData.int)), .val (.int 2)]) = some (.list (cs.map PyData.int)) := by
  rw [cells2]
  obtain ⟨k, hk, eb⟩ := cut_b (ns.map PyData.int)
  have ea := cut_a (ns.map PyData.int)
  match ns, ea, eb with
  | [], ea, eb =>
    refine ⟨[0], .inl rfl, ?_⟩
    simp at ea eb
    simp [runD, f_cells2, isOwn, sSeq, sSetO, oOr, oList, aCons, aNil, eSl, eVar, oNone, oSome, dSl, ea, eb, oLst, few, eC, putS, sFor, iEnumF, enumD, loopS, sRetO, resD_own]
  | [a], ea, eb =>
    refine ⟨[a], .inl rfl, ?_⟩
    simp at ea eb
    simp [runD, f_cells2, isOwn, sSeq, sSetO, oOr, oList, aCons, aNil, eSl, eVar, oNone, oSome, dSl, ea, eb, oLst, few, eC, putS, sFor, iEnumF, enumD, loopS, sRetO, resD_own]
  | a :: b :: r, ea, eb =>
    obtain ⟨d0, d1, z3, z4, z5, e⟩ := cell_loop (.val (.list ((a :: b :: r).map PyData.int))) (r.take k) 0 a b .no .no .no (by rw [List.length_take]; omega)
    refine ⟨[d0, d1], .inr rfl, ?_⟩
    simp at ea eb e
    simp [runD, f_cells2, isOwn, sSeq, sSetO, oOr, oList, aCons, aNil, eSl, eVar, oNone, oSome, dSl, ea, eb, oLst, few, eC, putS, sFor, iEnumF, e, sRetO, resD_own]
theorem box_ok (cs : List Int) (k : Nat) (hk : k < cs.length) (h2 : cs.length ≤ 2) : ∃ A B : Int, resO (fn_law_box [.val (.list (cs.map PyData.int)), .val (.int k)]) = some [.int A, .int B, .int 0] := by
  have m1 : ∀ j, mulOk 39373 j = true := fun j => mulOk_l (by decide) (by decide)
  have m2 : ∀ (i : Int) (p : Prop) [Decidable p], mulOk i (if p then 1 else 0) = true := fun i p _ => by split <;> exact mulOk_r (by decide) (by decide)
  have k1 : (k : Int) < cs.length := by omega
  have k0 : (0 : Int) ≤ k := by omega
  simp [fn_law_box, runD, f_law_box, isOwn, sSeq, sSet, eIf, bin, eVar, call, aCons, aNil, dLen, dInt, k1, dIx, atI, ixN, k0, hk, tgN, putS, sRetL, oLst, few, dAbs, eC, dPow, dToInt, dMul, m2, dMod, m1, dAdd, resO]
  done
theorem right_box (cs : List Int) (k : Nat) (hk : k < cs.length) (h2 : cs.length ≤ 2) (s : Sl) : eCallF fn_law_right (oCall fn_law_box (aCons (eVar 1) (aCons (eVar 2) aNil))) [s, .val (.list (cs.map PyData.int)), .val (.int k)] = some (.bool true, [s, .val (.list (cs.map PyData.int)), .val (.int k)]) := by
  obtain ⟨A, B, e⟩ := box_ok cs k hk h2
  obtain ⟨t, e2⟩ := right_ok (tin := [.int A, .int B, .int 0]) ⟨A, B, 0, rfl, by omega, by omega⟩
  simp [eCallF, oCall, aCons, aNil, eVar, e, e2]
def f_lawG (hF cF : FD) (e : FE) : FS :=
  (sSeq (sIf (eNot (eCall hF aNil)) (sRet (eC (.bool false))) sNil)
  (sSeq (sSet (eCall cF (aCons (eVar 0) (aCons (eC (.int 2)) aNil))) (tgN 1))
  (sRet (call dAll (aCons (eOf (oComp (iRange (aCons (call dLen (aCons (eVar 1) aNil)) aNil)) (tgN 2) cYes e [2])) aNil)))))
theorem law_comp (e : FE) (s : Sl) (cs : List Int) (hc : cs.length = 1 ∨ cs.length = 2) (r : ∀ k, k < cs.length → e [s, .val (.list (cs.map PyData.int)), .val (.int (k : Nat))] = some (.bool true, [s, .val (.list (cs.map PyData.int)), .val (.int (k : Nat))])) :
    oComp (iRange (aCons (call dLen (aCons (eVar 1) aNil)) aNil)) (tgN 2) cYes e [2] [s, .val (.list (cs.map PyData.int)), .no] = some (cs.map fun _ => .bool true, [s, .val (.list (cs.map PyData.int)), .no]) := by
  rcases hc with hc | hc
  · have r0 := r 0 (by omega)
    match cs, hc, r0 with
    | [c], _, r0 =>
      simp at r0
      simp [oComp_ap, iRange, aCons, aNil, call, eVar, dLen, rangeD, few, wipeE, loopC, tgN, putS, cYes]
      simp [r0, List.range_succ]
  · have r0 := r 0 (by omega)
    have r1 := r 1 (by omega)
    match cs, hc, r0, r1 with
    | [c, d], _, r0, r1 =>
      simp at r0 r1
      simp [oComp_ap, iRange, aCons, aNil, call, eVar, dLen, rangeD, few, wipeE, loopC, tgN, putS, cYes]
      simp [r0, r1, List.range_succ, loopC, tgN, putS, cYes, wipeE]
theorem law_gen (hF cF : FD) (e : FE) (d : PyData) (cs : List Int) (hc : cs.length = 1 ∨ cs.length = 2) (bh : resD (hF []) = some (.bool true)) (e1 : resD (cF [.val d, .val (.int 2)]) = some (.list (cs.map PyData.int)))
    (r : ∀ k, k < cs.length → e [.val d, .val (.list (cs.map PyData.int)), .val (.int (k : Nat))] = some (.bool true, [.val d, .val (.list (cs.map PyData.int)), .val (.int (k : Nat))])) : ∃ z, runD 3 1 (f_lawG hF cF e) [.val d] = some (.val (.bool true), z) := by
  have hd := law_comp e (.val d) cs hc r
  have hb := bools_map cs
  have ha : (cs.map fun _ => true).all id = true := by simp
  have h1 : sIf (eNot (eCall hF aNil)) (sRet (eC (.bool false))) sNil [.val d, .no, .no] = some (.nx [.val d, .no, .no]) := by
    simp only [sIf, eNot, eCall, aNil, Option.bind_some, List.map_nil, bh, Bool.not_true, sNil]
  have h2 : sSet (eCall cF (aCons (eVar 0) (aCons (eC (.int 2)) aNil))) (tgN 1) [.val d, .no, .no] = some (.nx [.val d, .val (.list (cs.map PyData.int)), .no]) := by
    have e2 : eCall cF (aCons (eVar 0) (aCons (eC (.int 2)) aNil)) [.val d, .no, .no] = some (.list (cs.map PyData.int), [.val d, .no, .no]) := by
      show (resD (cF [.val d, .val (.int 2)])).bind _ = _
      rw [e1]
      rfl
    unfold sSet
    rw [e2]
    rfl
  have h3 : call dAll (aCons (eOf (oComp (iRange (aCons (call dLen (aCons (eVar 1) aNil)) aNil)) (tgN 2) cYes e [2])) aNil) [.val d, .val (.list (cs.map PyData.int)), .no] = some (.bool true, [.val d, .val (.list (cs.map PyData.int)), .no]) := by
    have e2 : eOf (oComp (iRange (aCons (call dLen (aCons (eVar 1) aNil)) aNil)) (tgN 2) cYes e [2]) [.val d, .val (.list (cs.map PyData.int)), .no] = some (.list (cs.map fun _ => .bool true), [.val d, .val (.list (cs.map PyData.int)), .no]) := by
      unfold eOf
      rw [hd]
      rfl
    have e3 : aCons (eOf (oComp (iRange (aCons (call dLen (aCons (eVar 1) aNil)) aNil)) (tgN 2) cYes e [2])) aNil [.val d, .val (.list (cs.map PyData.int)), .no] = some ([.list (cs.map fun _ => .bool true)], [.val d, .val (.list (cs.map PyData.int)), .no]) := by
      show (eOf (oComp (iRange (aCons (call dLen (aCons (eVar 1) aNil)) aNil)) (tgN 2) cYes e [2]) [.val d, .val (.list (cs.map PyData.int)), .no]).bind _ = _
      rw [e2]
      rfl
    have e4 : dAll [.list (cs.map fun _ => .bool true)] = some (.bool true) := by
      unfold dAll
      dsimp only
      rw [hb, Option.bind_some, ha]
    show (aCons (eOf (oComp (iRange (aCons (call dLen (aCons (eVar 1) aNil)) aNil)) (tgN 2) cYes e [2])) aNil [.val d, .val (.list (cs.map PyData.int)), .no]).bind _ = _
    rw [e3, Option.bind_some, e4]
    rfl
  have h4 : f_lawG hF cF e [.val d, .no, .no] = some (.rt (.val (.bool true)) [.val d, .val (.list (cs.map PyData.int)), .no]) := by
    unfold f_lawG
    rw [sq _ h1, sq _ h2]
    unfold sRet
    rw [h3]
    rfl
  refine ⟨.val d, ?_⟩
  unfold runD
  rw [if_pos (by rfl)]
  show (match f_lawG hF cF e [.val d, .no, .no] with
    | some (.rt r ρ) => some (r, ρ[0]?.getD Sl.no)
    | some (.nx ρ) => some (Sl.val PyData.none, ρ[0]?.getD Sl.no)
    | none => none) = _
  rw [h4]
  rfl
theorem law_eq : fn_law = runD 3 1 (f_lawG fn_law_by_hand_right fn_law_cells (eCallF fn_law_right (oCall fn_law_box (aCons (eVar 1) (aCons (eVar 2) aNil))))) := rfl
theorem law_ok (ns : List Int) : ∃ z, fn_law [.val (.list (ns.map PyData.int))] = some (.val (.bool true), z) := by
  obtain ⟨cs, hc, e1⟩ := cells_ok ns
  rw [law_eq]
  exact law_gen _ _ _ _ cs hc by_hand_ok e1 fun k hk => right_box cs k hk (by omega) _
end DL

/-! ## ENDA -/
set_option Elab.async false
set_option linter.all false
set_option maxRecDepth 100000
set_option maxHeartbeats 40000000
namespace DL
open PySem PySem.Spec PyProof.Rows L2
/-- a def of the text, written -/
def DFx (K : PySem.W.Frag) (x : Str) (st : Stmt) : Prop := ∃ (f : Addr) (fd : FuncData), PySem.W.nsIn K mainGlobals x = some (some (.ref f)) ∧ Fun K x x st f fd
theorem df_mk {K : PySem.W.Frag} {x : Str} {st : Stmt} {f : Addr} {oc : Value} {od an : Option Addr} {osl : Array (Option Value)} {kV doc pm cdv ct : Value} (a : PySem.W.nsIn K mainGlobals x = some (some (.ref f)))
    (l : K.lookup f = some ⟨oc, od, .func (PySem.W.fnOf x x (defArgs st) (defBody st) (defScope st) .none kV doc pm an cdv ct), osl⟩) (c : PySem.W.codeIn K cdv x = true) (k : PySem.W.keepIn K (.ref f) = true) : DFx K x st := ⟨f, _, a, fun_mk l c k⟩
def Tup3 (K : PySem.W.Frag) (a : Addr) (i j k : Int) : Prop := ∀ F, Rp K F (.ref a) (.tuple [.int i, .int j, .int k])
theorem tup3_mk {K : PySem.W.Frag} {a : Addr} {i j k : Int} {t1 t2 t3 : Tok} {n : Nat} {sl : Array (Option Value)} (l : K.lookup a = some ⟨.type "tuple", none, .seq #[.int i t1, .int j t2, .int k t3] n, sl⟩) : Tup3 K a i j k := fun F =>
  .tup (xs := [.int i, .int j, .int k]) (.inr ⟨_, _, n, l, rfl, rfl, rfl, by show 3 ≤ sizeLine; decide, .cons ⟨t1, rfl⟩ (.cons ⟨t2, rfl⟩ (.cons ⟨t3, rfl⟩ .nil))⟩) (.cons (.int i) (.cons (.int j) (.cons (.int k) .nil)))
def RingF (K : PySem.W.Frag) : Prop := ∃ a : Addr, PySem.W.nsIn K mainGlobals "RING" = some (some (.ref a)) ∧ ∀ F, Rp K F (.ref a) ringD
theorem ring_mk {K : PySem.W.Frag} {a a1 a2 a3 a4 a5 a6 : Addr} {n : Nat} {sl : Array (Option Value)} (r : PySem.W.nsIn K mainGlobals "RING" = some (some (.ref a)))
    (l : K.lookup a = some ⟨.type "tuple", none, .seq #[.ref a1, .ref a2, .ref a3, .ref a4, .ref a5, .ref a6] n, sl⟩) (h1 : Tup3 K a1 0 1 2) (h2 : Tup3 K a2 2 1 0) (h3 : Tup3 K a3 2 0 1) (h4 : Tup3 K a4 1 0 2) (h5 : Tup3 K a5 1 2 0) (h6 : Tup3 K a6 0 2 1) : RingF K :=
  ⟨a, r, fun F => .tup (xs := [.ref a1, .ref a2, .ref a3, .ref a4, .ref a5, .ref a6]) (.inr ⟨_, _, n, l, rfl, rfl, rfl, by show 6 ≤ sizeLine; decide, .cons rfl (.cons rfl (.cons rfl (.cons rfl (.cons rfl (.cons rfl .nil)))))⟩) (.cons (h1 F) (.cons (h2 F) (.cons (h3 F) (.cons (h4 F) (.cons (h5 F) (.cons (h6 F) .nil))))))⟩
theorem law_sp {K : PySem.W.Frag} {H : Hp} {a : Addr} {ns : List Int} (hS : SqL K H a (ns.map V.int)) : spD K 1 fn_law [.ref a] H (fun v _ => v = .bl true) fun _ _ _ => False := by
  obtain ⟨z, e⟩ := law_ok ns
  refine ⟨H, [.val (.list (ns.map PyData.int))], _, z, wf_vals (ds := [.list (ns.map PyData.int)]) (Same.refl H) (.cons (.lst hS (RpAll.ints ns)) .nil), rfl, e, fun v F' H' _ _ r => ?_⟩
  have r : Rp K F' v (.bool true) := r
  cases r
  rfl
theorem fd_one {K : PySem.W.Frag} {x : Str} {st : Stmt} {f : Addr} {fd fd' : FuncData} (A : Fun K x x st f fd) (B : Fun K x x st f fd') : fd = fd' := by
  obtain ⟨⟨oc, od, kV, doc, pm, an, cdv, ct, osl, e1, l1, _⟩, _⟩ := A
  obtain ⟨⟨oc2, od2, kV2, doc2, pm2, an2, cdv2, ct2, osl2, e2, l2, _⟩, _⟩ := B
  rw [l1] at l2
  cases l2
  rfl
theorem all_mk {l : PySem.W.OpenLaw} {w : World} {K : PySem.W.Frag} {h : Heap} {mg : Str → Option Value} {fa : Addr} (X : K.In h) (G : h.Ns mainGlobals mg) (hfa : mg "law" = some (.ref fa))
    (A_law_cells : DFx K "_law_cells" s_law_cells) (A_law_same : DFx K "_law_same" s_law_same) (A_law_home : DFx K "_law_home" s_law_home) (A_tupled : DFx K "tupled" s_tupled) (A_is_long : DFx K "is_long" s_is_long) (A_is_number : DFx K "is_number" s_is_number) (A_is_shape : DFx K "is_shape" s_is_shape) (A_are_numbers : DFx K "are_numbers" s_are_numbers) (A_is_stand : DFx K "is_stand" s_is_stand) (A_sure_stand : DFx K "sure_stand" s_sure_stand) (A_more_at : DFx K "more_at" s_more_at) (A_flipped : DFx K "flipped" s_flipped) (A_tipped_in : DFx K "tipped_in" s_tipped_in) (A_turned_in : DFx K "turned_in" s_turned_in) (A_moved_in : DFx K "moved_in" s_moved_in) (A_behind_in : DFx K "behind_in" s_behind_in) (A_is_within : DFx K "is_within" s_is_within) (A_is_move : DFx K "is_move" s_is_move) (A_is_row_in : DFx K "is_row_in" s_is_row_in) (A_sure_row : DFx K "sure_row" s_sure_row) (A_behind : DFx K "behind" s_behind) (A_along_in : DFx K "along_in" s_along_in) (A_stands_along : DFx K "stands_along" s_stands_along) (A_shapes_along : DFx K "shapes_along" s_shapes_along) (A_is_from : DFx K "is_from" s_is_from) (A_is_chest : DFx K "is_chest" s_is_chest) (A_sure_chest : DFx K "sure_chest" s_sure_chest) (A_middle_in : DFx K "middle_in" s_middle_in) (A_middles_along : DFx K "middles_along" s_middles_along) (A_tips_alone : DFx K "tips_alone" s_tips_alone) (A_turns_alone : DFx K "turns_alone" s_turns_alone) (A_how_often : DFx K "how_often" s_how_often) (A_first_met : DFx K "first_met" s_first_met) (A_law_turns : DFx K "_law_turns" s_law_turns) (A_is_row : DFx K "is_row" s_is_row) (A_law_by_hand_right : DFx K "_law_by_hand_right" s_law_by_hand_right) (A_law_take : DFx K "_law_take" s_law_take) (A_law_of : DFx K "_law_of" s_law_of) (A_law_poses : DFx K "_law_poses" s_law_poses) (A_law_drawn_spot : DFx K "_law_drawn_spot" s_law_drawn_spot) (A_law_walk : DFx K "_law_walk" s_law_walk) (A_law_tips : DFx K "_law_tips" s_law_tips) (A_law_all_steps : DFx K "_law_all_steps" s_law_all_steps) (A_law_mixed : DFx K "_law_mixed" s_law_mixed) (A_law_trunk : DFx K "_law_trunk" s_law_trunk) (A_law_box_of : DFx K "_law_box_of" s_law_box_of) (A_law_round : DFx K "_law_round" s_law_round) (A_law_half : DFx K "_law_half" s_law_half) (A_law_rolled : DFx K "_law_rolled" s_law_rolled) (A_law_box_step : DFx K "_law_box_step" s_law_box_step) (A_law_digits_of : DFx K "_law_digits_of" s_law_digits_of) (A_law_spot_of : DFx K "_law_spot_of" s_law_spot_of) (A_law_boxed : DFx K "_law_boxed" s_law_boxed) (A_law_lists : DFx K "_law_lists" s_law_lists) (A_law_right : DFx K "_law_right" s_law_right) (A_law_box : DFx K "_law_box" s_law_box) (A_law : DFx K "law" s_law)
    (RG : RingF K) (z_isinstance : PySem.W.nsIn K mainGlobals "isinstance" = some none) (z_len : PySem.W.nsIn K mainGlobals "len" = some none) (z_all : PySem.W.nsIn K mainGlobals "all" = some none) (z_tuple : PySem.W.nsIn K mainGlobals "tuple" = some none) (z_list : PySem.W.nsIn K mainGlobals "list" = some none) (z_sum : PySem.W.nsIn K mainGlobals "sum" = some none) (z_abs : PySem.W.nsIn K mainGlobals "abs" = some none) (z_int : PySem.W.nsIn K mainGlobals "int" = some none) (z_bool : PySem.W.nsIn K mainGlobals "bool" = some none) (z_str : PySem.W.nsIn K mainGlobals "str" = some none) (z_range : PySem.W.nsIn K mainGlobals "range" = some none) (z_zip : PySem.W.nsIn K mainGlobals "zip" = some none) (z_enumerate : PySem.W.nsIn K mainGlobals "enumerate" = some none) :
    ∃ fd : FuncData, (∀ (s : Shared) (v : Value), BindsTo s fd ⟨[v], []⟩ [("_law_script", v)]) ∧ ∀ base : Heap, K.In base → base.Ns mainGlobals mg → FnOk l.prog w K mg base CX0 14 fa fd ["_law_script"] (spD K 1 fn_law) := by
  obtain ⟨ra, r1, r2⟩ := RG
  have T : Txt K mg := ⟨PySem.W.mg_none_of X G z_isinstance, PySem.W.mg_none_of X G z_len, PySem.W.mg_none_of X G z_all, PySem.W.mg_none_of X G z_tuple, PySem.W.mg_none_of X G z_list, PySem.W.mg_none_of X G z_sum, PySem.W.mg_none_of X G z_abs, PySem.W.mg_none_of X G z_int, PySem.W.mg_none_of X G z_bool, PySem.W.mg_none_of X G z_str, PySem.W.mg_none_of X G z_range, PySem.W.mg_none_of X G z_zip, PySem.W.mg_none_of X G z_enumerate, ra, PySem.W.mg_of X G r1, r2⟩
  obtain ⟨f_law_cells, fd_law_cells, n_law_cells, F_law_cells⟩ := A_law_cells
  have m_law_cells := PySem.W.mg_of X G n_law_cells
  have B_law_cells := fun base : Heap => ok_law_cells (P := l.prog) (w := w) (base := base) F_law_cells m_law_cells T
  obtain ⟨f_law_same, fd_law_same, n_law_same, F_law_same⟩ := A_law_same
  have m_law_same := PySem.W.mg_of X G n_law_same
  have B_law_same := fun base : Heap => ok_law_same (P := l.prog) (w := w) (base := base) F_law_same m_law_same T 8
  obtain ⟨f_law_home, fd_law_home, n_law_home, F_law_home⟩ := A_law_home
  have m_law_home := PySem.W.mg_of X G n_law_home
  have B_law_home := fun base : Heap => ok_law_home (P := l.prog) (w := w) (base := base) F_law_home m_law_home T
  obtain ⟨f_tupled, fd_tupled, n_tupled, F_tupled⟩ := A_tupled
  have m_tupled := PySem.W.mg_of X G n_tupled
  have B_tupled := fun base : Heap => ok_tupled (P := l.prog) (w := w) (base := base) F_tupled m_tupled T 8
  obtain ⟨f_is_long, fd_is_long, n_is_long, F_is_long⟩ := A_is_long
  have m_is_long := PySem.W.mg_of X G n_is_long
  have B_is_long := fun base : Heap => ok_is_long (P := l.prog) (w := w) (base := base) F_is_long m_is_long T
  obtain ⟨f_is_number, fd_is_number, n_is_number, F_is_number⟩ := A_is_number
  have m_is_number := PySem.W.mg_of X G n_is_number
  have B_is_number := fun base : Heap => ok_is_number (P := l.prog) (w := w) (base := base) F_is_number m_is_number T
  obtain ⟨f_is_shape, fd_is_shape, n_is_shape, F_is_shape⟩ := A_is_shape
  have m_is_shape := PySem.W.mg_of X G n_is_shape
  have B_is_shape := fun base : Heap => ok_is_shape (P := l.prog) (w := w) (base := base) F_is_shape m_is_shape T (B_is_long base) (B_is_number base)
  obtain ⟨f_are_numbers, fd_are_numbers, n_are_numbers, F_are_numbers⟩ := A_are_numbers
  have m_are_numbers := PySem.W.mg_of X G n_are_numbers
  have B_are_numbers := fun base : Heap => ok_are_numbers (P := l.prog) (w := w) (base := base) F_are_numbers m_are_numbers T (B_is_number base)
  obtain ⟨f_is_stand, fd_is_stand, n_is_stand, F_is_stand⟩ := A_is_stand
  have m_is_stand := PySem.W.mg_of X G n_is_stand
  have B_is_stand := fun base : Heap => ok_is_stand (P := l.prog) (w := w) (base := base) F_is_stand m_is_stand T (B_is_long base) (B_is_shape base) (B_are_numbers base)
  obtain ⟨f_sure_stand, fd_sure_stand, n_sure_stand, F_sure_stand⟩ := A_sure_stand
  have m_sure_stand := PySem.W.mg_of X G n_sure_stand
  have B_sure_stand := fun base : Heap => ok_sure_stand (P := l.prog) (w := w) (base := base) F_sure_stand m_sure_stand T (B_tupled base) (B_is_stand base)
  obtain ⟨f_more_at, fd_more_at, n_more_at, F_more_at⟩ := A_more_at
  have m_more_at := PySem.W.mg_of X G n_more_at
  have B_more_at := fun base : Heap => ok_more_at (P := l.prog) (w := w) (base := base) F_more_at m_more_at T
  obtain ⟨f_flipped, fd_flipped, n_flipped, F_flipped⟩ := A_flipped
  have m_flipped := PySem.W.mg_of X G n_flipped
  have B_flipped := fun base : Heap => ok_flipped (P := l.prog) (w := w) (base := base) F_flipped m_flipped T (B_more_at base)
  obtain ⟨f_tipped_in, fd_tipped_in, n_tipped_in, F_tipped_in⟩ := A_tipped_in
  have m_tipped_in := PySem.W.mg_of X G n_tipped_in
  have B_tipped_in := fun base : Heap => ok_tipped_in (P := l.prog) (w := w) (base := base) F_tipped_in m_tipped_in T (B_more_at base) (B_flipped base)
  obtain ⟨f_turned_in, fd_turned_in, n_turned_in, F_turned_in⟩ := A_turned_in
  have m_turned_in := PySem.W.mg_of X G n_turned_in
  have B_turned_in := fun base : Heap => ok_turned_in (P := l.prog) (w := w) (base := base) F_turned_in m_turned_in T (B_more_at base) (B_flipped base)
  obtain ⟨f_moved_in, fd_moved_in, n_moved_in, F_moved_in⟩ := A_moved_in
  have m_moved_in := PySem.W.mg_of X G n_moved_in
  have B_moved_in := fun base : Heap => ok_moved_in (P := l.prog) (w := w) (base := base) F_moved_in m_moved_in T (B_tipped_in base) (B_turned_in base)
  obtain ⟨f_behind_in, fd_behind_in, n_behind_in, F_behind_in⟩ := A_behind_in
  have m_behind_in := PySem.W.mg_of X G n_behind_in
  have B_behind_in := fun base : Heap => ok_behind_in (P := l.prog) (w := w) (base := base) F_behind_in m_behind_in T (B_moved_in base)
  obtain ⟨f_is_within, fd_is_within, n_is_within, F_is_within⟩ := A_is_within
  have m_is_within := PySem.W.mg_of X G n_is_within
  have B_is_within := fun base : Heap => ok_is_within (P := l.prog) (w := w) (base := base) F_is_within m_is_within T (B_is_number base)
  obtain ⟨f_is_move, fd_is_move, n_is_move, F_is_move⟩ := A_is_move
  have m_is_move := PySem.W.mg_of X G n_is_move
  have B_is_move := fun base : Heap => ok_is_move (P := l.prog) (w := w) (base := base) F_is_move m_is_move T (B_is_long base) (B_is_number base) (B_is_within base)
  obtain ⟨f_is_row_in, fd_is_row_in, n_is_row_in, F_is_row_in⟩ := A_is_row_in
  have m_is_row_in := PySem.W.mg_of X G n_is_row_in
  have B_is_row_in := fun base : Heap => ok_is_row_in (P := l.prog) (w := w) (base := base) F_is_row_in m_is_row_in T (B_is_move base)
  obtain ⟨f_sure_row, fd_sure_row, n_sure_row, F_sure_row⟩ := A_sure_row
  have m_sure_row := PySem.W.mg_of X G n_sure_row
  have B_sure_row := fun base : Heap => ok_sure_row (P := l.prog) (w := w) (base := base) F_sure_row m_sure_row T (B_tupled base) (B_is_row_in base)
  obtain ⟨f_behind, fd_behind, n_behind, F_behind⟩ := A_behind
  have m_behind := PySem.W.mg_of X G n_behind
  have B_behind := fun base : Heap => ok_behind (P := l.prog) (w := w) (base := base) F_behind m_behind T (B_sure_stand base) (B_behind_in base) (B_sure_row base)
  obtain ⟨f_along_in, fd_along_in, n_along_in, F_along_in⟩ := A_along_in
  have m_along_in := PySem.W.mg_of X G n_along_in
  have B_along_in := fun base : Heap => ok_along_in (P := l.prog) (w := w) (base := base) F_along_in m_along_in T (B_moved_in base)
  obtain ⟨f_stands_along, fd_stands_along, n_stands_along, F_stands_along⟩ := A_stands_along
  have m_stands_along := PySem.W.mg_of X G n_stands_along
  have B_stands_along := fun base : Heap => ok_stands_along (P := l.prog) (w := w) (base := base) F_stands_along m_stands_along T (B_sure_stand base) (B_along_in base) (B_sure_row base)
  obtain ⟨f_shapes_along, fd_shapes_along, n_shapes_along, F_shapes_along⟩ := A_shapes_along
  have m_shapes_along := PySem.W.mg_of X G n_shapes_along
  have B_shapes_along := fun base : Heap => ok_shapes_along (P := l.prog) (w := w) (base := base) F_shapes_along m_shapes_along T (B_stands_along base)
  obtain ⟨f_is_from, fd_is_from, n_is_from, F_is_from⟩ := A_is_from
  have m_is_from := PySem.W.mg_of X G n_is_from
  have B_is_from := fun base : Heap => ok_is_from (P := l.prog) (w := w) (base := base) F_is_from m_is_from T (B_is_number base)
  obtain ⟨f_is_chest, fd_is_chest, n_is_chest, F_is_chest⟩ := A_is_chest
  have m_is_chest := PySem.W.mg_of X G n_is_chest
  have B_is_chest := fun base : Heap => ok_is_chest (P := l.prog) (w := w) (base := base) F_is_chest m_is_chest T (B_is_long base) (B_is_from base)
  obtain ⟨f_sure_chest, fd_sure_chest, n_sure_chest, F_sure_chest⟩ := A_sure_chest
  have m_sure_chest := PySem.W.mg_of X G n_sure_chest
  have B_sure_chest := fun base : Heap => ok_sure_chest (P := l.prog) (w := w) (base := base) F_sure_chest m_sure_chest T (B_tupled base) (B_is_chest base)
  obtain ⟨f_middle_in, fd_middle_in, n_middle_in, F_middle_in⟩ := A_middle_in
  have m_middle_in := PySem.W.mg_of X G n_middle_in
  have B_middle_in := fun base : Heap => ok_middle_in (P := l.prog) (w := w) (base := base) F_middle_in m_middle_in T
  obtain ⟨f_middles_along, fd_middles_along, n_middles_along, F_middles_along⟩ := A_middles_along
  have m_middles_along := PySem.W.mg_of X G n_middles_along
  have B_middles_along := fun base : Heap => ok_middles_along (P := l.prog) (w := w) (base := base) F_middles_along m_middles_along T (B_sure_chest base) (B_sure_stand base) (B_middle_in base) (B_along_in base) (B_sure_row base)
  obtain ⟨f_tips_alone, fd_tips_alone, n_tips_alone, F_tips_alone⟩ := A_tips_alone
  have m_tips_alone := PySem.W.mg_of X G n_tips_alone
  have B_tips_alone := fun base : Heap => ok_tips_alone (P := l.prog) (w := w) (base := base) F_tips_alone m_tips_alone T (B_sure_row base)
  obtain ⟨f_turns_alone, fd_turns_alone, n_turns_alone, F_turns_alone⟩ := A_turns_alone
  have m_turns_alone := PySem.W.mg_of X G n_turns_alone
  have B_turns_alone := fun base : Heap => ok_turns_alone (P := l.prog) (w := w) (base := base) F_turns_alone m_turns_alone T (B_sure_row base)
  obtain ⟨f_how_often, fd_how_often, n_how_often, F_how_often⟩ := A_how_often
  have m_how_often := PySem.W.mg_of X G n_how_often
  have B_how_often := fun base : Heap => ok_how_often (P := l.prog) (w := w) (base := base) F_how_often m_how_often T (B_sure_row base)
  obtain ⟨f_first_met, fd_first_met, n_first_met, F_first_met⟩ := A_first_met
  have m_first_met := PySem.W.mg_of X G n_first_met
  have B_first_met := fun base : Heap => ok_first_met (P := l.prog) (w := w) (base := base) F_first_met m_first_met T (B_sure_stand base) (B_sure_row base) (B_along_in base)
  obtain ⟨f_law_turns, fd_law_turns, n_law_turns, F_law_turns⟩ := A_law_turns
  have m_law_turns := PySem.W.mg_of X G n_law_turns
  have B_law_turns := fun base : Heap => ok_law_turns (P := l.prog) (w := w) (base := base) F_law_turns m_law_turns T
  obtain ⟨f_is_row, fd_is_row, n_is_row, F_is_row⟩ := A_is_row
  have m_is_row := PySem.W.mg_of X G n_is_row
  have B_is_row := fun base : Heap => ok_is_row (P := l.prog) (w := w) (base := base) F_is_row m_is_row T (B_is_row_in base)
  obtain ⟨f_law_by_hand_right, fd_law_by_hand_right, n_law_by_hand_right, F_law_by_hand_right⟩ := A_law_by_hand_right
  have m_law_by_hand_right := PySem.W.mg_of X G n_law_by_hand_right
  have B_law_by_hand_right := fun base : Heap => ok_law_by_hand_right (P := l.prog) (w := w) (base := base) F_law_by_hand_right m_law_by_hand_right T (B_law_same base) (B_law_home base) (B_behind base) (B_shapes_along base) (B_middles_along base) (B_tips_alone base) (B_turns_alone base) (B_how_often base) (B_first_met base) (B_law_turns base) (B_stands_along base) (B_is_row base)
  obtain ⟨f_law_take, fd_law_take, n_law_take, F_law_take⟩ := A_law_take
  have m_law_take := PySem.W.mg_of X G n_law_take
  have B_law_take := fun base : Heap => ok_law_take (P := l.prog) (w := w) (base := base) F_law_take m_law_take T
  obtain ⟨f_law_of, fd_law_of, n_law_of, F_law_of⟩ := A_law_of
  have m_law_of := PySem.W.mg_of X G n_law_of
  have B_law_of := fun base : Heap => ok_law_of (P := l.prog) (w := w) (base := base) F_law_of m_law_of T (B_law_take base)
  obtain ⟨f_law_poses, fd_law_poses, n_law_poses, F_law_poses⟩ := A_law_poses
  have m_law_poses := PySem.W.mg_of X G n_law_poses
  have B_law_poses := fun base : Heap => ok_law_poses (P := l.prog) (w := w) (base := base) F_law_poses m_law_poses T
  obtain ⟨f_law_drawn_spot, fd_law_drawn_spot, n_law_drawn_spot, F_law_drawn_spot⟩ := A_law_drawn_spot
  have m_law_drawn_spot := PySem.W.mg_of X G n_law_drawn_spot
  have B_law_drawn_spot := fun base : Heap => ok_law_drawn_spot (P := l.prog) (w := w) (base := base) F_law_drawn_spot m_law_drawn_spot T (B_law_of base) (B_law_poses base) (B_law_take base)
  obtain ⟨f_law_walk, fd_law_walk, n_law_walk, F_law_walk⟩ := A_law_walk
  have m_law_walk := PySem.W.mg_of X G n_law_walk
  have B_law_walk := fun base : Heap => ok_law_walk (P := l.prog) (w := w) (base := base) F_law_walk m_law_walk T (B_law_of base)
  obtain ⟨f_law_tips, fd_law_tips, n_law_tips, F_law_tips⟩ := A_law_tips
  have m_law_tips := PySem.W.mg_of X G n_law_tips
  have B_law_tips := fun base : Heap => ok_law_tips (P := l.prog) (w := w) (base := base) F_law_tips m_law_tips T
  obtain ⟨f_law_all_steps, fd_law_all_steps, n_law_all_steps, F_law_all_steps⟩ := A_law_all_steps
  have m_law_all_steps := PySem.W.mg_of X G n_law_all_steps
  have B_law_all_steps := fun base : Heap => ok_law_all_steps (P := l.prog) (w := w) (base := base) F_law_all_steps m_law_all_steps T (B_law_tips base) (B_law_turns base)
  obtain ⟨f_law_mixed, fd_law_mixed, n_law_mixed, F_law_mixed⟩ := A_law_mixed
  have m_law_mixed := PySem.W.mg_of X G n_law_mixed
  have B_law_mixed := fun base : Heap => ok_law_mixed (P := l.prog) (w := w) (base := base) F_law_mixed m_law_mixed T (B_law_of base) (B_law_walk base) (B_law_take base) (B_law_tips base) (B_law_turns base) (B_law_all_steps base)
  obtain ⟨f_law_trunk, fd_law_trunk, n_law_trunk, F_law_trunk⟩ := A_law_trunk
  have m_law_trunk := PySem.W.mg_of X G n_law_trunk
  have B_law_trunk := fun base : Heap => ok_law_trunk (P := l.prog) (w := w) (base := base) F_law_trunk m_law_trunk T (B_law_take base)
  obtain ⟨f_law_box_of, fd_law_box_of, n_law_box_of, F_law_box_of⟩ := A_law_box_of
  have m_law_box_of := PySem.W.mg_of X G n_law_box_of
  have B_law_box_of := fun base : Heap => ok_law_box_of (P := l.prog) (w := w) (base := base) F_law_box_of m_law_box_of T
  obtain ⟨f_law_round, fd_law_round, n_law_round, F_law_round⟩ := A_law_round
  have m_law_round := PySem.W.mg_of X G n_law_round
  have B_law_round := fun base : Heap => ok_law_round (P := l.prog) (w := w) (base := base) F_law_round m_law_round T
  obtain ⟨f_law_half, fd_law_half, n_law_half, F_law_half⟩ := A_law_half
  have m_law_half := PySem.W.mg_of X G n_law_half
  have B_law_half := fun base : Heap => ok_law_half (P := l.prog) (w := w) (base := base) F_law_half m_law_half T
  obtain ⟨f_law_rolled, fd_law_rolled, n_law_rolled, F_law_rolled⟩ := A_law_rolled
  have m_law_rolled := PySem.W.mg_of X G n_law_rolled
  have B_law_rolled := fun base : Heap => ok_law_rolled (P := l.prog) (w := w) (base := base) F_law_rolled m_law_rolled T
  obtain ⟨f_law_box_step, fd_law_box_step, n_law_box_step, F_law_box_step⟩ := A_law_box_step
  have m_law_box_step := PySem.W.mg_of X G n_law_box_step
  have B_law_box_step := fun base : Heap => ok_law_box_step (P := l.prog) (w := w) (base := base) F_law_box_step m_law_box_step T (B_law_round base) (B_law_half base) (B_law_rolled base)
  obtain ⟨f_law_digits_of, fd_law_digits_of, n_law_digits_of, F_law_digits_of⟩ := A_law_digits_of
  have m_law_digits_of := PySem.W.mg_of X G n_law_digits_of
  have B_law_digits_of := fun base : Heap => ok_law_digits_of (P := l.prog) (w := w) (base := base) F_law_digits_of m_law_digits_of T
  obtain ⟨f_law_spot_of, fd_law_spot_of, n_law_spot_of, F_law_spot_of⟩ := A_law_spot_of
  have m_law_spot_of := PySem.W.mg_of X G n_law_spot_of
  have B_law_spot_of := fun base : Heap => ok_law_spot_of (P := l.prog) (w := w) (base := base) F_law_spot_of m_law_spot_of T (B_law_digits_of base)
  obtain ⟨f_law_boxed, fd_law_boxed, n_law_boxed, F_law_boxed⟩ := A_law_boxed
  have m_law_boxed := PySem.W.mg_of X G n_law_boxed
  have B_law_boxed := fun base : Heap => ok_law_boxed (P := l.prog) (w := w) (base := base) F_law_boxed m_law_boxed T (B_law_box_of base) (B_law_box_step base) (B_law_spot_of base)
  obtain ⟨f_law_lists, fd_law_lists, n_law_lists, F_law_lists⟩ := A_law_lists
  have m_law_lists := PySem.W.mg_of X G n_law_lists
  have B_law_lists := fun base : Heap => ok_law_lists (P := l.prog) (w := w) (base := base) F_law_lists m_law_lists T 8
  obtain ⟨f_law_right, fd_law_right, n_law_right, F_law_right⟩ := A_law_right
  have m_law_right := PySem.W.mg_of X G n_law_right
  have B_law_right := fun base : Heap => ok_law_right (P := l.prog) (w := w) (base := base) F_law_right m_law_right T (B_law_same base) (B_law_drawn_spot base) (B_law_mixed base) (B_law_trunk base) (B_law_boxed base) (B_law_lists base) (B_behind base) (B_stands_along base) (B_law_box_of base) (B_law_box_step base) (B_shapes_along base) (B_middles_along base) (B_tips_alone base) (B_turns_alone base) (B_is_row base) (B_law_of base) (B_how_often base) (B_first_met base) (B_law_tips base)
  obtain ⟨f_law_box, fd_law_box, n_law_box, F_law_box⟩ := A_law_box
  have m_law_box := PySem.W.mg_of X G n_law_box
  have B_law_box := fun base : Heap => ok_law_box (P := l.prog) (w := w) (base := base) F_law_box m_law_box T
  obtain ⟨f_law, fd_law, n_law, F_law⟩ := A_law
  have m_law := PySem.W.mg_of X G n_law
  cases hfa.symm.trans m_law
  have B_law := fun base : Heap => ok_law (P := l.prog) (w := w) (base := base) F_law m_law T (B_law_cells base) (B_law_by_hand_right base) (B_law_right base) (B_law_box base)
  refine ⟨fd_law, ?_, fun base _ _ => ?_⟩
  · obtain ⟨⟨oc, od, kV, doc, pm, an, cdv, ct, osl, rfl, _, _⟩, _⟩ := F_law
    exact fun s v => .of_eq rfl
  · obtain ⟨f', fd', h1, h2, h3⟩ := (B_law base).ex
    cases m_law.symm.trans h1
    cases fd_one F_law h2
    exact h3
theorem walk {l : PySem.W.OpenLaw} {q : Program} {loose : List Str} {XP : (Str → Option Value) → Heap → Prop} {YP : World → Heap → Prop} {d : DefRec} {K : Params → PySem.W.Frag} (hn : l.most = some 63) (hdf : d.params.defaults = [])
    (hY : ∀ (w : World) (h : Heap), YP w h → (K w.params).In h)
    (F : ∀ (w : World) (mg : Str → Option Value) (fa : Addr) (h : Heap), (K w.params).In h → h.Ns mainGlobals mg → mg d.name = some (.ref fa) →
      ∃ fd : FuncData, (∀ (s : Shared) (u : Value), BindsTo s fd ⟨[u], []⟩ [("_law_script", u)]) ∧ ∀ base : Heap, (K w.params).In base → base.Ns mainGlobals mg → FnOk l.prog w (K w.params) mg base CX0 14 fa fd ["_law_script"] (spD (K w.params) 1 fn_law)) :
    PySem.W.WalkO q loose XP YP l.row.toRowW d [] (fun f vs => PySem.call f vs) :=
  L2.walk_of (n := 63) (k := 14) (x := "_law_script") (CX := fun _ => CX0) (sp := fun w => spD (K w.params) 1 fn_law) hn (by decide) hdf ⟨rfl, by decide, by decide⟩ hY F (fun _ _ _ _ _ _ hS => law_sp hS) fun _ _ _ _ _ z => z
end DL

open PySem PySem.W PyProof.Rows
set_option maxRecDepth 100000 in
set_option maxHeartbeats 0 in
theorem PySem.Challenge.cw_movedchest_k08_whole_rows_by_own_box_holds : PySem.Challenge.rw_movedchest_k08_whole_rows_by_own_box.Holds := by
  w_on; o_law; k_headL; (case hw => w_witness2)
  k_fill
  refine DL.walk (l := PySem.Challenge.rw_movedchest_k08_whole_rows_by_own_box) rfl rfl (fun w h Y => PySem.W.kIn_of Y) ?F
  case F =>
    intro w mg fa h KX G hmg
    refine' DL.all_mk KX G hmg ?A_law_cells ?A_law_same ?A_law_home ?A_tupled ?A_is_long ?A_is_number ?A_is_shape ?A_are_numbers ?A_is_stand ?A_sure_stand ?A_more_at ?A_flipped ?A_tipped_in ?A_turned_in ?A_moved_in ?A_behind_in ?A_is_within ?A_is_move ?A_is_row_in ?A_sure_row ?A_behind ?A_along_in ?A_stands_along ?A_shapes_along ?A_is_from ?A_is_chest ?A_sure_chest ?A_middle_in ?A_middles_along ?A_tips_alone ?A_turns_alone ?A_how_often ?A_first_met ?A_law_turns ?A_is_row ?A_law_by_hand_right ?A_law_take ?A_law_of ?A_law_poses ?A_law_drawn_spot ?A_law_walk ?A_law_tips ?A_law_all_steps ?A_law_mixed ?A_law_trunk ?A_law_box_of ?A_law_round ?A_law_half ?A_law_rolled ?A_law_box_step ?A_law_digits_of ?A_law_spot_of ?A_law_boxed ?A_law_lists ?A_law_right ?A_law_box ?A_law ?RG ?z_isinstance ?z_len ?z_all ?z_tuple ?z_list ?z_sum ?z_abs ?z_int ?z_bool ?z_str ?z_range ?z_zip ?z_enumerate
    case A_law_cells => refine' DL.df_mk ?a ?l ?c ?k; (case a => k_is); (case l => k_is); (case c => k_is); (case k => k_is)
    case A_law_same => refine' DL.df_mk ?a ?l ?c ?k; (case a => k_is); (case l => k_is); (case c => k_is); (case k => k_is)
    case A_law_home => refine' DL.df_mk ?a ?l ?c ?k; (case a => k_is); (case l => k_is); (case c => k_is); (case k => k_is)
    case A_tupled => refine' DL.df_mk ?a ?l ?c ?k; (case a => k_is); (case l => k_is); (case c => k_is); (case k => k_is)
    case A_is_long => refine' DL.df_mk ?a ?l ?c ?k; (case a => k_is); (case l => k_is); (case c => k_is); (case k => k_is)
    case A_is_number => refine' DL.df_mk ?a ?l ?c ?k; (case a => k_is); (case l => k_is); (case c => k_is); (case k => k_is)
    case A_is_shape => refine' DL.df_mk ?a ?l ?c ?k; (case a => k_is); (case l => k_is); (case c => k_is); (case k => k_is)
    case A_are_numbers => refine' DL.df_mk ?a ?l ?c ?k; (case a => k_is); (case l => k_is); (case c => k_is); (case k => k_is)
    case A_is_stand => refine' DL.df_mk ?a ?l ?c ?k; (case a => k_is); (case l => k_is); (case c => k_is); (case k => k_is)
    case A_sure_stand => refine' DL.df_mk ?a ?l ?c ?k; (case a => k_is); (case l => k_is); (case c => k_is); (case k => k_is)
    case A_more_at => refine' DL.df_mk ?a ?l ?c ?k; (case a => k_is); (case l => k_is); (case c => k_is); (case k => k_is)
    case A_flipped => refine' DL.df_mk ?a ?l ?c ?k; (case a => k_is); (case l => k_is); (case c => k_is); (case k => k_is)
    case A_tipped_in => refine' DL.df_mk ?a ?l ?c ?k; (case a => k_is); (case l => k_is); (case c => k_is); (case k => k_is)
    case A_turned_in => refine' DL.df_mk ?a ?l ?c ?k; (case a => k_is); (case l => k_is); (case c => k_is); (case k => k_is)
    case A_moved_in => refine' DL.df_mk ?a ?l ?c ?k; (case a => k_is); (case l => k_is); (case c => k_is); (case k => k_is)
    case A_behind_in => refine' DL.df_mk ?a ?l ?c ?k; (case a => k_is); (case l => k_is); (case c => k_is); (case k => k_is)
    case A_is_within => refine' DL.df_mk ?a ?l ?c ?k; (case a => k_is); (case l => k_is); (case c => k_is); (case k => k_is)
    case A_is_move => refine' DL.df_mk ?a ?l ?c ?k; (case a => k_is); (case l => k_is); (case c => k_is); (case k => k_is)
    case A_is_row_in => refine' DL.df_mk ?a ?l ?c ?k; (case a => k_is); (case l => k_is); (case c => k_is); (case k => k_is)
    case A_sure_row => refine' DL.df_mk ?a ?l ?c ?k; (case a => k_is); (case l => k_is); (case c => k_is); (case k => k_is)
    case A_behind => refine' DL.df_mk ?a ?l ?c ?k; (case a => k_is); (case l => k_is); (case c => k_is); (case k => k_is)
    case A_along_in => refine' DL.df_mk ?a ?l ?c ?k; (case a => k_is); (case l => k_is); (case c => k_is); (case k => k_is)
    case A_stands_along => refine' DL.df_mk ?a ?l ?c ?k; (case a => k_is); (case l => k_is); (case c => k_is); (case k => k_is)
    case A_shapes_along => refine' DL.df_mk ?a ?l ?c ?k; (case a => k_is); (case l => k_is); (case c => k_is); (case k => k_is)
    case A_is_from => refine' DL.df_mk ?a ?l ?c ?k; (case a => k_is); (case l => k_is); (case c => k_is); (case k => k_is)
    case A_is_chest => refine' DL.df_mk ?a ?l ?c ?k; (case a => k_is); (case l => k_is); (case c => k_is); (case k => k_is)
    case A_sure_chest => refine' DL.df_mk ?a ?l ?c ?k; (case a => k_is); (case l => k_is); (case c => k_is); (case k => k_is)
    case A_middle_in => refine' DL.df_mk ?a ?l ?c ?k; (case a => k_is); (case l => k_is); (case c => k_is); (case k => k_is)
    case A_middles_along => refine' DL.df_mk ?a ?l ?c ?k; (case a => k_is); (case l => k_is); (case c => k_is); (case k => k_is)
    case A_tips_alone => refine' DL.df_mk ?a ?l ?c ?k; (case a => k_is); (case l => k_is); (case c => k_is); (case k => k_is)
    case A_turns_alone => refine' DL.df_mk ?a ?l ?c ?k; (case a => k_is); (case l => k_is); (case c => k_is); (case k => k_is)
    case A_how_often => refine' DL.df_mk ?a ?l ?c ?k; (case a => k_is); (case l => k_is); (case c => k_is); (case k => k_is)
    case A_first_met => refine' DL.df_mk ?a ?l ?c ?k; (case a => k_is); (case l => k_is); (case c => k_is); (case k => k_is)
    case A_law_turns => refine' DL.df_mk ?a ?l ?c ?k; (case a => k_is); (case l => k_is); (case c => k_is); (case k => k_is)
    case A_is_row => refine' DL.df_mk ?a ?l ?c ?k; (case a => k_is); (case l => k_is); (case c => k_is); (case k => k_is)
    case A_law_by_hand_right => refine' DL.df_mk ?a ?l ?c ?k; (case a => k_is); (case l => k_is); (case c => k_is); (case k => k_is)
    case A_law_take => refine' DL.df_mk ?a ?l ?c ?k; (case a => k_is); (case l => k_is); (case c => k_is); (case k => k_is)
    case A_law_of => refine' DL.df_mk ?a ?l ?c ?k; (case a => k_is); (case l => k_is); (case c => k_is); (case k => k_is)
    case A_law_poses => refine' DL.df_mk ?a ?l ?c ?k; (case a => k_is); (case l => k_is); (case c => k_is); (case k => k_is)
    case A_law_drawn_spot => refine' DL.df_mk ?a ?l ?c ?k; (case a => k_is); (case l => k_is); (case c => k_is); (case k => k_is)
    case A_law_walk => refine' DL.df_mk ?a ?l ?c ?k; (case a => k_is); (case l => k_is); (case c => k_is); (case k => k_is)
    case A_law_tips => refine' DL.df_mk ?a ?l ?c ?k; (case a => k_is); (case l => k_is); (case c => k_is); (case k => k_is)
    case A_law_all_steps => refine' DL.df_mk ?a ?l ?c ?k; (case a => k_is); (case l => k_is); (case c => k_is); (case k => k_is)
    case A_law_mixed => refine' DL.df_mk ?a ?l ?c ?k; (case a => k_is); (case l => k_is); (case c => k_is); (case k => k_is)
    case A_law_trunk => refine' DL.df_mk ?a ?l ?c ?k; (case a => k_is); (case l => k_is); (case c => k_is); (case k => k_is)
    case A_law_box_of => refine' DL.df_mk ?a ?l ?c ?k; (case a => k_is); (case l => k_is); (case c => k_is); (case k => k_is)
    case A_law_round => refine' DL.df_mk ?a ?l ?c ?k; (case a => k_is); (case l => k_is); (case c => k_is); (case k => k_is)
    case A_law_half => refine' DL.df_mk ?a ?l ?c ?k; (case a => k_is); (case l => k_is); (case c => k_is); (case k => k_is)
    case A_law_rolled => refine' DL.df_mk ?a ?l ?c ?k; (case a => k_is); (case l => k_is); (case c => k_is); (case k => k_is)
    case A_law_box_step => refine' DL.df_mk ?a ?l ?c ?k; (case a => k_is); (case l => k_is); (case c => k_is); (case k => k_is)
    case A_law_digits_of => refine' DL.df_mk ?a ?l ?c ?k; (case a => k_is); (case l => k_is); (case c => k_is); (case k => k_is)
    case A_law_spot_of => refine' DL.df_mk ?a ?l ?c ?k; (case a => k_is); (case l => k_is); (case c => k_is); (case k => k_is)
    case A_law_boxed => refine' DL.df_mk ?a ?l ?c ?k; (case a => k_is); (case l => k_is); (case c => k_is); (case k => k_is)
    case A_law_lists => refine' DL.df_mk ?a ?l ?c ?k; (case a => k_is); (case l => k_is); (case c => k_is); (case k => k_is)
    case A_law_right => refine' DL.df_mk ?a ?l ?c ?k; (case a => k_is); (case l => k_is); (case c => k_is); (case k => k_is)
    case A_law_box => refine' DL.df_mk ?a ?l ?c ?k; (case a => k_is); (case l => k_is); (case c => k_is); (case k => k_is)
    case A_law => refine' DL.df_mk ?a ?l ?c ?k; (case a => k_is); (case l => k_is); (case c => k_is); (case k => k_is)
    case RG => refine' DL.ring_mk ?r ?l (DL.tup3_mk ?h1) (DL.tup3_mk ?h2) (DL.tup3_mk ?h3) (DL.tup3_mk ?h4) (DL.tup3_mk ?h5) (DL.tup3_mk ?h6); (case r => k_is); (case l => k_is); (case h1 => k_is); (case h2 => k_is); (case h3 => k_is); (case h4 => k_is); (case h5 => k_is); (case h6 => k_is)
    case z_isinstance => k_is
    case z_len => k_is
    case z_all => k_is
    case z_tuple => k_is
    case z_list => k_is
    case z_sum => k_is
    case z_abs => k_is
    case z_int => k_is
    case z_bool => k_is
    case z_str => k_is
    case z_range => k_is
    case z_zip => k_is
    case z_enumerate => k_is
