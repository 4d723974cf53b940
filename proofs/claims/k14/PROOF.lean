import PyProof.Rows.All
import Wide.All
import OpenK.AllK
import Wide.FinOn
import HandS.ForMost
import HandS.Flow
import HandS.Wide
import HandS.Conv
import HandS.TupAny
import HandS.TupMul
import HandS.Gcd
import HandS.IsInst
import HandS.SortInts
import HandS.Style
import HandS.Zip
import HandS.Deep
import PyProof.ReprRoads
import PyProof.CallFns
import KE.GoesMore
import HandS.Dict
import HandS.SetFor
import PyProof.TupleOfSeq
import KE.KMathGC
import KE.DataFind
import HandS.TupLe
import HandS.TupSets
import KE.SortData
import PyProof.SumWalkG
import PyProof.WalksMore
import KE.DataMinMax
import KE.GoesZip
import HandS.Rev
import PySem.Challenge.RW_anydraws_k14_whole_tables_of_boxes
set_option Elab.async false
set_option linter.all false
set_option maxRecDepth 100000
set_option maxHeartbeats 4000000
/-! new tuples that are known to have no dict: laid down frozen -/
namespace DL
open PySem PySem.Spec PyProof.Rows L2
/-- the tuple's object -/
abbrev tupObj (its : List Value) : Obj := { cls := .type "tuple", data := .seq its.toArray }
def NoD (K : PySem.W.Frag) (H : Hp) (a : Addr) : Prop := (∃ o u, H a = some (.frz o u) ∧ o.dict = none) ∨ ∃ o, K.lookup a = some o ∧ o.dict = none
section
variable {X : Cx} {pins : List (Addr × Obj)} {σ : L2.St} {H : Hp} {s : Shared}
theorem inv_newTup {h' : Heap} {tk : Nat} {xs : List V} {its : List Value} (I : Inv X pins σ H { s with heap := h', toks := tk }) (hz : xs.length ≤ sizeLine) (r : Vals xs its) :
    Inv X pins σ (upd H h'.objs.size (.frz (tupObj its) (.tup xs))) { s with heap := h'.push (tupObj its), toks := tk } :=
  I.laid (t' := tk) (o := .frz (tupObj its) (.tup xs)) (fun b ob q => Heap.get?_push_of_some _ q) (Nat.le_refl _) ⟨Heap.get?_push_size _ rfl, hz, its, r, IsTup.new _ _⟩
/-- what is known of a new tuple -/
def NewT (Q : VK) (H : Hp) (xs : List V) : Prop := ∀ p o, H p = none → o.dict = none → Q (.ref p) (upd H p (.frz o (.tup xs)))
variable {e a : Expr} {es : List Expr} {t : TA} {ta : TE} {p pos : Pos} {Q : VK}
def tTupF (t : TA) : TE := fun σ H Q => t σ H fun xs H1 => xs.length ≤ sizeLine ∧ NewT Q H1 xs
theorem pe_tupF {x1} (h : PA X es t) : PE X (.Tuple es x1 pos) (tTupF t) := by
  refine ⟨fun pins s σ H Q I hq => ?_⟩
  refine wpAny_Tuple_spliced (thn (h.run pos pins s σ H _ I hq) fun us s1 ⟨xs, H1, I1, r, z, q⟩ => ⟨by rw [← r.length]; exact z, ?_⟩)
  exact ⟨.ref _, _, inv_newTup (tk := s1.toks) I1 z r, rfl, q _ _ (I1.hok.fresh (Nat.le_refl _)) rfl⟩
def rCatF (K : PySem.W.Frag) : R2 := fun x y H Q => ∃ a b xs ys, x = .ref a ∧ y = .ref b ∧ SqT K H a xs ∧ SqT K H b ys ∧ xs.length + ys.length ≤ sizeLine ∧
  (xs = [] → Q (.ref b) H) ∧ (xs ≠ [] → ys = [] → Q (.ref a) H) ∧ (xs ≠ [] → ys ≠ [] → NewT Q H (xs ++ ys))
theorem op_catF : OpR X (binaryOp .Add) (rCatF X.K) := by
  intro pins s σ H x y v u Q I rx ry h
  obtain ⟨a, b, xs, ys, rfl, rfl, ha, hb, hz, q0, q1, q2⟩ := h
  cases rx
  cases ry
  obtain ⟨its, r1, p1, _⟩ := I.tuple ha
  obtain ⟨its2, r2, p2, _⟩ := I.tuple hb
  by_cases hx : xs = []
  · subst hx
    cases r1
    exact cat_tup0 p1 p2 ⟨.ref b, H, I, rfl, q0 rfl⟩
  · have l1 := r1.length
    have l2 := r2.length
    refine HT.cat_tup p1 p2 (fun z => hx (r1.nil_iff.mp z)) (fun z => ⟨.ref a, H, I, rfl, q1 hx (r2.nil_iff.mp z)⟩) (fun z => ?_) (by omega)
    exact ⟨.ref _, _, inv_newTup (tk := s.toks) I (by rw [List.length_append]; exact hz) (r1.append r2), rfl, q2 hx (fun w => z (r2.nil_iff.mpr w)) _ _ (I.hok.fresh (Nat.le_refl _)) rfl⟩
def rSlF (K : PySem.W.Frag) : V → Option Int → Option Int → Hp → VK → Prop := fun x lo hi H Q => ∃ a xs, x = .ref a ∧ SqT K H a xs ∧
  (HT.sIx xs.length 0 lo = 0 ∧ HT.sIx xs.length xs.length hi = xs.length → Q (.ref a) H) ∧ (¬ (HT.sIx xs.length 0 lo = 0 ∧ HT.sIx xs.length xs.length hi = xs.length) → NewT Q H (cutV xs lo hi))
theorem sl_tupF : SlR X (rSlF X.K) := by
  intro pins s σ H x v vl vu lo hi sl Q I rx hs pl pu h
  obtain ⟨a, xs, rfl, hx, q1, q2⟩ := h
  by_cases hw : HT.sIx xs.length 0 lo = 0 ∧ HT.sIx xs.length xs.length hi = xs.length
  · exact sl_tupA pins s σ H _ v vl vu lo hi sl Q I rx hs pl pu ⟨a, xs, rfl, hx, q1, fun z => absurd hw z⟩
  · cases rx
    obtain ⟨its, r, ht, hz⟩ := I.tuple hx
    have hlen : its.toArray.size = xs.length := by rw [List.size_toArray]; exact r.length.symm
    refine ⟨"tuple", _, PyProof.Rows.slot_tuple_getitem.lookup, ht.typeIs, ?_⟩
    refine HT.getItem_tuple_cut ht hs pl pu (by rw [hlen]; exact hw) ?_ (by rw [hlen]; exact hz)
    rw [hlen]
    exact ⟨.ref _, _, inv_newTup (tk := s.toks) I (Nat.le_trans (cutV_length xs lo hi) hz) ((r.drop (HT.sIx xs.length 0 lo)).take (HT.sIx xs.length xs.length hi - HT.sIx xs.length 0 lo)), rfl, q2 hw _ _ (I.hok.fresh (Nat.le_refl _)) rfl⟩
def rTupOfF (K : PySem.W.Frag) : List V → Hp → VK → Prop := fun xs H Q => ∃ p ys, xs = [.ref p] ∧ ((SqL K H p ys ∧ NewT Q H ys) ∨ (SqT K H p ys ∧ Q (.ref p) H))
theorem call_tupleF : CallR X (.type "tuple") (rTupOfF X.K) := by
  intro pins s σ H xs us Q I r h
  obtain ⟨p, ys, rfl, h⟩ := h
  obtain ⟨u, rfl, rx⟩ := vals1 r
  cases rx
  rcases h with ⟨hq, q⟩ | ⟨hq, q⟩
  · obtain ⟨its, r', pl, hz⟩ := I.list hq
    have hlen := r'.length
    refine call_tuple_list pl.isList (fun h' kp => ?_) (by simp only [List.size_toArray] <;> omega)
    have I1 : Inv X pins σ H { s with heap := h' } := I.kept (t' := s.toks) kp
    exact ⟨.ref _, _, inv_newTup (tk := s.toks) I1 hz r', rfl, q _ _ (I1.hok.fresh (Nat.le_refl _)) rfl⟩
  · obtain ⟨its, r', pl, hz⟩ := I.tuple hq
    exact call_tuple_same pl ⟨.ref p, H, I, rfl, q⟩
def tTupRgF (te : L2.St → Hp → (Int → Int → Hp → Prop) → Prop) : TE := fun σ H Q => te σ H fun a b H1 => RgOk a b ∧ NewT Q H1 (rgV a b)
theorem pe_tupRgF {te : L2.St → Hp → (Int → Int → Hp → Prop) → Prop} (hc : X.calm = true) (hg : Gl X "tuple") (hm : X.mg "tuple" = none) (he : PRg X e te) (na : starEach [e] X.env = (false, eval e X.env) :: starEach [] X.env := by rfl) : PE X (.Call (.Name "tuple" p) [e] [] pos) (tTupRgF te) := by
  refine ⟨fun pins s σ H Q I h => ?_⟩
  refine Call_ (ld_blt I hg hm boot_tuple (PyProof.Rows.callWith_type1 (args_cons (thn (he pins s σ H _ I h) fun x s1 ⟨r, a, b, t, u, v, H1, ex, hr, I1, ok, q⟩ => args_nil ?_) na) na))
  subst ex
  obtain ⟨b1, b2, b3, b4, b5⟩ := ok
  refine call_tuple_range (n := (b - a).toNat) (I1.ok.hd hc) hr (small_one b1 b2 b3 b4) (rangeSize_nat a b) b5 fun h' tk acc hk hi => ?_
  have I2 : Inv X pins σ H1 { s1 with heap := h', toks := tk } := I1.kept hk
  have I3 := inv_newTup (its := acc.toList) I2 (by rw [rgV_length, sizeLine_eq]; omega) (vals_rg hi)
  simp only [tupObj, Array.toArray_toList] at I3
  exact ⟨.ref _, _, I3, rfl, q _ _ (I2.hok.fresh (Nat.le_refl _)) rfl⟩
def rRepF (K : PySem.W.Frag) : R2 := fun x y H Q => ∃ l k xs, x = .ref l ∧ y = .int k ∧ SqT K H l xs ∧ xs ≠ [] ∧ 2 ≤ k ∧ k ≤ 1000 ∧ xs.length ≤ 1000 ∧ NewT Q H (List.replicate k.toNat xs).flatten
theorem op_repF : OpR X (binaryOp .Mult) (rRepF X.K) := by
  intro pins s σ H x y v u Q I rx ry h
  obtain ⟨l, k, xs, rfl, rfl, hT, hne, h1, h2, hz, q⟩ := h
  cases rx
  obtain ⟨t, rfl⟩ := ry
  obtain ⟨its, r, ⟨⟨cls, dd, data, sl⟩, ho, hc, n, hd⟩, hs⟩ := I.tuple hT
  simp only at hc hd
  subst hc hd
  have hle := r.length
  have hi : its.toArray.isEmpty = false := by
    cases its with
    | nil => exact absurd (List.eq_nil_of_length_eq_zero hle) hne
    | cons a b => rfl
  have hsz0 : its.toArray.size = xs.length := by rw [List.size_toArray, hle]
  have hm : ((its.toArray.size : Nat) : Int) * k ≤ 1000000 := by
    rw [hsz0]
    exact Int.le_trans (Int.mul_le_mul_of_nonneg_right (show (xs.length : Int) ≤ 1000 by omega) (by omega)) (by omega)
  have big : k.toNat * xs.length ≤ 1000 * 1000 := Nat.mul_le_mul (by omega) hz
  have flen : (List.replicate k.toNat its).flatten.length ≤ sizeLine := by
    rw [PyProof.Rows.lm_len_rep_flat, ← hle, sizeLine_eq]; omega
  have c0 : (decide (k < -(2 ^ 63)) || decide (k ≥ 2 ^ 63)) = false := by
    rw [decide_eq_false (by omega), decide_eq_false (by omega)]; rfl
  have c1 : (its.toArray.isEmpty || k == 1) = false := by
    rw [hi, Bool.false_or]
    exact beq_eq_false_iff_ne.mpr (by omega)
  have c2 : (decide (k ≤ 0) || its.toArray.isEmpty) = false := by
    rw [hi, Bool.or_false]
    exact decide_eq_false (by omega)
  have c4 : Builtin.Tuple.tupleTooMany (((its.toArray.size : Nat) : Int) * k) = false := by
    unfold Builtin.Tuple.tupleTooMany
    rw [sizeLine_eq]
    exact decide_eq_false (by omega)
  refine wpAny_binaryOp_repeat_ref (T := "tuple") (U := "int") (by decide) ⟨_, ho, rfl⟩ (fun s' => typeIs_int s' k t) noFill_tuple_mul F.fills_int_mul F.slot_int_rmul repeat_tuple F.slot_int_index.lookup
    (call_meets F.slot_int_rmul (typeIs_int s k t) F.entry_int_rmul (F.args_int_rmul_2 _ _) (int_rmul_tuple k t l its.toArray n dd sl)
      ⟨ho, rfl, ⟨_, ho, rfl⟩, call_meets F.slot_tuple_mul ⟨_, ho, rfl⟩ F.entry_tuple_mul (F.args_tuple_mul_2 _ _) (tuple_mulW l its.toArray n dd sl k t c0 c1 c2 (by omega) c4 (by rw [size_rep, List.size_toArray]; exact flen)) ⟨ho, ?_⟩⟩)
  rw [size_rep]
  exact ⟨.ref _, _, inv_newTup (tk := s.toks) I (by rw [PyProof.Rows.lm_len_rep_flat, sizeLine_eq]; omega) (r.rep k.toNat), rfl, q _ _ (I.hok.fresh (Nat.le_refl _)) rfl⟩
end
end DL
namespace DL
open PySem PySem.Spec PyProof.Rows L2

/-! ### data -/
inductive D where
  | non | bl (b : Bool) | int (i : Int) | str (x : Str) | lst (xs : List D) | tup (xs : List D) | dic (es : List (Key × D)) | obj (a : Addr) | ty (n : String) | fls (xs : List D) | pr (xs : List D) | rg (lo hi : Int)

mutual
inductive Dv (K : PySem.W.Frag) (H : Hp) : V → D → Prop
  | non : Dv K H .non .non
  | bl (b : Bool) : Dv K H (.bl b) (.bl b)
  | int (i : Int) : Dv K H (.int i) (.int i)
  | str (x : Str) : Dv K H (.str x) (.str x)
  | lst {a : Addr} {xs : List V} {ds : List D} : H a = some (.lst xs) → DvAll K H xs ds → Dv K H (.ref a) (.lst ds)
  | tup {a : Addr} {xs : List V} {ds : List D} : SqT K H a xs → NoD K H a → DvAll K H xs ds → Dv K H (.ref a) (.tup ds)
  | pr {a : Addr} {xs : List V} {ds : List D} : SqT K H a xs → DvAll K H xs ds → Dv K H (.ref a) (.pr ds)
  | dic {a : Addr} {kvs : List (Key × V)} {es : List (Key × D)} : H a = some (.dK kvs) → kvs.map (·.1) = es.map (·.1) → DvAll K H (kvs.map (·.2)) (es.map (·.2)) → Dv K H (.ref a) (.dic es)
  | obj (a : Addr) : Dv K H (.ref a) (.obj a)
  | ty (n : String) : Dv K H (.ty n) (.ty n)
  | fls {a : Addr} {xs : List V} {ds : List D} : SqL K H a xs → DvAll K H xs ds → Dv K H (.ref a) (.fls ds)
  | rg {a : Addr} {lo hi : Int} : H a = some (.rng lo hi) → Dv K H (.ref a) (.rg lo hi)
inductive DvAll (K : PySem.W.Frag) (H : Hp) : List V → List D → Prop
  | nil : DvAll K H [] []
  | cons {v : V} {vs : List V} {d : D} {ds : List D} : Dv K H v d → DvAll K H vs ds → DvAll K H (v :: vs) (d :: ds)
end

theorem Same.seqT {K : PySem.W.Frag} {H H' : Hp} {a : Addr} {xs : List V} (e : Same H H') (h : SqT K H a xs) : SqT K H' a xs := by
  rcases h with (h | ⟨o, h⟩) | h
  · exact .inl (.inl (e _ _ h))
  · exact .inl (.inr ⟨o, e _ _ h⟩)
  · exact .inr h
theorem Same.noD {K : PySem.W.Frag} {H H' : Hp} {a : Addr} (e : Same H H') (h : NoD K H a) : NoD K H' a := by
  rcases h with ⟨o, u, h, hd⟩ | h
  · exact .inl ⟨o, u, e _ _ h, hd⟩
  · exact .inr h
mutual
theorem Dv.mono {K : PySem.W.Frag} {H H' : Hp} (s : Same H H') : ∀ {v : V} {d : D}, Dv K H v d → Dv K H' v d
  | _, _, .non => .non
  | _, _, .bl b => .bl b
  | _, _, .int b => .int b
  | _, _, .str b => .str b
  | _, _, .lst h a => .lst (s _ _ h) (DvAll.mono s a)
  | _, _, .tup h n a => .tup (Same.seqT s h) (Same.noD s n) (DvAll.mono s a)
  | _, _, .pr h a => .pr (Same.seqT s h) (DvAll.mono s a)
  | _, _, .dic h e a => .dic (s _ _ h) e (DvAll.mono s a)
  | _, _, .obj a => .obj a
  | _, _, .ty n => .ty n
  | _, _, .fls h a => .fls (s.seq h) (DvAll.mono s a)
  | _, _, .rg h => .rg (s _ _ h)
theorem DvAll.mono {K : PySem.W.Frag} {H H' : Hp} (s : Same H H') : ∀ {v : List V} {d : List D}, DvAll K H v d → DvAll K H' v d
  | _, _, .nil => .nil
  | _, _, .cons h a => .cons (Dv.mono s h) (DvAll.mono s a)
end
section
variable {K : PySem.W.Frag} {H H' : Hp}
theorem DvAll.length : ∀ {v : List V} {d : List D}, DvAll K H v d → v.length = d.length
  | _, _, .nil => rfl
  | _, _, .cons _ a => by simp [DvAll.length a]
theorem DvAll.get : ∀ {v : List V} {d : List D} {i : Nat} {x : D}, DvAll K H v d → d[i]? = some x → ∃ u, v[i]? = some u ∧ Dv K H u x
  | _, _, _, _, .nil, e => by simp at e
  | _, _, 0, _, .cons h _, e => by simp at e; subst e; exact ⟨_, rfl, h⟩
  | _, _, i + 1, _, .cons _ a, e => by
    obtain ⟨u, h1, h2⟩ := DvAll.get (i := i) a (by simpa using e)
    exact ⟨u, by simpa using h1, h2⟩
theorem DvAll.getV : ∀ {v : List V} {d : List D} {i : Nat} {u : V}, DvAll K H v d → v[i]? = some u → ∃ x, d[i]? = some x ∧ Dv K H u x
  | _, _, _, _, .nil, e => by simp at e
  | _, _, 0, _, .cons h _, e => by simp at e; subst e; exact ⟨_, rfl, h⟩
  | _, _, i + 1, _, .cons _ a, e => by
    obtain ⟨u, h1, h2⟩ := DvAll.getV (i := i) a (by simpa using e)
    exact ⟨u, by simpa using h1, h2⟩
theorem DvAll.append : ∀ {v w : List V} {d e : List D}, DvAll K H v d → DvAll K H w e → DvAll K H (v ++ w) (d ++ e)
  | _, _, _, _, .nil, s => s
  | _, _, _, _, .cons r t, s => .cons r (DvAll.append t s)
theorem DvAll.take : ∀ {v : List V} {d : List D} (n : Nat), DvAll K H v d → DvAll K H (v.take n) (d.take n)
  | _, _, 0, _ => .nil
  | _, _, _ + 1, .nil => .nil
  | _, _, n + 1, .cons r t => .cons r (DvAll.take n t)
theorem DvAll.drop : ∀ {v : List V} {d : List D} (n : Nat), DvAll K H v d → DvAll K H (v.drop n) (d.drop n)
  | _, _, 0, r => r
  | _, _, _ + 1, .nil => .nil
  | _, _, n + 1, .cons _ t => DvAll.drop n t
theorem DvAll.set {x : V} {u : D} (r : Dv K H x u) : ∀ {v : List V} {d : List D} (i : Nat), DvAll K H v d → DvAll K H (v.set i x) (d.set i u)
  | _, _, _, .nil => .nil
  | _, _, 0, .cons _ t => .cons r t
  | _, _, i + 1, .cons q t => .cons q (DvAll.set r i t)
theorem DvAll.reverse : ∀ {v : List V} {d : List D}, DvAll K H v d → DvAll K H v.reverse d.reverse
  | _, _, .nil => .nil
  | _, _, .cons q t => by simp only [List.reverse_cons]; exact (DvAll.reverse t).append (.cons q .nil)
theorem DvAll.eraseIdx : ∀ {v : List V} {d : List D} (i : Nat), DvAll K H v d → DvAll K H (v.eraseIdx i) (d.eraseIdx i)
  | _, _, _, .nil => by simp; exact .nil
  | _, _, 0, .cons q t => by simpa using t
  | _, _, i + 1, .cons q t => by simpa using .cons q (DvAll.eraseIdx i t)
theorem DvAll.dropLast {v : List V} {d : List D} (h : DvAll K H v d) : DvAll K H v.dropLast d.dropLast := by
  rw [List.dropLast_eq_take, List.dropLast_eq_take, h.length]; exact h.take _
theorem DvAll.rep {v : List V} {d : List D} (h : DvAll K H v d) : ∀ n : Nat, DvAll K H (List.replicate n v).flatten (List.replicate n d).flatten
  | 0 => .nil
  | n + 1 => by simp only [List.replicate_succ, List.flatten_cons]; exact h.append (DvAll.rep h n)
theorem DvAll.one {v : V} {d : D} (h : Dv K H v d) : DvAll K H [v] [d] := .cons h .nil
/-- ints, bools of a list -/
theorem DvAll.ints : ∀ {v : List V} {ns : List Int}, DvAll K H v (ns.map D.int) → v = ns.map V.int
  | _, [], h => by cases h; rfl
  | _, n :: ns, h => by
    cases h with
    | cons a b => cases a; rw [DvAll.ints b]; rfl
theorem DvAll.bls : ∀ {v : List V} {ns : List Bool}, DvAll K H v (ns.map D.bl) → v = ns.map V.bl
  | _, [], h => by cases h; rfl
  | _, n :: ns, h => by
    cases h with
    | cons a b => cases a; rw [DvAll.bls b]; rfl
theorem DvAll.of_ints : ∀ (ns : List Int), DvAll K H (ns.map V.int) (ns.map D.int)
  | [] => .nil
  | n :: ns => .cons (.int n) (DvAll.of_ints ns)
end

/-! ### masks -/
def mask (H : Hp) (ms : List Addr) : Hp := fun a => if a ∈ ms then none else H a
theorem mask_some {H : Hp} {ms : List Addr} {a : Addr} {o : HO} : mask H ms a = some o ↔ a ∉ ms ∧ H a = some o := by
  unfold mask; by_cases h : a ∈ ms <;> simp [h]
theorem mask_sub {H : Hp} {ms : List Addr} : Same (mask H ms) H := fun a o h => (mask_some.mp h).2
theorem mask_upd {H : Hp} {ms : List Addr} {p : Addr} {o : HO} (h : p ∈ ms) : mask (upd H p o) ms = mask H ms := by
  funext a
  unfold mask
  by_cases ha : a ∈ ms
  · simp [ha]
  · have : a ≠ p := fun e => ha (e ▸ h)
    simp [ha, upd_ne this]
def Ext (ms : List Addr) (H : Hp) (ms' : List Addr) (H' : Hp) : Prop := ∀ a o, a ∉ ms → H a = some o → a ∉ ms' ∧ H' a = some o
theorem Ext.same {ms ms' : List Addr} {H H' : Hp} (e : Ext ms H ms' H') : Same (mask H ms) (mask H' ms') := fun a o h => by
  obtain ⟨h1, h2⟩ := mask_some.mp h
  exact mask_some.mpr (e a o h1 h2)
theorem Ext.refl {ms : List Addr} {H : Hp} : Ext ms H ms H := fun _ _ h1 h2 => ⟨h1, h2⟩
theorem Ext.trans {m1 m2 m3 : List Addr} {H1 H2 H3 : Hp} (a : Ext m1 H1 m2 H2) (b : Ext m2 H2 m3 H3) : Ext m1 H1 m3 H3 := fun x o h1 h2 => by
  obtain ⟨q1, q2⟩ := a x o h1 h2
  exact b x o q1 q2
theorem Ext.of_same {ms : List Addr} {H H' : Hp} (s : Same H H') : Ext ms H ms H' := fun a o h1 h2 => ⟨h1, s a o h2⟩
theorem same_upd {H : Hp} {p : Addr} {o : HO} (h : H p = none) : Same H (upd H p o) := fun b x e => by
  rw [upd_ne (ne_of_none e h)]
  exact e

/-! ### slots -/
inductive Sl where
  | fz (d : D) | ow (ds : List D) | bo (ds : List D)
abbrev DE := List (Option Sl)
inductive Ar where
  | d (x : D) | sl (i : Nat)

structure Gm where
  H0 : Hp
  ms0 : List Addr
  bor : Nat → Option Addr

def SlP (K : PySem.W.Frag) (G : Gm) (ms : List Addr) (H : Hp) (σ : L2.St) (i : Nat) : Sl → Prop
  | .fz d => ∃ v, σ[i]? = some (some v) ∧ Dv K (mask H ms) v d
  | .ow ds => ∃ p xs, σ[i]? = some (some (.ref p)) ∧ p ∈ ms ∧ p ∉ G.ms0 ∧ H p = some (.lst xs) ∧ DvAll K (mask H ms) xs ds
  | .bo ds => ∃ p xs, σ[i]? = some (some (.ref p)) ∧ G.bor i = some p ∧ H p = some (.lst xs) ∧ DvAll K (mask H ms) xs ds

structure Rp (K : PySem.W.Frag) (G : Gm) (ms : List Addr) (H : Hp) (σ : L2.St) (δ : DE) : Prop where
  len : σ.length = δ.length
  ms0 : ∀ a ∈ G.ms0, a ∈ ms
  new : ∀ a ∈ ms, a ∈ G.ms0 ∨ G.H0 a = none
  here : ∀ a ∈ ms, H a ≠ none
  keep : ∀ (a : Addr) (o : HO), G.H0 a = some o → (∀ i : Nat, G.bor i ≠ some a) → H a = some o
  borm : ∀ (i : Nat) (a : Addr), G.bor i = some a → a ∈ G.ms0
  bori : ∀ (i j : Nat) (a : Addr), G.bor i = some a → G.bor j = some a → i = j
  slot : ∀ (i : Nat) (s : Sl), δ[i]? = some (some s) → SlP K G ms H σ i s
  inj : ∀ (i j : Nat) (ds es : List D) (p : Addr), δ[i]? = some (some (.ow ds)) → δ[j]? = some (some (.ow es)) → σ[i]? = some (some (.ref p)) → σ[j]? = some (some (.ref p)) → i = j
  bod : ∀ (i : Nat) (a : Addr), G.bor i = some a → ∃ ds : List D, δ[i]? = some (some (.bo ds))

section
variable {K : PySem.W.Frag} {G : Gm} {ms ms' : List Addr} {H H' : Hp} {σ σ' : L2.St} {δ δ' : DE}
theorem Rp.fresh (R : Rp K G ms H σ δ) {p : Addr} (h : H p = none) : p ∉ ms := fun hp => R.here p hp h
theorem Rp.fresh0 (R : Rp K G ms H σ δ) {p : Addr} (h : H p = none) : G.H0 p = none := by
  cases q : G.H0 p with
  | none => rfl
  | some o =>
    by_cases hb : ∃ i, G.bor i = some p
    · obtain ⟨i, e⟩ := hb
      exact absurd h (R.here p (R.ms0 p (R.borm i p e)))
    · have := R.keep p o q fun i e => hb ⟨i, e⟩
      rw [h] at this; cases this
theorem SlP.same {i : Nat} {s : Sl} (h : SlP K G ms H σ i s) (e : Same H H') : SlP K G ms H' σ i s := by
  have m : Same (mask H ms) (mask H' ms) := (Ext.of_same (ms := ms) e).same
  cases s with
  | fz d => obtain ⟨v, a, b⟩ := h; exact ⟨v, a, b.mono m⟩
  | ow ds => obtain ⟨p, xs, a, b, c, d, f⟩ := h; exact ⟨p, xs, a, b, c, e _ _ d, f.mono m⟩
  | bo ds => obtain ⟨p, xs, a, b, d, f⟩ := h; exact ⟨p, xs, a, b, e _ _ d, f.mono m⟩
theorem Rp.same (R : Rp K G ms H σ δ) (e : Same H H') : Rp K G ms H' σ δ := by
  refine ⟨R.len, R.ms0, R.new, fun a ha q => ?_, fun a o h hb => e _ _ (R.keep a o h hb), R.borm, R.bori, fun i s h => (R.slot i s h).same e, R.inj, R.bod⟩
  cases h : H a with
  | none => exact R.here a ha h
  | some o => rw [e a o h] at q; cases q
/-- a slot forgotten; a slot set -/
theorem get_set {α : Type} {l : List α} {i j : Nat} {x y : α} (h : (l.set i x)[j]? = some y) : (j = i ∧ y = x) ∨ (j ≠ i ∧ l[j]? = some y) := by
  by_cases e : j = i
  · subst e
    rw [List.getElem?_set_self'] at h
    cases q : l[j]? with
    | none => rw [q] at h; cases h
    | some z => rw [q] at h; simp at h; exact .inl ⟨rfl, h.symm⟩
  · rw [List.getElem?_set_ne (Ne.symm e)] at h
    exact .inr ⟨e, h⟩
def notBo (δ : DE) (i : Nat) : Bool := match δ[i]? with
  | some (some (.bo _)) => false
  | some _ => true
  | none => false
theorem set_self {α : Type} {l : List α} {i : Nat} {x : α} (h : i < l.length) : (l.set i x)[i]? = some x := by
  rw [List.getElem?_set_self h]
theorem notBo_lt {i : Nat} (h : notBo δ i = true) : i < δ.length := by
  unfold notBo at h
  cases q : δ[i]? with
  | none => rw [q] at h; cases h
  | some z => exact (List.getElem?_eq_some_iff.mp q).1
theorem SlP.keepS {i j : Nat} {s : Sl} {x : Option V} (h : SlP K G ms H σ j s) (hij : j ≠ i) : SlP K G ms H (σ.set i x) j s := by
  have e : (σ.set i x)[j]? = σ[j]? := List.getElem?_set_ne (Ne.symm hij)
  cases s with
  | fz d => obtain ⟨v, a, b⟩ := h; exact ⟨v, e.trans a, b⟩
  | ow ds => obtain ⟨p, xs, a, b, c, d, f⟩ := h; exact ⟨p, xs, e.trans a, b, c, d, f⟩
  | bo ds => obtain ⟨p, xs, a, b, d, f⟩ := h; exact ⟨p, xs, e.trans a, b, d, f⟩
theorem bod_set {bor : Nat → Option Addr} {i : Nat} {x : Option Sl} (h : ∀ (i : Nat) (a : Addr), bor i = some a → ∃ ds : List D, δ[i]? = some (some (.bo ds))) (hi : ∀ ds : List D, δ[i]? ≠ some (some (.bo ds))) : ∀ (j : Nat) (a : Addr), bor j = some a → ∃ ds : List D, (δ.set i x)[j]? = some (some (.bo ds)) := fun j a e => by
  obtain ⟨ds, z⟩ := h j a e
  exact ⟨ds, by rw [List.getElem?_set_ne (fun q : i = j => hi ds (by rw [q]; exact z))]; exact z⟩
theorem notBo_ne {i : Nat} (h : notBo δ i = true) : ∀ ds : List D, δ[i]? ≠ some (some (.bo ds)) := fun ds z => by
  unfold notBo at h
  rw [z] at h; cases h
theorem Rp.setFz {i : Nat} {v : V} {d : D} (R : Rp K G ms H σ δ) (hi : notBo δ i = true) (h : Dv K (mask H ms) v d) : Rp K G ms H (σ.set i (some v)) (δ.set i (some (.fz d))) := by
  have hl := notBo_lt hi
  refine ⟨by simp [R.len], R.ms0, R.new, R.here, R.keep, R.borm, R.bori, fun j s e => ?_, fun j k ds es p e1 e2 e3 e4 => ?_, bod_set R.bod (notBo_ne hi)⟩
  · rcases get_set e with ⟨ei, ev⟩ | ⟨hn, e⟩
    · subst ei; cases ev
      exact ⟨v, set_self (by rw [R.len]; exact hl), h⟩
    · exact (R.slot j s e).keepS hn
  · rcases get_set e1 with ⟨ei, ev⟩ | ⟨hn, e1⟩
    · cases ev
    · rcases get_set e2 with ⟨ei, ev⟩ | ⟨hm, e2⟩
      · cases ev
      · rw [List.getElem?_set_ne (Ne.symm hn)] at e3
        rw [List.getElem?_set_ne (Ne.symm hm)] at e4
        exact R.inj j k ds es p e1 e2 e3 e4
theorem Rp.forget {i : Nat} {x : Option V} (R : Rp K G ms H σ δ) (hi : ∀ ds : List D, δ[i]? ≠ some (some (.bo ds))) : Rp K G ms H (σ.set i x) (δ.set i none) := by
  refine ⟨by simp [R.len], R.ms0, R.new, R.here, R.keep, R.borm, R.bori, fun j s e => ?_, fun j k ds es p e1 e2 e3 e4 => ?_, bod_set R.bod hi⟩
  · rcases get_set e with ⟨ei, ev⟩ | ⟨hn, e⟩
    · subst ei; cases ev
    · exact (R.slot j s e).keepS hn
  · rcases get_set e1 with ⟨ei, ev⟩ | ⟨hn, e1⟩
    · cases ev
    · rcases get_set e2 with ⟨ei, ev⟩ | ⟨hm, e2⟩
      · cases ev
      · rw [List.getElem?_set_ne (Ne.symm hn)] at e3
        rw [List.getElem?_set_ne (Ne.symm hm)] at e4
        exact R.inj j k ds es p e1 e2 e3 e4
/-- a new list, owned by slot i -/
theorem Rp.setOw {i : Nat} {p : Addr} {xs : List V} {ds : List D} (R : Rp K G ms H σ δ) (hi : notBo δ i = true) (hp : H p = none) (h : DvAll K (mask H ms) xs ds) :
    Rp K G (p :: ms) (upd H p (.lst xs)) (σ.set i (some (.ref p))) (δ.set i (some (.ow ds))) ∧ Ext ms H (p :: ms) (upd H p (.lst xs)) := by
  have hl := notBo_lt hi
  have pm : p ∉ ms := R.fresh hp
  have p0 : p ∉ G.ms0 := fun q => pm (R.ms0 p q)
  have ex : Ext ms H (p :: ms) (upd H p (.lst xs)) := fun a o h1 h2 => by
    have : a ≠ p := ne_of_none h2 hp
    exact ⟨by simp [this, h1], by rw [upd_ne this]; exact h2⟩
  have sm := ex.same
  refine ⟨⟨by simp [R.len], fun a ha => List.mem_cons_of_mem _ (R.ms0 a ha), fun a ha => ?_, fun a ha => ?_, fun a o e hb => ?_, R.borm, R.bori, fun j s e => ?_, fun j k ds' es' q e1 e2 e3 e4 => ?_, bod_set R.bod (notBo_ne hi)⟩, ex⟩
  · rcases List.mem_cons.mp ha with rfl | ha
    · exact .inr (R.fresh0 hp)
    · exact R.new a ha
  · by_cases e : a = p
    · subst e; rw [upd_same]; simp
    · rw [upd_ne e]; exact R.here a ((List.mem_cons.mp ha).resolve_left e)
  · have := R.keep a o e hb
    rw [upd_ne (ne_of_none this hp)]; exact this
  · rcases get_set e with ⟨ei, ev⟩ | ⟨hn, e⟩
    · subst ei; cases ev
      exact ⟨p, xs, set_self (by rw [R.len]; exact hl), List.mem_cons_self, p0, upd_same, h.mono sm⟩
    · refine SlP.keepS ?_ hn
      have q := R.slot j s e
      cases s with
      | fz d => obtain ⟨v, a, b⟩ := q; exact ⟨v, a, b.mono sm⟩
      | ow ds => obtain ⟨p', xs', a, b, c, d, f⟩ := q; exact ⟨p', xs', a, List.mem_cons_of_mem _ b, c, by rw [upd_ne (ne_of_none d hp)]; exact d, f.mono sm⟩
      | bo ds => obtain ⟨p', xs', a, b, d, f⟩ := q; exact ⟨p', xs', a, b, by rw [upd_ne (ne_of_none d hp)]; exact d, f.mono sm⟩
  · have hne : ∀ j ds', j ≠ i → δ[j]? = some (some (.ow ds')) → (σ.set i (some (.ref p)))[j]? = some (some (.ref p)) → False := fun j ds' hn e e' => by
      rw [List.getElem?_set_ne (Ne.symm hn)] at e'
      obtain ⟨p', xs', a, b, _⟩ := R.slot j _ e
      rw [e'] at a; cases a
      exact pm b
    have hself : (σ.set i (some (.ref p)))[i]? = some (some (.ref p)) := set_self (by rw [R.len]; exact hl)
    rcases get_set e1 with ⟨ei, ev⟩ | ⟨hn, f1⟩
    · rcases get_set e2 with ⟨ei2, ev2⟩ | ⟨hm, f2⟩
      · rw [ei, ei2]
      · have : q = p := by rw [ei, hself] at e3; cases e3; rfl
        subst this
        exact (hne k es' hm f2 e4).elim
    · rcases get_set e2 with ⟨ei2, ev2⟩ | ⟨hm, f2⟩
      · have : q = p := by rw [ei2, hself] at e4; cases e4; rfl
        subst this
        exact (hne j ds' hn f1 e3).elim
      · rw [List.getElem?_set_ne (Ne.symm hn)] at e3
        rw [List.getElem?_set_ne (Ne.symm hm)] at e4
        exact R.inj j k ds' es' q f1 f2 e3 e4
/-- the contents of an owned or borrowed list written -/
def cont : Sl → Option (List D)
  | .fz _ => none
  | .ow ds => some ds
  | .bo ds => some ds
def recont (ds : List D) : Sl → Sl
  | .fz d => .fz d
  | .ow _ => .ow ds
  | .bo _ => .bo ds
theorem Rp.write {i : Nat} {s : Sl} {p : Addr} {xs : List V} {ds : List D} (R : Rp K G ms H σ δ) (hi : δ[i]? = some (some s)) (hc : (cont s).isSome = true) (hp : σ[i]? = some (some (.ref p))) (h : DvAll K (mask H ms) xs ds) :
    Rp K G ms (upd H p (.lst xs)) σ (δ.set i (some (recont ds s))) ∧ Ext ms H ms (upd H p (.lst xs)) := by
  have hl : i < δ.length := (List.getElem?_eq_some_iff.mp hi).1
  have q := R.slot i s hi
  have pm : p ∈ ms := by
    cases s with
    | fz d => cases hc
    | ow ds => obtain ⟨p', _, a, b, _⟩ := q; rw [hp] at a; cases a; exact b
    | bo ds => obtain ⟨p', _, a, b, _⟩ := q; rw [hp] at a; cases a; exact R.ms0 _ (R.borm _ _ b)
  have mk : mask (upd H p (.lst xs)) ms = mask H ms := mask_upd pm
  refine ⟨⟨by simp [R.len], R.ms0, R.new, fun a ha => ?_, fun a o e hb => ?_, R.borm, R.bori, fun j t e => ?_, fun j k ds' es' q e1 e2 e3 e4 => ?_, fun j a e => by
    obtain ⟨fs, z⟩ := R.bod j a e
    by_cases hj : j = i
    · subst hj
      rw [hi] at z; cases z
      exact ⟨ds, by rw [set_self hl]; rfl⟩
    · exact ⟨fs, by rw [List.getElem?_set_ne (Ne.symm hj)]; exact z⟩⟩, fun a o h1 h2 => ?_⟩
  · by_cases e : a = p
    · subst e; rw [upd_same]; simp
    · rw [upd_ne e]; exact R.here a ha
  · have k := R.keep a o e hb
    by_cases ep : a = p
    · subst ep
      cases s with
      | fz d => cases hc
      | ow ds =>
        obtain ⟨p', _, a', b, c, _⟩ := q; rw [hp] at a'; cases a'
        rcases R.new _ b with z | z
        · exact absurd z c
        · rw [z] at e; cases e
      | bo ds => obtain ⟨p', _, a', b, _⟩ := q; rw [hp] at a'; cases a'; exact absurd b (hb i)
    · rw [upd_ne ep]; exact k
  · by_cases hj : j = i
    · subst hj
      rw [set_self hl] at e; cases e
      cases s with
      | fz d => cases hc
      | ow ds0 =>
        obtain ⟨p', _, a', b, c, _⟩ := q; rw [hp] at a'; cases a'
        exact ⟨p, xs, hp, b, c, upd_same, by rw [mk]; exact h⟩
      | bo ds0 =>
        obtain ⟨p', _, a', b, _⟩ := q; rw [hp] at a'; cases a'
        exact ⟨p, xs, hp, b, upd_same, by rw [mk]; exact h⟩
    · rw [List.getElem?_set_ne (Ne.symm hj)] at e
      have z := R.slot j t e
      cases t with
      | fz d => obtain ⟨v, a, b⟩ := z; exact ⟨v, a, by rw [mk]; exact b⟩
      | ow ds1 =>
        obtain ⟨p', xs', a, b, c, d, f⟩ := z
        have ne : p' ≠ p := by
          rintro rfl
          cases s with
          | fz d => cases hc
          | ow ds0 => exact hj (R.inj _ _ _ _ _ e hi a hp)
          | bo ds0 => obtain ⟨p2, _, a', b', _⟩ := q; rw [hp] at a'; cases a'; exact c (R.borm _ _ b')
        exact ⟨p', xs', a, b, c, by rw [upd_ne ne]; exact d, by rw [mk]; exact f⟩
      | bo ds1 =>
        obtain ⟨p', xs', a, b, d, f⟩ := z
        have ne : p' ≠ p := by
          rintro rfl
          cases s with
          | fz d => cases hc
          | ow ds0 => obtain ⟨p2, _, a', b', c', _⟩ := q; rw [hp] at a'; cases a'; exact c' (R.borm _ _ b)
          | bo ds0 => obtain ⟨p2, _, a', b', _⟩ := q; rw [hp] at a'; cases a'; exact hj (R.bori _ _ _ b b')
        exact ⟨p', xs', a, b, by rw [upd_ne ne]; exact d, by rw [mk]; exact f⟩
  · have conv : ∀ (m : Nat) (ws : List D), (δ.set i (some (recont ds s)))[m]? = some (some (Sl.ow ws)) → ∃ ws' : List D, δ[m]? = some (some (Sl.ow ws')) := fun m ws e => by
      by_cases hm : m = i
      · subst hm
        rw [set_self hl] at e
        cases s with
        | fz d => cases hc
        | ow ds0 => exact ⟨ds0, hi⟩
        | bo ds0 => cases e
      · rw [List.getElem?_set_ne (Ne.symm hm)] at e; exact ⟨ws, e⟩
    obtain ⟨w1, f1⟩ := conv j _ e1
    obtain ⟨w2, f2⟩ := conv k _ e2
    exact R.inj j k _ _ q f1 f2 e3 e4
  · exact ⟨h1, by rw [upd_ne (fun z : a = p => h1 (by rw [z]; exact pm))]; exact h2⟩
/-- an owned list becomes data -/
theorem Rp.freeze {i : Nat} {ds : List D} {p : Addr} (R : Rp K G ms H σ δ) (hi : δ[i]? = some (some (.ow ds))) (hp : σ[i]? = some (some (.ref p))) :
    Rp K G (ms.filter (fun a => decide (a ≠ p))) H σ (δ.set i (some (.fz (.lst ds)))) ∧ Ext ms H (ms.filter (fun a => decide (a ≠ p))) H ∧ Dv K (mask H (ms.filter (fun a => decide (a ≠ p)))) (.ref p) (.lst ds) := by
  have hl : i < δ.length := (List.getElem?_eq_some_iff.mp hi).1
  obtain ⟨p', xs, a', pm, p0, hx, hd⟩ := R.slot i _ hi
  rw [hp] at a'; cases a'
  have mem : ∀ a, a ∈ ms.filter (fun a => decide (a ≠ p)) ↔ a ∈ ms ∧ a ≠ p := fun a => by simp [List.mem_filter]
  have ex : Ext ms H (ms.filter (fun a => decide (a ≠ p))) H := fun a o h1 h2 => ⟨fun z => h1 ((mem a).mp z).1, h2⟩
  have sm := ex.same
  have dv : Dv K (mask H (ms.filter (fun a => decide (a ≠ p)))) (.ref p) (.lst ds) :=
    .lst (mask_some.mpr ⟨fun z => ((mem p).mp z).2 rfl, hx⟩) (hd.mono sm)
  refine ⟨⟨by simp [R.len], fun a ha => (mem a).mpr ⟨R.ms0 a ha, fun z => p0 (z ▸ ha)⟩, fun a ha => R.new a ((mem a).mp ha).1, fun a ha => R.here a ((mem a).mp ha).1, R.keep, R.borm, R.bori, fun j s e => ?_, fun j k ds' es' q e1 e2 e3 e4 => ?_, bod_set R.bod (fun fs z => by rw [hi] at z; cases z)⟩, ex, dv⟩
  · by_cases hj : j = i
    · subst hj
      rw [set_self hl] at e; cases e
      exact ⟨_, hp, dv⟩
    · rw [List.getElem?_set_ne (Ne.symm hj)] at e
      have z := R.slot j s e
      cases s with
      | fz d => obtain ⟨v, a, b⟩ := z; exact ⟨v, a, b.mono sm⟩
      | ow ds1 =>
        obtain ⟨p', xs', a, b, c, d, f⟩ := z
        have ne : p' ≠ p := by
          rintro rfl
          exact hj (R.inj _ _ _ _ _ e hi a hp)
        exact ⟨p', xs', a, (mem _).mpr ⟨b, ne⟩, c, d, f.mono sm⟩
      | bo ds1 => obtain ⟨p', xs', a, b, d, f⟩ := z; exact ⟨p', xs', a, b, d, f.mono sm⟩
  · by_cases hj : j = i
    · subst hj; rw [set_self hl] at e1; cases e1
    · by_cases hk : k = i
      · subst hk; rw [set_self hl] at e2; cases e2
      · rw [List.getElem?_set_ne (Ne.symm hj)] at e1
        rw [List.getElem?_set_ne (Ne.symm hk)] at e2
        exact R.inj j k _ _ q e1 e2 e3 e4
end
end DL
namespace DL
open PySem PySem.Spec PyProof.Rows L2

/-! ### readings by pure functions -/
def RA (K : PySem.W.Frag) (ms : List Addr) (H : Hp) (σ : L2.St) : Ar → V → Prop
  | .d x, v => Dv K (mask H ms) v x
  | .sl i, v => σ[i]? = some (some v)
theorem RA.ext {K : PySem.W.Frag} {ms ms' : List Addr} {H H' : Hp} {σ : L2.St} {a : Ar} {v : V} (h : RA K ms H σ a v) (e : Ext ms H ms' H') : RA K ms' H' σ a v := by
  cases a with
  | d x => exact Dv.mono e.same h
  | sl i => exact h
inductive RAs (K : PySem.W.Frag) (ms : List Addr) (H : Hp) (σ : L2.St) : List Ar → List V → Prop
  | nil : RAs K ms H σ [] []
  | cons {a : Ar} {v : V} {as : List Ar} {vs : List V} : RA K ms H σ a v → RAs K ms H σ as vs → RAs K ms H σ (a :: as) (v :: vs)
theorem RAs.ext {K : PySem.W.Frag} {ms ms' : List Addr} {H H' : Hp} {σ : L2.St} (e : Ext ms H ms' H') : ∀ {as : List Ar} {vs : List V}, RAs K ms H σ as vs → RAs K ms' H' σ as vs
  | _, _, .nil => .nil
  | _, _, .cons a r => .cons (a.ext e) (RAs.ext e r)

abbrev EO := DE → Option (Ar × DE)
abbrev EA := DE → Option (List Ar × DE)
abbrev EN := DE → Option (List D × DE)
abbrev ET := DE → Option (Bool × DE)
def tO (K : PySem.W.Frag) (G : Gm) (f : EO) : TE := fun σ H Q => ∃ ms δ a δ', Rp K G ms H σ δ ∧ f δ = some (a, δ') ∧ ∀ v H' ms', Rp K G ms' H' σ δ' → Ext ms H ms' H' → RA K ms' H' σ a v → Q v H'
def tAr (K : PySem.W.Frag) (G : Gm) (f : EA) : TA := fun σ H Q => ∃ ms δ a δ', Rp K G ms H σ δ ∧ f δ = some (a, δ') ∧ ∀ vs H' ms', Rp K G ms' H' σ δ' → Ext ms H ms' H' → RAs K ms' H' σ a vs → Q vs H'
/-- a new list, at a free place -/
def tN (K : PySem.W.Frag) (G : Gm) (f : EN) : TE := fun σ H Q => ∃ ms δ ds δ', Rp K G ms H σ δ ∧ f δ = some (ds, δ') ∧ ∀ p xs H' ms', Rp K G ms' H' σ δ' → Ext ms H ms' H' → H' p = none → DvAll K (mask H' ms') xs ds → Q (.ref p) (upd H' p (.lst xs))
def tT (K : PySem.W.Frag) (G : Gm) (f : ET) : TT := fun σ H Q => ∃ ms δ b δ', Rp K G ms H σ δ ∧ f δ = some (b, δ') ∧ ∀ H' ms', Rp K G ms' H' σ δ' → Ext ms H ms' H' → Q b H'

theorem PE.imp {X : Cx} {e : Expr} {t t' : TE} (h : PE X e t) (w : ∀ σ H Q, t' σ H Q → t σ H Q) : PE X e t' := ⟨fun pins s σ H Q I q => h.run pins s σ H Q I (w σ H Q q)⟩
theorem PT.imp {X : Cx} {e : Expr} {t t' : TT} (h : PT X e t) (w : ∀ σ H Q, t' σ H Q → t σ H Q) : PT X e t' := ⟨fun pins s σ H Q I q => h.run pins s σ H Q I (w σ H Q q)⟩
theorem PW.imp {X : Cx} {e : Expr} {t t' : TT} (h : PW X e t) (w : ∀ σ H Q, t' σ H Q → t σ H Q) : PW X e t' := ⟨fun wh pins s σ H Q I q => h.run wh pins s σ H Q I (w σ H Q q)⟩
theorem PA.imp {X : Cx} {e : List Expr} {t t' : TA} (h : PA X e t) (w : ∀ σ H Q, t' σ H Q → t σ H Q) : PA X e t' := ⟨fun pos pins s σ H Q I q => h.run pos pins s σ H Q I (w σ H Q q)⟩
theorem PS.imp {X : Cx} {e : Stmt} {t t' : TS} (h : PS X e t) (w : ∀ D σ H, t' D σ H → t D σ H) : PS X e t' := ⟨fun pins s σ H D I q => h.run pins s σ H D I (w D σ H q)⟩
theorem PSs.imp {X : Cx} {e : List Stmt} {t t' : TS} (h : PSs X e t) (w : ∀ D σ H, t' D σ H → t D σ H) : PSs X e t' := ⟨fun pins s σ H D I q => h.run pins s σ H D I (w D σ H q)⟩

/-! ### the slots read, frozen -/
def rsl (δ : DE) : Ar → Option D
  | .d x => some x
  | .sl i => match δ[i]? with
    | some (some (.fz d)) => some d
    | some (some (.ow ds)) => some (.lst ds)
    | some (some (.bo ds)) => some (.lst ds)
    | _ => none
def rsls (δ : DE) : List Ar → Option (List D)
  | [] => some []
  | a :: as => (rsl δ a).bind fun d => (rsls δ as).bind fun ds => some (d :: ds)
def TopD (K : PySem.W.Frag) (ms : List Addr) (H : Hp) (v : V) (d : D) : Prop :=
  Dv K (mask H ms) v d ∨ ∃ p xs ds, v = .ref p ∧ d = .lst ds ∧ H p = some (.lst xs) ∧ DvAll K (mask H ms) xs ds
inductive TopAll (K : PySem.W.Frag) (ms : List Addr) (H : Hp) : List V → List D → Prop
  | nil : TopAll K ms H [] []
  | cons {v : V} {vs : List V} {d : D} {ds : List D} : TopD K ms H v d → TopAll K ms H vs ds → TopAll K ms H (v :: vs) (d :: ds)
theorem TopD.dv {K : PySem.W.Frag} {ms : List Addr} {H : Hp} {v : V} {d : D} (h : TopD K ms H v d) : Dv K H v d := by
  rcases h with h | ⟨p, xs, ds, rfl, rfl, hp, h⟩
  · exact h.mono mask_sub
  · exact .lst hp (h.mono mask_sub)
theorem TopD.tup {K : PySem.W.Frag} {ms : List Addr} {H : Hp} {v : V} {ds : List D} (h : TopD K ms H v (.tup ds)) : ∃ p xs, v = .ref p ∧ SqT K H p xs ∧ DvAll K (mask H ms) xs ds := by
  rcases h with h | ⟨p, xs, ds, rfl, e, _⟩
  · cases h with
    | tup h _ a => exact ⟨_, _, rfl, Same.seqT mask_sub h, a⟩
  · cases e
theorem TopD.tupN {K : PySem.W.Frag} {ms : List Addr} {H : Hp} {v : V} {ds : List D} (h : TopD K ms H v (.tup ds)) : ∃ p xs, v = .ref p ∧ SqT K H p xs ∧ NoD K H p ∧ DvAll K (mask H ms) xs ds := by
  rcases h with h | ⟨p, xs, ds, rfl, e, _⟩
  · cases h with
    | tup h n a => exact ⟨_, _, rfl, Same.seqT mask_sub h, Same.noD mask_sub n, a⟩
  · cases e
theorem dv_newT {K : PySem.W.Frag} {ms : List Addr} {H : Hp} {p : Addr} {o : Obj} {xs : List V} {ds : List D} (hm : ∀ a ∈ ms, H a ≠ none) (hp : H p = none) (ho : o.dict = none) (h : DvAll K (mask H ms) xs ds) : Dv K (mask (upd H p (.frz o (.tup xs))) ms) (.ref p) (.tup ds) :=
  have z : mask (upd H p (.frz o (.tup xs))) ms p = some (.frz o (.tup xs)) := mask_some.mpr ⟨fun q => hm p q hp, upd_same⟩
  .tup (.inl (.inr ⟨o, z⟩)) (.inl ⟨o, _, z, ho⟩) (h.mono (Ext.of_same (ms := ms) (same_upd hp)).same)
theorem TopD.lst {K : PySem.W.Frag} {ms : List Addr} {H : Hp} {v : V} {ds : List D} (h : TopD K ms H v (.lst ds)) : ∃ p xs, v = .ref p ∧ H p = some (.lst xs) ∧ DvAll K (mask H ms) xs ds := by
  rcases h with h | ⟨p, xs, ds', rfl, e, hp, a⟩
  · cases h with
    | lst h a => exact ⟨_, _, rfl, mask_sub _ _ h, a⟩
  · cases e; exact ⟨p, xs, rfl, hp, a⟩
theorem TopD.fls {K : PySem.W.Frag} {ms : List Addr} {H : Hp} {v : V} {ds : List D} (h : TopD K ms H v (.fls ds)) : ∃ p xs, v = .ref p ∧ SqL K H p xs ∧ DvAll K (mask H ms) xs ds := by
  rcases h with h | ⟨p, xs, ds', rfl, e, hp, a⟩
  · cases h with
    | fls h a => exact ⟨_, _, rfl, mask_sub.seq h, a⟩
  · cases e
theorem TopD.ty {K : PySem.W.Frag} {ms : List Addr} {H : Hp} {v : V} {n : String} (h : TopD K ms H v (.ty n)) : v = .ty n := by
  rcases h with h | ⟨p, xs, ds, rfl, e, _⟩
  · cases h; rfl
  · cases e
theorem TopD.int {K : PySem.W.Frag} {ms : List Addr} {H : Hp} {v : V} {i : Int} (h : TopD K ms H v (.int i)) : v = .int i := by
  rcases h with h | ⟨p, xs, ds, rfl, e, _⟩
  · cases h; rfl
  · cases e
theorem TopD.bl {K : PySem.W.Frag} {ms : List Addr} {H : Hp} {v : V} {i : Bool} (h : TopD K ms H v (.bl i)) : v = .bl i := by
  rcases h with h | ⟨p, xs, ds, rfl, e, _⟩
  · cases h; rfl
  · cases e
theorem TopD.str {K : PySem.W.Frag} {ms : List Addr} {H : Hp} {v : V} {i : Str} (h : TopD K ms H v (.str i)) : v = .str i := by
  rcases h with h | ⟨p, xs, ds, rfl, e, _⟩
  · cases h; rfl
  · cases e
theorem TopD.non {K : PySem.W.Frag} {ms : List Addr} {H : Hp} {v : V} (h : TopD K ms H v .non) : v = .non := by
  rcases h with h | ⟨p, xs, ds, rfl, e, _⟩
  · cases h; rfl
  · cases e
section
variable {K : PySem.W.Frag} {G : Gm} {ms ms' : List Addr} {H H' : Hp} {σ : L2.St} {δ δ' : DE}
theorem top_of {a : Ar} {v : V} {d : D} (R : Rp K G ms H σ δ) (h : RA K ms H σ a v) (e : rsl δ a = some d) : TopD K ms H v d := by
  cases a with
  | d x => cases e; exact .inl h
  | sl i =>
    simp only [rsl] at e
    split at e
    · rename_i d' hs
      cases e
      obtain ⟨v', a, b⟩ := R.slot i _ hs
      have h' : σ[i]? = some (some v) := h
      rw [h'] at a; cases a
      exact .inl b
    · rename_i ds hs
      cases e
      obtain ⟨p, xs, a, b, c, d, f⟩ := R.slot i _ hs
      have h' : σ[i]? = some (some v) := h
      rw [h'] at a; cases a
      exact .inr ⟨p, xs, ds, rfl, rfl, d, f⟩
    · rename_i ds hs
      cases e
      obtain ⟨p, xs, a, b, d, f⟩ := R.slot i _ hs
      have h' : σ[i]? = some (some v) := h
      rw [h'] at a; cases a
      exact .inr ⟨p, xs, ds, rfl, rfl, d, f⟩
    · cases e
theorem tops_of (R : Rp K G ms H σ δ) : ∀ {as : List Ar} {vs : List V} {ds : List D}, RAs K ms H σ as vs → rsls δ as = some ds → TopAll K ms H vs ds
  | _, _, ds, .nil, e => by cases e; exact .nil
  | _, _, ds, .cons (a := a) (as := as) h t, e => by
    unfold rsls at e
    cases q : rsl δ a with
    | none => rw [q] at e; cases e
    | some d =>
      cases q2 : rsls δ as with
      | none => rw [q, q2] at e; cases e
      | some ds' =>
        rw [q, q2] at e; cases e
        exact .cons (top_of R h q) (tops_of R t q2)
/-- the value kept: an owned list is frozen -/
def frz (a : Ar) (δ : DE) : Option (D × DE) := match a with
  | .d x => some (x, δ)
  | .sl i => match δ[i]? with
    | some (some (.fz d)) => some (d, δ)
    | some (some (.ow ds)) => some (.lst ds, δ.set i (some (.fz (.lst ds))))
    | _ => none
theorem frz_ok {a : Ar} {v : V} {d : D} (R : Rp K G ms H σ δ) (h : RA K ms H σ a v) (e : frz a δ = some (d, δ')) : ∃ ms', Rp K G ms' H σ δ' ∧ Ext ms H ms' H ∧ Dv K (mask H ms') v d := by
  cases a with
  | d x => cases e; exact ⟨ms, R, .refl, h⟩
  | sl i =>
    unfold frz at e
    simp only at e
    split at e
    · rename_i d' hs
      cases e
      obtain ⟨v', a, b⟩ := R.slot i _ hs
      have h' : σ[i]? = some (some v) := h
      rw [h'] at a; cases a
      exact ⟨ms, R, .refl, b⟩
    · rename_i ds hs
      cases e
      obtain ⟨p, xs, a, _⟩ := R.slot i _ hs
      have h' : σ[i]? = some (some v) := h
      rw [h'] at a; cases a
      obtain ⟨R', ex, dv⟩ := R.freeze hs h'
      exact ⟨_, R', ex, dv⟩
    · cases e
def frzs : List Ar → DE → Option (List D × DE)
  | [], δ => some ([], δ)
  | a :: as, δ => (frz a δ).bind fun (d, δ1) => (frzs as δ1).bind fun (ds, δ2) => some (d :: ds, δ2)
theorem frzs_ok : ∀ {as : List Ar} {vs : List V} {ms : List Addr} {δ δ' : DE} {ds : List D}, Rp K G ms H σ δ → RAs K ms H σ as vs → frzs as δ = some (ds, δ') → ∃ ms', Rp K G ms' H σ δ' ∧ Ext ms H ms' H ∧ DvAll K (mask H ms') vs ds
  | _, _, ms, _, _, _, R, .nil, e => by cases e; exact ⟨ms, R, .refl, .nil⟩
  | _, _, ms, δ, _, _, R, .cons (a := a) (as := as) h t, e => by
    unfold frzs at e
    cases q : frz a δ with
    | none => rw [q] at e; cases e
    | some r =>
      obtain ⟨d, δ1⟩ := r
      cases q2 : frzs as δ1 with
      | none => simp only [q, Option.bind_some, q2] at e; cases e
      | some r2 =>
        obtain ⟨ds', δ2⟩ := r2
        simp only [q, Option.bind_some, q2] at e; cases e
        obtain ⟨m1, R1, e1, d1⟩ := frz_ok R h q
        obtain ⟨m2, R2, e2, d2⟩ := frzs_ok R1 (t.ext e1) q2
        exact ⟨m2, R2, e1.trans e2, .cons (d1.mono e2.same) d2⟩
end

section
variable {X : Cx} {G : Gm} {a b c e : Expr} {es : List Expr} {f f1 f2 f3 : EO} {fa : EA} {fb : ET} {pos : Pos}

/-! ### constants, names -/
def cO (d : D) : EO := fun δ => some (.d d, δ)
theorem do_c {v : V} {d : D} (h : PE X e (tC v)) (hv : ∀ H, Dv X.K H v d) : PE X e (tO X.K G (cO d)) := PE.imp h fun σ H Q q => by
  obtain ⟨ms, δ, x, δ', R, e, k⟩ := q
  cases e
  exact k v H ms R .refl (hv _)
theorem do_int {i : Int} {j pos} : PE X (.Constant (.int i) j pos) (tO X.K G (cO (.int i))) := do_c pe_int fun _ => .int i
theorem do_bl {i : Bool} {j pos} : PE X (.Constant (.bool i) j pos) (tO X.K G (cO (.bl i))) := do_c pe_bl fun _ => .bl i
theorem do_non {j pos} : PE X (.Constant .none j pos) (tO X.K G (cO .non)) := do_c pe_non fun _ => .non
theorem do_str {i : Str} {j pos} : PE X (.Constant (.str i) j pos) (tO X.K G (cO (.str i))) := do_c pe_str fun _ => .str i
def vO (i : Nat) : EO := fun δ => match δ[i]? with
  | some (some (.fz d)) => some (.d d, δ)
  | some (some _) => some (.sl i, δ)
  | _ => none
theorem tVar_of {i : Nat} {σ : L2.St} {H : Hp} {Q : VK} {K : PySem.W.Frag} (q : tO K G (vO i) σ H Q) : tVar i σ H Q := by
  obtain ⟨ms, δ, x, δ', R, e, k⟩ := q
  unfold vO at e
  split at e
  · rename_i d hs
    cases e
    obtain ⟨v, a, b⟩ := R.slot i _ hs
    exact ⟨v, a, k v H ms R .refl b⟩
  · rename_i s hs hn
    cases e
    cases s with
    | fz d => exact absurd rfl (hs d)
    | ow ds =>
      obtain ⟨p, xs, a, _⟩ := R.slot i _ hn
      exact ⟨.ref p, a, k _ H ms R .refl a⟩
    | bo ds =>
      obtain ⟨p, xs, a, _⟩ := R.slot i _ hn
      exact ⟨.ref p, a, k _ H ms R .refl a⟩
  · cases e
theorem dv (i : Nat) {x : Str} {pos : Pos} (hN : X.N[i]? = some x := by rfl) (hv : Vis X.env.scope x := by first | exact Or.inl rfl | exact Or.inr (Or.inl rfl) | exact Or.inr (Or.inr rfl)) (hd : (x == ("__debug__" : Str)) = false := by decide)
    (hcd : (x == ("__classdict__" : Str)) = false := by decide) : PE X (.Name x pos) (tO X.K G (vO i)) := PE.imp (pe_var hN hv hd hcd) fun _ _ _ q => tVar_of q
/-- a module's constant -/
theorem do_glob {x : Str} {v : V} {d : D} {u : Value} {pos : Pos} (hg : Gl X x) (hm : X.mg x = some u) (r : RelV v u) (hv : ∀ H, Dv X.K H v d) (hd : (x == ("__debug__" : Str)) = false := by decide) : PE X (.Name x pos) (tO X.K G (cO d)) :=
  do_c (pe_glob hg hm r hd) hv

/-! ### values only -/
def fF (f : EO) : EO := fun δ => (f δ).bind fun (a, δ1) => (frz a δ1).bind fun (d, δ2) => some (.d d, δ2)
theorem fF_of {K : PySem.W.Frag} {σ : L2.St} {H : Hp} {Q : VK} (q : tO K G (fF f) σ H Q) : tO K G f σ H Q := by
  obtain ⟨ms, δ, x, δ', R, e, k⟩ := q
  unfold fF at e
  cases q : f δ with
  | none => rw [q] at e; cases e
  | some r =>
    obtain ⟨a, δ1⟩ := r
    cases q2 : frz a δ1 with
    | none => simp only [q, Option.bind_some, q2] at e; cases e
    | some r2 =>
      obtain ⟨d, δ2⟩ := r2
      simp only [q, Option.bind_some, q2] at e; cases e
      refine ⟨ms, δ, a, δ1, R, q, fun v H' ms' R1 e1 h => ?_⟩
      obtain ⟨m2, R2, e2, d2⟩ := frz_ok R1 h q2
      exact k v H' m2 R2 (e1.trans e2) d2
theorem do_fz (h : PE X e (tO X.K G f)) : PE X e (tO X.K G (fF f)) := PE.imp h fun _ _ _ q => fF_of q

/-! ### a new list -/
def nO (f : EN) : EO := fun δ => (f δ).bind fun (ds, δ1) => some (.d (.lst ds), δ1)
theorem do_new {f : EN} (h : PE X e (tN X.K G f)) : PE X e (tO X.K G (nO f)) := PE.imp h fun σ H Q q => by
  obtain ⟨ms, δ, x, δ', R, e, k⟩ := q
  unfold nO at e
  cases q : f δ with
  | none => rw [q] at e; cases e
  | some r =>
    obtain ⟨ds, δ1⟩ := r
    simp only [q, Option.bind_some] at e; cases e
    refine ⟨ms, δ, ds, _, R, q, fun p xs H' ms' R1 e1 hp hd => ?_⟩
    have sm := same_upd (o := HO.lst xs) hp
    exact k _ _ ms' (R1.same sm) (e1.trans (.of_same sm)) (.lst (mask_some.mpr ⟨R1.fresh hp, upd_same⟩) (hd.mono (Ext.of_same (ms := ms') sm).same))

/-! ### argument lists -/
def nilA : EA := fun δ => some ([], δ)
def consA (f : EO) (g : EA) : EA := fun δ => (f δ).bind fun (a, δ1) => (g δ1).bind fun (as, δ2) => some (a :: as, δ2)
theorem da_nil : PA X [] (tAr X.K G nilA) := PA.imp pa_nil fun σ H Q q => by
  obtain ⟨ms, δ, x, δ', R, e, k⟩ := q
  cases e
  exact k [] H ms R .refl .nil
theorem da_cons (ha : PE X e (tO X.K G f)) (hr : PA X es (tAr X.K G fa)) (hs : starEach (e :: es) X.env = (false, eval e X.env) :: starEach es X.env := by rfl) : PA X (e :: es) (tAr X.K G (consA f fa)) :=
  PA.imp (pa_cons ha hr hs) fun σ H Q q => by
  obtain ⟨ms, δ, x, δ', R, e, k⟩ := q
  unfold consA at e
  cases q : f δ with
  | none => rw [q] at e; cases e
  | some r =>
    obtain ⟨a, δ1⟩ := r
    cases q2 : fa δ1 with
    | none => simp only [q, Option.bind_some, q2] at e; cases e
    | some r2 =>
      obtain ⟨as, δ2⟩ := r2
      simp only [q, Option.bind_some, q2] at e; cases e
      refine ⟨ms, δ, a, δ1, R, q, fun v H' ms' R1 e1 h => ?_⟩
      refine ⟨ms', δ1, as, _, R1, q2, fun vs H2 ms2 R2 e2 hs => ?_⟩
      exact k _ H2 ms2 R2 (e1.trans e2) (.cons (h.ext e2) hs)

/-! ### operators by values -/
abbrev Op2 := D → D → Option D
def Spec2 (K : PySem.W.Frag) (r : R2) (g : Op2) : Prop := ∀ (ms : List Addr) (H : Hp) (v1 v2 : V) (d1 d2 d : D) (Q : VK), TopD K ms H v1 d1 → TopD K ms H v2 d2 → (∀ a ∈ ms, H a ≠ none) → g d1 d2 = some d →
  (∀ v H', Same H H' → Dv K (mask H' ms) v d → Q v H') → r v1 v2 H Q
def bin2 (g : Op2) (f1 f2 : EO) : EO := fun δ => (f1 δ).bind fun (a, δ1) => (f2 δ1).bind fun (b, δ2) => (rsl δ2 a).bind fun x => (rsl δ2 b).bind fun y => (g x y).bind fun z => some (.d z, δ2)
theorem bin2_inv {g : Op2} {δ : DE} {r : Ar × DE} (e : bin2 g f1 f2 δ = some r) : ∃ a δ1 b δ2 x y z, f1 δ = some (a, δ1) ∧ f2 δ1 = some (b, δ2) ∧ rsl δ2 a = some x ∧ rsl δ2 b = some y ∧ g x y = some z ∧ r = (.d z, δ2) := by
  unfold bin2 at e
  cases q : f1 δ with
  | none => rw [q] at e; cases e
  | some r1 =>
    obtain ⟨a, δ1⟩ := r1
    cases q2 : f2 δ1 with
    | none => simp only [q, Option.bind_some, q2] at e; cases e
    | some r2 =>
      obtain ⟨b, δ2⟩ := r2
      cases q3 : rsl δ2 a with
      | none => simp only [q, Option.bind_some, q2, q3] at e; cases e
      | some x =>
        cases q4 : rsl δ2 b with
        | none => simp only [q, Option.bind_some, q2, q3, q4] at e; cases e
        | some y =>
          cases q5 : g x y with
          | none => simp only [q, Option.bind_some, q2, q3, q4, q5] at e; cases e
          | some z =>
            simp only [q, Option.bind_some, q2, q3, q4, q5] at e
            exact ⟨a, δ1, b, δ2, x, y, z, rfl, q2, q3, q4, q5, (Option.some.inj e).symm⟩
theorem tOp_of {K : PySem.W.Frag} {r : R2} {g : Op2} {σ : L2.St} {H : Hp} {Q : VK} (hg : Spec2 K r g) (q : tO K G (bin2 g f1 f2) σ H Q) : tOp r (tO K G f1) (tO K G f2) σ H Q := by
  obtain ⟨ms, δ, x, δ', R, e, k⟩ := q
  obtain ⟨a, δ1, b, δ2, x, y, z, q1, q2, q3, q4, q5, e⟩ := bin2_inv e
  cases e
  refine ⟨ms, δ, a, _, R, q1, fun v1 H1 m1 R1 e1 h1 => ?_⟩
  refine ⟨m1, δ1, b, _, R1, q2, fun v2 H2 m2 R2 e2 h2 => ?_⟩
  refine hg m2 H2 v1 v2 x y z Q (top_of R2 (h1.ext e2) q3) (top_of R2 h2 q4) R2.here q5 fun v H3 s hv => ?_
  exact k v H3 m2 (R2.same s) ((e1.trans e2).trans (.of_same s)) hv
theorem do_bin {op : Operator} {r : R2} {g : Op2} (ho : OpR X (binaryOp op) r) (hg : Spec2 X.K r g) (ha : PE X a (tO X.K G f1)) (hb : PE X b (tO X.K G f2)) : PE X (.BinOp a op b pos) (tO X.K G (bin2 g f1 f2)) :=
  PE.imp (pe_op ho ha hb) fun _ _ _ q => tOp_of hg q
theorem do_cmp {op : CmpOp} {r : R2} {g : Op2} (ho : OpR X (compareOp op) r) (hg : Spec2 X.K r g) (ha : PE X a (tO X.K G f1)) (hb : PE X b (tO X.K G f2)) (hm : behindInMarks op b = false) : PE X (.Compare a [op] [b] pos) (tO X.K G (bin2 g f1 f2)) :=
  PE.imp (pe_cmpR ho ha hb hm) fun _ _ _ q => tOp_of hg q
theorem do_ix {r : R2} {g : Op2} (hr : IxR X r) (hg : Spec2 X.K r g) (ha : PE X a (tO X.K G f1)) (hb : PE X b (tO X.K G f2)) (hs : PlainIx b) : PE X (.Subscript a b pos) (tO X.K G (bin2 g f1 f2)) :=
  PE.imp (pe_ix hr ha hb hs) fun _ _ _ q => tOp_of hg q
abbrev Op1 := D → Option D
def Spec1 (K : PySem.W.Frag) (r : V → Hp → VK → Prop) (g : Op1) : Prop := ∀ (ms : List Addr) (H : Hp) (v1 : V) (d1 d : D) (Q : VK), TopD K ms H v1 d1 → (∀ a ∈ ms, H a ≠ none) → g d1 = some d →
  (∀ v H', Same H H' → Dv K (mask H' ms) v d → Q v H') → r v1 H Q
def un1 (g : Op1) (f1 : EO) : EO := fun δ => (f1 δ).bind fun (a, δ1) => (rsl δ1 a).bind fun x => (g x).bind fun z => some (.d z, δ1)
theorem un1_inv {g : Op1} {δ : DE} {r : Ar × DE} (e : un1 g f1 δ = some r) : ∃ a δ1 x z, f1 δ = some (a, δ1) ∧ rsl δ1 a = some x ∧ g x = some z ∧ r = (.d z, δ1) := by
  unfold un1 at e
  cases q : f1 δ with
  | none => rw [q] at e; cases e
  | some r1 =>
    obtain ⟨a, δ1⟩ := r1
    cases q3 : rsl δ1 a with
    | none => simp only [q, Option.bind_some, q3] at e; cases e
    | some x =>
      cases q5 : g x with
      | none => simp only [q, Option.bind_some, q3, q5] at e; cases e
      | some z =>
        simp only [q, Option.bind_some, q3, q5] at e
        exact ⟨a, δ1, x, z, rfl, q3, q5, (Option.some.inj e).symm⟩
theorem tUn_of {K : PySem.W.Frag} {r : V → Hp → VK → Prop} {g : Op1} {σ : L2.St} {H : Hp} {Q : VK} (hg : Spec1 K r g) (q : tO K G (un1 g f1) σ H Q) : tUn r (tO K G f1) σ H Q := by
  obtain ⟨ms, δ, x, δ', R, e, k⟩ := q
  obtain ⟨a, δ1, x, z, q1, q3, q5, e⟩ := un1_inv e
  cases e
  refine ⟨ms, δ, a, _, R, q1, fun v1 H1 m1 R1 e1 h1 => ?_⟩
  refine hg m1 H1 v1 x z Q (top_of R1 h1 q3) R1.here q5 fun v H3 s hv => ?_
  exact k v H3 m1 (R1.same s) (e1.trans (.of_same s)) hv
theorem do_un {op : UnaryOp} {r : V → Hp → VK → Prop} {g : Op1} (ho : UnR X (unaryOp op) r) (hg : Spec1 X.K r g) (ha : PE X a (tO X.K G f1)) : PE X (.UnaryOp op a pos) (tO X.K G (un1 g f1)) :=
  PE.imp (pe_un ho ha) fun _ _ _ q => tUn_of hg q
/-- a built-in function of values -/
abbrev OpN := List D → Option D
def SpecN (K : PySem.W.Frag) (r : List V → Hp → VK → Prop) (g : OpN) : Prop := ∀ (ms : List Addr) (H : Hp) (vs : List V) (ds : List D) (d : D) (Q : VK), TopAll K ms H vs ds → (∀ a ∈ ms, H a ≠ none) → g ds = some d →
  (∀ v H', Same H H' → Dv K (mask H' ms) v d → Q v H') → r vs H Q
def callN (g : OpN) (fa : EA) : EO := fun δ => (fa δ).bind fun (as, δ1) => (rsls δ1 as).bind fun ds => (g ds).bind fun z => some (.d z, δ1)
theorem callN_inv {g : OpN} {δ : DE} {r : Ar × DE} (e : callN g fa δ = some r) : ∃ a δ1 x z, fa δ = some (a, δ1) ∧ rsls δ1 a = some x ∧ g x = some z ∧ r = (.d z, δ1) := by
  unfold callN at e
  cases q : fa δ with
  | none => rw [q] at e; cases e
  | some r1 =>
    obtain ⟨a, δ1⟩ := r1
    cases q3 : rsls δ1 a with
    | none => simp only [q, Option.bind_some, q3] at e; cases e
    | some x =>
      cases q5 : g x with
      | none => simp only [q, Option.bind_some, q3, q5] at e; cases e
      | some z =>
        simp only [q, Option.bind_some, q3, q5] at e
        exact ⟨a, δ1, x, z, rfl, q3, q5, (Option.some.inj e).symm⟩
theorem tCB_of {K : PySem.W.Frag} {r : List V → Hp → VK → Prop} {g : OpN} {σ : L2.St} {H : Hp} {Q : VK} (hg : SpecN K r g) (q : tO K G (callN g fa) σ H Q) : tCB r (tAr K G fa) σ H Q := by
  obtain ⟨ms, δ, x, δ', R, e, k⟩ := q
  obtain ⟨a, δ1, x, z, q1, q3, q5, e⟩ := callN_inv e
  cases e
  refine ⟨ms, δ, a, _, R, q1, fun v1 H1 m1 R1 e1 h1 => ?_⟩
  refine hg m1 H1 v1 x z Q (tops_of R1 h1 q3) R1.here q5 fun v H3 s hv => ?_
  exact k v H3 m1 (R1.same s) (e1.trans (.of_same s)) hv
theorem do_callB {x : Str} {p : Pos} {id : String} {r : List V → Hp → VK → Prop} {g : OpN} (hc : CallR X (.builtin id) r) (hg : SpecN X.K r g) (hgl : Gl X x) (hm : X.mg x = none) (hv : bootBuiltins x = some (.builtin id)) (ha : PA X (e :: es) (tAr X.K G fa)) (hn : x ≠ "__name__" := by decide) (hdb : (x == ("__debug__" : Str)) = false := by decide)
    (he : starEach (e :: es) X.env = (false, eval e X.env) :: starEach es X.env := by rfl) (hpl : (backTo pos (starEach es X.env)).any (·.1) = false := by rfl) : PE X (.Call (.Name x p) (e :: es) [] pos) (tO X.K G (callN g fa)) :=
  PE.imp (pe_callB hc hgl hm hv ha hn hdb he hpl) fun _ _ _ q => tCB_of hg q
theorem do_callTy {x : Str} {p : Pos} {id : String} {r : List V → Hp → VK → Prop} {g : OpN} (hc : CallR X (.type id) r) (hg : SpecN X.K r g) (hgl : Gl X x) (hm : X.mg x = none) (hv : bootBuiltins x = some (.type id)) (ha : PA X (e :: es) (tAr X.K G fa)) (hn : x ≠ "__name__" := by decide) (hdb : (x == ("__debug__" : Str)) = false := by decide)
    (he : starEach (e :: es) X.env = (false, eval e X.env) :: starEach es X.env := by rfl) (hpl : (backTo pos (starEach es X.env)).any (·.1) = false := by rfl) : PE X (.Call (.Name x p) (e :: es) [] pos) (tO X.K G (callN g fa)) :=
  PE.imp (pe_callTy hc hgl hm hv ha hn hdb he hpl) fun _ _ _ q => tCB_of hg q
theorem do_callBfun {x : Str} {p : Pos} {id : String} {r : List V → Hp → VK → Prop} {g : OpN} (hc : CallR X (.builtin id) r) (hg : SpecN X.K r g) (hgl : Gl X x) (hm : X.mg x = some (.builtin id)) (ha : PA X (e :: es) (tAr X.K G fa)) (hdb : (x == ("__debug__" : Str)) = false := by decide)
    (he : starEach (e :: es) X.env = (false, eval e X.env) :: starEach es X.env := by rfl) (hpl : (backTo pos (starEach es X.env)).any (·.1) = false := by rfl) : PE X (.Call (.Name x p) (e :: es) [] pos) (tO X.K G (callN g fa)) :=
  PE.imp (pe_callBfun hc hgl hm ha hdb he hpl) fun _ _ _ q => tCB_of hg q

/-! ### displays -/
def dispN (fa : EA) : EN := fun δ => (fa δ).bind fun (as, δ1) => (frzs as δ1).bind fun (ds, δ2) => if ds.length ≤ sizeLine then some (ds, δ2) else none
theorem dn_lst (h : PA X es (tAr X.K G fa)) : PE X (.List es pos) (tN X.K G (dispN fa)) :=
  PE.imp (pe_lst h) fun σ H Q q => by
  obtain ⟨ms, δ, x, δ', R, e, k⟩ := q
  unfold dispN at e
  cases q : fa δ with
  | none => rw [q] at e; cases e
  | some r1 =>
    obtain ⟨as, δ1⟩ := r1
    cases q2 : frzs as δ1 with
    | none => simp only [q, Option.bind_some, q2] at e; cases e
    | some r2 =>
      obtain ⟨ds, δ2⟩ := r2
      simp only [q, Option.bind_some, q2] at e
      split at e
      · rename_i hl
        cases e
        refine ⟨ms, δ, as, δ1, R, q, fun vs H1 m1 R1 e1 h1 => ?_⟩
        obtain ⟨m2, R2, e2, d2⟩ := frzs_ok R1 h1 q2
        exact ⟨by rw [d2.length]; exact hl, fun p hp => k p vs H1 m2 R2 (e1.trans e2) hp d2⟩
      · cases e
def tupO (fa : EA) : EO := fun δ => (fa δ).bind fun (as, δ1) => (frzs as δ1).bind fun (ds, δ2) => if ds.length ≤ sizeLine then some (.d (.tup ds), δ2) else none
theorem do_tuple {x1} (h : PA X es (tAr X.K G fa)) : PE X (.Tuple es x1 pos) (tO X.K G (tupO fa)) :=
  PE.imp (pe_tupF h) fun σ H Q q => by
  obtain ⟨ms, δ, x, δ', R, e, k⟩ := q
  unfold tupO at e
  cases q : fa δ with
  | none => rw [q] at e; cases e
  | some r1 =>
    obtain ⟨as, δ1⟩ := r1
    cases q2 : frzs as δ1 with
    | none => simp only [q, Option.bind_some, q2] at e; cases e
    | some r2 =>
      obtain ⟨ds, δ2⟩ := r2
      simp only [q, Option.bind_some, q2] at e
      split at e
      · rename_i hl
        cases e
        refine ⟨ms, δ, as, δ1, R, q, fun vs H1 m1 R1 e1 h1 => ?_⟩
        obtain ⟨m2, R2, e2, d2⟩ := frzs_ok R1 h1 q2
        refine ⟨by rw [d2.length]; exact hl, fun p o hp ho => ?_⟩
        have sm := same_upd (o := HO.frz o (.tup vs)) hp
        exact k _ _ m2 (R2.same sm) ((e1.trans e2).trans (.of_same sm)) (dv_newT R2.here hp ho d2)
      · cases e
theorem do_list (h : PA X es (tAr X.K G fa)) : PE X (.List es pos) (tO X.K G (nO (dispN fa))) := do_new (dn_lst h)

/-! ### truth, tests -/
def truD : D → Option Bool
  | .non => some false
  | .bl b => some b
  | .int i => some (i != 0)
  | .str x => if x.length ≤ sizeLine then some ((x.length : Int) != 0) else none
  | .lst xs => some (!xs.isEmpty)
  | .tup xs => some (!xs.isEmpty)
  | .dic es => some (!es.isEmpty)
  | .fls xs => some (!xs.isEmpty)
  | _ => none
theorem DvAll.empty {K : PySem.W.Frag} {H : Hp} {v : List V} {d : List D} (h : DvAll K H v d) : v.isEmpty = d.isEmpty := by cases h <;> rfl
theorem truD_ok {K : PySem.W.Frag} {ms : List Addr} {H : Hp} {v : V} {d : D} {b : Bool} (h : TopD K ms H v d) (e : truD d = some b) : TruV K v H b := by
  have h := h.dv
  cases h with
  | non => cases e; rfl
  | bl b => cases e; rfl
  | int i => cases e; rfl
  | str x =>
    simp only [truD] at e
    split at e
    · rename_i hl; cases e; exact ⟨hl, rfl⟩
    · cases e
  | lst hs ha => cases e; exact .inl ⟨_, SqL.of hs, by rw [ha.empty]⟩
  | fls hs ha => cases e; exact .inl ⟨_, hs, by rw [ha.empty]⟩
  | tup hs hn ha => cases e; exact .inr (.inl ⟨_, hs, by rw [ha.empty]⟩)
  | pr hs ha => cases e
  | dic hs he ha =>
    cases e
    refine .inr (.inr ⟨_, hs, ?_⟩)
    rename_i kvs es
    cases kvs <;> cases es <;> first | rfl | cases he
  | obj a => cases e
  | ty a => cases e
  | rg a => cases e
def truT (f : EO) : ET := fun δ => (f δ).bind fun (a, δ1) => (rsl δ1 a).bind fun d => (truD d).bind fun b => some (b, δ1)
theorem truT_inv {δ : DE} {r : Bool × DE} (e : truT f δ = some r) : ∃ a δ1 d b, f δ = some (a, δ1) ∧ rsl δ1 a = some d ∧ truD d = some b ∧ r = (b, δ1) := by
  unfold truT at e
  cases q : f δ with
  | none => rw [q] at e; cases e
  | some r1 =>
    obtain ⟨a, δ1⟩ := r1
    cases q3 : rsl δ1 a with
    | none => simp only [q, Option.bind_some, q3] at e; cases e
    | some x =>
      cases q5 : truD x with
      | none => simp only [q, Option.bind_some, q3, q5] at e; cases e
      | some z =>
        simp only [q, Option.bind_some, q3, q5] at e
        exact ⟨a, δ1, x, z, rfl, q3, q5, (Option.some.inj e).symm⟩
theorem dt_tru (ha : PE X a (tO X.K G f)) (he : ∀ whole, isTrue a X.env whole = (do let v ← whole; standAt a.pos; holding [v] (truthy v)) := by intro _; rfl) : PT X a (tT X.K G (truT f)) :=
  PT.imp (pt_truth ha he) fun σ H Q q => by
  obtain ⟨ms, δ, x, δ', R, e, k⟩ := q
  obtain ⟨a, δ1, x, z, q1, q3, q5, e⟩ := truT_inv e
  cases e
  refine ⟨ms, δ, a, _, R, q1, fun v1 H1 m1 R1 e1 h1 => ⟨_, truD_ok (top_of R1 h1 q3) q5, k H1 m1 R1 e1⟩⟩
/-- a comparison whose answer is a bool, as a test -/
def blT (f : EO) : ET := fun δ => (f δ).bind fun (a, δ1) => match a with | .d (.bl b) => some (b, δ1) | _ => none
theorem blT_inv {δ : DE} {r : Bool × DE} (e : blT f δ = some r) : ∃ δ1 b, f δ = some (.d (.bl b), δ1) ∧ r = (b, δ1) := by
  unfold blT at e
  cases q : f δ with
  | none => rw [q] at e; cases e
  | some r1 =>
    obtain ⟨a, δ1⟩ := r1
    simp only [q, Option.bind_some] at e
    split at e
    · exact ⟨δ1, _, rfl, (Option.some.inj e).symm⟩
    · cases e
theorem dt_of {t : TE} (h : PT X a (tTest t)) (w : ∀ σ H Q, tO X.K G f σ H Q → t σ H Q) : PT X a (tT X.K G (blT f)) :=
  PT.imp h fun σ H Q q => by
  obtain ⟨ms, δ, x, δ', R, e, k⟩ := q
  obtain ⟨δ1, b, q1, e⟩ := blT_inv e
  cases e
  refine w σ H _ ⟨ms, δ, _, _, R, q1, fun v1 H1 m1 R1 e1 h1 => ?_⟩
  cases h1
  exact ⟨_, rfl, k H1 m1 R1 e1⟩
theorem dt_cmp {op : CmpOp} {r : R2} {g : Op2} (ho : OpR X (compareOp op) r) (hg : Spec2 X.K r g) (ha : PE X a (tO X.K G f1)) (hb : PE X b (tO X.K G f2)) (hm : behindInMarks op b = false) : PT X (.Compare a [op] [b] pos) (tT X.K G (blT (bin2 g f1 f2))) :=
  dt_of (pt_cmpR ho ha hb hm) fun _ _ _ q => tOp_of hg q
variable {g1 g2 : ET} {rest : List Expr}
/-- and, or, not of tests -/
def andT (g1 g2 : ET) : ET := fun δ => (g1 δ).bind fun (b, δ1) => if b = true then g2 δ1 else some (false, δ1)
def orT (g1 g2 : ET) : ET := fun δ => (g1 δ).bind fun (b, δ1) => if b = true then some (true, δ1) else g2 δ1
def notT (g1 : ET) : ET := fun δ => (g1 δ).bind fun (b, δ1) => some (!b, δ1)
theorem tAnd_of {K : PySem.W.Frag} {σ : L2.St} {H : Hp} {Q : Bool → Hp → Prop} (q : tT K G (andT g1 g2) σ H Q) : tAnd (tT K G g1) (tT K G g2) σ H Q := by
  obtain ⟨ms, δ, x, δ', R, e, k⟩ := q
  unfold andT at e
  cases q : g1 δ with
  | none => rw [q] at e; cases e
  | some r1 =>
    obtain ⟨b, δ1⟩ := r1
    simp only [q, Option.bind_some] at e
    refine ⟨ms, δ, b, δ1, R, q, fun H1 m1 R1 e1 => ?_⟩
    cases b with
    | true =>
      rw [if_pos rfl] at e ⊢
      exact ⟨m1, δ1, x, δ', R1, e, fun H2 m2 R2 e2 => k H2 m2 R2 (e1.trans e2)⟩
    | false =>
      rw [if_neg Bool.false_ne_true] at e ⊢
      cases e
      exact k H1 m1 R1 e1
theorem tOr_of {K : PySem.W.Frag} {σ : L2.St} {H : Hp} {Q : Bool → Hp → Prop} (q : tT K G (orT g1 g2) σ H Q) : tOr (tT K G g1) (tT K G g2) σ H Q := by
  obtain ⟨ms, δ, x, δ', R, e, k⟩ := q
  unfold orT at e
  cases q : g1 δ with
  | none => rw [q] at e; cases e
  | some r1 =>
    obtain ⟨b, δ1⟩ := r1
    simp only [q, Option.bind_some] at e
    refine ⟨ms, δ, b, δ1, R, q, fun H1 m1 R1 e1 => ?_⟩
    cases b with
    | false =>
      rw [if_neg Bool.false_ne_true] at e ⊢
      exact ⟨m1, δ1, x, δ', R1, e, fun H2 m2 R2 e2 => k H2 m2 R2 (e1.trans e2)⟩
    | true =>
      rw [if_pos rfl] at e ⊢
      cases e
      exact k H1 m1 R1 e1
theorem dw_and1 (ha : PT X a (tT X.K G g1)) : PW X (.BoolOp .And [a] pos) (tT X.K G g1) := pw_and1 ha
theorem dw_or1 (ha : PT X a (tT X.K G g1)) : PW X (.BoolOp .Or [a] pos) (tT X.K G g1) := pw_or1 ha
theorem dw_and (ha : PT X a (tT X.K G g1)) (hb : PW X (.BoolOp .And (b :: rest) pos) (tT X.K G g2)) : PW X (.BoolOp .And (a :: b :: rest) pos) (tT X.K G (andT g1 g2)) := PW.imp (pw_and ha hb) fun _ _ _ q => tAnd_of q
theorem dw_or (ha : PT X a (tT X.K G g1)) (hb : PW X (.BoolOp .Or (b :: rest) pos) (tT X.K G g2)) : PW X (.BoolOp .Or (a :: b :: rest) pos) (tT X.K G (orT g1 g2)) := PW.imp (pw_or ha hb) fun _ _ _ q => tOr_of q
theorem dt_not (ha : PT X a (tT X.K G g1)) : PT X (.UnaryOp .Not a pos) (tT X.K G (notT g1)) := PT.imp (pt_not ha) fun σ H Q q => by
  obtain ⟨ms, δ, x, δ', R, e, k⟩ := q
  unfold notT at e
  cases q : g1 δ with
  | none => rw [q] at e; cases e
  | some r1 =>
    obtain ⟨b, δ1⟩ := r1
    simp only [q, Option.bind_some] at e
    cases e
    exact ⟨ms, δ, b, _, R, q, fun H1 m1 R1 e1 => k H1 m1 R1 e1⟩
/-- and, or, not as values -/
def andO (f1 f2 : EO) : EO := fun δ => (f1 δ).bind fun (a, δ1) => (rsl δ1 a).bind fun x => (truD x).bind fun k => if k = true then f2 δ1 else some (a, δ1)
def orO (f1 f2 : EO) : EO := fun δ => (f1 δ).bind fun (a, δ1) => (rsl δ1 a).bind fun x => (truD x).bind fun k => if k = true then some (a, δ1) else f2 δ1
theorem bind3_inv {δ : DE} {F : Ar → DE → D → Bool → Option (Ar × DE)} {r : Ar × DE} (e : ((f1 δ).bind fun (a, δ1) => (rsl δ1 a).bind fun x => (truD x).bind fun k => F a δ1 x k) = some r) : ∃ a δ1 d b, f1 δ = some (a, δ1) ∧ rsl δ1 a = some d ∧ truD d = some b ∧ F a δ1 d b = some r := by
  cases q : f1 δ with
  | none => rw [q] at e; cases e
  | some r1 =>
    obtain ⟨a, δ1⟩ := r1
    cases q3 : rsl δ1 a with
    | none => simp only [q, Option.bind_some, q3] at e; cases e
    | some x =>
      cases q5 : truD x with
      | none => simp only [q, Option.bind_some, q3, q5] at e; cases e
      | some z =>
        simp only [q, Option.bind_some, q3, q5] at e
        exact ⟨a, δ1, x, z, rfl, q3, q5, e⟩
theorem do_one {op} {t : TE} (h : PE X a t) : PE X (.BoolOp op [a] pos) t := pe_one h
theorem do_and (ha : PE X a (tO X.K G f1)) (hb : PE X (.BoolOp .And (b :: rest) pos) (tO X.K G f2)) : PE X (.BoolOp .And (a :: b :: rest) pos) (tO X.K G (andO f1 f2)) := PE.imp (pe_andT ha hb) fun σ H Q q => by
  obtain ⟨ms, δ, x, δ', R, e, k⟩ := q
  obtain ⟨a, δ1, d, b, q1, q2, q3, e⟩ := bind3_inv (F := fun a δ1 _ k => if k = true then f2 δ1 else some (a, δ1)) e
  refine ⟨ms, δ, a, _, R, q1, fun v1 H1 m1 R1 e1 h1 => ⟨b, truD_ok (top_of R1 h1 q2) q3, ?_⟩⟩
  cases b with
  | true =>
    rw [if_pos rfl] at e ⊢
    exact ⟨m1, δ1, x, δ', R1, e, fun v H2 m2 R2 e2 h2 => k v H2 m2 R2 (e1.trans e2) h2⟩
  | false =>
    rw [if_neg Bool.false_ne_true] at e ⊢
    cases e
    exact k v1 H1 m1 R1 e1 h1
theorem do_or (ha : PE X a (tO X.K G f1)) (hb : PE X (.BoolOp .Or (b :: rest) pos) (tO X.K G f2)) : PE X (.BoolOp .Or (a :: b :: rest) pos) (tO X.K G (orO f1 f2)) := PE.imp (pe_orT ha hb) fun σ H Q q => by
  obtain ⟨ms, δ, x, δ', R, e, k⟩ := q
  obtain ⟨a, δ1, d, b, q1, q2, q3, e⟩ := bind3_inv (F := fun a δ1 _ k => if k = true then some (a, δ1) else f2 δ1) e
  refine ⟨ms, δ, a, _, R, q1, fun v1 H1 m1 R1 e1 h1 => ⟨b, truD_ok (top_of R1 h1 q2) q3, ?_⟩⟩
  cases b with
  | false =>
    rw [if_neg Bool.false_ne_true] at e ⊢
    exact ⟨m1, δ1, x, δ', R1, e, fun v H2 m2 R2 e2 h2 => k v H2 m2 R2 (e1.trans e2) h2⟩
  | true =>
    rw [if_pos rfl] at e ⊢
    cases e
    exact k v1 H1 m1 R1 e1 h1
def notO (f1 : EO) : EO := fun δ => (truT f1 δ).bind fun (b, δ1) => some (.d (.bl (!b)), δ1)
theorem do_not (ha : PE X a (tO X.K G f1)) : PE X (.UnaryOp .Not a pos) (tO X.K G (notO f1)) := PE.imp (pe_notT ha) fun σ H Q q => by
  obtain ⟨ms, δ, x, δ', R, e, k⟩ := q
  unfold notO at e
  cases q0 : truT f1 δ with
  | none => rw [q0] at e; cases e
  | some r =>
    obtain ⟨a, δ1, d, b, q1, q2, q3, e'⟩ := truT_inv q0
    subst e'
    simp only [q0, Option.bind_some] at e
    cases e
    exact ⟨ms, δ, a, _, R, q1, fun v1 H1 m1 R1 e1 h1 => ⟨b, truD_ok (top_of R1 h1 q2) q3, k _ H1 m1 R1 e1 (.bl _)⟩⟩
/-- a if t else b -/
def ifO (g : ET) (f1 f2 : EO) : EO := fun δ => (g δ).bind fun (b, δ1) => if b = true then f1 δ1 else f2 δ1
theorem do_if (hc : PT X c (tT X.K G fb)) (ha : PE X a (tO X.K G f1)) (hb : PE X b (tO X.K G f2)) : PE X (.IfExp c a b pos) (tO X.K G (ifO fb f1 f2)) := PE.imp (pe_ifExp hc ha hb) fun σ H Q q => by
  obtain ⟨ms, δ, x, δ', R, e, k⟩ := q
  unfold ifO at e
  cases q : fb δ with
  | none => rw [q] at e; cases e
  | some r1 =>
    obtain ⟨b, δ1⟩ := r1
    simp only [q, Option.bind_some] at e
    refine ⟨ms, δ, b, δ1, R, q, fun H1 m1 R1 e1 => ?_⟩
    cases b with
    | true =>
      rw [if_pos rfl] at e ⊢
      exact ⟨m1, δ1, x, δ', R1, e, fun v H2 m2 R2 e2 h2 => k v H2 m2 R2 (e1.trans e2) h2⟩
    | false =>
      rw [if_neg Bool.false_ne_true] at e ⊢
      exact ⟨m1, δ1, x, δ', R1, e, fun v H2 m2 R2 e2 h2 => k v H2 m2 R2 (e1.trans e2) h2⟩
end
end DL
namespace DL
open PySem PySem.Spec PyProof.Rows L2

/-! ### the operators by data -/
section
variable {K : PySem.W.Frag} {ms : List Addr} {H : Hp}
theorem mask_same {H' : Hp} (s : Same H H') : Same (mask H ms) (mask H' ms) := (Ext.of_same (ms := ms) s).same
theorem dv_new_lst {p : Addr} {xs : List V} {ds : List D} (hm : ∀ a ∈ ms, H a ≠ none) (hp : H p = none) (h : DvAll K (mask H ms) xs ds) : Dv K (mask (upd H p (.lst xs)) ms) (.ref p) (.lst ds) :=
  .lst (mask_some.mpr ⟨fun q => hm p q hp, upd_same⟩) (h.mono (mask_same (same_upd hp)))
theorem dv_new_tup {p : Addr} {xs : List V} {ds : List D} (hm : ∀ a ∈ ms, H a ≠ none) (hp : H p = none) (h : DvAll K (mask H ms) xs ds) : Dv K (mask (upd H p (.tup xs)) ms) (.ref p) (.pr ds) :=
  .pr (SqT.of (mask_some.mpr ⟨fun q => hm p q hp, upd_same⟩)) (h.mono (mask_same (same_upd hp)))
theorem TopD.top_tup {v : V} {ds : List D} (h : TopD K ms H v (.tup ds)) : Dv K (mask H ms) v (.tup ds) := by
  rcases h with h | ⟨p, xs, ds, rfl, e, _⟩
  · exact h
  · cases e
end
def iff2 (C : Int → Int → Bool) (g : Int → Int → D) : Op2 := fun x y => match x, y with
  | .int i, .int j => if C i j then some (g i j) else none
  | _, _ => none
theorem iff2_inv {C : Int → Int → Bool} {g : Int → Int → D} {x y d : D} (e : iff2 C g x y = some d) : ∃ i j, x = .int i ∧ y = .int j ∧ C i j = true ∧ d = g i j := by
  unfold iff2 at e
  split at e
  · split at e
    · rename_i h; exact ⟨_, _, rfl, rfl, h, (Option.some.inj e).symm⟩
    · cases e
  · cases e
theorem spec_I {K : PySem.W.Frag} {P : Int → Int → Prop} {C : Int → Int → Bool} {g : Int → Int → V} {gd : Int → Int → D} (hC : ∀ i j, C i j = true → P i j) (hg : ∀ i j H, Dv K H (g i j) (gd i j)) : Spec2 K (rI P g) (iff2 C gd) :=
  fun ms H v1 v2 d1 d2 d Q h1 h2 hm e k => by
  obtain ⟨i, j, rfl, rfl, hc, rfl⟩ := iff2_inv e
  rw [h1.int, h2.int]
  exact ⟨i, j, rfl, rfl, hC i j hc, k _ H (Same.refl H) (hg i j _)⟩
theorem spec_I0 {K : PySem.W.Frag} {g : Int → Int → V} {gd : Int → Int → D} (hg : ∀ i j H, Dv K H (g i j) (gd i j)) : Spec2 K (rI0 g) (iff2 (fun _ _ => true) gd) :=
  fun ms H v1 v2 d1 d2 d Q h1 h2 hm e k => by
  obtain ⟨i, j, rfl, rfl, hc, rfl⟩ := iff2_inv e
  rw [h1.int, h2.int]
  exact ⟨i, j, rfl, rfl, k _ H (Same.refl H) (hg i j _)⟩

/-- + -/
def addD : Op2 := fun x y => match x, y with
  | .int i, .int j => some (.int (i + j))
  | .tup xs, .tup ys => if xs.length + ys.length ≤ sizeLine then some (.tup (xs ++ ys)) else none
  | .lst xs, .lst ys => if xs.length + ys.length ≤ sizeLine then some (.lst (xs ++ ys)) else none
  | .str a, .str b => if a.length + b.length ≤ sizeLine then some (.str (a ++ b)) else none
  | _, _ => none
def rAddS : R2 := fun x y H Q => ∃ i j, x = .str i ∧ y = .str j ∧ i.length + j.length ≤ sizeLine ∧ Q (.str (i ++ j)) H
def rAddAny (K : PySem.W.Frag) : R2 := fun x y H Q => (rI0 fun i j => .int (i + j)) x y H Q ∨ rCatF K x y H Q ∨ rCat x y H Q ∨ rAddS x y H Q
theorem op_addAny {X : Cx} : OpR X (binaryOp .Add) (rAddAny X.K) := op_add.or (op_catF.or (op_cat.or op_add_str))
theorem spec_add {K : PySem.W.Frag} : Spec2 K (rAddAny K) addD := fun ms H v1 v2 d1 d2 d Q h1 h2 hm e k => by
  unfold addD at e
  split at e
  · cases e
    rw [h1.int, h2.int]
    exact .inl ⟨_, _, rfl, rfl, k _ H (Same.refl H) (.int _)⟩
  · rename_i xs ys
    split at e
    · rename_i hl
      cases e
      obtain ⟨p, us, rfl, s1, a1⟩ := h1.tup
      obtain ⟨q, ws, rfl, s2, a2⟩ := h2.tup
      refine .inr (.inl ⟨p, q, us, ws, rfl, rfl, s1, s2, by rw [a1.length, a2.length]; exact hl, fun z => ?_, fun z1 z => ?_, fun z1 z2 r o hr ho => ?_⟩)
      · subst z
        cases a1
        exact k _ H (Same.refl H) h2.top_tup
      · subst z
        cases a2
        refine k _ H (Same.refl H) ?_
        rw [List.append_nil]; exact h1.top_tup
      · exact k _ _ (same_upd hr) (dv_newT hm hr ho (a1.append a2))
    · cases e
  · rename_i xs ys
    split at e
    · rename_i hl
      cases e
      obtain ⟨p, us, rfl, s1, a1⟩ := h1.lst
      obtain ⟨q, ws, rfl, s2, a2⟩ := h2.lst
      refine .inr (.inr (.inl ⟨p, q, us, ws, rfl, rfl, s1, s2, by rw [a1.length, a2.length]; exact hl, fun r hr => ?_⟩))
      exact k _ _ (same_upd hr) (dv_new_lst hm hr (a1.append a2))
    · cases e
  · split at e
    · rename_i hl
      cases e
      rw [h1.str, h2.str]
      exact .inr (.inr (.inr ⟨_, _, rfl, rfl, hl, k _ H (Same.refl H) (.str _)⟩))
    · cases e
  · cases e
def subD : Op2 := iff2 (fun _ _ => true) fun i j => .int (i - j)
/-- * -/
def mulOk (i j : Int) : Bool := decide (i.natAbs.log2 + j.natAbs.log2 < 1000000)
def mulD : Op2 := fun x y => match x, y with
  | .int i, .int j => if mulOk i j then some (.int (i * j)) else none
  | .lst xs, .int k => if -(2 ^ 63) ≤ k ∧ k < 2 ^ 63 ∧ xs.length * k.toNat ≤ sizeLine then some (.lst (List.replicate k.toNat xs).flatten) else none
  | .tup xs, .int k => if xs ≠ [] ∧ 2 ≤ k ∧ k ≤ 1000 ∧ xs.length ≤ 1000 then some (.tup (List.replicate k.toNat xs).flatten) else none
  | _, _ => none
def rMulAny (K : PySem.W.Frag) : R2 := fun x y H Q => (rI CMulW fun i j => .int (i * j)) x y H Q ∨ rRep x y H Q ∨ rRepF K x y H Q
theorem mulOk_w {i j : Int} (h : mulOk i j = true) : CMulW i j := by
  unfold mulOk at h
  rw [decide_eq_true_eq] at h
  exact h
theorem op_mulAny {X : Cx} : OpR X (binaryOp .Mult) (rMulAny X.K) := op_mulW.or (op_rep.or op_repF)
theorem spec_mul {K : PySem.W.Frag} : Spec2 K (rMulAny K) mulD := fun ms H v1 v2 d1 d2 d Q h1 h2 hm e k => by
  unfold mulD at e
  split at e
  · split at e
    · rename_i hl
      cases e
      rw [h1.int, h2.int]
      exact .inl ⟨_, _, rfl, rfl, mulOk_w hl, k _ H (Same.refl H) (.int _)⟩
    · cases e
  · split at e
    · rename_i hl
      cases e
      obtain ⟨p, us, rfl, s1, a1⟩ := h1.lst
      rw [h2.int]
      exact .inr (.inl ⟨_, _, us, rfl, rfl, s1, hl.1, hl.2.1, by rw [a1.length]; exact hl.2.2, fun r hr => k _ _ (same_upd hr) (dv_new_lst hm hr (a1.rep _))⟩)
    · cases e
  · split at e
    · rename_i hl
      cases e
      obtain ⟨p, us, rfl, s1, a1⟩ := h1.tup
      rw [h2.int]
      refine .inr (.inr ⟨_, _, us, rfl, rfl, s1, fun z => hl.1 ?_, hl.2.1, hl.2.2.1, by rw [a1.length]; exact hl.2.2.2, fun r o hr ho => k _ _ (same_upd hr) (dv_newT hm hr ho (a1.rep _))⟩)
      subst z; cases a1; rfl
    · cases e
  · cases e
/-- //, %, ** -/
def divOk (_ j : Int) : Bool := decide (j ≠ 0) && decide (j.natAbs.log2 < 9000)
def CDivG (_ j : Int) : Prop := j ≠ 0 ∧ j.natAbs.log2 < 9000
theorem op_fdivG {X : Cx} : OpR X (binaryOp .FloorDiv) (rI CDivG fun i j => .int (i.fdiv j)) := opI fun i j _ _ _ _ _ hc q => floordiv_int hc.1 q (.inl (PyProof.noPylong_of_log2 hc.2))
def fdivD : Op2 := iff2 divOk fun i j => .int (i.fdiv j)
theorem spec_fdiv {K : PySem.W.Frag} : Spec2 K (rI CDivG fun i j => .int (i.fdiv j)) fdivD := spec_I (fun i j h => by
  unfold divOk at h
  rw [Bool.and_eq_true, decide_eq_true_eq, decide_eq_true_eq] at h
  exact h) fun _ _ _ => .int _
def modD : Op2 := iff2 (fun _ j => decide (j ≠ 0)) fun i j => .int (i.fmod j)
theorem spec_mod {K : PySem.W.Frag} : Spec2 K (rI (fun _ j => j ≠ 0) fun i j => .int (i.fmod j)) modD := spec_I (fun i j h => of_decide_eq_true h) fun _ _ _ => .int _
def powD : Op2 := iff2 (fun i j => decide (0 ≤ j ∧ j ≤ 1000000 ∧ i.natAbs < 2 ^ 64)) fun i j => .int (i ^ j.toNat)
theorem spec_pow {K : PySem.W.Frag} : Spec2 K (rI CPow fun i j => .int (i ^ j.toNat)) powD := spec_I (fun i j h => by rw [decide_eq_true_eq] at h; exact h) fun _ _ _ => .int _
def negD : Op1 := fun x => match x with | .int i => some (.int (-i)) | _ => none
theorem spec_neg {K : PySem.W.Frag} : Spec1 K (rU fun i => .int (-i)) negD := fun ms H v1 d1 d Q h1 hm e k => by
  unfold negD at e
  split at e
  · cases e; rw [h1.int]; exact ⟨_, rfl, k _ H (Same.refl H) (.int _)⟩
  · cases e
/-- comparisons of ints -/
def ltD : Op2 := iff2 (fun _ _ => true) fun i j => .bl (decide (i < j))
def leD : Op2 := iff2 (fun _ _ => true) fun i j => .bl (decide (i ≤ j))
def gtD : Op2 := iff2 (fun _ _ => true) fun i j => .bl (decide (j < i))
def geD : Op2 := iff2 (fun _ _ => true) fun i j => .bl (decide (j ≤ i))

/-! ### data as PyData -/
mutual
def toPy : D → PyData
  | .non => .none
  | .bl b => .bool b
  | .int i => .int i
  | .str x => .str x
  | .lst xs => .list (toPyAll xs)
  | .tup xs => .tuple (toPyAll xs)
  | .dic _ => .none
  | .obj _ => .none
  | .ty _ => .none
  | .fls _ => .none
  | .pr _ => .none
  | .rg _ _ => .none
def toPyAll : List D → List PyData
  | [] => []
  | d :: ds => toPy d :: toPyAll ds
end
/-- plain data, at most so deep -/
def shp : Nat → D → Bool
  | _, .non => true
  | _, .bl _ => true
  | _, .int _ => true
  | _, .str x => PySem.PyData.strOk x
  | n + 1, .lst xs => xs.all (shp n)
  | n + 1, .tup xs => xs.all (shp n)
  | _, _ => false
theorem toPyAll_map : ∀ xs : List D, toPyAll xs = xs.map toPy
  | [] => by simp [toPyAll]
  | x :: xs => by simp [toPyAll, toPyAll_map xs]
theorem shp_lay : ∀ (n : Nat) (d : D), shp n d = true → (toPy d).canLay0 = true ∧ (toPy d).depth ≤ n := by
  have all : ∀ (n : Nat), (∀ d : D, shp n d = true → (toPy d).canLay0 = true ∧ (toPy d).depth ≤ n) → ∀ xs : List D, xs.all (shp n) = true → PyData.canLayAll0 (toPyAll xs) = true ∧ PyData.depthAll (toPyAll xs) ≤ n := by
    intro n ih xs
    induction xs with
    | nil => intro _; simp [toPyAll, PyData.canLayAll0, PyData.depthAll]
    | cons x xs ihx =>
      intro h
      rw [List.all_cons, Bool.and_eq_true] at h
      have h1 := ih x h.1
      have h2 := ihx h.2
      simp only [toPyAll, PyData.canLayAll0, PyData.depthAll, h1.1, h2.1, Bool.and_true]
      exact ⟨trivial, by omega⟩
  intro n
  induction n with
  | zero =>
    intro d h
    cases d <;> simp [shp] at h <;> simp [toPy, PyData.canLay0, PyData.depth, h]
  | succ n ih =>
    intro d h
    cases d with
    | lst xs =>
      have h' : xs.all (shp n) = true := by simpa only [shp] using h
      have q := all n ih xs h'
      simp only [toPy, PyData.canLay0, PyData.depth]
      exact ⟨q.1, by omega⟩
    | tup xs =>
      have h' : xs.all (shp n) = true := by simpa only [shp] using h
      have q := all n ih xs h'
      simp only [toPy, PyData.canLay0, PyData.depth]
      exact ⟨q.1, by omega⟩
    | _ => simp [shp] at h <;> simp [toPy, PyData.canLay0, PyData.depth, h]
theorem shp_shaped {n : Nat} {d : D} (hn : n ≤ 64) (h : shp n d = true) : SeqAt.shaped (toPy d) = true := by
  obtain ⟨a, b⟩ := shp_lay n d h
  unfold SeqAt.shaped
  rw [a, Bool.true_and]
  exact decide_eq_true (by omega)
theorem dp_of {K : PySem.W.Frag} {H : Hp} : ∀ (n : Nat) (d : D) (v : V), shp n d = true → Dv K H v d → Dp K H v (toPy d) := by
  have all : ∀ (n : Nat), (∀ (d : D) (v : V), shp n d = true → Dv K H v d → Dp K H v (toPy d)) → ∀ (xs : List D) (vs : List V), xs.all (shp n) = true → DvAll K H vs xs → DpAll K H vs (toPyAll xs) := by
    intro n ih xs
    induction xs with
    | nil => intro vs _ h; cases h; simp only [toPyAll]; exact .nil
    | cons x xs ihx =>
      intro vs h hv
      rw [List.all_cons, Bool.and_eq_true] at h
      cases hv with
      | cons a b => simp only [toPyAll]; exact .cons (ih _ _ h.1 a) (ihx _ h.2 b)
  intro n
  induction n with
  | zero =>
    intro d v h hv
    cases hv with
    | non => simp only [toPy]; exact .non
    | bl b => simp only [toPy]; exact .bl b
    | int b => simp only [toPy]; exact .int b
    | str b => simp only [toPy]; exact .str b
    | lst a b => simp [shp] at h
    | tup a c b => simp [shp] at h
    | pr a b => simp [shp] at h
    | dic a b c => simp [shp] at h
    | obj a => simp [shp] at h
    | ty a => simp [shp] at h
    | fls a b => simp [shp] at h
    | rg a => simp [shp] at h
  | succ n ih =>
    intro d v h hv
    cases hv with
    | non => simp only [toPy]; exact .non
    | bl b => simp only [toPy]; exact .bl b
    | int b => simp only [toPy]; exact .int b
    | str b => simp only [toPy]; exact .str b
    | lst a b => simp only [toPy]; exact .lst (SqL.of a) (all n ih _ _ (by simpa only [shp] using h) b)
    | tup a c b => simp only [toPy]; exact .tup a (all n ih _ _ (by simpa only [shp] using h) b)
    | pr a b => simp [shp] at h
    | dic a b c => simp [shp] at h
    | obj a => simp [shp] at h
    | ty a => simp [shp] at h
    | fls a b => simp [shp] at h
    | rg a => simp [shp] at h
mutual
def eqvD : D → D → Bool
  | .non, .non => true
  | .bl a, .bl b => a == b
  | .bl a, .int j => (if a then 1 else 0) == j
  | .int i, .bl b => i == (if b then 1 else 0)
  | .int i, .int j => i == j
  | .str x, .str y => x == y
  | .lst xs, .lst ys => eqvAllD xs ys
  | .tup xs, .tup ys => eqvAllD xs ys
  | _, _ => false
def eqvAllD : List D → List D → Bool
  | [], [] => true
  | x :: xs, y :: ys => eqvD x y && eqvAllD xs ys
  | _, _ => false
end
theorem eqv_toPy : ∀ (n : Nat) (x y : D), shp n x = true → shp n y = true → PyData.eqv (toPy x) (toPy y) = eqvD x y := by
  have all : ∀ (n : Nat), (∀ (x y : D), shp n x = true → shp n y = true → PyData.eqv (toPy x) (toPy y) = eqvD x y) → ∀ (xs ys : List D), xs.all (shp n) = true → ys.all (shp n) = true → PyData.eqvAll (toPyAll xs) (toPyAll ys) = eqvAllD xs ys := by
    intro n ih xs
    induction xs with
    | nil => intro ys _ _; cases ys <;> simp [toPyAll, PyData.eqvAll, eqvAllD]
    | cons x xs ihx =>
      intro ys h h2
      cases ys with
      | nil => simp [toPyAll, PyData.eqvAll, eqvAllD]
      | cons y ys =>
        rw [List.all_cons, Bool.and_eq_true] at h h2
        simp only [toPyAll, PyData.eqvAll, eqvAllD]
        rw [ih _ _ h.1 h2.1, ihx _ h.2 h2.2]
  intro n
  induction n with
  | zero =>
    intro x y h h2
    cases x <;> cases y <;> simp [shp] at h h2 <;> simp [toPy, PyData.eqv, eqvD]
  | succ n ih =>
    intro x y h h2
    cases x with
    | lst xs =>
      cases y with
      | lst ys => simp only [toPy, PyData.eqv, eqvD]; exact all n ih _ _ (by simpa only [shp] using h) (by simpa only [shp] using h2)
      | _ => simp [shp] at h2 <;> simp [toPy, PyData.eqv, eqvD]
    | tup xs =>
      cases y with
      | tup ys => simp only [toPy, PyData.eqv, eqvD]; exact all n ih _ _ (by simpa only [shp] using h) (by simpa only [shp] using h2)
      | _ => simp [shp] at h2 <;> simp [toPy, PyData.eqv, eqvD]
    | _ => cases y <;> simp [shp] at h h2 <;> simp [toPy, PyData.eqv, eqvD]
theorem eqvD_refl : ∀ (n : Nat) (x : D), shp n x = true → eqvD x x = true := by
  have all : ∀ (n : Nat), (∀ (x : D), shp n x = true → eqvD x x = true) → ∀ (xs : List D), xs.all (shp n) = true → eqvAllD xs xs = true := by
    intro n ih xs
    induction xs with
    | nil => intro _; simp [eqvAllD]
    | cons x xs ihx =>
      intro h
      rw [List.all_cons, Bool.and_eq_true] at h
      simp only [eqvAllD]
      rw [ih _ h.1, ihx h.2]; rfl
  intro n
  induction n with
  | zero => intro x h; cases x <;> simp [shp] at h <;> simp [eqvD]
  | succ n ih =>
    intro x h
    cases x with
    | lst xs => simp only [eqvD]; exact all n ih _ (by simpa only [shp] using h)
    | tup xs => simp only [eqvD]; exact all n ih _ (by simpa only [shp] using h)
    | _ => simp [shp] at h <;> simp [eqvD]
/-- ==, != -/
def eqC (x y : D) : Option Bool := match x, y with
  | .str a, .str b => some (a == b)
  | x, y => if shp 60 x && shp 60 y then some (eqvD x y) else none
def eqD : Op2 := fun x y => (eqC x y).bind fun b => some (.bl b)
def neD : Op2 := fun x y => (eqC x y).bind fun b => some (.bl (!b))
def rEqAny (K : PySem.W.Frag) : R2 := fun x y H Q => rEq x y H Q ∨ rEqD K x y H Q
def rNeAny (K : PySem.W.Frag) : R2 := fun x y H Q => rNe x y H Q ∨ rNeD K x y H Q
theorem op_eqAny {X : Cx} (hu : X.A.units + 64 < cLine) : OpR X (compareOp .Eq) (rEqAny X.K) := op_eq.or (op_eqD hu)
theorem op_neAny {X : Cx} (hu : X.A.units + 64 < cLine) : OpR X (compareOp .NotEq) (rNeAny X.K) := op_ne.or (op_neD hu)
theorem eqC_cases {x y : D} {b : Bool} (e : eqC x y = some b) : (∃ s t, x = .str s ∧ y = .str t ∧ b = (s == t)) ∨ (shp 60 x = true ∧ shp 60 y = true ∧ b = eqvD x y) := by
  unfold eqC at e
  split at e
  · exact .inl ⟨_, _, rfl, rfl, (Option.some.inj e).symm⟩
  · split at e
    · rename_i h
      rw [Bool.and_eq_true] at h
      exact .inr ⟨h.1, h.2, (Option.some.inj e).symm⟩
    · cases e
theorem spec_eq {K : PySem.W.Frag} : Spec2 K (rEqAny K) eqD := fun ms H v1 v2 d1 d2 d Q h1 h2 hm e k => by
  unfold eqD at e
  cases q : eqC d1 d2 with
  | none => rw [q] at e; cases e
  | some b =>
    rw [q] at e; cases e
    rcases eqC_cases q with ⟨s, t, rfl, rfl, rfl⟩ | ⟨s1, s2, rfl⟩
    · rw [h1.str, h2.str]
      exact .inl ⟨rfl, k _ H (Same.refl H) (by rw [dec_str]; exact .bl _)⟩
    · refine .inr ⟨_, _, dp_of 60 _ _ s1 h1.dv, dp_of 60 _ _ s2 h2.dv, shp_shaped (by decide) s1, shp_shaped (by decide) s2, ?_⟩
      rw [eqv_toPy 60 _ _ s1 s2]
      exact k _ H (Same.refl H) (.bl _)
theorem spec_ne {K : PySem.W.Frag} : Spec2 K (rNeAny K) neD := fun ms H v1 v2 d1 d2 d Q h1 h2 hm e k => by
  unfold neD at e
  cases q : eqC d1 d2 with
  | none => rw [q] at e; cases e
  | some b =>
    rw [q] at e; cases e
    rcases eqC_cases q with ⟨s, t, rfl, rfl, rfl⟩ | ⟨s1, s2, rfl⟩
    · rw [h1.str, h2.str]
      exact .inl ⟨rfl, k _ H (Same.refl H) (by rw [dec_str]; exact .bl _)⟩
    · refine .inr ⟨_, _, dp_of 60 _ _ s1 h1.dv, dp_of 60 _ _ s2 h2.dv, shp_shaped (by decide) s1, shp_shaped (by decide) s2, ?_⟩
      rw [eqv_toPy 60 _ _ s1 s2]
      exact k _ H (Same.refl H) (.bl _)
/-- is None, is not None -/
def isNonD : D → Bool | .non => true | _ => false
def isD : Op2 := fun x y => match y with | .non => some (.bl (isNonD x)) | _ => none
def isnotD : Op2 := fun x y => match y with | .non => some (.bl (!isNonD x)) | _ => none
def rIsNon : R2 := fun x y H Q => y = .non ∧ Q (.bl (decide (x = .non))) H
def rNotNon : R2 := fun x y H Q => y = .non ∧ Q (.bl (!decide (x = .non))) H
theorem isNon_v {K : PySem.W.Frag} {H : Hp} {v : V} {d : D} (h : Dv K H v d) : decide (v = .non) = isNonD d := by cases h <;> simp [isNonD]
theorem spec_is {K : PySem.W.Frag} : Spec2 K rIsNon isD := fun ms H v1 v2 d1 d2 d Q h1 h2 hm e k => by
  unfold isD at e
  split at e
  · cases e
    rw [h2.non]
    refine ⟨rfl, ?_⟩
    rw [isNon_v h1.dv]
    exact k _ H (Same.refl H) (.bl _)
  · cases e
theorem spec_isnot {K : PySem.W.Frag} : Spec2 K rNotNon isnotD := fun ms H v1 v2 d1 d2 d Q h1 h2 hm e k => by
  unfold isnotD at e
  split at e
  · cases e
    rw [h2.non]
    refine ⟨rfl, ?_⟩
    rw [isNon_v h1.dv]
    exact k _ H (Same.refl H) (.bl _)
  · cases e
/-- in, not in: a list, a tuple of data -/
def inC (x y : D) : Option Bool := match y with
  | .lst ds => if shp 60 x && ds.all (shp 59) then some (ds.any fun z => eqvD z x) else none
  | .tup ds => if shp 60 x && ds.all (shp 59) then some (ds.any fun z => eqvD z x) else none
  | _ => none
def inD : Op2 := fun x y => (inC x y).bind fun b => some (.bl b)
def notInD : Op2 := fun x y => (inC x y).bind fun b => some (.bl (!b))
def rInT (K : PySem.W.Frag) : R2 := fun x y H Q => ∃ d ds, Dp K H x d ∧ Dp K H y (.tuple ds) ∧ SeqAt.shaped d = true ∧ SeqAt.shaped (.tuple ds) = true ∧ Q (.bl (ds.any fun z => PyData.eqv z d)) H
def rNotInT (K : PySem.W.Frag) : R2 := fun x y H Q => ∃ d ds, Dp K H x d ∧ Dp K H y (.tuple ds) ∧ SeqAt.shaped d = true ∧ SeqAt.shaped (.tuple ds) = true ∧ Q (.bl (!ds.any fun z => PyData.eqv z d)) H
end DL
namespace DL
open PySem PySem.Spec PyProof.Rows L2

/-! ### in a list, a tuple -/
theorem op_inT {X : Cx} (hu : X.A.units + 65 < cLine) : OpR X (compareOp .In) (rInT X.K) := by
  intro pins s σ H x y v u Q I rx ry h
  obtain ⟨d, ds, hd, he, sd, se, q⟩ := h
  obtain ⟨as, r1⟩ := Dp.reads I d x v hd rx
  obtain ⟨bs, r2⟩ := Dp.reads I (.tuple ds) y u he ry
  exact SeqAt.in_tuple_reads r2 r1 (by simpa only [PyData.canLay0] using SeqAt.canLay_of_shaped se) (SeqAt.canLay_of_shaped sd) (by have := SeqAt.depth_of_shaped sd; omega) ⟨.bl _, H, I, rfl, q⟩
theorem op_notInT {X : Cx} (hu : X.A.units + 65 < cLine) : OpR X (compareOp .NotIn) (rNotInT X.K) := by
  intro pins s σ H x y v u Q I rx ry h
  obtain ⟨d, ds, hd, he, sd, se, q⟩ := h
  obtain ⟨as, r1⟩ := Dp.reads I d x v hd rx
  obtain ⟨bs, r2⟩ := Dp.reads I (.tuple ds) y u he ry
  exact SeqAt.notIn_tuple_reads r2 r1 (by simpa only [PyData.canLay0] using SeqAt.canLay_of_shaped se) (SeqAt.canLay_of_shaped sd) (by have := SeqAt.depth_of_shaped sd; omega) ⟨.bl _, H, I, rfl, q⟩
def rInAny (K : PySem.W.Frag) : R2 := fun x y H Q => rInD K x y H Q ∨ rInT K x y H Q
def rNotInAny (K : PySem.W.Frag) : R2 := fun x y H Q => rNotInD K x y H Q ∨ rNotInT K x y H Q
theorem op_inAny {X : Cx} (hu : X.A.units + 65 < cLine) : OpR X (compareOp .In) (rInAny X.K) := (op_inD hu).or (op_inT hu)
theorem op_notInAny {X : Cx} (hu : X.A.units + 65 < cLine) : OpR X (compareOp .NotIn) (rNotInAny X.K) := (op_notInD hu).or (op_notInT hu)
theorem shp_up : ∀ (n m : Nat) (d : D), n ≤ m → shp n d = true → shp m d = true := by
  intro n
  induction n with
  | zero => intro m d _ h; cases m <;> cases d <;> simp [shp] at h ⊢ <;> exact h
  | succ n ih =>
    intro m d hm h
    cases m with
    | zero => omega
    | succ m =>
      cases d with
      | lst xs =>
        simp only [shp, List.all_eq_true] at h ⊢
        exact fun x hx => ih m x (by omega) (h x hx)
      | tup xs =>
        simp only [shp, List.all_eq_true] at h ⊢
        exact fun x hx => ih m x (by omega) (h x hx)
      | _ => simp [shp] at h ⊢ <;> exact h
theorem any_toPy {x : D} (hx : shp 60 x = true) : ∀ ds : List D, ds.all (shp 59) = true → ((toPyAll ds).any fun z => PyData.eqv z (toPy x)) = ds.any fun z => eqvD z x
  | [], _ => by simp [toPyAll]
  | d :: ds, h => by
    rw [List.all_cons, Bool.and_eq_true] at h
    simp only [toPyAll, List.any_cons]
    rw [eqv_toPy 60 _ _ (shp_up 59 60 _ (by decide) h.1) hx, any_toPy hx ds h.2]
theorem inC_cases {x y : D} {b : Bool} (e : inC x y = some b) : (∃ ds, y = .lst ds ∧ shp 60 x = true ∧ ds.all (shp 59) = true ∧ b = ds.any fun z => eqvD z x) ∨ (∃ ds, y = .tup ds ∧ shp 60 x = true ∧ ds.all (shp 59) = true ∧ b = ds.any fun z => eqvD z x) := by
  unfold inC at e
  split at e
  · split at e
    · rename_i h; rw [Bool.and_eq_true] at h
      exact .inl ⟨_, rfl, h.1, h.2, (Option.some.inj e).symm⟩
    · cases e
  · split at e
    · rename_i h; rw [Bool.and_eq_true] at h
      exact .inr ⟨_, rfl, h.1, h.2, (Option.some.inj e).symm⟩
    · cases e
  · cases e
theorem spec_in {K : PySem.W.Frag} : Spec2 K (rInAny K) inD := fun ms H v1 v2 d1 d2 d Q h1 h2 hm e k => by
  unfold inD at e
  cases q : inC d1 d2 with
  | none => rw [q] at e; cases e
  | some b =>
    rw [q] at e; cases e
    rcases inC_cases q with ⟨ds, rfl, s1, s2, rfl⟩ | ⟨ds, rfl, s1, s2, rfl⟩
    · have s3 : shp 60 (.lst ds) = true := by simpa only [shp] using s2
      refine .inl ⟨_, toPyAll ds, dp_of 60 _ _ s1 h1.dv, by simpa only [toPy] using dp_of 60 _ _ s3 h2.dv, shp_shaped (by decide) s1, by simpa only [toPy] using shp_shaped (by decide) s3, ?_⟩
      rw [any_toPy s1 ds s2]
      exact k _ H (Same.refl H) (.bl _)
    · have s3 : shp 60 (.tup ds) = true := by simpa only [shp] using s2
      refine .inr ⟨_, toPyAll ds, dp_of 60 _ _ s1 h1.dv, by simpa only [toPy] using dp_of 60 _ _ s3 h2.dv, shp_shaped (by decide) s1, by simpa only [toPy] using shp_shaped (by decide) s3, ?_⟩
      rw [any_toPy s1 ds s2]
      exact k _ H (Same.refl H) (.bl _)
theorem spec_notIn {K : PySem.W.Frag} : Spec2 K (rNotInAny K) notInD := fun ms H v1 v2 d1 d2 d Q h1 h2 hm e k => by
  unfold notInD at e
  cases q : inC d1 d2 with
  | none => rw [q] at e; cases e
  | some b =>
    rw [q] at e; cases e
    rcases inC_cases q with ⟨ds, rfl, s1, s2, rfl⟩ | ⟨ds, rfl, s1, s2, rfl⟩
    · have s3 : shp 60 (.lst ds) = true := by simpa only [shp] using s2
      refine .inl ⟨_, toPyAll ds, dp_of 60 _ _ s1 h1.dv, by simpa only [toPy] using dp_of 60 _ _ s3 h2.dv, shp_shaped (by decide) s1, by simpa only [toPy] using shp_shaped (by decide) s3, ?_⟩
      rw [any_toPy s1 ds s2]
      exact k _ H (Same.refl H) (.bl _)
    · have s3 : shp 60 (.tup ds) = true := by simpa only [shp] using s2
      refine .inr ⟨_, toPyAll ds, dp_of 60 _ _ s1 h1.dv, by simpa only [toPy] using dp_of 60 _ _ s3 h2.dv, shp_shaped (by decide) s1, by simpa only [toPy] using shp_shaped (by decide) s3, ?_⟩
      rw [any_toPy s1 ds s2]
      exact k _ H (Same.refl H) (.bl _)

/-! ### items, slices -/
def ixD : Op2 := fun x y => match x, y with
  | .lst ds, .int i => atI ds i
  | .tup ds, .int i => atI ds i
  | .fls ds, .int i => atI ds i
  | _, _ => none
theorem DvAll.at {K : PySem.W.Frag} {H : Hp} {vs : List V} {ds : List D} {i : Int} {d : D} (h : DvAll K H vs ds) (e : atI ds i = some d) : ∃ v, atI vs i = some v ∧ Dv K H v d := by
  unfold atI at e ⊢
  rw [h.length]
  cases q : ixN ds.length i with
  | none => rw [q] at e; cases e
  | some j =>
    rw [q] at e
    exact h.get e
theorem spec_ix {K : PySem.W.Frag} : Spec2 K (rIx K) ixD := fun ms H v1 v2 d1 d2 d Q h1 h2 hm e k => by
  unfold ixD at e
  split at e
  · obtain ⟨p, us, rfl, s1, a1⟩ := h1.lst
    obtain ⟨v, ev, hv⟩ := a1.at e
    rw [h2.int]
    exact .inl ⟨p, us, _, v, rfl, rfl, SqL.of s1, ev, k _ H (Same.refl H) hv⟩
  · obtain ⟨p, us, rfl, s1, a1⟩ := h1.tup
    obtain ⟨v, ev, hv⟩ := a1.at e
    rw [h2.int]
    exact .inr (.inl ⟨p, us, _, v, rfl, rfl, s1, ev, k _ H (Same.refl H) hv⟩)
  · obtain ⟨p, us, rfl, s1, a1⟩ := h1.fls
    obtain ⟨v, ev, hv⟩ := a1.at e
    rw [h2.int]
    exact .inl ⟨p, us, _, v, rfl, rfl, s1, ev, k _ H (Same.refl H) hv⟩
  · cases e
def cutD (xs : List D) (lo hi : Option Int) : List D := (xs.drop (HT.sIx xs.length 0 lo)).take (HT.sIx xs.length xs.length hi - HT.sIx xs.length 0 lo)
def slD (x : D) (lo hi : Option Int) : Option D := match x with
  | .lst ds => some (.lst (cutD ds lo hi))
  | .tup ds => some (.tup (cutD ds lo hi))
  | .fls ds => some (.lst (cutD ds lo hi))
  | _ => none
def rSlAny (K : PySem.W.Frag) : V → Option Int → Option Int → Hp → VK → Prop := fun x lo hi H Q => rSlL K x lo hi H Q ∨ rSlF K x lo hi H Q
theorem sl_any {X : Cx} : SlR X (rSlAny X.K) := sl_list.or sl_tupF
theorem DvAll.cut {K : PySem.W.Frag} {H : Hp} {vs : List V} {ds : List D} (h : DvAll K H vs ds) (lo hi : Option Int) : DvAll K H (cutV vs lo hi) (cutD ds lo hi) := by
  unfold cutV cutD
  rw [h.length]
  exact (h.drop _).take _
theorem cutD_whole {ds : List D} {lo hi : Option Int} (h : HT.sIx ds.length 0 lo = 0 ∧ HT.sIx ds.length ds.length hi = ds.length) : cutD ds lo hi = ds := by
  unfold cutD
  rw [h.1, h.2]
  simp
theorem slD_ok {K : PySem.W.Frag} {ms : List Addr} {H : Hp} {v : V} {x d : D} {lo hi : Option Int} {Q : VK} (h1 : TopD K ms H v x) (hm : ∀ a ∈ ms, H a ≠ none) (e : slD x lo hi = some d)
    (k : ∀ v H', Same H H' → Dv K (mask H' ms) v d → Q v H') : rSlAny K v lo hi H Q := by
  unfold slD at e
  split at e
  · cases e
    obtain ⟨p, us, rfl, s1, a1⟩ := h1.lst
    exact .inl ⟨p, us, rfl, SqL.of s1, fun r hr => k _ _ (same_upd hr) (dv_new_lst hm hr (a1.cut lo hi))⟩
  · rename_i ds
    cases e
    obtain ⟨p, us, rfl, s1, a1⟩ := h1.tup
    refine .inr ⟨p, us, rfl, s1, fun z => ?_, fun z r o hr ho => k _ _ (same_upd hr) (dv_newT hm hr ho (a1.cut lo hi))⟩
    rw [a1.length] at z
    rw [cutD_whole z] at k
    exact k _ H (Same.refl H) h1.top_tup
  · cases e
    obtain ⟨p, us, rfl, s1, a1⟩ := h1.fls
    exact .inl ⟨p, us, rfl, s1, fun r hr => k _ _ (same_upd hr) (dv_new_lst hm hr (a1.cut lo hi))⟩
  · cases e
/-- the parts of a slice -/
abbrev EP2 := DE → Option (Option Int × DE)
def tPo (K : PySem.W.Frag) (G : Gm) (f : EP2) : TO := fun σ H Q => ∃ ms δ a δ', Rp K G ms H σ δ ∧ f δ = some (a, δ') ∧ ∀ H' ms', Rp K G ms' H' σ δ' → Ext ms H ms' H' → Q a H'
def noP : EP2 := fun δ => some (none, δ)
def soP (f : EO) : EP2 := fun δ => (f δ).bind fun (a, δ1) => match a with | .d (.int i) => some (some i, δ1) | _ => none
section
variable {X : Cx} {G : Gm} {e a b : Expr} {f f1 f2 : EO} {fl fh : EP2} {lo hi : Option Expr} {pos p2 : Pos}
theorem PO.imp {e : Option Expr} {t t' : TO} (h : PO X e t) (w : ∀ σ H Q, t' σ H Q → t σ H Q) : PO X e t' := ⟨fun pins s σ H Q I q => h.run pins s σ H Q I (w σ H Q q)⟩
theorem dpo_none : PO X none (tPo X.K G noP) := PO.imp po_none fun σ H Q q => by
  obtain ⟨ms, δ, x, δ', R, e, k⟩ := q
  cases e
  exact k H ms R .refl
theorem dpo_some (h : PE X e (tO X.K G f)) : PO X (some e) (tPo X.K G (soP f)) := PO.imp (po_some h) fun σ H Q q => by
  obtain ⟨ms, δ, x, δ', R, e, k⟩ := q
  unfold soP at e
  cases q : f δ with
  | none => rw [q] at e; cases e
  | some r =>
    obtain ⟨a, δ1⟩ := r
    simp only [q, Option.bind_some] at e
    split at e
    · cases e
      refine ⟨ms, δ, _, _, R, q, fun v H1 m1 R1 e1 h1 => ?_⟩
      cases h1
      exact ⟨_, rfl, k H1 m1 R1 e1⟩
    · cases e
def sliceO (f : EO) (fl fh : EP2) : EO := fun δ => (f δ).bind fun (a, δ1) => (fl δ1).bind fun (l, δ2) => (fh δ2).bind fun (h, δ3) => (rsl δ3 a).bind fun x => (slD x l h).bind fun z => some (.d z, δ3)
theorem do_slice (he : PE X e (tO X.K G f)) (hl : PO X lo (tPo X.K G fl)) (hu : PO X hi (tPo X.K G fh)) : PE X (.Subscript e (.Slice lo hi none p2) pos) (tO X.K G (sliceO f fl fh)) :=
  PE.imp (pe_slice sl_any he hl hu) fun σ H Q q => by
  obtain ⟨ms, δ, x, δ', R, e, k⟩ := q
  unfold sliceO at e
  cases q : f δ with
  | none => rw [q] at e; cases e
  | some r =>
    obtain ⟨a, δ1⟩ := r
    cases q2 : fl δ1 with
    | none => simp only [q, Option.bind_some, q2] at e; cases e
    | some r2 =>
      obtain ⟨l, δ2⟩ := r2
      cases q3 : fh δ2 with
      | none => simp only [q, Option.bind_some, q2, q3] at e; cases e
      | some r3 =>
        obtain ⟨h, δ3⟩ := r3
        cases q4 : rsl δ3 a with
        | none => simp only [q, Option.bind_some, q2, q3, q4] at e; cases e
        | some y =>
          cases q5 : slD y l h with
          | none => simp only [q, Option.bind_some, q2, q3, q4, q5] at e; cases e
          | some z =>
            simp only [q, Option.bind_some, q2, q3, q4, q5] at e
            cases e
            refine ⟨ms, δ, a, δ1, R, q, fun v1 H1 m1 R1 e1 h1 => ?_⟩
            refine ⟨m1, δ1, l, δ2, R1, q2, fun H2 m2 R2 e2 => ?_⟩
            refine ⟨m2, δ2, h, _, R2, q3, fun H3 m3 R3 e3 => ?_⟩
            exact slD_ok (top_of R3 ((h1.ext e2).ext e3) q4) R3.here q5 fun v H4 s hv => k v H4 m3 (R3.same s) (((e1.trans e2).trans e3).trans (.of_same s)) hv
def revO (f : EO) : EO := fun δ => (f δ).bind fun (a, δ1) => (rsl δ1 a).bind fun x => match x with | .lst ds => some (.d (.lst ds.reverse), δ1) | _ => none
theorem do_revL {k0 : Nat} {q1 q2 q3 : Pos} (he : PE X e (tO X.K G f)) : PE X (.Subscript e (.Slice none none (some (.UnaryOp .USub (.Constant (.int 1) k0 q1) q2)) q3) pos) (tO X.K G (revO f)) :=
  PE.imp (pe_revL he) fun σ H Q q => by
  obtain ⟨ms, δ, x, δ', R, e, k⟩ := q
  unfold revO at e
  cases q : f δ with
  | none => rw [q] at e; cases e
  | some r =>
    obtain ⟨a, δ1⟩ := r
    cases q4 : rsl δ1 a with
    | none => simp only [q, Option.bind_some, q4] at e; cases e
    | some y =>
      simp only [q, Option.bind_some, q4] at e
      split at e
      · cases e
        refine ⟨ms, δ, a, _, R, q, fun v1 H1 m1 R1 e1 h1 => ?_⟩
        obtain ⟨p, us, rfl, s1, a1⟩ := (top_of R1 h1 q4).lst
        exact ⟨p, us, rfl, SqL.of s1, fun r hr => k _ _ m1 (R1.same (same_upd hr)) (e1.trans (.of_same (same_upd hr))) (dv_new_lst R1.here hr a1.reverse)⟩
      · cases e
end

/-! ### built-ins by data -/
def lenD : OpN := fun ds => match ds with
  | [.lst xs] => some (.int xs.length)
  | [.tup xs] => some (.int xs.length)
  | [.fls xs] => some (.int xs.length)
  | _ => none
theorem top1 {K : PySem.W.Frag} {ms : List Addr} {H : Hp} {vs : List V} {d : D} (h : TopAll K ms H vs [d]) : ∃ v, vs = [v] ∧ TopD K ms H v d := by
  cases h with
  | cons a b => cases b; exact ⟨_, rfl, a⟩
theorem top2 {K : PySem.W.Frag} {ms : List Addr} {H : Hp} {vs : List V} {d e : D} (h : TopAll K ms H vs [d, e]) : ∃ v w, vs = [v, w] ∧ TopD K ms H v d ∧ TopD K ms H w e := by
  cases h with
  | cons a b =>
    obtain ⟨w, rfl, c⟩ := top1 b
    exact ⟨_, w, rfl, a, c⟩
theorem spec_len {K : PySem.W.Frag} : SpecN K (fun xs H Q => ∃ p ys, xs = [.ref p] ∧ (SqL K H p ys ∨ SqT K H p ys) ∧ Q (.int ys.length) H) lenD := fun ms H vs ds d Q h hm e k => by
  unfold lenD at e
  split at e
  · cases e
    obtain ⟨v, rfl, t⟩ := top1 h
    obtain ⟨p, us, rfl, s1, a1⟩ := t.lst
    exact ⟨p, us, rfl, .inl (SqL.of s1), k _ H (Same.refl H) (by rw [a1.length]; exact .int _)⟩
  · cases e
    obtain ⟨v, rfl, t⟩ := top1 h
    obtain ⟨p, us, rfl, s1, a1⟩ := t.tup
    exact ⟨p, us, rfl, .inr s1, k _ H (Same.refl H) (by rw [a1.length]; exact .int _)⟩
  · cases e
    obtain ⟨v, rfl, t⟩ := top1 h
    obtain ⟨p, us, rfl, s1, a1⟩ := t.fls
    exact ⟨p, us, rfl, .inl s1, k _ H (Same.refl H) (by rw [a1.length]; exact .int _)⟩
  · cases e
def tupleD : OpN := fun ds => match ds with
  | [.lst xs] => some (.tup xs)
  | [.tup xs] => some (.tup xs)
  | _ => none
theorem spec_tuple {K : PySem.W.Frag} : SpecN K (rTupOfF K) tupleD := fun ms H vs ds d Q h hm e k => by
  unfold tupleD at e
  split at e
  · cases e
    obtain ⟨v, rfl, t⟩ := top1 h
    obtain ⟨p, us, rfl, s1, a1⟩ := t.lst
    exact ⟨p, us, rfl, .inl ⟨SqL.of s1, fun r o hr ho => k _ _ (same_upd hr) (dv_newT hm hr ho a1)⟩⟩
  · cases e
    obtain ⟨v, rfl, t⟩ := top1 h
    have t' := t.top_tup
    obtain ⟨p, us, rfl, s1, a1⟩ := t.tup
    exact ⟨p, us, rfl, .inr ⟨s1, k _ H (Same.refl H) t'⟩⟩
  · cases e
def listD : OpN := fun ds => match ds with
  | [.lst xs] => some (.lst xs)
  | [.tup xs] => some (.lst xs)
  | [.fls xs] => some (.lst xs)
  | _ => none
theorem spec_list {K : PySem.W.Frag} : SpecN K (fun xs H Q => ∃ p ys, xs = [.ref p] ∧ (SqL K H p ys ∨ SqT K H p ys) ∧ ∀ l, H l = none → Q (.ref l) (upd H l (.lst ys))) listD := fun ms H vs ds d Q h hm e k => by
  unfold listD at e
  split at e
  · cases e
    obtain ⟨v, rfl, t⟩ := top1 h
    obtain ⟨p, us, rfl, s1, a1⟩ := t.lst
    exact ⟨p, us, rfl, .inl (SqL.of s1), fun r hr => k _ _ (same_upd hr) (dv_new_lst hm hr a1)⟩
  · cases e
    obtain ⟨v, rfl, t⟩ := top1 h
    obtain ⟨p, us, rfl, s1, a1⟩ := t.tup
    exact ⟨p, us, rfl, .inr s1, fun r hr => k _ _ (same_upd hr) (dv_new_lst hm hr a1)⟩
  · cases e
    obtain ⟨v, rfl, t⟩ := top1 h
    obtain ⟨p, us, rfl, s1, a1⟩ := t.fls
    exact ⟨p, us, rfl, .inl s1, fun r hr => k _ _ (same_upd hr) (dv_new_lst hm hr a1)⟩
  · cases e
/-- functions of ints -/
def int1D (g : Int → D) : OpN := fun ds => match ds with | [.int i] => some (g i) | _ => none
def int2D (g : Int → Int → D) : OpN := fun ds => match ds with | [.int i, .int j] => some (g i j) | _ => none
def int2cD (C : Int → Int → Bool) (g : Int → Int → D) : OpN := fun ds => match ds with | [.int i, .int j] => if C i j then some (g i j) else none | _ => none
theorem int1_inv {g : Int → D} {ds : List D} {d : D} (e : int1D g ds = some d) : ∃ i, ds = [.int i] ∧ d = g i := by
  unfold int1D at e
  split at e
  · exact ⟨_, rfl, (Option.some.inj e).symm⟩
  · cases e
theorem int2_inv {g : Int → Int → D} {ds : List D} {d : D} (e : int2D g ds = some d) : ∃ i j, ds = [.int i, .int j] ∧ d = g i j := by
  unfold int2D at e
  split at e
  · exact ⟨_, _, rfl, (Option.some.inj e).symm⟩
  · cases e
theorem int2c_inv {C : Int → Int → Bool} {g : Int → Int → D} {ds : List D} {d : D} (e : int2cD C g ds = some d) : ∃ i j, ds = [.int i, .int j] ∧ C i j = true ∧ d = g i j := by
  unfold int2cD at e
  split at e
  · split at e
    · rename_i h; exact ⟨_, _, rfl, h, (Option.some.inj e).symm⟩
    · cases e
  · cases e
theorem TopAll.int1 {K : PySem.W.Frag} {ms : List Addr} {H : Hp} {vs : List V} {i : Int} (h : TopAll K ms H vs [.int i]) : vs = [.int i] := by
  obtain ⟨v, rfl, t⟩ := top1 h
  rw [t.int]
theorem TopAll.int2 {K : PySem.W.Frag} {ms : List Addr} {H : Hp} {vs : List V} {i j : Int} (h : TopAll K ms H vs [.int i, .int j]) : vs = [.int i, .int j] := by
  obtain ⟨v, w, rfl, t, u⟩ := top2 h
  rw [t.int, u.int]
def absD : OpN := int1D fun i => .int (if i < 0 then -i else i)
theorem spec_abs {K : PySem.W.Frag} : SpecN K (fun xs H Q => ∃ i, xs = [.int i] ∧ Q (.int (if i < 0 then -i else i)) H) absD := fun ms H vs ds d Q h hm e k => by
  obtain ⟨i, rfl, rfl⟩ := int1_inv e
  rw [h.int1]
  exact ⟨i, rfl, k _ H (Same.refl H) (.int _)⟩
def maxD : OpN := int2D fun i j => .int (if j > i then j else i)
theorem spec_max {K : PySem.W.Frag} : SpecN K (fun xs H Q => ∃ i j, xs = [.int i, .int j] ∧ Q (.int (if j > i then j else i)) H) maxD := fun ms H vs ds d Q h hm e k => by
  obtain ⟨i, j, rfl, rfl⟩ := int2_inv e
  rw [h.int2]
  exact ⟨i, j, rfl, k _ H (Same.refl H) (.int _)⟩
def minD : OpN := int2D fun i j => .int (if j < i then j else i)
theorem spec_min {K : PySem.W.Frag} : SpecN K (fun xs H Q => ∃ i j, xs = [.int i, .int j] ∧ Q (.int (if j < i then j else i)) H) minD := fun ms H vs ds d Q h hm e k => by
  obtain ⟨i, j, rfl, rfl⟩ := int2_inv e
  rw [h.int2]
  exact ⟨i, j, rfl, k _ H (Same.refl H) (.int _)⟩
def intD : OpN := int1D .int
theorem spec_int {K : PySem.W.Frag} : SpecN K (fun xs H Q => (∃ i, xs = [.int i] ∧ Q (.int i) H) ∨ ∃ k, xs = [.bl k] ∧ Q (.int (if k then 1 else 0)) H) intD := fun ms H vs ds d Q h hm e k => by
  obtain ⟨i, rfl, rfl⟩ := int1_inv e
  rw [h.int1]
  exact .inl ⟨i, rfl, k _ H (Same.refl H) (.int _)⟩
def gcdD : OpN := int2D fun a b => .int ((Nat.gcd a.natAbs b.natAbs : Nat) : Int)
theorem spec_gcd {K : PySem.W.Frag} : SpecN K rGcd gcdD := fun ms H vs ds d Q h hm e k => by
  obtain ⟨i, j, rfl, rfl⟩ := int2_inv e
  rw [h.int2]
  exact ⟨i, j, rfl, k _ H (Same.refl H) (.int _)⟩
def divmodD : OpN := int2cD (fun _ j => decide (0 < j ∧ j < 1073741824)) fun i j => .pr [.int (i / j), .int (i % j)]
theorem spec_divmod {K : PySem.W.Frag} : SpecN K (fun xs H Q => ∃ i j, xs = [.int i, .int j] ∧ CDiv i j ∧ ∀ p, H p = none → Q (.ref p) (upd H p (.tup [.int (i / j), .int (i % j)]))) divmodD := fun ms H vs ds d Q h hm e k => by
  obtain ⟨i, j, rfl, hc, rfl⟩ := int2c_inv e
  rw [h.int2]
  rw [decide_eq_true_eq] at hc
  exact ⟨i, j, rfl, hc, fun p hp => k _ _ (same_upd hp) (dv_new_tup hm hp (.cons (.int _) (.cons (.int _) .nil)))⟩
/-- lists of ints, of bools -/
def intsD : List D → Option (List Int)
  | [] => some []
  | .int i :: ds => (intsD ds).bind fun ns => some (i :: ns)
  | _ => none
theorem intsD_ok : ∀ {ds : List D} {ns : List Int}, intsD ds = some ns → ds = ns.map D.int
  | [], ns, e => by cases e; rfl
  | d :: ds, ns, e => by
    unfold intsD at e
    split at e
    · rename_i h; cases h
    · rename_i i ds' h
      cases h
      cases q : intsD ds with
      | none => rw [q] at e; cases e
      | some ms => rw [q] at e; cases e; rw [intsD_ok q]; rfl
    · cases e
theorem intsD_map (ns : List Int) : intsD (ns.map D.int) = some ns := by
  induction ns with
  | nil => rfl
  | cons n ns ih => simp only [List.map_cons, intsD, ih, Option.bind_some]
def blsD : List D → Option (List Bool)
  | [] => some []
  | .bl i :: ds => (blsD ds).bind fun ns => some (i :: ns)
  | _ => none
theorem blsD_ok : ∀ {ds : List D} {ns : List Bool}, blsD ds = some ns → ds = ns.map D.bl
  | [], ns, e => by cases e; rfl
  | d :: ds, ns, e => by
    unfold blsD at e
    split at e
    · rename_i h; cases h
    · rename_i i ds' h
      cases h
      cases q : blsD ds with
      | none => rw [q] at e; cases e
      | some ms => rw [q] at e; cases e; rw [blsD_ok q]; rfl
    · cases e
theorem blsD_map (ns : List Bool) : blsD (ns.map D.bl) = some ns := by
  induction ns with
  | nil => rfl
  | cons n ns ih => simp only [List.map_cons, blsD, ih, Option.bind_some]
def sumD : OpN := fun ds => match ds with
  | [.lst xs] => (intsD xs).bind fun ns => some (.int ns.sum)
  | _ => none
theorem spec_sum {K : PySem.W.Frag} : SpecN K (rSum K) sumD := fun ms H vs ds d Q h hm e k => by
  unfold sumD at e
  split at e
  · rename_i xs
    cases q : intsD xs with
    | none => rw [q] at e; cases e
    | some ns =>
      rw [q] at e; cases e
      obtain ⟨v, rfl, t⟩ := top1 h
      obtain ⟨p, us, rfl, s1, a1⟩ := t.lst
      rw [intsD_ok q] at a1
      rw [a1.ints] at s1
      exact ⟨p, ns, rfl, SqL.of s1, k _ H (Same.refl H) (.int _)⟩
  · cases e
def allD : OpN := fun ds => match ds with
  | [.lst xs] => (blsD xs).bind fun ns => some (.bl (ns.all id))
  | _ => none
theorem spec_all {K : PySem.W.Frag} : SpecN K (rAll K) allD := fun ms H vs ds d Q h hm e k => by
  unfold allD at e
  split at e
  · rename_i xs
    cases q : blsD xs with
    | none => rw [q] at e; cases e
    | some ns =>
      rw [q] at e; cases e
      obtain ⟨v, rfl, t⟩ := top1 h
      obtain ⟨p, us, rfl, s1, a1⟩ := t.lst
      rw [blsD_ok q] at a1
      rw [a1.bls] at s1
      exact ⟨p, ns, rfl, SqL.of s1, k _ H (Same.refl H) (.bl _)⟩
  · cases e
def anyD : OpN := fun ds => match ds with
  | [.lst xs] => (blsD xs).bind fun ns => some (.bl (ns.any id))
  | _ => none
theorem spec_any {K : PySem.W.Frag} : SpecN K (rAny K) anyD := fun ms H vs ds d Q h hm e k => by
  unfold anyD at e
  split at e
  · rename_i xs
    cases q : blsD xs with
    | none => rw [q] at e; cases e
    | some ns =>
      rw [q] at e; cases e
      obtain ⟨v, rfl, t⟩ := top1 h
      obtain ⟨p, us, rfl, s1, a1⟩ := t.lst
      rw [blsD_ok q] at a1
      rw [a1.bls] at s1
      exact ⟨p, ns, rfl, SqL.of s1, k _ H (Same.refl H) (.bl _)⟩
  · cases e
/-- sorted: of ints (any number) -/
def sortI (ns : List Int) : List Int := ns.mergeSort (fun a b => decide (a ≤ b))
theorem sortI_unique {ns ms : List Int} (hp : ms.Perm ns) (hs : ms.Pairwise (· ≤ ·)) : ms = sortI ns := by
  have h2 : (sortI ns).Perm ns := List.mergeSort_perm ns _
  have h3 : (sortI ns).Pairwise (fun a b => decide (a ≤ b) = true) := List.pairwise_mergeSort (fun a b c h1 h2 => by simp at *; omega) (fun a b => by simp; omega) ns
  have h3' : (sortI ns).Pairwise (· ≤ ·) := h3.imp (fun h => by simpa using h)
  exact List.Perm.eq_of_pairwise (fun a b _ _ h1 h2 => Int.le_antisymm h1 h2) hs h3' (hp.trans h2.symm)
def sortedD : OpN := fun ds => match ds with
  | [.lst xs] => (intsD xs).bind fun ns => some (.lst ((sortI ns).map D.int))
  | _ => none
theorem spec_sorted {K : PySem.W.Frag} : SpecN K (rSortedI K) sortedD := fun ms H vs ds d Q h hm e k => by
  unfold sortedD at e
  split at e
  · rename_i xs
    cases q : intsD xs with
    | none => rw [q] at e; cases e
    | some ns =>
      rw [q] at e; cases e
      obtain ⟨v, rfl, t⟩ := top1 h
      obtain ⟨p, us, rfl, s1, a1⟩ := t.lst
      rw [intsD_ok q] at a1
      rw [a1.ints] at s1
      refine ⟨p, ns, rfl, SqL.of s1, fun ns' r hp hs hr => ?_⟩
      rw [sortI_unique hp hs]
      exact k _ _ (same_upd hr) (dv_new_lst hm hr (DvAll.of_ints _))
  · cases e
/-- isinstance -/
def isiT (a b : String) : Option Bool :=
  if a = b then some true
  else if b = "tuple" ∨ b = "str" ∨ b = "bool" ∨ b = "list" then some false
  else if b = "int" then some (a == "bool")
  else none
def tyOfD : D → Option String
  | .non => some "NoneType"
  | .bl _ => some "bool"
  | .int _ => some "int"
  | .str _ => some "str"
  | .lst _ => some "list"
  | .tup _ => some "tuple"
  | .dic _ => some "dict"
  | _ => none
def isiD : OpN := fun ds => match ds with
  | [x, .ty n] => (tyOfD x).bind fun t => if n = "int" ∨ n = "tuple" ∨ n = "str" ∨ n = "bool" ∨ n = "list" then (isiT t n).bind fun b => some (.bl b) else none
  | _ => none
theorem kitB_table : ∀ a ∈ ["NoneType", "bool", "int", "str", "list", "tuple", "dict"], ∀ b ∈ ["int", "tuple", "str", "bool", "list"], kitB a b = isiT a b := by decide +kernel
theorem tyX_of {K : PySem.W.Frag} {H : Hp} {v : V} {d : D} {t : String} (h : Dv K H v d) (e : tyOfD d = some t) : TyX K H v (.type t) ∧ t ∈ ["NoneType", "bool", "int", "str", "list", "tuple", "dict"] := by
  cases h with
  | non => cases e; exact ⟨.base .non, by decide⟩
  | bl b => cases e; exact ⟨.base (.bl b), by decide⟩
  | int b => cases e; exact ⟨.base (.int b), by decide⟩
  | str b => cases e; exact ⟨.base (.str b), by decide⟩
  | lst a b => cases e; exact ⟨.base (.lst a), by decide⟩
  | pr a b => cases e
  | tup a c b =>
    cases e
    refine ⟨?_, by decide⟩
    rcases a with (a | ⟨o, a⟩) | ⟨o, its, n, a, c, _⟩
    · exact .base (.tup a)
    · exact .fTuple a
    · exact .kTuple a c
  | dic a b c => cases e; exact ⟨.base (.dK a), by decide⟩
  | obj a => cases e
  | ty a => cases e
  | fls a b => cases e
  | rg a => cases e
theorem spec_isi {K : PySem.W.Frag} : SpecN K (rIsi K) isiD := fun ms H vs ds d Q h hm e k => by
  unfold isiD at e
  split at e
  · rename_i x n
    obtain ⟨v, w, rfl, t, u⟩ := top2 h
    cases q : tyOfD x with
    | none => rw [q] at e; cases e
    | some ty =>
      rw [q] at e
      simp only [Option.bind_some] at e
      split at e
      · rename_i hn
        cases q2 : isiT ty n with
        | none => rw [q2] at e; cases e
        | some b =>
          rw [q2] at e; cases e
          obtain ⟨h1, h2⟩ := tyX_of t.dv q
          have hb : n ∈ ["int", "tuple", "str", "bool", "list"] := by
            simp only [List.mem_cons, List.not_mem_nil, or_false]
            exact hn
          rw [u.ty]
          exact ⟨v, .ty n, .type ty, .type n, b, rfl, .ty n, h1, kit_ty (by rw [kitB_table ty h2 n hb]; exact q2), k _ H (Same.refl H) (.bl _)⟩
      · cases e
  · cases e
/-- repr -/
def shwOk (d : D) : Bool := shp 60 d && (toPy d).showable && decide ((toPy d).shown.length ≤ sizeLine)
def reprD : OpN := fun ds => match ds with
  | [x] => if shwOk x then some (.str (toPy x).shown) else none
  | _ => none
def rRepr (K : PySem.W.Frag) : List V → Hp → VK → Prop := fun xs H Q => ∃ v d, xs = [v] ∧ Dp K H v d ∧ d.showable = true ∧ d.hasDict = false ∧ d.depth ≤ 60 ∧ d.shown.length ≤ sizeLine ∧ Q (.str d.shown) H
theorem cr_repr {X : Cx} (hu : X.A.units + 62 < cLine) (hg : X.A.guards = some []) : CallR X (.builtin "repr") (rRepr X.K) := by
  intro pins s σ H xs us Q I r h
  obtain ⟨v, d, rfl, hd, hs, hdk, hdep, hlen, q⟩ := h
  obtain ⟨u, rfl, rv⟩ := vals1 r
  obtain ⟨as, hr⟩ := Dp.reads I d v u hd rv
  cases hd with
  | non =>
    cases rv
    refine PySem.P.repr_of_none ⟨.str "None", H, I.tok _, ⟨_, rfl⟩, ?_⟩
    simpa only [PyData.shown] using q
  | bl b =>
    cases rv
    refine PySem.P.repr_of_bool ⟨.str (if b then "True" else "False"), H, I.tok _, ⟨_, by cases b <;> rfl⟩, ?_⟩
    simpa only [PyData.shown] using q
  | int i =>
    obtain ⟨t, rfl⟩ := rv
    refine PySem.P.repr_of_int (by simpa [PyData.showable] using hs) ⟨.str (toString i), H, I.tok _, ⟨_, rfl⟩, ?_⟩
    simpa only [PyData.shown] using q
  | str x =>
    obtain ⟨t, rfl⟩ := rv
    refine PySem.P.repr_of_str ⟨.str (reprText x), H, I.tok _, ⟨_, rfl⟩, ?_⟩ (by simpa only [PyData.shown] using hlen)
    simpa only [PyData.shown] using q
  | lst a b =>
    cases rv
    exact repr_of_reads' hr hs (fun z => by rw [hdk] at z; cases z) hg (by omega) (fun _ _ e => e) (fun h' u tk hk => ⟨.str _, H, I.kept hk, ⟨_, rfl⟩, q⟩) hlen
  | tup a b =>
    cases rv
    exact repr_of_reads' hr hs (fun z => by rw [hdk] at z; cases z) hg (by omega) (fun _ _ e => e) (fun h' u tk hk => ⟨.str _, H, I.kept hk, ⟨_, rfl⟩, q⟩) hlen
theorem spec_repr {K : PySem.W.Frag} : SpecN K (rRepr K) reprD := fun ms H vs ds d Q h hm e k => by
  unfold reprD at e
  split at e
  · rename_i x
    split at e
    · rename_i hs
      cases e
      unfold shwOk at hs
      simp only [Bool.and_eq_true, decide_eq_true_eq] at hs
      obtain ⟨v, rfl, t⟩ := top1 h
      obtain ⟨l1, l2⟩ := shp_lay 60 x hs.1.1
      exact ⟨v, _, rfl, dp_of 60 _ _ hs.1.1 t.dv, hs.1.2, PyData.hasDict_of_canLay _ l1, l2, hs.2, k _ H (Same.refl H) (.str _)⟩
    · cases e
  · cases e
end DL
namespace DL
open PySem PySem.Spec PyProof.Rows L2

/-! ### statements -/
inductive Fl where
  | nx | rt (d : D) | bk | ct | rn (ds : List D)
abbrev ES := DE → Option (Fl × DE)
def FinS (K : PySem.W.Frag) (G : Gm) (E : Ends) (ms : List Addr) (H : Hp) (δ' : DE) : Fl → Prop
  | .nx => ∀ σ' H' ms', Rp K G ms' H' σ' δ' → Ext ms H ms' H' → E.nx σ' H'
  | .rt d => ∀ v σ' H' ms', Rp K G ms' H' σ' δ' → Ext ms H ms' H' → Dv K (mask H' ms') v d → E.rt v H'
  | .bk => ∀ σ' H' ms', Rp K G ms' H' σ' δ' → Ext ms H ms' H' → E.bk σ' H'
  | .ct => ∀ σ' H' ms', Rp K G ms' H' σ' δ' → Ext ms H ms' H' → E.ct σ' H'
  | .rn ds => ∀ p us σ' H' ms', Rp K G ms' H' σ' δ' → Ext ms H ms' H' → H' p = none → DvAll K (mask H' ms') us ds → E.rt (.ref p) (upd H' p (.lst us))
def tS (K : PySem.W.Frag) (G : Gm) (f : ES) : TS := fun E σ H => ∃ ms δ fl δ', Rp K G ms H σ δ ∧ f δ = some (fl, δ') ∧ FinS K G E ms H δ' fl
theorem FinS.ext {K : PySem.W.Frag} {G : Gm} {E : Ends} {ms ms' : List Addr} {H H' : Hp} {δ' : DE} {fl : Fl} (h : FinS K G E ms H δ' fl) (e : Ext ms H ms' H') : FinS K G E ms' H' δ' fl := by
  cases fl with
  | nx => exact fun σ2 H2 m2 R2 e2 => h σ2 H2 m2 R2 (e.trans e2)
  | rt d => exact fun v σ2 H2 m2 R2 e2 hv => h v σ2 H2 m2 R2 (e.trans e2) hv
  | bk => exact fun σ2 H2 m2 R2 e2 => h σ2 H2 m2 R2 (e.trans e2)
  | ct => exact fun σ2 H2 m2 R2 e2 => h σ2 H2 m2 R2 (e.trans e2)
  | rn ds => exact fun p us σ2 H2 m2 R2 e2 hp hv => h p us σ2 H2 m2 R2 (e.trans e2) hp hv
/-- targets -/
abbrev EG := D → DE → Option DE
def tG (K : PySem.W.Frag) (G : Gm) (ws : List Nat) (g : EG) : TG := fun v σ H Q => ∃ ms δ d δ', Rp K G ms H σ δ ∧ Dv K (mask H ms) v d ∧ g d δ = some δ' ∧ ∀ σ' H' ms', Rp K G ms' H' σ' δ' → Ext ms H ms' H' → (∀ j, j ∉ ws → σ'[j]? = σ[j]?) → σ'.length = σ.length → Q σ' H'
abbrev EGs := List D → DE → Option DE
def tGs (K : PySem.W.Frag) (G : Gm) (ws : List Nat) (g : EGs) : TGs := fun vs σ H Q => ∃ ms δ ds δ', Rp K G ms H σ δ ∧ DvAll K (mask H ms) vs ds ∧ g ds δ = some δ' ∧ ∀ σ' H' ms', Rp K G ms' H' σ' δ' → Ext ms H ms' H' → (∀ j, j ∉ ws → σ'[j]? = σ[j]?) → σ'.length = σ.length → Q σ' H'
theorem PG.imp {X : Cx} {e : Expr} {t t' : TG} (h : PG X e t) (w : ∀ v σ H Q, t' v σ H Q → t v σ H Q) : PG X e t' := ⟨fun pins s σ H v u Q I r q => h.run pins s σ H v u Q I r (w v σ H Q q)⟩
theorem PGs.imp {X : Cx} {e : List Expr} {t t' : TGs} (h : PGs X e t) (w : ∀ v σ H Q, t' v σ H Q → t v σ H Q) : PGs X e t' := ⟨fun pins s σ H v u Q I r q => h.run pins s σ H v u Q I r (w v σ H Q q)⟩
section
variable {X : Cx} {G : Gm} {a b c e : Expr} {es : List Expr} {f f1 f2 : EO} {fn : EN} {fa : EA} {fb : ET} {pos : Pos} {st : Stmt} {rest body orelse : List Stmt} {s1 s2 : ES}
def nxS : ES := fun δ => some (.nx, δ)
theorem dss_nil : PSs X [] (tS X.K G nxS) := PSs.imp pss_nil fun E σ H q => by
  obtain ⟨ms, δ, fl, δ', R, e, k⟩ := q
  cases e
  exact k σ H ms R .refl
def seqS (f g : ES) : ES := fun δ => (f δ).bind fun (fl, δ1) => match fl with | .nx => g δ1 | _ => some (fl, δ1)
theorem tSeq_of {K : PySem.W.Frag} {E : Ends} {σ : L2.St} {H : Hp} (q : tS K G (seqS s1 s2) E σ H) : tSeq (tS K G s1) (tS K G s2) E σ H := by
  obtain ⟨ms, δ, fl, δ', R, e, k⟩ := q
  unfold seqS at e
  cases q : s1 δ with
  | none => rw [q] at e; cases e
  | some r =>
    obtain ⟨f1, δ1⟩ := r
    simp only [q, Option.bind_some] at e
    refine ⟨ms, δ, f1, δ1, R, q, ?_⟩
    cases f1 with
    | nx => exact fun σ' H' ms' R' e' => ⟨ms', δ1, fl, δ', R', e, k.ext e'⟩
    | rt d => cases e; exact k
    | bk => cases e; exact k
    | ct => cases e; exact k
    | rn ds => cases e; exact k
theorem dss_cons (h1 : PS X st (tS X.K G s1)) (h2 : PSs X rest (tS X.K G s2)) : PSs X (st :: rest) (tS X.K G (seqS s1 s2)) := PSs.imp (pss_cons h1 h2) fun _ _ _ q => tSeq_of q
theorem dss_one (h1 : PS X st (tS X.K G s1)) : PSs X [st] (tS X.K G s1) := pss_one h1
def bkS : ES := fun δ => some (.bk, δ)
def ctS : ES := fun δ => some (.ct, δ)
theorem ds_break : PS X (.Break pos) (tS X.K G bkS) := PS.imp ps_break fun E σ H q => by
  obtain ⟨ms, δ, fl, δ', R, e, k⟩ := q
  cases e
  exact k σ H ms R .refl
theorem ds_continue : PS X (.Continue pos) (tS X.K G ctS) := PS.imp ps_continue fun E σ H q => by
  obtain ⟨ms, δ, fl, δ', R, e, k⟩ := q
  cases e
  exact k σ H ms R .refl
theorem ds_pass : PS X (.Pass pos) (tS X.K G nxS) := PS.imp ps_pass fun E σ H q => by
  obtain ⟨ms, δ, fl, δ', R, e, k⟩ := q
  cases e
  exact k σ H ms R .refl
def noS : ES := fun _ => none
theorem ds_never : PS X st (tS X.K G noS) := PS.imp ps_never fun E σ H q => by
  obtain ⟨ms, δ, fl, δ', R, e, k⟩ := q
  cases e
def exS (f : EO) : ES := fun δ => (f δ).bind fun (_, δ1) => some (.nx, δ1)
theorem ds_expr (he : PE X e (tO X.K G f)) (hs : swapsWith e none pos.line X.env = pure false := by rfl) : PS X (.Expr e pos) (tS X.K G (exS f)) := PS.imp (ps_expr he hs) fun E σ H q => by
  obtain ⟨ms, δ, fl, δ', R, e, k⟩ := q
  unfold exS at e
  cases q : f δ with
  | none => rw [q] at e; cases e
  | some r =>
    obtain ⟨a, δ1⟩ := r
    simp only [q, Option.bind_some] at e
    cases e
    exact ⟨ms, δ, a, _, R, q, fun v H1 m1 R1 e1 h1 => k σ H1 m1 R1 e1⟩
def retS (f : EO) : ES := fun δ => (f δ).bind fun (a, δ1) => (frz a δ1).bind fun (d, δ2) => some (.rt d, δ2)
theorem ds_ret (he : PE X e (tO X.K G f)) : PS X (.Return (some e) pos) (tS X.K G (retS f)) := PS.imp (ps_ret he) fun E σ H q => by
  obtain ⟨ms, δ, fl, δ', R, e, k⟩ := q
  unfold retS at e
  cases q : f δ with
  | none => rw [q] at e; cases e
  | some r =>
    obtain ⟨a, δ1⟩ := r
    cases q2 : frz a δ1 with
    | none => simp only [q, Option.bind_some, q2] at e; cases e
    | some r2 =>
      obtain ⟨d, δ2⟩ := r2
      simp only [q, Option.bind_some, q2] at e
      cases e
      refine ⟨ms, δ, a, δ1, R, q, fun v H1 m1 R1 e1 h1 => ?_⟩
      obtain ⟨m2, R2, e2, d2⟩ := frz_ok R1 h1 q2
      exact k v σ H1 m2 R2 (e1.trans e2) d2
/-- a new list is returned -/
def retN (fn : EN) : ES := fun δ => (fn δ).bind fun (ds, δ1) => some (.rn ds, δ1)
theorem ds_retNew (he : PE X e (tN X.K G fn)) : PS X (.Return (some e) pos) (tS X.K G (retN fn)) := PS.imp (ps_ret he) fun E σ H q => by
  obtain ⟨ms, δ, fl, δ', R, e, k⟩ := q
  unfold retN at e
  cases q : fn δ with
  | none => rw [q] at e; cases e
  | some r =>
    obtain ⟨ds, δ1⟩ := r
    simp only [q, Option.bind_some] at e
    cases e
    exact ⟨ms, δ, ds, _, R, q, fun p us H1 m1 R1 e1 hp hd => k p us σ H1 m1 R1 e1 hp hd⟩
theorem ds_retN : PS X (.Return none pos) (tS X.K G (fun δ => some (.rt .non, δ))) := PS.imp ps_retN fun E σ H q => by
  obtain ⟨ms, δ, fl, δ', R, e, k⟩ := q
  cases e
  exact k .non σ H ms R .refl .non
def ifS (g : ET) (s1 s2 : ES) : ES := fun δ => (g δ).bind fun (b, δ1) => if b = true then s1 δ1 else s2 δ1
theorem ds_if (hc : PT X c (tT X.K G fb)) (ha : PSs X body (tS X.K G s1)) (hb : PSs X orelse (tS X.K G s2)) : PS X (.If c body orelse pos) (tS X.K G (ifS fb s1 s2)) := PS.imp (ps_if hc ha hb) fun E σ H q => by
  obtain ⟨ms, δ, fl, δ', R, e, k⟩ := q
  unfold ifS at e
  cases q : fb δ with
  | none => rw [q] at e; cases e
  | some r =>
    obtain ⟨b, δ1⟩ := r
    simp only [q, Option.bind_some] at e
    refine ⟨ms, δ, b, δ1, R, q, fun H1 m1 R1 e1 => ?_⟩
    cases b with
    | true =>
      rw [if_pos rfl] at e ⊢
      exact ⟨m1, δ1, fl, δ', R1, e, k.ext e1⟩
    | false =>
      rw [if_neg Bool.false_ne_true] at e ⊢
      exact ⟨m1, δ1, fl, δ', R1, e, k.ext e1⟩

/-! ### targets, assignments -/
def nameG (i : Nat) : EG := fun d δ => if notBo δ i then some (δ.set i (some (.fz d))) else none
theorem dg_name {i : Nat} {x : Str} (hN : X.N.Nodup) (hi : X.N[i]? = some x := by rfl) (hx : Loc X.env.scope x := by first | exact .inl rfl | exact .inr rfl) (hf : X.fn x = true ∨ X.env.scope.names.lookup x = some .local := by first | exact .inl rfl | exact .inr rfl | assumption) : PG X (.Name x pos) (tG X.K G [i] (nameG i)) :=
  PG.imp (pg_name hN hi hx hf) fun v σ H Q q => by
  obtain ⟨ms, δ, d, δ', R, hd, e, k⟩ := q
  unfold nameG at e
  split at e
  · rename_i hb
    cases e
    exact k _ H ms (R.setFz hb hd) .refl (fun j hj => List.getElem?_set_ne (fun z => hj (by simp [z]))) (by simp)
  · cases e
def nilG : EGs := fun ds δ => match ds with | [] => some δ | _ => none
def consG (g : EG) (gs : EGs) : EGs := fun ds δ => match ds with | d :: ds => (g d δ).bind fun δ1 => gs ds δ1 | [] => none
theorem dgs_nil : PGs X [] (tGs X.K G [] nilG) := PGs.imp pgs_nil fun v σ H Q q => by
  obtain ⟨ms, δ, ds, δ', R, hd, e, k⟩ := q
  unfold nilG at e
  split at e
  · cases e
    cases hd
    exact ⟨rfl, k σ H ms R .refl (fun _ _ => rfl) rfl⟩
  · cases e
theorem dgs_cons {g : EG} {gs : EGs} {w1 w2 : List Nat} (h1 : PG X e (tG X.K G w1 g)) (h2 : PGs X es (tGs X.K G w2 gs))
    (hs : (assignEach (e :: es) X.env).map (·.2) = assign e X.env :: (assignEach es X.env).map (·.2) := by rfl) : PGs X (e :: es) (tGs X.K G (w1 ++ w2) (consG g gs)) := PGs.imp (pgs_cons h1 h2 hs) fun v σ H Q q => by
  obtain ⟨ms, δ, ds, δ', R, hd, e, k⟩ := q
  unfold consG at e
  split at e
  · rename_i d ds
    cases hd with
    | cons hv ht =>
      cases q : g d δ with
      | none => rw [q] at e; cases e
      | some δ1 =>
        simp only [q, Option.bind_some] at e
        refine ⟨_, _, rfl, ms, δ, d, δ1, R, hv, q, fun σ1 H1 m1 R1 e1 z1 y1 => ?_⟩
        exact ⟨m1, δ1, ds, δ', R1, ht.mono e1.same, e, fun σ2 H2 m2 R2 e2 z2 y2 => k σ2 H2 m2 R2 (e1.trans e2) (fun j hj => (z2 j fun z => hj (List.mem_append_right _ z)).trans (z1 j fun z => hj (List.mem_append_left _ z))) (y2.trans y1)⟩
  · cases e
def tupG (n : Nat) (gs : EGs) : EG := fun d δ => match d with | .tup ds => if ds.length = n then gs ds δ else none | .pr ds => if ds.length = n then gs ds δ else none | _ => none
theorem dg_tup {k0 : Nat} {gs : EGs} {n : Nat} {ws : List Nat} (h : PGs X es (tGs X.K G ws gs)) (hc : X.calm = true := by rfl)
    (hn : (assignEach es X.env).length = n := by rfl) (hst : (assignEach es X.env).findIdx? (·.1) = none := by rfl) : PG X (.Tuple es k0 pos) (tG X.K G ws (tupG n gs)) := PG.imp (pg_tup hc h hn hst) fun v σ H Q q => by
  obtain ⟨ms, δ, d, δ', R, hd, e, k⟩ := q
  unfold tupG at e
  split at e
  · split at e
    · rename_i hl
      cases hd with
      | tup hs hn ha => exact ⟨_, _, rfl, Same.seqT mask_sub hs, by rw [ha.length]; exact hl, ms, δ, _, δ', R, ha, e, k⟩
    · cases e
  · split at e
    · rename_i hl
      cases hd with
      | pr hs ha => exact ⟨_, _, rfl, Same.seqT mask_sub hs, by rw [ha.length]; exact hl, ms, δ, _, δ', R, ha, e, k⟩
    · cases e
  · cases e
/-- o[i] = .., o an owned or borrowed list in slot j -/
def subG (j : Nat) (fi : EO) : EG := fun d δ => (vO j δ).bind fun _ => (fi δ).bind fun (a, δ1) => match a with
  | .d (.int k) => match δ1[j]? with
    | some (some s) => (cont s).bind fun xs => (ixN xs.length k).bind fun m => some (δ1.set j (some (recont (xs.set m d) s)))
    | _ => none
  | _ => none
theorem Rp.contOk {K : PySem.W.Frag} {ms : List Addr} {H : Hp} {σ : L2.St} {δ : DE} {i : Nat} {s : Sl} {xs : List D} (R : Rp K G ms H σ δ) (hi : δ[i]? = some (some s)) (hc : cont s = some xs) : ∃ p us, σ[i]? = some (some (.ref p)) ∧ H p = some (.lst us) ∧ DvAll K (mask H ms) us xs := by
  cases s with
  | fz d => cases hc
  | ow ds => cases hc; obtain ⟨p, us, a, b, c, d, f⟩ := R.slot i _ hi; exact ⟨p, us, a, d, f⟩
  | bo ds => cases hc; obtain ⟨p, us, a, b, d, f⟩ := R.slot i _ hi; exact ⟨p, us, a, d, f⟩
theorem Rp.has {K : PySem.W.Frag} {ms : List Addr} {H : Hp} {σ : L2.St} {δ : DE} {i : Nat} {r : Ar × DE} (R : Rp K G ms H σ δ) (e : vO i δ = some r) : ∃ v, σ[i]? = some (some v) := by
  unfold vO at e
  split at e
  · rename_i d hs
    obtain ⟨v, a, b⟩ := R.slot i _ hs
    exact ⟨v, a⟩
  · rename_i s hs hn
    cases s with
    | fz d => exact absurd rfl (hs d)
    | ow ds => obtain ⟨p, xs, a, _⟩ := R.slot i _ hn; exact ⟨_, a⟩
    | bo ds => obtain ⟨p, xs, a, _⟩ := R.slot i _ hn; exact ⟨_, a⟩
  · cases e
theorem dg_sub {j : Nat} {x : Str} {px : Pos} {i : Expr} {fi : EO} (hi : PE X i (tO X.K G fi)) (hN : X.N[j]? = some x := by rfl) (hv : Vis X.env.scope x := by first | exact Or.inl rfl | exact Or.inr (Or.inl rfl) | exact Or.inr (Or.inr rfl)) (hd : (x == ("__debug__" : Str)) = false := by decide)
    (hcd : (x == ("__classdict__" : Str)) = false := by decide)
    (ha : ∀ v, assign (.Subscript (.Name x px) i pos) X.env v = (do
      let ov ← holding [v] (eval (.Name x px) X.env)
      let iv ← holding [v, ov] (eval i X.env)
      standAt pos
      holding [v, ov, iv] (setItem ov iv v)
      release [v, ov, iv] []) := by intro _; rfl) : PG X (.Subscript (.Name x px) i pos) (tG X.K G [] (subG j fi)) := PG.imp (pg_sub (pe_var hN hv hd hcd) hi set_list ha) fun v σ H Q q => by
  obtain ⟨ms, δ, d, δ', R, hd', e, k⟩ := q
  unfold subG at e
  cases q0 : vO j δ with
  | none => rw [q0] at e; cases e
  | some r0 =>
    cases q : fi δ with
    | none => simp only [q0, q, Option.bind_some] at e; cases e
    | some r =>
      obtain ⟨a, δ1⟩ := r
      simp only [q0, q, Option.bind_some] at e
      split at e
      · rename_i kk
        split at e
        · rename_i s hs
          cases q2 : cont s with
          | none => rw [q2] at e; cases e
          | some xs =>
            cases q3 : ixN xs.length kk with
            | none => simp only [q2, Option.bind_some, q3] at e; cases e
            | some m =>
              simp only [q2, Option.bind_some, q3] at e
              cases e
              obtain ⟨pv, hpv⟩ := R.has q0
              refine ⟨pv, hpv, ms, δ, _, δ1, R, q, fun iv H1 m1 R1 e1 h1 => ?_⟩
              cases h1
              obtain ⟨p, us, a1, a2, a3⟩ := R1.contOk hs q2
              rw [hpv] at a1
              cases a1
              refine ⟨p, us, kk, m, rfl, rfl, a2, by rw [a3.length]; exact q3, ?_⟩
              obtain ⟨R2, e2⟩ := R1.write hs (by rw [q2]; rfl) hpv (DvAll.set (hd'.mono e1.same) m a3)
              exact k σ _ m1 R2 (e1.trans e2) (fun _ _ => rfl) rfl
        · cases e
      · cases e
/-- target = value -/
def asgS (f : EO) (g : EG) : ES := fun δ => (f δ).bind fun (a, δ1) => (frz a δ1).bind fun (d, δ2) => (g d δ2).bind fun δ3 => some (.nx, δ3)
theorem tAsg_of {K : PySem.W.Frag} {g : EG} {ws : List Nat} {E : Ends} {σ : L2.St} {H : Hp} (q : tS K G (asgS f g) E σ H) : tAsg (tO K G f) (tG K G ws g) E σ H := by
  obtain ⟨ms, δ, fl, δ', R, e, k⟩ := q
  unfold asgS at e
  cases q : f δ with
  | none => rw [q] at e; cases e
  | some r =>
    obtain ⟨a, δ1⟩ := r
    cases q2 : frz a δ1 with
    | none => simp only [q, Option.bind_some, q2] at e; cases e
    | some r2 =>
      obtain ⟨d, δ2⟩ := r2
      cases q3 : g d δ2 with
      | none => simp only [q, Option.bind_some, q2, q3] at e; cases e
      | some δ3 =>
        simp only [q, Option.bind_some, q2, q3] at e
        cases e
        refine ⟨ms, δ, a, δ1, R, q, fun v H1 m1 R1 e1 h1 => ?_⟩
        obtain ⟨m2, R2, e2, d2⟩ := frz_ok R1 h1 q2
        exact ⟨m2, δ2, d, _, R2, d2, q3, fun σ3 H3 m3 R3 e3 _ _ => k σ3 H3 m3 R3 ((e1.trans e2).trans e3)⟩
theorem ds_asg {tg : Expr} {g : EG} {ws : List Nat} (he : PE X e (tO X.K G f)) (hg : PG X tg (tG X.K G ws g)) (hs : swapsWithSole [tg] e pos.line X.env = pure false := by rfl) (hw : swappedStores [tg] e X.env = pure none := by rfl)
    (h1 : (assignEach [tg] X.env).map (·.2) = [assign tg X.env] := by rfl) : PS X (.Assign [tg] e pos) (tS X.K G (asgS f g)) := PS.imp (ps_asg he hg hs hw h1) fun _ _ _ q => tAsg_of q
theorem gName_of {K : PySem.W.Frag} {i : Nat} {v : V} {σ : L2.St} {H : Hp} {Q : L2.St → Hp → Prop} (q : tG K G [i] (nameG i) v σ H Q) : gName i v σ H Q := by
  obtain ⟨ms, δ, d, δ', R, hd, e, k⟩ := q
  unfold nameG at e
  split at e
  · rename_i hb
    cases e
    exact k _ H ms (R.setFz hb hd) .refl (fun j hj => List.getElem?_set_ne (fun z => hj (by simp [z]))) (by simp)
  · cases e
/-- name = value -/
def setS (i : Nat) (f : EO) : ES := asgS f (nameG i)
theorem ds_set {i : Nat} {x : Str} {pos' : Pos} (hN : X.N.Nodup) (he : PE X e (tO X.K G f)) (hi : X.N[i]? = some x := by rfl) (hx : Loc X.env.scope x := by first | exact .inl rfl | exact .inr rfl) (hs : swapsWith e (some (.Name x pos')) pos.line X.env = pure false := by rfl) (hf : X.fn x = true ∨ X.env.scope.names.lookup x = some .local := by first | exact .inl rfl | exact .inr rfl | assumption) :
    PS X (.Assign [.Name x pos'] e pos) (tS X.K G (setS i f)) := PS.imp (ps_set hN hi hx he hs hf) fun E σ H q => by
  have q' := tAsg_of (ws := [i]) q
  obtain ⟨ms, δ, a, δ1, R, q, k⟩ := q'
  exact ⟨ms, δ, a, δ1, R, q, fun v H' ms' R' e' h' => gName_of (k v H' ms' R' e' h')⟩
/-- name = a new list, which the name owns -/
def ownS (i : Nat) (fn : EN) : ES := fun δ => (fn δ).bind fun (ds, δ1) => if notBo δ1 i then some (.nx, δ1.set i (some (.ow ds))) else none
theorem ds_own {i : Nat} {x : Str} {pos' : Pos} (hN : X.N.Nodup) (he : PE X e (tN X.K G fn)) (hi : X.N[i]? = some x := by rfl) (hx : Loc X.env.scope x := by first | exact .inl rfl | exact .inr rfl) (hs : swapsWith e (some (.Name x pos')) pos.line X.env = pure false := by rfl) (hf : X.fn x = true ∨ X.env.scope.names.lookup x = some .local := by first | exact .inl rfl | exact .inr rfl | assumption) :
    PS X (.Assign [.Name x pos'] e pos) (tS X.K G (ownS i fn)) := PS.imp (ps_set hN hi hx he hs hf) fun E σ H q => by
  obtain ⟨ms, δ, fl, δ', R, e, k⟩ := q
  unfold ownS at e
  cases q : fn δ with
  | none => rw [q] at e; cases e
  | some r =>
    obtain ⟨ds, δ1⟩ := r
    simp only [q, Option.bind_some] at e
    split at e
    · rename_i hb
      cases e
      refine ⟨ms, δ, ds, δ1, R, q, fun p xs H1 m1 R1 e1 hp hd => ?_⟩
      obtain ⟨R2, e2⟩ := R1.setOw hb hp hd
      exact k _ _ _ R2 (e1.trans e2)
    · cases e
/-- a, b = x, y -/
def par2S (i j : Nat) (fa : EA) : ES := fun δ => (fa δ).bind fun (as, δ1) => (frzs as δ1).bind fun (ds, δ2) => match ds with
  | [x, y] => (nameG i x δ2).bind fun δ3 => (nameG j y δ3).bind fun δ4 => some (.nx, δ4)
  | _ => none
theorem nameG_inv {i : Nat} {d : D} {δ δ' : DE} (e : nameG i d δ = some δ') : notBo δ i = true ∧ δ' = δ.set i (some (.fz d)) := by
  unfold nameG at e
  split at e
  · rename_i h; exact ⟨h, (Option.some.inj e).symm⟩
  · cases e
theorem ds_par2 {i j : Nat} {x y : Str} {px py pt : Pos} {kt k2 pt2} (hN : X.N.Nodup) (ha : PA X [a, b] (tAr X.K G fa)) (hc : X.calm = true := by rfl) (hi : X.N[i]? = some x := by rfl) (hj : X.N[j]? = some y := by rfl) (hij : i ≠ j := by decide)
    (hx : X.env.scope.names.lookup x = some .local := by rfl) (hy : X.env.scope.names.lookup y = some .local := by rfl)
    (hw : swappedStores [.Tuple [.Name x px, .Name y py] kt pt] (.Tuple [a, b] k2 pt2) X.env = pure (some [x, y]) := by rfl)
    (hs : swapsWithSole [.Tuple [.Name x px, .Name y py] kt pt] (.Tuple [a, b] k2 pt2) pos.line X.env = pure false := by rfl) :
    PS X (.Assign [.Tuple [.Name x px, .Name y py] kt pt] (.Tuple [a, b] k2 pt2) pos) (tS X.K G (par2S i j fa)) := PS.imp (ps_par hc hN hi hj hij hx hy ha hw hs) fun E σ H q => by
  obtain ⟨ms, δ, fl, δ', R, e, k⟩ := q
  unfold par2S at e
  cases q : fa δ with
  | none => rw [q] at e; cases e
  | some r =>
    obtain ⟨as, δ1⟩ := r
    cases q2 : frzs as δ1 with
    | none => simp only [q, Option.bind_some, q2] at e; cases e
    | some r2 =>
      obtain ⟨ds, δ2⟩ := r2
      simp only [q, Option.bind_some, q2] at e
      split at e
      · rename_i d1 d2
        cases q3 : nameG i d1 δ2 with
        | none => rw [q3] at e; cases e
        | some δ3 =>
          cases q4 : nameG j d2 δ3 with
          | none => simp only [q3, Option.bind_some, q4] at e; cases e
          | some δ4 =>
            simp only [q3, Option.bind_some, q4] at e
            cases e
            obtain ⟨b1, rfl⟩ := nameG_inv q3
            obtain ⟨b2, rfl⟩ := nameG_inv q4
            refine ⟨ms, δ, as, δ1, R, q, fun vs H1 m1 R1 e1 h1 => ?_⟩
            obtain ⟨m2, R2, e2, d2⟩ := frzs_ok R1 h1 q2
            cases d2 with
            | cons w1 t1 =>
              cases t1 with
              | cons w2 t2 =>
                cases t2
                exact ⟨_, _, rfl, k _ H1 m2 ((R2.setFz b1 w1).setFz b2 w2) (e1.trans e2)⟩
      · cases e
def par3S (i j l : Nat) (fa : EA) : ES := fun δ => (fa δ).bind fun (as, δ1) => (frzs as δ1).bind fun (ds, δ2) => match ds with
  | [x, y, z] => (nameG i x δ2).bind fun δ3 => (nameG j y δ3).bind fun δ4 => (nameG l z δ4).bind fun δ5 => some (.nx, δ5)
  | _ => none
theorem ds_par3 {i j l : Nat} {x y z : Str} {px py pz pt : Pos} {kt k2 pt2} (hN : X.N.Nodup) (ha : PA X [a, b, c] (tAr X.K G fa)) (hc : X.calm = true := by rfl) (hi : X.N[i]? = some x := by rfl) (hj : X.N[j]? = some y := by rfl) (hl : X.N[l]? = some z := by rfl) (hij : i ≠ j := by decide) (hil : i ≠ l := by decide) (hjl : j ≠ l := by decide)
    (hx : X.env.scope.names.lookup x = some .local := by rfl) (hy : X.env.scope.names.lookup y = some .local := by rfl) (hz : X.env.scope.names.lookup z = some .local := by rfl)
    (hw : swappedStores [.Tuple [.Name x px, .Name y py, .Name z pz] kt pt] (.Tuple [a, b, c] k2 pt2) X.env = pure (some [x, y, z]) := by rfl)
    (hs : swapsWithSole [.Tuple [.Name x px, .Name y py, .Name z pz] kt pt] (.Tuple [a, b, c] k2 pt2) pos.line X.env = pure false := by rfl) :
    PS X (.Assign [.Tuple [.Name x px, .Name y py, .Name z pz] kt pt] (.Tuple [a, b, c] k2 pt2) pos) (tS X.K G (par3S i j l fa)) := PS.imp (ps_par3 hc hN hi hj hl hij hil hjl hx hy hz ha hw hs) fun E σ H q => by
  obtain ⟨ms, δ, fl, δ', R, e, k⟩ := q
  unfold par3S at e
  cases q : fa δ with
  | none => rw [q] at e; cases e
  | some r =>
    obtain ⟨as, δ1⟩ := r
    cases q2 : frzs as δ1 with
    | none => simp only [q, Option.bind_some, q2] at e; cases e
    | some r2 =>
      obtain ⟨ds, δ2⟩ := r2
      simp only [q, Option.bind_some, q2] at e
      split at e
      · rename_i d1 d2 d3
        cases q3 : nameG i d1 δ2 with
        | none => rw [q3] at e; cases e
        | some δ3 =>
          cases q4 : nameG j d2 δ3 with
          | none => simp only [q3, Option.bind_some, q4] at e; cases e
          | some δ4 =>
            cases q5 : nameG l d3 δ4 with
            | none => simp only [q3, Option.bind_some, q4, q5] at e; cases e
            | some δ5 =>
              simp only [q3, Option.bind_some, q4, q5] at e
              cases e
              obtain ⟨b1, rfl⟩ := nameG_inv q3
              obtain ⟨b2, rfl⟩ := nameG_inv q4
              obtain ⟨b3, rfl⟩ := nameG_inv q5
              refine ⟨ms, δ, as, δ1, R, q, fun vs H1 m1 R1 e1 h1 => ?_⟩
              obtain ⟨m2, R2, e2, d2⟩ := frzs_ok R1 h1 q2
              cases d2 with
              | cons w1 t1 =>
                cases t1 with
                | cons w2 t2 =>
                  cases t2 with
                  | cons w3 t3 =>
                    cases t3
                    exact ⟨_, _, _, rfl, k _ H1 m2 (((R2.setFz b1 w1).setFz b2 w2).setFz b3 w3) (e1.trans e2)⟩
      · cases e
/-- xs.m(..), xs an owned or borrowed list in slot i, changed -/
abbrev OpM := List D → List D → Option (D × List D)
def SpecM (K : PySem.W.Frag) (r : V → List V → Hp → VK → Prop) (op : OpM) : Prop := ∀ (ms : List Addr) (H : Hp) (p : Addr) (us vs : List V) (xs ds xs' : List D) (res : D) (Q : VK), H p = some (.lst us) → DvAll K (mask H ms) us xs → DvAll K (mask H ms) vs ds → op xs ds = some (res, xs') →
  (∀ us' v, DvAll K (mask H ms) us' xs' → Dv K (mask H ms) v res → Q v (upd H p (.lst us'))) → r (.ref p) vs H Q
def own? (i : Nat) (δ : DE) : Option (List D) := match δ[i]? with | some (some s) => cont s | _ => none
theorem Rp.own {K : PySem.W.Frag} {ms : List Addr} {H : Hp} {σ : L2.St} {δ : DE} {i : Nat} {xs : List D} (R : Rp K G ms H σ δ) (e : own? i δ = some xs) : ∃ p us, σ[i]? = some (some (.ref p)) ∧ H p = some (.lst us) ∧ DvAll K (mask H ms) us xs := by
  unfold own? at e
  split at e
  · rename_i s hs; exact R.contOk hs e
  · cases e
def mutO (i : Nat) (fa : EA) (op : OpM) : EO := fun δ => (own? i δ).bind fun _ => (fa δ).bind fun (as, δ1) => (frzs as δ1).bind fun (ds, δ2) => match δ2[i]? with
  | some (some s) => (cont s).bind fun xs => (op xs ds).bind fun (res, xs') => some (.d res, δ2.set i (some (recont xs' s)))
  | _ => none
theorem mutO_inv {i : Nat} {op : OpM} {δ : DE} {r : Ar × DE} (e : mutO i fa op δ = some r) : ∃ r0 as δ1 ds δ2 s xs res xs', own? i δ = some r0 ∧ fa δ = some (as, δ1) ∧ frzs as δ1 = some (ds, δ2) ∧ δ2[i]? = some (some s) ∧ cont s = some xs ∧ op xs ds = some (res, xs') ∧ r = (.d res, δ2.set i (some (recont xs' s))) := by
  unfold mutO at e
  cases q0 : own? i δ with
  | none => rw [q0] at e; cases e
  | some r0 =>
    cases q : fa δ with
    | none => simp only [q0, q, Option.bind_some] at e; cases e
    | some r1 =>
      obtain ⟨as, δ1⟩ := r1
      cases q2 : frzs as δ1 with
      | none => simp only [q0, q, Option.bind_some, q2] at e; cases e
      | some r2 =>
        obtain ⟨ds, δ2⟩ := r2
        simp only [q0, q, Option.bind_some, q2] at e
        split at e
        · rename_i s hs
          cases q3 : cont s with
          | none => rw [q3] at e; cases e
          | some xs =>
            cases q4 : op xs ds with
            | none => simp only [q3, Option.bind_some, q4] at e; cases e
            | some r4 =>
              obtain ⟨res, xs'⟩ := r4
              simp only [q3, Option.bind_some, q4] at e
              exact ⟨r0, as, δ1, ds, δ2, s, xs, res, xs', rfl, rfl, q2, hs, q3, q4, (Option.some.inj e).symm⟩
        · cases e
theorem do_mut {i : Nat} {op : OpM} {x name : Str} {px apos cpos : Pos} {id : String} {r : V → List V → Hp → VK → Prop} (slot : Slot "list" name id) (hty : typeOf (.builtin id) = pure (.type "method_descriptor")) (hm : MtR X id r) (hop : SpecM X.K r op)
    (ha : PA X (e :: es) (tAr X.K G fa)) (hN : X.N[i]? = some x := by rfl) (hv : Vis X.env.scope x := by first | exact Or.inl rfl | exact Or.inr (Or.inl rfl) | exact Or.inr (Or.inr rfl)) (hd : (x == ("__debug__" : Str)) = false := by decide) (hcd : (x == ("__classdict__" : Str)) = false := by decide)
    (hbase : attributeBase (.Name x px) name X.env (eval (.Name x px) X.env) = eval (.Name x px) X.env := by rfl)
    (hfew : ((backTo cpos (starEach (e :: es) X.env)).all (fun x => !x.1) && (backToKw cpos (keywordEach [] X.env)).all (fun x => x.1.isSome)
      && decide ((e :: es).length + ([] : List Keyword).length + (if ([] : List Keyword).isEmpty then 0 else 1) < 30)) = true := by rfl)
    (hline : (apos.endLine == cpos.line) = true := by rfl) (hs : starEach (e :: es) X.env = (false, eval e X.env) :: starEach es X.env := by rfl) (hplain : (backTo cpos (starEach es X.env)).any (·.1) = false := by rfl) :
    PE X (.Call (.Attribute (.Name x px) name apos) (e :: es) [] cpos) (tO X.K G (mutO i fa op)) :=
  PE.imp (pe_bm PySem.F.plainAttrs_list slot hty hm (pe_var hN hv hd hcd) ha hbase hfew hline hs hplain) fun σ H Q q => by
  obtain ⟨ms, δ, x', δ', R, e, k⟩ := q
  obtain ⟨r0, as, δ1, ds, δ2, s, xs, res, xs', q0, q1, q2, q3, q4, q5, e⟩ := mutO_inv e
  cases e
  obtain ⟨p, us0, hpv, hp0, _⟩ := R.own q0
  refine ⟨_, hpv, ?_⟩
  refine ⟨.inl ⟨rfl, us0, SqL.of hp0⟩, ms, δ, as, δ1, R, q1, fun vs H1 m1 R1 e1 h1 => ?_⟩
  obtain ⟨m2, R2, e2, d2⟩ := frzs_ok R1 h1 q2
  obtain ⟨p', us, a1, a2, a3⟩ := R2.contOk q3 q4
  rw [hpv] at a1
  cases a1
  refine hop m2 H1 p us vs xs ds xs' res Q a2 a3 d2 q5 fun us' v hu hv => ?_
  obtain ⟨R3, e3⟩ := R2.write q3 (by rw [q4]; rfl) hpv hu
  exact k v _ m2 R3 ((e1.trans e2).trans e3) (hv.mono e3.same)
end
end DL
namespace DL
open PySem PySem.Spec PyProof.Rows L2

/-! ### what is walked -/
def WalkOk (K : PySem.W.Frag) (J : It) (ms : List Addr) (H : Hp) (ds : List D) : Prop := ∀ (i : Nat) (ms2 : List Addr) (H2 : Hp), Ext ms H ms2 H2 → (∀ a ∈ ms2, H2 a ≠ none) →
  (∀ d, ds[i]? = some d → J.go i H2 ∧ ∀ x H3, J.yld i H2 x H3 → Same H2 H3 ∧ Dv K (mask H3 ms2) x d) ∧ (ds.length = i → J.stop i H2)
abbrev EI := DE → Option (List D × DE)
def tI (K : PySem.W.Frag) (G : Gm) (f : EI) : TI := fun σ H R => ∃ ms δ ds δ', Rp K G ms H σ δ ∧ f δ = some (ds, δ') ∧ ∀ J H' ms', Rp K G ms' H' σ δ' → Ext ms H ms' H' → WalkOk K J ms' H' ds → R J H'
theorem PI.imp {X : Cx} {tg e : Expr} {t t' : TI} (h : PI X tg e t) (w : ∀ σ H R, t' σ H R → t σ H R) : PI X tg e t' := ⟨fun pins s σ H R I q => h.run pins s σ H R I (w σ H R q)⟩
theorem walk_list {K : PySem.W.Frag} {ms : List Addr} {H : Hp} {a : Addr} {us : List V} {ds : List D} (hs : SqL K (mask H ms) a us) (ha : DvAll K (mask H ms) us ds) : WalkOk K (Itl K a) ms H ds := by
  intro i ms2 H2 ex hm
  have s2 : SqL K H2 a us := mask_sub.seq (ex.same.seq hs)
  have a2 : DvAll K (mask H2 ms2) us ds := ha.mono ex.same
  refine ⟨fun d hd => ?_, fun hl' => have hl := Nat.le_of_eq hl'; ⟨us, s2, by rw [ha.length]; exact hl⟩⟩
  obtain ⟨v, hv, dv⟩ := a2.get hd
  refine ⟨⟨us, v, s2, hv⟩, fun x H3 y => ?_⟩
  obtain ⟨rfl, hx⟩ := y
  have := hx us s2
  rw [hv] at this
  cases this
  exact ⟨Same.refl _, dv⟩
theorem walk_tup {K : PySem.W.Frag} {ms : List Addr} {H : Hp} {a : Addr} {us : List V} {ds : List D} (hs : SqT K (mask H ms) a us) (ha : DvAll K (mask H ms) us ds) : WalkOk K (Itt K a) ms H ds := by
  intro i ms2 H2 ex hm
  have s2 : SqT K H2 a us := Same.seqT mask_sub (Same.seqT ex.same hs)
  have a2 : DvAll K (mask H2 ms2) us ds := ha.mono ex.same
  refine ⟨fun d hd => ?_, fun hl' => have hl := Nat.le_of_eq hl'; ⟨us, s2, by rw [ha.length]; exact hl⟩⟩
  obtain ⟨v, hv, dv⟩ := a2.get hd
  refine ⟨⟨us, v, s2, hv⟩, fun x H3 y => ?_⟩
  obtain ⟨rfl, hx⟩ := y
  have := hx us s2
  rw [hv] at this
  cases this
  exact ⟨Same.refl _, dv⟩
def rngD (lo : Int) (n : Nat) : List D := (List.range n).map fun (i : Nat) => .int (lo + (i : Int))
theorem walk_range {K : PySem.W.Frag} {ms : List Addr} {H : Hp} {lo : Int} {n : Nat} : WalkOk K (Itr lo n) ms H (rngD lo n) := by
  intro i ms2 H2 ex hm
  refine ⟨fun d hd => ?_, fun hl => ?_⟩
  · unfold rngD at hd
    rw [List.getElem?_map] at hd
    have hi : i < n := by
      by_cases q : i < n
      · exact q
      · rw [List.getElem?_eq_none (by simpa using q)] at hd; cases hd
    rw [List.getElem?_range hi] at hd
    cases hd
    refine ⟨hi, fun x H3 y => ?_⟩
    obtain ⟨rfl, rfl⟩ := y
    exact ⟨Same.refl _, .int _⟩
  · unfold rngD at hl
    show n ≤ i
    have hl2 : n = i := by simpa using hl
    omega
def enumD (ds : List D) : List D := ds.zipIdx.map fun p => .pr [.int (p.2 : Int), p.1]
theorem enumD_len (ds : List D) : (enumD ds).length = ds.length := by simp [enumD]
theorem enumD_get {ds : List D} {i : Nat} {d : D} (h : (enumD ds)[i]? = some d) : ∃ x, ds[i]? = some x ∧ d = .pr [.int (i : Int), x] := by
  unfold enumD at h
  rw [List.getElem?_map, List.getElem?_zipIdx] at h
  cases q : ds[i]? with
  | none => rw [q] at h; cases h
  | some x => rw [q] at h; simp at h; exact ⟨x, rfl, h.symm⟩
theorem walk_enum {K : PySem.W.Frag} {ms : List Addr} {H : Hp} {a : Addr} {us : List V} {ds : List D} (hs : SqL K (mask H ms) a us) (ha : DvAll K (mask H ms) us ds) : WalkOk K (Ite K a) ms H (enumD ds) := by
  intro i ms2 H2 ex hm
  have s2 : SqL K H2 a us := mask_sub.seq (ex.same.seq hs)
  have a2 : DvAll K (mask H2 ms2) us ds := ha.mono ex.same
  refine ⟨fun d hd => ?_, fun hl' => have hl := Nat.le_of_eq hl'; ⟨us, s2, by rw [ha.length, ← enumD_len ds]; exact hl⟩⟩
  obtain ⟨x0, hx0, rfl⟩ := enumD_get hd
  obtain ⟨v, hv, dv⟩ := a2.get hx0
  refine ⟨⟨us, v, s2, hv⟩, fun x H3 y => ?_⟩
  obtain ⟨T, w, rfl, hT, rfl, hx⟩ := y
  have := hx us s2
  rw [hv] at this
  cases this
  exact ⟨same_upd hT, dv_new_tup hm hT (.cons (.int _) (.cons dv .nil))⟩
def zipD (xs ys : List D) : List D := List.zipWith (fun x y => .pr [x, y]) xs ys
theorem zipD_get {xs ys : List D} {i : Nat} {d : D} (h : (zipD xs ys)[i]? = some d) : ∃ x y, xs[i]? = some x ∧ ys[i]? = some y ∧ d = .pr [x, y] := by
  unfold zipD at h
  rw [List.getElem?_zipWith] at h
  cases q : xs[i]? with
  | none => rw [q] at h; cases h
  | some x =>
    cases q2 : ys[i]? with
    | none => rw [q, q2] at h; cases h
    | some y => rw [q, q2] at h; simp at h; exact ⟨x, y, rfl, rfl, h.symm⟩
theorem walk_zipL {K : PySem.W.Frag} {ms : List Addr} {H : Hp} {a b : Addr} {us ws : List V} {xs ys : List D} (hs : SqL K (mask H ms) a us) (ha : DvAll K (mask H ms) us xs) (hs' : SqL K (mask H ms) b ws) (ha' : DvAll K (mask H ms) ws ys) : WalkOk K (Itz K a b) ms H (zipD xs ys) := by
  intro i ms2 H2 ex hm
  have s2 : SqL K H2 a us := mask_sub.seq (ex.same.seq hs)
  have a2 : DvAll K (mask H2 ms2) us xs := ha.mono ex.same
  have s3 : SqL K H2 b ws := mask_sub.seq (ex.same.seq hs')
  have a3 : DvAll K (mask H2 ms2) ws ys := ha'.mono ex.same
  refine ⟨fun d hd => ?_, fun hl' => have hl := Nat.le_of_eq hl'; ⟨us, ws, s2, s3, ?_⟩⟩
  · obtain ⟨x0, y0, hx0, hy0, rfl⟩ := zipD_get hd
    obtain ⟨v, hv, dv⟩ := a2.get hx0
    obtain ⟨v', hv', dv'⟩ := a3.get hy0
    refine ⟨⟨us, ws, v, v', s2, s3, hv, hv'⟩, fun x H3 y => ?_⟩
    obtain ⟨T, w, w', rfl, hT, rfl, hx, hy⟩ := y
    have := hx us s2
    rw [hv] at this
    cases this
    have := hy ws s3
    rw [hv'] at this
    cases this
    exact ⟨same_upd hT, dv_new_tup hm hT (.cons dv (.cons dv' .nil))⟩
  · rw [ha.length, ha'.length]
    unfold zipD at hl
    rw [List.length_zipWith] at hl
    omega
theorem walk_zipT {K : PySem.W.Frag} {ms : List Addr} {H : Hp} {a b : Addr} {us ws : List V} {xs ys : List D} (hs : SqT K (mask H ms) a us) (ha : DvAll K (mask H ms) us xs) (hs' : SqT K (mask H ms) b ws) (ha' : DvAll K (mask H ms) ws ys) : WalkOk K (RZ.ItzT K a b) ms H (zipD xs ys) := by
  intro i ms2 H2 ex hm
  have s2 : SqT K H2 a us := Same.seqT mask_sub (Same.seqT ex.same hs)
  have a2 : DvAll K (mask H2 ms2) us xs := ha.mono ex.same
  have s3 : SqT K H2 b ws := Same.seqT mask_sub (Same.seqT ex.same hs')
  have a3 : DvAll K (mask H2 ms2) ws ys := ha'.mono ex.same
  refine ⟨fun d hd => ?_, fun hl' => have hl := Nat.le_of_eq hl'; ⟨us, ws, s2, s3, ?_⟩⟩
  · obtain ⟨x0, y0, hx0, hy0, rfl⟩ := zipD_get hd
    obtain ⟨v, hv, dv⟩ := a2.get hx0
    obtain ⟨v', hv', dv'⟩ := a3.get hy0
    refine ⟨⟨us, ws, v, v', s2, s3, hv, hv'⟩, fun x H3 y => ?_⟩
    obtain ⟨T, w, w', rfl, hT, rfl, hx, hy⟩ := y
    have := hx us s2
    rw [hv] at this
    cases this
    have := hy ws s3
    rw [hv'] at this
    cases this
    exact ⟨same_upd hT, dv_new_tup hm hT (.cons dv (.cons dv' .nil))⟩
  · rw [ha.length, ha'.length]
    unfold zipD at hl
    rw [List.length_zipWith] at hl
    omega
section
variable {X : Cx} {G : Gm} {a b c e tg elt : Expr} {es : List Expr} {f f1 f2 : EO} {fn : EN} {fa : EA} {fb : ET} {fi : EI} {pos p tpos : Pos} {st : Stmt} {rest body orelse : List Stmt} {s1 s2 : ES} {g : EG} {ws : List Nat}
/-- a list or a tuple walked -/
def iSeq (K : PySem.W.Frag) (tl : TE) : TI := fun σ H R => tl σ H fun x H1 => ∃ a, x = .ref a ∧ ((∃ xs, SqL K H1 a xs) ∧ R (Itl K a) H1 ∨ (∃ xs, SqT K H1 a xs) ∧ R (Itt K a) H1)
theorem pi_seq {l : Expr} {tl : TE} (hl : PE X l tl) : PI X tg l (iSeq X.K tl) := by
  refine ⟨fun pins s σ H R I h => ?_⟩
  refine thn (hl.run pins s σ H _ I h) fun v s1 ⟨x, H1, I1, r1, q1⟩ => ?_
  obtain ⟨a, e, ⟨⟨xs, hq⟩, q⟩ | ⟨⟨xs, hq⟩, q⟩⟩ := q1
  · subst e
    cases r1
    obtain ⟨its, rv, p, hz⟩ := I1.list hq
    refine wpAny_pyIter_list p.isList ?_
    refine ⟨s1.heap.objs.size, [s1.heap.objs.size], _, _, H1, rfl, I1.kept (t' := s1.toks) fun b o e => Heap.get?_push_of_some _ e, turn_list a _, ⟨_, Heap.get?_push_size _ rfl, rfl, rfl⟩, fun b hb => ?_, q⟩
    have e : b = s1.heap.objs.size := by simpa using hb
    subst e
    exact I1.fpOk (Nat.le_refl _) (I1.hok.fresh (Nat.le_refl _))
  · subst e
    cases r1
    obtain ⟨its, rv, p, hz⟩ := I1.tuple hq
    refine wpAny_pyIter_tuple (show s1.heap.IsTuple a its.toArray from p) ?_
    refine ⟨s1.heap.objs.size, [s1.heap.objs.size], _, _, H1, rfl, I1.kept (t' := s1.toks) fun b o e => Heap.get?_push_of_some _ e, turn_tuple a _, ⟨_, Heap.get?_push_size _ rfl, rfl, rfl⟩, fun b hb => ?_, q⟩
    have e : b = s1.heap.objs.size := by simpa using hb
    subst e
    exact I1.fpOk (Nat.le_refl _) (I1.hok.fresh (Nat.le_refl _))
def itemsD : D → Option (List D)
  | .lst ds => some ds
  | .tup ds => some ds
  | .fls ds => some ds
  | _ => none
def seqI (f : EO) : EI := fun δ => (f δ).bind fun (a, δ1) => (frz a δ1).bind fun (d, δ2) => (itemsD d).bind fun ds => some (ds, δ2)
theorem di_seq (he : PE X e (tO X.K G f)) : PI X tg e (tI X.K G (seqI f)) := PI.imp (pi_seq he) fun σ H R q => by
  obtain ⟨ms, δ, ds, δ', Rr, e, k⟩ := q
  unfold seqI at e
  cases q : f δ with
  | none => rw [q] at e; cases e
  | some r =>
    obtain ⟨a, δ1⟩ := r
    cases q2 : frz a δ1 with
    | none => simp only [q, Option.bind_some, q2] at e; cases e
    | some r2 =>
      obtain ⟨d, δ2⟩ := r2
      cases q3 : itemsD d with
      | none => simp only [q, Option.bind_some, q2, q3] at e; cases e
      | some xs =>
        simp only [q, Option.bind_some, q2, q3] at e
        cases e
        refine ⟨ms, δ, a, δ1, Rr, q, fun v H1 m1 R1 e1 h1 => ?_⟩
        obtain ⟨m2, R2, e2, d2⟩ := frz_ok R1 h1 q2
        cases d2 with
        | lst hs ha =>
          cases q3
          exact ⟨_, rfl, .inl ⟨⟨_, SqL.of (mask_sub _ _ hs)⟩, k _ _ m2 R2 (e1.trans e2) (walk_list (SqL.of hs) ha)⟩⟩
        | tup hs hn ha =>
          cases q3
          exact ⟨_, rfl, .inr ⟨⟨_, Same.seqT mask_sub hs⟩, k _ _ m2 R2 (e1.trans e2) (walk_tup hs ha)⟩⟩
        | fls hs ha =>
          cases q3
          exact ⟨_, rfl, .inl ⟨⟨_, mask_sub.seq hs⟩, k _ _ m2 R2 (e1.trans e2) (walk_list hs ha)⟩⟩
        | _ => cases q3
def rng1I (fa : EA) : EI := fun δ => (fa δ).bind fun (as, δ1) => match as with
  | [.d (.int j)] => if -(2 ^ 62) ≤ j ∧ j < 2 ^ 62 then some (rngD 0 j.toNat, δ1) else none
  | _ => none
theorem di_range1 (ha : PA X [a] (tAr X.K G fa)) (hg : Gl X "range") (hm : X.mg "range" = none) (hs : starEach [a] X.env = [(false, eval a X.env)] := by rfl) : PI X tg (.Call (.Name "range" p) [a] [] pos) (tI X.K G (rng1I fa)) :=
  PI.imp (pi_range1 hg hm ha hs) fun σ H R q => by
  obtain ⟨ms, δ, ds, δ', Rr, e, k⟩ := q
  unfold rng1I at e
  cases q : fa δ with
  | none => rw [q] at e; cases e
  | some r =>
    obtain ⟨as, δ1⟩ := r
    simp only [q, Option.bind_some] at e
    split at e
    · split at e
      · rename_i hb
        cases e
        refine ⟨ms, δ, _, _, Rr, q, fun vs H1 m1 R1 e1 h1 => ?_⟩
        cases h1 with
        | cons x y =>
          cases y
          cases x
          exact ⟨_, rfl, hb.1, hb.2, k _ _ m1 R1 e1 walk_range⟩
      · cases e
    · cases e
def rng2I (fa : EA) : EI := fun δ => (fa δ).bind fun (as, δ1) => match as with
  | [.d (.int i), .d (.int j)] => if -(2 ^ 62) ≤ i ∧ i < 2 ^ 62 ∧ -(2 ^ 62) ≤ j ∧ j < 2 ^ 62 then some (rngD i (j - i).toNat, δ1) else none
  | _ => none
theorem di_range2 (ha : PA X [a, b] (tAr X.K G fa)) (hg : Gl X "range") (hm : X.mg "range" = none) (hs : starEach [a, b] X.env = [(false, eval a X.env), (false, eval b X.env)] := by rfl) (hs2 : starEach [b] X.env = [(false, eval b X.env)] := by rfl) : PI X tg (.Call (.Name "range" p) [a, b] [] pos) (tI X.K G (rng2I fa)) :=
  PI.imp (pi_range2 hg hm ha hs hs2) fun σ H R q => by
  obtain ⟨ms, δ, ds, δ', Rr, e, k⟩ := q
  unfold rng2I at e
  cases q : fa δ with
  | none => rw [q] at e; cases e
  | some r =>
    obtain ⟨as, δ1⟩ := r
    simp only [q, Option.bind_some] at e
    split at e
    · split at e
      · rename_i hb
        cases e
        refine ⟨ms, δ, _, _, Rr, q, fun vs H1 m1 R1 e1 h1 => ?_⟩
        cases h1 with
        | cons x y =>
          cases x
          cases y with
          | cons x y =>
            cases x
            cases y
            exact ⟨_, _, rfl, hb, k _ _ m1 R1 e1 walk_range⟩
      · cases e
    · cases e
def enumI (fa : EA) : EI := fun δ => (fa δ).bind fun (as, δ1) => (frzs as δ1).bind fun (ds, δ2) => match ds with
  | [.lst xs] => some (enumD xs, δ2)
  | _ => none
theorem di_enum {elts : List Expr} {kk : Nat} (ha : PA X [e] (tAr X.K G fa)) (hg : Gl X "enumerate") (hm : X.mg "enumerate" = none) (hs : starEach [e] X.env = [(false, eval e X.env)] := by rfl) : PI X (.Tuple elts kk tpos) (.Call (.Name "enumerate" p) [e] [] pos) (tI X.K G (enumI fa)) :=
  PI.imp (pi_enum hg hm ha hs) fun σ H R q => by
  obtain ⟨ms, δ, ds, δ', Rr, e, k⟩ := q
  unfold enumI at e
  cases q : fa δ with
  | none => rw [q] at e; cases e
  | some r =>
    obtain ⟨as, δ1⟩ := r
    cases q2 : frzs as δ1 with
    | none => simp only [q, Option.bind_some, q2] at e; cases e
    | some r2 =>
      obtain ⟨xs, δ2⟩ := r2
      simp only [q, Option.bind_some, q2] at e
      split at e
      · cases e
        refine ⟨ms, δ, _, _, Rr, q, fun vs H1 m1 R1 e1 h1 => ?_⟩
        obtain ⟨m2, R2, e2, d2⟩ := frzs_ok R1 h1 q2
        cases d2 with
        | cons x y =>
          cases y
          cases x with
          | lst hs ha => exact ⟨_, _, rfl, SqL.of (mask_sub _ _ hs), k _ _ m2 R2 (e1.trans e2) (walk_enum (SqL.of hs) ha)⟩
      · cases e
def zipI (fa : EA) : EI := fun δ => (fa δ).bind fun (as, δ1) => (frzs as δ1).bind fun (ds, δ2) => match ds with
  | [.lst xs, .lst ys] => some (zipD xs ys, δ2)
  | [.tup xs, .tup ys] => some (zipD xs ys, δ2)
  | _ => none
theorem di_zip {elts : List Expr} {kk : Nat} {e2 : Expr} (ha : PA X [e, e2] (tAr X.K G fa)) (hg : Gl X "zip") (hm : X.mg "zip" = none) (hs : starEach [e, e2] X.env = (false, eval e X.env) :: starEach [e2] X.env := by rfl) (hpl : (backTo pos (starEach [e2] X.env)).any (·.1) = false := by rfl) : PI X (.Tuple elts kk tpos) (.Call (.Name "zip" p) [e, e2] [] pos) (tI X.K G (zipI fa)) :=
  PI.imp (RZ.pi_zipA hg hm ha hs hpl) fun σ H R q => by
  obtain ⟨ms, δ, ds, δ', Rr, e, k⟩ := q
  unfold zipI at e
  cases q : fa δ with
  | none => rw [q] at e; cases e
  | some r =>
    obtain ⟨as, δ1⟩ := r
    cases q2 : frzs as δ1 with
    | none => simp only [q, Option.bind_some, q2] at e; cases e
    | some r2 =>
      obtain ⟨xs, δ2⟩ := r2
      simp only [q, Option.bind_some, q2] at e
      split at e
      · cases e
        refine ⟨ms, δ, _, _, Rr, q, fun vs H1 m1 R1 e1 h1 => ?_⟩
        obtain ⟨m2, R2, e2, d2⟩ := frzs_ok R1 h1 q2
        cases d2 with
        | cons x y =>
          cases y with
          | cons y z =>
            cases z
            cases x with
            | lst hs ha =>
              cases y with
              | lst hs' ha' => exact ⟨_, _, _, _, rfl, .inl ⟨SqL.of (mask_sub _ _ hs), SqL.of (mask_sub _ _ hs'), k _ _ m2 R2 (e1.trans e2) (walk_zipL (SqL.of hs) ha (SqL.of hs') ha')⟩⟩
      · cases e
        refine ⟨ms, δ, _, _, Rr, q, fun vs H1 m1 R1 e1 h1 => ?_⟩
        obtain ⟨m2, R2, e2, d2⟩ := frzs_ok R1 h1 q2
        cases d2 with
        | cons x y =>
          cases y with
          | cons y z =>
            cases z
            cases x with
            | tup hs hn ha =>
              cases y with
              | tup hs' hn' ha' => exact ⟨_, _, _, _, rfl, .inr ⟨Same.seqT mask_sub hs, Same.seqT mask_sub hs', k _ _ m2 R2 (e1.trans e2) (walk_zipT hs ha hs' ha')⟩⟩
      · cases e

/-! ### for, while -/
def loopD (g : EG) (body : ES) : List D → ES
  | [], δ => some (.nx, δ)
  | d :: ds, δ => (g d δ).bind fun δ1 => (body δ1).bind fun (fl, δ2) => match fl with
    | .nx => loopD g body ds δ2
    | .ct => loopD g body ds δ2
    | .bk => some (.nx, δ2)
    | .rt r => some (.rt r, δ2)
    | .rn r => some (.rn r, δ2)
def forS (fi : EI) (g : EG) (body : ES) : ES := fun δ => (fi δ).bind fun (ds, δ1) => loopD g body ds δ1
theorem ds_for (hi : PI X tg e (tI X.K G fi)) (hg : PG X tg (tG X.K G ws g)) (hb : PSs X body (tS X.K G s1)) (hp : PassesOwn (model X.prog X.w) X.A X.env X.xe := by exact PassesOwn.never) (hc : X.calm = true := by rfl)
    (hs : ∀ x, foldedSetIterable e X.env x = pure x := by intro _; rfl) : PS X (.For tg e body [] pos) (tS X.K G (forS fi g s1)) := PS.imp (ps_for hp hc hi hg hb hs) fun E σ H q => by
  obtain ⟨ms, δ, fl, δ', R, e, k⟩ := q
  unfold forS at e
  cases q : fi δ with
  | none => rw [q] at e; cases e
  | some r =>
    obtain ⟨ds, δ1⟩ := r
    simp only [q, Option.bind_some] at e
    refine ⟨ms, δ, ds, δ1, R, q, fun J H1 m1 R1 e1 hw => ?_⟩
    refine ⟨fun i m σ H' => m = ds.length - i ∧ i ≤ ds.length ∧ ∃ m2 δ2, Rp X.K G m2 H' σ δ2 ∧ Ext m1 H1 m2 H' ∧ loopD g s1 (ds.drop i) δ2 = some (fl, δ'), ⟨ds.length, rfl, Nat.zero_le _, m1, δ1, R1, .refl, by simpa using e⟩, ?_⟩
    rintro i m σ2 H2 ⟨rfl, hi, m2, δ2, R2, e2, hl⟩
    obtain ⟨w1, w2⟩ := hw i m2 H2 e2 R2.here
    by_cases hlt : i < ds.length
    · right
      have hd : ds[i]? = some ds[i] := List.getElem?_eq_getElem hlt
      rw [List.drop_eq_getElem_cons hlt] at hl
      obtain ⟨go, yl⟩ := w1 _ hd
      refine ⟨go, fun σ' H' => ∃ m3 δ3, Rp X.K G m3 H' σ' δ3 ∧ Ext m1 H1 m3 H' ∧ loopD g s1 (ds.drop (i + 1)) δ3 = some (fl, δ'), fun σ' H' hN => ⟨ds.length - (i + 1), by omega, rfl, hlt, hN⟩, fun x H3 y => ?_⟩
      obtain ⟨sm, dx⟩ := yl x H3 y
      unfold loopD at hl
      cases q3 : g ds[i] δ2 with
      | none => rw [q3] at hl; cases hl
      | some δ3 =>
        simp only [q3, Option.bind_some] at hl
        cases q4 : s1 δ3 with
        | none => rw [q4] at hl; cases hl
        | some r4 =>
          obtain ⟨fl4, δ4⟩ := r4
          simp only [q4, Option.bind_some] at hl
          refine ⟨m2, δ2, ds[i], δ3, R2.same sm, dx, q3, fun σ5 H5 m5 R5 e5 _ _ => ⟨m5, δ3, fl4, δ4, R5, q4, ?_⟩⟩
          have e25 : Ext m1 H1 m5 H5 := (e2.trans (.of_same sm)).trans e5
          cases fl4 with
          | nx => exact fun σ6 H6 m6 R6 e6 => ⟨m6, δ4, R6, e25.trans e6, hl⟩
          | ct => exact fun σ6 H6 m6 R6 e6 => ⟨m6, δ4, R6, e25.trans e6, hl⟩
          | bk =>
            cases hl
            exact fun σ6 H6 m6 R6 e6 => k σ6 H6 m6 R6 (e1.trans (e25.trans e6))
          | rt r =>
            cases hl
            exact fun v σ6 H6 m6 R6 e6 hv => k v σ6 H6 m6 R6 (e1.trans (e25.trans e6)) hv
          | rn r =>
            cases hl
            exact fun p us σ6 H6 m6 R6 e6 hp hv => k p us σ6 H6 m6 R6 (e1.trans (e25.trans e6)) hp hv
    · left
      have hz : ds.drop i = [] := List.drop_eq_nil_of_le (by omega)
      rw [hz] at hl
      unfold loopD at hl
      cases hl
      exact ⟨w2 (by omega), k σ2 H2 m2 R2 (e1.trans e2)⟩
def whileF (c : ET) (body : ES) : Nat → ES
  | 0, _ => none
  | n + 1, δ => (c δ).bind fun (b, δ1) => if b = true then (body δ1).bind fun (fl, δ2) => match fl with
      | .nx => whileF c body n δ2
      | .ct => whileF c body n δ2
      | .bk => some (.nx, δ2)
      | .rt r => some (.rt r, δ2)
      | .rn r => some (.rn r, δ2)
    else some (.nx, δ1)
open Classical in
noncomputable def whileS (c : ET) (body : ES) : ES := fun δ => if h : ∃ n, (whileF c body n δ).isSome = true then whileF c body (choose h) δ else none
theorem whileF_up {c : ET} {body : ES} : ∀ {n m : Nat} {δ : DE} {r : Fl × DE}, n ≤ m → whileF c body n δ = some r → whileF c body m δ = some r := by
  intro n
  induction n with
  | zero => intro m δ r _ h; cases h
  | succ n ih =>
    intro m δ r hm h
    cases m with
    | zero => omega
    | succ m =>
      unfold whileF at h ⊢
      cases q : c δ with
      | none => rw [q] at h; cases h
      | some r1 =>
        obtain ⟨b, δ1⟩ := r1
        simp only [q, Option.bind_some] at h ⊢
        cases b with
        | false => exact h
        | true =>
          simp only [if_true] at h ⊢
          cases q2 : body δ1 with
          | none => rw [q2] at h; cases h
          | some r2 =>
            obtain ⟨fl, δ2⟩ := r2
            simp only [q2, Option.bind_some] at h ⊢
            cases fl with
            | nx => exact ih (by omega) h
            | ct => exact ih (by omega) h
            | bk => exact h
            | rt r => exact h
            | rn r => exact h
theorem whileS_ex {c : ET} {body : ES} {δ : DE} {r : Fl × DE} (h : whileS c body δ = some r) : ∃ n, whileF c body n δ = some r := by
  unfold whileS at h
  split at h
  · exact ⟨_, h⟩
  · cases h
theorem whileS_of {c : ET} {body : ES} {δ : DE} {r : Fl × DE} {n : Nat} (h : whileF c body n δ = some r) : whileS c body δ = some r := by
  unfold whileS
  have hx : ∃ n, (whileF c body n δ).isSome = true := ⟨n, by rw [h]; rfl⟩
  rw [dif_pos hx]
  have hs := Classical.choose_spec hx
  obtain ⟨r', hr'⟩ := Option.isSome_iff_exists.mp hs
  have h1 := whileF_up (Nat.le_max_left n (Classical.choose hx)) h
  have h2 := whileF_up (Nat.le_max_right n (Classical.choose hx)) hr'
  rw [h1] at h2
  rw [hr', h2]
theorem ds_while (hc : PT X c (tT X.K G fb)) (hb : PSs X body (tS X.K G s1)) (hp : PassesOwn (model X.prog X.w) X.A X.env X.xe := by exact PassesOwn.never) : PS X (.While c body [] pos) (tS X.K G (whileS fb s1)) := PS.imp (ps_while hp hc hb) fun E σ H q => by
  obtain ⟨ms, δ, fl, δ', R, e, k⟩ := q
  obtain ⟨n, e⟩ := whileS_ex e
  refine ⟨fun m σ H' => ∃ m2 δ2, Rp X.K G m2 H' σ δ2 ∧ Ext ms H m2 H' ∧ whileF fb s1 m δ2 = some (fl, δ'), ⟨n, ms, δ, R, .refl, e⟩, ?_⟩
  rintro m σ2 H2 ⟨m2, δ2, R2, e2, hl⟩
  cases m with
  | zero => cases hl
  | succ m =>
    unfold whileF at hl
    cases q : fb δ2 with
    | none => rw [q] at hl; cases hl
    | some r1 =>
      obtain ⟨b, δ3⟩ := r1
      simp only [q, Option.bind_some] at hl
      refine ⟨m2, δ2, b, δ3, R2, q, fun H3 m3 R3 e3 => ?_⟩
      have e23 := e2.trans e3
      cases b with
      | true =>
        simp only [if_true] at hl ⊢
        cases q2 : s1 δ3 with
        | none => rw [q2] at hl; cases hl
        | some r2 =>
          obtain ⟨fl4, δ4⟩ := r2
          simp only [q2, Option.bind_some] at hl
          refine ⟨fun σ' H' => ∃ m4 δ4, Rp X.K G m4 H' σ' δ4 ∧ Ext ms H m4 H' ∧ whileF fb s1 m δ4 = some (fl, δ'), fun σ' H' hN => ⟨m, Nat.lt_succ_self _, hN⟩, m3, δ3, fl4, δ4, R3, q2, ?_⟩
          cases fl4 with
          | nx => exact fun σ6 H6 m6 R6 e6 => ⟨m6, δ4, R6, e23.trans e6, hl⟩
          | ct => exact fun σ6 H6 m6 R6 e6 => ⟨m6, δ4, R6, e23.trans e6, hl⟩
          | bk => cases hl; exact fun σ6 H6 m6 R6 e6 => k σ6 H6 m6 R6 (e23.trans e6)
          | rt r => cases hl; exact fun v σ6 H6 m6 R6 e6 hv => k v σ6 H6 m6 R6 (e23.trans e6) hv
          | rn r => cases hl; exact fun p us σ6 H6 m6 R6 e6 hp hv => k p us σ6 H6 m6 R6 (e23.trans e6) hp hv
      | false =>
        rw [if_neg Bool.false_ne_true] at hl
        show if false = true then _ else _
        rw [if_neg Bool.false_ne_true]
        cases hl
        exact k σ2 H3 m3 R3 e23
end
end DL
namespace DL
open PySem PySem.Spec PyProof.Rows L2

/-! ### a new list beside the slots -/
def Gm.push (G : Gm) (p : Addr) (xs : List V) : Gm := { G with H0 := upd G.H0 p (.lst xs), ms0 := p :: G.ms0 }
section
variable {K : PySem.W.Frag} {G : Gm} {ms ms' : List Addr} {H H' : Hp} {σ σ' : L2.St} {δ δ' : DE} {p : Addr} {xs ys : List V}
theorem SlP.imp {G' : Gm} {i : Nat} {s : Sl} (h : SlP K G ms H σ i s) (e : Ext ms H ms' H') (hm : ∀ a, a ∈ ms → a ∈ ms') (hk : ∀ a xs, a ∈ ms → H a = some (.lst xs) → a ∉ G.ms0 ∨ (∃ j, G.bor j = some a) → H' a = some (.lst xs))
    (h0 : ∀ a, a ∈ ms → a ∉ G.ms0 → a ∉ G'.ms0) (hb : ∀ j a, G.bor j = some a → G'.bor j = some a) (hbm : ∀ j a, G.bor j = some a → a ∈ ms) : SlP K G' ms' H' σ i s := by
  cases s with
  | fz d => obtain ⟨v, a, b⟩ := h; exact ⟨v, a, b.mono e.same⟩
  | ow ds => obtain ⟨q, us, a, b, c, d, f⟩ := h; exact ⟨q, us, a, hm _ b, h0 _ b c, hk _ _ b d (.inl c), f.mono e.same⟩
  | bo ds => obtain ⟨q, us, a, b, d, f⟩ := h; exact ⟨q, us, a, hb _ _ b, hk _ _ (hbm _ _ b) d (.inr ⟨_, b⟩), f.mono e.same⟩
theorem Rp.push (R : Rp K G ms H σ δ) (hp : H p = none) : Rp K (G.push p xs) (p :: ms) (upd H p (.lst xs)) σ δ ∧ Ext ms H (p :: ms) (upd H p (.lst xs)) := by
  have pm : p ∉ ms := R.fresh hp
  have ex : Ext ms H (p :: ms) (upd H p (.lst xs)) := fun a o h1 h2 => by
    have : a ≠ p := ne_of_none h2 hp
    exact ⟨by simp [this, h1], by rw [upd_ne this]; exact h2⟩
  refine ⟨⟨R.len, fun a ha => ?_, fun a ha => ?_, fun a ha => ?_, fun a o e hb => ?_, fun i a e => List.mem_cons_of_mem _ (R.borm i a e), R.bori, fun i s e => ?_, R.inj, R.bod⟩, ex⟩
  · rcases List.mem_cons.mp ha with rfl | ha
    · exact List.mem_cons_self
    · exact List.mem_cons_of_mem _ (R.ms0 a ha)
  · rcases List.mem_cons.mp ha with rfl | ha
    · exact .inl List.mem_cons_self
    · rcases R.new a ha with z | z
      · exact .inl (List.mem_cons_of_mem _ z)
      · refine .inr ?_
        show upd G.H0 p (.lst xs) a = none
        rw [upd_ne (fun e : a = p => pm (by rw [← e]; exact ha))]; exact z
  · by_cases e : a = p
    · subst e; rw [upd_same]; simp
    · rw [upd_ne e]; exact R.here a ((List.mem_cons.mp ha).resolve_left e)
  · by_cases q : a = p
    · subst q
      have e' : upd G.H0 a (.lst xs) a = some o := e
      rw [upd_same] at e' ⊢; exact e'
    · have e' : upd G.H0 p (.lst xs) a = some o := e
      rw [upd_ne q] at e' ⊢; exact R.keep a o e' hb
  · refine (R.slot i s e).imp ex (fun a ha => List.mem_cons_of_mem _ ha) (fun a us ha hl _ => ?_) (fun a ha h0 z => ?_) (fun j a e => e) (fun j a e => R.ms0 _ (R.borm j a e))
    · rw [upd_ne (fun z : a = p => pm (by rw [← z]; exact ha))]; exact hl
    · rcases List.mem_cons.mp z with rfl | z
      · exact pm ha
      · exact h0 z
theorem Rp.grow (R : Rp K (G.push p xs) ms H σ δ) (hnb : ∀ j, G.bor j ≠ some p) : Rp K (G.push p ys) ms (upd H p (.lst ys)) σ δ ∧ Ext ms H ms (upd H p (.lst ys)) := by
  have pm : p ∈ ms := R.ms0 p List.mem_cons_self
  have mk : mask (upd H p (.lst ys)) ms = mask H ms := mask_upd pm
  have ex : Ext ms H ms (upd H p (.lst ys)) := fun a o h1 h2 => ⟨h1, by rw [upd_ne (fun z : a = p => h1 (by rw [z]; exact pm))]; exact h2⟩
  refine ⟨⟨R.len, R.ms0, fun a ha => ?_, fun a ha => ?_, fun a o e hb => ?_, R.borm, R.bori, fun i s e => ?_, R.inj, R.bod⟩, ex⟩
  · rcases R.new a ha with z | z
    · exact .inl z
    · refine .inr ?_
      have z' : upd G.H0 p (.lst xs) a = none := z
      show upd G.H0 p (.lst ys) a = none
      by_cases q : a = p
      · subst q; rw [upd_same] at z'; cases z'
      · rw [upd_ne q] at z' ⊢; exact z'
  · by_cases e : a = p
    · subst e; rw [upd_same]; simp
    · rw [upd_ne e]; exact R.here a ha
  · have e' : upd G.H0 p (.lst ys) a = some o := e
    by_cases q : a = p
    · subst q; rw [upd_same] at e' ⊢; exact e'
    · rw [upd_ne q] at e' ⊢
      refine R.keep a o ?_ hb
      show upd G.H0 p (.lst xs) a = some o
      rw [upd_ne q]; exact e'
  · have q := R.slot i s e
    cases s with
    | fz d => obtain ⟨v, a, b⟩ := q; exact ⟨v, a, by rw [mk]; exact b⟩
    | ow ds =>
      obtain ⟨r, us, a, b, c, d, f⟩ := q
      have ne : r ≠ p := fun z => c (by rw [z]; exact List.mem_cons_self)
      exact ⟨r, us, a, b, c, by rw [upd_ne ne]; exact d, by rw [mk]; exact f⟩
    | bo ds =>
      obtain ⟨r, us, a, b, d, f⟩ := q
      have ne : r ≠ p := fun z => hnb i (by rw [← z]; exact b)
      exact ⟨r, us, a, b, by rw [upd_ne ne]; exact d, by rw [mk]; exact f⟩
def Hp.del (H : Hp) (p : Addr) : Hp := fun a => if a = p then none else H a
theorem Rp.pop (R : Rp K (G.push p xs) ms H σ δ) (hnb : ∀ j, G.bor j ≠ some p) (h0 : p ∉ G.ms0) (hn : G.H0 p = none) :
    Rp K G (ms.filter (fun a => decide (a ≠ p))) (Hp.del H p) σ δ ∧ mask (Hp.del H p) (ms.filter (fun a => decide (a ≠ p))) = mask H ms ∧ upd (Hp.del H p) p (.lst xs) = H ∧ Hp.del H p p = none := by
  have pm : p ∈ ms := R.ms0 p List.mem_cons_self
  have hp : H p = some (.lst xs) := R.keep p _ (by show upd G.H0 p (.lst xs) p = some _; rw [upd_same]) (fun j e => hnb j e)
  have mem : ∀ a, a ∈ ms.filter (fun a => decide (a ≠ p)) ↔ a ∈ ms ∧ a ≠ p := fun a => by simp [List.mem_filter]
  have del : ∀ a, a ≠ p → Hp.del H p a = H a := fun a e => by unfold Hp.del; rw [if_neg e]
  have dp : Hp.del H p p = none := by unfold Hp.del; rw [if_pos rfl]
  have mk : mask (Hp.del H p) (ms.filter (fun a => decide (a ≠ p))) = mask H ms := by
    funext a
    unfold mask
    by_cases e : a = p
    · subst e
      rw [if_neg (fun z => ((mem a).mp z).2 rfl), if_pos pm, dp]
    · by_cases ha : a ∈ ms
      · rw [if_pos ((mem a).mpr ⟨ha, e⟩), if_pos ha]
      · rw [if_neg (fun z => ha ((mem a).mp z).1), if_neg ha, del a e]
  refine ⟨⟨R.len, fun a ha => (mem a).mpr ⟨R.ms0 a (List.mem_cons_of_mem _ ha), fun z => h0 (by rw [← z]; exact ha)⟩, fun a ha => ?_, fun a ha => ?_, fun a o e hb => ?_, fun i a e => ?_, R.bori, fun i s e => ?_, R.inj, R.bod⟩, mk, ?_, dp⟩
  · obtain ⟨h1, h2⟩ := (mem a).mp ha
    rcases R.new a h1 with z | z
    · exact .inl ((List.mem_cons.mp z).resolve_left h2)
    · have z' : upd G.H0 p (.lst xs) a = none := z
      rw [upd_ne h2] at z'
      exact .inr z'
  · obtain ⟨h1, h2⟩ := (mem a).mp ha
    rw [del a h2]
    exact R.here a h1
  · by_cases q : a = p
    · subst q; rw [hn] at e; cases e
    · rw [del a q]
      refine R.keep a o ?_ hb
      show upd G.H0 p (.lst xs) a = some o
      rw [upd_ne q]; exact e
  · exact (List.mem_cons.mp (R.borm i a e)).resolve_left (fun z => hnb i (by rw [← z]; exact e))
  · have q := R.slot i s e
    cases s with
    | fz d => obtain ⟨v, a, b⟩ := q; exact ⟨v, a, by rw [mk]; exact b⟩
    | ow ds =>
      obtain ⟨r, us, a, b, c, d, f⟩ := q
      have ne : r ≠ p := fun z => c (by rw [z]; exact List.mem_cons_self)
      exact ⟨r, us, a, (mem r).mpr ⟨b, ne⟩, fun z => c (List.mem_cons_of_mem _ z), by rw [del r ne]; exact d, by rw [mk]; exact f⟩
    | bo ds =>
      obtain ⟨r, us, a, b, d, f⟩ := q
      have ne : r ≠ p := fun z => hnb i (by rw [← z]; exact b)
      exact ⟨r, us, a, b, by rw [del r ne]; exact d, by rw [mk]; exact f⟩
  · funext a
    by_cases e : a = p
    · subst e; rw [upd_same, hp]
    · rw [upd_ne e, del a e]
/-- the block's own names forgotten, and as they were -/
def wipeD (δ : DE) : List Nat → DE
  | [] => δ
  | v :: vs => (wipeD δ vs).set v none
theorem wipeD_get : ∀ {vs : List Nat} {i : Nat} {s : Sl}, (wipeD δ vs)[i]? = some (some s) → δ[i]? = some (some s)
  | [], _, _, h => h
  | v :: vs, i, s, h => by
    rcases get_set (show ((wipeD δ vs).set v none)[i]? = _ from h) with ⟨_, e⟩ | ⟨_, e⟩
    · cases e
    · exact wipeD_get e
def okWipe (δ : DE) (vs : List Nat) : Bool := vs.all fun i => match δ[i]? with
  | some (some (.ow _)) => false
  | some (some (.bo _)) => false
  | _ => true
theorem Rp.wiped (R : Rp K G ms H σ δ) : ∀ vs : List Nat, okWipe δ vs = true → Rp K G ms H (wipe σ vs) (wipeD δ vs)
  | [], _ => R
  | v :: vs, h => by
    unfold okWipe at h
    rw [List.all_cons, Bool.and_eq_true] at h
    refine (Rp.wiped R vs h.2).forget fun ds z => ?_
    have z' := wipeD_get z
    rw [z'] at h
    cases h.1
def restD (δ : DE) (vs : List Nat) (δ' : DE) : DE := (List.range δ.length).map fun i => if i ∈ vs then (δ[i]?).getD none else (δ'[i]?).getD none
theorem restD_get {vs : List Nat} {i : Nat} {s : Sl} (h : (restD δ vs δ')[i]? = some (some s)) : (i ∈ vs ∧ δ[i]? = some (some s)) ∨ (i ∉ vs ∧ δ'[i]? = some (some s)) := by
  unfold restD at h
  rw [List.getElem?_map] at h
  cases q : (List.range δ.length)[i]? with
  | none => rw [q] at h; cases h
  | some j =>
    obtain ⟨hj, ej⟩ := List.getElem?_eq_some_iff.mp q
    have ej' : i = j := by simpa using ej
    subst ej'
    rw [q] at h
    simp only [Option.map_some, Option.some.injEq] at h
    by_cases hi : i ∈ vs
    · rw [if_pos hi] at h
      cases q2 : δ[i]? with
      | none => rw [q2] at h; cases h
      | some z => rw [q2] at h; exact .inl ⟨hi, by rw [← h]; rfl⟩
    · rw [if_neg hi] at h
      cases q2 : δ'[i]? with
      | none => rw [q2] at h; cases h
      | some z => rw [q2] at h; exact .inr ⟨hi, by rw [← h]; rfl⟩
theorem okWipe_fz {vs : List Nat} (h : okWipe δ vs = true) {i : Nat} {s : Sl} (hi : i ∈ vs) (e : δ[i]? = some (some s)) : ∃ d, s = .fz d := by
  unfold okWipe at h
  rw [List.all_eq_true] at h
  have := h i hi
  rw [e] at this
  cases s with
  | fz d => exact ⟨d, rfl⟩
  | ow d => cases this
  | bo d => cases this
theorem Rp.restore {vs : List Nat} (R : Rp K G ms H σ δ) (R' : Rp K G ms' H' σ' δ') (e : Ext ms H ms' H') (hw : okWipe δ vs = true) (hs : ∀ j, j ∉ vs → σ'[j]? = σ[j]?) : Rp K G ms' H' σ (restD δ vs δ') := by
  refine ⟨?_, R'.ms0, R'.new, R'.here, R'.keep, R'.borm, R'.bori, fun i s h => ?_, fun i j ds es p h1 h2 h3 h4 => ?_, fun i a z => ?_⟩
  · unfold restD
    rw [List.length_map, List.length_range, ← R.len]
  · rcases restD_get h with ⟨hi, h⟩ | ⟨hi, h⟩
    · obtain ⟨d, rfl⟩ := okWipe_fz hw hi h
      obtain ⟨v, a, b⟩ := R.slot i _ h
      exact ⟨v, a, b.mono e.same⟩
    · have q := R'.slot i s h
      have z := hs i hi
      cases s with
      | fz d => obtain ⟨v, a, b⟩ := q; exact ⟨v, z ▸ a, b⟩
      | ow ds => obtain ⟨r, us, a, b, c, d, f⟩ := q; exact ⟨r, us, z ▸ a, b, c, d, f⟩
      | bo ds => obtain ⟨r, us, a, b, d, f⟩ := q; exact ⟨r, us, z ▸ a, b, d, f⟩
  · rcases restD_get h1 with ⟨hi, h1⟩ | ⟨hi, h1⟩
    · obtain ⟨d, hd⟩ := okWipe_fz hw hi h1; cases hd
    · rcases restD_get h2 with ⟨hj, h2⟩ | ⟨hj, h2⟩
      · obtain ⟨d, hd⟩ := okWipe_fz hw hj h2; cases hd
      · rw [← hs i hi] at h3
        rw [← hs j hj] at h4
        exact R'.inj i j ds es p h1 h2 h3 h4
  · obtain ⟨ds, z1⟩ := R.bod i a z
    obtain ⟨es, z2⟩ := R'.bod i a z
    have hi : i ∉ vs := fun q => by
      obtain ⟨d, hd⟩ := okWipe_fz hw q z1; cases hd
    have hl : i < δ.length := (List.getElem?_eq_some_iff.mp z1).1
    refine ⟨es, ?_⟩
    unfold restD
    rw [List.getElem?_map, List.getElem?_range hl, Option.map_some, if_neg hi, z2]
    rfl
theorem restD_ok {vs : List Nat} (hw : okWipe δ vs = true) : okWipe (restD δ vs δ') vs = true := by
  unfold okWipe
  rw [List.all_eq_true]
  intro i hi
  split
  · rename_i ds h
    rcases restD_get h with ⟨_, h⟩ | ⟨z, _⟩
    · obtain ⟨d, hd⟩ := okWipe_fz hw hi h; cases hd
    · exact absurd hi z
  · rename_i ds h
    rcases restD_get h with ⟨_, h⟩ | ⟨z, _⟩
    · obtain ⟨d, hd⟩ := okWipe_fz hw hi h; cases hd
    · exact absurd hi z
  · rfl
end
section
variable {X : Cx} {G : Gm} {elt tg iter : Expr} {fi : EI} {g : EG} {tt : ET} {te : EO} {ws : List Nat}
theorem wipe_eq {σ σ' : L2.St} {vs : List Nat} (hl : σ'.length = σ.length) (h : ∀ j, j ∉ vs → σ'[j]? = (wipe σ vs)[j]?) : wipe σ' vs = wipe σ vs := by
  refine List.ext_getElem? fun j => ?_
  by_cases hj : j ∈ vs
  · have key : ∀ (τ : L2.St), (wipe τ vs)[j]? = if j < τ.length then some none else none := fun τ => by
      cases q : (wipe τ vs)[j]? with
      | none =>
        have := List.getElem?_eq_none_iff.mp q
        rw [wipe_length] at this
        rw [if_neg (by omega)]
      | some z =>
        have hl2 := (List.getElem?_eq_some_iff.mp q).1
        rw [wipe_length] at hl2
        rw [if_pos hl2]
        cases z with
        | none => rfl
        | some v => exact absurd hj (wipe_some q).2
    rw [key, key, hl]
  · rw [wipe_out hj, h j hj, wipe_out hj]
def lcLoop (g : EG) (tt : ET) (te : EO) (vs : List Nat) : List D → List D → DE → Option (List D × DE)
  | [], acc, δ => some (acc, δ)
  | d :: ds, acc, δ => (g d (wipeD δ vs)).bind fun δ1 => (tt δ1).bind fun (b, δ2) => if b = true then (te δ2).bind fun (a, δ3) => (frz a δ3).bind fun (y, δ4) => if acc.length < sizeLine then lcLoop g tt te vs ds (acc ++ [y]) (restD δ vs δ4) else none
      else lcLoop g tt te vs ds acc (restD δ vs δ2)
def lcN (fi : EI) (g : EG) (tt : ET) (te : EO) (vs : List Nat) : EN := fun δ => (fi δ).bind fun (ds, δ1) => if okWipe δ1 vs = true then lcLoop g tt te vs ds [] δ1 else none
def yesT : ET := fun δ => some (true, δ)
theorem dts_nil : PTs X [] (tT X.K G yesT) := ⟨fun pins s σ H Q I q => pts_nil.run pins s σ H Q I (by
  obtain ⟨ms, δ, b, δ', R, e, k⟩ := q
  cases e
  exact k H ms R .refl)⟩
theorem dts_one {c : Expr} {t : ET} (h : PT X c (tT X.K G t)) : PTs X [c] (tT X.K G t) := pts_one h
theorem tLc_of {K : PySem.W.Frag} {vs : List Nat} (hws : ∀ j ∈ ws, j ∈ vs) (σ : L2.St) (H : Hp) (Q : VK) (q : tN K G (lcN fi g tt te vs) σ H Q) :
    tLc (tI K G fi) (fun v σ H Q => ∃ G, tG K G ws g v σ H Q) (fun σ H Q => ∃ G, tT K G tt σ H Q) (fun σ H Q => ∃ G, tO K G te σ H Q) vs σ H Q := by
  obtain ⟨ms, δ, out, δ', R, e, k⟩ := q
  unfold lcN at e
  cases q : fi δ with
  | none => rw [q] at e; cases e
  | some r =>
    obtain ⟨ds, δ1⟩ := r
    simp only [q, Option.bind_some] at e
    split at e
    · rename_i hw
      refine ⟨ms, δ, ds, δ1, R, q, fun J H1 m1 R1 e1 hwk L hL => ?_⟩
      have Lm : L ∉ m1 := R1.fresh hL
      have L0 : L ∉ G.ms0 := fun z => Lm (R1.ms0 L z)
      have Ln : G.H0 L = none := R1.fresh0 hL
      have Lb : ∀ j, G.bor j ≠ some L := fun j z => Lm (R1.ms0 L (R1.borm j L z))
      refine ⟨fun i m H' => m = ds.length - i ∧ i ≤ ds.length ∧ ∃ m2 δ2 acc us, Rp K (G.push L us) m2 H' σ δ2 ∧ Ext m1 H1 m2 H' ∧ DvAll K (mask H' m2) us acc ∧ okWipe δ2 vs = true ∧ lcLoop g tt te vs (ds.drop i) acc δ2 = some (out, δ'), ?_, ?_⟩
      · obtain ⟨R2, e2⟩ := R1.push (xs := []) hL
        exact ⟨ds.length, rfl, Nat.zero_le _, _, δ1, [], [], R2, e2, .nil, hw, by simpa using e⟩
      rintro i m H2 ⟨rfl, hi, m2, δ2, acc, us, R2, e2, da, hw2, hl⟩
      obtain ⟨w1, w2⟩ := hwk i m2 H2 e2 R2.here
      by_cases hlt : i < ds.length
      · right
        have hd : ds[i]? = some ds[i] := List.getElem?_eq_getElem hlt
        rw [List.drop_eq_getElem_cons hlt] at hl
        obtain ⟨go, yl⟩ := w1 _ hd
        refine ⟨go, fun H' => ∃ m3 δ3 acc us, Rp K (G.push L us) m3 H' σ δ3 ∧ Ext m1 H1 m3 H' ∧ DvAll K (mask H' m3) us acc ∧ okWipe δ3 vs = true ∧ lcLoop g tt te vs (ds.drop (i + 1)) acc δ3 = some (out, δ'), fun H' hN => ⟨ds.length - (i + 1), by omega, rfl, hlt, hN⟩, fun x H3 y => ?_⟩
        obtain ⟨sm, dx⟩ := yl x H3 y
        unfold lcLoop at hl
        cases q3 : g ds[i] (wipeD δ2 vs) with
        | none => rw [q3] at hl; cases hl
        | some δ3 =>
          simp only [q3, Option.bind_some] at hl
          have Rw : Rp K (G.push L us) m2 H3 σ δ2 := R2.same sm
          have ew : Ext m2 H2 m2 H3 := .of_same sm
          refine ⟨G.push L us, m2, wipeD δ2 vs, ds[i], δ3, Rw.wiped vs hw2, dx, q3, fun σ4 H4 m4 R4 e4 z4 y4 => ⟨wipe_eq (y4.trans (wipe_length σ vs)) (fun j hj => z4 j fun z => hj (hws j z)), ?_⟩⟩
          cases q4 : tt δ3 with
          | none => rw [q4] at hl; cases hl
          | some r4 =>
            obtain ⟨b, δ4⟩ := r4
            simp only [q4, Option.bind_some] at hl
            have hσ : ∀ j, j ∉ vs → σ4[j]? = σ[j]? := fun j hj => (z4 j fun z => hj (hws j z)).trans (wipe_out hj)
            refine ⟨G.push L us, m4, δ3, b, δ4, R4, q4, fun H5 m5 R5 e5 => ?_⟩
            cases b with
            | false =>
              rw [if_neg Bool.false_ne_true] at hl
              show if false = true then _ else _
              rw [if_neg Bool.false_ne_true]
              have e45 := e4.trans e5
              exact ⟨m5, restD δ2 vs δ4, acc, us, Rw.restore R5 e45 hw2 hσ, (e2.trans ew).trans e45, da.mono (ew.trans e45).same, restD_ok hw2, hl⟩
            | true =>
              rw [if_pos rfl] at hl
              show if true = true then _ else _
              rw [if_pos rfl]
              cases q5 : te δ4 with
              | none => rw [q5] at hl; cases hl
              | some r5 =>
                obtain ⟨a, δ5⟩ := r5
                cases q6 : frz a δ5 with
                | none => simp only [q5, Option.bind_some, q6] at hl; cases hl
                | some r6 =>
                  obtain ⟨yd, δ6⟩ := r6
                  simp only [q5, Option.bind_some, q6] at hl
                  split at hl
                  · rename_i hsz
                    refine ⟨G.push L us, m5, δ4, a, δ5, R5, q5, fun v H6 m6 R6 e6 h6 => ?_⟩
                    obtain ⟨m7, R7, e7, d7⟩ := frz_ok R6 h6 q6
                    have e47 := ((e4.trans e5).trans e6).trans e7
                    have Rr := Rw.restore R7 e47 hw2 hσ
                    have hLl : H6 L = some (.lst us) := R7.keep L _ (by show upd G.H0 L (.lst us) L = some _; rw [upd_same]) (fun j z => Lb j z)
                    have dal := da.mono (ew.trans e47).same
                    obtain ⟨Rg, eg⟩ := Rr.grow (ys := us ++ [v]) Lb
                    refine ⟨us, hLl, by rw [da.length]; exact hsz, m7, restD δ2 vs δ6, acc ++ [yd], us ++ [v], Rg, ((e2.trans ew).trans e47).trans eg, ?_, restD_ok hw2, hl⟩
                    exact (dal.mono eg.same).append (.cons (d7.mono eg.same) .nil)
                  · cases hl
      · left
        have hz : ds.drop i = [] := List.drop_eq_nil_of_le (by omega)
        rw [hz] at hl
        unfold lcLoop at hl
        cases hl
        refine ⟨w2 (by omega), ?_⟩
        obtain ⟨Rp', mk, up, dl⟩ := R2.pop Lb L0 Ln
        have q := k L us (Hp.del H2 L) (m2.filter (fun a => decide (a ≠ L))) Rp' (e1.trans fun a o h1 h2 => ?_) dl (by rw [mk]; exact da)
        · rw [up] at q; exact q
        · obtain ⟨z1, z2⟩ := e2 a o h1 h2
          refine ⟨fun z => z1 (List.mem_filter.mp z).1, ?_⟩
          unfold Hp.del
          rw [if_neg (fun z : a = L => by rw [z, hL] at h2; cases h2)]
          exact z2
    · cases e
theorem dn_lc {ifs : List Expr} {scope : Scope} {own : List (Str × Nat)} {pos : Pos} (hN : X.N.Nodup) (hi : PI X tg iter (tI X.K G fi)) (ok : BlkOk X.N X.env.scope scope own)
    (hg : ∀ (G : Gm) (s : Shared) (H : Hp) (C : Addr) (cl : List (Str × Addr)) (fp : List Addr), PG (X.blk s H scope (compEnvC scope cl C X.env) fp) tg (tG X.K G ws g))
    (ht : ∀ (G : Gm) (s : Shared) (H : Hp) (C : Addr) (cl : List (Str × Addr)) (fp : List Addr), PTs (X.blk s H scope (compEnvC scope cl C X.env) fp) ifs (tT X.K G tt))
    (he : ∀ (G : Gm) (s : Shared) (H : Hp) (C : Addr) (cl : List (Str × Addr)) (fp : List Addr), PE (X.blk s H scope (compEnvC scope cl C X.env) fp) elt (tO X.K G te)) (hws : ∀ j ∈ ws, j ∈ own.map (·.2) := by decide) (hc : X.calm = true := by rfl) (hs : ∀ x, foldedSetIterable iter X.env x = pure x := by intro _; rfl) :
    PE X (.ListComp elt [⟨tg, iter, ifs, 0⟩] scope pos) (tN X.K G (lcN fi g tt te (own.map (·.2)))) :=
  PE.imp (pe_lc (g := fun v σ H Q => ∃ G, tG X.K G ws g v σ H Q) (tt := fun σ H Q => ∃ G, tT X.K G tt σ H Q) (te := fun σ H Q => ∃ G, tO X.K G te σ H Q) hc hN hi ok
    (fun s H C cl fp => ⟨fun pins s' σ H' v u Q I r ⟨G', q⟩ => (hg G' s H C cl fp).run pins s' σ H' v u Q I r q⟩)
    (fun s H C cl fp => ⟨fun pins s' σ H' Q I ⟨G', q⟩ => (ht G' s H C cl fp).run pins s' σ H' Q I q⟩)
    (fun s H C cl fp => ⟨fun pins s' σ H' Q I ⟨G', q⟩ => (he G' s H C cl fp).run pins s' σ H' Q I q⟩) hs) (tLc_of hws)
end
end DL
namespace DL
open PySem PySem.Spec PyProof.Rows L2

/-! ### what a def promises, by data -/
abbrev FD := List Sl → Option (D × List Sl)
structure ArgsR (K : PySem.W.Frag) (ms : List Addr) (H : Hp) (vs : List V) (sls : List Sl) : Prop where
  len : vs.length = sls.length
  fz : ∀ (i : Nat) (d : D), sls[i]? = some (.fz d) → ∃ v, vs[i]? = some v ∧ Dv K (mask H ms) v d
  bo : ∀ (i : Nat) (ds : List D), sls[i]? = some (.bo ds) → ∃ p us, vs[i]? = some (.ref p) ∧ p ∈ ms ∧ H p = some (.lst us) ∧ DvAll K (mask H ms) us ds
  ow : ∀ (i : Nat) (ds : List D), sls[i]? ≠ some (.ow ds)
  apart : ∀ (i j : Nat) (ds es : List D) (p : Addr), sls[i]? = some (.bo ds) → sls[j]? = some (.bo es) → vs[i]? = some (.ref p) → vs[j]? = some (.ref p) → i = j
structure PostR (K : PySem.W.Frag) (ms : List Addr) (H H' : Hp) (vs : List V) (sls sls' : List Sl) : Prop where
  keep : ∀ (a : Addr) (o : HO), H a = some o → (∀ (i : Nat) (ds : List D), sls[i]? = some (.bo ds) → vs[i]? ≠ some (.ref a)) → H' a = some o
  bo : ∀ (i : Nat) (ds ds' : List D), sls[i]? = some (.bo ds) → sls'[i]? = some (.bo ds') → ∃ p us', vs[i]? = some (.ref p) ∧ H' p = some (.lst us') ∧ DvAll K (mask H' ms) us' ds'
def spD (K : PySem.W.Frag) (F : FD) (vs : List V) (H : Hp) (Q : VK) : Prop := ∃ ms sls r sls', ArgsR K ms H vs sls ∧ (∀ a ∈ ms, H a ≠ none) ∧ F sls = some (r, sls') ∧
  ∀ v H', PostR K ms H H' vs sls sls' → Dv K (mask H' ms) v r → Q v H'
structure FnG (P : Program) (w : World) (K : PySem.W.Frag) (mg : Str → Option Value) (base : Heap) (k : Nat) (f : Addr) (fd : FuncData) (ps : List Str) (F : FD) : Prop where
  len : ∀ sls r, F sls = some r → sls.length = ps.length
  run : ∀ (A : Around) (outer : List Env) (s : Shared) (H : Hp) (args : Args) (us : List Value) (vs : List V) (Q : VK), Room k A → A.guards = some [] → Env0 P w K mg base A outer s H → BindsTo s fd args (ps.zip us) → Vals vs us → spD K F vs H Q →
    codeAny (model P w) A (.call (.ref f) args) (CR CX0 outer P w H s Q E0) s
theorem FnG.mono {P : Program} {w : World} {K : PySem.W.Frag} {mg : Str → Option Value} {base : Heap} {j k : Nat} {f : Addr} {fd : FuncData} {ps : List Str} {F : FD} (h : FnG P w K mg base j f fd ps F) (hk : j ≤ k) : FnG P w K mg base k f fd ps F :=
  ⟨h.len, fun A outer s H args us vs Q hr hg => h.run A outer s H args us vs Q (hr.mono hk) hg⟩
structure RoomG (k : Nat) (A : Around) : Prop where
  room : Room k A
  guards : A.guards = some []
theorem RoomG.mono {j k : Nat} {A : Around} (r : RoomG k A) (h : j ≤ k) : RoomG j A := ⟨r.room.mono h, r.guards⟩

/-! ### a def's body -/
def hasOw : List Sl → Bool
  | [] => false
  | .ow _ :: _ => true
  | _ :: r => hasOw r
theorem hasOw_no : ∀ {sls : List Sl}, hasOw sls = false → ∀ (i : Nat) (ds : List D), sls[i]? ≠ some (.ow ds)
  | [], _, i, ds, e => by simp at e
  | .fz d :: r, h, 0, ds, e => by simp at e
  | .bo d :: r, h, 0, ds, e => by simp at e
  | .ow d :: r, h, i, ds, e => by cases h
  | .fz d :: r, h, i + 1, ds, e => hasOw_no (sls := r) (by simpa [hasOw] using h) i ds (by simpa using e)
  | .bo d :: r, h, i + 1, ds, e => hasOw_no (sls := r) (by simpa [hasOw] using h) i ds (by simpa using e)
def outS (np : Nat) (δ : DE) : List Sl := (List.range np).map fun i => ((δ[i]?).getD none).getD (.fz .non)
def fnD (n np : Nat) (body : ES) : FD := fun sls => if sls.length = np ∧ hasOw sls = false then
    (body (sls.map some ++ List.replicate (n - np) none)).bind fun (fl, δ') => match fl with
      | .rt d => some (d, outS np δ')
      | .nx => some (.non, outS np δ')
      | .rn ds => some (.lst ds, outS np δ')
      | _ => none
  else none
theorem outS_bo {np : Nat} {δ : DE} {i : Nat} {ds : List D} (h : (outS np δ)[i]? = some (.bo ds)) : δ[i]? = some (some (.bo ds)) := by
  unfold outS at h
  rw [List.getElem?_map] at h
  cases q : (List.range np)[i]? with
  | none => rw [q] at h; cases h
  | some j =>
    obtain ⟨hj, ej⟩ := List.getElem?_eq_some_iff.mp q
    have ej' : i = j := by simpa using ej
    subst ej'
    rw [q] at h
    simp only [Option.map_some, Option.some.injEq] at h
    cases q2 : δ[i]? with
    | none => rw [q2] at h; cases h
    | some z =>
      cases z with
      | none => rw [q2] at h; cases h
      | some s => rw [q2] at h; simp at h; rw [h]
theorem start_get {N : List Str} {vs : List V} {i : Nat} {v : V} (h : vs[i]? = some v) : (L2.start N vs)[i]? = some (some v) := by
  have hi := (List.getElem?_eq_some_iff.mp h).1
  unfold L2.start
  rw [List.getElem?_append_left (by simpa using hi), List.getElem?_map, h]
  rfl
theorem slots_get {sls : List Sl} {m : Nat} {i : Nat} {s : Sl} (h : (sls.map some ++ List.replicate m none)[i]? = some (some s)) : sls[i]? = some s := by
  by_cases hi : i < sls.length
  · rw [List.getElem?_append_left (by simpa using hi), List.getElem?_map] at h
    cases q : sls[i]? with
    | none => rw [q] at h; cases h
    | some z => rw [q] at h; simpa using h
  · rw [List.getElem?_append_right (by simpa using hi), List.getElem?_replicate] at h
    split at h <;> cases h
def gOf (H : Hp) (ms : List Addr) (vs : List V) (sls : List Sl) : Gm := ⟨H, ms, fun i => match sls[i]?, vs[i]? with
  | some (.bo _), some (.ref p) => some p
  | _, _ => none⟩
theorem gOf_bor {H : Hp} {ms : List Addr} {vs : List V} {sls : List Sl} {i : Nat} {a : Addr} : (gOf H ms vs sls).bor i = some a ↔ (∃ ds, sls[i]? = some (.bo ds)) ∧ vs[i]? = some (.ref a) := by
  unfold gOf
  simp only
  split
  · rename_i ds p h1 h2
    rw [h1, h2]
    constructor
    · intro e; cases e; exact ⟨⟨_, rfl⟩, rfl⟩
    · rintro ⟨_, e⟩; cases e; rfl
  · rename_i h
    constructor
    · intro e; cases e
    · rintro ⟨⟨ds, e1⟩, e2⟩
      exact (h ds a e1 e2).elim
theorem Rp.entry {K : PySem.W.Frag} {ms : List Addr} {H : Hp} {vs : List V} {sls : List Sl} {N : List Str} (a : ArgsR K ms H vs sls) (hm : ∀ a ∈ ms, H a ≠ none) : Rp K (gOf H ms vs sls) ms H (L2.start N vs) (sls.map some ++ List.replicate (N.length - sls.length) none) := by
  refine ⟨?_, fun _ h => h, fun _ h => .inl h, hm, fun a o h _ => h, fun i p h => ?_, fun i j p h1 h2 => ?_, fun i s h => ?_, fun i j ds es p h1 h2 h3 h4 => ?_, fun i p h => ?_⟩
  · unfold L2.start
    rw [List.length_append, List.length_append, List.length_map, List.length_map, List.length_replicate, List.length_replicate, a.len]
  · obtain ⟨⟨ds, e1⟩, e2⟩ := gOf_bor.mp h
    obtain ⟨q, us, b, c, _⟩ := a.bo i ds e1
    rw [e2] at b; cases b
    exact c
  · obtain ⟨⟨ds, e1⟩, e2⟩ := gOf_bor.mp h1
    obtain ⟨⟨es, e3⟩, e4⟩ := gOf_bor.mp h2
    exact a.apart i j ds es p e1 e3 e2 e4
  · have h := slots_get h
    cases s with
    | fz d => obtain ⟨v, b, c⟩ := a.fz i d h; exact ⟨v, start_get b, c⟩
    | ow d => exact absurd h (a.ow i d)
    | bo ds =>
      obtain ⟨p, us, b, c, d, f⟩ := a.bo i ds h
      exact ⟨p, us, start_get b, gOf_bor.mpr ⟨⟨ds, h⟩, b⟩, d, f⟩
  · exact absurd (slots_get h1) (a.ow i ds)
  · obtain ⟨⟨ds, e1⟩, e2⟩ := gOf_bor.mp h
    refine ⟨ds, ?_⟩
    rw [List.getElem?_append_left (by simpa using (List.getElem?_eq_some_iff.mp e1).1), List.getElem?_map, e1]
    rfl
section
variable {P : Program} {w : World} {K : PySem.W.Frag} {mg : Str → Option Value} {base : Heap}
theorem fnG_of {k : Nat} {x qual : Str} {st : Stmt} {f : Addr} {fd : FuncData} {N ps : List Str} {den : ES} (Fn : Fun K x qual st f fd) (S : FnScope N ps (defScope st))
    (hbody : ∀ (cdv : Value) (A : Around) (outer : List Env) (s : Shared) (H : Hp) (G : Gm), RoomG k (A.deeper (envOfC qual (defScope st) s.heap.objs.size f cdv)) →
      PSs (cxOf CX0 P w K mg base N qual (defScope st) f cdv A outer s H E0).nox (defBody st) (tS K G den)) : FnG P w K mg base (k + 1) f fd ps (fnD N.length ps.length den) := by
  obtain ⟨oc, od, kV, doc, pm, an, cdv, ct, osl, rfl, lk, hcd⟩ := Fn.ex
  have hlen : ∀ sls r, fnD N.length ps.length den sls = some r → sls.length = ps.length := fun sls r e => by
    unfold fnD at e
    split at e
    · rename_i h; exact h.1
    · cases e
  refine ⟨hlen, fun A outer s H args us vs Q hr hg e0 hb r hsp => ?_⟩
  have nlen : us.length = ps.length := by
    obtain ⟨ms, sls, r0, sls', a, _, e, _⟩ := hsp
    rw [← hlen _ _ e, ← a.len, r.length]
  have vlen : vs.length = ps.length := by rw [r.length]; exact nlen
  have KX : K.In s.heap := e0.mod.kin.keeps fun b o z => (e0.bs b o z).1
  have nol : s.heap.NoLimit := e0.mod.nolimit.keeps fun b o z => (e0.bs b o z).1
  have kd : ∀ y ∈ ps.zip us, (defScope st).names.lookup y.1 = some .local ∨ ((defScope st).names.lookup y.1 = some .cell ∧ ((cellsFrom (s.heap.objs.size + 1) (defScope st).names []).lookup y.1).isSome = true) := by
    rintro ⟨n, v⟩ hy
    rcases S.par n (List.of_mem_zip hy).1 with z | z
    · exact .inl z
    · exact .inr ⟨z, PySem.W.cellsFrom_some _ _ _ (.inl z)⟩
  refine codeAny_call_function (Room.depth hr) (KX _ _ lk) rfl S.co S.gen rfl (PySem.W.codeRec_of KX hcd) (hb _ _ _ _ ?_)
  refine wpAny_newFunctionEnv_cells S.kind kd fun env he s1 x1 => ?_
  subst he
  refine ⟨nol.keeps x1.toInCall.keep, codeAny_func ?_⟩
  have hrd : RoomG k (A.deeper (envOfC qual (defScope st) s.heap.objs.size f cdv)) := ⟨hr.deeper _, hg⟩
  obtain ⟨ms, sls, r0, sls', a, hm, e, kk⟩ := hsp
  have hbd := (hbody cdv A outer s H (gOf H ms vs sls) hrd).nox
  have I0 : Inv (cxOf CX0 P w K mg base N qual (defScope st) f cdv A outer s H E0) [] (L2.start N vs) H s1 := inv_start S hr.hd e0 vlen r x1
  unfold fnD at e
  split at e
  · rename_i hcnd
    cases q : den (sls.map some ++ List.replicate (N.length - ps.length) none) with
    | none => rw [q] at e; cases e
    | some z =>
      obtain ⟨fl, δ'⟩ := z
      simp only [q, Option.bind_some] at e
      have R0 := Rp.entry (N := N) a hm
      rw [hcnd.1] at R0
      -- what the end tells
      have fin : ∀ (d : D), sls' = outS ps.length δ' → d = r0 → ∀ v σ' H' ms', Rp K (gOf H ms vs sls) ms' H' σ' δ' → Dv K (mask H' ms') v d → Q v H' := by
        intro d e1 e2 v σ' H' ms' R' hv
        subst e2
        have em : Same (mask H' ms') (mask H' ms) := fun b o hb => by
          obtain ⟨z1, z2⟩ := mask_some.mp hb
          exact mask_some.mpr ⟨fun z => z1 (R'.ms0 b z), z2⟩
        refine kk v H' ⟨fun b o hb hn => R'.keep b o hb fun i hi => ?_, fun i ds ds' h1 h2 => ?_⟩ (hv.mono em)
        · obtain ⟨⟨ds, w1⟩, w2⟩ := gOf_bor.mp hi
          exact hn i ds w1 w2
        · rw [e1] at h2
          obtain ⟨p, us', b1, b2, b3, b4⟩ := R'.slot i _ (outS_bo h2)
          exact ⟨p, us', (gOf_bor.mp b2).2, b3, b4.mono em⟩
      refine wpAny_mono (hbd.run [] s1 (L2.start N vs) H { nx := fun _ H' => Q .non H', rt := Q } I0 ⟨ms, _, fl, δ', R0, q, ?_⟩) (fun fl s' hs => ?_) fun e' s' hs => hs
      · cases fl with
        | nx =>
          simp only [Option.some.injEq, Prod.mk.injEq] at e
          exact fun σ' H' ms' R' _ => fin .non e.2.symm e.1 .non σ' H' ms' R' .non
        | rt d =>
          simp only [Option.some.injEq, Prod.mk.injEq] at e
          exact fun v σ' H' ms' R' _ hv => fin d e.2.symm e.1 v σ' H' ms' R' hv
        | rn ds =>
          simp only [Option.some.injEq, Prod.mk.injEq] at e
          exact fun p us σ' H' ms' R' _ hp hd => fin (.lst ds) e.2.symm e.1 (.ref p) σ' _ ms' (R'.same (same_upd hp)) (dv_new_lst R'.here hp hd)
        | bk => cases e
        | ct => cases e
      · have out : ∀ {σ' : L2.St} {H' : Hp} {v : V} {u : Value}, Inv (cxOf CX0 P w K mg base N qual (defScope st) f cdv A outer s H E0) [] σ' H' s' → RelV v u → Q v H' → CE outer P w H s Q u s' :=
          fun {σ' H' v u} J rv q => ⟨v, H', J.os, J.bare, J.base, J.hok, rv, q⟩
        cases fl with
        | ret u =>
          obtain ⟨v, σ', H', J, rv, q⟩ := hs
          exact out J rv q
        | next =>
          obtain ⟨σ', H', J, q⟩ := hs
          exact out (v := V.non) (u := Value.none) J rfl q
        | brk =>
          obtain ⟨_, _, _, q⟩ := hs
          exact q.elim
        | cont =>
          obtain ⟨_, _, _, q⟩ := hs
          exact q.elim
  · cases e
end
end DL
namespace DL
open PySem PySem.Spec PyProof.Rows L2

/-! ### a call: the lists that were lent come back -/
def giveS (δ : DE) : Ar → Option Sl
  | .d x => some (.fz x)
  | .sl i => match δ[i]? with
    | some (some (.fz d)) => some (.fz d)
    | some (some (.ow ds)) => some (.bo ds)
    | some (some (.bo ds)) => some (.bo ds)
    | _ => none
def giveSs (δ : DE) : List Ar → Option (List Sl)
  | [] => some []
  | a :: as => (giveS δ a).bind fun s => (giveSs δ as).bind fun ss => some (s :: ss)
/-- the slots lent: slot and new contents -/
def lent : List Ar → List Sl → List Sl → Option (List (Nat × List D))
  | [], [], [] => some []
  | .sl i :: as, .bo _ :: ss, .bo ds' :: ss' => (lent as ss ss').bind fun r => some ((i, ds') :: r)
  | _ :: as, .fz _ :: ss, _ :: ss' => lent as ss ss'
  | _, _, _ => none
def wback (bs : List (Nat × List D)) (δ : DE) : DE := (List.range δ.length).map fun i => match bs.lookup i with
  | some ds' => ((δ[i]?).getD none).map (recont ds')
  | none => (δ[i]?).getD none
theorem wback_get {bs : List (Nat × List D)} {δ : DE} {i : Nat} {s : Sl} (h : (wback bs δ)[i]? = some (some s)) :
    (∃ ds' s0, bs.lookup i = some ds' ∧ δ[i]? = some (some s0) ∧ s = recont ds' s0) ∨ (bs.lookup i = none ∧ δ[i]? = some (some s)) := by
  unfold wback at h
  rw [List.getElem?_map] at h
  cases q : (List.range δ.length)[i]? with
  | none => rw [q] at h; cases h
  | some j =>
    obtain ⟨hj, ej⟩ := List.getElem?_eq_some_iff.mp q
    have ej' : i = j := by simpa using ej
    subst ej'
    rw [q] at h
    simp only [Option.map_some, Option.some.injEq] at h
    cases q2 : δ[i]? with
    | none =>
      rw [q2] at h
      split at h <;> cases h
    | some z =>
      rw [q2] at h
      split at h
      · rename_i ds' hl
        cases z with
        | none => cases h
        | some s0 =>
          simp only [Option.getD_some, Option.map_some, Option.some.injEq] at h
          exact .inl ⟨ds', s0, hl, rfl, h.symm⟩
      · rename_i hl
        exact .inr ⟨hl, by rw [← h]; rfl⟩
section
variable {K : PySem.W.Frag} {G : Gm} {ms : List Addr} {H H' : Hp} {σ : L2.St} {δ : DE}
/-- behind a call: bs tells the slots whose lists changed -/
theorem Rp.called {bs : List (Nat × List D)} (R : Rp K G ms H σ δ)
    (hb : ∀ i ds', bs.lookup i = some ds' → ∃ s0 p us', δ[i]? = some (some s0) ∧ (cont s0).isSome = true ∧ σ[i]? = some (some (.ref p)) ∧ H' p = some (.lst us') ∧ DvAll K (mask H' ms) us' ds')
    (hk : ∀ a o, H a = some o → (∀ i ds', bs.lookup i = some ds' → σ[i]? ≠ some (some (.ref a))) → H' a = some o) : Rp K G ms H' σ (wback bs δ) ∧ Ext ms H ms H' := by
  -- the addresses lent lie in ms, are slots' own
  have lentm : ∀ i ds' p, bs.lookup i = some ds' → σ[i]? = some (some (.ref p)) → p ∈ ms ∧ (G.H0 p = none ∨ G.bor i = some p) := fun i ds' p h1 h2 => by
    obtain ⟨s0, p', us', e1, e2, e3, _⟩ := hb i ds' h1
    rw [h2] at e3; cases e3
    have q := R.slot i _ e1
    cases s0 with
    | fz d => cases e2
    | ow ds =>
      obtain ⟨r, us, a, b, c, _⟩ := q
      rw [h2] at a; cases a
      exact ⟨b, .inl ((R.new _ b).resolve_left c)⟩
    | bo ds =>
      obtain ⟨r, us, a, b, _⟩ := q
      rw [h2] at a; cases a
      exact ⟨R.ms0 _ (R.borm _ _ b), .inr b⟩
  have ex : Ext ms H ms H' := fun a o h1 h2 => ⟨h1, hk a o h2 fun i ds' e1 e2 => h1 (lentm i ds' a e1 e2).1⟩
  have sm := ex.same
  -- a slot's list that was not lent
  have stay : ∀ j q us, σ[j]? = some (some (.ref q)) → bs.lookup j = none → (∃ ds, δ[j]? = some (some (.ow ds)) ∨ δ[j]? = some (some (.bo ds))) → H q = some (.lst us) → H' q = some (.lst us) := fun j q us h1 h2 h3 h4 => by
    refine hk q _ h4 fun i ds' e1 e2 => ?_
    have hij : i ≠ j := fun z => by rw [z, h2] at e1; cases e1
    obtain ⟨s0, p', us', f1, f2, f3, _⟩ := hb i ds' e1
    rw [e2] at f3; cases f3
    have qi := R.slot i _ f1
    obtain ⟨ds, h3 | h3⟩ := h3
    · obtain ⟨r, us2, a, b, c, _⟩ := R.slot j _ h3
      rw [h1] at a; cases a
      cases s0 with
      | fz d => cases f2
      | ow es => exact hij (R.inj i j es ds _ f1 h3 e2 h1)
      | bo es =>
        obtain ⟨r, us3, a', b', _⟩ := qi
        rw [e2] at a'; cases a'
        exact c (R.borm _ _ b')
    · obtain ⟨r, us2, a, b, _⟩ := R.slot j _ h3
      rw [h1] at a; cases a
      cases s0 with
      | fz d => cases f2
      | ow es =>
        obtain ⟨r, us3, a', b', c', _⟩ := qi
        rw [e2] at a'; cases a'
        exact c' (R.borm _ _ b)
      | bo es =>
        obtain ⟨r, us3, a', b', _⟩ := qi
        rw [e2] at a'; cases a'
        exact hij (R.bori _ _ _ b' b)
  refine ⟨⟨?_, R.ms0, R.new, fun a ha => ?_, fun a o e hn => ?_, R.borm, R.bori, fun i s h => ?_, fun i j ds es p h1 h2 h3 h4 => ?_, fun i a z => by
    obtain ⟨ds, z1⟩ := R.bod i a z
    have hl : i < δ.length := (List.getElem?_eq_some_iff.mp z1).1
    unfold wback
    rw [List.getElem?_map, List.getElem?_range hl, Option.map_some, z1]
    cases bs.lookup i with
    | none => exact ⟨ds, rfl⟩
    | some es => exact ⟨es, rfl⟩⟩, ex⟩
  · unfold wback
    rw [List.length_map, List.length_range, R.len]
  · cases q : H a with
    | none => exact absurd q (R.here a ha)
    | some o =>
      by_cases hx : ∃ i ds', bs.lookup i = some ds' ∧ σ[i]? = some (some (.ref a))
      · obtain ⟨i, ds', e1, e2⟩ := hx
        obtain ⟨s0, p', us', f1, f2, f3, f4, _⟩ := hb i ds' e1
        rw [e2] at f3; cases f3
        rw [f4]; simp
      · rw [hk a o q fun i ds' e1 e2 => hx ⟨i, ds', e1, e2⟩]; simp
  · refine hk a o (R.keep a o e hn) fun i ds' e1 e2 => ?_
    rcases (lentm i ds' a e1 e2).2 with z | z
    · rw [z] at e; cases e
    · exact hn i z
  · rcases wback_get h with ⟨ds', s0, e1, e2, rfl⟩ | ⟨e1, e2⟩
    · obtain ⟨s1, p, us', f1, f2, f3, f4, f5⟩ := hb i ds' e1
      rw [e2] at f1; cases f1
      have q := R.slot i _ e2
      cases s0 with
      | fz d => cases f2
      | ow ds =>
        obtain ⟨r, us, a, b, c, _⟩ := q
        rw [f3] at a; cases a
        exact ⟨p, us', f3, b, c, f4, f5⟩
      | bo ds =>
        obtain ⟨r, us, a, b, _⟩ := q
        rw [f3] at a; cases a
        exact ⟨p, us', f3, b, f4, f5⟩
    · have q := R.slot i _ e2
      cases s with
      | fz d => obtain ⟨v, a, b⟩ := q; exact ⟨v, a, b.mono sm⟩
      | ow ds =>
        obtain ⟨r, us, a, b, c, d, f⟩ := q
        exact ⟨r, us, a, b, c, stay i r us a e1 ⟨ds, .inl e2⟩ d, f.mono sm⟩
      | bo ds =>
        obtain ⟨r, us, a, b, d, f⟩ := q
        exact ⟨r, us, a, b, stay i r us a e1 ⟨ds, .inr e2⟩ d, f.mono sm⟩
  · have conv : ∀ (m : Nat) (xs : List D), (wback bs δ)[m]? = some (some (.ow xs)) → ∃ xs' : List D, δ[m]? = some (some (.ow xs')) := fun m xs h => by
      rcases wback_get h with ⟨ds', s0, e1, e2, e3⟩ | ⟨e1, e2⟩
      · cases s0 with
        | fz d => cases e3
        | ow z => exact ⟨z, e2⟩
        | bo z => cases e3
      · exact ⟨xs, e2⟩
    obtain ⟨x1, g1⟩ := conv i _ h1
    obtain ⟨x2, g2⟩ := conv j _ h2
    exact R.inj i j _ _ p g1 g2 h3 h4
/-- the slots of the arguments that are lent -/
def lentIx (δ : DE) : List Ar → List Nat
  | [] => []
  | .sl i :: as => match δ[i]? with
    | some (some (.ow _)) => i :: lentIx δ as
    | some (some (.bo _)) => i :: lentIx δ as
    | _ => lentIx δ as
  | .d _ :: as => lentIx δ as
theorem giveSs_get : ∀ {as : List Ar} {sls : List Sl}, giveSs δ as = some sls → as.length = sls.length ∧ ∀ (k : Nat) (s : Sl), sls[k]? = some s → ∃ a, as[k]? = some a ∧ giveS δ a = some s
  | [], sls, e => by cases e; exact ⟨rfl, fun k s h => by simp at h⟩
  | a :: as, sls, e => by
    unfold giveSs at e
    cases q : giveS δ a with
    | none => rw [q] at e; cases e
    | some s0 =>
      cases q2 : giveSs δ as with
      | none => simp only [q, Option.bind_some, q2] at e; cases e
      | some ss =>
        simp only [q, Option.bind_some, q2] at e; cases e
        obtain ⟨h1, h2⟩ := giveSs_get q2
        refine ⟨by simp [h1], fun k s h => ?_⟩
        cases k with
        | zero => simp at h; subst h; exact ⟨a, rfl, q⟩
        | succ k => simpa using h2 k s (by simpa using h)
theorem RAs.get : ∀ {as : List Ar} {vs : List V}, RAs K ms H σ as vs → as.length = vs.length ∧ ∀ (k : Nat) (a : Ar), as[k]? = some a → ∃ v, vs[k]? = some v ∧ RA K ms H σ a v
  | _, _, .nil => ⟨rfl, fun k a h => by simp at h⟩
  | _, _, .cons h t => by
    obtain ⟨h1, h2⟩ := RAs.get t
    refine ⟨by simp [h1], fun k a e => ?_⟩
    cases k with
    | zero => simp at e; subst e; exact ⟨_, rfl, h⟩
    | succ k => simpa using h2 k a (by simpa using e)
theorem giveS_bo {a : Ar} {ds : List D} (h : giveS δ a = some (.bo ds)) : ∃ i, a = .sl i ∧ (δ[i]? = some (some (.ow ds)) ∨ δ[i]? = some (some (.bo ds))) := by
  cases a with
  | d x => cases h
  | sl i =>
    simp only [giveS] at h
    split at h
    · cases h
    · rename_i xs hx; cases h; exact ⟨i, rfl, .inl hx⟩
    · rename_i xs hx; cases h; exact ⟨i, rfl, .inr hx⟩
    · cases h
theorem lentIx_mem : ∀ {as : List Ar} {k i : Nat} {ds : List D}, as[k]? = some (.sl i) → (δ[i]? = some (some (.ow ds)) ∨ δ[i]? = some (some (.bo ds))) → i ∈ lentIx δ as
  | [], _, _, _, h, _ => by simp at h
  | a :: as, 0, i, ds, h, hd => by
    simp at h; subst h
    rcases hd with hd | hd <;> simp [lentIx, hd]
  | a :: as, k + 1, i, ds, h, hd => by
    have ih := lentIx_mem (as := as) (k := k) (by simpa using h) hd
    cases a with
    | d x => simpa [lentIx] using ih
    | sl j =>
      unfold lentIx
      split
      · exact List.mem_cons_of_mem _ ih
      · exact List.mem_cons_of_mem _ ih
      · exact ih
theorem lentIx_apart : ∀ {as : List Ar} {k l i : Nat} {ds : List D}, (lentIx δ as).Nodup → as[k]? = some (.sl i) → as[l]? = some (.sl i) → (δ[i]? = some (some (.ow ds)) ∨ δ[i]? = some (some (.bo ds))) → k = l
  | [], _, _, _, _, _, h, _, _ => by simp at h
  | a :: as, 0, 0, _, _, _, _, _, _ => rfl
  | a :: as, 0, l + 1, i, ds, nd, h1, h2, hd => by
    simp at h1; subst h1
    have m := lentIx_mem (as := as) (k := l) (by simpa using h2) hd
    rcases hd with hd | hd <;> (simp only [lentIx, hd] at nd; exact absurd m (List.nodup_cons.mp nd).1)
  | a :: as, k + 1, 0, i, ds, nd, h1, h2, hd => by
    simp at h2; subst h2
    have m := lentIx_mem (as := as) (k := k) (by simpa using h1) hd
    rcases hd with hd | hd <;> (simp only [lentIx, hd] at nd; exact absurd m (List.nodup_cons.mp nd).1)
  | a :: as, k + 1, l + 1, i, ds, nd, h1, h2, hd => by
    have nd' : (lentIx δ as).Nodup := by
      cases a with
      | d x => simpa [lentIx] using nd
      | sl j =>
        unfold lentIx at nd
        split at nd
        · exact (List.nodup_cons.mp nd).2
        · exact (List.nodup_cons.mp nd).2
        · exact nd
    exact congrArg (· + 1) (lentIx_apart (as := as) nd' (by simpa using h1) (by simpa using h2) hd)
theorem args_of {as : List Ar} {vs : List V} {sls : List Sl} (R : Rp K G ms H σ δ) (h : RAs K ms H σ as vs) (e : giveSs δ as = some sls) (nd : (lentIx δ as).Nodup) : ArgsR K ms H vs sls := by
  obtain ⟨l1, g1⟩ := giveSs_get e
  obtain ⟨l2, g2⟩ := RAs.get h
  refine ⟨by rw [← l2, l1], fun k d hd => ?_, fun k ds hd => ?_, fun k ds hd => ?_, fun k l ds es p h1 h2 h3 h4 => ?_⟩
  · obtain ⟨a, ha, ga⟩ := g1 k _ hd
    obtain ⟨v, hv, rv⟩ := g2 k a ha
    refine ⟨v, hv, ?_⟩
    cases a with
    | d x => cases ga; exact rv
    | sl i =>
      simp only [giveS] at ga
      split at ga
      · rename_i d' hs
        cases ga
        obtain ⟨v', a', b'⟩ := R.slot i _ hs
        have rv' : σ[i]? = some (some v) := rv
        rw [rv'] at a'; cases a'
        exact b'
      · cases ga
      · cases ga
      · cases ga
  · obtain ⟨a, ha, ga⟩ := g1 k _ hd
    obtain ⟨v, hv, rv⟩ := g2 k a ha
    obtain ⟨i, rfl, hs⟩ := giveS_bo ga
    have rv' : σ[i]? = some (some v) := rv
    rcases hs with hs | hs
    · obtain ⟨q, us, a', b', c', d', f'⟩ := R.slot i _ hs
      rw [rv'] at a'; cases a'
      exact ⟨q, us, hv, b', d', f'⟩
    · obtain ⟨q, us, a', b', d', f'⟩ := R.slot i _ hs
      rw [rv'] at a'; cases a'
      exact ⟨q, us, hv, R.ms0 _ (R.borm _ _ b'), d', f'⟩
  · obtain ⟨a, ha, ga⟩ := g1 k _ hd
    cases a with
    | d x => cases ga
    | sl i =>
      simp only [giveS] at ga
      split at ga <;> cases ga
  · obtain ⟨a, ha, ga⟩ := g1 k _ h1
    obtain ⟨b, hb, gb⟩ := g1 l _ h2
    obtain ⟨v, hv, rv⟩ := g2 k a ha
    obtain ⟨v', hv', rv'⟩ := g2 l b hb
    rw [h3] at hv; cases hv
    rw [h4] at hv'; cases hv'
    obtain ⟨i, rfl, hs⟩ := giveS_bo ga
    obtain ⟨j, rfl, ht⟩ := giveS_bo gb
    have r1 : σ[i]? = some (some (.ref p)) := rv
    have r2 : σ[j]? = some (some (.ref p)) := rv'
    have hij : i = j := by
      rcases hs with hs | hs <;> rcases ht with ht | ht
      · exact R.inj i j _ _ p hs ht r1 r2
      · obtain ⟨q, us, a', b', c', _⟩ := R.slot i _ hs
        obtain ⟨q', us', a'', b'', _⟩ := R.slot j _ ht
        rw [r1] at a'; cases a'
        rw [r2] at a''; cases a''
        exact absurd (R.borm _ _ b'') c'
      · obtain ⟨q, us, a', b', _⟩ := R.slot i _ hs
        obtain ⟨q', us', a'', b'', c'', _⟩ := R.slot j _ ht
        rw [r1] at a'; cases a'
        rw [r2] at a''; cases a''
        exact absurd (R.borm _ _ b') c''
      · obtain ⟨q, us, a', b', _⟩ := R.slot i _ hs
        obtain ⟨q', us', a'', b'', _⟩ := R.slot j _ ht
        rw [r1] at a'; cases a'
        rw [r2] at a''; cases a''
        exact R.bori _ _ _ b' b''
    subst hij
    exact lentIx_apart nd ha hb hs
theorem lent_get : ∀ {as : List Ar} {sls sls' : List Sl} {bs : List (Nat × List D)}, lent as sls sls' = some bs → ∀ (i : Nat) (ds' : List D), bs.lookup i = some ds' →
    ∃ (k : Nat) (ds : List D), as[k]? = some (Ar.sl i) ∧ sls[k]? = some (Sl.bo ds) ∧ sls'[k]? = some (Sl.bo ds')
  | as, sls, sls', bs, e, i, ds', h => by
    fun_induction lent as sls sls' generalizing bs with
    | case1 => cases e; simp at h
    | case2 j as x ss y ss' ih =>
      cases q : lent as ss ss' with
      | none => rw [q] at e; cases e
      | some r =>
        rw [q] at e; cases e
        by_cases hi : i = j
        · subst hi
          simp [List.lookup] at h
          subst h
          exact ⟨0, x, rfl, rfl, rfl⟩
        · have hne : (i == j) = false := by simpa using hi
          simp only [List.lookup, hne] at h
          obtain ⟨k, ds, a, b, c⟩ := ih (bs := r) q h
          exact ⟨k + 1, ds, by simpa using a, by simpa using b, by simpa using c⟩
    | case3 a as x ss y ss' ih =>
      obtain ⟨k, ds, a, b, c⟩ := ih (bs := bs) e h
      exact ⟨k + 1, ds, by simpa using a, by simpa using b, by simpa using c⟩
    | case4 => cases e
theorem lent_all : ∀ {as : List Ar} {sls sls' : List Sl} {bs : List (Nat × List D)}, lent as sls sls' = some bs → ∀ (k : Nat) (ds : List D), sls[k]? = some (.bo ds) → ∃ (i : Nat) (ds' : List D), as[k]? = some (Ar.sl i) ∧ bs.lookup i = some ds'
  | as, sls, sls', bs, e, k, ds, h => by
    fun_induction lent as sls sls' generalizing bs k with
    | case1 => simp at h
    | case2 j as x ss y ss' ih =>
      cases q : lent as ss ss' with
      | none => rw [q] at e; cases e
      | some r =>
        rw [q] at e; cases e
        cases k with
        | zero => exact ⟨j, y, rfl, by simp [List.lookup]⟩
        | succ k =>
          obtain ⟨i, ds', a, b⟩ := ih (bs := r) (k := k) q (by simpa using h)
          by_cases hi : i = j
          · subst hi
            exact ⟨i, y, by simpa using a, by simp [List.lookup]⟩
          · have hne : (i == j) = false := by simpa using hi
            exact ⟨i, ds', by simpa using a, by simp only [List.lookup, hne]; exact b⟩
    | case3 a as x ss y ss' ih =>
      cases k with
      | zero => simp at h
      | succ k =>
        obtain ⟨i, ds', a, b⟩ := ih (bs := bs) (k := k) e (by simpa using h)
        exact ⟨i, ds', by simpa using a, b⟩
    | case4 => cases e
end
section
variable {X : Cx} {G : Gm} {e : Expr} {es : List Expr} {fa fk : EA} {F : FD} {k : Nat} {f : Addr} {fd : FuncData} {ps ks : List Str} {x : Str} {p pos : Pos} {kws : List Keyword}
def runC (F : FD) (as : List Ar) (δ1 : DE) : Option (Ar × DE) := if (lentIx δ1 as).Nodup then (giveSs δ1 as).bind fun sls => (F sls).bind fun (r, sls') => (lent as sls sls').bind fun bs => some (.d r, wback bs δ1) else none
theorem sp_of {as : List Ar} {vs : List V} {ms : List Addr} {H : Hp} {σ : L2.St} {δ1 δ' : DE} {a : Ar} {Q : VK} {K : PySem.W.Frag} (R : Rp K G ms H σ δ1) (h : RAs K ms H σ as vs) (e : runC F as δ1 = some (a, δ'))
    (k : ∀ v H' ms', Rp K G ms' H' σ δ' → Ext ms H ms' H' → RA K ms' H' σ a v → Q v H') : spD K F vs H Q := by
  unfold runC at e
  split at e
  · rename_i nd
    cases q : giveSs δ1 as with
    | none => rw [q] at e; cases e
    | some sls =>
      cases q2 : F sls with
      | none => simp only [q, Option.bind_some, q2] at e; cases e
      | some r2 =>
        obtain ⟨r, sls'⟩ := r2
        cases q3 : lent as sls sls' with
        | none => simp only [q, Option.bind_some, q2, q3] at e; cases e
        | some bs =>
          simp only [q, Option.bind_some, q2, q3] at e
          cases e
          have A := args_of R h q nd
          obtain ⟨l2, g2⟩ := RAs.get h
          obtain ⟨l1, g1⟩ := giveSs_get q
          refine ⟨ms, sls, r, sls', A, R.here, q2, fun v H' post hv => ?_⟩
          have c1 : ∀ i ds', bs.lookup i = some ds' → ∃ s0 p us', δ1[i]? = some (some s0) ∧ (cont s0).isSome = true ∧ σ[i]? = some (some (V.ref p)) ∧ H' p = some (HO.lst us') ∧ DvAll K (mask H' ms) us' ds' := by
            intro i ds' hl
            obtain ⟨kk, ds, a1, a2, a3⟩ := lent_get q3 i ds' hl
            obtain ⟨q', us', b1, b2, b3⟩ := post.bo kk ds ds' a2 a3
            obtain ⟨v', hv', rv'⟩ := g2 kk _ a1
            rw [b1] at hv'; cases hv'
            obtain ⟨a', ha', ga'⟩ := g1 kk _ a2
            rw [a1] at ha'; cases ha'
            obtain ⟨i', e', hs⟩ := giveS_bo ga'
            cases e'
            rcases hs with hs | hs
            · exact ⟨_, q', us', hs, rfl, rv', b2, b3⟩
            · exact ⟨_, q', us', hs, rfl, rv', b2, b3⟩
          have c2 : ∀ b o, H b = some o → (∀ i ds', bs.lookup i = some ds' → σ[i]? ≠ some (some (V.ref b))) → H' b = some o := by
            intro b o hb hn
            refine post.keep b o hb fun kk ds hk hv' => ?_
            obtain ⟨i, ds', a1, a2⟩ := lent_all q3 kk ds hk
            obtain ⟨v', hv'', rv'⟩ := g2 kk _ a1
            rw [hv'] at hv''; cases hv''
            exact hn i ds' a2 rv'
          obtain ⟨R', ex⟩ := R.called (bs := bs) (H' := H') c1 c2
          exact k v H' ms R' ex hv
  · cases e
theorem run_fnG {pins : List (Addr × Obj)} {σ : L2.St} {H : Hp} {s : Shared} {Q : VK} {us us' : List Value} {vs : List V} {args : Args} (Fo : FnG X.prog X.w X.K X.mg X.base k f fd ps F) (hr : RoomG k X.A) (hb : BindsTo s fd args (ps.zip us'))
    (I : Inv X pins σ H s) (r : Vals vs us') (h : spD X.K F vs H Q) : codeAny (model X.prog X.w) X.A (.call (.ref f) args) (fun r s' => match r with | .ok (.ret u) => EP X pins σ Q u s' | _ => False) s := by
  refine codeAny_mono (Fo.run X.A X.stack s H args us' vs Q hr.room hr.guards I.env0 hb r h) fun r s' hq => ?_
  cases r with
  | error e => exact hq.elim
  | ok fl =>
    cases fl with
    | ret u => exact I.after hq
    | next => exact hq.elim
    | brk => exact hq.elim
    | cont => exact hq.elim
theorem run_fnG' {pins : List (Addr × Obj)} {σ : L2.St} {H : Hp} {s : Shared} {Q : VK} {us us' : List Value} {vs : List V} {kv : List (Str × Value)} (Fo : FnG X.prog X.w X.K X.mg X.base k f fd ps F) (hr : RoomG k X.A) (hb : BindsTo s fd ⟨us, kv⟩ (ps.zip us'))
    (I : Inv X pins σ H s) (r : Vals vs us') (h : spD X.K F vs H Q) : wpAny (model X.prog X.w) X.A (call (.ref f) us kv) (EP X pins σ Q) X.xe s := by
  refine wpAny_call (codeAny_mono (run_fnG (us := us) Fo hr hb I r h) fun r s' hq => ?_)
  cases r with
  | error e => exact hq.elim
  | ok fl =>
    cases fl with
    | ret u => exact hq
    | next => exact hq.elim
    | brk => exact hq.elim
    | cont => exact hq.elim
def callD (F : FD) (fa : EA) : EO := fun δ => (fa δ).bind fun (as, δ1) => runC F as δ1
theorem spD_len {K : PySem.W.Frag} {vs : List V} {H : Hp} {Q : VK} (Fo : FnG X.prog X.w X.K X.mg X.base k f fd ps F) (h : spD K F vs H Q) : vs.length = ps.length := by
  obtain ⟨ms, sls, r, sls', a, _, e, _⟩ := h
  rw [a.len]
  exact Fo.len _ _ e
theorem do_call (Fo : FnG X.prog X.w X.K X.mg X.base k f fd ps F) (hr : RoomG k X.A) (hm : X.mg x = some (.ref f)) (hk : PySem.W.keepIn X.K (.ref f) = true) (hb : Binds X.K fd ps [])
    (ha : PA X (e :: es) (tAr X.K G fa)) (hg : Gl X x := by rfl) (hdb : (x == ("__debug__" : Str)) = false := by decide) (he : starEach (e :: es) X.env = (false, eval e X.env) :: starEach es X.env := by rfl) (hpl : (backTo pos (starEach es X.env)).any (·.1) = false := by rfl) :
    PE X (.Call (.Name x p) (e :: es) [] pos) (tO X.K G (callD F fa)) := by
  refine ⟨fun pins s σ H Q I q => ?_⟩
  obtain ⟨ms, δ, a, δ', R, e', kk⟩ := q
  unfold callD at e'
  cases q : fa δ with
  | none => rw [q] at e'; cases e'
  | some r1 =>
    obtain ⟨as, δ1⟩ := r1
    simp only [q, Option.bind_some] at e'
    refine wpAny_Call_Name_kw (ld_glob I hg hm ?_ hdb)
    refine PySem.W.callWith_K (h₀ := X.base) I.ok.mod.kin hk (thn (ha.run pos pins s σ H (fun vs H1 => spD X.K F vs H1 Q) I ⟨ms, δ, as, δ1, R, q, fun vs H1 m1 R1 e1 h1 => ?_⟩) fun us s1 ⟨vs, H1, I1, r, q1⟩ => ⟨I1.kIn, ?_⟩) he hpl
    · exact sp_of R1 h1 e' fun v H2 m2 R2 e2 h2 => kk v H2 m2 R2 (e1.trans e2) h2
    · have hl := spD_len Fo q1
      have hb' := hb s1 us I1.kIn (by rw [List.append_nil, ← r.length]; exact hl)
      rw [List.append_nil] at hb'
      exact run_fnG' Fo hr hb' I1 r q1
theorem do_call0 (Fo : FnG X.prog X.w X.K X.mg X.base k f fd [] F) (hr : RoomG k X.A) (hm : X.mg x = some (.ref f)) (hk : PySem.W.keepIn X.K (.ref f) = true) (hb : Binds X.K fd [] [])
    (hg : Gl X x := by rfl) (hdb : (x == ("__debug__" : Str)) = false := by decide) :
    PE X (.Call (.Name x p) [] [] pos) (tO X.K G (callD F nilA)) := by
  refine ⟨fun pins s σ H Q I q => ?_⟩
  obtain ⟨ms, δ, a, δ', R, e', kk⟩ := q
  unfold callD nilA at e'
  simp only [Option.bind_some] at e'
  refine wpAny_Call_Name_kw (ld_glob I hg hm ?_ hdb)
  refine PySem.W.callWith_K0 I.kIn hk ?_
  exact run_fnG' (us' := []) (vs := []) Fo hr (hb s [] I.kIn rfl) I .nil (sp_of R .nil e' fun v H2 m2 R2 e2 h2 => kk v H2 m2 R2 e2 h2)
/-- keywords: the values in the parameters' order -/
def permL {α : Type} (pm : List Nat) (l : List α) : List α := pm.filterMap fun i => l[i]?
theorem RAs.perm {K : PySem.W.Frag} {ms : List Addr} {H : Hp} {σ : L2.St} {as : List Ar} {vs : List V} (h : RAs K ms H σ as vs) : ∀ pm : List Nat, RAs K ms H σ (permL pm as) (permL pm vs)
  | [] => .nil
  | i :: pm => by
    obtain ⟨l, g⟩ := RAs.get h
    have ih := RAs.perm h pm
    unfold permL
    rw [List.filterMap_cons, List.filterMap_cons]
    cases q : as[i]? with
    | none =>
      have : vs[i]? = none := List.getElem?_eq_none_iff.mpr (by have := List.getElem?_eq_none_iff.mp q; omega)
      rw [this]
      exact ih
    | some a =>
      obtain ⟨v, hv, rv⟩ := g i a q
      rw [hv]
      exact .cons rv ih
theorem Vals.perm {vs : List V} {us : List Value} (h : Vals vs us) : ∀ pm : List Nat, Vals (permL pm vs) (permL pm us)
  | [] => .nil
  | i :: pm => by
    have ih := Vals.perm h pm
    unfold permL
    rw [List.filterMap_cons, List.filterMap_cons]
    cases q : vs[i]? with
    | none =>
      rw [h.none_of q]
      exact ih
    | some a =>
      obtain ⟨v, hv, rv⟩ := h.get q
      rw [hv]
      exact .cons rv ih
/-- how a call with keywords binds -/
def BindsK (K : PySem.W.Frag) (fd : FuncData) (ps ks : List Str) (n : Nat) (pm : List Nat) : Prop :=
  ∀ (s : Shared) (us ws : List Value), us.length = n → ws.length = ks.length → BindsTo s fd ⟨us, ks.zip ws⟩ (ps.zip (permL pm (us ++ ws)))
theorem dk_nil : PK X [] (tAr X.K G nilA) := ⟨fun pos pins s σ H Q I q => pk_nil.run pos pins s σ H Q I (by
  obtain ⟨ms, δ, x, δ', R, e, k⟩ := q
  cases e
  exact k [] H ms R .refl .nil)⟩
theorem tCons_of {K : PySem.W.Frag} {f : EO} {σ : L2.St} {H : Hp} {Q : List V → Hp → Prop} (q : tAr K G (consA f fa) σ H Q) : tCons (tO K G f) (tAr K G fa) σ H Q := by
  obtain ⟨ms, δ, x, δ', R, e, k⟩ := q
  unfold consA at e
  cases q : f δ with
  | none => rw [q] at e; cases e
  | some r =>
    obtain ⟨a, δ1⟩ := r
    cases q2 : fa δ1 with
    | none => simp only [q, Option.bind_some, q2] at e; cases e
    | some r2 =>
      obtain ⟨as, δ2⟩ := r2
      simp only [q, Option.bind_some, q2] at e; cases e
      refine ⟨ms, δ, a, δ1, R, q, fun v H' ms' R1 e1 h => ?_⟩
      refine ⟨ms', δ1, as, _, R1, q2, fun vs H2 ms2 R2 e2 hs => ?_⟩
      exact k _ H2 ms2 R2 (e1.trans e2) (.cons (h.ext e2) hs)
theorem dk_cons {f : EO} {nm : Option Str} {kpos : Pos} (ha : PE X e (tO X.K G f)) (hr : PK X kws (tAr X.K G fa)) : PK X (⟨nm, e, kpos⟩ :: kws) (tAr X.K G (consA f fa)) :=
  ⟨fun pos pins s σ H Q I q => (pk_cons ha hr).run pos pins s σ H Q I (tCons_of q)⟩
def appA (fa fk : EA) : EA := fun δ => (fa δ).bind fun (as, δ1) => (fk δ1).bind fun (bs, δ2) => some (as ++ bs, δ2)
def callK (F : FD) (pm : List Nat) (fa fk : EA) : EO := fun δ => (fa δ).bind fun (as, δ1) => (fk δ1).bind fun (bs, δ2) => runC F (permL pm (as ++ bs)) δ2
theorem RAs.append {K : PySem.W.Frag} {ms : List Addr} {H : Hp} {σ : L2.St} : ∀ {as bs : List Ar} {vs ws : List V}, RAs K ms H σ as vs → RAs K ms H σ bs ws → RAs K ms H σ (as ++ bs) (vs ++ ws)
  | _, _, _, _, .nil, h => h
  | _, _, _, _, .cons a t, h => .cons a (RAs.append t h)
theorem do_callK {pm : List Nat} {n : Nat} (Fo : FnG X.prog X.w X.K X.mg X.base k f fd ps F) (hr : RoomG k X.A) (hm : X.mg x = some (.ref f)) (hk : PySem.W.keepIn X.K (.ref f) = true) (hb : BindsK X.K fd ps ks n pm)
    (ha : PA X (e :: es) (tAr X.K G fa)) (hkw : PK X kws (tAr X.K G fk)) (hn : n = (e :: es).length := by rfl) (hg : Gl X x := by rfl) (hall : (backToKw pos (keywordEach kws X.env)).all (·.1.isSome) = true := by rfl) (hks : (backToKw pos (keywordEach kws X.env)).filterMap (·.1) = ks := by rfl)
    (hnk : ks.length = kws.length := by rfl) (hdb : (x == ("__debug__" : Str)) = false := by decide) (he : starEach (e :: es) X.env = (false, eval e X.env) :: starEach es X.env := by rfl)
    (hpl : ((backTo pos (starEach (e :: es) X.env)).any (·.1) || (backToKw pos (keywordEach kws X.env)).any (·.1.isNone)) = false := by rfl)
    (hla : ∀ δ as δ1, fa δ = some (as, δ1) → as.length = (e :: es).length) (hlk : ∀ δ as δ1, fk δ = some (as, δ1) → as.length = kws.length) :
    PE X (.Call (.Name x p) (e :: es) kws pos) (tO X.K G (callK F pm fa fk)) := by
  refine ⟨fun pins s σ H Q I q => ?_⟩
  obtain ⟨ms, δ, a, δ', R, e', kk⟩ := q
  unfold callK at e'
  cases q : fa δ with
  | none => rw [q] at e'; cases e'
  | some r1 =>
    obtain ⟨as, δ1⟩ := r1
    cases q2 : fk δ1 with
    | none => simp only [q, Option.bind_some, q2] at e'; cases e'
    | some r2 =>
      obtain ⟨bs, δ2⟩ := r2
      simp only [q, Option.bind_some, q2] at e'
      refine wpAny_Call_Name_kw (ld_glob I hg hm ?_ hdb)
      refine PySem.W.callWith_KW (h₀ := X.base) I.ok.mod.kin hk hall (thn (ha.run pos pins s σ H (fun vs H1 => vs.length = n ∧ tAr X.K G fk σ H1 fun ws H2 => ws.length = ks.length ∧ spD X.K F (permL pm (vs ++ ws)) H2 Q) I ⟨ms, δ, as, δ1, R, q, fun vs H1 m1 R1 e1 h1 => ?_⟩) fun us s1 ⟨vs, H1, I1, r, hvl, q1⟩ => ?_) hpl he
      · refine ⟨by rw [hn, ← (RAs.get h1).1]; exact hla _ _ _ q, m1, δ1, bs, δ2, R1, q2, fun ws H2 m2 R2 e2 h2 => ⟨by rw [hnk, ← (RAs.get h2).1]; exact hlk _ _ _ q2, ?_⟩⟩
        exact sp_of R2 (((h1.ext e2).append h2).perm pm) e' fun v H3 m3 R3 e3 h3 => kk v H3 m3 R3 ((e1.trans e2).trans e3) h3
      · refine thn (hkw.run pos pins s1 σ H1 _ I1 q1) fun wv s2 ⟨ws, H2, I2, rz, hwl, q3⟩ => ⟨I2.kIn, ?_⟩
        rw [hks]
        have hb' := hb s2 us wv (by rw [← r.length]; exact hvl) (by rw [← rz.length]; exact hwl)
        exact run_fnG' Fo hr hb' I2 (Vals.perm (r.append rz) pm) q3
theorem do_callK0 {pm : List Nat} (Fo : FnG X.prog X.w X.K X.mg X.base k f fd ps F) (hr : RoomG k X.A) (hm : X.mg x = some (.ref f)) (hk : PySem.W.keepIn X.K (.ref f) = true) (hb : BindsK X.K fd ps ks 0 pm)
    (hkw : PK X kws (tAr X.K G fk)) (hg : Gl X x := by rfl) (hall : (backToKw pos (keywordEach kws X.env)).all (·.1.isSome) = true := by rfl) (hks : (backToKw pos (keywordEach kws X.env)).filterMap (·.1) = ks := by rfl)
    (hnk : ks.length = kws.length := by rfl) (hdb : (x == ("__debug__" : Str)) = false := by decide)
    (hpl : ((backTo pos (starEach [] X.env)).any (·.1) || (backToKw pos (keywordEach kws X.env)).any (·.1.isNone)) = false := by rfl)
    (hlk : ∀ δ as δ1, fk δ = some (as, δ1) → as.length = kws.length) :
    PE X (.Call (.Name x p) [] kws pos) (tO X.K G (callK F pm nilA fk)) := by
  refine ⟨fun pins s σ H Q I q => ?_⟩
  obtain ⟨ms, δ, a, δ', R, e', kk⟩ := q
  unfold callK nilA at e'
  simp only [Option.bind_some] at e'
  cases q2 : fk δ with
  | none => simp only [q2] at e'; cases e'
  | some r2 =>
    obtain ⟨bs, δ2⟩ := r2
    simp only [Option.bind_some, q2, List.nil_append] at e'
    refine wpAny_Call_Name_kw (ld_glob I hg hm ?_ hdb)
    refine PySem.W.callWith_KW0 (h₀ := X.base) I.ok.mod.kin hk hall (thn (hkw.run pos pins s σ H (fun ws H2 => ws.length = ks.length ∧ spD X.K F (permL pm ws) H2 Q) I ⟨ms, δ, bs, δ2, R, q2, fun ws H2 m2 R2 e2 h2 => ⟨by rw [hnk, ← (RAs.get h2).1]; exact hlk _ _ _ q2, ?_⟩⟩) fun wv s2 ⟨ws, H2, I2, rz, hwl, q3⟩ => ⟨I2.kIn, ?_⟩) hpl
    · exact sp_of R2 (h2.perm pm) e' fun v H3 m3 R3 e3 h3 => kk v H3 m3 R3 (e2.trans e3) h3
    · rw [hks]
      have hb' := hb s2 [] wv rfl (by rw [← rz.length]; exact hwl)
      exact run_fnG' Fo hr hb' I2 (Vals.perm rz pm) q3
end
end DL
namespace DL
open PySem PySem.Spec PyProof.Rows L2

/-! ### name = [..] on one line -/
section
variable {X : Cx} {G : Gm} {elt tg iter e : Expr} {es : List Expr} {fi : EI} {g : EG} {tt : ET} {te : EO} {ws : List Nat} {fa : EA}
/-- what a reading of a new list gives to a reading of its own -/
theorem dn_use {fn : EN} {t : TE} {i : Nat} (w : ∀ σ H Q, tN X.K G fn σ H Q → t σ H Q) {E : Ends} {σ : L2.St} {H : Hp} (q : tS X.K G (ownS i fn) E σ H) : tAsg t (gName i) E σ H := by
  obtain ⟨ms, δ, fl, δ', R, e, k⟩ := q
  unfold ownS at e
  cases q : fn δ with
  | none => rw [q] at e; cases e
  | some r =>
    obtain ⟨ds, δ1⟩ := r
    simp only [q, Option.bind_some] at e
    split at e
    · rename_i hb
      cases e
      refine w σ H _ ⟨ms, δ, ds, δ1, R, q, fun p xs H1 m1 R1 e1 hp hd => ?_⟩
      obtain ⟨R2, e2⟩ := R1.setOw hb hp hd
      exact k _ _ _ R2 (e1.trans e2)
    · cases e
theorem dn_useF {fn : EN} {t : TE} {i : Nat} (w : ∀ σ H Q, tN X.K G fn σ H Q → t σ H Q) {E : Ends} {σ : L2.St} {H : Hp} (q : tS X.K G (setS i (nO fn)) E σ H) : tAsg t (gName i) E σ H := by
  obtain ⟨ms, δ, fl, δ', R, e, k⟩ := q
  unfold setS asgS nO at e
  cases q : fn δ with
  | none => rw [q] at e; cases e
  | some r =>
    obtain ⟨ds, δ1⟩ := r
    simp only [q, Option.bind_some, frz] at e
    cases q2 : nameG i (.lst ds) δ1 with
    | none => simp only [q2] at e; cases e
    | some δ2 =>
      simp only [q2, Option.bind_some] at e
      cases e
      obtain ⟨hb, rfl⟩ := nameG_inv q2
      refine w σ H _ ⟨ms, δ, ds, δ1, R, q, fun p xs H1 m1 R1 e1 hp hd => ?_⟩
      have sm := same_upd (o := HO.lst xs) hp
      exact k _ _ m1 ((R1.same sm).setFz hb (dv_new_lst R1.here hp hd)) (e1.trans (.of_same sm))
end

/-! ### a list's methods -/
def appM : OpM := fun xs ds => match ds with | [d] => if xs.length < sizeLine then some (.non, xs ++ [d]) else none | _ => none
theorem spec_app {K : PySem.W.Frag} : SpecM K rAppend appM := fun ms H p us vs xs ds xs' res Q hp ha hd e k => by
  unfold appM at e
  split at e
  · split at e
    · rename_i hl
      cases e
      cases hd with
      | cons h t =>
        cases t
        exact ⟨p, us, _, rfl, rfl, hp, by rw [ha.length]; exact hl, k _ .non (ha.append (.cons h .nil)) .non⟩
    · cases e
  · cases e
def popAtM : OpM := fun xs ds => match ds with
  | [.int i] => if -(2 ^ 63) ≤ i ∧ i < 2 ^ 63 then (seqIndex? i xs.length).bind fun k => (xs[k]?).bind fun y => some (y, xs.eraseIdx k) else none
  | _ => none
theorem spec_popAt {K : PySem.W.Frag} : SpecM K rPopAt popAtM := fun ms H p us vs xs ds xs' res Q hp ha hd e k => by
  unfold popAtM at e
  split at e
  · rename_i i
    split at e
    · rename_i hl
      cases q : seqIndex? i xs.length with
      | none => rw [q] at e; cases e
      | some j =>
        cases q2 : xs[j]? with
        | none => simp only [q, Option.bind_some, q2] at e; cases e
        | some y =>
          simp only [q, Option.bind_some, q2] at e
          cases e
          cases hd with
          | cons h t =>
            cases t
            cases h
            obtain ⟨v, hv, dv⟩ := ha.get q2
            exact ⟨p, us, i, j, v, rfl, rfl, hp, hl.1, hl.2, by rw [ha.length]; exact q, hv, k _ v (ha.eraseIdx j) dv⟩
    · cases e
  · cases e
theorem do_append {X : Cx} {G : Gm} {e : Expr} {fa : EA} {i : Nat} {x : Str} {px apos cpos : Pos} (ha : PA X [e] (tAr X.K G fa)) (hN : X.N[i]? = some x := by rfl) (hv : Vis X.env.scope x := by first | exact Or.inl rfl | exact Or.inr (Or.inl rfl) | exact Or.inr (Or.inr rfl)) (hd : (x == ("__debug__" : Str)) = false := by decide) (hcd : (x == ("__classdict__" : Str)) = false := by decide)
    (hbase : attributeBase (.Name x px) "append" X.env (eval (.Name x px) X.env) = eval (.Name x px) X.env := by rfl)
    (hfew : ((backTo cpos (starEach [e] X.env)).all (fun x => !x.1) && (backToKw cpos (keywordEach [] X.env)).all (fun x => x.1.isSome)
      && decide (([e] : List Expr).length + ([] : List Keyword).length + (if ([] : List Keyword).isEmpty then 0 else 1) < 30)) = true := by rfl)
    (hline : (apos.endLine == cpos.line) = true := by rfl) (hs : starEach [e] X.env = (false, eval e X.env) :: starEach [] X.env := by rfl) (hplain : (backTo cpos (starEach [] X.env)).any (·.1) = false := by rfl) :
    PE X (.Call (.Attribute (.Name x px) "append" apos) [e] [] cpos) (tO X.K G (mutO i fa appM)) :=
  do_mut PySem.F.slot_list_append PySem.F.type_list_append mt_append spec_app ha hN hv hd hcd hbase hfew hline hs hplain

/-! ### keyword binding from the text -/
theorem funBindsK {K : PySem.W.Frag} {x qual : Str} {st : Stmt} {f : Addr} {fd : FuncData} {ps ks : List Str} {n : Nat} {pm : List Nat} (Fn : Fun K x qual st f fd)
    (h : ∀ (kV doc pmv : Value) (an : Option Addr) (cdv ct : Value) (us ws : List Value), us.length = n → ws.length = ks.length → bindArgs (PySem.W.fnOf x qual (defArgs st) (defBody st) (defScope st) .none kV doc pmv an cdv ct) ⟨us, ks.zip ws⟩ = pure (ps.zip (permL pm (us ++ ws)))) : BindsK K fd ps ks n pm := by
  obtain ⟨oc, od, kV, doc, pmv, an, cdv, ct, osl, rfl, lk, hcd⟩ := Fn.ex
  exact fun s us ws h1 h2 => .of_eq (h kV doc pmv an cdv ct us ws h1 h2)

/-! ### the law's end -/
theorem law_callG {P : Program} {w : World} {K : PySem.W.Frag} {mg mb : Str → Option Value} {k : Nat} {fa a : Addr} {fd : FuncData} {x : Str} {F : FD} {t1 : Shared} {vs : List Value} {ns : List Int}
    (kin : K.In t1.heap) (hns : t1.heap.Ns mainGlobals mg) (hbl : t1.heap.Ns builtinsNs mb) (hbb : ∀ y : Str, y ≠ "__name__" → mb y = bootBuiltins y) (nol : t1.heap.NoLimit) (hgen : t1.gens = #[])
    (hobj : t1.heap.get? a = some { cls := .type "list", data := .seq vs.toArray }) (hint : IntsAre vs ns) (hlen : ns.length ≤ sizeLine) (room : Room k callerA)
    (Fo : ∀ base : Heap, K.In base → base.Ns mainGlobals mg → FnG P w K mg base k fa fd [x] F) (hbind : ∀ (s : Shared) (u : Value), BindsTo s fd ⟨[u], []⟩ [(x, u)])
    (hF : ∃ o, F [.fz (.fls (ns.map D.int))] = some (.bl true, o)) :
    codeAny (model P w) callerA (.call (.ref fa) ⟨[.ref a], []⟩) (fun r s2 => r = .ok (.ret (.bool true)) ∧ OldK t1.heap s2.heap ∧ s2.os = t1.os ∧ AllBare s2.gens) t1 := by
  have rel := vals_ints hint
  have lenV := hint.length
  have core : ∀ H : Hp, Only H → SqL K H a (ns.map V.int) → HOk P w H t1.heap → (∀ b, H b ≠ none → b = a) → (H a ≠ none → K.lookup a = none) →
      codeAny (model P w) callerA (.call (.ref fa) ⟨[.ref a], []⟩) (fun r s2 => r = .ok (.ret (.bool true)) ∧ OldK t1.heap s2.heap ∧ s2.os = t1.os ∧ AllBare s2.gens) t1 := by
    intro H only hS hok one hK
    have below : ∀ {b : Addr} {o : Obj}, t1.heap.get? b = some o → H b = none → (hidT t1.heap H).get? b = some o := fun z n => hidT_get z n
    have nodict : ∀ {b : Addr} {o : Obj} {es : Array DictEntry} {ep : Nat}, t1.heap.get? b = some o → o.data = .dict es ep → H b = none := by
      intro b o es ep z zd
      cases q : H b with
      | none => rfl
      | some u =>
        have zb : b = a := one b (by rw [q]; exact Option.some_ne_none u)
        subst zb
        rw [hobj] at z; cases z
        cases (show Data.seq vs.toArray _ = Data.dict es ep from zd)
    have nsB : ∀ {b : Addr} {m : Str → Option Value}, t1.heap.Ns b m → (hidT t1.heap H).Ns b m := fun {b m} ⟨o, es, ep, z, zd, rr⟩ => ⟨o, es, ep, below z (nodict z zd), zd, rr⟩
    have kb : K.In (hidT t1.heap H) := by
      intro b o z
      refine below (kin b o z) ?_
      cases q : H b with
      | none => rfl
      | some u =>
        have zb : b = a := one b (by rw [q]; exact Option.some_ne_none u)
        subst zb
        rw [hK (by rw [q]; exact Option.some_ne_none u)] at z; cases z
    have md : Mod K mg (hidT t1.heap H) := ⟨kb, nsB hns, ⟨mb, nsB hbl, hbb⟩, let ⟨mc, z1, z2⟩ := nol; ⟨mc, nsB z1, z2⟩⟩
    have ev : Env0 P w K mg (hidT t1.heap H) callerA [] t1 H :=
      ⟨rfl, md, fun b o z => of_hidT z, Nat.le_of_eq (hidT_size _ _), trivial, fun b z => (nomatch (show b ∈ ([] : List Addr) from z)), hok, .of_eq hgen⟩
    obtain ⟨out, hF⟩ := hF
    have mk0 : mask H [] = H := by funext b; simp [mask]
    have dvs : Dv K (mask H []) (.ref a) (.fls (ns.map D.int)) := by rw [mk0]; exact .fls hS (DvAll.of_ints ns)
    have hsp : spD K F [.ref a] H (fun v _ => v = .bl true) := by
      refine ⟨[], [.fz (.fls (ns.map D.int))], .bl true, out, ⟨rfl, fun i d hd => ?_, fun i ds hd => ?_, fun i ds hd => ?_, fun i j ds es p h1 => ?_⟩, fun b hb => (nomatch hb), hF, fun v H2 _ hv => ?_⟩
      · cases i with
        | zero => cases hd; exact ⟨_, rfl, dvs⟩
        | succ i => cases hd
      · cases i <;> cases hd
      · cases i <;> cases hd
      · cases i <;> cases h1
      · cases hv; rfl
    refine codeAny_mono ((Fo _ kb (nsB hns)).run callerA [] t1 H ⟨[.ref a], []⟩ [.ref a] [.ref a] _ room rfl ev (hbind t1 (.ref a)) (.cons rfl .nil) hsp) fun r s2 hh => ?_
    cases r with
    | error z => exact hh.elim
    | ok fl =>
      cases fl with
      | next => exact hh.elim
      | brk => exact hh.elim
      | cont => exact hh.elim
      | ret u =>
        obtain ⟨v, H2, z1, z2, un, hok2, rv, q⟩ := hh
        obtain rfl : v = .bl true := q
        obtain rfl : u = Value.bool true := rv
        refine ⟨rfl, OldK.of_keep fun b o z => ?_, z1, z2⟩
        cases q : H b with
        | none => exact un.keep b o z q (fun w1 => (nomatch (show b ∈ ([] : List Addr) from w1))) (fun w1 => (nomatch w1))
        | some u =>
          rcases only b with w1 | ⟨ob, xs, w1⟩
          · rw [q] at w1; cases w1
          · obtain ⟨y1, _⟩ := hok b _ w1
            obtain ⟨y2, _⟩ := hok2 b _ (un.frzs b ob _ w1)
            rw [z] at y1; cases y1
            exact y2
  cases hk : K.lookup a with
  | some o =>
    have z := kin a o hk
    rw [hobj] at z
    cases z
    exact core (fun _ => none) (fun _ => .inl rfl) (.inr ⟨_, vs.toArray, _, hk, rfl, rfl, rfl, by rw [List.size_toArray, lenV]; exact hlen, by simpa using rel⟩) (fun b u z => (nomatch (show (none : Option HO) = some u from z))) (fun b z => absurd rfl z) fun z => absurd rfl z
  | none =>
    refine core (fun b => if b = a then some (.frz { cls := .type "list", data := .seq vs.toArray } (.lst (ns.map V.int))) else none) (fun b => ?_) (.inl (.inr ⟨{ cls := .type "list", data := .seq vs.toArray }, if_pos rfl⟩)) (fun b u z => ?_) (fun b z => ?_) fun _ => hk
    · by_cases q : b = a
      · exact .inr ⟨_, _, if_pos q⟩
      · exact .inl (if_neg q)
    · by_cases q : b = a
      · have z2 := (if_pos q).symm.trans z
        cases z2
        subst q
        exact ⟨hobj, by rw [List.length_map]; exact hlen, vs, _, rel, hobj⟩
      · have z2 := (if_neg q).symm.trans z
        cases z2
    · by_cases q : b = a
      · exact q
      · exact absurd (if_neg q) z
theorem walkG {l : PySem.W.OpenLaw} {n k : Nat} {q : Program} {loose : List Str} {XP : (Str → Option Value) → Heap → Prop} {YP : World → Heap → Prop} {d : DefRec} {K : Params → PySem.W.Frag} {x : Str} {F : FD}
    (hn : l.most = some n) (hn2 : n ≤ sizeLine) (hdf : d.params.defaults = []) (room : Room k callerA)
    (hY : ∀ (w : World) (h : Heap), YP w h → (K w.params).In h)
    (hG : ∀ (w : World) (mg : Str → Option Value) (fa : Addr) (h : Heap), (K w.params).In h → h.Ns mainGlobals mg → mg d.name = some (.ref fa) →
      ∃ fd : FuncData, (∀ (s : Shared) (u : Value), BindsTo s fd ⟨[u], []⟩ [(x, u)]) ∧ ∀ base : Heap, (K w.params).In base → base.Ns mainGlobals mg → FnG l.prog w (K w.params) mg base k fa fd [x] F)
    (hF : ∀ ns : List Int, ns.length ≤ n → ∃ o, F [.fz (.fls (ns.map D.int))] = some (.bl true, o)) :
    PySem.W.WalkO q loose XP YP l.row.toRowW d [] (fun f vs => PySem.call f vs) := by
  refine Att.attach_call hn hdf fun w t0 t1 mg mb fa o pm cd doc a vs ns Gr Y ho hd hcd hmg hobj hints hlen hg => ?_
  have kx := hY w _ Y
  obtain ⟨fd, hb, hf⟩ := hG w mg fa _ kx Gr.T.g hmg
  exact law_callG kx Gr.T.g Gr.T.b Gr.T.builtins Gr.T.nolimit hg hobj hints (Nat.le_trans hlen hn2) room hf hb (hF ns hlen)
end DL
namespace DL
open PySem PySem.Spec PyProof.Rows L2

/-! ### defs that answer with a new list -/
abbrev FDN := List Sl → Option (List D × List Sl)
def spN (K : PySem.W.Frag) (F : FDN) (vs : List V) (H : Hp) (Q : VK) : Prop := ∃ ms sls r sls', ArgsR K ms H vs sls ∧ (∀ a ∈ ms, H a ≠ none) ∧ F sls = some (r, sls') ∧
  ∀ p us H', PostR K ms H H' vs sls sls' → H' p = none → DvAll K (mask H' ms) us r → Q (.ref p) (upd H' p (.lst us))
structure FnN (P : Program) (w : World) (K : PySem.W.Frag) (mg : Str → Option Value) (base : Heap) (k : Nat) (f : Addr) (fd : FuncData) (ps : List Str) (F : FDN) : Prop where
  len : ∀ sls r, F sls = some r → sls.length = ps.length
  run : ∀ (A : Around) (outer : List Env) (s : Shared) (H : Hp) (args : Args) (us : List Value) (vs : List V) (Q : VK), Room k A → A.guards = some [] → Env0 P w K mg base A outer s H → BindsTo s fd args (ps.zip us) → Vals vs us → spN K F vs H Q →
    codeAny (model P w) A (.call (.ref f) args) (CR CX0 outer P w H s Q E0) s
theorem FnN.mono {P : Program} {w : World} {K : PySem.W.Frag} {mg : Str → Option Value} {base : Heap} {j k : Nat} {f : Addr} {fd : FuncData} {ps : List Str} {F : FDN} (h : FnN P w K mg base j f fd ps F) (hk : j ≤ k) : FnN P w K mg base k f fd ps F :=
  ⟨h.len, fun A outer s H args us vs Q hr hg => h.run A outer s H args us vs Q (hr.mono hk) hg⟩
def fnN (n np : Nat) (body : ES) : FDN := fun sls => if sls.length = np ∧ hasOw sls = false then
    (body (sls.map some ++ List.replicate (n - np) none)).bind fun (fl, δ') => match fl with
      | .rn ds => some (ds, outS np δ')
      | _ => none
  else none
theorem fnN_of {P : Program} {w : World} {K : PySem.W.Frag} {mg : Str → Option Value} {base : Heap} {k : Nat} {x qual : Str} {st : Stmt} {f : Addr} {fd : FuncData} {N ps : List Str} {den : ES} (Fn : Fun K x qual st f fd) (S : FnScope N ps (defScope st))
    (hbody : ∀ (cdv : Value) (A : Around) (outer : List Env) (s : Shared) (H : Hp) (G : Gm), RoomG k (A.deeper (envOfC qual (defScope st) s.heap.objs.size f cdv)) →
      PSs (cxOf CX0 P w K mg base N qual (defScope st) f cdv A outer s H E0).nox (defBody st) (tS K G den)) : FnN P w K mg base (k + 1) f fd ps (fnN N.length ps.length den) := by
  obtain ⟨oc, od, kV, doc, pm, an, cdv, ct, osl, rfl, lk, hcd⟩ := Fn.ex
  have hlen : ∀ sls r, fnN N.length ps.length den sls = some r → sls.length = ps.length := fun sls r e => by
    unfold fnN at e
    split at e
    · rename_i h; exact h.1
    · cases e
  refine ⟨hlen, fun A outer s H args us vs Q hr hg e0 hb r hsp => ?_⟩
  have nlen : us.length = ps.length := by
    obtain ⟨ms, sls, r0, sls', a, _, e, _⟩ := hsp
    rw [← hlen _ _ e, ← a.len, r.length]
  have vlen : vs.length = ps.length := by rw [r.length]; exact nlen
  have KX : K.In s.heap := e0.mod.kin.keeps fun b o z => (e0.bs b o z).1
  have nol : s.heap.NoLimit := e0.mod.nolimit.keeps fun b o z => (e0.bs b o z).1
  have kd : ∀ y ∈ ps.zip us, (defScope st).names.lookup y.1 = some .local ∨ ((defScope st).names.lookup y.1 = some .cell ∧ ((cellsFrom (s.heap.objs.size + 1) (defScope st).names []).lookup y.1).isSome = true) := by
    rintro ⟨n, v⟩ hy
    rcases S.par n (List.of_mem_zip hy).1 with z | z
    · exact .inl z
    · exact .inr ⟨z, PySem.W.cellsFrom_some _ _ _ (.inl z)⟩
  refine codeAny_call_function (Room.depth hr) (KX _ _ lk) rfl S.co S.gen rfl (PySem.W.codeRec_of KX hcd) (hb _ _ _ _ ?_)
  refine wpAny_newFunctionEnv_cells S.kind kd fun env he s1 x1 => ?_
  subst he
  refine ⟨nol.keeps x1.toInCall.keep, codeAny_func ?_⟩
  have hrd : RoomG k (A.deeper (envOfC qual (defScope st) s.heap.objs.size f cdv)) := ⟨hr.deeper _, hg⟩
  obtain ⟨ms, sls, r0, sls', a, hm, e, kk⟩ := hsp
  have hbd := (hbody cdv A outer s H (gOf H ms vs sls) hrd).nox
  have I0 : Inv (cxOf CX0 P w K mg base N qual (defScope st) f cdv A outer s H E0) [] (L2.start N vs) H s1 := inv_start S hr.hd e0 vlen r x1
  unfold fnN at e
  split at e
  · rename_i hcnd
    cases q : den (sls.map some ++ List.replicate (N.length - ps.length) none) with
    | none => rw [q] at e; cases e
    | some z =>
      obtain ⟨fl, δ'⟩ := z
      simp only [q, Option.bind_some] at e
      have R0 := Rp.entry (N := N) a hm
      rw [hcnd.1] at R0
      split at e
      · rename_i ds
        simp only [Option.some.injEq, Prod.mk.injEq] at e
        obtain ⟨rfl, e1⟩ := e
        refine wpAny_mono (hbd.run [] s1 (L2.start N vs) H { nx := fun _ H' => Q .non H', rt := Q } I0 ⟨ms, _, _, δ', R0, q, ?_⟩) (fun fl s' hs => ?_) fun e' s' hs => hs
        · intro p us' σ' H' ms' R' _ hp hd
          have em : Same (mask H' ms') (mask H' ms) := fun b o hb => by
            obtain ⟨z1, z2⟩ := mask_some.mp hb
            exact mask_some.mpr ⟨fun z => z1 (R'.ms0 b z), z2⟩
          refine kk p us' H' ⟨fun b o hb hn => R'.keep b o hb fun i hi => ?_, fun i ds ds' h1 h2 => ?_⟩ hp (hd.mono em)
          · obtain ⟨⟨ds, w1⟩, w2⟩ := gOf_bor.mp hi
            exact hn i ds w1 w2
          · rw [← e1] at h2
            obtain ⟨p, us', b1, b2, b3, b4⟩ := R'.slot i _ (outS_bo h2)
            exact ⟨p, us', (gOf_bor.mp b2).2, b3, b4.mono em⟩
        · cases fl with
          | ret u =>
            obtain ⟨v, σ', H', J, rv, q⟩ := hs
            exact ⟨v, H', J.os, J.bare, J.base, J.hok, rv, q⟩
          | next =>
            obtain ⟨σ', H', J, q⟩ := hs
            exact ⟨V.non, H', J.os, J.bare, J.base, J.hok, rfl, q⟩
          | brk =>
            obtain ⟨_, _, _, q⟩ := hs
            exact q.elim
          | cont =>
            obtain ⟨_, _, _, q⟩ := hs
            exact q.elim
      · cases e
  · cases e
section
variable {X : Cx} {G : Gm} {a b c e : Expr} {es : List Expr} {fa fk : EA} {f1 f2 f3 : EO} {F : FD} {FN : FDN} {k : Nat} {f : Addr} {fd : FuncData} {ps ks : List Str} {x : Str} {p pos : Pos} {kws : List Keyword}
def runN (F : FDN) (as : List Ar) (δ1 : DE) : Option (List D × DE) := if (lentIx δ1 as).Nodup then (giveSs δ1 as).bind fun sls => (F sls).bind fun (r, sls') => (lent as sls sls').bind fun bs => some (r, wback bs δ1) else none
theorem spn_of {as : List Ar} {vs : List V} {ms : List Addr} {H : Hp} {σ : L2.St} {δ1 δ' : DE} {ds : List D} {Q : VK} {K : PySem.W.Frag} (R : Rp K G ms H σ δ1) (h : RAs K ms H σ as vs) (e : runN FN as δ1 = some (ds, δ'))
    (k : ∀ p us H' ms', Rp K G ms' H' σ δ' → Ext ms H ms' H' → H' p = none → DvAll K (mask H' ms') us ds → Q (.ref p) (upd H' p (.lst us))) : spN K FN vs H Q := by
  unfold runN at e
  split at e
  · rename_i nd
    cases q : giveSs δ1 as with
    | none => rw [q] at e; cases e
    | some sls =>
      cases q2 : FN sls with
      | none => simp only [q, Option.bind_some, q2] at e; cases e
      | some r2 =>
        obtain ⟨r, sls'⟩ := r2
        cases q3 : lent as sls sls' with
        | none => simp only [q, Option.bind_some, q2, q3] at e; cases e
        | some bs =>
          simp only [q, Option.bind_some, q2, q3] at e
          cases e
          have A := args_of R h q nd
          obtain ⟨l2, g2⟩ := RAs.get h
          obtain ⟨l1, g1⟩ := giveSs_get q
          refine ⟨ms, sls, _, sls', A, R.here, q2, fun p us H' post hp hv => ?_⟩
          have c1 : ∀ i ds', bs.lookup i = some ds' → ∃ s0 p us', δ1[i]? = some (some s0) ∧ (cont s0).isSome = true ∧ σ[i]? = some (some (V.ref p)) ∧ H' p = some (HO.lst us') ∧ DvAll K (mask H' ms) us' ds' := by
            intro i ds' hl
            obtain ⟨kk, ds, a1, a2, a3⟩ := lent_get q3 i ds' hl
            obtain ⟨q', us', b1, b2, b3⟩ := post.bo kk ds ds' a2 a3
            obtain ⟨v', hv', rv'⟩ := g2 kk _ a1
            rw [b1] at hv'; cases hv'
            obtain ⟨a', ha', ga'⟩ := g1 kk _ a2
            rw [a1] at ha'; cases ha'
            obtain ⟨i', e', hs⟩ := giveS_bo ga'
            cases e'
            rcases hs with hs | hs
            · exact ⟨_, q', us', hs, rfl, rv', b2, b3⟩
            · exact ⟨_, q', us', hs, rfl, rv', b2, b3⟩
          have c2 : ∀ b o, H b = some o → (∀ i ds', bs.lookup i = some ds' → σ[i]? ≠ some (some (V.ref b))) → H' b = some o := by
            intro b o hb hn
            refine post.keep b o hb fun kk ds hk hv' => ?_
            obtain ⟨i, ds', a1, a2⟩ := lent_all q3 kk ds hk
            obtain ⟨v', hv'', rv'⟩ := g2 kk _ a1
            rw [hv'] at hv''; cases hv''
            exact hn i ds' a2 rv'
          obtain ⟨R', ex⟩ := R.called (bs := bs) (H' := H') c1 c2
          exact k p us H' ms R' ex hp hv
  · cases e
theorem run_fnN {pins : List (Addr × Obj)} {σ : L2.St} {H : Hp} {s : Shared} {Q : VK} {us us' : List Value} {vs : List V} {args : Args} (Fo : FnN X.prog X.w X.K X.mg X.base k f fd ps FN) (hr : RoomG k X.A) (hb : BindsTo s fd args (ps.zip us'))
    (I : Inv X pins σ H s) (r : Vals vs us') (h : spN X.K FN vs H Q) : codeAny (model X.prog X.w) X.A (.call (.ref f) args) (fun r s' => match r with | .ok (.ret u) => EP X pins σ Q u s' | _ => False) s := by
  refine codeAny_mono (Fo.run X.A X.stack s H args us' vs Q hr.room hr.guards I.env0 hb r h) fun r s' hq => ?_
  cases r with
  | error e => exact hq.elim
  | ok fl =>
    cases fl with
    | ret u => exact I.after hq
    | next => exact hq.elim
    | brk => exact hq.elim
    | cont => exact hq.elim
theorem run_fnN' {pins : List (Addr × Obj)} {σ : L2.St} {H : Hp} {s : Shared} {Q : VK} {us us' : List Value} {vs : List V} {kv : List (Str × Value)} (Fo : FnN X.prog X.w X.K X.mg X.base k f fd ps FN) (hr : RoomG k X.A) (hb : BindsTo s fd ⟨us, kv⟩ (ps.zip us'))
    (I : Inv X pins σ H s) (r : Vals vs us') (h : spN X.K FN vs H Q) : wpAny (model X.prog X.w) X.A (call (.ref f) us kv) (EP X pins σ Q) X.xe s := by
  refine wpAny_call (codeAny_mono (run_fnN (us := us) Fo hr hb I r h) fun r s' hq => ?_)
  cases r with
  | error e => exact hq.elim
  | ok fl =>
    cases fl with
    | ret u => exact hq
    | next => exact hq.elim
    | brk => exact hq.elim
    | cont => exact hq.elim
def callN' (F : FDN) (fa : EA) : EN := fun δ => (fa δ).bind fun (as, δ1) => runN F as δ1
theorem dn_call (Fo : FnN X.prog X.w X.K X.mg X.base k f fd ps FN) (hr : RoomG k X.A) (hm : X.mg x = some (.ref f)) (hk : PySem.W.keepIn X.K (.ref f) = true) (hb : Binds X.K fd ps [])
    (ha : PA X (e :: es) (tAr X.K G fa)) (hg : Gl X x := by rfl) (hdb : (x == ("__debug__" : Str)) = false := by decide) (he : starEach (e :: es) X.env = (false, eval e X.env) :: starEach es X.env := by rfl) (hpl : (backTo pos (starEach es X.env)).any (·.1) = false := by rfl) :
    PE X (.Call (.Name x p) (e :: es) [] pos) (tN X.K G (callN' FN fa)) := by
  refine ⟨fun pins s σ H Q I q => ?_⟩
  obtain ⟨ms, δ, ds, δ', R, e', kk⟩ := q
  unfold callN' at e'
  cases q : fa δ with
  | none => rw [q] at e'; cases e'
  | some r1 =>
    obtain ⟨as, δ1⟩ := r1
    simp only [q, Option.bind_some] at e'
    refine wpAny_Call_Name_kw (ld_glob I hg hm ?_ hdb)
    refine PySem.W.callWith_K (h₀ := X.base) I.ok.mod.kin hk (thn (ha.run pos pins s σ H (fun vs H1 => spN X.K FN vs H1 Q) I ⟨ms, δ, as, δ1, R, q, fun vs H1 m1 R1 e1 h1 => ?_⟩) fun us s1 ⟨vs, H1, I1, r, q1⟩ => ⟨I1.kIn, ?_⟩) he hpl
    · exact spn_of R1 h1 e' fun p us H2 m2 R2 e2 hp h2 => kk p us H2 m2 R2 (e1.trans e2) hp h2
    · have hl : vs.length = ps.length := by
        obtain ⟨ms, sls, r, sls', a, _, e, _⟩ := q1
        rw [a.len]
        exact Fo.len _ _ e
      have hb' := hb s1 us I1.kIn (by rw [List.append_nil, ← r.length]; exact hl)
      rw [List.append_nil] at hb'
      exact run_fnN' Fo hr hb' I1 r q1
/-- f(a new list): the list is lent, and forgotten -/
def callT (F : FD) (fn : EN) : EO := fun δ => (fn δ).bind fun (ds, δ1) => (F [.bo ds]).bind fun (r, _) => some (.d r, δ1)
theorem do_callT {fn : EN} (Fo : FnG X.prog X.w X.K X.mg X.base k f fd ps F) (hr : RoomG k X.A) (hm : X.mg x = some (.ref f)) (hk : PySem.W.keepIn X.K (.ref f) = true) (hb : Binds X.K fd ps [])
    (ha : PE X e (tN X.K G fn)) (hg : Gl X x := by rfl) (hdb : (x == ("__debug__" : Str)) = false := by decide) (he : starEach [e] X.env = (false, eval e X.env) :: starEach [] X.env := by rfl) (hpl : (backTo pos (starEach [] X.env)).any (·.1) = false := by rfl) :
    PE X (.Call (.Name x p) [e] [] pos) (tO X.K G (callT F fn)) := by
  refine ⟨fun pins s σ H Q I q => ?_⟩
  obtain ⟨ms, δ, a, δ', R, e', kk⟩ := q
  unfold callT at e'
  cases q : fn δ with
  | none => rw [q] at e'; cases e'
  | some r1 =>
    obtain ⟨ds, δ1⟩ := r1
    cases q2 : F [.bo ds] with
    | none => simp only [q, Option.bind_some, q2] at e'; cases e'
    | some r2 =>
      obtain ⟨r, sls'⟩ := r2
      simp only [q, Option.bind_some, q2] at e'
      cases e'
      refine wpAny_Call_Name_kw (ld_glob I hg hm ?_ hdb)
      refine PySem.W.callWith_K (h₀ := X.base) I.ok.mod.kin hk (thn ((pa_cons ha pa_nil he).run pos pins s σ H (fun vs H1 => spD X.K F vs H1 Q) I ⟨ms, δ, ds, _, R, q, fun p xs H1 m1 R1 e1 hp hd => ?_⟩) fun us s1 ⟨vs, H1, I1, r, q1⟩ => ⟨I1.kIn, ?_⟩) he hpl
      · have pm := R1.fresh hp
        have ex : Ext m1 H1 (p :: m1) (upd H1 p (.lst xs)) := fun a o h1 h2 => by
          have : a ≠ p := ne_of_none h2 hp
          exact ⟨by simp [this, h1], by rw [upd_ne this]; exact h2⟩
        refine ⟨p :: m1, [.bo ds], _, sls', ⟨rfl, fun i d h => ?_, fun i ds' h => ?_, fun i ds' h => ?_, fun i j ds' es p' h1 h2 h3 h4 => ?_⟩, fun b hb => ?_, q2, fun v H2 post hv => ?_⟩
        · cases i <;> cases h
        · cases i with
          | zero => cases h; exact ⟨p, xs, rfl, List.mem_cons_self, upd_same, hd.mono ex.same⟩
          | succ i => cases h
        · cases i <;> cases h
        · cases i with
          | zero => cases j with
            | zero => rfl
            | succ j => cases h2
          | succ i => cases h1
        · by_cases hb' : b = p
          · subst hb'; rw [upd_same]; simp
          · rw [upd_ne hb']
            rcases List.mem_cons.mp hb with z | z
            · exact absurd z hb'
            · exact R1.here b z
        · have sm : Same H1 H2 := fun b o hb => by
            have hne : b ≠ p := ne_of_none hb hp
            refine post.keep b o (by rw [upd_ne hne]; exact hb) fun i ds' h hv' => ?_
            cases i with
            | zero => simp at hv'; exact hne hv'.symm
            | succ i => simp at hv'
          refine kk v H2 m1 (R1.same sm) (e1.trans (.of_same sm)) (hv.mono fun b o hb => ?_)
          obtain ⟨z1, z2⟩ := mask_some.mp hb
          exact mask_some.mpr ⟨fun z => z1 (List.mem_cons_of_mem _ z), z2⟩
      · have hl := spD_len Fo q1
        have hb' := hb s1 us I1.kIn (by rw [List.append_nil, ← r.length]; exact hl)
        rw [List.append_nil] at hb'
        exact run_fnG' Fo hr hb' I1 r q1

/-! ### y = [..] in one line -/
variable {elt tg iter : Expr} {fi : EI} {g : EG} {tt : ET} {te : EO} {ws : List Nat}
theorem ds_ownLc {i : Nat} {y : Str} {py pos spos : Pos} {ifs : List Expr} {scope : Scope} {own : List (Str × Nat)} (hN : X.N.Nodup) (hi : PI X tg iter (tI X.K G fi)) (ok : BlkOk X.N X.env.scope scope own)
    (hg : ∀ (G : Gm) (s : Shared) (H : Hp) (C : Addr) (cl : List (Str × Addr)) (fp : List Addr), PG (X.blk s H scope (compEnvC scope cl C X.env) fp) tg (tG X.K G ws g))
    (ht : ∀ (G : Gm) (s : Shared) (H : Hp) (C : Addr) (cl : List (Str × Addr)) (fp : List Addr), PTs (X.blk s H scope (compEnvC scope cl C X.env) fp) ifs (tT X.K G tt))
    (he : ∀ (G : Gm) (s : Shared) (H : Hp) (C : Addr) (cl : List (Str × Addr)) (fp : List Addr), PE (X.blk s H scope (compEnvC scope cl C X.env) fp) elt (tO X.K G te))
    (hsw : swapsWith (.ListComp elt [⟨tg, iter, ifs, 0⟩] scope pos) (some (.Name y py)) spos.line X.env = pure true)
    (hy : X.N[i]? = some y := by rfl) (hyl : X.env.scope.names.lookup y = some .local := by rfl) (hws : ∀ j ∈ ws, j ∈ own.map (·.2) := by decide) (hc : X.calm = true := by rfl) (hs : ∀ x, foldedSetIterable iter X.env x = pure x := by intro _; rfl) :
    PS X (.Assign [.Name y py] (.ListComp elt [⟨tg, iter, ifs, 0⟩] scope pos) spos) (tS X.K G (ownS i (lcN fi g tt te (own.map (·.2))))) :=
  PS.imp (ps_setLc (g := fun v σ H Q => ∃ G, tG X.K G ws g v σ H Q) (tt := fun σ H Q => ∃ G, tT X.K G tt σ H Q) (te := fun σ H Q => ∃ G, tO X.K G te σ H Q) hc hN hy hyl hsw hi ok
    (fun s H C cl fp => ⟨fun pins s' σ H' v u Q I r ⟨G', q⟩ => (hg G' s H C cl fp).run pins s' σ H' v u Q I r q⟩)
    (fun s H C cl fp => ⟨fun pins s' σ H' Q I ⟨G', q⟩ => (ht G' s H C cl fp).run pins s' σ H' Q I q⟩)
    (fun s H C cl fp => ⟨fun pins s' σ H' Q I ⟨G', q⟩ => (he G' s H C cl fp).run pins s' σ H' Q I q⟩) hs) fun E σ H q => dn_use (tLc_of hws) q
theorem ds_setLc {i : Nat} {y : Str} {py pos spos : Pos} {ifs : List Expr} {scope : Scope} {own : List (Str × Nat)} (hN : X.N.Nodup) (hi : PI X tg iter (tI X.K G fi)) (ok : BlkOk X.N X.env.scope scope own)
    (hg : ∀ (G : Gm) (s : Shared) (H : Hp) (C : Addr) (cl : List (Str × Addr)) (fp : List Addr), PG (X.blk s H scope (compEnvC scope cl C X.env) fp) tg (tG X.K G ws g))
    (ht : ∀ (G : Gm) (s : Shared) (H : Hp) (C : Addr) (cl : List (Str × Addr)) (fp : List Addr), PTs (X.blk s H scope (compEnvC scope cl C X.env) fp) ifs (tT X.K G tt))
    (he : ∀ (G : Gm) (s : Shared) (H : Hp) (C : Addr) (cl : List (Str × Addr)) (fp : List Addr), PE (X.blk s H scope (compEnvC scope cl C X.env) fp) elt (tO X.K G te))
    (hsw : swapsWith (.ListComp elt [⟨tg, iter, ifs, 0⟩] scope pos) (some (.Name y py)) spos.line X.env = pure true)
    (hy : X.N[i]? = some y := by rfl) (hyl : X.env.scope.names.lookup y = some .local := by rfl) (hws : ∀ j ∈ ws, j ∈ own.map (·.2) := by decide) (hc : X.calm = true := by rfl) (hs : ∀ x, foldedSetIterable iter X.env x = pure x := by intro _; rfl) :
    PS X (.Assign [.Name y py] (.ListComp elt [⟨tg, iter, ifs, 0⟩] scope pos) spos) (tS X.K G (setS i (nO (lcN fi g tt te (own.map (·.2)))))) :=
  PS.imp (ps_setLc (g := fun v σ H Q => ∃ G, tG X.K G ws g v σ H Q) (tt := fun σ H Q => ∃ G, tT X.K G tt σ H Q) (te := fun σ H Q => ∃ G, tO X.K G te σ H Q) hc hN hy hyl hsw hi ok
    (fun s H C cl fp => ⟨fun pins s' σ H' v u Q I r ⟨G', q⟩ => (hg G' s H C cl fp).run pins s' σ H' v u Q I r q⟩)
    (fun s H C cl fp => ⟨fun pins s' σ H' Q I ⟨G', q⟩ => (ht G' s H C cl fp).run pins s' σ H' Q I q⟩)
    (fun s H C cl fp => ⟨fun pins s' σ H' Q I ⟨G', q⟩ => (he G' s H C cl fp).run pins s' σ H' Q I q⟩) hs) fun E σ H q => dn_useF (tLc_of hws) q

/-! ### a < b < c -/
def chainO (g g' : Op2) (f1 f2 f3 : EO) : EO := fun δ => (f1 δ).bind fun (a, δ1) => (f2 δ1).bind fun (b, δ2) => (rsl δ2 a).bind fun x => (rsl δ2 b).bind fun y => (g x y).bind fun z => match z with
  | .bl true => (f3 δ2).bind fun (c, δ3) => (rsl δ3 b).bind fun y => (rsl δ3 c).bind fun w => (g' y w).bind fun r => some (.d r, δ3)
  | .bl false => some (.d (.bl false), δ2)
  | _ => none
theorem tChain_of {K : PySem.W.Frag} {r r' : R2} {g g' : Op2} {σ : L2.St} {H : Hp} {Q : VK} (hg : Spec2 K r g) (hg' : Spec2 K r' g') (q : tO K G (chainO g g' f1 f2 f3) σ H Q) : tChain r r' (tO K G f1) (tO K G f2) (tO K G f3) σ H Q := by
  obtain ⟨ms, δ, x, δ', R, e, k⟩ := q
  unfold chainO at e
  cases q1 : f1 δ with
  | none => rw [q1] at e; cases e
  | some r1 =>
    obtain ⟨a, δ1⟩ := r1
    cases q2 : f2 δ1 with
    | none => simp only [q1, Option.bind_some, q2] at e; cases e
    | some r2 =>
      obtain ⟨b, δ2⟩ := r2
      cases q3 : rsl δ2 a with
      | none => simp only [q1, Option.bind_some, q2, q3] at e; cases e
      | some x1 =>
        cases q4 : rsl δ2 b with
        | none => simp only [q1, Option.bind_some, q2, q3, q4] at e; cases e
        | some y1 =>
          cases q5 : g x1 y1 with
          | none => simp only [q1, Option.bind_some, q2, q3, q4, q5] at e; cases e
          | some z1 =>
            simp only [q1, Option.bind_some, q2, q3, q4, q5] at e
            refine ⟨ms, δ, a, δ1, R, q1, fun v1 H1 m1 R1 e1 h1 => ⟨m1, δ1, b, δ2, R1, q2, fun v2 H2 m2 R2 e2 h2 => ?_⟩⟩
            refine hg m2 H2 v1 v2 x1 y1 z1 _ (top_of R2 (h1.ext e2) q3) (top_of R2 h2 q4) R2.here q5 fun v H3 s hv => ?_
            have R3 := R2.same s
            have e3 : Ext m2 H2 m2 H3 := .of_same s
            split at e
            · cases hv
              refine ⟨true, rfl, ?_⟩
              rw [if_pos rfl]
              cases q6 : f3 δ2 with
              | none => rw [q6] at e; cases e
              | some r6 =>
                obtain ⟨c, δ3⟩ := r6
                cases q7 : rsl δ3 b with
                | none => simp only [q6, Option.bind_some, q7] at e; cases e
                | some y2 =>
                  cases q8 : rsl δ3 c with
                  | none => simp only [q6, Option.bind_some, q7, q8] at e; cases e
                  | some w2 =>
                    cases q9 : g' y2 w2 with
                    | none => simp only [q6, Option.bind_some, q7, q8, q9] at e; cases e
                    | some r9 =>
                      simp only [q6, Option.bind_some, q7, q8, q9] at e
                      cases e
                      refine ⟨m2, δ2, c, _, R3, q6, fun v4 H4 m4 R4 e4 h4 => ?_⟩
                      refine hg' m4 H4 v2 v4 y2 w2 _ Q (top_of R4 (h2.ext (e3.trans e4)) q7) (top_of R4 h4 q8) R4.here q9 fun v5 H5 s5 hv5 => ?_
                      exact k v5 H5 m4 (R4.same s5) ((((e1.trans e2).trans e3).trans e4).trans (.of_same s5)) hv5
            · cases hv
              refine ⟨false, rfl, ?_⟩
              rw [if_neg Bool.false_ne_true]
              cases e
              exact k _ H3 m2 R3 ((e1.trans e2).trans e3) (.bl _)
            · cases e
theorem do_chain {op op' : CmpOp} {r r' : R2} {g g' : Op2} (ho : OpR X (compareOp op) r) (ho' : OpR X (compareOp op') r') (hg : Spec2 X.K r g) (hg' : Spec2 X.K r' g') (ha : PE X a (tO X.K G f1)) (hb : PE X b (tO X.K G f2)) (hc : PE X c (tO X.K G f3))
    (hm : lastMarks [op, op'] [b, c] = false := by with_unfolding_all rfl) : PE X (.Compare a [op, op'] [b, c] pos) (tO X.K G (chainO g g' f1 f2 f3)) := PE.imp (pe_chain ho ho' ha hb hc hm) fun _ _ _ q => tChain_of hg hg' q
theorem dt_chain {op op' : CmpOp} {r r' : R2} {g g' : Op2} (ho : OpR X (compareOp op) r) (ho' : OpR X (compareOp op') r') (hg : Spec2 X.K r g) (hg' : Spec2 X.K r' g') (ha : PE X a (tO X.K G f1)) (hb : PE X b (tO X.K G f2)) (hc : PE X c (tO X.K G f3))
    (hm : lastMarks [op, op'] [b, c] = false := by with_unfolding_all rfl) : PT X (.Compare a [op, op'] [b, c] pos) (tT X.K G (blT (chainO g g' f1 f2 f3))) := dt_of (pt_chain ho ho' ha hb hc hm) fun _ _ _ q => tChain_of hg hg' q

/-! ### list(range(..)), tuple(range(..)) -/
def rgOk (a b : Int) : Bool := decide (-(2 ^ 62) ≤ a ∧ a < 2 ^ 62 ∧ -(2 ^ 62) ≤ b ∧ b < 2 ^ 62 ∧ (b - a).toNat ≤ 2 ^ 24)
theorem rgV_dv {K : PySem.W.Frag} {H : Hp} {a b : Int} : DvAll K H (rgV a b) (rngD a (b - a).toNat) := by
  have : ∀ l : List Nat, DvAll K H (l.map fun i => V.int (a + (i : Nat))) (l.map fun (i : Nat) => D.int (a + (i : Int))) := fun l => by
    induction l with
    | nil => exact .nil
    | cons x l ih => exact .cons (.int _) ih
  exact this _
abbrev ER := DE → Option ((Int × Int) × DE)
def tR (K : PySem.W.Frag) (G : Gm) (f : ER) : L2.St → Hp → (Int → Int → Hp → Prop) → Prop := fun σ H Q => ∃ ms δ r δ', Rp K G ms H σ δ ∧ f δ = some (r, δ') ∧ ∀ H' ms', Rp K G ms' H' σ δ' → Ext ms H ms' H' → Q r.1 r.2 H'
theorem PRg.imp {e : Expr} {t t' : L2.St → Hp → (Int → Int → Hp → Prop) → Prop} (h : PRg X e t) (w : ∀ σ H Q, t' σ H Q → t σ H Q) : PRg X e t' := fun pins s σ H Q I q => h pins s σ H Q I (w σ H Q q)
def rg1 (f : EO) : ER := fun δ => (f δ).bind fun (a, δ1) => match a with | .d (.int n) => some ((0, n), δ1) | _ => none
theorem dr_1 (ha : PE X a (tO X.K G f1)) (hg : Gl X "range") (hm : X.mg "range" = none) (na : starEach [a] X.env = (false, eval a X.env) :: starEach [] X.env := by rfl) : PRg X (.Call (.Name "range" p) [a] [] pos) (tR X.K G (rg1 f1)) :=
  PRg.imp (prg_1 hg hm ha na) fun σ H Q q => by
  obtain ⟨ms, δ, r, δ', R, e, k⟩ := q
  unfold rg1 at e
  cases q : f1 δ with
  | none => rw [q] at e; cases e
  | some r1 =>
    obtain ⟨a, δ1⟩ := r1
    simp only [q, Option.bind_some] at e
    split at e
    · cases e
      refine ⟨ms, δ, _, _, R, q, fun v H1 m1 R1 e1 h1 => ?_⟩
      cases h1
      exact ⟨_, rfl, k H1 m1 R1 e1⟩
    · cases e
def rg2 (f g : EO) : ER := fun δ => (f δ).bind fun (a, δ1) => (g δ1).bind fun (b, δ2) => match a, b with | .d (.int n), .d (.int m) => some ((n, m), δ2) | _, _ => none
theorem dr_2 (ha : PE X a (tO X.K G f1)) (hb : PE X b (tO X.K G f2)) (hg : Gl X "range") (hm : X.mg "range" = none) (na : starEach [a, b] X.env = (false, eval a X.env) :: starEach [b] X.env := by rfl) (nb : starEach [b] X.env = (false, eval b X.env) :: starEach [] X.env := by rfl) (hp : (backTo pos (starEach [b] X.env)).any (·.1) = false := by rfl) : PRg X (.Call (.Name "range" p) [a, b] [] pos) (tR X.K G (rg2 f1 f2)) :=
  PRg.imp (prg_2 hg hm ha hb na nb hp) fun σ H Q q => by
  obtain ⟨ms, δ, r, δ', R, e, k⟩ := q
  unfold rg2 at e
  cases q : f1 δ with
  | none => rw [q] at e; cases e
  | some r1 =>
    obtain ⟨a, δ1⟩ := r1
    cases q2 : f2 δ1 with
    | none => simp only [q, Option.bind_some, q2] at e; cases e
    | some r2 =>
      obtain ⟨b, δ2⟩ := r2
      simp only [q, Option.bind_some, q2] at e
      split at e
      · cases e
        refine ⟨ms, δ, _, δ1, R, q, fun v H1 m1 R1 e1 h1 => ⟨m1, δ1, _, _, R1, q2, fun v2 H2 m2 R2 e2 h2 => ?_⟩⟩
        cases h1
        cases h2
        exact ⟨_, _, rfl, rfl, k H2 m2 R2 (e1.trans e2)⟩
      · cases e
def lstRg (f : ER) : EN := fun δ => (f δ).bind fun (r, δ1) => if rgOk r.1 r.2 then some (rngD r.1 (r.2 - r.1).toNat, δ1) else none
theorem dn_listRg {f : ER} (he : PRg X e (tR X.K G f)) (hg : Gl X "list") (hm : X.mg "list" = none) (hc : X.calm = true := by rfl) (na : starEach [e] X.env = (false, eval e X.env) :: starEach [] X.env := by rfl) : PE X (.Call (.Name "list" p) [e] [] pos) (tN X.K G (lstRg f)) :=
  PE.imp (pe_listRg hc hg hm he na) fun σ H Q q => by
  obtain ⟨ms, δ, r, δ', R, e, k⟩ := q
  unfold lstRg at e
  cases q : f δ with
  | none => rw [q] at e; cases e
  | some r1 =>
    obtain ⟨ab, δ1⟩ := r1
    simp only [q, Option.bind_some] at e
    split at e
    · rename_i hok
      cases e
      have hok' : RgOk ab.1 ab.2 := by unfold rgOk at hok; rw [decide_eq_true_eq] at hok; exact hok
      exact ⟨ms, δ, ab, _, R, q, fun H1 m1 R1 e1 => ⟨hok', fun p hp => k p _ H1 m1 R1 e1 hp rgV_dv⟩⟩
    · cases e
def tupRg (f : ER) : EO := fun δ => (f δ).bind fun (r, δ1) => if rgOk r.1 r.2 then some (.d (.tup (rngD r.1 (r.2 - r.1).toNat)), δ1) else none
theorem do_tupRg {f : ER} (he : PRg X e (tR X.K G f)) (hg : Gl X "tuple") (hm : X.mg "tuple" = none) (hc : X.calm = true := by rfl) (na : starEach [e] X.env = (false, eval e X.env) :: starEach [] X.env := by rfl) : PE X (.Call (.Name "tuple" p) [e] [] pos) (tO X.K G (tupRg f)) :=
  PE.imp (pe_tupRgF hc hg hm he na) fun σ H Q q => by
  obtain ⟨ms, δ, r, δ', R, e, k⟩ := q
  unfold tupRg at e
  cases q : f δ with
  | none => rw [q] at e; cases e
  | some r1 =>
    obtain ⟨ab, δ1⟩ := r1
    simp only [q, Option.bind_some] at e
    split at e
    · rename_i hok
      cases e
      have hok' : RgOk ab.1 ab.2 := by unfold rgOk at hok; rw [decide_eq_true_eq] at hok; exact hok
      exact ⟨ms, δ, ab, _, R, q, fun H1 m1 R1 e1 => ⟨hok', fun p o hp ho => k _ _ m1 (R1.same (same_upd hp)) (e1.trans (.of_same (same_upd hp))) (dv_newT R1.here hp ho rgV_dv)⟩⟩
    · cases e
end

/-! ### names of the specs -/
theorem spec_sub {K : PySem.W.Frag} : Spec2 K (rI0 fun i j => .int (i - j)) subD := spec_I0 fun _ _ _ => .int _
theorem spec_lt {K : PySem.W.Frag} : Spec2 K (rI0 fun i j => .bl (decide (i < j))) ltD := spec_I0 fun _ _ _ => .bl _
theorem spec_le {K : PySem.W.Frag} : Spec2 K (rI0 fun i j => .bl (decide (i ≤ j))) leD := spec_I0 fun _ _ _ => .bl _
theorem spec_gt {K : PySem.W.Frag} : Spec2 K (rI0 fun i j => .bl (decide (j < i))) gtD := spec_I0 fun _ _ _ => .bl _
theorem spec_ge {K : PySem.W.Frag} : Spec2 K (rI0 fun i j => .bl (decide (j ≤ i))) geD := spec_I0 fun _ _ _ => .bl _
end DL
namespace DL
open PySem PySem.Spec PyProof.Rows L2

/-! ### enumerate(tuple) -/
theorem meets_enum1 {v : Value} {o : Obj} {H : Heap → Prop} (B : Begins v o H) :
    Meets (Builtin.«enumerate.__new__» ⟨[.type "enumerate", v], []⟩) (fun _ R s => H s.heap ∧
      R (.ok (.ret (.ref (s.heap.push o).objs.size))) { s with heap := (s.heap.push o).push { cls := .type "enumerate", data := .fields #[.none, .bool false, .ref s.heap.objs.size, rawInt 0, .none, .none] } }) :=
  .of_wp fun prog w A R s h => by
    obtain ⟨hp, g, d, tk, os⟩ := s
    obtain ⟨h1, h⟩ := h
    have hsub := sub_enumerate
    have q1 : ∀ {A' : Around} {E : Value → Shared → Prop} {Q : Value → Shared → Prop}, Q (.ref hp.objs.size) ⟨hp.push o, g, d, tk, os⟩ → wpAny (model prog w) A' (pyIter v) Q E ⟨hp, g, d, tk, os⟩ :=
      fun q => B.iter prog w _ _ ⟨hp, g, d, tk, os⟩ _ h1 q
    wp_walk using q1
    refine wpAny_stack_any fun st => wpAny_pure ?_
    split
    · rename_i c _ _ _ _ _
      cases (c == Value.type "enumerate")
      · wp_walk using q1
        exact ⟨_, rfl, h⟩
      · wp_walk using q1
        exact ⟨_, rfl, h⟩
    · wp_walk using q1
      exact ⟨_, rfl, h⟩
section
variable {prog : Program} {w : World} {A : Around} {E : Value → Shared → Prop} {s : Shared}
theorem call_enum1 {v : Value} {o : Obj} {H : Heap → Prop} {Q : Value → Shared → Prop} (B : Begins v o H) (h1 : H s.heap)
    (h : ∀ h', IsEnum h' (s.heap.objs.size + 1) s.heap.objs.size 0 .none → h'.get? s.heap.objs.size = some o → h'.objs.size = s.heap.objs.size + 2 →
      (∀ b o, s.heap.get? b = some o → h'.get? b = some o) → Q (.ref (s.heap.objs.size + 1)) { s with heap := h' }) :
    wpAny (model prog w) A (call (.type "enumerate") [v]) Q E s := by
  refine callType_new F.called_enumerate (by decide) (F.typeCall_enumerate_1 _) (F.newCall_enumerate_1 _) (fun obj => F.args_object_init_2 obj _) F.entry_enumerate_new
    (meets_enum1 B) ⟨h1, ?_⟩
  have hz : (s.heap.push o).objs.size = s.heap.objs.size + 1 := Heap.size_push ..
  show _ ∧ _
  rw [hz]
  have he : IsEnum ((s.heap.push o).push { cls := .type "enumerate", data := .fields #[.none, .bool false, .ref s.heap.objs.size, rawInt 0, .none, .none] }) (s.heap.objs.size + 1) s.heap.objs.size 0 .none := by
    have := Heap.get?_push_size (s.heap.push o) (o := { cls := .type "enumerate", data := .fields #[.none, .bool false, .ref s.heap.objs.size, rawInt 0, .none, .none] }) rfl
    rw [hz] at this; exact this
  exact ⟨⟨_, he, rfl⟩, h _ he (Heap.get?_push_of_some _ (Heap.get?_push_size _ B.free)) (by rw [Heap.size_push, hz]) fun b o x => Heap.get?_push_of_some _ (Heap.get?_push_of_some _ x)⟩
end
def IteT (K : PySem.W.Frag) (a : Addr) : It :=
  ⟨fun i H => ∃ (xs : List V) (x : V), SqT K H a xs ∧ xs[i]? = some x, fun i H v H' => ∃ T x, v = .ref T ∧ H T = none ∧ H' = upd H T (.tup [.int (i : Nat), x]) ∧ ∀ xs, SqT K H a xs → xs[i]? = some x, fun i H => ∃ xs : List V, SqT K H a xs ∧ xs.length = i⟩
theorem turn_enumT {P : Program} {w : World} {K : PySem.W.Frag} {elts : List Expr} {kk : Nat} {tpos : Pos} (a e it : Addr) :
    Turn P w K (.Tuple elts kk tpos) (IteT K a) [e, it] e (fun i h => (∃ old, IsEnum h e it ((i : Nat) : Int) old) ∧ h.IsTupleIter it a i ∧ e ≠ it ∧ a ≠ e ∧ a ≠ it) where
  mem := by simp
  obj := fun i h st b hb => by
    obtain ⟨⟨old, he⟩, ⟨o, ho, hc, hd⟩, _⟩ := st
    have e' : b = e ∨ b = it := by simpa using hb
    rcases e' with z | z
    · rw [z]; exact ⟨_, he, fun v q => nomatch q⟩
    · rw [z]; exact ⟨o, ho, fun v q => by rw [hd] at q; cases q⟩
  keep := fun i h h' st k => let ⟨⟨old, he⟩, hi, hne⟩ := st; ⟨⟨old, k e (by simp) _ he⟩, hi.at fun o q => k it (by simp) o q, hne⟩
  item := by
    intro X hP hw hK hc i pins s σ H E I hf st hg
    subst hP hw hK
    obtain ⟨⟨old, he⟩, hit, hne, hae, hai⟩ := st
    obtain ⟨xs, x, hq, hx⟩ := hg
    obtain ⟨its, rv, p, hz⟩ := I.tuple hq
    obtain ⟨u, hu, ru⟩ := rv.get hx
    have hel : e < s.heap.objs.size := Heap.lt_size he
    have hil : it < s.heap.objs.size := by obtain ⟨_, q, _⟩ := hit; exact Heap.lt_size q
    have hilt : i < its.toArray.size := by
      rw [List.size_toArray]
      exact (List.getElem?_eq_some_iff.mp hu).1
    have D := Draws.tuple (prog := X.prog) (w := X.w) (A := X.A.in1) (I.ok.hd hc) it a hai its.toArray
    refine wpAny_pyNext_enum_itemD D he (St := fun i h => h.IsTupleIter it a i ∧ h.IsTuple a its.toArray) ⟨hit, p⟩ hilt hne (by simp; exact ⟨hne, fun z => hae z.symm⟩) fun u' h' tk hP ho st' hT hsz hk => ?_
    have hu' : its.toArray[i]? = some u' := hP
    obtain rfl : u = u' := by
      rw [List.getElem?_toArray, hu] at hu'
      cases hu'
      rfl
    obtain ⟨hit', hp'⟩ := st'
    refine ⟨_, rfl, wpAny_letOwnedTupleGo_enum (s := { s with heap := h', toks := tk + 1 }) ho fun h'' he' sb => ?_⟩
    have hT2 : h''.get? s.heap.objs.size = some { cls := .type "tuple", data := .seq #[.int i tk, u] } := (sb.2 _ (Nat.ne_of_gt hel)).trans hT
    have new : ObjOk X.prog X.w (upd H s.heap.objs.size (.tup [.int (i : Nat), x])) h'' s.heap.objs.size (.tup [.int (i : Nat), x]) :=
      ⟨by show 2 ≤ sizeLine; decide, [.int i tk, u], .cons ⟨_, rfl⟩ (.cons ru .nil), ⟨_, hT2, rfl, _, rfl⟩⟩
    have I1 : Inv X pins σ (upd H s.heap.objs.size (.tup [.int (i : Nat), x])) { s with heap := h'', toks := tk + 1 } :=
      I.turnedNew (ch := [e, it]) (fun b ob hb q => (sb.2 b (fun z => hb (by simp [z]))).trans (hk b ob (fun z => hb (by simp [z])) (fun z => hb (by simp [z])) q)) hf (Nat.le_refl _) new
    refine ⟨.ref s.heap.objs.size, _, I1, rfl, ⟨_, x, rfl, I.hok.fresh (Nat.le_refl _), rfl, fun ys hy => by rw [I.tuple_inj hy hq]; exact hx⟩, ⟨⟨u, ?_⟩, hit'.at fun o q => (sb.2 it (Ne.symm hne)).trans q, hne, hae, hai⟩, fun b hb => ?_⟩
    · have e1 : ((i + 1 : Nat) : Int) = (i : Int) + 1 := by omega
      rw [e1]; exact he'
    · have hb' : b < s.heap.objs.size := by
        have e' : b = e ∨ b = it := by simpa using hb
        rcases e' with z | z
        · rw [z]; exact hel
        · rw [z]; exact hil
      rw [upd_ne (Nat.ne_of_lt hb')]
      exact (hf b hb).1
  done := by
    intro X hP hw hK hc i pins s σ H E I hf st hg
    subst hP hw hK
    obtain ⟨⟨old, he⟩, hit, hne, hae, hai⟩ := st
    obtain ⟨xs, hq, hx⟩ := hg
    obtain ⟨its, rv, p, hz⟩ := I.tuple hq
    obtain ⟨f0, f1, f2, f3, f4, f5⟩ := hf it (by simp)
    have hl := rv.length
    have D := Draws.tuple (prog := X.prog) (w := X.w) (A := X.A.in1) (I.ok.hd hc) it a hai its.toArray
    have hi : its.toArray.size = i := by rw [List.size_toArray, ← hl, hx]
    exact wpAny_pyNext_enum_endD D he (by rw [hi]; exact ⟨hit, p⟩) fun h' eb => ⟨rfl, I.turned (t' := s.toks) (fun b o hb q => eb b o hb q) f0 f1 f3 f4 f5⟩
  self := fun A i s Q E st h => let ⟨⟨_, he⟩, _⟩ := st; wpAny_pyIter_enum he h
def iEnumA (K : PySem.W.Frag) (ta : TA) : TI := fun σ H R => ta σ H fun vs H1 => ∃ a xs, vs = [.ref a] ∧ ((SqL K H1 a xs ∧ R (Ite K a) H1) ∨ (SqT K H1 a xs ∧ R (IteT K a) H1))
theorem pi_enumA {X : Cx} {e : Expr} {ta : TA} {p pos tpos : Pos} {elts : List Expr} {kk : Nat} (hg : Gl X "enumerate") (hm : X.mg "enumerate" = none) (ha : PA X [e] ta) (hs : starEach [e] X.env = [(false, eval e X.env)] := by rfl) :
    PI X (.Tuple elts kk tpos) (.Call (.Name "enumerate" p) [e] [] pos) (iEnumA X.K ta) := by
  refine ⟨fun pins s σ H R I h => ?_⟩
  refine Call_ (ld_blt I hg hm boot_enumerate (PyProof.Rows.callWith_type1 (thn (ha.run pos pins s σ H _ I h) fun us s1 ⟨vs, H1, I1, r1, q1⟩ => ?_) hs rfl))
  obtain ⟨a, xs, ex, q1⟩ := q1
  subst ex
  have fp : ∀ b ∈ [s1.heap.objs.size + 1, s1.heap.objs.size], s1.heap.objs.size ≤ b := fun b hb => by
    have e' : b = s1.heap.objs.size + 1 ∨ b = s1.heap.objs.size := by simpa using hb
    rcases e' with z | z
    · rw [z]; exact Nat.le_add_right _ _
    · rw [z]; exact Nat.le_refl _
  cases r1 with
  | cons r rr =>
    cases rr
    cases r
    rcases q1 with ⟨hq, q⟩ | ⟨hq, q⟩
    · obtain ⟨its, rv, p', hz⟩ := I1.list hq
      refine call_enumerate_list p'.isList fun h' he hit hsz hk => wpAny_pyIter_enum he ?_
      have I2 : Inv X pins σ H1 { s1 with heap := h' } := I1.kept (t' := s1.toks) hk
      exact ⟨s1.heap.objs.size + 1, [s1.heap.objs.size + 1, s1.heap.objs.size], _, _, H1, rfl, I2, turn_enum a (s1.heap.objs.size + 1) s1.heap.objs.size, ⟨⟨.none, he⟩, hit, Nat.succ_ne_self _⟩, fun b hb => I1.fpOk (fp b hb) (I1.hok.fresh (fp b hb)), q⟩
    · obtain ⟨its, rv, p', hz⟩ := I1.tuple hq
      obtain ⟨o1, ho1, _⟩ := id p'
      have hal := Heap.lt_size ho1
      refine call_enum1 (begins_tuple a its.toArray) (show s1.heap.IsTuple a its.toArray from p') fun h' he hit hsz hk => wpAny_pyIter_enum he ?_
      have I2 : Inv X pins σ H1 { s1 with heap := h' } := I1.kept (t' := s1.toks) hk
      exact ⟨s1.heap.objs.size + 1, [s1.heap.objs.size + 1, s1.heap.objs.size], _, _, H1, rfl, I2, turn_enumT a (s1.heap.objs.size + 1) s1.heap.objs.size, ⟨⟨.none, he⟩, ⟨_, hit, rfl, rfl⟩, Nat.succ_ne_self _, Nat.ne_of_lt (Nat.lt_succ_of_lt hal), Nat.ne_of_lt hal⟩, fun b hb => I1.fpOk (fp b hb) (I1.hok.fresh (fp b hb)), q⟩
theorem walk_enumT {K : PySem.W.Frag} {ms : List Addr} {H : Hp} {a : Addr} {us : List V} {ds : List D} (hs : SqT K (mask H ms) a us) (ha : DvAll K (mask H ms) us ds) : WalkOk K (IteT K a) ms H (enumD ds) := by
  intro i ms2 H2 ex hm
  have s2 : SqT K H2 a us := Same.seqT mask_sub (Same.seqT ex.same hs)
  have a2 : DvAll K (mask H2 ms2) us ds := ha.mono ex.same
  refine ⟨fun d hd => ?_, fun hl => ⟨us, s2, by rw [ha.length, ← enumD_len ds]; exact hl⟩⟩
  obtain ⟨x0, hx0, rfl⟩ := enumD_get hd
  obtain ⟨v, hv, dv⟩ := a2.get hx0
  refine ⟨⟨us, v, s2, hv⟩, fun x H3 y => ?_⟩
  obtain ⟨T, w, rfl, hT, rfl, hx⟩ := y
  have := hx us s2
  rw [hv] at this
  cases this
  exact ⟨same_upd hT, dv_new_tup hm hT (.cons (.int _) (.cons dv .nil))⟩
section
variable {X : Cx} {G : Gm} {e : Expr} {fa : EA} {p pos tpos : Pos}
def enumA (fa : EA) : EI := fun δ => (fa δ).bind fun (as, δ1) => (frzs as δ1).bind fun (ds, δ2) => match ds with
  | [x] => (itemsD x).bind fun xs => some (enumD xs, δ2)
  | _ => none
theorem di_enumA {elts : List Expr} {kk : Nat} (ha : PA X [e] (tAr X.K G fa)) (hg : Gl X "enumerate") (hm : X.mg "enumerate" = none) (hs : starEach [e] X.env = [(false, eval e X.env)] := by rfl) : PI X (.Tuple elts kk tpos) (.Call (.Name "enumerate" p) [e] [] pos) (tI X.K G (enumA fa)) :=
  PI.imp (pi_enumA hg hm ha hs) fun σ H R q => by
  obtain ⟨ms, δ, ds, δ', Rr, e, k⟩ := q
  unfold enumA at e
  cases q : fa δ with
  | none => rw [q] at e; cases e
  | some r =>
    obtain ⟨as, δ1⟩ := r
    cases q2 : frzs as δ1 with
    | none => simp only [q, Option.bind_some, q2] at e; cases e
    | some r2 =>
      obtain ⟨xs, δ2⟩ := r2
      simp only [q, Option.bind_some, q2] at e
      split at e
      · rename_i x
        cases q3 : itemsD x with
        | none => rw [q3] at e; cases e
        | some ys =>
          simp only [q3, Option.bind_some] at e
          cases e
          refine ⟨ms, δ, _, _, Rr, q, fun vs H1 m1 R1 e1 h1 => ?_⟩
          obtain ⟨m2, R2, e2, d2⟩ := frzs_ok R1 h1 q2
          cases d2 with
          | cons x y =>
            cases y
            cases x with
            | lst hs ha => cases q3; exact ⟨_, _, rfl, .inl ⟨SqL.of (mask_sub _ _ hs), k _ _ m2 R2 (e1.trans e2) (walk_enum (SqL.of hs) ha)⟩⟩
            | fls hs ha => cases q3; exact ⟨_, _, rfl, .inl ⟨mask_sub.seq hs, k _ _ m2 R2 (e1.trans e2) (walk_enum hs ha)⟩⟩
            | tup hs hn ha => cases q3; exact ⟨_, _, rfl, .inr ⟨Same.seqT mask_sub hs, k _ _ m2 R2 (e1.trans e2) (walk_enumT hs ha)⟩⟩
            | _ => cases q3
      · cases e
end
end DL
namespace DL
open PySem PySem.Spec PyProof.Rows L2

/-! ### tuple[::-1] -/
theorem rev_adjust (n : Nat) : Builtin.Slice.sliceAdjust none none (-1) (n : Int) = ((n : Int) - 1, -1) := by
  unfold Builtin.Slice.sliceAdjust
  have h1 : ((-1 : Int) < 0) := by omega
  simp only [h1, if_true]
theorem rev_places (n : Nat) : Builtin.Slice.slicePlaces ((n : Int) - 1) (-1) (-1) = n := by
  unfold Builtin.Slice.slicePlaces
  have h1 : ¬ ((-1 : Int) > 0) := by omega
  simp only [h1, if_false]
  rw [show (-(-1) : Int) = 1 by decide, Int.ediv_one]
  split <;> omega
theorem fm_congr {α β : Type} {f g : α → Option β} : ∀ {l : List α}, (∀ x ∈ l, f x = g x) → l.filterMap f = l.filterMap g
  | [], _ => rfl
  | x :: l, h => by rw [List.filterMap_cons, List.filterMap_cons, h x List.mem_cons_self, fm_congr fun y hy => h y (List.mem_cons_of_mem _ hy)]
theorem rev_pick (xs : Array Value) : ((List.range xs.size).filterMap fun (m : Nat) => xs[(((xs.size : Int) - 1) + (m : Int) * (-1)).toNat]?).toArray = xs.toList.reverse.toArray := by
  have e : (List.range xs.size).filterMap (fun (m : Nat) => xs[(((xs.size : Int) - 1) + (m : Int) * (-1)).toNat]?) = ((List.range xs.size).map fun k => xs.size - 1 - k).filterMap (xs[·]?) := by
    rw [List.filterMap_map]
    refine fm_congr fun m hm => ?_
    have := List.mem_range.mp hm
    show _ = xs[xs.size - 1 - m]?
    rw [show (((xs.size : Int) - 1) + (m : Int) * (-1)).toNat = xs.size - 1 - m by omega]
  rw [e, PySem.W.krv_range, List.filterMap_reverse, PySem.W.krv_all]
section
variable {prog : Program} {w : World} {A : Around} {E : Value → Shared → Prop} {s : Shared}
theorem sliceApplied_rev {sl : Addr} {vs : Value} {n : Nat} {Q : Int × Int × Nat → Shared → Prop} (hs : s.heap.IsSliceOf sl .none .none vs) (ps : IsPart vs (some (-1)))
    (h : Q ((n : Int) - 1, -1, n) s) : wpAny (model prog w) A (Builtin.Slice.sliceApplied (.ref sl) (pure (n : Int))) Q E s := by
  obtain ⟨os, hos, hcs, hds⟩ := id hs
  unfold Builtin.Slice.sliceApplied Builtin.Slice.sliceFields
  refine wpAny_bind (wpAny_bind (wpAny_field hos hds (x := .none) rfl (wpAny_bind (wpAny_field hos hds (x := .none) rfl (wpAny_bind (wpAny_field hos hds (x := vs) rfl (wpAny_pure ?_)))))))
  refine wpAny_bind (HT.slicePart_ ps ?_)
  show wpAny _ _ (if ((-1 : Int) == 0) = true then _ else _) _ _ s
  rw [if_neg (by decide)]
  refine wpAny_bind (slicePart_none (wpAny_bind (slicePart_none (wpAny_bind (wpAny_pure ?_)))))
  show wpAny _ _ (match Builtin.Slice.sliceAdjust none none (-1) (n : Int) with | (lo, hi) => pure (lo, (-1 : Int), Builtin.Slice.slicePlaces lo hi (-1))) _ _ s
  rw [rev_adjust]
  show wpAny _ _ (pure ((n : Int) - 1, (-1 : Int), Builtin.Slice.slicePlaces ((n : Int) - 1) (-1) (-1))) _ _ s
  rw [rev_places]
  exact wpAny_pure h
theorem getItem_tuple_rev {t sl : Addr} {items : Array Value} {vs : Value} {Q : Value → Shared → Prop} (ht : IsTup s.heap t items) (hs : s.heap.IsSliceOf sl .none .none vs) (ps : IsPart vs (some (-1)))
    (h : Q (.ref s.heap.objs.size) { s with heap := s.heap.push { cls := .type "tuple", data := .seq items.toList.reverse.toArray } })
    (hsz : items.size ≤ sizeLine) : wpAny (model prog w) A (getItem (.ref t) (.ref sl)) Q E s := by
  have htake : sizeOk (.seq items.toList.reverse.toArray) := by
    show items.toList.reverse.toArray.size ≤ sizeLine
    rw [List.size_toArray, List.length_reverse, Array.length_toList]
    exact hsz
  obtain ⟨os, hos, hcs, hds⟩ := id hs
  have hTs : s.TypeIs (.ref sl) "slice" := ⟨os, hos, hcs⟩
  unfold getItem
  try with_reducible refine wpAny_holding ?_
  first | refine wpAny_bind (wpAny_pure ?_) | skip
  refine wpAny_bind (wpAny_sequenceKey ht.typeIs (by decide) ?_)
  refine wpAny_bind (wpAny_callSpecial?_slot (name := Str.ofString "__getitem__") ht.typeIs PyProof.Rows.slot_tuple_getitem
    (wpAny_call_entry PyProof.Rows.slot_tuple_getitem ht.typeIs entry_tuple_getitem ?_ (args_tuple_getitem _ _)))
  show wpAny _ _ (Builtin.Tuple.tupleItemsOf (.ref t) >>= _) _ _ s
  refine wpAny_bind (tupleItemsOf_ ht ?_)
  refine wpAny_bind (wpAny_typeOf hTs ?_)
  rw [if_pos (by decide)]
  refine wpAny_bind (sliceApplied_rev hs ps ?_)
  have hno : ¬ ((((items.size : Int) - 1 == 0) && ((-1 : Int) == 1) && (items.size == items.size)) = true) := by
    rw [show ((-1 : Int) == 1) = false by decide, Bool.and_false, Bool.false_and]
    exact Bool.false_ne_true
  show wpAny _ _ (if (((items.size : Int) - 1 == 0) && ((-1 : Int) == 1) && (items.size == items.size)) = true then _ else _) _ _ s
  rw [if_neg hno, rev_pick]
  first
    | exact wpAny_bind (m := Builtin.Tuple.tupleExact _) (wpAny_newObj_type (wpAny_pure ⟨_, rfl, wpAny_pure h⟩) htake)
    | exact wpAny_bind (m := Builtin.Tuple.tupleExact _) (wpAny_newObj_type (wpAny_bind (wpAny_pure (wpAny_pure ⟨_, rfl, wpAny_pure h⟩))) htake)
    | exact wpAny_bind (wpAny_bind (m := Builtin.Tuple.tupleExact _) (wpAny_newObj_type (wpAny_pure (wpAny_pure ⟨_, rfl, wpAny_pure h⟩)) htake))
    | exact wpAny_bind (wpAny_bind (m := Builtin.Tuple.tupleExact _) (wpAny_newObj_type (wpAny_pure ⟨_, rfl, wpAny_pure h⟩) htake))
end
def tRevA (K : PySem.W.Frag) (te : TE) : TE := fun σ H Q => te σ H fun x H1 => ∃ a xs, x = .ref a ∧ ((SqL K H1 a xs ∧ ∀ p, H1 p = none → Q (.ref p) (upd H1 p (.lst xs.reverse))) ∨ (SqT K H1 a xs ∧ NewT Q H1 xs.reverse))
theorem pe_revA {X : Cx} {e : Expr} {te : TE} {k : Nat} {p1 p2 p3 pos : Pos} (he : PE X e te) : PE X (.Subscript e (.Slice none none (some (.UnaryOp .USub (.Constant (.int 1) k p1) p2)) p3) pos) (tRevA X.K te) := by
  refine ⟨fun pins s σ H Q I h => ?_⟩
  refine Subscript_ (thn (he.run pins s σ H _ I h) fun v s1 ⟨x, H1, I1, r1, q1⟩ => ?_)
  obtain ⟨a, xs, ex, q⟩ := q1
  subst ex
  cases r1
  have hst : PO X (some (.UnaryOp .USub (.Constant (.int 1) k p1) p2)) (tPart (tUn (rU fun i => .int (-i)) (tC (.int 1)))) := po_some (pe_un un_neg pe_int)
  refine wpAny_Slice (thn (po_none.run pins s1 σ H1 (fun o H2 => o = none ∧ H2 = H1) I1 ⟨rfl, rfl⟩) fun vl s2 ⟨l, H2, I2, pl, el, e2⟩ => ?_)
  subst el e2
  refine thn (po_none.run pins s2 σ H2 (fun o H3 => o = none ∧ H3 = H2) I2 ⟨rfl, rfl⟩) fun vu s3 ⟨u, H3, I3, pu, eu, e3⟩ => ?_
  subst eu e3
  refine thn (hst.run pins s3 σ H3 (fun o H4 => o = some (-1) ∧ H4 = H3) I3 ⟨1, rfl, -1, rfl, rfl, rfl⟩) fun vs s4 ⟨o, H4, I4, ps, eo, e4⟩ => ?_
  subst eo e4
  have I5 : Inv X pins σ H4 { s4 with heap := s4.heap.push { cls := .type "slice", data := .fields #[vl, vu, vs] } } := I4.kept (t' := s4.toks) fun b ob q => Heap.get?_push_of_some _ q
  show wpAny (model X.prog X.w) X.A (subscriptTail e (.Slice none none (some (.UnaryOp .USub (.Constant (.int 1) k p1) p2)) p3) (.ref a) (.ref s4.heap.objs.size)) (EP X pins σ Q) X.xe { s4 with heap := s4.heap.push { cls := .type "slice", data := .fields #[vl, vu, vs] } }
  rcases q with ⟨hx, q⟩ | ⟨hx, q⟩
  · obtain ⟨its, r, ht, hz⟩ := I5.list hx
    have hlen := r.length
    refine tail_any (ops := [.ref a, .ref s4.heap.objs.size]) ht.isList.typeIs (PySem.slot_list_getitem.lookup) ?_ (by with_unfolding_all rfl)
    refine wpAny_getItem_list_slice ht.isList (Heap.IsSliceOf.new _ vl vu vs) pl pu ps (by decide) ?_ (by rw [List.size_toArray]; omega)
    rw [PySem.W.krv_pick]
    refine ⟨.ref _, _, I5.laid (t' := s4.toks) (o := .lst xs.reverse) (fun b ob q => Heap.get?_push_of_some _ q) (Nat.le_refl _) ?_, rfl, q _ (I5.hok.fresh (Nat.le_refl _))⟩
    exact ⟨by rw [List.length_reverse]; exact hz, _, 0, r.reverse, Heap.get?_push_size _ rfl⟩
  · obtain ⟨its, r, ht, hz⟩ := I5.tuple hx
    have hlen := r.length
    cases pl
    cases pu
    refine tail_any (ops := [.ref a, .ref s4.heap.objs.size]) ht.typeIs (PyProof.Rows.slot_tuple_getitem.lookup) ?_ (by with_unfolding_all rfl)
    refine getItem_tuple_rev ht (Heap.IsSliceOf.new _ _ _ vs) ps ?_ (by rw [List.size_toArray]; omega)
    exact ⟨.ref _, _, inv_newTup (tk := s4.toks) I5 (by rw [List.length_reverse]; exact hz) r.reverse, rfl, q _ _ (I5.hok.fresh (Nat.le_refl _)) rfl⟩
section
variable {X : Cx} {G : Gm} {e : Expr} {f : EO} {pos : Pos}
def revA (f : EO) : EO := fun δ => (f δ).bind fun (a, δ1) => (rsl δ1 a).bind fun x => match x with
  | .lst ds => some (.d (.lst ds.reverse), δ1)
  | .tup ds => some (.d (.tup ds.reverse), δ1)
  | _ => none
theorem do_rev {k0 : Nat} {q1 q2 q3 : Pos} (he : PE X e (tO X.K G f)) : PE X (.Subscript e (.Slice none none (some (.UnaryOp .USub (.Constant (.int 1) k0 q1) q2)) q3) pos) (tO X.K G (revA f)) :=
  PE.imp (pe_revA he) fun σ H Q q => by
  obtain ⟨ms, δ, x, δ', R, e, k⟩ := q
  unfold revA at e
  cases q : f δ with
  | none => rw [q] at e; cases e
  | some r =>
    obtain ⟨a, δ1⟩ := r
    cases q4 : rsl δ1 a with
    | none => simp only [q, Option.bind_some, q4] at e; cases e
    | some y =>
      simp only [q, Option.bind_some, q4] at e
      refine ⟨ms, δ, a, δ1, R, q, fun v1 H1 m1 R1 e1 h1 => ?_⟩
      split at e
      · cases e
        obtain ⟨p, us, rfl, s1, a1⟩ := (top_of R1 h1 q4).lst
        exact ⟨p, us, rfl, .inl ⟨SqL.of s1, fun r hr => k _ _ m1 (R1.same (same_upd hr)) (e1.trans (.of_same (same_upd hr))) (dv_new_lst R1.here hr a1.reverse)⟩⟩
      · cases e
        obtain ⟨p, us, rfl, s1, a1⟩ := (top_of R1 h1 q4).tup
        exact ⟨p, us, rfl, .inr ⟨s1, fun r o hr ho => k _ _ m1 (R1.same (same_upd hr)) (e1.trans (.of_same (same_upd hr))) (dv_newT R1.here hr ho a1.reverse)⟩⟩
      · cases e
end
end DL
namespace DL
open PySem PySem.Spec PyProof.Rows L2

structure Def (K : PySem.W.Frag) (mg : Str → Option Value) (x : Str) (st : Stmt) (ps : List Str) (f : Addr) (fd : FuncData) : Prop where
  F : Fun K x x st f fd
  g : mg x = some (.ref f)
  b : Binds K fd ps []
theorem RoomG.hu64 {k : Nat} {A : Around} (r : RoomG k A) : A.units + 64 < cLine := by have := r.room.un; omega
theorem RoomG.hu65 {k : Nat} {A : Around} (r : RoomG k A) : A.units + 65 < cLine := by have := r.room.un; omega
theorem RoomG.hu62 {k : Nat} {A : Around} (r : RoomG k A) : A.units + 62 < cLine := by have := r.room.un; omega
theorem lenA_nil : ∀ (δ : DE) (as : List Ar) (δ1 : DE), nilA δ = some (as, δ1) → as.length = 0 := fun δ as δ1 e => by cases e; rfl
theorem lenA_cons {f : EO} {g : EA} {n : Nat} (h : ∀ (δ : DE) (as : List Ar) (δ1 : DE), g δ = some (as, δ1) → as.length = n) : ∀ (δ : DE) (as : List Ar) (δ1 : DE), consA f g δ = some (as, δ1) → as.length = n + 1 := fun δ as δ1 e => by
  unfold consA at e
  cases q : f δ with
  | none => rw [q] at e; cases e
  | some r =>
    obtain ⟨a, δ2⟩ := r
    cases q2 : g δ2 with
    | none => simp only [q, Option.bind_some, q2] at e; cases e
    | some r2 =>
      obtain ⟨bs, δ3⟩ := r2
      simp only [q, Option.bind_some, q2] at e
      cases e
      simp [h _ _ _ q2]
section
variable {X : Cx} {G : Gm} {e : Expr} {fa : EA} {p pos : Pos}
/-- list(x): a new list -/
def lstN (fa : EA) : EN := fun δ => (fa δ).bind fun (as, δ1) => (rsls δ1 as).bind fun ds => match ds with
  | [x] => (itemsD x).bind fun xs => some (xs, δ1)
  | _ => none
theorem dn_list (ha : PA X [e] (tAr X.K G fa)) (hg : Gl X "list") (hm : X.mg "list" = none) (he : starEach [e] X.env = (false, eval e X.env) :: starEach [] X.env := by rfl) (hpl : (backTo pos (starEach [] X.env)).any (·.1) = false := by rfl) : PE X (.Call (.Name "list" p) [e] [] pos) (tN X.K G (lstN fa)) :=
  PE.imp (pe_callTy call_list_of hg hm PyProof.Rows.boot_list ha (by decide) (by decide) he hpl) fun σ H Q q => by
  obtain ⟨ms, δ, ds, δ', R, e, k⟩ := q
  unfold lstN at e
  cases q : fa δ with
  | none => rw [q] at e; cases e
  | some r =>
    obtain ⟨as, δ1⟩ := r
    cases q2 : rsls δ1 as with
    | none => simp only [q, Option.bind_some, q2] at e; cases e
    | some xs =>
      simp only [q, Option.bind_some, q2] at e
      split at e
      · rename_i x
        cases q3 : itemsD x with
        | none => rw [q3] at e; cases e
        | some ys =>
          simp only [q3, Option.bind_some] at e
          cases e
          refine ⟨ms, δ, as, _, R, q, fun vs H1 m1 R1 e1 h1 => ?_⟩
          obtain ⟨v, rfl, t⟩ := top1 (tops_of R1 h1 q2)
          cases x with
          | lst l => cases q3; obtain ⟨p, us, rfl, s1, a1⟩ := t.lst; exact ⟨p, us, rfl, .inl (SqL.of s1), fun l hl => k l us H1 m1 R1 e1 hl a1⟩
          | tup l => cases q3; obtain ⟨p, us, rfl, s1, a1⟩ := t.tup; exact ⟨p, us, rfl, .inr s1, fun l hl => k l us H1 m1 R1 e1 hl a1⟩
          | fls l => cases q3; obtain ⟨p, us, rfl, s1, a1⟩ := t.fls; exact ⟨p, us, rfl, .inl s1, fun l hl => k l us H1 m1 R1 e1 hl a1⟩
          | _ => cases q3
      · cases e
end
end DL
namespace DL
open PySem PySem.Spec PyProof.Rows L2

/-! ### what a denotation gives, step by step -/
abbrev Den (α : Type) := DE → Option (α × DE)
structure W {α : Type} (f : Den α) (δ : DE) (P : α → DE → Prop) : Prop where
  run : ∃ a δ', f δ = some (a, δ') ∧ P a δ'
structure Wg (g : EG) (d : D) (δ : DE) (P : DE → Prop) : Prop where
  run : ∃ δ', g d δ = some δ' ∧ P δ'
structure Wgs (g : EGs) (d : List D) (δ : DE) (P : DE → Prop) : Prop where
  run : ∃ δ', g d δ = some δ' ∧ P δ'
structure Wf {α : Type} (F : List Sl → Option (α × List Sl)) (sls : List Sl) (P : α → List Sl → Prop) : Prop where
  run : ∃ r o, F sls = some (r, o) ∧ P r o
theorem W.imp {α : Type} {f : Den α} {δ : DE} {P Q : α → DE → Prop} (h : W f δ P) (k : ∀ a δ', P a δ' → Q a δ') : W f δ Q := let ⟨a, δ', e, p⟩ := h; ⟨a, δ', e, k a δ' p⟩
theorem Wf.imp {α : Type} {F : List Sl → Option (α × List Sl)} {sls : List Sl} {P Q : α → List Sl → Prop} (h : Wf F sls P) (k : ∀ r o, P r o → Q r o) : Wf F sls Q := let ⟨a, δ', e, p⟩ := h; ⟨a, δ', e, k a δ' p⟩
theorem w_of {α : Type} {f : Den α} {δ δ' : DE} {a : α} {P : α → DE → Prop} (e : f δ = some (a, δ')) (p : P a δ') : W f δ P := ⟨a, δ', e, p⟩
theorem wf_of {α : Type} {F : List Sl → Option (α × List Sl)} {sls o : List Sl} {r : α} {P : α → List Sl → Prop} (e : F sls = some (r, o)) (p : P r o) : Wf F sls P := ⟨r, o, e, p⟩
section
variable {δ : DE} {f f1 f2 f3 : EO} {fa fk : EA} {fn : EN} {g : EG} {gs : EGs} {tt t1 t2 : ET} {s1 s2 : ES} {fi : EI} {i j l n : Nat} {P : Ar → DE → Prop} {PA : List Ar → DE → Prop} {PN : List D → DE → Prop} {PT : Bool → DE → Prop} {PS : Fl → DE → Prop} {PP : Option Int → DE → Prop} {PG : DE → Prop} {d : D} {ds : List D} {vs : List Nat}
theorem w_c (h : P (.d d) δ) : W (cO d) δ P := ⟨_, _, rfl, h⟩
theorem w_vz (e : δ[i]? = some (some (.fz d))) (h : P (.d d) δ) : W (vO i) δ P := ⟨_, _, by unfold vO; rw [e], h⟩
theorem w_vo (e : δ[i]? = some (some (.ow ds))) (h : P (.sl i) δ) : W (vO i) δ P := ⟨_, _, by unfold vO; rw [e], h⟩
theorem w_vb (e : δ[i]? = some (some (.bo ds))) (h : P (.sl i) δ) : W (vO i) δ P := ⟨_, _, by unfold vO; rw [e], h⟩
theorem w_nO (h : W fn δ fun ds δ1 => P (.d (.lst ds)) δ1) : W (nO fn) δ P := by
  obtain ⟨a, δ1, e, p⟩ := h
  exact ⟨_, _, by unfold nO; rw [e]; rfl, p⟩
theorem w_nil (h : PA [] δ) : W nilA δ PA := ⟨_, _, rfl, h⟩
theorem w_cons (h : W f δ fun a δ1 => W fa δ1 fun as δ2 => PA (a :: as) δ2) : W (consA f fa) δ PA := by
  obtain ⟨a, δ1, e, as, δ2, e2, p⟩ := h
  exact ⟨_, _, by unfold consA; rw [e]; simp only [Option.bind_some, e2], p⟩
theorem w_bin {o : Op2} (h : W f1 δ fun a δ1 => W f2 δ1 fun b δ2 => ∃ x y z, rsl δ2 a = some x ∧ rsl δ2 b = some y ∧ o x y = some z ∧ P (.d z) δ2) : W (bin2 o f1 f2) δ P := by
  obtain ⟨a, δ1, e, b, δ2, e2, x, y, z, e3, e4, e5, p⟩ := h
  exact ⟨_, _, by unfold bin2; simp only [e, Option.bind_some, e2, e3, e4, e5], p⟩
theorem w_un {o : Op1} (h : W f1 δ fun a δ1 => ∃ x z, rsl δ1 a = some x ∧ o x = some z ∧ P (.d z) δ1) : W (un1 o f1) δ P := by
  obtain ⟨a, δ1, e, x, z, e3, e5, p⟩ := h
  exact ⟨_, _, by unfold un1; simp only [e, Option.bind_some, e3, e5], p⟩
theorem w_callN {o : OpN} (h : W fa δ fun as δ1 => ∃ ds z, rsls δ1 as = some ds ∧ o ds = some z ∧ P (.d z) δ1) : W (callN o fa) δ P := by
  obtain ⟨a, δ1, e, x, z, e3, e5, p⟩ := h
  exact ⟨_, _, by unfold callN; simp only [e, Option.bind_some, e3, e5], p⟩
theorem w_disp (h : W fa δ fun as δ1 => ∃ ds δ2, frzs as δ1 = some (ds, δ2) ∧ ds.length ≤ sizeLine ∧ PN ds δ2) : W (dispN fa) δ PN := by
  obtain ⟨a, δ1, e, ds, δ2, e3, e5, p⟩ := h
  exact ⟨_, _, by unfold dispN; simp only [e, Option.bind_some, e3]; rw [if_pos e5], p⟩
theorem w_tup (h : W fa δ fun as δ1 => ∃ ds δ2, frzs as δ1 = some (ds, δ2) ∧ ds.length ≤ sizeLine ∧ P (.d (.tup ds)) δ2) : W (tupO fa) δ P := by
  obtain ⟨a, δ1, e, ds, δ2, e3, e5, p⟩ := h
  exact ⟨_, _, by unfold tupO; simp only [e, Option.bind_some, e3]; rw [if_pos e5], p⟩
theorem w_tru (h : W f δ fun a δ1 => ∃ d b, rsl δ1 a = some d ∧ truD d = some b ∧ PT b δ1) : W (truT f) δ PT := by
  obtain ⟨a, δ1, e, x, z, e3, e5, p⟩ := h
  exact ⟨_, _, by unfold truT; simp only [e, Option.bind_some, e3, e5], p⟩
theorem w_bl (h : W f δ fun a δ1 => ∃ b, a = .d (.bl b) ∧ PT b δ1) : W (blT f) δ PT := by
  obtain ⟨a, δ1, e, x, rfl, p⟩ := h
  exact ⟨_, _, by unfold blT; simp only [e, Option.bind_some], p⟩
theorem w_andT (h : W t1 δ fun b δ1 => (b = true → W t2 δ1 PT) ∧ (b = false → PT false δ1)) : W (andT t1 t2) δ PT := by
  obtain ⟨b, δ1, e, h1, h2⟩ := h
  cases b with
  | true => obtain ⟨c, δ2, e2, p⟩ := h1 rfl; exact ⟨_, _, by unfold andT; simp only [e, Option.bind_some]; simp [e2], p⟩
  | false => exact ⟨_, _, by unfold andT; simp only [e, Option.bind_some]; rw [if_neg Bool.false_ne_true], h2 rfl⟩
theorem w_orT (h : W t1 δ fun b δ1 => (b = true → PT true δ1) ∧ (b = false → W t2 δ1 PT)) : W (orT t1 t2) δ PT := by
  obtain ⟨b, δ1, e, h1, h2⟩ := h
  cases b with
  | false => obtain ⟨c, δ2, e2, p⟩ := h2 rfl; exact ⟨_, _, by unfold orT; simp only [e, Option.bind_some]; rw [if_neg Bool.false_ne_true, e2], p⟩
  | true => exact ⟨_, _, by unfold orT; simp [e, Option.bind_some], h1 rfl⟩
theorem w_notT (h : W t1 δ fun b δ1 => PT (!b) δ1) : W (notT t1) δ PT := by
  obtain ⟨b, δ1, e, p⟩ := h
  exact ⟨_, _, by unfold notT; simp only [e, Option.bind_some], p⟩
theorem w_yes (h : PT true δ) : W yesT δ PT := ⟨_, _, rfl, h⟩
theorem w_andO (h : W f1 δ fun a δ1 => ∃ x b, rsl δ1 a = some x ∧ truD x = some b ∧ (b = true → W f2 δ1 P) ∧ (b = false → P a δ1)) : W (andO f1 f2) δ P := by
  obtain ⟨a, δ1, e, x, b, e1, e2, h1, h2⟩ := h
  cases b with
  | true => obtain ⟨c, δ2, e3, p⟩ := h1 rfl; exact ⟨_, _, by unfold andO; simp only [e, Option.bind_some, e1, e2]; simp [e3], p⟩
  | false => exact ⟨_, _, by unfold andO; simp only [e, Option.bind_some, e1, e2]; rw [if_neg Bool.false_ne_true], h2 rfl⟩
theorem w_orO (h : W f1 δ fun a δ1 => ∃ x b, rsl δ1 a = some x ∧ truD x = some b ∧ (b = true → P a δ1) ∧ (b = false → W f2 δ1 P)) : W (orO f1 f2) δ P := by
  obtain ⟨a, δ1, e, x, b, e1, e2, h1, h2⟩ := h
  cases b with
  | false => obtain ⟨c, δ2, e3, p⟩ := h2 rfl; exact ⟨_, _, by unfold orO; simp only [e, Option.bind_some, e1, e2]; rw [if_neg Bool.false_ne_true, e3], p⟩
  | true => exact ⟨_, _, by unfold orO; simp [e, Option.bind_some, e1, e2], h1 rfl⟩
theorem w_notO (h : W (truT f1) δ fun b δ1 => P (.d (.bl (!b))) δ1) : W (notO f1) δ P := by
  obtain ⟨b, δ1, e, p⟩ := h
  exact ⟨_, _, by unfold notO; simp only [e, Option.bind_some], p⟩
theorem w_ifO (h : W tt δ fun b δ1 => (b = true → W f1 δ1 P) ∧ (b = false → W f2 δ1 P)) : W (ifO tt f1 f2) δ P := by
  obtain ⟨b, δ1, e, h1, h2⟩ := h
  cases b with
  | true => obtain ⟨c, δ2, e2, p⟩ := h1 rfl; exact ⟨_, _, by unfold ifO; simp only [e, Option.bind_some]; simp [e2], p⟩
  | false => obtain ⟨c, δ2, e2, p⟩ := h2 rfl; exact ⟨_, _, by unfold ifO; simp only [e, Option.bind_some]; rw [if_neg Bool.false_ne_true, e2], p⟩
theorem w_noP (h : PP none δ) : W noP δ PP := ⟨_, _, rfl, h⟩
theorem w_soP (h : W f δ fun a δ1 => ∃ i, a = .d (.int i) ∧ PP (some i) δ1) : W (soP f) δ PP := by
  obtain ⟨a, δ1, e, x, rfl, p⟩ := h
  exact ⟨_, _, by unfold soP; simp only [e, Option.bind_some], p⟩
theorem w_slice {fl fh : EP2} (h : W f δ fun a δ1 => W fl δ1 fun l δ2 => W fh δ2 fun h δ3 => ∃ x z, rsl δ3 a = some x ∧ slD x l h = some z ∧ P (.d z) δ3) : W (sliceO f fl fh) δ P := by
  obtain ⟨a, δ1, e, b, δ2, e2, c, δ3, e3, x, z, e4, e5, p⟩ := h
  exact ⟨_, _, by unfold sliceO; simp only [e, Option.bind_some, e2, e3, e4, e5], p⟩
theorem w_revT (h : W f δ fun a δ1 => ∃ ds, rsl δ1 a = some (.tup ds) ∧ P (.d (.tup ds.reverse)) δ1) : W (revA f) δ P := by
  obtain ⟨a, δ1, e, x, e4, p⟩ := h
  exact ⟨_, _, by unfold revA; simp only [e, Option.bind_some, e4], p⟩
theorem w_revL (h : W f δ fun a δ1 => ∃ ds, rsl δ1 a = some (.lst ds) ∧ P (.d (.lst ds.reverse)) δ1) : W (revA f) δ P := by
  obtain ⟨a, δ1, e, x, e4, p⟩ := h
  exact ⟨_, _, by unfold revA; simp only [e, Option.bind_some, e4], p⟩
theorem w_chain {o o' : Op2} (h : W f1 δ fun a δ1 => W f2 δ1 fun b δ2 => ∃ x y k, rsl δ2 a = some x ∧ rsl δ2 b = some y ∧ o x y = some (.bl k) ∧ (k = true → W f3 δ2 fun c δ3 => ∃ y w r, rsl δ3 b = some y ∧ rsl δ3 c = some w ∧ o' y w = some r ∧ P (.d r) δ3) ∧ (k = false → P (.d (.bl false)) δ2)) : W (chainO o o' f1 f2 f3) δ P := by
  obtain ⟨a, δ1, e, b, δ2, e2, x, y, k, e3, e4, e5, h1, h2⟩ := h
  cases k with
  | true =>
    obtain ⟨c, δ3, e6, y2, w2, r, e7, e8, e9, p⟩ := h1 rfl
    exact ⟨_, _, by unfold chainO; simp only [e, Option.bind_some, e2, e3, e4, e5, e6, e7, e8, e9], p⟩
  | false => exact ⟨_, _, by unfold chainO; simp only [e, Option.bind_some, e2, e3, e4, e5], h2 rfl⟩
/-- a call -/
structure Wr (F : FD) (as : List Ar) (δ : DE) (P : Ar → DE → Prop) : Prop where
  run : (lentIx δ as).Nodup ∧ ∃ sls, giveSs δ as = some sls ∧ Wf F sls fun r o => ∃ bs, lent as sls o = some bs ∧ P (.d r) (wback bs δ)
theorem w_call {F : FD} (h : W fa δ fun as δ1 => Wr F as δ1 P) : W (callD F fa) δ P := by
  obtain ⟨as, δ1, e, ⟨nd, sls, e1, r, o, e2, bs, e3, p⟩⟩ := h
  exact ⟨_, _, by unfold callD runC; simp only [e, Option.bind_some]; rw [if_pos nd]; simp only [e1, Option.bind_some, e2, e3], p⟩
theorem w_callK {F : FD} {pm : List Nat} (h : W fa δ fun as δ1 => W fk δ1 fun bs δ2 => Wr F (permL pm (as ++ bs)) δ2 P) : W (callK F pm fa fk) δ P := by
  obtain ⟨as, δ1, e, bs, δ2, e0, ⟨nd, sls, e1, r, o, e2, bs', e3, p⟩⟩ := h
  exact ⟨_, _, by unfold callK runC; simp only [e, Option.bind_some, e0]; rw [if_pos nd]; simp only [e1, Option.bind_some, e2, e3], p⟩
theorem w_callT {F : FD} (h : W fn δ fun ds δ1 => Wf F [.bo ds] fun r _ => P (.d r) δ1) : W (callT F fn) δ P := by
  obtain ⟨ds, δ1, e, r, o, e2, p⟩ := h
  exact ⟨_, _, by unfold callT; simp only [e, Option.bind_some, e2], p⟩
structure WrN (F : FDN) (as : List Ar) (δ : DE) (P : List D → DE → Prop) : Prop where
  run : (lentIx δ as).Nodup ∧ ∃ sls, giveSs δ as = some sls ∧ Wf F sls fun r o => ∃ bs, lent as sls o = some bs ∧ P r (wback bs δ)
theorem w_callNew {F : FDN} (h : W fa δ fun as δ1 => WrN F as δ1 PN) : W (callN' F fa) δ PN := by
  obtain ⟨as, δ1, e, ⟨nd, sls, e1, r, o, e2, bs, e3, p⟩⟩ := h
  exact ⟨_, _, by unfold callN' runN; simp only [e, Option.bind_some]; rw [if_pos nd]; simp only [e1, Option.bind_some, e2, e3], p⟩
theorem w_mut {op : OpM} {r0 : List D} (e0 : own? i δ = some r0) (h : W fa δ fun as δ1 => ∃ ds δ2 s xs res xs', frzs as δ1 = some (ds, δ2) ∧ δ2[i]? = some (some s) ∧ cont s = some xs ∧ op xs ds = some (res, xs') ∧ P (.d res) (δ2.set i (some (recont xs' s)))) : W (mutO i fa op) δ P := by
  obtain ⟨as, δ1, e, ds, δ2, s, xs, res, xs', e1, e2, e3, e4, p⟩ := h
  exact ⟨_, _, by unfold mutO; simp only [e0, e, Option.bind_some, e1, e2, e3, e4], p⟩
/-- statements -/
theorem w_nx (h : PS .nx δ) : W nxS δ PS := ⟨_, _, rfl, h⟩
theorem w_bk (h : PS .bk δ) : W bkS δ PS := ⟨_, _, rfl, h⟩
theorem w_ct (h : PS .ct δ) : W ctS δ PS := ⟨_, _, rfl, h⟩
structure seqP (s2 : ES) (P : Fl → DE → Prop) (fl : Fl) (δ : DE) : Prop where
  run : match fl with | .nx => W s2 δ P | _ => P fl δ
theorem w_seq (h : W s1 δ (seqP s2 PS)) : W (seqS s1 s2) δ PS := by
  obtain ⟨fl, δ1, e, ⟨p⟩⟩ := h
  cases fl with
  | nx => obtain ⟨fl2, δ2, e2, p⟩ := p; exact ⟨_, _, by unfold seqS; simp only [e, Option.bind_some, e2], p⟩
  | rt d => exact ⟨_, _, by unfold seqS; simp only [e, Option.bind_some], p⟩
  | bk => exact ⟨_, _, by unfold seqS; simp only [e, Option.bind_some], p⟩
  | ct => exact ⟨_, _, by unfold seqS; simp only [e, Option.bind_some], p⟩
  | rn d => exact ⟨_, _, by unfold seqS; simp only [e, Option.bind_some], p⟩
theorem seqP_nx (h : W s2 δ PS) : seqP s2 PS .nx δ := ⟨h⟩
theorem seqP_rt (h : PS (.rt d) δ) : seqP s2 PS (.rt d) δ := ⟨h⟩
theorem seqP_rn (h : PS (.rn ds) δ) : seqP s2 PS (.rn ds) δ := ⟨h⟩
theorem seqP_bk (h : PS .bk δ) : seqP s2 PS .bk δ := ⟨h⟩
theorem seqP_ct (h : PS .ct δ) : seqP s2 PS .ct δ := ⟨h⟩
theorem w_ifS (h : W tt δ fun b δ1 => (b = true → W s1 δ1 PS) ∧ (b = false → W s2 δ1 PS)) : W (ifS tt s1 s2) δ PS := by
  obtain ⟨b, δ1, e, h1, h2⟩ := h
  cases b with
  | true => obtain ⟨c, δ2, e2, p⟩ := h1 rfl; exact ⟨_, _, by unfold ifS; simp only [e, Option.bind_some]; simp [e2], p⟩
  | false => obtain ⟨c, δ2, e2, p⟩ := h2 rfl; exact ⟨_, _, by unfold ifS; simp only [e, Option.bind_some]; rw [if_neg Bool.false_ne_true, e2], p⟩
theorem w_ret (h : W f δ fun a δ1 => ∃ d δ2, frz a δ1 = some (d, δ2) ∧ PS (.rt d) δ2) : W (retS f) δ PS := by
  obtain ⟨a, δ1, e, d, δ2, e2, p⟩ := h
  exact ⟨_, _, by unfold retS; simp only [e, Option.bind_some, e2], p⟩
theorem w_retNew (h : W fn δ fun ds δ1 => PS (.rn ds) δ1) : W (retN fn) δ PS := by
  obtain ⟨ds, δ1, e, p⟩ := h
  exact ⟨_, _, by unfold retN; simp only [e, Option.bind_some], p⟩
theorem w_ex (h : W f δ fun _ δ1 => PS .nx δ1) : W (exS f) δ PS := by
  obtain ⟨ds, δ1, e, p⟩ := h
  exact ⟨_, _, by unfold exS; simp only [e, Option.bind_some], p⟩
theorem w_asg (h : W f δ fun a δ1 => ∃ d δ2, frz a δ1 = some (d, δ2) ∧ Wg g d δ2 fun δ3 => PS .nx δ3) : W (asgS f g) δ PS := by
  obtain ⟨a, δ1, e, d, δ2, e2, δ3, e3, p⟩ := h
  exact ⟨_, _, by unfold asgS; simp only [e, Option.bind_some, e2, e3], p⟩
theorem wg_name (hb : notBo δ i = true) (h : PG (δ.set i (some (.fz d)))) : Wg (nameG i) d δ PG := ⟨_, by unfold nameG; rw [if_pos hb], h⟩
theorem w_set (h : W f δ fun a δ1 => ∃ d δ2, frz a δ1 = some (d, δ2) ∧ notBo δ2 i = true ∧ PS .nx (δ2.set i (some (.fz d)))) : W (setS i f) δ PS := by
  obtain ⟨a, δ1, e, d, δ2, e2, hb, p⟩ := h
  exact w_asg ⟨a, δ1, e, d, δ2, e2, wg_name hb p⟩
theorem w_own (h : W fn δ fun ds δ1 => notBo δ1 i = true ∧ PS .nx (δ1.set i (some (.ow ds)))) : W (ownS i fn) δ PS := by
  obtain ⟨ds, δ1, e, hb, p⟩ := h
  exact ⟨_, _, by unfold ownS; simp only [e, Option.bind_some]; rw [if_pos hb], p⟩
theorem w_par2 (h : W fa δ fun as δ1 => ∃ x y δ2, frzs as δ1 = some ([x, y], δ2) ∧ notBo δ2 i = true ∧ notBo (δ2.set i (some (.fz x))) j = true ∧ PS .nx ((δ2.set i (some (.fz x))).set j (some (.fz y)))) : W (par2S i j fa) δ PS := by
  obtain ⟨as, δ1, e, x, y, δ2, e2, h1, h2, p⟩ := h
  exact ⟨_, _, by unfold par2S; simp only [e, Option.bind_some, e2]; unfold nameG; rw [if_pos h1]; simp only [Option.bind_some]; rw [if_pos h2]; rfl, p⟩
theorem w_par3 (h : W fa δ fun as δ1 => ∃ x y z δ2, frzs as δ1 = some ([x, y, z], δ2) ∧ notBo δ2 i = true ∧ notBo (δ2.set i (some (.fz x))) j = true ∧ notBo ((δ2.set i (some (.fz x))).set j (some (.fz y))) l = true ∧ PS .nx (((δ2.set i (some (.fz x))).set j (some (.fz y))).set l (some (.fz z)))) : W (par3S i j l fa) δ PS := by
  obtain ⟨as, δ1, e, x, y, z, δ2, e2, h1, h2, h3, p⟩ := h
  exact ⟨_, _, by unfold par3S; simp only [e, Option.bind_some, e2]; unfold nameG; rw [if_pos h1]; simp only [Option.bind_some]; rw [if_pos h2]; simp only [Option.bind_some]; rw [if_pos h3]; rfl, p⟩
theorem wgs_nil (h : PG δ) : Wgs nilG [] δ PG := ⟨_, rfl, h⟩
theorem wgs_cons (h : Wg g d δ fun δ1 => Wgs gs ds δ1 PG) : Wgs (consG g gs) (d :: ds) δ PG := by
  obtain ⟨δ1, e, δ2, e2, p⟩ := h
  exact ⟨_, by unfold consG; simp only [e, Option.bind_some, e2], p⟩
theorem wg_tup (hl : ds.length = n) (h : Wgs gs ds δ PG) : Wg (tupG n gs) (.tup ds) δ PG := by
  obtain ⟨δ1, e, p⟩ := h
  exact ⟨_, by unfold tupG; simp only []; rw [if_pos hl, e], p⟩
theorem wg_pr (hl : ds.length = n) (h : Wgs gs ds δ PG) : Wg (tupG n gs) (.pr ds) δ PG := by
  obtain ⟨δ1, e, p⟩ := h
  exact ⟨_, by unfold tupG; simp only []; rw [if_pos hl, e], p⟩
theorem wg_sub {fi : EO} (h : W (vO j) δ fun _ _ => W fi δ fun a δ1 => ∃ k s xs m, a = .d (.int k) ∧ δ1[j]? = some (some s) ∧ cont s = some xs ∧ ixN xs.length k = some m ∧ PG (δ1.set j (some (recont (xs.set m d) s)))) : Wg (subG j fi) d δ PG := by
  obtain ⟨_, _, e, a, δ1, e1, k, s, xs, m, rfl, e2, e3, e4, p⟩ := h
  exact ⟨_, by unfold subG; simp only [e, e1, Option.bind_some, e2, e3, e4], p⟩
theorem w_for (h : W fi δ fun ds δ1 => W (loopD g s1 ds) δ1 PS) : W (forS fi g s1) δ PS := by
  obtain ⟨ds, δ1, e, fl, δ2, e2, p⟩ := h
  exact ⟨_, _, by unfold forS; simp only [e, Option.bind_some, e2], p⟩
theorem w_seqI (h : W f δ fun a δ1 => ∃ d δ2 ds, frz a δ1 = some (d, δ2) ∧ itemsD d = some ds ∧ PN ds δ2) : W (seqI f) δ PN := by
  obtain ⟨a, δ1, e, d, δ2, ds, e2, e3, p⟩ := h
  exact ⟨_, _, by unfold seqI; simp only [e, Option.bind_some, e2, e3], p⟩
theorem w_rng1 (h : W fa δ fun as δ1 => ∃ j : Int, as = [.d (.int j)] ∧ (-(2 ^ 62) ≤ j ∧ j < 2 ^ 62) ∧ PN (rngD 0 j.toNat) δ1) : W (rng1I fa) δ PN := by
  obtain ⟨as, δ1, e, j, rfl, hj, p⟩ := h
  exact ⟨_, _, by unfold rng1I; simp only [e, Option.bind_some]; rw [if_pos hj], p⟩
theorem w_rng2 (h : W fa δ fun as δ1 => ∃ i j : Int, as = [.d (.int i), .d (.int j)] ∧ (-(2 ^ 62) ≤ i ∧ i < 2 ^ 62 ∧ -(2 ^ 62) ≤ j ∧ j < 2 ^ 62) ∧ PN (rngD i (j - i).toNat) δ1) : W (rng2I fa) δ PN := by
  obtain ⟨as, δ1, e, i, j, rfl, hj, p⟩ := h
  exact ⟨_, _, by unfold rng2I; simp only [e, Option.bind_some]; rw [if_pos hj], p⟩
theorem w_enum (h : W fa δ fun as δ1 => ∃ d δ2 ds, frzs as δ1 = some ([d], δ2) ∧ itemsD d = some ds ∧ PN (enumD ds) δ2) : W (enumA fa) δ PN := by
  obtain ⟨a, δ1, e, d, δ2, ds, e2, e3, p⟩ := h
  exact ⟨_, _, by unfold enumA; simp only [e, Option.bind_some, e2, e3], p⟩
theorem w_lstRg {fr : ER} (h : W fr δ fun r δ1 => rgOk r.1 r.2 = true ∧ PN (rngD r.1 (r.2 - r.1).toNat) δ1) : W (lstRg fr) δ PN := by
  obtain ⟨r, δ1, e, hj, p⟩ := h
  exact ⟨_, _, by unfold lstRg; simp only [e, Option.bind_some]; rw [if_pos hj], p⟩
theorem w_rg1 {PR : Int × Int → DE → Prop} (h : W f δ fun a δ1 => ∃ i, a = .d (.int i) ∧ PR (0, i) δ1) : W (rg1 f) δ PR := by
  obtain ⟨a, δ1, e, x, rfl, p⟩ := h
  exact ⟨_, _, by unfold rg1; simp only [e, Option.bind_some], p⟩
theorem w_lc {te : EO} (h : W fi δ fun ds δ1 => okWipe δ1 vs = true ∧ W (lcLoop g tt te vs ds []) δ1 PN) : W (lcN fi g tt te vs) δ PN := by
  obtain ⟨ds, δ1, e, hw, r, δ2, e2, p⟩ := h
  exact ⟨_, _, by unfold lcN; simp only [e, Option.bind_some]; rw [if_pos hw, e2], p⟩
/-- a comprehension that changes nothing: the items by F -/
theorem lc_pure {te : EO} {F : D → Option D} : ∀ (ds acc : List D), acc.length + ds.length ≤ sizeLine →
    (∀ x ∈ ds, Wg g x (wipeD δ vs) fun δ1 => W tt δ1 fun b δ2 => (b = true → W te δ2 fun a δ3 => ∃ y δ4, frz a δ3 = some (y, δ4) ∧ F x = some y ∧ restD δ vs δ4 = δ) ∧ (b = false → F x = none ∧ restD δ vs δ2 = δ)) →
    lcLoop g tt te vs ds acc δ = some (acc ++ ds.filterMap F, δ)
  | [], acc, _, _ => by simp [lcLoop]
  | x :: ds, acc, hl, h => by
    obtain ⟨δ1, e1, b, δ2, e2, h1, h2⟩ := h x List.mem_cons_self
    have hl' : acc.length + ds.length + 1 ≤ sizeLine := by simpa [Nat.add_assoc] using hl
    unfold lcLoop
    simp only [e1, Option.bind_some, e2]
    cases b with
    | true =>
      obtain ⟨a, δ3, e3, y, δ4, e4, hF, hr⟩ := h1 rfl
      rw [if_pos rfl]
      simp only [e3, Option.bind_some, e4]
      rw [if_pos (by omega), hr, lc_pure ds (acc ++ [y]) (by simp; omega) fun z hz => h z (List.mem_cons_of_mem _ hz)]
      simp [List.filterMap_cons, hF]
    | false =>
      obtain ⟨hF, hr⟩ := h2 rfl
      rw [if_neg Bool.false_ne_true, hr, lc_pure ds acc (by omega) fun z hz => h z (List.mem_cons_of_mem _ hz)]
      simp [List.filterMap_cons, hF]
theorem w_lcp {te : EO} {F : D → Option D} (hl : ds.length ≤ sizeLine) (h : ∀ x ∈ ds, Wg g x (wipeD δ vs) fun δ1 => W tt δ1 fun b δ2 => (b = true → W te δ2 fun a δ3 => ∃ y δ4, frz a δ3 = some (y, δ4) ∧ F x = some y ∧ restD δ vs δ4 = δ) ∧ (b = false → F x = none ∧ restD δ vs δ2 = δ))
    (p : PN (ds.filterMap F) δ) : W (lcLoop g tt te vs ds []) δ PN := ⟨_, _, lc_pure ds [] (by simpa using hl) h, by simpa using p⟩
/-- a loop by an invariant, with leaving by return -/
theorem w_loop {Rt : D → DE → Prop} (I : Nat → DE → Prop) (h0 : I 0 δ) (hs : ∀ (k : Nat) (x : D) (δ1 : DE), ds[k]? = some x → I k δ1 → Wg g x δ1 fun δ2 => W s1 δ2 fun fl δ3 => (fl = .nx ∧ I (k + 1) δ3) ∨ (fl = .ct ∧ I (k + 1) δ3) ∨ ∃ r, fl = .rt r ∧ Rt r δ3)
    (p : ∀ δ1, I ds.length δ1 → PS .nx δ1) (pr : ∀ r δ1, Rt r δ1 → PS (.rt r) δ1) : W (loopD g s1 ds) δ PS := by
  have key : ∀ (ys : List D) (k : Nat) (δ1 : DE), ds.drop k = ys → k ≤ ds.length → I k δ1 → W (loopD g s1 ys) δ1 PS := by
    intro ys
    induction ys with
    | nil =>
      intro k δ1 e hk hI
      have : k = ds.length := by have := congrArg List.length e; simp at this; omega
      exact ⟨_, _, rfl, p _ (this ▸ hI)⟩
    | cons y ys ih =>
      intro k δ1 e hk hI
      have hlt : k < ds.length := by
        have := congrArg List.length e; simp at this; omega
      have hy : ds[k]? = some y := by
        have := congrArg (fun l => l[0]?) e
        simpa [List.getElem?_drop] using this
      have hd : ds.drop (k + 1) = ys := by
        rw [← List.tail_drop, e]; rfl
      obtain ⟨δ2, e2, fl, δ3, e3, h⟩ := hs k y δ1 hy hI
      rcases h with ⟨rfl, h⟩ | ⟨rfl, h⟩ | ⟨r, rfl, h⟩
      · obtain ⟨fl4, δ4, e4, p4⟩ := ih (k + 1) δ3 hd hlt h
        exact ⟨_, _, by unfold loopD; simp only [e2, Option.bind_some, e3, e4], p4⟩
      · obtain ⟨fl4, δ4, e4, p4⟩ := ih (k + 1) δ3 hd hlt h
        exact ⟨_, _, by unfold loopD; simp only [e2, Option.bind_some, e3, e4], p4⟩
      · exact ⟨_, _, by unfold loopD; simp only [e2, Option.bind_some, e3], pr r δ3 h⟩
  exact key ds 0 δ rfl (Nat.zero_le _) h0
/-- a while by an invariant and a measure -/
theorem w_while {I : Nat → DE → Prop} (m : Nat) (h0 : I m δ) (hs : ∀ (m : Nat) (δ1 : DE), I m δ1 → W tt δ1 fun b δ2 => (b = true → W s1 δ2 fun fl δ3 => fl = .nx ∧ ∃ m', m' < m ∧ I m' δ3) ∧ (b = false → PS .nx δ2)) : W (whileS tt s1) δ PS := by
  have key : ∀ (n m : Nat) (δ1 : DE), m < n → I m δ1 → ∃ fl δ', whileF tt s1 n δ1 = some (fl, δ') ∧ PS fl δ' := by
    intro n
    induction n with
    | zero => intro m δ1 h; omega
    | succ n ih =>
      intro m δ1 hm hI
      obtain ⟨b, δ2, e, h1, h2⟩ := hs m δ1 hI
      cases b with
      | false => exact ⟨_, _, by unfold whileF; simp only [e, Option.bind_some]; rw [if_neg Bool.false_ne_true], h2 rfl⟩
      | true =>
        obtain ⟨fl, δ3, e3, rfl, m', hm', hI'⟩ := h1 rfl
        obtain ⟨fl4, δ4, e4, p⟩ := ih m' δ3 (by omega) hI'
        exact ⟨_, _, by unfold whileF; simp [e, e3, e4], p⟩
  obtain ⟨fl, δ', e, p⟩ := key (m + 1) m δ (Nat.lt_succ_self _) h0
  exact ⟨fl, δ', whileS_of e, p⟩
/-- a def -/
theorem wf_fn {n np : Nat} {body : ES} {sls : List Sl} {PF : D → List Sl → Prop} (hl : sls.length = np) (ho : hasOw sls = false) (h : W body (sls.map some ++ List.replicate (n - np) none) fun fl δ' => ∃ r, (fl = .rt r ∨ fl = .nx ∧ r = .non ∨ ∃ ds, fl = .rn ds ∧ r = .lst ds) ∧ PF r (outS np δ')) : Wf (fnD n np body) sls PF := by
  obtain ⟨fl, δ', e, r, hr, p⟩ := h
  refine ⟨r, outS np δ', ?_, p⟩
  unfold fnD
  rw [if_pos ⟨hl, ho⟩, e]
  rcases hr with rfl | ⟨rfl, rfl⟩ | ⟨ds, rfl, rfl⟩ <;> rfl
theorem wf_fnN {n np : Nat} {body : ES} {sls : List Sl} {PF : List D → List Sl → Prop} (hl : sls.length = np) (ho : hasOw sls = false) (h : W body (sls.map some ++ List.replicate (n - np) none) fun fl δ' => ∃ ds, fl = .rn ds ∧ PF ds (outS np δ')) : Wf (fnN n np body) sls PF := by
  obtain ⟨fl, δ', e, r, rfl, p⟩ := h
  refine ⟨r, outS np δ', ?_, p⟩
  unfold fnN
  rw [if_pos ⟨hl, ho⟩, e]
  rfl
end

/-! ### bounds -/
def Bd (i : Int) (n : Nat) : Prop := i.natAbs < 2 ^ n
theorem bd_mono {i : Int} {m n : Nat} (h : Bd i m) (hn : m ≤ n) : Bd i n := Nat.lt_of_lt_of_le h (Nat.pow_le_pow_right (by decide) hn)
theorem bd_mul {i j : Int} {m n : Nat} (h : Bd i m) (k : Bd j n) : Bd (i * j) (m + n) := by
  unfold Bd at *
  rw [Int.natAbs_mul, Nat.pow_add]
  exact Nat.mul_lt_mul'' h k
theorem bd_add {i j : Int} {m n : Nat} (h : Bd i m) (k : Bd j n) : Bd (i + j) (m + n + 1) := by
  unfold Bd at *
  have h1 : i.natAbs < 2 ^ (m + n) := Nat.lt_of_lt_of_le h (Nat.pow_le_pow_right (by decide) (by omega))
  have h2 : j.natAbs < 2 ^ (m + n) := Nat.lt_of_lt_of_le k (Nat.pow_le_pow_right (by decide) (by omega))
  rw [Nat.pow_succ]
  omega
theorem bd_sub {i j : Int} {m n : Nat} (h : Bd i m) (k : Bd j n) : Bd (i - j) (m + n + 1) := by
  have : Bd (-j) n := by unfold Bd at *; rw [Int.natAbs_neg]; exact k
  rw [Int.sub_eq_add_neg]
  exact bd_add h this
theorem bd_of {i : Int} {b : Nat} (n : Nat) (h : -(b : Int) ≤ i ∧ i ≤ b) (hb : b < 2 ^ n) : Bd i n := by
  unfold Bd; omega
theorem mulOk_bd {i j : Int} {m n : Nat} (h : Bd i m) (k : Bd j n) (hs : m + n < 1000000) : mulOk i j = true := by
  unfold mulOk
  rw [decide_eq_true_eq]
  have l : ∀ {i : Int} {m : Nat}, Bd i m → i.natAbs.log2 ≤ m := fun {i m} h => by
    unfold Bd at h
    by_cases z : i.natAbs = 0
    · rw [z]; simp
    · exact Nat.le_of_lt ((Nat.log2_lt z).mpr h)
  have := l h
  have := l k
  omega
theorem divOk_bd {i j : Int} {n : Nat} (h : Bd j n) (h0 : j ≠ 0) (hs : n < 9000) : divOk i j = true := by
  unfold divOk
  simp only [Bool.and_eq_true, decide_eq_true_eq]
  refine ⟨h0, ?_⟩
  unfold Bd at h
  have z : j.natAbs ≠ 0 := by omega
  exact Nat.lt_of_lt_of_le ((Nat.log2_lt z).mpr h) (by omega)
theorem mul_ev {i j : Int} (h : mulOk i j = true) : mulD (.int i) (.int j) = some (.int (i * j)) := by unfold mulD; simp [h]
theorem fdiv_ev {i j : Int} (h : divOk i j = true) : fdivD (.int i) (.int j) = some (.int (i.fdiv j)) := by unfold fdivD iff2; simp [h]
theorem mod_ev {i j : Int} (h : j ≠ 0) : modD (.int i) (.int j) = some (.int (i.fmod j)) := by unfold modD iff2; simp [h]
end DL
namespace DL
open PySem PySem.Spec PyProof.Rows L2
section
variable {δ : DE} {f f1 f2 : EO} {P : Ar → DE → Prop}
theorem w_mul (h : W f1 δ fun a δ1 => W f2 δ1 fun b δ2 => ∃ i j, rsl δ2 a = some (.int i) ∧ rsl δ2 b = some (.int j) ∧ mulOk i j = true ∧ P (.d (.int (i * j))) δ2) : W (bin2 mulD f1 f2) δ P :=
  w_bin (h.imp fun a δ1 h => h.imp fun b δ2 ⟨i, j, e1, e2, e3, p⟩ => ⟨_, _, _, e1, e2, mul_ev e3, p⟩)
theorem w_fdiv (h : W f1 δ fun a δ1 => W f2 δ1 fun b δ2 => ∃ i j, rsl δ2 a = some (.int i) ∧ rsl δ2 b = some (.int j) ∧ divOk i j = true ∧ P (.d (.int (i.fdiv j))) δ2) : W (bin2 fdivD f1 f2) δ P :=
  w_bin (h.imp fun a δ1 h => h.imp fun b δ2 ⟨i, j, e1, e2, e3, p⟩ => ⟨_, _, _, e1, e2, fdiv_ev e3, p⟩)
theorem w_mod (h : W f1 δ fun a δ1 => W f2 δ1 fun b δ2 => ∃ i j, rsl δ2 a = some (.int i) ∧ rsl δ2 b = some (.int j) ∧ j ≠ 0 ∧ P (.d (.int (i.fmod j))) δ2) : W (bin2 modD f1 f2) δ P :=
  w_bin (h.imp fun a δ1 h => h.imp fun b δ2 ⟨i, j, e1, e2, e3, p⟩ => ⟨_, _, _, e1, e2, mod_ev e3, p⟩)
theorem w_pow (h : W f1 δ fun a δ1 => W f2 δ1 fun b δ2 => ∃ i j, rsl δ2 a = some (.int i) ∧ rsl δ2 b = some (.int j) ∧ (0 ≤ j ∧ j ≤ 1000000 ∧ i.natAbs < 2 ^ 64) ∧ P (.d (.int (i ^ j.toNat))) δ2) : W (bin2 powD f1 f2) δ P :=
  w_bin (h.imp fun a δ1 h => h.imp fun b δ2 ⟨i, j, e1, e2, e3, p⟩ => ⟨_, _, _, e1, e2, by unfold powD iff2; simp [e3], p⟩)
theorem w_divmod {fa : EA} (h : W fa δ fun as δ1 => ∃ i j, rsls δ1 as = some [.int i, .int j] ∧ (0 < j ∧ j < 1073741824) ∧ P (.d (.pr [.int (i / j), .int (i % j)])) δ1) : W (callN divmodD fa) δ P :=
  w_callN (h.imp fun a δ1 ⟨i, j, e1, e2, p⟩ => ⟨_, _, e1, by unfold divmodD int2cD; simp [e2], p⟩)
end
/-- the state of the law's own numbers; k draws more are within bounds -/
def GU (k : Nat) (u : List D) : Prop := ∃ a s n : Int, u = [.int a, .int s, .int n] ∧ 0 ≤ a ∧ 0 ≤ s ∧ s < 2147483587 ∧ 0 ≤ n ∧ n + k ≤ 1000000000000
theorem GU.mono {j k : Nat} {u : List D} (h : GU k u) (hj : j ≤ k) : GU j u := by
  obtain ⟨a, s, n, rfl, h0, h1, h2, h3, h4⟩ := h
  exact ⟨a, s, n, rfl, h0, h1, h2, h3, by omega⟩
end DL
namespace DL
open PySem PySem.Spec PyProof.Rows L2
theorem wback_nil (δ : DE) : wback [] δ = δ := by
  unfold wback
  refine List.ext_getElem? fun i => ?_
  rw [List.getElem?_map]
  by_cases h : i < δ.length
  · rw [List.getElem?_range h]; simp [List.lookup, List.getElem?_eq_getElem h]
  · rw [List.getElem?_eq_none (l := List.range δ.length) (by simpa using h), List.getElem?_eq_none (l := δ) (by simpa using h)]; rfl
def wset (i : Nat) (ds : List D) : DE → DE
  | [] => []
  | s :: δ => match i with | 0 => s.map (recont ds) :: δ | i + 1 => s :: wset i ds δ
theorem wset_get (i : Nat) (ds : List D) : ∀ (δ : DE) (j : Nat), (wset i ds δ)[j]? = if j = i then (δ[j]?).map (·.map (recont ds)) else δ[j]? := by
  intro δ
  induction δ generalizing i with
  | nil => intro j; simp [wset]
  | cons s δ ih =>
    intro j
    cases i with
    | zero => cases j <;> simp [wset]
    | succ i =>
      cases j with
      | zero => simp [wset]
      | succ j => simp [wset, ih]
theorem wback_one (i : Nat) (ds : List D) (δ : DE) : wback [(i, ds)] δ = wset i ds δ := by
  unfold wback
  refine List.ext_getElem? fun j => ?_
  rw [List.getElem?_map, wset_get]
  by_cases h : j < δ.length
  · rw [List.getElem?_range h]
    by_cases q : j = i
    · subst q; simp [List.lookup, List.getElem?_eq_getElem h]
    · have : (j == i) = false := by simpa using q
      simp [List.lookup, this, q, List.getElem?_eq_getElem h]
  · rw [List.getElem?_eq_none (l := List.range δ.length) (by simpa using h), List.getElem?_eq_none (l := δ) (by simpa using h)]; simp
theorem wset_z (ds : List D) (s : Option Sl) (δ : DE) : wset 0 ds (s :: δ) = s.map (recont ds) :: δ := rfl
theorem wset_s (i : Nat) (ds : List D) (s : Option Sl) (δ : DE) : wset (i + 1) ds (s :: δ) = s :: wset i ds δ := rfl
end DL
namespace DL
open PySem PySem.Spec PyProof.Rows L2
theorem bd_fmod {i c : Int} (n : Nat) (h0 : 0 < c) (h : c.natAbs < 2 ^ n) : Bd (i.fmod c) n := by
  have h1 := Int.fmod_nonneg_of_pos i h0
  have h2 := Int.fmod_lt_of_pos i h0
  unfold Bd
  omega
end DL
namespace DL
open PySem PySem.Spec PyProof.Rows L2

theorem len_ok {n : Nat} (h : n ≤ 1000) : n ≤ sizeLine := Nat.le_of_lt (small1000 h)
theorem lt_ev {i j : Int} : ltD (.int i) (.int j) = some (.bl (decide (i < j))) := rfl
theorem le_ev {i j : Int} : leD (.int i) (.int j) = some (.bl (decide (i ≤ j))) := rfl
theorem gt_ev {i j : Int} : gtD (.int i) (.int j) = some (.bl (decide (j < i))) := rfl
theorem ge_ev {i j : Int} : geD (.int i) (.int j) = some (.bl (decide (j ≤ i))) := rfl
theorem sub_ev {i j : Int} : subD (.int i) (.int j) = some (.int (i - j)) := rfl
theorem add_ev {i j : Int} : addD (.int i) (.int j) = some (.int (i + j)) := rfl
theorem min_ev {i j : Int} : minD [.int i, .int j] = some (.int (if j < i then j else i)) := rfl
theorem max_ev {i j : Int} : maxD [.int i, .int j] = some (.int (if j > i then j else i)) := rfl
theorem abs_ev {i : Int} : absD [.int i] = some (.int (if i < 0 then -i else i)) := rfl
/-! ### calls by their laws -/
section
variable {F : FD} {as : List Ar} {δ : DE} {sls o : List Sl} {P : Ar → DE → Prop} {r : D} {i : Nat}
theorem wrp (e2 : F sls = some (r, o)) (e : lentIx δ as = []) (e1 : giveSs δ as = some sls) (e3 : lent as sls o = some []) (p : P (.d r) δ) : Wr F as δ P :=
  ⟨⟨by rw [e]; exact List.nodup_nil, sls, e1, r, o, e2, [], e3, by rw [wback_nil]; exact p⟩⟩
theorem wrp1 {a b : Nat} (e2 : F sls = some (r, o)) (e : lentIx δ as = [a]) (e1 : giveSs δ as = some sls) {ds : List D} (e3 : lent as sls o = some [(i, ds)]) (p : P (.d r) (wset i ds δ)) : Wr F as δ P :=
  ⟨⟨by rw [e]; simp, sls, e1, r, o, e2, _, e3, by rw [wback_one]; exact p⟩⟩
theorem wru (h : Wf F sls fun r o => ∃ ds, lent as sls o = some [(i, ds)] ∧ P (.d r) (wset i ds δ)) (e : lentIx δ as = [i]) (e1 : giveSs δ as = some sls) : Wr F as δ P := by
  obtain ⟨r, o, e2, ds, e3, p⟩ := h
  exact ⟨⟨by rw [e]; simp, sls, e1, r, o, e2, _, e3, by rw [wback_one]; exact p⟩⟩
theorem wru2 {j : Nat} (h : Wf F sls fun r o => ∃ ds es, lent as sls o = some [(i, ds), (j, es)] ∧ P (.d r) (wback [(i, ds), (j, es)] δ)) (hij : i ≠ j) (e : lentIx δ as = [i, j]) (e1 : giveSs δ as = some sls) : Wr F as δ P := by
  obtain ⟨r, o, e2, ds, es, e3, p⟩ := h
  exact ⟨⟨by rw [e]; simp [hij], sls, e1, r, o, e2, _, e3, p⟩⟩
theorem wrn {F : FDN} {PN : List D → DE → Prop} (h : Wf F sls fun r o => lent as sls o = some [] ∧ PN r δ) (e : lentIx δ as = []) (e1 : giveSs δ as = some sls) : WrN F as δ PN := by
  obtain ⟨r, o, e2, e3, p⟩ := h
  exact ⟨⟨by rw [e]; simp, sls, e1, r, o, e2, _, e3, by rw [wback_nil]; exact p⟩⟩
end
/-- slots that may be written -/
def NB : Option Sl → Prop | some (.bo _) => False | _ => True
theorem notBo_at {δ : DE} {i : Nat} {s : Option Sl} (h : δ[i]? = some s) (hs : NB s) : notBo δ i = true := by
  unfold notBo
  rw [h]
  cases s with
  | none => rfl
  | some s => cases s with
    | bo d => exact hs.elim
    | fz d => rfl
    | ow d => rfl
theorem nb_none : NB none := trivial
theorem nb_fz {d : D} : NB (some (.fz d)) := trivial

/-! ### types -/
def isIntB : D → Bool | .int _ => true | .bl _ => true | _ => false
def isBoolB : D → Bool | .bl _ => true | _ => false
def isTupB : D → Bool | .tup _ => true | _ => false
def Pl (d : D) : Prop := (tyOfD d).isSome = true
theorem isi_int {d : D} (h : Pl d) : isiD [d, .ty "int"] = some (.bl (isIntB d)) := by
  cases d <;> first | (simp [isiD, tyOfD, isiT, isIntB]; done) | (simp [Pl, tyOfD] at h)
theorem isi_bool {d : D} (h : Pl d) : isiD [d, .ty "bool"] = some (.bl (isBoolB d)) := by
  cases d <;> first | (simp [isiD, tyOfD, isiT, isBoolB]; done) | (simp [Pl, tyOfD] at h)
theorem isi_tup {d : D} (h : Pl d) : isiD [d, .ty "tuple"] = some (.bl (isTupB d)) := by
  cases d <;> first | (simp [isiD, tyOfD, isiT, isTupB]; done) | (simp [Pl, tyOfD] at h)

/-! ### cuts -/
theorem cut_to (xs : List D) (k : Nat) : cutD xs none (some (k : Int)) = xs.take k := by
  unfold cutD
  rw [HT.sIx_none, HT.sIx_nat, List.drop_zero, Nat.sub_zero]
  by_cases h : k ≤ xs.length
  · rw [Nat.min_eq_left h]
  · rw [Nat.min_eq_right (by omega), List.take_of_length_le (Nat.le_refl _), List.take_of_length_le (by omega)]
theorem cut_from (xs : List D) (k : Nat) : cutD xs (some (k : Int)) none = xs.drop k := by
  unfold cutD
  rw [HT.sIx_none, HT.sIx_nat]
  by_cases h : k ≤ xs.length
  · rw [Nat.min_eq_left h, List.take_of_length_le (by rw [List.length_drop]; exact Nat.le_refl _)]
  · rw [Nat.min_eq_right (by omega), List.drop_eq_nil_of_le (Nat.le_refl _), List.drop_eq_nil_of_le (by omega), List.take_nil]

/-! ### fractions -/
def qD (p : Int × Int) : D := .tup [.int p.1, .int p.2]
def lt (p q : Int × Int) : Bool := decide (p.1 * q.2 < q.1 * p.2)
def redQ (a b : Int) : Int × Int := (a / (Int.gcd a b : Int), b / (Int.gcd a b : Int))
structure Sc (n : Nat) (p : Int × Int) : Prop where
  pos : 0 < p.2
  cop : Int.gcd p.1 p.2 = 1
  b1 : Bd p.1 n
  b2 : Bd p.2 n
theorem bd_div {a g : Int} {n : Nat} (h : Bd a n) (hg : 0 < g) : Bd (a / g) n := by
  unfold Bd at *
  have := Int.natAbs_ediv_le_natAbs a g
  omega
theorem sc_red {a b : Int} {n : Nat} (hb : 0 < b) (h1 : Bd a n) (h2 : Bd b n) : Sc n (redQ a b) := by
  have hg : 0 < Int.gcd a b := Int.gcd_pos_of_ne_zero_right _ (by omega)
  have hd : (Int.gcd a b : Int) ∣ b := Int.gcd_dvd_right ..
  refine ⟨?_, ?_, bd_div h1 (by omega), bd_div h2 (by omega)⟩
  · show 0 < b / (Int.gcd a b : Int)
    exact Int.ediv_pos_of_pos_of_dvd hb (by omega) hd
  · show Int.gcd (a / (Int.gcd a b : Int)) (b / (Int.gcd a b : Int)) = 1
    exact Int.gcd_ediv_gcd_ediv_gcd hg
/-- the reduced stands for the same number -/
theorem red_cross (a b : Int) : (redQ a b).1 * b = a * (redQ a b).2 := by
  show a / (Int.gcd a b : Int) * b = a * (b / (Int.gcd a b : Int))
  have h1 : (Int.gcd a b : Int) ∣ a := Int.gcd_dvd_left ..
  have h2 : (Int.gcd a b : Int) ∣ b := Int.gcd_dvd_right ..
  obtain ⟨x, hx⟩ := h1
  obtain ⟨y, hy⟩ := h2
  by_cases hz : (Int.gcd a b : Int) = 0
  · rw [hz] at hx hy ⊢
    simp at hx hy
    rw [hx, hy]; simp
  · have e1 : a / (Int.gcd a b : Int) = x := by
      have := Int.mul_ediv_cancel_left x hz
      rw [← hx] at this; exact this
    have e2 : b / (Int.gcd a b : Int) = y := by
      have := Int.mul_ediv_cancel_left y hz
      rw [← hy] at this; exact this
    rw [e1, e2]
    calc x * b = x * ((Int.gcd a b : Int) * y) := by rw [← hy]
      _ = ((Int.gcd a b : Int) * x) * y := by rw [← Int.mul_assoc, Int.mul_comm x]
      _ = a * y := by rw [← hx]

/-! ### texts -/
theorem shw_of {d : D} (h : shp 60 d = true) (h1 : (toPy d).showable = true) (h2 : (toPy d).leavesShort 13 = true) (hw : (toPy d).weight ≤ 2 ^ 20) : shwOk d = true := by
  unfold shwOk
  rw [h, h1, decide_eq_true (PyData.shown_fits (B := 13) (by decide) (by decide) h2 hw)]
  rfl
def It (i : Int) : Prop := -999999999999 ≤ i ∧ i ≤ 999999999999
theorem it_log {i : Int} (h : It i) : i.natAbs.log2 < 40 := by
  by_cases z : i.natAbs = 0
  · rw [z]; decide
  · have h2 : i.natAbs < 2 ^ 40 := by unfold It at h; omega
    exact (Nat.log2_lt z).mpr h2
theorem int_small {i : Int} (h : It i) : (toPy (.int i)).showable = true ∧ (toPy (.int i)).leavesShort 13 = true ∧ (toPy (.int i)).weight ≤ 41 := by
  have hl := it_log h
  refine ⟨?_, ?_, ?_⟩
  · simp only [toPy, PyData.showable, decide_eq_true_eq]; omega
  · simp only [toPy, PyData.leavesShort, decide_eq_true_eq]; exact PyData.shown_int_le2 h.1 h.2
  · simp only [toPy, PyData.weight]; split <;> omega
theorem q_small {p : Int × Int} (h1 : It p.1) (h2 : It p.2) : shp 1 (qD p) = true ∧ (toPy (qD p)).showable = true ∧ (toPy (qD p)).leavesShort 13 = true ∧ (toPy (qD p)).weight ≤ 84 := by
  obtain ⟨a1, a2, a3⟩ := int_small h1
  obtain ⟨b1, b2, b3⟩ := int_small h2
  refine ⟨by simp [qD, shp], ?_, ?_, ?_⟩
  · simp only [qD, toPy, toPyAll, PyData.showable, PyData.showableAll, Bool.and_true]
    simp only [toPy, PyData.showable] at a1 b1
    rw [a1, b1]; rfl
  · simp only [qD, toPy, toPyAll, PyData.leavesShort, PyData.leavesShortAll, Bool.and_true]
    simp only [toPy, PyData.leavesShort] at a2 b2
    rw [a2, b2]; rfl
  · simp only [qD, toPy, toPyAll, PyData.weight, PyData.weightAll]
    simp only [toPy, PyData.weight] at a3 b3
    omega
theorem list_small {W : Nat} {ds : List D} (h : ∀ d ∈ ds, shp 59 d = true ∧ (toPy d).showable = true ∧ (toPy d).leavesShort 13 = true ∧ (toPy d).weight ≤ W) (hw : ds.length * (W + 1) ≤ 2 ^ 20) : shwOk (.lst ds) = true := by
  have key : ∀ l : List D, (∀ d ∈ l, shp 59 d = true ∧ (toPy d).showable = true ∧ (toPy d).leavesShort 13 = true ∧ (toPy d).weight ≤ W) → PyData.showableAll (toPyAll l) = true ∧ PyData.leavesShortAll 13 (toPyAll l) = true ∧ PyData.weightAll (toPyAll l) ≤ l.length * (W + 1) := by
    intro l
    induction l with
    | nil => intro _; simp [toPyAll, PyData.showableAll, PyData.leavesShortAll, PyData.weightAll]
    | cons x l ih =>
      intro h
      obtain ⟨i1, i2, i3⟩ := ih fun d hd => h d (List.mem_cons_of_mem _ hd)
      obtain ⟨h1, h2, h3, h4⟩ := h x List.mem_cons_self
      refine ⟨?_, ?_, ?_⟩
      · simp only [toPyAll, PyData.showableAll, h2, i1, Bool.and_true]
      · simp only [toPyAll, PyData.leavesShortAll, h3, i2, Bool.and_true]
      · simp only [toPyAll, PyData.weightAll, List.length_cons, Nat.add_mul]; omega
  obtain ⟨k1, k2, k3⟩ := key ds h
  refine shw_of ?_ ?_ ?_ ?_
  · simp only [shp, List.all_eq_true]; exact fun d hd => (h d hd).1
  · simpa only [toPy, PyData.showable] using k1
  · simpa only [toPy, PyData.leavesShort] using k2
  · simp only [toPy, PyData.weight]; omega
theorem shp_mono {d : D} {n m : Nat} (h : shp n d = true) (hn : n ≤ m) : shp m d = true := shp_up n m d hn h
theorem pairs_shw {ps : List (Int × Int)} (h : ∀ p ∈ ps, It p.1 ∧ It p.2) (hl : ps.length ≤ 1000) : shwOk (.lst (ps.map qD)) = true := by
  refine list_small (W := 84) (fun d hd => ?_) (by rw [List.length_map]; omega)
  obtain ⟨p, hp, rfl⟩ := List.mem_map.mp hd
  obtain ⟨a, b, c, e⟩ := q_small (h p hp).1 (h p hp).2
  exact ⟨shp_mono a (by decide), b, c, e⟩
theorem ne_same (s : Str) : neD (.str s) (.str s) = some (.bl false) := by simp [neD, eqC]
theorem eq_same (s : Str) : eqD (.str s) (.str s) = some (.bl true) := by simp [eqD, eqC]
theorem repr_ev {x : D} (h : shwOk x = true) : reprD [x] = some (.str (toPy x).shown) := by simp [reprD, h]
end DL
namespace DL
open PySem PySem.Spec PyProof.Rows L2
theorem cut_from1 (xs : List D) (k : Nat) : cutD xs (some ((k : Int) + 1)) none = xs.drop (k + 1) := cut_from xs (k + 1)
theorem add_tup {xs ys : List D} (h : xs.length + ys.length ≤ sizeLine) : addD (.tup xs) (.tup ys) = some (.tup (xs ++ ys)) := by
  show (if xs.length + ys.length ≤ sizeLine then some (D.tup (xs ++ ys)) else none) = _
  rw [if_pos h]
theorem add_lst {xs ys : List D} (h : xs.length + ys.length ≤ sizeLine) : addD (.lst xs) (.lst ys) = some (.lst (xs ++ ys)) := by
  show (if xs.length + ys.length ≤ sizeLine then some (D.lst (xs ++ ys)) else none) = _
  rw [if_pos h]
def qOf : D → Int × Int | .tup [.int a, .int b] => (a, b) | _ => (0, 0)
theorem qOf_qD (p : Int × Int) : qOf (qD p) = p := rfl
theorem filterMap_qD {β : Type} (f : Int × Int → Option β) (ps : List (Int × Int)) : (ps.map qD).filterMap (fun d => f (qOf d)) = ps.filterMap f := by
  rw [List.filterMap_map]
  rfl
theorem fm_count {α β : Type} (c : α → Bool) (y : α → β) (l : List α) : (l.filterMap fun x => if c x = true then some (y x) else none).length = l.countP c := by
  induction l with
  | nil => rfl
  | cons x l ih =>
    rw [List.filterMap_cons, List.countP_cons]
    by_cases h : c x = true
    · simp [h, ih]
    · simp [h, ih]
theorem fm_filter {α β : Type} (c : α → Bool) (y : α → β) (l : List α) : (l.filterMap fun x => if c x = true then some (y x) else none) = (l.filter c).map y := by
  induction l with
  | nil => rfl
  | cons x l ih =>
    rw [List.filterMap_cons, List.filter_cons]
    by_cases h : c x = true
    · simp [h, ih]
    · simp [h, ih]
theorem fm_map {α β : Type} (y : α → β) (l : List α) : (l.filterMap fun x => some (y x)) = l.map y := by
  induction l with
  | nil => rfl
  | cons x l ih => rw [List.filterMap_cons, List.map_cons, ih]
def below (ps : List (Int × Int)) (s : Int × Int) : Nat := ps.countP (lt · s)
theorem lt_irrefl (s : Int × Int) : lt s s = false := by simp [lt]
theorem below_without {ps : List (Int × Int)} {k : Nat} {s : Int × Int} (h : ps[k]? = some s) : (ps.take k ++ ps.drop (k + 1)).countP (lt · s) = below ps s := by
  unfold below
  obtain ⟨hk, e⟩ := List.getElem?_eq_some_iff.mp h
  have : ps = ps.take k ++ s :: ps.drop (k + 1) := by
    rw [← e, List.getElem_cons_drop hk, List.take_append_drop]
  conv => rhs; rw [this]
  rw [List.countP_append, List.countP_append, List.countP_cons, lt_irrefl]
  simp
end DL
namespace DL
open PySem PySem.Spec PyProof.Rows L2
theorem wback_two {i j : Nat} (hij : i ≠ j) (ds es : List D) (δ : DE) : wback [(i, ds), (j, es)] δ = wset j es (wset i ds δ) := by
  unfold wback
  refine List.ext_getElem? fun k => ?_
  rw [List.getElem?_map, wset_get, wset_get]
  by_cases h : k < δ.length
  · rw [List.getElem?_range h]
    by_cases q : k = i
    · subst q; simp [List.lookup, List.getElem?_eq_getElem h, hij]
    · have q' : (k == i) = false := by simpa using q
      by_cases z : k = j
      · subst z; simp [List.lookup, List.getElem?_eq_getElem h, q, q']
      · have z' : (k == j) = false := by simpa using z
        simp [List.lookup, q', z', q, z, List.getElem?_eq_getElem h]
  · rw [List.getElem?_eq_none (l := List.range δ.length) (by simpa using h), List.getElem?_eq_none (l := δ) (by simpa using h)]; simp
theorem wru2' {F : FD} {as : List Ar} {δ : DE} {sls : List Sl} {P : Ar → DE → Prop} {i j : Nat} (h : Wf F sls fun r o => ∃ ds es, lent as sls o = some [(i, ds), (j, es)] ∧ P (.d r) (wset j es (wset i ds δ))) (hij : i ≠ j) (e : lentIx δ as = [i, j]) (e1 : giveSs δ as = some sls) : Wr F as δ P :=
  wru2 (h.imp fun r o ⟨ds, es, e, p⟩ => ⟨ds, es, e, by rw [wback_two hij]; exact p⟩) hij e e1
theorem app_ev {xs : List D} {d : D} (h : xs.length < sizeLine) : appM xs [d] = some (.non, xs ++ [d]) := by
  show (if xs.length < sizeLine then some (D.non, xs ++ [d]) else none) = _
  rw [if_pos h]
theorem shp_q (n : Nat) (p : Int × Int) : shp (n + 1) (qD p) = true := by simp [qD, shp]
theorem shp_qs (n : Nat) (ps : List (Int × Int)) : shp (n + 2) (.lst (ps.map qD)) = true := by
  simp only [shp, List.all_eq_true]
  intro d hd
  obtain ⟨p, _, rfl⟩ := List.mem_map.mp hd
  exact shp_q n p
theorem ne_nil {ds : List D} (h : shp 60 (.lst ds) = true) : neD (.lst ds) (.lst []) = some (.bl (!ds.isEmpty)) := by
  have e : eqvD (.lst ds) (.lst []) = ds.isEmpty := by cases ds <;> simp [eqvD, eqvAllD]
  have e2 : shp 60 (.lst []) = true := by simp [shp]
  simp [neD, eqC, h, e2, e]
theorem eq_nil {ds : List D} (h : shp 60 (.lst ds) = true) : eqD (.lst ds) (.lst []) = some (.bl (ds.isEmpty)) := by
  have e : eqvD (.lst ds) (.lst []) = ds.isEmpty := by cases ds <;> simp [eqvD, eqvAllD]
  have e2 : shp 60 (.lst []) = true := by simp [shp]
  simp [eqD, eqC, h, e2, e]
theorem eq_int {i j : Int} : eqD (.int i) (.int j) = some (.bl (decide (i = j))) := by
  have e2 : ∀ k, shp 60 (.int k) = true := fun k => by simp [shp]
  simp [eqD, eqC, e2, eqvD]
  by_cases h : i = j <;> simp [h]
theorem ne_int {i j : Int} : neD (.int i) (.int j) = some (.bl (!decide (i = j))) := by
  have e2 : ∀ k, shp 60 (.int k) = true := fun k => by simp [shp]
  simp [neD, eqC, e2, eqvD]
  by_cases h : i = j <;> simp [h]
theorem rng_mem {lo : Int} {n : Nat} {x : D} (h : x ∈ rngD lo n) : ∃ i : Nat, i < n ∧ x = .int (lo + (i : Int)) := by
  unfold rngD at h
  obtain ⟨i, hi, rfl⟩ := List.mem_map.mp h
  exact ⟨i, List.mem_range.mp hi, rfl⟩
theorem rng_len (lo : Int) (n : Nat) : (rngD lo n).length = n := by simp [rngD]
theorem rng_get {lo : Int} {n k : Nat} {x : D} (h : (rngD lo n)[k]? = some x) : k < n ∧ x = .int (lo + (k : Int)) := by
  unfold rngD at h
  rw [List.getElem?_map] at h
  have hk : k < n := by
    by_cases q : k < n
    · exact q
    · rw [List.getElem?_eq_none (by simpa using q)] at h; cases h
  rw [List.getElem?_range hk] at h
  cases h
  exact ⟨hk, rfl⟩
end DL
namespace DL
open PySem PySem.Spec PyProof.Rows L2
theorem w_mulL {δ : DE} {fn : EN} {f2 : EO} {P : Ar → DE → Prop} (h : W fn δ fun xs δ1 => W f2 δ1 fun b δ2 => ∃ k : Int, rsl δ2 b = some (.int k) ∧ (-(2 ^ 63) ≤ k ∧ k < 2 ^ 63 ∧ xs.length * k.toNat ≤ sizeLine) ∧ P (.d (.lst (List.replicate k.toNat xs).flatten)) δ2) : W (bin2 mulD (nO fn) f2) δ P :=
  w_bin (w_nO (h.imp fun xs δ1 h => h.imp fun b δ2 ⟨k, e, hk, p⟩ => ⟨_, _, _, rfl, e, by show (if _ then _ else _) = _; rw [if_pos hk], p⟩))
theorem rng_mem0 {n : Nat} {x : D} (h : x ∈ rngD 0 n) : ∃ i : Nat, i < n ∧ x = .int (i : Int) := by
  obtain ⟨i, hi, rfl⟩ := rng_mem h
  exact ⟨i, hi, by rw [Int.zero_add]⟩
def intOf : D → Int | .int i => i | _ => 0
theorem fm_rng {β : Type} (f : Int → Option β) (lo : Int) (n : Nat) : (rngD lo n).filterMap (fun d => f (intOf d)) = (List.range n).filterMap fun (i : Nat) => f (lo + (i : Int)) := by
  unfold rngD
  rw [List.filterMap_map]
  rfl
theorem range_get {α : Type} (xs : List α) : (List.range xs.length).filterMap (fun i => xs[i]?) = xs := by
  have := PySem.W.krv_all xs.toArray
  simpa using this
theorem range_map {α β : Type} (xs : List α) (g : α → β) : (List.range xs.length).filterMap (fun i => (xs[i]?).map g) = xs.map g := by
  conv => rhs; rw [← range_get xs]
  rw [List.map_filterMap]
theorem fm_at {α : Type} (xs : List α) (g : α → D) : (rngD 0 xs.length).filterMap (fun d => (xs[(intOf d).toNat]?).map g) = xs.map g := by
  rw [fm_rng (fun i => (xs[i.toNat]?).map g)]
  rw [← range_map xs g]
  refine fm_congr fun i _ => ?_
  rw [Int.zero_add, Int.toNat_natCast]
theorem sorted_ev (ns : List Int) : sortedD [.lst (ns.map D.int)] = some (.lst ((sortI ns).map D.int)) := by
  unfold sortedD
  simp [intsD_map]
theorem shp_ints (ns : List Int) : shp 60 (.lst (ns.map D.int)) = true := by
  simp only [shp, List.all_eq_true]
  intro d hd
  obtain ⟨i, _, rfl⟩ := List.mem_map.mp hd
  simp [shp]
theorem eqv_ints : ∀ (a b : List Int), eqvAllD (a.map D.int) (b.map D.int) = decide (a = b)
  | [], [] => by simp [eqvAllD]
  | [], _ :: _ => by simp [eqvAllD]
  | _ :: _, [] => by simp [eqvAllD]
  | x :: a, y :: b => by
    simp only [List.map_cons, eqvAllD, eqvD, eqv_ints a b]
    by_cases h : x = y
    · subst h; simp
    · simp [h]
theorem eq_ints (a b : List Int) : eqD (.lst (a.map D.int)) (.lst (b.map D.int)) = some (.bl (decide (a = b))) := by
  simp only [eqD, eqC, shp_ints, Bool.and_self, if_true, eqvD, eqv_ints, Option.bind_some]
theorem ne_self {d : D} (h : shp 60 d = true) (hs : ∀ s, d ≠ .str s) : neD d d = some (.bl false) := by
  have e : eqC d d = some true := by
    have r := eqvD_refl 60 d h
    cases d with
    | str s => exact absurd rfl (hs s)
    | _ => simp only [eqC, h, Bool.and_self, if_true, r]
  unfold neD
  rw [e]; rfl
theorem rngD_ints (lo : Int) (n : Nat) : rngD lo n = ((List.range n).map fun (i : Nat) => lo + (i : Int)).map D.int := by
  unfold rngD
  rw [List.map_map]; rfl
end DL
namespace DL
theorem and_nb {δ : DE} {i : Nat} {P : Prop} (h : notBo δ i = true) (k : P) : notBo δ i = true ∧ P := ⟨h, k⟩
theorem and_ow {δ : DE} {vs : List Nat} {P : Prop} (h : okWipe δ vs = true) (k : P) : okWipe δ vs = true ∧ P := ⟨h, k⟩
theorem and_rg {a b : Int} {P : Prop} (h : rgOk a b = true) (k : P) : rgOk a b = true ∧ P := ⟨h, k⟩
end DL
namespace DL
theorem eq_ints_rng (a : List Int) (lo : Int) (n : Nat) : eqD (.lst (a.map D.int)) (.lst (rngD lo n)) = some (.bl (decide (a = (List.range n).map fun (i : Nat) => lo + (i : Int)))) := by
  rw [rngD_ints]; exact eq_ints _ _
end DL
namespace DL
open PySem PySem.Spec PyProof.Rows L2

/-! ### a module's tuple of ints -/
theorem dv_const {K : PySem.W.Frag} {a : Addr} {us : Array Value} {n : Nat} {sl : Array (Option Value)} {ns : List Int} (hl : K.lookup a = some ⟨.type "tuple", none, .seq us n, sl⟩) (hv : Vals (ns.map V.int) us.toList) (hz : us.size ≤ sizeLine) (H : Hp) : Dv K H (.ref a) (.tup (ns.map D.int)) :=
  .tup (.inr ⟨_, us, n, hl, rfl, rfl, hz, hv⟩) (.inr ⟨_, hl, rfl⟩) (DvAll.of_ints ns)
theorem do_globQ {X : Cx} {G : Gm} {x : Str} {pos : Pos} {a : Addr} {i j : Int} {ti tj : Tok} {n : Nat} {sl : Array (Option Value)} (hg : Gl X x) (hm : X.mg x = some (.ref a)) (hl : X.K.lookup a = some ⟨.type "tuple", none, .seq #[.int i ti, .int j tj] n, sl⟩) (hd : (x == ("__debug__" : Str)) = false := by decide) :
    PE X (.Name x pos) (tO X.K G (cO (.tup [.int i, .int j]))) :=
  do_glob (v := .ref a) hg hm rfl (fun H => dv_const (ns := [i, j]) hl (.cons ⟨_, rfl⟩ (.cons ⟨_, rfl⟩ .nil)) (len_ok (by show 2 ≤ 1000; decide)) H) hd
end DL
namespace DL
open PySem PySem.Spec PyProof.Rows L2

/-! ### a pushed list is taken by a slot -/
section
variable {K : PySem.W.Frag} {G : Gm} {ms : List Addr} {H : Hp} {σ : L2.St} {δ : DE} {p : Addr} {xs : List V} {ds : List D}
theorem Rp.take {i : Nat} (R : Rp K (G.push p xs) ms H σ δ) (hnb : ∀ j, G.bor j ≠ some p) (h0 : p ∉ G.ms0) (hn : G.H0 p = none) (hi : notBo δ i = true) (hd : DvAll K (mask H ms) xs ds) :
    Rp K G ms H (σ.set i (some (.ref p))) (δ.set i (some (.ow ds))) := by
  have hl := notBo_lt hi
  have pm : p ∈ ms := R.ms0 p List.mem_cons_self
  have hp : H p = some (.lst xs) := R.keep p _ (by show upd G.H0 p (.lst xs) p = some _; rw [upd_same]) (fun j e => hnb j e)
  have hself : (σ.set i (some (.ref p)))[i]? = some (some (.ref p)) := set_self (by rw [R.len]; exact hl)
  have other : ∀ j ds', j ≠ i → δ[j]? = some (some (.ow ds')) → (σ.set i (some (.ref p)))[j]? = some (some (.ref p)) → False := fun j ds' hj e e' => by
    rw [List.getElem?_set_ne (Ne.symm hj)] at e'
    obtain ⟨q, us, a, b, c, _⟩ := R.slot j _ e
    rw [e'] at a; cases a
    exact c List.mem_cons_self
  refine ⟨by simp [R.len], fun a ha => R.ms0 a (List.mem_cons_of_mem _ ha), fun a ha => ?_, R.here, fun a o e hb => ?_, fun j a e => ?_, R.bori, fun j s e => ?_, fun j k es fs q e1 e2 e3 e4 => ?_, bod_set R.bod (notBo_ne hi)⟩
  · by_cases q : a = p
    · subst q; exact .inr hn
    · rcases R.new a ha with z | z
      · exact .inl ((List.mem_cons.mp z).resolve_left q)
      · refine .inr ?_
        have z' : upd G.H0 p (.lst xs) a = none := z
        rw [upd_ne q] at z'; exact z'
  · by_cases q : a = p
    · subst q; rw [hn] at e; cases e
    · refine R.keep a o ?_ hb
      show upd G.H0 p (.lst xs) a = some o
      rw [upd_ne q]; exact e
  · exact (List.mem_cons.mp (R.borm j a e)).resolve_left fun z => hnb j (by rw [← z]; exact e)
  · rcases get_set e with ⟨ei, ev⟩ | ⟨hj, e⟩
    · subst ei; cases ev
      exact ⟨p, xs, hself, pm, h0, hp, hd⟩
    · refine SlP.keepS ?_ hj
      have q := R.slot j s e
      cases s with
      | fz d => exact q
      | ow es =>
        obtain ⟨r, us, a, b, c, d, f⟩ := q
        exact ⟨r, us, a, b, fun z => c (List.mem_cons_of_mem _ z), d, f⟩
      | bo es => exact q
  · rcases get_set e1 with ⟨ei, ev⟩ | ⟨hj, f1⟩
    · rcases get_set e2 with ⟨ei2, ev2⟩ | ⟨hk, f2⟩
      · rw [ei, ei2]
      · have : q = p := by rw [ei, hself] at e3; cases e3; rfl
        subst this
        exact (other k fs hk f2 e4).elim
    · rcases get_set e2 with ⟨ei2, ev2⟩ | ⟨hk, f2⟩
      · have : q = p := by rw [ei2, hself] at e4; cases e4; rfl
        subst this
        exact (other j es hj f1 e3).elim
      · rw [List.getElem?_set_ne (Ne.symm hj)] at e3
        rw [List.getElem?_set_ne (Ne.symm hk)] at e4
        exact R.inj j k es fs q f1 f2 e3 e4
end
end DL
namespace DL
open PySem PySem.Spec PyProof.Rows L2

/-! ### several names at once, new lists among them -/
inductive MI where
  | a (x : Ar) | n (ds : List D)
abbrev EM := DE → Option (List MI × DE)
abbrev Pend := List (Addr × List V)
def pushes (G : Gm) : Pend → Gm
  | [] => G
  | p :: ps => pushes (G.push p.1 p.2) ps
def PFresh (G : Gm) : Pend → Prop
  | [] => True
  | p :: ps => (∀ j, G.bor j ≠ some p.1) ∧ p.1 ∉ G.ms0 ∧ G.H0 p.1 = none ∧ PFresh (G.push p.1 p.2) ps
inductive RMs (K : PySem.W.Frag) (ms : List Addr) (H : Hp) (σ : L2.St) : List MI → List V → Pend → Prop
  | nil : RMs K ms H σ [] [] []
  | a {x : Ar} {v : V} {is : List MI} {vs : List V} {ps : Pend} : RA K ms H σ x v → RMs K ms H σ is vs ps → RMs K ms H σ (.a x :: is) (v :: vs) ps
  | n {ds : List D} {p : Addr} {xs : List V} {is : List MI} {vs : List V} {ps : Pend} : DvAll K (mask H ms) xs ds → RMs K ms H σ is vs ps → RMs K ms H σ (.n ds :: is) (.ref p :: vs) ((p, xs) :: ps)
theorem RMs.ext {K : PySem.W.Frag} {ms ms' : List Addr} {H H' : Hp} {σ : L2.St} (e : Ext ms H ms' H') : ∀ {is : List MI} {vs : List V} {ps : Pend}, RMs K ms H σ is vs ps → RMs K ms' H' σ is vs ps
  | _, _, _, .nil => .nil
  | _, _, _, .a h t => .a (h.ext e) (RMs.ext e t)
  | _, _, _, .n h t => .n (h.mono e.same) (RMs.ext e t)
def tM (K : PySem.W.Frag) (G : Gm) (f : EM) : TA := fun σ H Q => ∃ ms δ is δ', Rp K G ms H σ δ ∧ f δ = some (is, δ') ∧ ∀ vs ps H' ms', Rp K (pushes G ps) ms' H' σ δ' → PFresh G ps → Ext ms H ms' H' → RMs K ms' H' σ is vs ps → Q vs H'
structure DM (X : Cx) (es : List Expr) (f : EM) : Prop where
  run : ∀ G, PA X es (tM X.K G f)
def nilM : EM := fun δ => some ([], δ)
def consMa (f : EO) (g : EM) : EM := fun δ => (f δ).bind fun (a, δ1) => (g δ1).bind fun (as, δ2) => some (.a a :: as, δ2)
def consMn (f : EN) (g : EM) : EM := fun δ => (f δ).bind fun (ds, δ1) => (g δ1).bind fun (as, δ2) => some (.n ds :: as, δ2)
section
variable {X : Cx} {G : Gm} {e : Expr} {es : List Expr} {f : EO} {fn : EN} {fm : EM} {pos : Pos}
theorem dm_nil : DM X [] nilM := ⟨fun G => PA.imp pa_nil fun σ H Q q => by
  obtain ⟨ms, δ, x, δ', R, e, k⟩ := q
  cases e
  exact k [] [] H ms R trivial .refl .nil⟩
theorem dm_a (ha : ∀ G, PE X e (tO X.K G f)) (hr : DM X es fm) (hs : starEach (e :: es) X.env = (false, eval e X.env) :: starEach es X.env := by rfl) : DM X (e :: es) (consMa f fm) := ⟨fun G =>
  PA.imp (pa_cons (ha G) (hr.run G) hs) fun σ H Q q => by
  obtain ⟨ms, δ, x, δ', R, e, k⟩ := q
  unfold consMa at e
  cases q : f δ with
  | none => rw [q] at e; cases e
  | some r =>
    obtain ⟨a, δ1⟩ := r
    cases q2 : fm δ1 with
    | none => simp only [q, Option.bind_some, q2] at e; cases e
    | some r2 =>
      obtain ⟨as, δ2⟩ := r2
      simp only [q, Option.bind_some, q2] at e; cases e
      refine ⟨ms, δ, a, δ1, R, q, fun v H' ms' R1 e1 h => ?_⟩
      refine ⟨ms', δ1, as, _, R1, q2, fun vs ps H2 ms2 R2 pf e2 hs => ?_⟩
      exact k _ ps H2 ms2 R2 pf (e1.trans e2) (.a (h.ext e2) hs)⟩
theorem dm_n (ha : ∀ G, PE X e (tN X.K G fn)) (hr : DM X es fm) (hs : starEach (e :: es) X.env = (false, eval e X.env) :: starEach es X.env := by rfl) : DM X (e :: es) (consMn fn fm) := ⟨fun G =>
  PA.imp (pa_cons (ha G) (t := fun σ H Q => ∃ G, tM X.K G fm σ H Q) ⟨fun pos pins s σ H Q I ⟨G, q⟩ => (hr.run G).run pos pins s σ H Q I q⟩ hs) fun σ H Q q => by
  obtain ⟨ms, δ, x, δ', R, e, k⟩ := q
  unfold consMn at e
  cases q : fn δ with
  | none => rw [q] at e; cases e
  | some r =>
    obtain ⟨ds, δ1⟩ := r
    cases q2 : fm δ1 with
    | none => simp only [q, Option.bind_some, q2] at e; cases e
    | some r2 =>
      obtain ⟨as, δ2⟩ := r2
      simp only [q, Option.bind_some, q2] at e; cases e
      refine ⟨ms, δ, ds, δ1, R, q, fun p xs H' ms' R1 e1 hp hd => ?_⟩
      have hn := R1.fresh0 hp
      have h0 : p ∉ G.ms0 := fun z => R1.fresh hp (R1.ms0 p z)
      have hnb : ∀ j, G.bor j ≠ some p := fun j z => h0 (R1.borm j p z)
      obtain ⟨R2, e2⟩ := R1.push (xs := xs) hp
      refine ⟨G.push p xs, p :: ms', δ1, as, _, R2, q2, fun vs ps H3 ms3 R3 pf e3 hs => ?_⟩
      exact k _ ((p, xs) :: ps) H3 ms3 R3 ⟨hnb, h0, hn, pf⟩ ((e1.trans e2).trans e3) (.n (hd.mono (e2.trans e3).same) hs)⟩
def frzM : List MI → DE → Option (List MI × DE)
  | [], δ => some ([], δ)
  | .a x :: is, δ => (frz x δ).bind fun (d, δ1) => (frzM is δ1).bind fun (js, δ2) => some (.a (.d d) :: js, δ2)
  | .n ds :: is, δ => (frzM is δ).bind fun (js, δ2) => some (.n ds :: js, δ2)
theorem frzM_ok {K : PySem.W.Frag} {H : Hp} {σ : L2.St} : ∀ {is : List MI} {vs : List V} {ps : Pend} {ms : List Addr} {δ δ' : DE} {js : List MI}, Rp K G ms H σ δ → RMs K ms H σ is vs ps → frzM is δ = some (js, δ') → ∃ ms', Rp K G ms' H σ δ' ∧ Ext ms H ms' H ∧ RMs K ms' H σ js vs ps
  | _, _, _, ms, _, _, _, R, .nil, e => by cases e; exact ⟨ms, R, .refl, .nil⟩
  | _, _, _, ms, δ, _, _, R, .a (x := x) (is := is) h t, e => by
    unfold frzM at e
    cases q : frz x δ with
    | none => rw [q] at e; cases e
    | some r =>
      obtain ⟨d, δ1⟩ := r
      cases q2 : frzM is δ1 with
      | none => simp only [q, Option.bind_some, q2] at e; cases e
      | some r2 =>
        obtain ⟨js', δ2⟩ := r2
        simp only [q, Option.bind_some, q2] at e; cases e
        obtain ⟨m1, R1, e1, d1⟩ := frz_ok R h q
        obtain ⟨m2, R2, e2, d2⟩ := frzM_ok R1 (t.ext e1) q2
        exact ⟨m2, R2, e1.trans e2, .a (d1.mono e2.same) d2⟩
  | _, _, _, ms, δ, _, _, R, .n (is := is) h t, e => by
    unfold frzM at e
    cases q2 : frzM is δ with
    | none => rw [q2] at e; cases e
    | some r2 =>
      obtain ⟨js', δ2⟩ := r2
      simp only [Option.bind_some, q2] at e; cases e
      obtain ⟨m2, R2, e2, d2⟩ := frzM_ok R t q2
      exact ⟨m2, R2, e2, .n (h.mono e2.same) d2⟩
def setM : List Nat → List MI → DE → Option DE
  | [], [], δ => some δ
  | i :: is, m :: r, δ => (setM is r δ).bind fun δ1 => if notBo δ1 i = true then (match m with
    | .a (.d d) => some (δ1.set i (some (.fz d)))
    | .n ds => some (δ1.set i (some (.ow ds)))
    | _ => none) else none
  | _, _, _ => none
def setV : List Nat → List V → L2.St → L2.St
  | i :: is, v :: vs, σ => (setV is vs σ).set i (some v)
  | _, _, σ => σ
theorem setM_ok {K : PySem.W.Frag} {H : Hp} {ms : List Addr} {σ0 : L2.St} : ∀ {is : List MI} {vs : List V} {ps : Pend} {ixs : List Nat} {G : Gm} {σ : L2.St} {δ δ' : DE}, RMs K ms H σ0 is vs ps → setM ixs is δ = some δ' → Rp K (pushes G ps) ms H σ δ → PFresh G ps → Rp K G ms H (setV ixs vs σ) δ'
  | _, _, _, ixs, G, σ, δ, δ', .nil, e, R, _ => by
    cases ixs with
    | nil => cases e; exact R
    | cons i r => cases e
  | _, _, _, ixs, G, σ, δ, δ', .a (x := x) (is := is) h t, e, R, pf => by
    cases ixs with
    | nil => cases e
    | cons i r =>
      unfold setM at e
      cases q : setM r is δ with
      | none => rw [q] at e; cases e
      | some δ1 =>
        simp only [q, Option.bind_some] at e
        split at e
        · rename_i hb
          split at e
          · rename_i d hm
            cases e
            cases hm
            exact (setM_ok t q R pf).setFz hb h
          · rename_i ds hm; cases hm
          · cases e
        · cases e
  | _, _, _, ixs, G, σ, δ, δ', .n (ds := ds) (p := p) (xs := xs) (is := is) h t, e, R, pf => by
    cases ixs with
    | nil => cases e
    | cons i r =>
      unfold setM at e
      cases q : setM r is δ with
      | none => rw [q] at e; cases e
      | some δ1 =>
        simp only [q, Option.bind_some] at e
        split at e
        · rename_i hb
          cases e
          exact (setM_ok (G := G.push p xs) t q R pf.2.2.2).take pf.1 pf.2.1 pf.2.2.1 hb h
        · cases e
def parM (ixs : List Nat) (f : EM) : ES := fun δ => (f δ).bind fun (is, δ1) => (frzM is δ1).bind fun (js, δ2) => (setM ixs js δ2).bind fun δ3 => some (.nx, δ3)
theorem parM_inv {ixs : List Nat} {δ : DE} {r : Fl × DE} (e : parM ixs fm δ = some r) : ∃ is δ1 js δ2 δ3, fm δ = some (is, δ1) ∧ frzM is δ1 = some (js, δ2) ∧ setM ixs js δ2 = some δ3 ∧ r = (.nx, δ3) := by
  unfold parM at e
  cases q : fm δ with
  | none => rw [q] at e; cases e
  | some r1 =>
    obtain ⟨is, δ1⟩ := r1
    cases q2 : frzM is δ1 with
    | none => simp only [q, Option.bind_some, q2] at e; cases e
    | some r2 =>
      obtain ⟨js, δ2⟩ := r2
      cases q3 : setM ixs js δ2 with
      | none => simp only [q, Option.bind_some, q2, q3] at e; cases e
      | some δ3 =>
        simp only [q, Option.bind_some, q2, q3] at e
        exact ⟨is, δ1, js, δ2, δ3, rfl, q2, q3, (Option.some.inj e).symm⟩
theorem RMs.length {K : PySem.W.Frag} {H : Hp} {ms : List Addr} {σ : L2.St} : ∀ {is : List MI} {vs : List V} {ps : Pend}, RMs K ms H σ is vs ps → vs.length = is.length
  | _, _, _, .nil => rfl
  | _, _, _, .a _ t => by simp [RMs.length t]
  | _, _, _, .n _ t => by simp [RMs.length t]
theorem frzM_len : ∀ {is js : List MI} {δ δ' : DE}, frzM is δ = some (js, δ') → js.length = is.length
  | [], _, _, _, e => by cases e; rfl
  | .a x :: is, _, δ, _, e => by
    unfold frzM at e
    cases q : frz x δ with
    | none => rw [q] at e; cases e
    | some r =>
      obtain ⟨d, δ1⟩ := r
      cases q2 : frzM is δ1 with
      | none => simp only [q, Option.bind_some, q2] at e; cases e
      | some r2 =>
        obtain ⟨js', δ2⟩ := r2
        simp only [q, Option.bind_some, q2] at e; cases e
        simp [frzM_len q2]
  | .n ds :: is, _, δ, _, e => by
    unfold frzM at e
    cases q2 : frzM is δ with
    | none => rw [q2] at e; cases e
    | some r2 =>
      obtain ⟨js', δ2⟩ := r2
      simp only [Option.bind_some, q2] at e; cases e
      simp [frzM_len q2]
theorem setM_len : ∀ {ixs : List Nat} {is : List MI} {δ δ' : DE}, setM ixs is δ = some δ' → is.length = ixs.length
  | [], [], _, _, _ => rfl
  | [], _ :: _, _, _, e => by cases e
  | _ :: _, [], _, _, e => by cases e
  | i :: ixs, m :: is, δ, _, e => by
    unfold setM at e
    cases q : setM ixs is δ with
    | none => rw [q] at e; cases e
    | some δ1 => simp [setM_len q]
theorem ds_parM2 {a b : Expr} {i j : Nat} {x y : Str} {px py pt : Pos} {kt k2 pt2} (hN : X.N.Nodup) (ha : DM X [a, b] fm) (hc : X.calm = true := by rfl) (hi : X.N[i]? = some x := by rfl) (hj : X.N[j]? = some y := by rfl) (hij : i ≠ j := by decide)
    (hx : X.env.scope.names.lookup x = some .local := by rfl) (hy : X.env.scope.names.lookup y = some .local := by rfl)
    (hw : swappedStores [.Tuple [.Name x px, .Name y py] kt pt] (.Tuple [a, b] k2 pt2) X.env = pure (some [x, y]) := by rfl)
    (hs : swapsWithSole [.Tuple [.Name x px, .Name y py] kt pt] (.Tuple [a, b] k2 pt2) pos.line X.env = pure false := by rfl) :
    PS X (.Assign [.Tuple [.Name x px, .Name y py] kt pt] (.Tuple [a, b] k2 pt2) pos) (tS X.K G (parM [i, j] fm)) := PS.imp (ps_par hc hN hi hj hij hx hy (ha.run G) hw hs) fun E σ H q => by
  obtain ⟨ms, δ, fl, δ', R, e, k⟩ := q
  obtain ⟨is, δ1, js, δ2, δ3, q1, q2, q3, e⟩ := parM_inv e
  cases e
  refine ⟨ms, δ, is, δ1, R, q1, fun vs ps H1 m1 R1 pf e1 h1 => ?_⟩
  obtain ⟨m2, R2, e2, h2⟩ := frzM_ok R1 h1 q2
  have R3 := setM_ok h2 q3 R2 pf
  have hl : vs.length = 2 := by rw [h2.length, setM_len q3]; rfl
  match vs, hl with
  | [u, v], _ =>
    refine ⟨u, v, rfl, ?_⟩
    have z : setV [i, j] [u, v] σ = (σ.set i (some u)).set j (some v) := by
      show (σ.set j (some v)).set i (some u) = _
      rw [List.set_comm _ _ hij]
    rw [z] at R3
    exact k _ H1 m2 R3 (e1.trans e2)
theorem ds_parM3 {a b c : Expr} {i j l : Nat} {x y z : Str} {px py pz pt : Pos} {kt k2 pt2} (hN : X.N.Nodup) (ha : DM X [a, b, c] fm) (hc : X.calm = true := by rfl) (hi : X.N[i]? = some x := by rfl) (hj : X.N[j]? = some y := by rfl) (hl : X.N[l]? = some z := by rfl) (hij : i ≠ j := by decide) (hil : i ≠ l := by decide) (hjl : j ≠ l := by decide)
    (hx : X.env.scope.names.lookup x = some .local := by rfl) (hy : X.env.scope.names.lookup y = some .local := by rfl) (hz : X.env.scope.names.lookup z = some .local := by rfl)
    (hw : swappedStores [.Tuple [.Name x px, .Name y py, .Name z pz] kt pt] (.Tuple [a, b, c] k2 pt2) X.env = pure (some [x, y, z]) := by rfl)
    (hs : swapsWithSole [.Tuple [.Name x px, .Name y py, .Name z pz] kt pt] (.Tuple [a, b, c] k2 pt2) pos.line X.env = pure false := by rfl) :
    PS X (.Assign [.Tuple [.Name x px, .Name y py, .Name z pz] kt pt] (.Tuple [a, b, c] k2 pt2) pos) (tS X.K G (parM [i, j, l] fm)) := PS.imp (ps_par3 hc hN hi hj hl hij hil hjl hx hy hz (ha.run G) hw hs) fun E σ H q => by
  obtain ⟨ms, δ, fl, δ', R, e, k⟩ := q
  obtain ⟨is, δ1, js, δ2, δ3, q1, q2, q3, e⟩ := parM_inv e
  cases e
  refine ⟨ms, δ, is, δ1, R, q1, fun vs ps H1 m1 R1 pf e1 h1 => ?_⟩
  obtain ⟨m2, R2, e2, h2⟩ := frzM_ok R1 h1 q2
  have R3 := setM_ok h2 q3 R2 pf
  have hn : vs.length = 3 := by rw [h2.length, setM_len q3]; rfl
  match vs, hn with
  | [u, v, w], _ =>
    refine ⟨u, v, w, rfl, ?_⟩
    have z : setV [i, j, l] [u, v, w] σ = ((σ.set i (some u)).set j (some v)).set l (some w) := by
      show ((σ.set l (some w)).set j (some v)).set i (some u) = _
      rw [List.set_comm _ _ hij, List.set_comm _ _ hil, List.set_comm _ _ hjl]
    rw [z] at R3
    exact k _ H1 m2 R3 (e1.trans e2)
end

/-! ### displayed dicts -/
def Gm.pushO (G : Gm) (p : Addr) (o : HO) : Gm := { G with H0 := upd G.H0 p o, ms0 := p :: G.ms0 }
section
variable {K : PySem.W.Frag} {G : Gm} {ms ms' : List Addr} {H H' : Hp} {σ σ' : L2.St} {δ δ' : DE} {p : Addr} {o o' : HO}
theorem Rp.pushO (R : Rp K G ms H σ δ) (hp : H p = none) : Rp K (G.pushO p o) (p :: ms) (upd H p o) σ δ ∧ Ext ms H (p :: ms) (upd H p o) := by
  have pm : p ∉ ms := R.fresh hp
  have ex : Ext ms H (p :: ms) (upd H p o) := fun a ob h1 h2 => by
    have : a ≠ p := ne_of_none h2 hp
    exact ⟨by simp [this, h1], by rw [upd_ne this]; exact h2⟩
  refine ⟨⟨R.len, fun a ha => ?_, fun a ha => ?_, fun a ha => ?_, fun a ob e hb => ?_, fun i a e => List.mem_cons_of_mem _ (R.borm i a e), R.bori, fun i s e => ?_, R.inj, R.bod⟩, ex⟩
  · rcases List.mem_cons.mp ha with rfl | ha
    · exact List.mem_cons_self
    · exact List.mem_cons_of_mem _ (R.ms0 a ha)
  · rcases List.mem_cons.mp ha with rfl | ha
    · exact .inl List.mem_cons_self
    · rcases R.new a ha with z | z
      · exact .inl (List.mem_cons_of_mem _ z)
      · refine .inr ?_
        show upd G.H0 p o a = none
        rw [upd_ne (fun e : a = p => pm (by rw [← e]; exact ha))]; exact z
  · by_cases e : a = p
    · subst e; rw [upd_same]; simp
    · rw [upd_ne e]; exact R.here a ((List.mem_cons.mp ha).resolve_left e)
  · by_cases q : a = p
    · subst q
      have e' : upd G.H0 a o a = some ob := e
      rw [upd_same] at e' ⊢; exact e'
    · have e' : upd G.H0 p o a = some ob := e
      rw [upd_ne q] at e' ⊢; exact R.keep a ob e' hb
  · refine (R.slot i s e).imp ex (fun a ha => List.mem_cons_of_mem _ ha) (fun a us ha hl _ => ?_) (fun a ha h0 z => ?_) (fun j a e => e) (fun j a e => R.ms0 _ (R.borm j a e))
    · rw [upd_ne (fun z : a = p => pm (by rw [← z]; exact ha))]; exact hl
    · rcases List.mem_cons.mp z with rfl | z
      · exact pm ha
      · exact h0 z
theorem Rp.outO (R : Rp K (G.pushO p o) ms H σ δ) (hnb : ∀ j, G.bor j ≠ some p) (h0 : p ∉ G.ms0) (hn : G.H0 p = none) (o' : HO) :
    H p = some o ∧ Rp K G (ms.filter (fun a => decide (a ≠ p))) (upd H p o') σ δ ∧ Ext ms H (ms.filter (fun a => decide (a ≠ p))) (upd H p o') ∧ p ∉ ms.filter (fun a => decide (a ≠ p)) := by
  have pm : p ∈ ms := R.ms0 p List.mem_cons_self
  have hp : H p = some o := R.keep p _ (by show upd G.H0 p o p = some _; rw [upd_same]) (fun j e => hnb j e)
  have mem : ∀ a, a ∈ ms.filter (fun a => decide (a ≠ p)) ↔ a ∈ ms ∧ a ≠ p := fun a => by simp [List.mem_filter]
  have ex : Ext ms H (ms.filter (fun a => decide (a ≠ p))) (upd H p o') := fun a ob h1 h2 => ⟨fun z => h1 ((mem a).mp z).1, by rw [upd_ne (fun z : a = p => h1 (by rw [z]; exact pm))]; exact h2⟩
  refine ⟨hp, ⟨R.len, fun a ha => (mem a).mpr ⟨R.ms0 a (List.mem_cons_of_mem _ ha), fun z => h0 (by rw [← z]; exact ha)⟩, fun a ha => ?_, fun a ha => ?_, fun a ob e hb => ?_, fun i a e => ?_, R.bori, fun i s e => ?_, R.inj, R.bod⟩, ex, fun z => ((mem p).mp z).2 rfl⟩
  · obtain ⟨h1, h2⟩ := (mem a).mp ha
    rcases R.new a h1 with z | z
    · exact .inl ((List.mem_cons.mp z).resolve_left h2)
    · have z' : upd G.H0 p o a = none := z
      rw [upd_ne h2] at z'
      exact .inr z'
  · obtain ⟨h1, h2⟩ := (mem a).mp ha
    rw [upd_ne h2]
    exact R.here a h1
  · by_cases q : a = p
    · subst q; rw [hn] at e; cases e
    · rw [upd_ne q]
      refine R.keep a ob ?_ hb
      show upd G.H0 p o a = some ob
      rw [upd_ne q]; exact e
  · exact (List.mem_cons.mp (R.borm i a e)).resolve_left fun z => hnb i (by rw [← z]; exact e)
  · have q := R.slot i s e
    cases s with
    | fz d => obtain ⟨v, a, b⟩ := q; exact ⟨v, a, b.mono ex.same⟩
    | ow ds =>
      obtain ⟨r, us, a, b, c, d, f⟩ := q
      have ne : r ≠ p := fun z => c (by rw [z]; exact List.mem_cons_self)
      exact ⟨r, us, a, (mem r).mpr ⟨b, ne⟩, fun z => c (List.mem_cons_of_mem _ z), by rw [upd_ne ne]; exact d, f.mono ex.same⟩
    | bo ds =>
      obtain ⟨r, us, a, b, d, f⟩ := q
      have ne : r ≠ p := fun z => hnb i (by rw [← z]; exact b)
      exact ⟨r, us, a, b, by rw [upd_ne ne]; exact d, f.mono ex.same⟩
end
theorem merge_new : ∀ (more acc : List (Key × V)), (acc.map (·.1) ++ more.map (·.1)).Nodup → mergeK acc more = acc ++ more
  | [], acc, _ => by simp [mergeK]
  | p :: r, acc, h => by
    have e : putK acc p.1 p.2 = acc ++ [p] := by
      unfold putK
      rw [if_neg]
      intro z
      obtain ⟨q, hq, e⟩ := List.any_eq_true.mp z
      have e' := of_decide_eq_true e
      rw [List.map_cons, List.nodup_append] at h
      exact h.2.2 q.1 (List.mem_map.mpr ⟨q, hq, rfl⟩) p.1 List.mem_cons_self e'
    show mergeK (putK acc p.1 p.2) r = _
    rw [e, merge_new r (acc ++ [p]) (by simpa using h)]
    simp
def tAK (K : PySem.W.Frag) (G : Gm) (ks : List Key) (fa : EA) (σ : L2.St) (H : Hp) (Q : List (V × V) → Hp → Prop) : Prop := ∃ ms δ as δ', Rp K G ms H σ δ ∧ fa δ = some (as, δ') ∧ ∀ vs H' ms', Rp K G ms' H' σ δ' → Ext ms H ms' H' → RAs K ms' H' σ as vs → vs.length = ks.length → Q ((ks.map kV).zip vs) H'
structure DPs (X : Cx) (pos : Pos) (keys : List (Option Expr)) (values : List Expr) (ks : List Key) (fa : EA) : Prop where
  run : ∃ trs, PPs X pos keys values trs ∧ ∀ G σ H Q, tAK X.K G ks fa σ H Q → tPairs trs σ H Q
section
variable {X : Cx} {G : Gm} {k v : Expr} {keys : List (Option Expr)} {values : List Expr} {ks : List Key} {key : Key} {f : EO} {fa : EA} {pos : Pos}
theorem dps_nil : DPs X pos [] [] [] nilA := ⟨⟨[], pps_nil, fun G σ H Q q => by
  obtain ⟨ms, δ, as, δ', R, e, k⟩ := q
  cases e
  exact k [] H ms R .refl .nil rfl⟩⟩
theorem dps_cons (hk : PE X k (tC (kV key))) (hv : ∀ G, PE X v (tO X.K G f)) (hr : DPs X pos keys values ks fa) : DPs X pos (some k :: keys) (v :: values) (key :: ks) (consA f fa) := ⟨by
  obtain ⟨trs, h1, h2⟩ := hr.run
  refine ⟨_, pps_cons hk (tv := fun σ H Q => ∃ G, tO X.K G f σ H Q) ⟨fun pins s σ H Q I ⟨G, q⟩ => (hv G).run pins s σ H Q I q⟩ h1, fun G σ H Q q => ?_⟩
  obtain ⟨ms, δ, as, δ', R, e, k⟩ := q
  unfold consA at e
  cases q : f δ with
  | none => rw [q] at e; cases e
  | some r =>
    obtain ⟨a, δ1⟩ := r
    cases q2 : fa δ1 with
    | none => simp only [q, Option.bind_some, q2] at e; cases e
    | some r2 =>
      obtain ⟨bs, δ2⟩ := r2
      simp only [q, Option.bind_some, q2] at e; cases e
      refine ⟨G, ms, δ, a, δ1, R, q, fun u H1 m1 R1 e1 r1 => ?_⟩
      refine h2 G σ H1 _ ⟨m1, δ1, bs, _, R1, q2, fun vs H2 m2 R2 e2 r2 hl => ?_⟩
      exact k (u :: vs) H2 m2 R2 (e1.trans e2) (.cons (r1.ext e2) r2) (by simp [hl])⟩
def dicO (ks : List Key) (fa : EA) : EO := fun δ => (fa δ).bind fun (as, δ1) => (frzs as δ1).bind fun (ds, δ2) => if ds.length = ks.length then some (.d (.dic (ks.zip ds)), δ2) else none
theorem RAs.length {K : PySem.W.Frag} {ms : List Addr} {H : Hp} {σ : L2.St} : ∀ {as : List Ar} {vs : List V}, RAs K ms H σ as vs → vs.length = as.length
  | _, _, .nil => rfl
  | _, _, .cons _ t => by simp [RAs.length t]
theorem frzs_len : ∀ {as : List Ar} {ds : List D} {δ δ' : DE}, frzs as δ = some (ds, δ') → ds.length = as.length
  | [], _, _, _, e => by cases e; rfl
  | a :: as, _, δ, _, e => by
    unfold frzs at e
    cases q : frz a δ with
    | none => rw [q] at e; cases e
    | some r =>
      obtain ⟨d, δ1⟩ := r
      cases q2 : frzs as δ1 with
      | none => simp only [q, Option.bind_some, q2] at e; cases e
      | some r2 =>
        obtain ⟨ds', δ2⟩ := r2
        simp only [q, Option.bind_some, q2] at e; cases e
        simp [frzs_len q2]
theorem do_dict (h : DPs X pos keys values ks fa) (hall : keys.all (·.isSome) = true := by rfl) (hl : keys.length = values.length := by rfl) (h0 : keys ≠ [] := by exact fun z => by cases z) (h15 : keys.length ≤ 15 := by decide) (hk : ks.length ≤ 15 := by decide) (hnd : ks.Nodup := by decide) :
    PE X (.Dict keys values pos) (tO X.K G (dicO ks fa)) := by
  obtain ⟨trs, t1, t2⟩ := h.run
  refine PE.imp (pe_disp t1 hall hl h0 h15) fun σ H Q q => ?_
  obtain ⟨ms, δ, x, δ', R, e, k⟩ := q
  unfold dicO at e
  cases q : fa δ with
  | none => rw [q] at e; cases e
  | some r1 =>
    obtain ⟨as, δ1⟩ := r1
    cases q2 : frzs as δ1 with
    | none => simp only [q, Option.bind_some, q2] at e; cases e
    | some r2 =>
      obtain ⟨ds, δ2⟩ := r2
      simp only [q, Option.bind_some, q2] at e
      split at e
      · rename_i hlen
        cases e
        intro p hp
        have hn := R.fresh0 hp
        have h0' : p ∉ G.ms0 := fun z => R.fresh hp (R.ms0 p z)
        have hnb : ∀ j, G.bor j ≠ some p := fun j z => h0' (R.borm j p z)
        obtain ⟨R1, e1⟩ := R.pushO (o := .dK []) hp
        refine t2 (G.pushO p (.dK [])) _ _ _ ⟨p :: ms, δ, as, δ1, R1, q, fun vs H2 m2 R2 e2 hs hvl => ?_⟩
        obtain ⟨m3, R3, e3, d3⟩ := frzs_ok R2 hs q2
        obtain ⟨hp2, R4, e4, pn⟩ := R3.outO hnb h0' hn (.dK (ks.zip vs))
        have hz : (ks.zip vs).map (·.1) = ks := List.map_fst_zip (by omega)
        have hz2 : (ks.zip vs).map (·.2) = vs := List.map_snd_zip (by omega)
        have hm : mergeK [] (ks.zip vs) = ks.zip vs := by
          rw [merge_new _ _ (by rw [hz]; simpa using hnd)]; rfl
        refine ⟨hp2, ks.zip vs, ?_, by rw [List.length_zip]; omega, ?_⟩
        · rw [List.zip_map_left]; rfl
        · rw [hm]
          refine k _ _ _ R4 (((e1.trans e2).trans e3).trans e4) ?_
          refine Dv.dic (kvs := ks.zip vs) (mask_some.mpr ⟨pn, upd_same⟩) ?_ ?_
          · rw [hz]; exact (List.map_fst_zip (by omega)).symm
          · rw [hz2, List.map_snd_zip (by omega)]
            exact d3.mono e4.same
      · cases e
def dic0 : EO := fun δ => some (.d (.dic []), δ)
theorem do_dict0 : PE X (.Dict [] [] pos) (tO X.K G dic0) := PE.imp pe_dnewK fun σ H Q q p hp => by
  obtain ⟨ms, δ, x, δ', R, e, k⟩ := q
  cases e
  have sm := same_upd (o := HO.dK []) hp
  exact k _ _ ms (R.same sm) (.of_same sm) (.dic (kvs := []) (mask_some.mpr ⟨R.fresh hp, upd_same⟩) rfl .nil)
end
/-! ### max, min of a list; remove -/
def maxLD : OpN := fun ds => match ds with
  | [.lst xs] => (intsD xs).bind fun ns => (ns.max?).bind fun m => some (.int m)
  | _ => none
def minLD : OpN := fun ds => match ds with
  | [.lst xs] => (intsD xs).bind fun ns => (ns.min?).bind fun m => some (.int m)
  | _ => none
theorem spec_maxL {K : PySem.W.Frag} : SpecN K (rMax K) maxLD := fun ms H vs ds d Q h hm e k => by
  unfold maxLD at e
  split at e
  · rename_i xs
    cases q : intsD xs with
    | none => rw [q] at e; cases e
    | some ns =>
      rw [q] at e
      cases q2 : ns.max? with
      | none => simp only [Option.bind_some, q2] at e; cases e
      | some m =>
        simp only [Option.bind_some, q2] at e; cases e
        obtain ⟨v, rfl, t⟩ := top1 h
        obtain ⟨p, us, rfl, s1, a1⟩ := t.lst
        rw [intsD_ok q] at a1
        rw [a1.ints] at s1
        obtain ⟨hm1, hm2⟩ := List.max?_eq_some_iff.mp q2
        refine ⟨p, ns, rfl, SqL.of s1, List.length_pos_of_mem hm1, fun m' h1 h2 => ?_⟩
        rw [Int.le_antisymm (hm2 m' h1) (h2 m hm1)]
        exact k _ H (Same.refl H) (.int _)
  · cases e
theorem spec_minL {K : PySem.W.Frag} : SpecN K (rMin K) minLD := fun ms H vs ds d Q h hm e k => by
  unfold minLD at e
  split at e
  · rename_i xs
    cases q : intsD xs with
    | none => rw [q] at e; cases e
    | some ns =>
      rw [q] at e
      cases q2 : ns.min? with
      | none => simp only [Option.bind_some, q2] at e; cases e
      | some m =>
        simp only [Option.bind_some, q2] at e; cases e
        obtain ⟨v, rfl, t⟩ := top1 h
        obtain ⟨p, us, rfl, s1, a1⟩ := t.lst
        rw [intsD_ok q] at a1
        rw [a1.ints] at s1
        obtain ⟨hm1, hm2⟩ := List.min?_eq_some_iff.mp q2
        refine ⟨p, ns, rfl, SqL.of s1, List.length_pos_of_mem hm1, fun m' h1 h2 => ?_⟩
        rw [Int.le_antisymm (h2 m hm1) (hm2 m' h1)]
        exact k _ H (Same.refl H) (.int _)
  · cases e
def remM : OpM := fun xs ds => match ds with
  | [.int k] => (intsD xs).bind fun ns => if k ∈ ns then some (.non, (ns.erase k).map D.int) else none
  | _ => none
theorem spec_rem {K : PySem.W.Frag} : SpecM K rRemI remM := fun ms H p us vs xs ds xs' res Q hp ha hd e k => by
  unfold remM at e
  split at e
  · rename_i i
    cases q : intsD xs with
    | none => rw [q] at e; cases e
    | some ns =>
      rw [q] at e
      simp only [Option.bind_some] at e
      split at e
      · rename_i hi
        cases e
        rw [intsD_ok q] at ha
        rw [ha.ints] at hp
        cases hd with
        | cons h t =>
          cases t
          cases h
          refine ⟨p, ns, i, ns.idxOf i, rfl, rfl, hp, ?_, fun m hm z => ?_, ?_⟩
          · rw [List.getElem?_eq_getElem (List.idxOf_lt_length_of_mem hi), List.getElem_idxOf]
          · have hml : m < ns.length := Nat.lt_trans hm (List.idxOf_lt_length_of_mem hi)
            rw [List.getElem?_eq_getElem hml] at z
            have z' : ns[m] = i := Option.some.inj z
            have h2 := List.not_of_lt_findIdx (p := (· == i)) (xs := ns) (i := m) hm
            simp [z'] at h2
          · have ee : ns.eraseIdx (ns.idxOf i) = ns.erase i := (List.erase_eq_eraseIdx_of_idxOf rfl).symm
            rw [ee]
            exact k _ .non (DvAll.of_ints _) .non
      · cases e
  · cases e
section
variable {X : Cx} {G : Gm} {e : Expr} {fa : EA} {i : Nat} {x : Str} {px apos cpos : Pos}
theorem do_remove (ha : PA X [e] (tAr X.K G fa)) (hN : X.N[i]? = some x := by rfl) (hv : Vis X.env.scope x := by first | exact Or.inl rfl | exact Or.inr (Or.inl rfl) | exact Or.inr (Or.inr rfl)) (hd : (x == ("__debug__" : Str)) = false := by decide) (hcd : (x == ("__classdict__" : Str)) = false := by decide)
    (hbase : attributeBase (.Name x px) "remove" X.env (eval (.Name x px) X.env) = eval (.Name x px) X.env := by rfl)
    (hfew : ((backTo cpos (starEach [e] X.env)).all (fun x => !x.1) && (backToKw cpos (keywordEach [] X.env)).all (fun x => x.1.isSome)
      && decide (([e] : List Expr).length + ([] : List Keyword).length + (if ([] : List Keyword).isEmpty then 0 else 1) < 30)) = true := by rfl)
    (hline : (apos.endLine == cpos.line) = true := by rfl) (hs : starEach [e] X.env = (false, eval e X.env) :: starEach [] X.env := by rfl) (hplain : (backTo cpos (starEach [] X.env)).any (·.1) = false := by rfl) :
    PE X (.Call (.Attribute (.Name x px) "remove" apos) [e] [] cpos) (tO X.K G (mutO i fa remM)) :=
  do_mut PySem.F.slot_list_remove PySem.F.type_list_remove mt_remove spec_rem ha hN hv hd hcd hbase hfew hline hs hplain
end
/-! ### their plain side -/
section
variable {δ : DE} {f : EO} {fn : EN} {fa : EA} {fm : EM} {P : Ar → DE → Prop} {PM : List MI → DE → Prop} {PS : Fl → DE → Prop}
theorem w_nilM (h : PM [] δ) : W nilM δ PM := ⟨_, _, rfl, h⟩
theorem w_consMa (h : W f δ fun a δ1 => W fm δ1 fun as δ2 => PM (.a a :: as) δ2) : W (consMa f fm) δ PM := by
  obtain ⟨a, δ1, e, as, δ2, e2, p⟩ := h
  exact ⟨_, _, by unfold consMa; rw [e]; simp only [Option.bind_some, e2], p⟩
theorem w_consMn (h : W fn δ fun ds δ1 => W fm δ1 fun as δ2 => PM (.n ds :: as) δ2) : W (consMn fn fm) δ PM := by
  obtain ⟨a, δ1, e, as, δ2, e2, p⟩ := h
  exact ⟨_, _, by unfold consMn; rw [e]; simp only [Option.bind_some, e2], p⟩
theorem w_parM {ixs : List Nat} (h : W fm δ fun is δ1 => ∃ js δ2 δ3, frzM is δ1 = some (js, δ2) ∧ setM ixs js δ2 = some δ3 ∧ PS .nx δ3) : W (parM ixs fm) δ PS := by
  obtain ⟨is, δ1, e, js, δ2, δ3, e2, e3, p⟩ := h
  exact ⟨_, _, by unfold parM; simp only [e, Option.bind_some, e2, e3], p⟩
theorem w_dic0 (h : P (.d (.dic [])) δ) : W dic0 δ P := ⟨_, _, rfl, h⟩
theorem w_dic {ks : List Key} (h : W fa δ fun as δ1 => ∃ ds δ2, frzs as δ1 = some (ds, δ2) ∧ ds.length = ks.length ∧ P (.d (.dic (ks.zip ds))) δ2) : W (dicO ks fa) δ P := by
  obtain ⟨as, δ1, e, ds, δ2, e2, e3, p⟩ := h
  exact ⟨_, _, by unfold dicO; simp only [e, Option.bind_some, e2]; rw [if_pos e3], p⟩
end
end DL
namespace DL
open PySem PySem.Spec PyProof.Rows L2

/-! ### a slot's own list walked: it is locked meanwhile -/
def Gm.lock (G : Gm) (i : Nat) (p : Addr) (us : List V) : Gm := ⟨upd G.H0 p (.lst us), p :: G.ms0, fun j => if j = i then some p else G.bor j⟩
def lockD (i : Nat) (δ : DE) : Option (List D × Bool × DE) := match δ[i]? with
  | some (some (.ow ds)) => some (ds, true, δ.set i (some (.bo ds)))
  | some (some (.bo ds)) => some (ds, false, δ)
  | _ => none
def unlockD (i : Nat) (b : Bool) (δ : DE) : DE := if b = true then (match δ[i]? with
  | some (some (.bo ds)) => δ.set i (some (.ow ds))
  | _ => δ) else δ
def Lk (G : Gm) (i : Nat) (b : Bool) (a : Addr) (G2 : Gm) : Prop := (b = false ∧ G2 = G ∧ G.bor i = some a) ∨ (b = true ∧ (∃ us, G2 = G.lock i a us) ∧ a ∉ G.ms0 ∧ G.H0 a = none ∧ (∀ j, G.bor j ≠ some a) ∧ G.bor i = none)
section
variable {K : PySem.W.Frag} {G G2 : Gm} {ms ms' : List Addr} {H H' : Hp} {σ σ' : L2.St} {δ δ' : DE} {p a : Addr} {us : List V} {ds : List D} {i : Nat} {b : Bool}
theorem Lk.bor (h : Lk G i b a G2) : G2.bor i = some a := by
  rcases h with ⟨_, rfl, e⟩ | ⟨_, ⟨us, rfl⟩, _⟩
  · exact e
  · show (if i = i then some a else G.bor i) = some a
    rw [if_pos rfl]
theorem Lk.other (h : Lk G i b a G2) {L : Addr} (hL : ∀ j, G.bor j ≠ some L) (hn : L ≠ a) : ∀ j, G2.bor j ≠ some L := by
  rcases h with ⟨_, rfl, e⟩ | ⟨_, ⟨us, rfl⟩, _⟩
  · exact hL
  · intro j z
    have z' : (if j = i then some a else G.bor j) = some L := z
    split at z'
    · cases z'; exact hn rfl
    · exact hL j z'
theorem lock_ok (R : Rp K G ms H σ δ) (e : lockD i δ = some (ds, b, δ')) : ∃ G2 a us, Lk G i b a G2 ∧ Rp K G2 ms H σ δ' ∧ σ[i]? = some (some (.ref a)) ∧ H a = some (.lst us) ∧ δ'[i]? = some (some (.bo ds)) := by
  unfold lockD at e
  split at e
  · rename_i es hi
    cases e
    have hl : i < δ.length := (List.getElem?_eq_some_iff.mp hi).1
    obtain ⟨p, us, hp, pm, p0, hx, hd⟩ := R.slot i _ hi
    have hbi : G.bor i = none := by
      cases q : G.bor i with
      | none => rfl
      | some a => obtain ⟨fs, z⟩ := R.bod i a q; rw [hi] at z; cases z
    have hnb : ∀ j, G.bor j ≠ some p := fun j z => p0 (R.borm j p z)
    have hn : G.H0 p = none := (R.new p pm).resolve_left p0
    have bb : ∀ j, j ≠ i → (G.lock i p us).bor j = G.bor j := fun j h => by show (if j = i then some p else G.bor j) = _; rw [if_neg h]
    have bi : (G.lock i p us).bor i = some p := by show (if i = i then some p else G.bor i) = _; rw [if_pos rfl]
    refine ⟨G.lock i p us, p, us, .inr ⟨rfl, ⟨us, rfl⟩, p0, hn, hnb, hbi⟩, ⟨by simp [R.len], fun a ha => ?_, fun a ha => ?_, R.here, fun a o e hb => ?_, fun j a e => ?_, fun j k a e1 e2 => ?_, fun j s e => ?_, fun j k es fs q e1 e2 e3 e4 => ?_, fun j a e => ?_⟩, hp, hx, set_self hl⟩
    · rcases List.mem_cons.mp ha with rfl | ha
      · exact pm
      · exact R.ms0 a ha
    · by_cases q : a = p
      · subst q; exact .inl List.mem_cons_self
      · rcases R.new a ha with z | z
        · exact .inl (List.mem_cons_of_mem _ z)
        · refine .inr ?_
          show upd G.H0 p (.lst us) a = none
          rw [upd_ne q]; exact z
    · by_cases q : a = p
      · subst q; exact absurd bi (hb i)
      · have e' : upd G.H0 p (.lst us) a = some o := e
        rw [upd_ne q] at e'
        refine R.keep a o e' fun j z => ?_
        by_cases hj : j = i
        · subst hj; rw [hbi] at z; cases z
        · exact hb j (by rw [bb j hj]; exact z)
    · by_cases hj : j = i
      · subst hj; rw [bi] at e; cases e; exact List.mem_cons_self
      · rw [bb j hj] at e; exact List.mem_cons_of_mem _ (R.borm j a e)
    · by_cases hj : j = i
      · subst hj
        by_cases hk : k = j
        · exact hk.symm
        · rw [bi] at e1; cases e1
          rw [bb k hk] at e2; exact absurd e2 (hnb k)
      · by_cases hk : k = i
        · subst hk
          rw [bi] at e2; cases e2
          rw [bb j hj] at e1; exact absurd e1 (hnb j)
        · rw [bb j hj] at e1
          rw [bb k hk] at e2
          exact R.bori j k a e1 e2
    · rcases get_set e with ⟨ei, ev⟩ | ⟨hj, e⟩
      · subst ei; cases ev
        exact ⟨p, us, hp, bi, hx, hd⟩
      · have q := R.slot j s e
        cases s with
        | fz d => exact q
        | ow es =>
          obtain ⟨r, vs, a, b, c, d, f⟩ := q
          refine ⟨r, vs, a, b, fun z => ?_, d, f⟩
          rcases List.mem_cons.mp z with rfl | z
          · exact hj (R.inj _ _ _ _ _ e hi a hp)
          · exact c z
        | bo es =>
          obtain ⟨r, vs, a, b, d, f⟩ := q
          exact ⟨r, vs, a, by rw [bb j hj]; exact b, d, f⟩
    · rcases get_set e1 with ⟨ei, ev⟩ | ⟨hj, f1⟩
      · cases ev
      · rcases get_set e2 with ⟨ei, ev⟩ | ⟨hk, f2⟩
        · cases ev
        · exact R.inj j k es fs q f1 f2 e3 e4
    · by_cases hj : j = i
      · subst hj; exact ⟨ds, set_self hl⟩
      · rw [bb j hj] at e
        obtain ⟨fs, z⟩ := R.bod j a e
        exact ⟨fs, by rw [List.getElem?_set_ne (Ne.symm hj)]; exact z⟩
  · rename_i es hi
    cases e
    obtain ⟨p, us, hp, hb, hx, hd⟩ := R.slot i _ hi
    exact ⟨G, p, us, .inl ⟨rfl, rfl, hb⟩, R, hp, hx, hi⟩
  · cases e
theorem Lk.out (h : Lk G i b a G2) (R : Rp K G2 ms H σ δ) : Rp K G ms H σ (unlockD i b δ) := by
  rcases h with ⟨rfl, rfl, e⟩ | ⟨rfl, ⟨us, rfl⟩, p0, hn, hnb, hbi⟩
  · unfold unlockD; rw [if_neg Bool.false_ne_true]; exact R
  · have bb : ∀ j, j ≠ i → (G.lock i a us).bor j = G.bor j := fun j h => by show (if j = i then some a else G.bor j) = _; rw [if_neg h]
    have bi : (G.lock i a us).bor i = some a := by show (if i = i then some a else G.bor i) = _; rw [if_pos rfl]
    obtain ⟨ds, hi⟩ := R.bod i a bi
    have hl : i < δ.length := (List.getElem?_eq_some_iff.mp hi).1
    obtain ⟨p, vs, hp, hpb, hx, hd⟩ := R.slot i _ hi
    rw [bi] at hpb; cases hpb
    have pm : a ∈ ms := R.ms0 a List.mem_cons_self
    unfold unlockD
    rw [if_pos rfl, hi]
    refine ⟨by simp [R.len], fun c hc => R.ms0 c (List.mem_cons_of_mem _ hc), fun c hc => ?_, R.here, fun c o e hb => ?_, fun j c e => ?_, fun j k c e1 e2 => ?_, fun j s e => ?_, fun j k es fs q e1 e2 e3 e4 => ?_, fun j c e => ?_⟩
    · by_cases q : c = a
      · subst q; exact .inr hn
      · rcases R.new c hc with z | z
        · exact .inl ((List.mem_cons.mp z).resolve_left q)
        · have z' : upd G.H0 a (.lst us) c = none := z
          rw [upd_ne q] at z'
          exact .inr z'
    · by_cases q : c = a
      · subst q; rw [hn] at e; cases e
      · refine R.keep c o (by show upd G.H0 a (.lst us) c = some o; rw [upd_ne q]; exact e) fun j z => ?_
        by_cases hj : j = i
        · subst hj; rw [bi] at z; cases z; exact q rfl
        · rw [bb j hj] at z; exact hb j z
    · have hj : j ≠ i := fun z => by subst z; rw [hbi] at e; cases e
      exact (List.mem_cons.mp (R.borm j c (by rw [bb j hj]; exact e))).resolve_left fun z => hnb j (by rw [← z]; exact e)
    · have hj : j ≠ i := fun z => by subst z; rw [hbi] at e1; cases e1
      have hk : k ≠ i := fun z => by subst z; rw [hbi] at e2; cases e2
      exact R.bori j k c (by rw [bb j hj]; exact e1) (by rw [bb k hk]; exact e2)
    · rcases get_set e with ⟨ei, ev⟩ | ⟨hj, e⟩
      · subst ei; cases ev
        exact ⟨a, vs, hp, pm, p0, hx, hd⟩
      · have q := R.slot j s e
        cases s with
        | fz d => exact q
        | ow es =>
          obtain ⟨r, ws, a', b', c', d', f'⟩ := q
          exact ⟨r, ws, a', b', fun z => c' (List.mem_cons_of_mem _ z), d', f'⟩
        | bo es =>
          obtain ⟨r, ws, a', b', d', f'⟩ := q
          exact ⟨r, ws, a', by rw [← bb j hj]; exact b', d', f'⟩
    · have own : ∀ k es, k ≠ i → δ[k]? = some (some (.ow es)) → σ[k]? = some (some (.ref a)) → False := fun k es hk e1 e2 => by
        obtain ⟨r, ws, a', b', c', _⟩ := R.slot k _ e1
        rw [e2] at a'; cases a'
        exact c' List.mem_cons_self
      rcases get_set e1 with ⟨ei, ev⟩ | ⟨hj, f1⟩
      · rcases get_set e2 with ⟨ei2, ev2⟩ | ⟨hk, f2⟩
        · rw [ei, ei2]
        · rw [ei, hp] at e3; cases e3
          exact (own k fs hk f2 e4).elim
      · rcases get_set e2 with ⟨ei2, ev2⟩ | ⟨hk, f2⟩
        · rw [ei2, hp] at e4; cases e4
          exact (own j es hj f1 e3).elim
        · exact R.inj j k es fs q f1 f2 e3 e4
    · have hj : j ≠ i := fun z => by subst z; rw [hbi] at e; cases e
      obtain ⟨fs, z⟩ := R.bod j c (by rw [bb j hj]; exact e)
      exact ⟨fs, by rw [List.getElem?_set_ne (Ne.symm hj)]; exact z⟩
/-- what stands in the locked list -/
theorem Lk.cont (h : Lk G i b a G2) (R : Rp K G2 ms H σ δ) {cur : List D} (e : own? i δ = some cur) : ∃ us, H a = some (.lst us) ∧ DvAll K (mask H ms) us cur := by
  obtain ⟨ds, hi⟩ := R.bod i a h.bor
  unfold own? at e
  rw [hi] at e
  cases e
  obtain ⟨p, vs, hp, hpb, hx, hd⟩ := R.slot i _ hi
  rw [h.bor] at hpb; cases hpb
  exact ⟨vs, hx, hd⟩
end
def loopL (g : EG) (body : ES) (i : Nat) : Nat → Nat → ES
  | 0, k, δ => (own? i δ).bind fun cur => if cur.length ≤ k then some (.nx, δ) else none
  | r + 1, k, δ => (own? i δ).bind fun cur => (cur[k]?).bind fun d => (g d δ).bind fun δ1 => (body δ1).bind fun (fl, δ2) => match fl with
    | .nx => loopL g body i r (k + 1) δ2
    | .ct => loopL g body i r (k + 1) δ2
    | .bk => some (.nx, δ2)
    | .rt r => some (.rt r, δ2)
    | .rn r => some (.rn r, δ2)
def forL (i : Nat) (g : EG) (body : ES) : ES := fun δ => (lockD i δ).bind fun (ds, b, δ1) => (loopL g body i ds.length 0 δ1).bind fun (fl, δ2) => some (fl, unlockD i b δ2)
section
variable {X : Cx} {G : Gm} {e tg elt : Expr} {pos px : Pos} {body : List Stmt} {s1 : ES} {g : EG} {ws : List Nat} {i : Nat} {x : Str}
theorem ds_forL (he : ∀ G, PE X e (tO X.K G (vO i))) (hg : ∀ G, PG X tg (tG X.K G ws g)) (hb : ∀ G, PSs X body (tS X.K G s1)) (hp : PassesOwn (model X.prog X.w) X.A X.env X.xe := by exact PassesOwn.never) (hc : X.calm = true := by rfl)
    (hs : ∀ x, foldedSetIterable e X.env x = pure x := by intro _; rfl) : PS X (.For tg e body [] pos) (tS X.K G (forL i g s1)) :=
  PS.imp (ps_for hp hc (pi_seq (he G)) (g := fun v σ H Q => ∃ G, tG X.K G ws g v σ H Q) (tb := fun E σ H => ∃ G, tS X.K G s1 E σ H)
    ⟨fun pins s' σ H' v u Q I r ⟨G', q⟩ => (hg G').run pins s' σ H' v u Q I r q⟩ ⟨fun pins s σ H D I ⟨G', q⟩ => (hb G').run pins s σ H D I q⟩ hs) fun E σ H q => by
  obtain ⟨ms, δ, fl, δ', R, e, k⟩ := q
  unfold forL at e
  cases q : lockD i δ with
  | none => rw [q] at e; cases e
  | some r =>
    obtain ⟨ds, b, δ1⟩ := r
    simp only [q, Option.bind_some] at e
    cases q2 : loopL g s1 i ds.length 0 δ1 with
    | none => rw [q2] at e; cases e
    | some r2 =>
      obtain ⟨fl2, δ2⟩ := r2
      simp only [q2, Option.bind_some] at e
      cases e
      have hv : vO i δ = some (.sl i, δ) := by
        unfold lockD at q
        unfold vO
        split at q
        · rename_i h; rw [h]
        · rename_i h; rw [h]
        · cases q
      refine ⟨ms, δ, _, δ, R, hv, fun v H1 m1 R1 e1 h1 => ?_⟩
      obtain ⟨G2, a, us, lk, R2, ha, hx, hb1⟩ := lock_ok R1 q
      have hv1 : σ[i]? = some (some v) := h1
      rw [ha] at hv1; cases hv1
      refine ⟨a, rfl, .inl ⟨⟨us, SqL.of hx⟩, ?_⟩⟩
      refine ⟨fun n m σ H' => m + n = ds.length ∧ ∃ m2 δ3, Rp X.K G2 m2 H' σ δ3 ∧ Ext m1 H1 m2 H' ∧ loopL g s1 i m n δ3 = some (fl, δ2), ⟨ds.length, rfl, m1, δ1, R2, .refl, q2⟩, ?_⟩
      rintro n m σ2 H2 ⟨hm, m2, δ3, R3, e3, hl⟩
      cases m with
      | zero =>
        left
        unfold loopL at hl
        cases q4 : own? i δ3 with
        | none => rw [q4] at hl; cases hl
        | some cur =>
          simp only [q4, Option.bind_some] at hl
          split at hl
          · rename_i hle
            cases hl
            obtain ⟨us2, hx2, hd2⟩ := lk.cont R3 q4
            exact ⟨⟨us2, SqL.of hx2, by rw [hd2.length]; exact hle⟩, k σ2 H2 m2 (lk.out R3) (e1.trans e3)⟩
          · cases hl
      | succ m =>
        right
        unfold loopL at hl
        cases q4 : own? i δ3 with
        | none => rw [q4] at hl; cases hl
        | some cur =>
          cases q5 : cur[n]? with
          | none => simp only [q4, Option.bind_some, q5] at hl; cases hl
          | some d =>
            simp only [q4, Option.bind_some, q5] at hl
            obtain ⟨us2, hx2, hd2⟩ := lk.cont R3 q4
            obtain ⟨v2, hv2, dv2⟩ := hd2.get q5
            refine ⟨⟨us2, v2, SqL.of hx2, hv2⟩, fun σ' H' => ∃ m3 δ4, Rp X.K G2 m3 H' σ' δ4 ∧ Ext m1 H1 m3 H' ∧ loopL g s1 i m (n + 1) δ4 = some (fl, δ2), fun σ' H' hN => ⟨m, by omega, by omega, hN⟩, fun x H3 y => ?_⟩
            obtain ⟨rfl, hxx⟩ := y
            have hxx2 := hxx us2 (SqL.of hx2)
            rw [hv2] at hxx2; cases hxx2
            cases q6 : g d δ3 with
            | none => rw [q6] at hl; cases hl
            | some δ4 =>
              simp only [q6, Option.bind_some] at hl
              cases q7 : s1 δ4 with
              | none => rw [q7] at hl; cases hl
              | some r7 =>
                obtain ⟨fl7, δ7⟩ := r7
                simp only [q7, Option.bind_some] at hl
                refine ⟨G2, m2, δ3, d, δ4, R3, dv2, q6, fun σ5 H5 m5 R5 e5 _ _ => ⟨G2, m5, δ4, fl7, δ7, R5, q7, ?_⟩⟩
                have e25 : Ext m1 H1 m5 H5 := e3.trans e5
                cases fl7 with
                | nx => exact fun σ6 H6 m6 R6 e6 => ⟨m6, δ7, R6, e25.trans e6, hl⟩
                | ct => exact fun σ6 H6 m6 R6 e6 => ⟨m6, δ7, R6, e25.trans e6, hl⟩
                | bk =>
                  cases hl
                  exact fun σ6 H6 m6 R6 e6 => k σ6 H6 m6 (lk.out R6) (e1.trans (e25.trans e6))
                | rt r =>
                  cases hl
                  exact fun v σ6 H6 m6 R6 e6 hv => k v σ6 H6 m6 (lk.out R6) (e1.trans (e25.trans e6)) hv
                | rn r =>
                  cases hl
                  exact fun p us σ6 H6 m6 R6 e6 hp hv => k p us σ6 H6 m6 (lk.out R6) (e1.trans (e25.trans e6)) hp hv
end
/-! ### a comprehension over such a list -/
def lcLoopL (g : EG) (tt : ET) (te : EO) (vs : List Nat) (i : Nat) : Nat → Nat → List D → DE → Option (List D × DE)
  | 0, k, acc, δ => (own? i δ).bind fun cur => if cur.length ≤ k then some (acc, δ) else none
  | r + 1, k, acc, δ => (own? i δ).bind fun cur => (cur[k]?).bind fun d => (g d (wipeD δ vs)).bind fun δ1 => (tt δ1).bind fun (b, δ2) => if b = true then (te δ2).bind fun (a, δ3) => (frz a δ3).bind fun (y, δ4) => if acc.length < sizeLine then lcLoopL g tt te vs i r (k + 1) (acc ++ [y]) (restD δ vs δ4) else none
      else lcLoopL g tt te vs i r (k + 1) acc (restD δ vs δ2)
def lcL (i : Nat) (g : EG) (tt : ET) (te : EO) (vs : List Nat) : EN := fun δ => (lockD i δ).bind fun (ds, b, δ1) => if okWipe δ1 vs = true then (lcLoopL g tt te vs i ds.length 0 [] δ1).bind fun (out, δ2) => some (out, unlockD i b δ2) else none
section
variable {X : Cx} {G : Gm} {e tg elt iter : Expr} {pos px : Pos} {g : EG} {tt : ET} {te : EO} {ws : List Nat} {i : Nat}
theorem tLcL_of {K : PySem.W.Frag} {vs : List Nat} (hws : ∀ j ∈ ws, j ∈ vs) (σ : L2.St) (H : Hp) (Q : VK) (q : tN K G (lcL i g tt te vs) σ H Q) :
    tLc (iSeq K (tO K G (vO i))) (fun v σ H Q => ∃ G, tG K G ws g v σ H Q) (fun σ H Q => ∃ G, tT K G tt σ H Q) (fun σ H Q => ∃ G, tO K G te σ H Q) vs σ H Q := by
  obtain ⟨ms, δ, out, δ', R, e, k⟩ := q
  unfold lcL at e
  cases q : lockD i δ with
  | none => rw [q] at e; cases e
  | some r =>
    obtain ⟨ds, b, δ1⟩ := r
    simp only [q, Option.bind_some] at e
    split at e
    · rename_i hw
      cases q2 : lcLoopL g tt te vs i ds.length 0 [] δ1 with
      | none => rw [q2] at e; cases e
      | some r2 =>
        obtain ⟨out2, δe⟩ := r2
        simp only [q2, Option.bind_some] at e
        cases e
        have hv : vO i δ = some (.sl i, δ) := by
          unfold lockD at q
          unfold vO
          split at q
          · rename_i h; rw [h]
          · rename_i h; rw [h]
          · cases q
        refine ⟨ms, δ, _, δ, R, hv, fun v H1 m1 R1 e1 h1 => ?_⟩
        obtain ⟨G2, a, us0, lk, R2, ha, hx, hb1⟩ := lock_ok R1 q
        have hv1 : σ[i]? = some (some v) := h1
        rw [ha] at hv1; cases hv1
        refine ⟨a, rfl, .inl ⟨⟨us0, SqL.of hx⟩, fun L hL => ?_⟩⟩
        have La : L ≠ a := fun z => by rw [z, hx] at hL; cases hL
        have Lm : L ∉ m1 := R2.fresh hL
        have L0 : L ∉ G2.ms0 := fun z => Lm (R2.ms0 L z)
        have Ln : G2.H0 L = none := R2.fresh0 hL
        have Lb : ∀ j, G2.bor j ≠ some L := fun j z => Lm (R2.ms0 L (R2.borm j L z))
        -- what the locked list holds, beside the new one
        have cont : ∀ {m2 : List Addr} {H2 : Hp} {σ2 : L2.St} {δ2 : DE} {us : List V} {cur : List D}, Rp K (G2.push L us) m2 H2 σ2 δ2 → own? i δ2 = some cur → ∃ us, H2 a = some (.lst us) ∧ DvAll K (mask H2 m2) us cur := fun {m2 H2 σ2 δ2 us cur} R e => by
          obtain ⟨fs, hi⟩ := R.bod i a lk.bor
          unfold own? at e
          rw [hi] at e
          cases e
          obtain ⟨p, vs, hp, hpb, hx, hd⟩ := R.slot i _ hi
          have hpb' : G2.bor i = some p := hpb
          rw [lk.bor] at hpb'; cases hpb'
          exact ⟨vs, hx, hd⟩
        refine ⟨fun n m H' => m + n = ds.length ∧ ∃ m2 δ2 acc us, Rp K (G2.push L us) m2 H' σ δ2 ∧ Ext m1 H1 m2 H' ∧ DvAll K (mask H' m2) us acc ∧ okWipe δ2 vs = true ∧ lcLoopL g tt te vs i m n acc δ2 = some (out, δe), ?_, ?_⟩
        · obtain ⟨R3, e3⟩ := R2.push (xs := []) hL
          exact ⟨ds.length, rfl, _, δ1, [], [], R3, e3, .nil, hw, q2⟩
        rintro n m H2 ⟨hm, m2, δ2, acc, us, R2, e2, da, hw2, hl⟩
        cases m with
        | zero =>
          left
          unfold lcLoopL at hl
          cases q4 : own? i δ2 with
          | none => rw [q4] at hl; cases hl
          | some cur =>
            simp only [q4, Option.bind_some] at hl
            split at hl
            · rename_i hle
              cases hl
              obtain ⟨us2, hx2, hd2⟩ := cont R2 q4
              refine ⟨⟨us2, SqL.of hx2, by rw [hd2.length]; exact hle⟩, ?_⟩
              obtain ⟨Rp', mk, up, dl⟩ := R2.pop Lb L0 Ln
              have q := k L us (Hp.del H2 L) (m2.filter (fun a => decide (a ≠ L))) (lk.out Rp') (e1.trans fun a o h1 h2 => ?_) dl (by rw [mk]; exact da)
              · rw [up] at q; exact q
              · obtain ⟨z1, z2⟩ := e2 a o h1 h2
                refine ⟨fun z => z1 (List.mem_filter.mp z).1, ?_⟩
                unfold Hp.del
                rw [if_neg (fun z : a = L => by rw [z, hL] at h2; cases h2)]
                exact z2
            · cases hl
        | succ m =>
          right
          unfold lcLoopL at hl
          cases q4 : own? i δ2 with
          | none => rw [q4] at hl; cases hl
          | some cur =>
            cases q5 : cur[n]? with
            | none => simp only [q4, Option.bind_some, q5] at hl; cases hl
            | some d =>
              simp only [q4, Option.bind_some, q5] at hl
              obtain ⟨us2, hx2, hd2⟩ := cont R2 q4
              obtain ⟨v2, hv2, dx⟩ := hd2.get q5
              refine ⟨⟨us2, v2, SqL.of hx2, hv2⟩, fun H' => ∃ m3 δ3 acc us, Rp K (G2.push L us) m3 H' σ δ3 ∧ Ext m1 H1 m3 H' ∧ DvAll K (mask H' m3) us acc ∧ okWipe δ3 vs = true ∧ lcLoopL g tt te vs i m (n + 1) acc δ3 = some (out, δe), fun H' hN => ⟨m, by omega, by omega, hN⟩, fun x H3 y => ?_⟩
              obtain ⟨rfl, hxx⟩ := y
              have hxx2 := hxx us2 (SqL.of hx2)
              rw [hv2] at hxx2; cases hxx2
              cases q3 : g d (wipeD δ2 vs) with
              | none => rw [q3] at hl; cases hl
              | some δ3 =>
                simp only [q3, Option.bind_some] at hl
                refine ⟨G2.push L us, m2, wipeD δ2 vs, d, δ3, R2.wiped vs hw2, dx, q3, fun σ4 H4 m4 R4 e4 z4 y4 => ⟨wipe_eq (y4.trans (wipe_length σ vs)) (fun j hj => z4 j fun z => hj (hws j z)), ?_⟩⟩
                cases q4 : tt δ3 with
                | none => rw [q4] at hl; cases hl
                | some r4 =>
                  obtain ⟨b, δ4⟩ := r4
                  simp only [q4, Option.bind_some] at hl
                  have hσ : ∀ j, j ∉ vs → σ4[j]? = σ[j]? := fun j hj => (z4 j fun z => hj (hws j z)).trans (wipe_out hj)
                  refine ⟨G2.push L us, m4, δ3, b, δ4, R4, q4, fun H5 m5 R5 e5 => ?_⟩
                  cases b with
                  | false =>
                    rw [if_neg Bool.false_ne_true] at hl
                    show if false = true then _ else _
                    rw [if_neg Bool.false_ne_true]
                    have e45 := e4.trans e5
                    exact ⟨m5, restD δ2 vs δ4, acc, us, R2.restore R5 e45 hw2 hσ, e2.trans e45, da.mono e45.same, restD_ok hw2, hl⟩
                  | true =>
                    rw [if_pos rfl] at hl
                    show if true = true then _ else _
                    rw [if_pos rfl]
                    cases q5 : te δ4 with
                    | none => rw [q5] at hl; cases hl
                    | some r5 =>
                      obtain ⟨a, δ5⟩ := r5
                      cases q6 : frz a δ5 with
                      | none => simp only [q5, Option.bind_some, q6] at hl; cases hl
                      | some r6 =>
                        obtain ⟨yd, δ6⟩ := r6
                        simp only [q5, Option.bind_some, q6] at hl
                        split at hl
                        · rename_i hsz
                          refine ⟨G2.push L us, m5, δ4, a, δ5, R5, q5, fun v H6 m6 R6 e6 h6 => ?_⟩
                          obtain ⟨m7, R7, e7, d7⟩ := frz_ok R6 h6 q6
                          have e47 := ((e4.trans e5).trans e6).trans e7
                          have Rr := R2.restore R7 e47 hw2 hσ
                          have hLl : H6 L = some (.lst us) := R7.keep L _ (by show upd G2.H0 L (.lst us) L = some _; rw [upd_same]) (fun j z => Lb j z)
                          have dal := da.mono e47.same
                          obtain ⟨Rg, eg⟩ := Rr.grow (ys := us ++ [v]) Lb
                          refine ⟨us, hLl, by rw [da.length]; exact hsz, m7, restD δ2 vs δ6, acc ++ [yd], us ++ [v], Rg, (e2.trans e47).trans eg, ?_, restD_ok hw2, hl⟩
                          exact (dal.mono eg.same).append (.cons (d7.mono eg.same) .nil)
                        · cases hl
    · cases e
theorem dn_lcL {ifs : List Expr} {scope : Scope} {own : List (Str × Nat)} {pos : Pos} (hN : X.N.Nodup) (hi : PE X iter (tO X.K G (vO i))) (ok : BlkOk X.N X.env.scope scope own)
    (hg : ∀ (G : Gm) (s : Shared) (H : Hp) (C : Addr) (cl : List (Str × Addr)) (fp : List Addr), PG (X.blk s H scope (compEnvC scope cl C X.env) fp) tg (tG X.K G ws g))
    (ht : ∀ (G : Gm) (s : Shared) (H : Hp) (C : Addr) (cl : List (Str × Addr)) (fp : List Addr), PTs (X.blk s H scope (compEnvC scope cl C X.env) fp) ifs (tT X.K G tt))
    (he : ∀ (G : Gm) (s : Shared) (H : Hp) (C : Addr) (cl : List (Str × Addr)) (fp : List Addr), PE (X.blk s H scope (compEnvC scope cl C X.env) fp) elt (tO X.K G te)) (hws : ∀ j ∈ ws, j ∈ own.map (·.2) := by decide) (hc : X.calm = true := by rfl) (hs : ∀ x, foldedSetIterable iter X.env x = pure x := by intro _; rfl) :
    PE X (.ListComp elt [⟨tg, iter, ifs, 0⟩] scope pos) (tN X.K G (lcL i g tt te (own.map (·.2)))) :=
  PE.imp (pe_lc (g := fun v σ H Q => ∃ G, tG X.K G ws g v σ H Q) (tt := fun σ H Q => ∃ G, tT X.K G tt σ H Q) (te := fun σ H Q => ∃ G, tO X.K G te σ H Q) hc hN (pi_seq hi) ok
    (fun s H C cl fp => ⟨fun pins s' σ H' v u Q I r ⟨G', q⟩ => (hg G' s H C cl fp).run pins s' σ H' v u Q I r q⟩)
    (fun s H C cl fp => ⟨fun pins s' σ H' Q I ⟨G', q⟩ => (ht G' s H C cl fp).run pins s' σ H' Q I q⟩)
    (fun s H C cl fp => ⟨fun pins s' σ H' Q I ⟨G', q⟩ => (he G' s H C cl fp).run pins s' σ H' Q I q⟩) hs) (tLcL_of hws)
theorem ds_ownLcL {j : Nat} {y : Str} {py pos spos : Pos} {ifs : List Expr} {scope : Scope} {own : List (Str × Nat)} (hN : X.N.Nodup) (hi : PE X iter (tO X.K G (vO i))) (ok : BlkOk X.N X.env.scope scope own)
    (hg : ∀ (G : Gm) (s : Shared) (H : Hp) (C : Addr) (cl : List (Str × Addr)) (fp : List Addr), PG (X.blk s H scope (compEnvC scope cl C X.env) fp) tg (tG X.K G ws g))
    (ht : ∀ (G : Gm) (s : Shared) (H : Hp) (C : Addr) (cl : List (Str × Addr)) (fp : List Addr), PTs (X.blk s H scope (compEnvC scope cl C X.env) fp) ifs (tT X.K G tt))
    (he : ∀ (G : Gm) (s : Shared) (H : Hp) (C : Addr) (cl : List (Str × Addr)) (fp : List Addr), PE (X.blk s H scope (compEnvC scope cl C X.env) fp) elt (tO X.K G te))
    (hsw : swapsWith (.ListComp elt [⟨tg, iter, ifs, 0⟩] scope pos) (some (.Name y py)) spos.line X.env = pure true)
    (hy : X.N[j]? = some y := by rfl) (hyl : X.env.scope.names.lookup y = some .local := by rfl) (hws : ∀ j ∈ ws, j ∈ own.map (·.2) := by decide) (hc : X.calm = true := by rfl) (hs : ∀ x, foldedSetIterable iter X.env x = pure x := by intro _; rfl) :
    PS X (.Assign [.Name y py] (.ListComp elt [⟨tg, iter, ifs, 0⟩] scope pos) spos) (tS X.K G (ownS j (lcL i g tt te (own.map (·.2))))) :=
  PS.imp (ps_setLc (g := fun v σ H Q => ∃ G, tG X.K G ws g v σ H Q) (tt := fun σ H Q => ∃ G, tT X.K G tt σ H Q) (te := fun σ H Q => ∃ G, tO X.K G te σ H Q) hc hN hy hyl hsw (pi_seq hi) ok
    (fun s H C cl fp => ⟨fun pins s' σ H' v u Q I r ⟨G', q⟩ => (hg G' s H C cl fp).run pins s' σ H' v u Q I r q⟩)
    (fun s H C cl fp => ⟨fun pins s' σ H' Q I ⟨G', q⟩ => (ht G' s H C cl fp).run pins s' σ H' Q I q⟩)
    (fun s H C cl fp => ⟨fun pins s' σ H' Q I ⟨G', q⟩ => (he G' s H C cl fp).run pins s' σ H' Q I q⟩) hs) fun E σ H q => dn_use (tLcL_of hws) q
theorem ds_setLcL {j : Nat} {y : Str} {py pos spos : Pos} {ifs : List Expr} {scope : Scope} {own : List (Str × Nat)} (hN : X.N.Nodup) (hi : PE X iter (tO X.K G (vO i))) (ok : BlkOk X.N X.env.scope scope own)
    (hg : ∀ (G : Gm) (s : Shared) (H : Hp) (C : Addr) (cl : List (Str × Addr)) (fp : List Addr), PG (X.blk s H scope (compEnvC scope cl C X.env) fp) tg (tG X.K G ws g))
    (ht : ∀ (G : Gm) (s : Shared) (H : Hp) (C : Addr) (cl : List (Str × Addr)) (fp : List Addr), PTs (X.blk s H scope (compEnvC scope cl C X.env) fp) ifs (tT X.K G tt))
    (he : ∀ (G : Gm) (s : Shared) (H : Hp) (C : Addr) (cl : List (Str × Addr)) (fp : List Addr), PE (X.blk s H scope (compEnvC scope cl C X.env) fp) elt (tO X.K G te))
    (hsw : swapsWith (.ListComp elt [⟨tg, iter, ifs, 0⟩] scope pos) (some (.Name y py)) spos.line X.env = pure true)
    (hy : X.N[j]? = some y := by rfl) (hyl : X.env.scope.names.lookup y = some .local := by rfl) (hws : ∀ j ∈ ws, j ∈ own.map (·.2) := by decide) (hc : X.calm = true := by rfl) (hs : ∀ x, foldedSetIterable iter X.env x = pure x := by intro _; rfl) :
    PS X (.Assign [.Name y py] (.ListComp elt [⟨tg, iter, ifs, 0⟩] scope pos) spos) (tS X.K G (setS j (nO (lcL i g tt te (own.map (·.2)))))) :=
  PS.imp (ps_setLc (g := fun v σ H Q => ∃ G, tG X.K G ws g v σ H Q) (tt := fun σ H Q => ∃ G, tT X.K G tt σ H Q) (te := fun σ H Q => ∃ G, tO X.K G te σ H Q) hc hN hy hyl hsw (pi_seq hi) ok
    (fun s H C cl fp => ⟨fun pins s' σ H' v u Q I r ⟨G', q⟩ => (hg G' s H C cl fp).run pins s' σ H' v u Q I r q⟩)
    (fun s H C cl fp => ⟨fun pins s' σ H' Q I ⟨G', q⟩ => (ht G' s H C cl fp).run pins s' σ H' Q I q⟩)
    (fun s H C cl fp => ⟨fun pins s' σ H' Q I ⟨G', q⟩ => (he G' s H C cl fp).run pins s' σ H' Q I q⟩) hs) fun E σ H q => dn_useF (tLcL_of hws) q
end
/-! ### their plain side -/
section
variable {δ : DE} {g : EG} {tt : ET} {te : EO} {s1 : ES} {i : Nat} {vs : List Nat} {ds : List D} {PN : List D → DE → Prop} {PS : Fl → DE → Prop}
def lkd (i : Nat) (ds : List D) (δ : DE) : DE := δ.set i (some (.bo ds))
theorem unlock_lkd (e : δ[i]? = some (some (.ow ds))) : unlockD i true (lkd i ds δ) = δ := by
  have hl : i < δ.length := (List.getElem?_eq_some_iff.mp e).1
  unfold unlockD lkd
  rw [if_pos rfl, set_self hl]
  simp only [List.set_set]
  refine List.ext_getElem? fun j => ?_
  by_cases hj : i = j
  · subst hj; rw [set_self hl, e]
  · rw [List.getElem?_set_ne hj]
theorem lcL_pure {F : D → Option D} : ∀ (es : List D) (k : Nat) (acc : List D), ds.drop k = es → acc.length + es.length ≤ sizeLine → own? i δ = some ds →
    (∀ x ∈ ds, Wg g x (wipeD δ vs) fun δ1 => W tt δ1 fun b δ2 => (b = true → W te δ2 fun a δ3 => ∃ y δ4, frz a δ3 = some (y, δ4) ∧ F x = some y ∧ restD δ vs δ4 = δ) ∧ (b = false → F x = none ∧ restD δ vs δ2 = δ)) →
    lcLoopL g tt te vs i es.length k acc δ = some (acc ++ es.filterMap F, δ)
  | [], k, acc, hd, _, ho, _ => by
    have : ds.length ≤ k := by
      have := congrArg List.length hd; simp at this; omega
    simp [lcLoopL, ho, this]
  | x :: es, k, acc, hd, hl, ho, h => by
    have hx : ds[k]? = some x := by
      have := congrArg (fun l => l[0]?) hd
      simpa [List.getElem?_drop] using this
    have hd2 : ds.drop (k + 1) = es := by rw [← List.tail_drop, hd]; rfl
    obtain ⟨δ1, e1, b, δ2, e2, h1, h2⟩ := h x (List.mem_of_getElem? hx)
    have hl' : acc.length + es.length + 1 ≤ sizeLine := by simpa [Nat.add_assoc] using hl
    rw [List.length_cons]
    unfold lcLoopL
    simp only [ho, Option.bind_some, hx, e1, e2]
    cases b with
    | true =>
      obtain ⟨a, δ3, e3, y, δ4, e4, hF, hr⟩ := h1 rfl
      rw [if_pos rfl]
      simp only [e3, Option.bind_some, e4]
      rw [if_pos (by omega), hr, lcL_pure es (k + 1) (acc ++ [y]) hd2 (by simp; omega) ho h]
      simp [List.filterMap_cons, hF]
    | false =>
      obtain ⟨hF, hr⟩ := h2 rfl
      rw [if_neg Bool.false_ne_true, hr, lcL_pure es (k + 1) acc hd2 (by omega) ho h]
      simp [List.filterMap_cons, hF]
/-- over an owned list -/
theorem w_lcL {F : D → Option D} (e : δ[i]? = some (some (.ow ds))) (hw : okWipe (lkd i ds δ) vs = true) (hl : ds.length ≤ sizeLine)
    (h : ∀ x ∈ ds, Wg g x (wipeD (lkd i ds δ) vs) fun δ1 => W tt δ1 fun b δ2 => (b = true → W te δ2 fun a δ3 => ∃ y δ4, frz a δ3 = some (y, δ4) ∧ F x = some y ∧ restD (lkd i ds δ) vs δ4 = lkd i ds δ) ∧ (b = false → F x = none ∧ restD (lkd i ds δ) vs δ2 = lkd i ds δ))
    (p : PN (ds.filterMap F) δ) : W (lcL i g tt te vs) δ PN := by
  have hlt : i < δ.length := (List.getElem?_eq_some_iff.mp e).1
  have ho : own? i (lkd i ds δ) = some ds := by unfold own? lkd; rw [set_self hlt]; rfl
  have q := lcL_pure ds 0 [] rfl (by simpa using hl) ho h
  refine ⟨ds.filterMap F, δ, ?_, p⟩
  unfold lcL lockD
  rw [e]
  simp only [Option.bind_some]
  rw [if_pos (show okWipe (δ.set i (some (.bo ds))) vs = true from hw)]
  rw [show (δ.set i (some (.bo ds))) = lkd i ds δ from rfl, q]
  simp only [Option.bind_some, List.nil_append, unlock_lkd e]
/-- over a borrowed list -/
theorem w_lcLb {F : D → Option D} (e : δ[i]? = some (some (.bo ds))) (hw : okWipe δ vs = true) (hl : ds.length ≤ sizeLine)
    (h : ∀ x ∈ ds, Wg g x (wipeD δ vs) fun δ1 => W tt δ1 fun b δ2 => (b = true → W te δ2 fun a δ3 => ∃ y δ4, frz a δ3 = some (y, δ4) ∧ F x = some y ∧ restD δ vs δ4 = δ) ∧ (b = false → F x = none ∧ restD δ vs δ2 = δ))
    (p : PN (ds.filterMap F) δ) : W (lcL i g tt te vs) δ PN := by
  have ho : own? i δ = some ds := by unfold own?; rw [e]; rfl
  have q := lcL_pure ds 0 [] rfl (by simpa using hl) ho h
  refine ⟨ds.filterMap F, δ, ?_, p⟩
  unfold lcL lockD
  rw [e]
  simp only [Option.bind_some]
  rw [if_pos hw, q]
  simp only [Option.bind_some, List.nil_append, unlockD, if_neg Bool.false_ne_true]
/-- a loop over such a list, which keeps it -/
theorem w_loopL {Rt : D → DE → Prop} (I : Nat → DE → Prop) (ho : ∀ k δ1, I k δ1 → own? i δ1 = some ds) (h0 : I 0 δ) (hs : ∀ (k : Nat) (x : D) (δ1 : DE), ds[k]? = some x → I k δ1 → Wg g x δ1 fun δ2 => W s1 δ2 fun fl δ3 => (fl = .nx ∧ I (k + 1) δ3) ∨ (fl = .ct ∧ I (k + 1) δ3) ∨ ∃ r, fl = .rt r ∧ Rt r δ3)
    (p : ∀ δ1, I ds.length δ1 → PS .nx δ1) (pr : ∀ r δ1, Rt r δ1 → PS (.rt r) δ1) : W (loopL g s1 i ds.length 0) δ PS := by
  have key : ∀ (m k : Nat) (δ1 : DE), m + k = ds.length → I k δ1 → W (loopL g s1 i m k) δ1 PS := by
    intro m
    induction m with
    | zero =>
      intro k δ1 e hI
      have hk : k = ds.length := by omega
      refine ⟨.nx, δ1, ?_, p _ (hk ▸ hI)⟩
      unfold loopL
      rw [ho k δ1 hI]
      simp only [Option.bind_some]
      rw [if_pos (by omega)]
    | succ m ih =>
      intro k δ1 e hI
      have hlt : k < ds.length := by omega
      have hy : ds[k]? = some ds[k] := List.getElem?_eq_getElem hlt
      obtain ⟨δ2, e2, fl, δ3, e3, h⟩ := hs k _ δ1 hy hI
      rcases h with ⟨rfl, h⟩ | ⟨rfl, h⟩ | ⟨r, rfl, h⟩
      · obtain ⟨fl4, δ4, e4, p4⟩ := ih (k + 1) δ3 (by omega) h
        exact ⟨_, _, by unfold loopL; simp only [ho k δ1 hI, Option.bind_some, hy, e2, e3, e4], p4⟩
      · obtain ⟨fl4, δ4, e4, p4⟩ := ih (k + 1) δ3 (by omega) h
        exact ⟨_, _, by unfold loopL; simp only [ho k δ1 hI, Option.bind_some, hy, e2, e3, e4], p4⟩
      · exact ⟨_, _, by unfold loopL; simp only [ho k δ1 hI, Option.bind_some, hy, e2, e3], pr r δ3 h⟩
  exact key ds.length 0 δ rfl h0
theorem w_forL (e : δ[i]? = some (some (.ow ds))) (h : W (loopL g s1 i ds.length 0) (lkd i ds δ) fun fl δ2 => PS fl (unlockD i true δ2)) : W (forL i g s1) δ PS := by
  obtain ⟨fl, δ2, e2, p⟩ := h
  exact ⟨_, _, by unfold forL lockD; rw [e]; simp only [Option.bind_some]; rw [show (δ.set i (some (.bo ds))) = lkd i ds δ from rfl, e2]; rfl, p⟩
theorem w_forLb (e : δ[i]? = some (some (.bo ds))) (h : W (loopL g s1 i ds.length 0) δ PS) : W (forL i g s1) δ PS := by
  obtain ⟨fl, δ2, e2, p⟩ := h
  exact ⟨_, _, by unfold forL lockD; rw [e]; simp only [Option.bind_some]; rw [e2]; simp only [Option.bind_some, unlockD, if_neg Bool.false_ne_true], p⟩
end
/-! ### by what the slot holds -/
def altS (i : Nat) (f1 f2 : ES) : ES := fun δ => match δ[i]? with
  | some (some (.fz _)) => f1 δ
  | _ => f2 δ
def altN (i : Nat) (f1 f2 : EN) : EN := fun δ => match δ[i]? with
  | some (some (.fz _)) => f1 δ
  | _ => f2 δ
section
variable {X : Cx} {G : Gm} {st : Stmt} {e : Expr} {s1 s2 : ES} {n1 n2 : EN} {i : Nat}
theorem ds_alt (h1 : PS X st (tS X.K G s1)) (h2 : PS X st (tS X.K G s2)) : PS X st (tS X.K G (altS i s1 s2)) := ⟨fun pins s σ H D I q => by
  obtain ⟨ms, δ, fl, δ', R, e, k⟩ := q
  unfold altS at e
  split at e
  · exact h1.run pins s σ H D I ⟨ms, δ, fl, δ', R, e, k⟩
  · exact h2.run pins s σ H D I ⟨ms, δ, fl, δ', R, e, k⟩⟩
theorem dn_alt (h1 : PE X e (tN X.K G n1)) (h2 : PE X e (tN X.K G n2)) : PE X e (tN X.K G (altN i n1 n2)) := ⟨fun pins s σ H Q I q => by
  obtain ⟨ms, δ, ds, δ', R, e, k⟩ := q
  unfold altN at e
  split at e
  · exact h1.run pins s σ H Q I ⟨ms, δ, ds, δ', R, e, k⟩
  · exact h2.run pins s σ H Q I ⟨ms, δ, ds, δ', R, e, k⟩⟩
variable {δ : DE} {d : D} {ds : List D} {PN : List D → DE → Prop} {PS : Fl → DE → Prop}
theorem w_altS1 (e : δ[i]? = some (some (.fz d))) (h : W s1 δ PS) : W (altS i s1 s2) δ PS := by
  obtain ⟨a, δ1, e1, p⟩ := h
  exact ⟨a, δ1, by unfold altS; rw [e]; exact e1, p⟩
theorem w_altS2 (e : δ[i]? = some (some (.bo ds))) (h : W s2 δ PS) : W (altS i s1 s2) δ PS := by
  obtain ⟨a, δ1, e1, p⟩ := h
  exact ⟨a, δ1, by unfold altS; rw [e]; exact e1, p⟩
theorem w_altS3 (e : δ[i]? = some (some (.ow ds))) (h : W s2 δ PS) : W (altS i s1 s2) δ PS := by
  obtain ⟨a, δ1, e1, p⟩ := h
  exact ⟨a, δ1, by unfold altS; rw [e]; exact e1, p⟩
theorem w_altN1 (e : δ[i]? = some (some (.fz d))) (h : W n1 δ PN) : W (altN i n1 n2) δ PN := by
  obtain ⟨a, δ1, e1, p⟩ := h
  exact ⟨a, δ1, by unfold altN; rw [e]; exact e1, p⟩
theorem w_altN2 (e : δ[i]? = some (some (.bo ds))) (h : W n2 δ PN) : W (altN i n1 n2) δ PN := by
  obtain ⟨a, δ1, e1, p⟩ := h
  exact ⟨a, δ1, by unfold altN; rw [e]; exact e1, p⟩
theorem w_altN3 (e : δ[i]? = some (some (.ow ds))) (h : W n2 δ PN) : W (altN i n1 n2) δ PN := by
  obtain ⟨a, δ1, e1, p⟩ := h
  exact ⟨a, δ1, by unfold altN; rw [e]; exact e1, p⟩
end
end DL
namespace DL
open PySem PySem.Spec PyProof.Rows L2

theorem bd_add1 {i j : Int} {m n : Nat} (h : Bd i m) (k : Bd j n) : Bd (i + j) (max m n + 1) := by
  unfold Bd at *
  have h1 : i.natAbs < 2 ^ (max m n) := Nat.lt_of_lt_of_le h (Nat.pow_le_pow_right (by decide) (by omega))
  have h2 : j.natAbs < 2 ^ (max m n) := Nat.lt_of_lt_of_le k (Nat.pow_le_pow_right (by decide) (by omega))
  rw [Nat.pow_succ]
  omega
theorem bd_neg {i : Int} {m : Nat} (h : Bd i m) : Bd (-i) m := by unfold Bd at *; rw [Int.natAbs_neg]; exact h
theorem bd_abs {i : Int} {m n : Nat} (h : Bd i m) (hn : i.natAbs ≤ n) (h2 : n < 2 ^ m) : Bd i m := h
theorem bd_lit {i : Int} (n b : Nat) (h : i.natAbs ≤ b) (hb : b < 2 ^ n) : Bd i n := Nat.lt_of_le_of_lt h hb
theorem bd_it {i : Int} (h : Bd i 39) : It i := by
  unfold Bd at h
  unfold It
  have : (2 : Nat) ^ 39 = 549755813888 := by decide
  omega
section
variable {δ : DE} {fa : EA} {PN : List D → DE → Prop}
theorem w_zipT (h : W fa δ fun as δ1 => ∃ xs ys δ2, frzs as δ1 = some ([.tup xs, .tup ys], δ2) ∧ PN (zipD xs ys) δ2) : W (zipI fa) δ PN := by
  obtain ⟨a, δ1, e, xs, ys, δ2, e2, p⟩ := h
  exact ⟨_, _, by unfold zipI; simp only [e, Option.bind_some, e2], p⟩
theorem w_zipL (h : W fa δ fun as δ1 => ∃ xs ys δ2, frzs as δ1 = some ([.lst xs, .lst ys], δ2) ∧ PN (zipD xs ys) δ2) : W (zipI fa) δ PN := by
  obtain ⟨a, δ1, e, xs, ys, δ2, e2, p⟩ := h
  exact ⟨_, _, by unfold zipI; simp only [e, Option.bind_some, e2], p⟩
end
/-! ### fractions, their two bounds apart -/
structure Sq (a b : Nat) (p : Int × Int) : Prop where
  pos : 0 < p.2
  cop : Int.gcd p.1 p.2 = 1
  b1 : Bd p.1 a
  b2 : Bd p.2 b
theorem Sq.mono {a b a' b' : Nat} {p : Int × Int} (h : Sq a b p) (ha : a ≤ a') (hb : b ≤ b') : Sq a' b' p := ⟨h.pos, h.cop, bd_mono h.b1 ha, bd_mono h.b2 hb⟩
theorem sq_red {x y : Int} {a b : Nat} (hb : 0 < y) (h1 : Bd x a) (h2 : Bd y b) : Sq a b (redQ x y) :=
  have s := sc_red (n := max a b) hb (bd_mono h1 (Nat.le_max_left ..)) (bd_mono h2 (Nat.le_max_right ..))
  have hg : 0 < Int.gcd x y := Int.gcd_pos_of_ne_zero_right _ (by omega)
  ⟨s.pos, s.cop, bd_div h1 (by omega), bd_div h2 (by omega)⟩
def tmq (p q : Int × Int) : Int × Int := redQ (p.1 * q.1) (p.2 * q.2)
def smq (p q : Int × Int) : Int × Int := redQ (p.1 * q.2 + q.1 * p.2) (p.2 * q.2)
theorem sq_tm {a b a' b' : Nat} {p q : Int × Int} (hp : Sq a b p) (hq : Sq a' b' q) : Sq (a + a') (b + b') (tmq p q) :=
  sq_red (Int.mul_pos hp.pos hq.pos) (bd_mul hp.b1 hq.b1) (bd_mul hp.b2 hq.b2)
theorem sq_sm {a b a' b' : Nat} {p q : Int × Int} (hp : Sq a b p) (hq : Sq a' b' q) : Sq (max (a + b') (a' + b) + 1) (b + b') (smq p q) :=
  sq_red (Int.mul_pos hp.pos hq.pos) (bd_add1 (bd_mul hp.b1 hq.b2) (bd_mul hq.b1 hp.b2)) (bd_mul hp.b2 hq.b2)
theorem redq_self {p : Int × Int} (h : Int.gcd p.1 p.2 = 1) : redQ p.1 p.2 = p := by
  unfold redQ
  rw [h]
  simp
/-! ### the order of fractions -/
def leq (p q : Int × Int) : Prop := lt q p = false
theorem lt_iff {p q : Int × Int} : lt p q = true ↔ p.1 * q.2 < q.1 * p.2 := by unfold lt; rw [decide_eq_true_eq]
theorem lt_no {p q : Int × Int} : lt p q = false ↔ q.1 * p.2 ≤ p.1 * q.2 := by unfold lt; rw [decide_eq_false_iff_not]; omega
theorem leq_trans {p q r : Int × Int} (hp : 0 < p.2) (hq : 0 < q.2) (hr : 0 < r.2) (h1 : leq p q) (h2 : leq q r) : leq p r := by
  unfold leq at *
  rw [lt_no] at *
  have a : p.1 * q.2 * r.2 ≤ q.1 * p.2 * r.2 := Int.mul_le_mul_of_nonneg_right h1 (by omega)
  have b : q.1 * r.2 * p.2 ≤ r.1 * q.2 * p.2 := Int.mul_le_mul_of_nonneg_right h2 (by omega)
  have c : p.1 * r.2 * q.2 ≤ r.1 * p.2 * q.2 := by
    have e1 : p.1 * r.2 * q.2 = p.1 * q.2 * r.2 := by rw [Int.mul_assoc, Int.mul_comm r.2, ← Int.mul_assoc]
    have e2 : q.1 * p.2 * r.2 = q.1 * r.2 * p.2 := by rw [Int.mul_assoc, Int.mul_comm p.2, ← Int.mul_assoc]
    have e3 : r.1 * q.2 * p.2 = r.1 * p.2 * q.2 := by rw [Int.mul_assoc, Int.mul_comm q.2, ← Int.mul_assoc]
    omega
  exact Int.le_of_mul_le_mul_right c hq
theorem leq_of_lt {p q : Int × Int} (h : lt p q = true) : leq p q := by
  unfold leq
  rw [lt_iff] at h
  rw [lt_no]
  omega
theorem leq_refl (p : Int × Int) : leq p p := by unfold leq; rw [lt_no]; omega
/-- two that are neither below the other are one, in lowest terms -/
theorem dvd_cop {a b c : Int} (h : Int.gcd a b = 1) (d : a ∣ b * c) : a ∣ c := by
  rw [← Int.natAbs_dvd_natAbs] at d ⊢
  rw [Int.natAbs_mul] at d
  exact Nat.Coprime.dvd_of_dvd_mul_left (show Nat.gcd a.natAbs b.natAbs = 1 from h) d
theorem leq_anti {p q : Int × Int} (hp : 0 < p.2) (hq : 0 < q.2) (cp : Int.gcd p.1 p.2 = 1) (cq : Int.gcd q.1 q.2 = 1) (h1 : leq p q) (h2 : leq q p) : p = q := by
  unfold leq at *
  rw [lt_no] at *
  have e : p.1 * q.2 = q.1 * p.2 := by omega
  have d1 : p.2 ∣ q.2 := by
    have : p.2 ∣ p.1 * q.2 := ⟨q.1, by rw [e, Int.mul_comm]⟩
    exact dvd_cop (by rw [Int.gcd_comm]; exact cp) this
  have d2 : q.2 ∣ p.2 := by
    have : q.2 ∣ q.1 * p.2 := ⟨p.1, by rw [← e, Int.mul_comm]⟩
    exact dvd_cop (by rw [Int.gcd_comm]; exact cq) this
  have e2 : p.2 = q.2 := Int.le_antisymm (Int.le_of_dvd hq d1) (Int.le_of_dvd hp d2)
  have e1 : p.1 = q.1 := by
    rw [e2] at e
    exact Int.eq_of_mul_eq_mul_right (by omega) e
  exact Prod.ext e1 e2
/-! ### what repr shows -/
structure Sm (n w : Nat) (d : D) : Prop where
  s : shp n d = true
  a : (toPy d).showable = true
  b : (toPy d).leavesShort 13 = true
  w : (toPy d).weight ≤ w
theorem Sm.mono {n m w v : Nat} {d : D} (h : Sm n w d) (hn : n ≤ m) (hw : w ≤ v) : Sm m v d := ⟨shp_mono h.s hn, h.a, h.b, Nat.le_trans h.w hw⟩
theorem sm_int {i : Int} (h : It i) : Sm 0 41 (.int i) := by
  obtain ⟨a, b, c⟩ := int_small h
  exact ⟨rfl, a, b, c⟩
theorem sm_non : Sm 0 41 .non := ⟨rfl, rfl, rfl, by decide⟩
theorem sm_bl (b : Bool) : Sm 0 41 (.bl b) := by cases b <;> exact ⟨rfl, rfl, rfl, by decide⟩
theorem sm_q {p : Int × Int} (h1 : It p.1) (h2 : It p.2) : Sm 1 84 (qD p) := by
  obtain ⟨a, b, c, d⟩ := q_small h1 h2
  exact ⟨a, b, c, d⟩
theorem sm_all {n w : Nat} : ∀ {l : List D}, (∀ d ∈ l, Sm n w d) → PyData.showableAll (toPyAll l) = true ∧ PyData.leavesShortAll 13 (toPyAll l) = true ∧ PyData.weightAll (toPyAll l) ≤ l.length * (w + 1)
  | [], _ => by simp [toPyAll, PyData.showableAll, PyData.leavesShortAll, PyData.weightAll]
  | x :: l, h => by
    obtain ⟨i1, i2, i3⟩ := sm_all (l := l) fun d hd => h d (List.mem_cons_of_mem _ hd)
    obtain ⟨h1, h2, h3, h4⟩ := h x List.mem_cons_self
    refine ⟨?_, ?_, ?_⟩
    · simp only [toPyAll, PyData.showableAll, h2, i1, Bool.and_true]
    · simp only [toPyAll, PyData.leavesShortAll, h3, i2, Bool.and_true]
    · simp only [toPyAll, PyData.weightAll, List.length_cons, Nat.add_mul]; omega
theorem sm_lst {n w k : Nat} {l : List D} (h : ∀ d ∈ l, Sm n w d) (hk : l.length ≤ k) : Sm (n + 1) (k * (w + 1) + 1) (.lst l) := by
  obtain ⟨k1, k2, k3⟩ := sm_all h
  have := Nat.mul_le_mul_right (w + 1) hk
  refine ⟨?_, ?_, ?_, ?_⟩
  · simp only [shp, List.all_eq_true]; exact fun d hd => (h d hd).s
  · simpa only [toPy, PyData.showable] using k1
  · simpa only [toPy, PyData.leavesShort] using k2
  · simp only [toPy, PyData.weight]; omega
theorem sm_tup {n w k : Nat} {l : List D} (h : ∀ d ∈ l, Sm n w d) (hk : l.length ≤ k) : Sm (n + 1) (k * (w + 1) + 1) (.tup l) := by
  obtain ⟨k1, k2, k3⟩ := sm_all h
  have := Nat.mul_le_mul_right (w + 1) hk
  refine ⟨?_, ?_, ?_, ?_⟩
  · simp only [shp, List.all_eq_true]; exact fun d hd => (h d hd).s
  · simpa only [toPy, PyData.showable] using k1
  · simpa only [toPy, PyData.leavesShort] using k2
  · simp only [toPy, PyData.weight]; omega
theorem sm_shw {n w : Nat} {d : D} (h : Sm n w d) (hn : n ≤ 60) (hw : w ≤ 2 ^ 20) : shwOk d = true := shw_of (shp_mono h.s hn) h.a h.b (Nat.le_trans h.w hw)
theorem sm_two {n w : Nat} {x y : D} (hx : Sm n w x) (hy : Sm n w y) : Sm (n + 1) (2 * (w + 1) + 1) (.lst [x, y]) := sm_lst (k := 2) (fun d hd => by
  rcases List.mem_cons.mp hd with rfl | hd
  · exact hx
  · rcases List.mem_cons.mp hd with rfl | hd
    · exact hy
    · cases hd) (by simp)
section
variable {δ : DE} {f g : EO} {fr : ER} {P : Ar → DE → Prop}
theorem w_rg2 {PR : Int × Int → DE → Prop} (h : W f δ fun a δ1 => W g δ1 fun b δ2 => ∃ i j, a = .d (.int i) ∧ b = .d (.int j) ∧ PR (i, j) δ2) : W (rg2 f g) δ PR := by
  obtain ⟨a, δ1, e, b, δ2, e2, x, y, rfl, rfl, p⟩ := h
  exact ⟨_, _, by unfold rg2; simp only [e, Option.bind_some, e2], p⟩
theorem w_tupRg (h : W fr δ fun r δ1 => rgOk r.1 r.2 = true ∧ P (.d (.tup (rngD r.1 (r.2 - r.1).toNat))) δ1) : W (tupRg fr) δ P := by
  obtain ⟨r, δ1, e, hj, p⟩ := h
  exact ⟨_, _, by unfold tupRg; simp only [e, Option.bind_some]; rw [if_pos hj], p⟩
end
/-! ### shapes of what is left -/
section
variable {δ δ2 : DE} {a b : Ar} {as : List Ar} {x y z d : D} {ds : List D} {k : Bool} {i : Nat}
theorem ex2 {o : Op2} {P : D → Prop} (h1 : rsl δ a = some x) (h2 : rsl δ b = some y) (h3 : o x y = some z) (p : P z) : ∃ x y z, rsl δ a = some x ∧ rsl δ b = some y ∧ o x y = some z ∧ P z := ⟨x, y, z, h1, h2, h3, p⟩
theorem ex1 {o : Op1} {P : D → Prop} (h1 : rsl δ a = some x) (h3 : o x = some z) (p : P z) : ∃ x z, rsl δ a = some x ∧ o x = some z ∧ P z := ⟨x, z, h1, h3, p⟩
theorem exN {o : OpN} {P : D → Prop} (h1 : rsls δ as = some ds) (h3 : o ds = some z) (p : P z) : ∃ ds z, rsls δ as = some ds ∧ o ds = some z ∧ P z := ⟨ds, z, h1, h3, p⟩
theorem exI2 {P : Int → Int → Prop} {C : Int → Int → Prop} {i j : Int} (h1 : rsl δ a = some (.int i)) (h2 : rsl δ b = some (.int j)) (c : C i j) (p : P i j) : ∃ i j, rsl δ a = some (.int i) ∧ rsl δ b = some (.int j) ∧ C i j ∧ P i j := ⟨i, j, h1, h2, c, p⟩
theorem exIM {P : Int → Int → Prop} {i j : Int} (h1 : rsl δ a = some (.int i)) (h2 : rsl δ b = some (.int j)) (c : mulOk i j = true) (p : P i j) : ∃ i j, rsl δ a = some (.int i) ∧ rsl δ b = some (.int j) ∧ mulOk i j = true ∧ P i j := ⟨i, j, h1, h2, c, p⟩
theorem exID {P : Int → Int → Prop} {i j : Int} (h1 : rsl δ a = some (.int i)) (h2 : rsl δ b = some (.int j)) (c : divOk i j = true) (p : P i j) : ∃ i j, rsl δ a = some (.int i) ∧ rsl δ b = some (.int j) ∧ divOk i j = true ∧ P i j := ⟨i, j, h1, h2, c, p⟩
theorem exIR {P : Int → Int → Prop} {i j : Int} (h1 : rsl δ a = some (.int i)) (h2 : rsl δ b = some (.int j)) (c : j ≠ 0) (p : P i j) : ∃ i j, rsl δ a = some (.int i) ∧ rsl δ b = some (.int j) ∧ j ≠ 0 ∧ P i j := ⟨i, j, h1, h2, c, p⟩
theorem exT {P : List D → DE → Prop} (h1 : frzs as δ = some (ds, δ2)) (h2 : ds.length ≤ sizeLine) (p : P ds δ2) : ∃ ds δ2, frzs as δ = some (ds, δ2) ∧ ds.length ≤ sizeLine ∧ P ds δ2 := ⟨ds, δ2, h1, h2, p⟩
theorem exF {P : D → DE → Prop} (h1 : frz a δ = some (d, δ2)) (p : P d δ2) : ∃ d δ2, frz a δ = some (d, δ2) ∧ P d δ2 := ⟨d, δ2, h1, p⟩
theorem exSq {P : D → DE → List D → Prop} (h1 : frz a δ = some (d, δ2)) (h2 : itemsD d = some ds) (p : P d δ2 ds) : ∃ d δ2 ds, frz a δ = some (d, δ2) ∧ itemsD d = some ds ∧ P d δ2 ds := ⟨d, δ2, ds, h1, h2, p⟩
theorem exTr {P : Bool → Prop} (h1 : rsl δ a = some d) (h2 : truD d = some k) (p : P k) : ∃ d b, rsl δ a = some d ∧ truD d = some b ∧ P b := ⟨d, k, h1, h2, p⟩
theorem exTr2 {P : D → Bool → Prop} (h1 : rsl δ a = some d) (h2 : truD d = some k) (p : P d k) : ∃ d b, rsl δ a = some d ∧ truD d = some b ∧ P d b := ⟨d, k, h1, h2, p⟩
theorem exB {P : Bool → Prop} (h1 : a = .d (.bl k)) (p : P k) : ∃ b, a = .d (.bl b) ∧ P b := ⟨k, h1, p⟩
theorem exI {P : Int → Prop} {i : Int} (h1 : a = .d (.int i)) (p : P i) : ∃ i, a = .d (.int i) ∧ P i := ⟨i, h1, p⟩
theorem exSl {l h : Option Int} {P : D → Prop} (h1 : rsl δ a = some x) (h2 : slD x l h = some z) (p : P z) : ∃ x z, rsl δ a = some x ∧ slD x l h = some z ∧ P z := ⟨x, z, h1, h2, p⟩
theorem exDM {P : Int → Int → Prop} {i j : Int} (h1 : rsls δ as = some [.int i, .int j]) (c : 0 < j ∧ j < 1073741824) (p : P i j) : ∃ i j, rsls δ as = some [.int i, .int j] ∧ (0 < j ∧ j < 1073741824) ∧ P i j := ⟨i, j, h1, c, p⟩
theorem exR1 {P : Int → Prop} {j : Int} (h1 : as = [.d (.int j)]) (c : -(2 ^ 62) ≤ j ∧ j < 2 ^ 62) (p : P j) : ∃ j : Int, as = [.d (.int j)] ∧ (-(2 ^ 62) ≤ j ∧ j < 2 ^ 62) ∧ P j := ⟨j, h1, c, p⟩
theorem exR2 {P : Int → Int → Prop} {i j : Int} (h1 : as = [.d (.int i), .d (.int j)]) (c : -(2 ^ 62) ≤ i ∧ i < 2 ^ 62 ∧ -(2 ^ 62) ≤ j ∧ j < 2 ^ 62) (p : P i j) : ∃ i j : Int, as = [.d (.int i), .d (.int j)] ∧ (-(2 ^ 62) ≤ i ∧ i < 2 ^ 62 ∧ -(2 ^ 62) ≤ j ∧ j < 2 ^ 62) ∧ P i j := ⟨i, j, h1, c, p⟩
theorem exP2 {P : D → D → DE → Prop} (h1 : frzs as δ = some ([x, y], δ2)) (p : P x y δ2) : ∃ x y δ2, frzs as δ = some ([x, y], δ2) ∧ P x y δ2 := ⟨x, y, δ2, h1, p⟩
theorem exP3 {P : D → D → D → DE → Prop} (h1 : frzs as δ = some ([x, y, z], δ2)) (p : P x y z δ2) : ∃ x y z δ2, frzs as δ = some ([x, y, z], δ2) ∧ P x y z δ2 := ⟨x, y, z, δ2, h1, p⟩
end
/-- a slot that holds data or nothing -/
def NF : Option Sl → Prop | none => True | some (.fz _) => True | _ => False
theorem NF.nb {s : Option Sl} (h : NF s) : NB s := by
  cases s with
  | none => trivial
  | some s => cases s with
    | fz d => trivial
    | ow d => exact h.elim
    | bo d => exact h.elim
theorem nf_none : NF none := trivial
theorem nf_fz {d : D} : NF (some (.fz d)) := trivial
theorem ow_1 {δ : DE} {i : Nat} {s : Option Sl} (h : δ[i]? = some s) (hs : NF s) : okWipe δ [i] = true := by
  cases s with
  | none => simp [okWipe, h]
  | some s => cases s with
    | fz d => simp [okWipe, h]
    | ow d => exact hs.elim
    | bo d => exact hs.elim
theorem ow_2 {δ : DE} {i j : Nat} {s t : Option Sl} (h : δ[i]? = some s) (hs : NF s) (h2 : δ[j]? = some t) (ht : NF t) : okWipe δ [i, j] = true := by
  have h1 := ow_1 h hs
  have h3 := ow_1 h2 ht
  unfold okWipe at *
  rw [List.all_cons] at h1 h3 ⊢
  rw [Bool.and_eq_true] at h1 ⊢
  exact ⟨h1.1, by rw [List.all_cons]; exact h3⟩
end DL
namespace DL
open PySem PySem.Spec PyProof.Rows L2

/-! ### sorted of a tuple of ints -/
def rSortT (K : PySem.W.Frag) : List V → Hp → VK → Prop := fun vs H Q => ∃ (a : Addr) (ns : List Int), vs = [V.ref a] ∧ SqT K H a (ns.map V.int) ∧
  ∀ (ms : List Int) (p : Addr), ms.Perm ns → ms.Pairwise (· ≤ ·) → H p = none → Q (.ref p) (upd H p (.lst (ms.map V.int)))
theorem cr_sortT2 {X : Cx} : CallR X (.builtin "sorted") (rSortT X.K) := by
  intro pins s σ H vs us Q I r h
  obtain ⟨a, ns, rfl, hs, q⟩ := h
  obtain ⟨its, rv, htup, hz⟩ := I.tuple hs
  rw [Vals.ref1 r]
  have hi := rv.ints
  have hzl : its.length ≤ sizeLine := by rw [← rv.length]; exact hz
  obtain ⟨ob, ho, hc, n, hd⟩ := htup
  refine Calls.call_function_entry kind_sorted plain_sorted entry_sorted (args_sorted1 _) ?_
  unfold Builtin.«sorted»
  refine wpAny_bind (m := checkCount "sorted" 1 1 _) (wpAny_pure ?_)
  refine wpAny_bind (wpAny_collect_seq a (.inr rfl) ho hc hd (fun h1 keep => ?_) (by rw [List.size_toArray]; exact hzl))
  have I1 : Inv X pins σ H { s with heap := h1 } := I.kept (t' := s.toks) keep
  refine wpAny_bind (PySem.wpAny_newList ?_ (by simpa using hzl))
  have hnew : (h1.push (seqObj "list" its.toArray 0)).get? h1.objs.size = some (seqObj "list" its.toArray 0) := Heap.get?_push_size _ rfl
  refine wpAny_bind (wpAny_holding (wpAny_call_entry slot_list_sort ⟨_, hnew, rfl⟩ entry_list_sort
    (SrtO.list_sort_ord SrtO.swo_int hnew hzl (fun h2 => SrtO.ints_sortable hi h2) fun out e1 e2 => ⟨_, rfl, ?_⟩) (args_list_sort _)))
  obtain ⟨k1, k2, k3⟩ := SrtO.ints_out hi e1 e2
  obtain ⟨ep, hat⟩ := sortedHeap_at (vs := its) (out := out.toArray) hnew
  have hfit : ((out.map SrtO.iv).map V.int).length ≤ sizeLine := by
    rw [List.length_map, k2.length_eq, ← List.length_map (f := V.int)]
    exact hz
  refine wpAny_pure ⟨_, rfl, .ref h1.objs.size, upd H h1.objs.size (.lst ((out.map SrtO.iv).map V.int)), I1.laid (t' := s.toks) (fun b u z => ?_) (Nat.le_refl _) ⟨hfit, out, ep, vals_of_ints k1, hat⟩, rfl, q _ _ k2 k3 (I1.hok.fresh (Nat.le_refl _))⟩
  have zl := Heap.lt_size z
  rw [sortedHeap_old (Nat.ne_of_lt zl) (by rw [size_push']; exact Nat.lt_succ_of_lt zl), Heap.get?_push_ne _ _ _ (Nat.ne_of_lt zl)]
  exact z
def sortTD : OpN := fun ds => match ds with
  | [.tup xs] => (intsD xs).bind fun ns => some (.lst ((sortI ns).map D.int))
  | _ => none
theorem spec_sortT {K : PySem.W.Frag} : SpecN K (rSortT K) sortTD := fun ms H vs ds d Q h hm e k => by
  unfold sortTD at e
  split at e
  · rename_i xs
    cases q : intsD xs with
    | none => rw [q] at e; cases e
    | some ns =>
      rw [q] at e; cases e
      obtain ⟨v, rfl, t⟩ := top1 h
      obtain ⟨p, us, rfl, s1, a1⟩ := t.tup
      rw [intsD_ok q] at a1
      rw [a1.ints] at s1
      refine ⟨p, ns, rfl, s1, fun ms' r h1 h2 hr => ?_⟩
      rw [sortI_unique h1 h2]
      exact k _ _ (same_upd hr) (dv_new_lst hm hr (DvAll.of_ints _))
  · cases e
theorem cr_or {X : Cx} {f : Value} {r1 r2 : List V → Hp → VK → Prop} (h1 : CallR X f r1) (h2 : CallR X f r2) : CallR X f (fun vs H Q => r1 vs H Q ∨ r2 vs H Q) := by
  intro pins s σ H vs us Q I r h
  rcases h with h | h
  · exact h1 pins s σ H vs us Q I r h
  · exact h2 pins s σ H vs us Q I r h
def rSortAny (K : PySem.W.Frag) : List V → Hp → VK → Prop := fun vs H Q => rSortedI K vs H Q ∨ rSortT K vs H Q
theorem cr_sortAny {X : Cx} : CallR X (.builtin "sorted") (rSortAny X.K) := cr_or cr_sortedI cr_sortT2
def sortAnyD : OpN := fun ds => match ds with
  | [.tup xs] => sortTD [.tup xs]
  | ds => sortedD ds
theorem spec_sortAny {K : PySem.W.Frag} : SpecN K (rSortAny K) sortAnyD := fun ms H vs ds d Q h hm e k => by
  unfold sortAnyD at e
  split at e
  · exact .inr (spec_sortT ms H vs _ d Q h hm e k)
  · exact .inl (spec_sorted ms H vs _ d Q h hm e k)
theorem sortT_ev (ns : List Int) : sortAnyD [.tup (ns.map D.int)] = some (.lst ((sortI ns).map D.int)) := by
  unfold sortAnyD sortTD
  simp [intsD_map]
theorem exIP {δ : DE} {a b : Ar} {P : Int → Int → Prop} {i j : Int} (h1 : rsl δ a = some (.int i)) (h2 : rsl δ b = some (.int j)) (c : 0 ≤ j ∧ j ≤ 1000000 ∧ i.natAbs < 2 ^ 64) (p : P i j) : ∃ i j, rsl δ a = some (.int i) ∧ rsl δ b = some (.int j) ∧ (0 ≤ j ∧ j ≤ 1000000 ∧ i.natAbs < 2 ^ 64) ∧ P i j := ⟨i, j, h1, h2, c, p⟩
theorem wrf {F : FD} {as : List Ar} {δ : DE} {sls : List Sl} {P : Ar → DE → Prop} (h : Wf F sls fun r o => lent as sls o = some [] ∧ P (.d r) δ) (e : lentIx δ as = []) (e1 : giveSs δ as = some sls) : Wr F as δ P := by
  obtain ⟨r, o, e2, e3, p⟩ := h
  exact wrp e2 e e1 e3 p
theorem mul_two (x : D) : (List.replicate (Int.toNat 2) [x]).flatten = [x, x] := rfl
theorem nb_ow {ds : List D} : NB (some (.ow ds)) := trivial
theorem nb_t {b : Bool} (h : (!b) = false) : b = true := by cases b with | true => rfl | false => cases h
end DL
namespace DL
open PySem PySem.Spec PyProof.Rows L2

/-! ### any number of names, by a tuple; new lists among them -/
def gsNames : List Nat → TGs
  | [] => gNil
  | i :: is => gCons (gName i) (gsNames is)
def setL : List Nat → List V → L2.St → L2.St
  | i :: is, v :: vs, σ => setL is vs (σ.set i (some v))
  | _, _, σ => σ
theorem setV_comm : ∀ {ixs : List Nat} {vs : List V} {σ : L2.St} {i : Nat} {x : Option V}, i ∉ ixs → setV ixs vs (σ.set i x) = (setV ixs vs σ).set i x
  | [], _, _, _, _, _ => rfl
  | j :: ixs, [], _, _, _, _ => rfl
  | j :: ixs, v :: vs, σ, i, x, h => by
    simp only [List.mem_cons, not_or] at h
    show (setV ixs vs (σ.set i x)).set j (some v) = ((setV ixs vs σ).set j (some v)).set i x
    rw [setV_comm h.2, List.set_comm _ _ h.1]
theorem setL_V : ∀ {ixs : List Nat} {vs : List V} {σ : L2.St}, ixs.Nodup → setL ixs vs σ = setV ixs vs σ
  | [], _, _, _ => by simp [setL, setV]
  | j :: ixs, [], _, _ => by simp [setL, setV]
  | j :: ixs, v :: vs, σ, h => by
    obtain ⟨h1, h2⟩ := List.nodup_cons.mp h
    show setL ixs vs (σ.set j (some v)) = (setV ixs vs σ).set j (some v)
    rw [setL_V h2, setV_comm h1]
theorem gs_of : ∀ {ixs : List Nat} {vs : List V} {σ : L2.St} {H : Hp} {Q : L2.St → Hp → Prop}, vs.length = ixs.length → Q (setL ixs vs σ) H → gsNames ixs vs σ H Q
  | [], [], _, _, _, _, q => ⟨rfl, q⟩
  | [], _ :: _, _, _, _, h, _ => by simp at h
  | _ :: _, [], _, _, _, h, _ => by simp at h
  | i :: ixs, v :: vs, σ, H, Q, h, q => ⟨v, vs, rfl, gs_of (ixs := ixs) (by simpa using h) q⟩
section
variable {X : Cx} {G : Gm} {es tgs : List Expr} {fm : EM} {pos tpos epos : Pos} {ixs : List Nat} {i : Nat} {x : Str}
theorem ng_nil : PGs X [] (gsNames []) := pgs_nil
theorem ng_cons (hN : X.N.Nodup) (h2 : PGs X tgs (gsNames ixs)) (hi : X.N[i]? = some x := by rfl) (hx : Loc X.env.scope x := by first | exact .inl rfl | exact .inr rfl) (hf : X.fn x = true ∨ X.env.scope.names.lookup x = some .local := by first | exact .inl rfl | exact .inr rfl | assumption)
    (hs : (assignEach (.Name x pos :: tgs) X.env).map (·.2) = assign (.Name x pos) X.env :: (assignEach tgs X.env).map (·.2) := by rfl) : PGs X (.Name x pos :: tgs) (gsNames (i :: ixs)) := pgs_cons (pg_name hN hi hx hf) h2 hs
theorem ds_asgM {k0 k1} (ha : DM X es fm) (hg : PGs X tgs (gsNames ixs)) (hnd : ixs.Nodup := by decide) (hz : ixs.length ≤ 1000 := by decide) (hc : X.calm = true := by rfl)
    (hn : (assignEach tgs X.env).length = ixs.length := by rfl) (hst : (assignEach tgs X.env).findIdx? (·.1) = none := by rfl)
    (hs : swapsWithSole [.Tuple tgs k0 tpos] (.Tuple es k1 epos) pos.line X.env = pure false := by rfl) (hw : swappedStores [.Tuple tgs k0 tpos] (.Tuple es k1 epos) X.env = pure none := by rfl)
    (h1 : (assignEach [.Tuple tgs k0 tpos] X.env).map (·.2) = [assign (.Tuple tgs k0 tpos) X.env] := by rfl) :
    PS X (.Assign [.Tuple tgs k0 tpos] (.Tuple es k1 epos) pos) (tS X.K G (parM ixs fm)) :=
  PS.imp (ps_asg (pe_tup (ha.run G)) (pg_tup hc hg hn hst) hs hw h1) fun E σ H q => by
  obtain ⟨ms, δ, fl, δ', R, e, k⟩ := q
  obtain ⟨is, δ1, js, δ2, δ3, q1, q2, q3, e⟩ := parM_inv e
  cases e
  refine ⟨ms, δ, is, δ1, R, q1, fun vs ps H1 m1 R1 pf e1 h1 => ?_⟩
  obtain ⟨m2, R2, e2, h2⟩ := frzM_ok R1 h1 q2
  have hl : vs.length = ixs.length := by rw [h2.length, setM_len q3]
  refine ⟨by rw [hl]; exact len_ok hz, fun p hp => ?_⟩
  have sm := same_upd (o := HO.tup vs) hp
  have R3 := setM_ok (h2.ext (.of_same sm)) q3 (R2.same sm) pf
  refine ⟨p, vs, rfl, SqT.of upd_same, hl, gs_of hl ?_⟩
  rw [setL_V hnd]
  exact k _ _ m2 R3 ((e1.trans e2).trans (.of_same sm))
end
end DL
namespace DL
open PySem PySem.Spec PyProof.Rows L2

/-! ### a tuple once -/
theorem tuple_once (l : Addr) (items : Array Value) (n : Nat) (dd : Option Addr) (sl : Array (Option Value)) (u : Tok) :
    Meets (Builtin.«tuple.__mul__» ⟨[.ref l, .int 1 u], []⟩) (fun _ R s => s.heap.get? l = some { cls := .type "tuple", dict := dd, data := .seq items n, slots := sl } ∧ R (.ok (.ret (.ref l))) s) :=
  .of_wp fun prog w A R s h => by
    obtain ⟨hp, g, d, tk, os⟩ := s
    obtain ⟨hl, h⟩ := h
    have f1 := AutoSeq1.idx_int
    have g0 : ¬ ((decide ((1 : Int) < -(2 ^ 63)) || decide ((1 : Int) ≥ 2 ^ 63)) = true) := by decide
    have g1 : (items.isEmpty || (1 : Int) == 1) = true := by simp
    wp_walk using wpAny_loadPart' hl
    exact ⟨_, rfl, h⟩
def rOnce (K : PySem.W.Frag) : R2 := fun x y H Q => ∃ l xs, x = .ref l ∧ y = .int 1 ∧ SqT K H l xs ∧ Q (.ref l) H
theorem op_once {X : Cx} : OpR X (binaryOp .Mult) (rOnce X.K) := by
  intro pins s σ H x y v u Q I rx ry h
  obtain ⟨l, xs, rfl, rfl, hT, q⟩ := h
  cases rx
  obtain ⟨t, rfl⟩ := ry
  obtain ⟨its, r, ⟨⟨cls, dd, data, sl⟩, ho, hc, n, hd⟩, hz⟩ := I.tuple hT
  simp only at hc hd
  subst hc hd
  have first := call_meets (prog := X.prog) (w := X.w) (A := X.A) (s := s) (E := X.xe) (Q := fun v s' => v = Value.notImplemented ∧ s'.TypeIs (.ref l) "tuple" ∧ wpAny (model X.prog X.w) X.A (call (.builtin "tuple.__mul__") [.ref l, .int 1 t]) (EP X pins σ Q) X.xe s')
    PySem.F.slot_int_rmul (typeIs_int s 1 t) PySem.F.entry_int_rmul (PySem.F.args_int_rmul_2 _ _) (int_rmul_tuple 1 t l its.toArray n dd sl)
    ⟨ho, rfl, ⟨_, ho, rfl⟩, call_meets PySem.F.slot_tuple_mul ⟨_, ho, rfl⟩ PySem.F.entry_tuple_mul (PySem.F.args_tuple_mul_2 _ _) (tuple_once l its.toArray n dd sl t) ⟨ho, .ref l, H, I, rfl, q⟩⟩
  exact wpAny_binaryOp_repeat_ref (U := "int") (by decide) ⟨_, ho, rfl⟩ (fun s' => typeIs_int s' 1 t) noFill_tuple_mul PySem.F.fills_int_mul PySem.F.slot_int_rmul repeat_tuple PySem.F.slot_int_index.lookup first
def rMulX (K : PySem.W.Frag) : R2 := fun x y H Q => rMulAny K x y H Q ∨ rOnce K x y H Q
theorem op_mulX {X : Cx} : OpR X (binaryOp .Mult) (rMulX X.K) := op_mulAny.or op_once
def mulXD : Op2 := fun x y => match x, y with
  | .tup xs, .int 1 => some (.tup xs)
  | x, y => mulD x y
theorem spec_mulX {K : PySem.W.Frag} : Spec2 K (rMulX K) mulXD := fun ms H v1 v2 d1 d2 d Q h1 h2 hm e k => by
  unfold mulXD at e
  split at e
  · cases e
    obtain ⟨p, us, e1, s1, a1⟩ := h1.tup
    rw [h2.int]
    refine .inr ⟨p, us, e1, rfl, s1, ?_⟩
    rw [← e1]
    exact k _ H (Same.refl H) h1.top_tup
  · exact .inl (spec_mul ms H v1 v2 d1 d2 d Q h1 h2 hm e k)
theorem rep_ev {xs : List D} {k : Nat} (h : xs ≠ []) (hl : xs.length ≤ 1000) (h1 : 1 ≤ k) (h2 : k ≤ 1000) : mulXD (.tup xs) (.int (k : Int)) = some (.tup (List.replicate k xs).flatten) := by
  by_cases hk : k = 1
  · subst hk
    show some (D.tup xs) = _
    simp
  · have e : mulXD (.tup xs) (.int (k : Int)) = mulD (.tup xs) (.int (k : Int)) := by
      unfold mulXD
      split
      · rename_i z1 z2
        exact absurd (show k = 1 by injection z2; omega) hk
      · rfl
    rw [e]
    show (if _ then _ else _) = _
    rw [if_pos ⟨h, by omega, by omega, hl⟩, Int.toNat_natCast]
/-! ### a tuple against () -/
def rEqE (K : PySem.W.Frag) : R2 := fun x y H Q => ∃ a b xs, x = .ref a ∧ y = .ref b ∧ SqT K H a xs ∧ SqT K H b [] ∧ Q (.bl xs.isEmpty) H
theorem op_eqE0 {X : Cx} (hu : X.A.units < cLine) : OpR X (compareOp .Eq) (rEqE X.K) := by
  intro pins s σ H x y v u Q I rx ry h
  obtain ⟨a, b, xs, rfl, rfl, ha, hb, q⟩ := h
  cases rx
  cases ry
  obtain ⟨its, r, ta, _⟩ := I.tuple ha
  obtain ⟨its2, r2, tb, _⟩ := I.tuple hb
  cases r2
  refine PySem.SeqAt.eq_tupleAt ta tb hu (e := fun _ => true) (fun j h1 h2 => absurd h2 (by simp)) ⟨.bl xs.isEmpty, H, I, ?_, q⟩
  cases r <;> rfl
def rEqX (K : PySem.W.Frag) : R2 := fun x y H Q => rEqAny K x y H Q ∨ rEqE K x y H Q
theorem op_eqE {X : Cx} (hu : X.A.units + 64 < cLine) : OpR X (compareOp .Eq) (rEqX X.K) := (op_eqAny hu).or (op_eqE0 (by omega))
def eqED : Op2 := fun x y => match x, y with
  | .tup xs, .tup [] => some (.bl xs.isEmpty)
  | x, y => eqD x y
theorem spec_eqE {K : PySem.W.Frag} : Spec2 K (rEqX K) eqED := fun ms H v1 v2 d1 d2 d Q h1 h2 hm e k => by
  unfold eqED at e
  split at e
  · cases e
    obtain ⟨p, us, rfl, s1, a1⟩ := h1.tup
    obtain ⟨p2, us2, rfl, s2, a2⟩ := h2.tup
    cases a2
    refine .inr ⟨p, p2, us, rfl, rfl, s1, s2, ?_⟩
    rw [a1.empty]
    exact k _ H (Same.refl H) (.bl _)
  · exact .inl (spec_eq ms H v1 v2 d1 d2 d Q h1 h2 hm e k)
end DL
namespace DL
open PySem PySem.Spec PyProof.Rows L2
/-- a loop by an invariant, with leaving by return, of data or of a new list -/
theorem w_loopN {δ : DE} {g : EG} {s1 : ES} {ds : List D} {PS : Fl → DE → Prop} {Rt : D → DE → Prop} {Rn : List D → DE → Prop} (I : Nat → DE → Prop) (h0 : I 0 δ) (hs : ∀ (k : Nat) (x : D) (δ1 : DE), ds[k]? = some x → I k δ1 → Wg g x δ1 fun δ2 => W s1 δ2 fun fl δ3 => (fl = .nx ∧ I (k + 1) δ3) ∨ (∃ r, fl = .rt r ∧ Rt r δ3) ∨ ∃ r, fl = .rn r ∧ Rn r δ3)
    (p : ∀ δ1, I ds.length δ1 → PS .nx δ1) (pr : ∀ r δ1, Rt r δ1 → PS (.rt r) δ1) (pn : ∀ r δ1, Rn r δ1 → PS (.rn r) δ1) : W (loopD g s1 ds) δ PS := by
  have key : ∀ (ys : List D) (k : Nat) (δ1 : DE), ds.drop k = ys → k ≤ ds.length → I k δ1 → W (loopD g s1 ys) δ1 PS := by
    intro ys
    induction ys with
    | nil =>
      intro k δ1 e hk hI
      have : k = ds.length := by have := congrArg List.length e; simp at this; omega
      exact ⟨_, _, rfl, p _ (this ▸ hI)⟩
    | cons y ys ih =>
      intro k δ1 e hk hI
      have hlt : k < ds.length := by
        have := congrArg List.length e; simp at this; omega
      have hy : ds[k]? = some y := by
        have := congrArg (fun l => l[0]?) e
        simpa [List.getElem?_drop] using this
      have hd : ds.drop (k + 1) = ys := by
        rw [← List.tail_drop, e]; rfl
      obtain ⟨δ2, e2, fl, δ3, e3, h⟩ := hs k y δ1 hy hI
      rcases h with ⟨rfl, h⟩ | ⟨r, rfl, h⟩ | ⟨r, rfl, h⟩
      · obtain ⟨fl4, δ4, e4, p4⟩ := ih (k + 1) δ3 hd hlt h
        exact ⟨_, _, by unfold loopD; simp only [e2, Option.bind_some, e3, e4], p4⟩
      · exact ⟨_, _, by unfold loopD; simp only [e2, Option.bind_some, e3], pr r δ3 h⟩
      · exact ⟨_, _, by unfold loopD; simp only [e2, Option.bind_some, e3], pn r δ3 h⟩
  exact key ds 0 δ rfl (Nat.zero_le _) h0
end DL
namespace DL
open PySem PySem.Spec PyProof.Rows L2

/-! ### math.comb, math.factorial, math.lcm -/
def facI (a : Int) : Int := ((PySem.Builtin.Math.factorialNat a.toNat : Nat) : Int)
def rComb : List V → Hp → VK → Prop := fun vs H Q => ∃ a b : Int, vs = [.int a, .int b] ∧ (0 ≤ a ∧ 0 ≤ b ∧ a ≤ 18000) ∧ Q (.int (PySem.W.mcComb a b)) H
theorem cr_comb {X : Cx} : CallR X (.builtin "math.comb") rComb := by
  intro pins s σ H vs us Q I r h
  obtain ⟨a, b, rfl, hc, q⟩ := h
  obtain ⟨t, u, rfl⟩ := Vals.int2 r
  exact PySem.W.mc_comb hc.1 hc.2.1 (by omega) (.inr hc.2.2) fun _ => ⟨.int _, H, I.tok _, ⟨_, rfl⟩, q⟩
def rFac : List V → Hp → VK → Prop := fun vs H Q => ∃ a : Int, vs = [.int a] ∧ (0 ≤ a ∧ a ≤ 20000) ∧ Q (.int (facI a)) H
theorem cr_fac {X : Cx} : CallR X (.builtin "math.factorial") rFac := by
  intro pins s σ H vs us Q I r h
  obtain ⟨a, rfl, hc, q⟩ := h
  obtain ⟨u, rfl, t, rfl⟩ := r.one
  exact PySem.W.mc_factorial hc.1 hc.2 fun _ => ⟨.int _, H, I.tok _, ⟨_, rfl⟩, q⟩
def rLcm : List V → Hp → VK → Prop := fun vs H Q => ∃ a b : Int, vs = [.int a, .int b] ∧ (a.natAbs < 2 ^ 64 ∧ b.natAbs < 2 ^ 64) ∧ Q (.int ((a.natAbs.lcm b.natAbs : Nat) : Int)) H
theorem cr_lcm {X : Cx} : CallR X (.builtin "math.lcm") rLcm := by
  intro pins s σ H vs us Q I r h
  obtain ⟨a, b, rfl, hc, q⟩ := h
  obtain ⟨t, u, rfl⟩ := Vals.int2 r
  exact PySem.W.mc_lcm hc.1 hc.2 fun _ => ⟨.int _, H, I.tok _, ⟨_, rfl⟩, q⟩
def combD : OpN := int2cD (fun a b => decide (0 ≤ a ∧ 0 ≤ b ∧ a ≤ 18000)) fun a b => .int (PySem.W.mcComb a b)
theorem spec_comb {K : PySem.W.Frag} : SpecN K rComb combD := fun ms H vs ds d Q h hm e k => by
  obtain ⟨i, j, rfl, hc, rfl⟩ := int2c_inv e
  rw [h.int2]
  rw [decide_eq_true_eq] at hc
  exact ⟨i, j, rfl, hc, k _ H (Same.refl H) (.int _)⟩
def lcmD : OpN := int2cD (fun a b => decide (a.natAbs < 2 ^ 64 ∧ b.natAbs < 2 ^ 64)) fun a b => .int ((a.natAbs.lcm b.natAbs : Nat) : Int)
theorem spec_lcm {K : PySem.W.Frag} : SpecN K rLcm lcmD := fun ms H vs ds d Q h hm e k => by
  obtain ⟨i, j, rfl, hc, rfl⟩ := int2c_inv e
  rw [h.int2]
  rw [decide_eq_true_eq] at hc
  exact ⟨i, j, rfl, hc, k _ H (Same.refl H) (.int _)⟩
def facD : OpN := fun ds => match ds with
  | [.int a] => if 0 ≤ a ∧ a ≤ 20000 then some (.int (facI a)) else none
  | _ => none
theorem spec_fac {K : PySem.W.Frag} : SpecN K rFac facD := fun ms H vs ds d Q h hm e k => by
  unfold facD at e
  split at e
  · split at e
    · rename_i hc
      cases e
      rw [h.int1]
      exact ⟨_, rfl, hc, k _ H (Same.refl H) (.int _)⟩
    · cases e
  · cases e

/-! ### a < b < c < d -/
section
variable {X : Cx} {a b c d : Expr} {ta tb tc td : TE} {pos : Pos} {f1 f2 f3 f4 : EO} {G : Gm}
def tChain3 (r r' r'' : R2) (ta tb tc td : TE) : TE := fun σ H Q => ta σ H fun x H1 => tb σ H1 fun y H2 => r x y H2 fun z H3 => ∃ k, z = .bl k ∧
  (if k = true then tc σ H3 fun u H4 => r' y u H4 fun z' H5 => ∃ k', z' = .bl k' ∧ (if k' = true then td σ H5 fun w' H6 => r'' u w' H6 Q else Q (.bl false) H5) else Q (.bl false) H3)
theorem pe_chain3 {op op' op'' : CmpOp} {r r' r'' : R2} (ho : OpR X (compareOp op) r) (ho' : OpR X (compareOp op') r') (ho'' : OpR X (compareOp op'') r'') (ha : PE X a ta) (hb : PE X b tb) (hc : PE X c tc) (hd : PE X d td)
    (hm : lastMarks [op, op', op''] [b, c, d] = false := by with_unfolding_all rfl) : PE X (.Compare a [op, op', op''] [b, c, d] pos) (tChain3 r r' r'' ta tb tc td) := by
  refine ⟨fun pins s σ H Q I h => ?_⟩
  refine Compare_chain (thn (ha.run pins s σ H _ I h) fun v s1 ⟨x, H1, I1, r1, q1⟩ => chain_link (thn (hb.run pins s1 σ H1 _ I1 q1) fun u s2 ⟨y, H2, I2, r2, q2⟩ =>
    thn (ho pins s2 σ H2 x y v u _ I2 r1 r2 q2) fun d s3 ⟨z, H3, I3, r3, k, e, q3⟩ => ?_)) hm
  subst e
  cases r3
  refine wpAny_truthy_bool ?_
  cases k with
  | false => exact ite_ff ⟨.bl false, H3, I3, rfl, q3⟩
  | true =>
    refine ite_tt (chain_link (thn (hc.run pins s3 σ H3 _ I3 q3) fun w' s4 ⟨z', H4, I4, r4, q4⟩ => thn (ho' pins s4 σ H4 y z' u w' _ I4 r2 r4 q4) fun d' s5 ⟨z2, H5, I5, r5, k2, e2, q5⟩ => ?_))
    subst e2
    cases r5
    refine wpAny_truthy_bool ?_
    cases k2 with
    | false => exact ite_ff ⟨.bl false, H5, I5, rfl, q5⟩
    | true => exact ite_tt (chain_last (thn (hd.run pins s5 σ H5 _ I5 q5) fun w2 s6 ⟨z3, H6, I6, r6, q6⟩ => ho'' pins s6 σ H6 z' z3 w' w2 Q I6 r4 r6 q6))
def chain3O (g g' g'' : Op2) (f1 f2 f3 f4 : EO) : EO := fun δ => (f1 δ).bind fun (a, δ1) => (f2 δ1).bind fun (b, δ2) => (rsl δ2 a).bind fun x => (rsl δ2 b).bind fun y => (g x y).bind fun z => match z with
  | .bl true => (f3 δ2).bind fun (c, δ3) => (rsl δ3 b).bind fun y => (rsl δ3 c).bind fun u => (g' y u).bind fun z' => match z' with
    | .bl true => (f4 δ3).bind fun (d, δ4) => (rsl δ4 c).bind fun u => (rsl δ4 d).bind fun w => (g'' u w).bind fun r => some (.d r, δ4)
    | .bl false => some (.d (.bl false), δ3)
    | _ => none
  | .bl false => some (.d (.bl false), δ2)
  | _ => none
theorem bind_inv {α β : Type} {o : Option α} {f : α → Option β} {y : β} (e : o.bind f = some y) : ∃ x, o = some x ∧ f x = some y := by
  cases o with
  | none => cases e
  | some x => exact ⟨x, rfl, e⟩
theorem tChain3_of {K : PySem.W.Frag} {r r' r'' : R2} {g g' g'' : Op2} {σ : L2.St} {H : Hp} {Q : VK} (hg : Spec2 K r g) (hg' : Spec2 K r' g') (hg'' : Spec2 K r'' g'') (q : tO K G (chain3O g g' g'' f1 f2 f3 f4) σ H Q) : tChain3 r r' r'' (tO K G f1) (tO K G f2) (tO K G f3) (tO K G f4) σ H Q := by
  obtain ⟨ms, δ, x, δ', R, e, k⟩ := q
  unfold chain3O at e
  obtain ⟨⟨a, δ1⟩, q1, e⟩ := bind_inv e
  obtain ⟨⟨b, δ2⟩, q2, e⟩ := bind_inv e
  obtain ⟨x1, q3, e⟩ := bind_inv e
  obtain ⟨y1, q4, e⟩ := bind_inv e
  obtain ⟨z1, q5, e⟩ := bind_inv e
  refine ⟨ms, δ, a, δ1, R, q1, fun v1 H1 m1 R1 e1 h1 => ⟨m1, δ1, b, δ2, R1, q2, fun v2 H2 m2 R2 e2 h2 => ?_⟩⟩
  refine hg m2 H2 v1 v2 x1 y1 z1 _ (top_of R2 (h1.ext e2) q3) (top_of R2 h2 q4) R2.here q5 fun v H3 s hv => ?_
  have R3 := R2.same s
  have e3 : Ext m2 H2 m2 H3 := .of_same s
  split at e
  · cases hv
    refine ⟨true, rfl, ?_⟩
    rw [if_pos rfl]
    obtain ⟨⟨c, δ3⟩, q6, e⟩ := bind_inv e
    obtain ⟨y2, q7, e⟩ := bind_inv e
    obtain ⟨u2, q8, e⟩ := bind_inv e
    obtain ⟨z2, q9, e⟩ := bind_inv e
    refine ⟨m2, δ2, c, δ3, R3, q6, fun v4 H4 m4 R4 e4 h4 => ?_⟩
    refine hg' m4 H4 v2 v4 y2 u2 z2 _ (top_of R4 (h2.ext (e3.trans e4)) q7) (top_of R4 h4 q8) R4.here q9 fun v5 H5 s5 hv5 => ?_
    have R5 := R4.same s5
    have e5 : Ext m4 H4 m4 H5 := .of_same s5
    split at e
    · cases hv5
      refine ⟨true, rfl, ?_⟩
      rw [if_pos rfl]
      obtain ⟨⟨d, δ4⟩, p6, e⟩ := bind_inv e
      obtain ⟨u3, p7, e⟩ := bind_inv e
      obtain ⟨w3, p8, e⟩ := bind_inv e
      obtain ⟨r3, p9, e⟩ := bind_inv e
      cases e
      refine ⟨m4, δ3, d, _, R5, p6, fun v6 H6 m6 R6 e6 h6 => ?_⟩
      refine hg'' m6 H6 v4 v6 u3 w3 _ Q (top_of R6 (h4.ext (e5.trans e6)) p7) (top_of R6 h6 p8) R6.here p9 fun v7 H7 s7 hv7 => ?_
      exact k v7 H7 m6 (R6.same s7) ((((((e1.trans e2).trans e3).trans e4).trans e5).trans e6).trans (.of_same s7)) hv7
    · cases hv5
      refine ⟨false, rfl, ?_⟩
      rw [if_neg Bool.false_ne_true]
      cases e
      exact k _ H5 m4 R5 ((((e1.trans e2).trans e3).trans e4).trans e5) (.bl _)
    · cases e
  · cases hv
    refine ⟨false, rfl, ?_⟩
    rw [if_neg Bool.false_ne_true]
    cases e
    exact k _ H3 m2 R3 ((e1.trans e2).trans e3) (.bl _)
  · cases e
theorem do_chain3 {op op' op'' : CmpOp} {r r' r'' : R2} {g g' g'' : Op2} (ho : OpR X (compareOp op) r) (ho' : OpR X (compareOp op') r') (ho'' : OpR X (compareOp op'') r'') (hg : Spec2 X.K r g) (hg' : Spec2 X.K r' g') (hg'' : Spec2 X.K r'' g'')
    (ha : PE X a (tO X.K G f1)) (hb : PE X b (tO X.K G f2)) (hc : PE X c (tO X.K G f3)) (hd : PE X d (tO X.K G f4))
    (hm : lastMarks [op, op', op''] [b, c, d] = false := by with_unfolding_all rfl) : PE X (.Compare a [op, op', op''] [b, c, d] pos) (tO X.K G (chain3O g g' g'' f1 f2 f3 f4)) :=
  PE.imp (pe_chain3 ho ho' ho'' ha hb hc hd hm) fun _ _ _ q => tChain3_of hg hg' hg'' q
end
section
variable {δ : DE} {f1 f2 f3 f4 : EO} {P : Ar → DE → Prop}
theorem w_chain3 {o o' o'' : Op2} (h : W f1 δ fun a δ1 => W f2 δ1 fun b δ2 => ∃ x y k, rsl δ2 a = some x ∧ rsl δ2 b = some y ∧ o x y = some (.bl k) ∧
    (k = true → W f3 δ2 fun c δ3 => ∃ y u k', rsl δ3 b = some y ∧ rsl δ3 c = some u ∧ o' y u = some (.bl k') ∧
      (k' = true → W f4 δ3 fun d δ4 => ∃ u w r, rsl δ4 c = some u ∧ rsl δ4 d = some w ∧ o'' u w = some r ∧ P (.d r) δ4) ∧ (k' = false → P (.d (.bl false)) δ3)) ∧ (k = false → P (.d (.bl false)) δ2)) : W (chain3O o o' o'' f1 f2 f3 f4) δ P := by
  obtain ⟨a, δ1, e, b, δ2, e2, x, y, k, e3, e4, e5, h1, h2⟩ := h
  cases k with
  | false => exact ⟨_, _, by unfold chain3O; simp only [e, Option.bind_some, e2, e3, e4, e5], h2 rfl⟩
  | true =>
    obtain ⟨c, δ3, e6, y, u, k', e7, e8, e9, h3, h4⟩ := h1 rfl
    cases k' with
    | false => exact ⟨_, _, by unfold chain3O; simp only [e, Option.bind_some, e2, e3, e4, e5, e6, e7, e8, e9], h4 rfl⟩
    | true =>
      obtain ⟨d, δ4, p1, u, w, r, p2, p3, p4, p⟩ := h3 rfl
      exact ⟨_, _, by unfold chain3O; simp only [e, Option.bind_some, e2, e3, e4, e5, e6, e7, e8, e9, p1, p2, p3, p4], p⟩
end
end DL
namespace DL
open PySem PySem.Spec PyProof.Rows L2

/-! ### t.count(x) -/
section
variable {X : Cx} {pins : List (Addr × Obj)} {σ : L2.St} {H : Hp} {s : Shared}
theorem noD_at (I : Inv X pins σ H s) {a : Addr} (h : NoD X.K H a) : ∃ ob, s.heap.get? a = some ob ∧ ob.dict = none := by
  rcases h with ⟨o, u, h, hd⟩ | ⟨o, h, hd⟩
  · exact ⟨o, (I.hok a _ h).1, hd⟩
  · exact ⟨o, I.kIn a o h, hd⟩
variable {o e : Expr} {to : TE} {t : TA} {apos cpos : Pos}
/-- the tuple, then the item, then how many are equal to it -/
def tCnt (K : PySem.W.Frag) (to : TE) (t : TA) : TE := fun σ H Q => to σ H fun x H1 => ∃ a, x = .ref a ∧ (∃ xs, SqT K H1 a xs) ∧ NoD K H1 a ∧ t σ H1 fun vs H2 => ∃ y d ds, vs = [y] ∧ Dp K H2 (.ref a) (.tuple ds) ∧ Dp K H2 y d ∧ SeqAt.shaped d = true ∧ SeqAt.shaped (.tuple ds) = true ∧ Q (.int ((ds.countP fun z => PyData.eqv z d : Nat) : Int)) H2
theorem pe_cnt (hu : X.A.units + 65 < cLine) (ho : PE X o to) (ha : PA X [e] t)
    (hbase : attributeBase o "count" X.env (eval o X.env) = eval o X.env := by rfl)
    (hfew : ((backTo cpos (starEach [e] X.env)).all (fun x => !x.1) && (backToKw cpos (keywordEach [] X.env)).all (fun x => x.1.isSome)
      && decide (([e] : List Expr).length + ([] : List Keyword).length + (if ([] : List Keyword).isEmpty then 0 else 1) < 30)) = true := by rfl)
    (hline : (apos.endLine == cpos.line) = true := by rfl) (hs : starEach [e] X.env = (false, eval e X.env) :: starEach [] X.env := by rfl) (hplain : (backTo cpos (starEach [] X.env)).any (·.1) = false := by rfl) :
    PE X (.Call (.Attribute o "count" apos) [e] [] cpos) (tCnt X.K to t) := by
  refine ⟨fun pins s σ H Q I h => ?_⟩
  refine wpAny_Call_method_late hbase hfew hline rfl (thn (ho.run pins s σ H _ I h) fun v s1 ⟨x, H1, I1, r1, a, ex, ⟨xs, hT⟩, hN, q1⟩ => ?_)
  subst ex
  cases r1
  obtain ⟨its, rv, ⟨ob, hob, hcl, _⟩, _⟩ := I1.tuple hT
  refine ⟨"tuple", _, PySem.F.plainAttrs_tuple, PySem.F.slot_tuple_count, PySem.F.type_tuple_count, ⟨ob, hob, hcl⟩, fun b e2 => by cases e2; exact noD_at I1 hN, ?_⟩
  have hA := ha.run cpos pins s1 σ H1 _ I1 q1
  rw [hs] at hA ⊢
  refine Calls.callWith_builtin (by show (false || (backTo cpos (starEach [] X.env)).any (·.1)) = false; rw [hplain] <;> rfl) (Calls.evalArgs_plain ?_)
  refine thn hA fun us s2 ⟨vs, H2, I2, r2, y, d, ds, ev, h1, h2, h3, h4, q2⟩ => ?_
  subst ev
  obtain ⟨u, rfl, ru⟩ := r2.one
  obtain ⟨bs, z2⟩ := Dp.reads I2 d _ _ h2 ru
  cases h1 with
  | tup hs2 ha2 =>
    obtain ⟨its2, rv2, pl, hz⟩ := I2.tuple hs2
    obtain ⟨as, z1⟩ := Dp.readsAll I2 ds _ its2 ha2 rv2
    have c1 : PyData.canLayAll0 ds = true := SeqAt.canLay_of_shaped h4
    have c2 := SeqAt.canLay_of_shaped h3
    refine SeqAt.count_tuple_data (vs := its2.toArray) (as := as) pl (by simpa using z1) z2 ?_ (PyData.plain_of_canLay0 d c2) (room_in_shaped h3 hu) ⟨.int _, H2, I2.tok _, ⟨_, rfl⟩, q2⟩
    exact PyData.plainAll_of_canLay0 ds c1
theorem count_toPy {x : D} (hx : shp 60 x = true) : ∀ ds : List D, ds.all (shp 59) = true → ((toPyAll ds).countP fun z => PyData.eqv z (toPy x)) = ds.countP fun z => eqvD z x
  | [], _ => by simp [toPyAll]
  | d :: ds, h => by
    rw [List.all_cons, Bool.and_eq_true] at h
    simp only [toPyAll, List.countP_cons]
    rw [eqv_toPy 60 _ _ (shp_up 59 60 _ (by decide) h.1) hx, count_toPy hx ds h.2]
def countD (ds : List D) (y : D) : Option D := if ds.all (shp 59) = true ∧ shp 60 y = true then some (.int ((ds.countP fun z => eqvD z y : Nat) : Int)) else none
def cntO (f : EO) (fa : EA) : EO := fun δ => (f δ).bind fun (a, δ1) => (rsl δ1 a).bind fun x => match x with
  | .tup _ => (fa δ1).bind fun (as, δ2) => (rsl δ2 a).bind fun x2 => (rsls δ2 as).bind fun ys => match x2, ys with
    | .tup ds, [y] => (countD ds y).bind fun z => some (.d z, δ2)
    | _, _ => none
  | _ => none
variable {G : Gm} {f : EO} {fa : EA}
theorem do_count (hu : X.A.units + 65 < cLine) (ho : PE X o (tO X.K G f)) (ha : PA X [e] (tAr X.K G fa))
    (hbase : attributeBase o "count" X.env (eval o X.env) = eval o X.env := by rfl)
    (hfew : ((backTo cpos (starEach [e] X.env)).all (fun x => !x.1) && (backToKw cpos (keywordEach [] X.env)).all (fun x => x.1.isSome)
      && decide (([e] : List Expr).length + ([] : List Keyword).length + (if ([] : List Keyword).isEmpty then 0 else 1) < 30)) = true := by rfl)
    (hline : (apos.endLine == cpos.line) = true := by rfl) (hs : starEach [e] X.env = (false, eval e X.env) :: starEach [] X.env := by rfl) (hplain : (backTo cpos (starEach [] X.env)).any (·.1) = false := by rfl) :
    PE X (.Call (.Attribute o "count" apos) [e] [] cpos) (tO X.K G (cntO f fa)) :=
  PE.imp (pe_cnt hu ho ha hbase hfew hline hs hplain) fun σ H Q q => by
  obtain ⟨ms, δ, x, δ', R, e, k⟩ := q
  unfold cntO at e
  obtain ⟨⟨a, δ1⟩, q1, e⟩ := bind_inv e
  obtain ⟨x1, q2, e⟩ := bind_inv e
  split at e
  · obtain ⟨⟨as, δ2⟩, q3, e⟩ := bind_inv e
    obtain ⟨x2, q4, e⟩ := bind_inv e
    obtain ⟨ys, q5, e⟩ := bind_inv e
    split at e
    · rename_i ds y _
      obtain ⟨z, q6, e⟩ := bind_inv e
      cases e
      unfold countD at q6
      split at q6
      · rename_i hc
        cases q6
        refine ⟨ms, δ, a, δ1, R, q1, fun v1 H1 m1 R1 e1 h1 => ?_⟩
        obtain ⟨p, us, rfl, s1, n1, a1⟩ := (top_of R1 h1 q2).tupN
        refine ⟨p, rfl, ⟨_, s1⟩, n1, m1, δ1, as, _, R1, q3, fun vs H2 m2 R2 e2 h2 => ?_⟩
        have t2 := top_of R2 (h1.ext e2) q4
        have t3 := tops_of R2 h2 q5
        cases t3 with
        | cons ty tn =>
          cases tn
          have hs3 : shp 60 (.tup ds) = true := by simpa only [shp] using hc.1
          refine ⟨_, toPy y, toPyAll ds, rfl, by simpa only [toPy] using dp_of 60 _ _ hs3 t2.dv, dp_of 60 _ _ hc.2 ty.dv, shp_shaped (by decide) hc.2, by simpa only [toPy] using shp_shaped (by decide) hs3, ?_⟩
          rw [count_toPy hc.2 ds hc.1]
          exact k _ H2 m2 R2 (e1.trans e2) (.int _)
      · cases q6
    · cases e
  · cases e
end
section
variable {δ : DE} {f : EO} {fa : EA} {P : Ar → DE → Prop}
theorem w_count (h : W f δ fun a δ1 => ∃ ds0, rsl δ1 a = some (.tup ds0) ∧ W fa δ1 fun as δ2 => ∃ ds y, rsl δ2 a = some (.tup ds) ∧ rsls δ2 as = some [y] ∧ (ds.all (shp 59) = true ∧ shp 60 y = true) ∧ P (.d (.int ((ds.countP fun z => eqvD z y : Nat) : Int))) δ2) : W (cntO f fa) δ P := by
  obtain ⟨a, δ1, e1, ds0, e2, as, δ2, e3, ds, y, e4, e5, hc, p⟩ := h
  exact ⟨_, _, by unfold cntO; simp only [e1, Option.bind_some, e2, e3, e4, e5]; unfold countD; rw [if_pos hc]; rfl, p⟩
end

/-! ### xs.pop() -/
def popM : OpM := fun xs ds => match ds with
  | [] => (xs[xs.length - 1]?).bind fun y => some (y, xs.dropLast)
  | _ => none
theorem spec_pop {K : PySem.W.Frag} : SpecM K rPop popM := fun ms H p us vs xs ds xs' res Q hp ha hd e k => by
  unfold popM at e
  split at e
  · obtain ⟨y, q, e⟩ := bind_inv e
    cases e
    cases hd
    obtain ⟨v, hv, dv⟩ := ha.get q
    exact ⟨p, us, v, rfl, rfl, hp, by rw [ha.length]; exact hv, k _ v ha.dropLast dv⟩
  · cases e
def mut0O (i : Nat) (op : OpM) : EO := fun δ => match δ[i]? with
  | some (some s) => (cont s).bind fun xs => (op xs []).bind fun (res, xs') => some (.d res, δ.set i (some (recont xs' s)))
  | _ => none
section
variable {X : Cx} {G : Gm} {i : Nat} {x : Str} {px apos cpos : Pos}
theorem do_mut0 {op : OpM} {name : Str} {id : String} {r : V → List V → Hp → VK → Prop} (slot : Slot "list" name id) (hty : typeOf (.builtin id) = pure (.type "method_descriptor")) (hm : MtR X id r) (hop : SpecM X.K r op)
    (hN : X.N[i]? = some x := by rfl) (hv : Vis X.env.scope x := by first | exact Or.inl rfl | exact Or.inr (Or.inl rfl) | exact Or.inr (Or.inr rfl)) (hd : (x == ("__debug__" : Str)) = false := by decide) (hcd : (x == ("__classdict__" : Str)) = false := by decide)
    (hbase : attributeBase (.Name x px) name X.env (eval (.Name x px) X.env) = eval (.Name x px) X.env := by rfl) (hline : (apos.endLine == cpos.line) = true := by rfl) :
    PE X (.Call (.Attribute (.Name x px) name apos) [] [] cpos) (tO X.K G (mut0O i op)) :=
  PE.imp (pe_bm0 PySem.F.plainAttrs_list slot hty hm (pe_var hN hv hd hcd) hbase hline) fun σ H Q q => by
  obtain ⟨ms, δ, x', δ', R, e, k⟩ := q
  unfold mut0O at e
  split at e
  · rename_i s hs
    obtain ⟨xs, q3, e⟩ := bind_inv e
    obtain ⟨⟨res, xs'⟩, q4, e⟩ := bind_inv e
    cases e
    obtain ⟨p, us, a1, a2, a3⟩ := R.contOk hs q3
    refine ⟨_, a1, ?_⟩
    refine ⟨.inl ⟨rfl, us, SqL.of a2⟩, ?_⟩
    refine hop ms H p us [] xs [] xs' res Q a2 a3 .nil q4 fun us' v hu hv => ?_
    obtain ⟨R3, e3⟩ := R.write hs (by rw [q3]; rfl) a1 hu
    exact k v _ ms R3 e3 (hv.mono e3.same)
  · cases e
theorem do_pop (hN : X.N[i]? = some x := by rfl) (hv : Vis X.env.scope x := by first | exact Or.inl rfl | exact Or.inr (Or.inl rfl) | exact Or.inr (Or.inr rfl)) (hd : (x == ("__debug__" : Str)) = false := by decide) (hcd : (x == ("__classdict__" : Str)) = false := by decide)
    (hbase : attributeBase (.Name x px) "pop" X.env (eval (.Name x px) X.env) = eval (.Name x px) X.env := by rfl) (hline : (apos.endLine == cpos.line) = true := by rfl) :
    PE X (.Call (.Attribute (.Name x px) "pop" apos) [] [] cpos) (tO X.K G (mut0O i popM)) := do_mut0 PySem.F.slot_list_pop PySem.F.type_list_pop mt_pop spec_pop hN hv hd hcd hbase hline
end
theorem w_mut0 {δ : DE} {i : Nat} {op : OpM} {P : Ar → DE → Prop} {s : Sl} {xs xs' : List D} {res : D} (h1 : δ[i]? = some (some s)) (h2 : cont s = some xs) (h3 : op xs [] = some (res, xs')) (p : P (.d res) (δ.set i (some (recont xs' s)))) : W (mut0O i op) δ P :=
  ⟨_, _, by unfold mut0O; rw [h1]; simp only [h2, Option.bind_some, h3], p⟩
end DL
namespace DL
open PySem PySem.Spec PyProof.Rows L2

/-! ### [.. for .. in .. for .. in ..] -/
def lc2Loop (g : EG) (tt : ET) (fi1 : EI) (g1 : EG) (tt1 : ET) (te : EO) (vs vs1 : List Nat) : List D → List D → DE → Option (List D × DE)
  | [], acc, δ => some (acc, δ)
  | d :: ds, acc, δ => (g d (wipeD δ vs)).bind fun δ1 => (tt δ1).bind fun (b, δ2) =>
    if b = true then (fi1 δ2).bind fun (ds1, δ3) => if okWipe δ3 vs1 = true then (lcLoop g1 tt1 te vs1 ds1 acc δ3).bind fun (acc', δ4) => lc2Loop g tt fi1 g1 tt1 te vs vs1 ds acc' (restD δ vs δ4) else none
    else lc2Loop g tt fi1 g1 tt1 te vs vs1 ds acc (restD δ vs δ2)
def lc2N (fi : EI) (g : EG) (tt : ET) (fi1 : EI) (g1 : EG) (tt1 : ET) (te : EO) (vs vs1 : List Nat) : EN := fun δ => (fi δ).bind fun (ds, δ1) => if okWipe δ1 vs = true then lc2Loop g tt fi1 g1 tt1 te vs vs1 ds [] δ1 else none
section
variable {X : Cx} {G : Gm} {elt tg iter tg1 iter1 : Expr} {fi fi1 : EI} {g g1 : EG} {tt tt1 : ET} {te : EO} {ws ws1 : List Nat}
theorem tLc2_of {K : PySem.W.Frag} {vs vs1 : List Nat} (hws : ∀ j ∈ ws, j ∈ vs) (hws1 : ∀ j ∈ ws1, j ∈ vs1) (hv : ∀ j ∈ vs1, j ∈ vs) (σ : L2.St) (H : Hp) (Q : VK) (q : tN K G (lc2N fi g tt fi1 g1 tt1 te vs vs1) σ H Q) :
    tLc2 (tI K G fi) (fun v σ H Q => ∃ G, tG K G ws g v σ H Q) (fun σ H Q => ∃ G, tT K G tt σ H Q) (fun σ H Q => ∃ G, tI K G fi1 σ H Q) (fun v σ H Q => ∃ G, tG K G ws1 g1 v σ H Q) (fun σ H Q => ∃ G, tT K G tt1 σ H Q) (fun σ H Q => ∃ G, tO K G te σ H Q) vs vs1 σ H Q := by
  obtain ⟨ms, δ, out, δ', R, e, k⟩ := q
  unfold lc2N at e
  obtain ⟨⟨ds, δ1⟩, q, e⟩ := bind_inv e
  simp only at e
  split at e
  · rename_i hw
    refine ⟨ms, δ, ds, δ1, R, q, fun J H1 m1 R1 e1 hwk L hL => ?_⟩
    have Lm : L ∉ m1 := R1.fresh hL
    have L0 : L ∉ G.ms0 := fun z => Lm (R1.ms0 L z)
    have Ln : G.H0 L = none := R1.fresh0 hL
    have Lb : ∀ j, G.bor j ≠ some L := fun j z => Lm (R1.ms0 L (R1.borm j L z))
    refine ⟨fun i m H' => m = ds.length - i ∧ i ≤ ds.length ∧ ∃ m2 δ2 acc us, Rp K (G.push L us) m2 H' σ δ2 ∧ Ext m1 H1 m2 H' ∧ DvAll K (mask H' m2) us acc ∧ okWipe δ2 vs = true ∧ lc2Loop g tt fi1 g1 tt1 te vs vs1 (ds.drop i) acc δ2 = some (out, δ'), ?_, ?_⟩
    · obtain ⟨R2, e2⟩ := R1.push (xs := []) hL
      exact ⟨ds.length, rfl, Nat.zero_le _, _, δ1, [], [], R2, e2, .nil, hw, by simpa using e⟩
    rintro i m H2 ⟨rfl, hi, m2, δ2, acc, us, R2, e2, da, hw2, hl⟩
    obtain ⟨w1, w2⟩ := hwk i m2 H2 e2 R2.here
    by_cases hlt : i < ds.length
    · right
      have hd : ds[i]? = some ds[i] := List.getElem?_eq_getElem hlt
      rw [List.drop_eq_getElem_cons hlt] at hl
      obtain ⟨go, yl⟩ := w1 _ hd
      refine ⟨go, fun H' => ∃ m3 δ3 acc us, Rp K (G.push L us) m3 H' σ δ3 ∧ Ext m1 H1 m3 H' ∧ DvAll K (mask H' m3) us acc ∧ okWipe δ3 vs = true ∧ lc2Loop g tt fi1 g1 tt1 te vs vs1 (ds.drop (i + 1)) acc δ3 = some (out, δ'), fun H' hN => ⟨ds.length - (i + 1), by omega, rfl, hlt, hN⟩, fun x H3 y => ?_⟩
      obtain ⟨sm, dx⟩ := yl x H3 y
      unfold lc2Loop at hl
      obtain ⟨δ3, q3, hl⟩ := bind_inv hl
      have Rw : Rp K (G.push L us) m2 H3 σ δ2 := R2.same sm
      have ew : Ext m2 H2 m2 H3 := .of_same sm
      refine ⟨G.push L us, m2, wipeD δ2 vs, ds[i], δ3, Rw.wiped vs hw2, dx, q3, fun σ4 H4 m4 R4 e4 z4 y4 => ⟨wipe_eq (y4.trans (wipe_length σ vs)) (fun j hj => z4 j fun z => hj (hws j z)), ?_⟩⟩
      obtain ⟨⟨b, δ4⟩, q4, hl⟩ := bind_inv hl
      simp only at hl
      have hσ : ∀ j, j ∉ vs → σ4[j]? = σ[j]? := fun j hj => (z4 j fun z => hj (hws j z)).trans (wipe_out hj)
      refine ⟨G.push L us, m4, δ3, b, δ4, R4, q4, fun H5 m5 R5 e5 => ?_⟩
      cases b with
      | false =>
        rw [if_neg Bool.false_ne_true] at hl
        show if false = true then _ else _
        rw [if_neg Bool.false_ne_true]
        have e45 := e4.trans e5
        exact ⟨m5, restD δ2 vs δ4, acc, us, Rw.restore R5 e45 hw2 hσ, (e2.trans ew).trans e45, da.mono (ew.trans e45).same, restD_ok hw2, hl⟩
      | true =>
        rw [if_pos rfl] at hl
        show if true = true then _ else _
        rw [if_pos rfl]
        obtain ⟨⟨ds1, δ5⟩, q5, hl⟩ := bind_inv hl
        simp only at hl
        split at hl
        · rename_i hwi
          obtain ⟨⟨accE, δE⟩, q6, hl⟩ := bind_inv hl
          simp only at hl
          refine ⟨G.push L us, m5, δ4, ds1, δ5, R5, q5, fun J1 H6 m6 R6 e6 hwk1 => ?_⟩
          have e46 := (e4.trans e5).trans e6
          refine ⟨fun j m H' => m = ds1.length - j ∧ j ≤ ds1.length ∧ ∃ mi δi acci usi, Rp K (G.push L usi) mi H' σ4 δi ∧ Ext m6 H6 mi H' ∧ DvAll K (mask H' mi) usi acci ∧ okWipe δi vs1 = true ∧ lcLoop g1 tt1 te vs1 (ds1.drop j) acci δi = some (accE, δE), ?_, ?_⟩
          · exact ⟨ds1.length, rfl, Nat.zero_le _, m6, δ5, acc, us, R6, .refl, da.mono (ew.trans e46).same, hwi, by simpa using q6⟩
          rintro j m H7 ⟨rfl, hj, m7, δ7, acci, usi, R7, e7, dai, hw7, hl7⟩
          obtain ⟨v1, v2⟩ := hwk1 j m7 H7 e7 R7.here
          by_cases hlt1 : j < ds1.length
          · right
            have hd1 : ds1[j]? = some ds1[j] := List.getElem?_eq_getElem hlt1
            rw [List.drop_eq_getElem_cons hlt1] at hl7
            obtain ⟨go1, yl1⟩ := v1 _ hd1
            refine ⟨go1, fun H' => ∃ mi δi acci usi, Rp K (G.push L usi) mi H' σ4 δi ∧ Ext m6 H6 mi H' ∧ DvAll K (mask H' mi) usi acci ∧ okWipe δi vs1 = true ∧ lcLoop g1 tt1 te vs1 (ds1.drop (j + 1)) acci δi = some (accE, δE), fun H' hN => ⟨ds1.length - (j + 1), by omega, rfl, hlt1, hN⟩, fun x1 H8 y1 => ?_⟩
            obtain ⟨sm1, dx1⟩ := yl1 x1 H8 y1
            unfold lcLoop at hl7
            obtain ⟨δ8, q8, hl7⟩ := bind_inv hl7
            have Rw7 : Rp K (G.push L usi) m7 H8 σ4 δ7 := R7.same sm1
            have ew7 : Ext m7 H7 m7 H8 := .of_same sm1
            refine ⟨G.push L usi, m7, wipeD δ7 vs1, ds1[j], δ8, Rw7.wiped vs1 hw7, dx1, q8, fun σ9 H9 m9 R9 e9 z9 y9 => ⟨wipe_eq (y9.trans (wipe_length σ4 vs1)) (fun j hj => z9 j fun z => hj (hws1 j z)), ?_⟩⟩
            obtain ⟨⟨b, δ9⟩, q9, hl7⟩ := bind_inv hl7
            simp only at hl7
            have hσ1 : ∀ j, j ∉ vs1 → σ9[j]? = σ4[j]? := fun j hj => (z9 j fun z => hj (hws1 j z)).trans (wipe_out hj)
            refine ⟨G.push L usi, m9, δ8, b, δ9, R9, q9, fun H10 m10 R10 e10 => ?_⟩
            cases b with
            | false =>
              rw [if_neg Bool.false_ne_true] at hl7
              show if false = true then _ else _
              rw [if_neg Bool.false_ne_true]
              have e910 := e9.trans e10
              exact ⟨m10, restD δ7 vs1 δ9, acci, usi, Rw7.restore R10 e910 hw7 hσ1, (e7.trans ew7).trans e910, dai.mono (ew7.trans e910).same, restD_ok hw7, hl7⟩
            | true =>
              rw [if_pos rfl] at hl7
              show if true = true then _ else _
              rw [if_pos rfl]
              obtain ⟨⟨a, δ10⟩, q10, hl7⟩ := bind_inv hl7
              obtain ⟨⟨yd, δ11⟩, q11, hl7⟩ := bind_inv hl7
              simp only at hl7
              split at hl7
              · rename_i hsz
                refine ⟨G.push L usi, m10, δ9, a, δ10, R10, q10, fun v H11 m11 R11 e11 h11 => ?_⟩
                obtain ⟨m12, R12, e12, d12⟩ := frz_ok R11 h11 q11
                have e912 := ((e9.trans e10).trans e11).trans e12
                have Rr := Rw7.restore R12 e912 hw7 hσ1
                have hLl : H11 L = some (.lst usi) := R12.keep L _ (by show upd G.H0 L (.lst usi) L = some _; rw [upd_same]) (fun j z => Lb j z)
                have dal := dai.mono (ew7.trans e912).same
                obtain ⟨Rg, eg⟩ := Rr.grow (ys := usi ++ [v]) Lb
                refine ⟨usi, hLl, by rw [dai.length]; exact hsz, m12, restD δ7 vs1 δ11, acci ++ [yd], usi ++ [v], Rg, ((e7.trans ew7).trans e912).trans eg, ?_, restD_ok hw7, hl7⟩
                exact (dal.mono eg.same).append (.cons (d12.mono eg.same) .nil)
              · cases hl7
          · left
            have hz : ds1.drop j = [] := List.drop_eq_nil_of_le (by omega)
            rw [hz] at hl7
            unfold lcLoop at hl7
            cases hl7
            refine ⟨v2 (by omega), ?_⟩
            obtain ⟨Rg, eg⟩ := Rw.grow (ys := usi) Lb
            have eAll : Ext m2 H3 m7 H7 := e46.trans e7
            have pm : L ∈ m2 := Rw.ms0 L List.mem_cons_self
            have e' : Ext m2 (upd H3 L (.lst usi)) m7 H7 := fun a o h1 h2 => eAll a o h1 (by rw [upd_ne (fun z : a = L => h1 (by rw [z]; exact pm))] at h2; exact h2)
            exact ⟨m7, restD δ2 vs δE, accE, usi, Rg.restore R7 e' hw2 hσ, (e2.trans ew).trans eAll, dai, restD_ok hw2, hl⟩
        · cases hl
    · left
      have hz : ds.drop i = [] := List.drop_eq_nil_of_le (by omega)
      rw [hz] at hl
      unfold lc2Loop at hl
      cases hl
      refine ⟨w2 (by omega), ?_⟩
      obtain ⟨Rp', mk, up, dl⟩ := R2.pop Lb L0 Ln
      have q := k L us (Hp.del H2 L) (m2.filter (fun a => decide (a ≠ L))) Rp' (e1.trans fun a o h1 h2 => ?_) dl (by rw [mk]; exact da)
      · rw [up] at q; exact q
      · obtain ⟨z1, z2⟩ := e2 a o h1 h2
        refine ⟨fun z => z1 (List.mem_filter.mp z).1, ?_⟩
        unfold Hp.del
        rw [if_neg (fun z : a = L => by rw [z, hL] at h2; cases h2)]
        exact z2
  · cases e
variable {ifs ifs1 : List Expr} {scope : Scope} {own : List (Str × Nat)} {vs1 : List Nat} {pos : Pos}
theorem dn_lc2 (hN : X.N.Nodup) (hi : PI X tg iter (tI X.K G fi)) (ok : BlkOk X.N X.env.scope scope own)
    (hg : ∀ (G : Gm) (s : Shared) (H : Hp) (C : Addr) (cl : List (Str × Addr)) (fp : List Addr), PG (X.blk s H scope (compEnvC scope cl C X.env) fp) tg (tG X.K G ws g))
    (ht : ∀ (G : Gm) (s : Shared) (H : Hp) (C : Addr) (cl : List (Str × Addr)) (fp : List Addr), PTs (X.blk s H scope (compEnvC scope cl C X.env) fp) ifs (tT X.K G tt))
    (hi1 : ∀ (G : Gm) (s : Shared) (H : Hp) (C : Addr) (cl : List (Str × Addr)) (fp : List Addr), PI (X.blk s H scope (compEnvC scope cl C X.env) fp) tg1 iter1 (tI X.K G fi1))
    (hg1 : ∀ (G : Gm) (s : Shared) (H : Hp) (C : Addr) (cl : List (Str × Addr)) (fp : List Addr), PG (X.blk s H scope (compEnvC scope cl C X.env) fp) tg1 (tG X.K G ws1 g1))
    (ht1 : ∀ (G : Gm) (s : Shared) (H : Hp) (C : Addr) (cl : List (Str × Addr)) (fp : List Addr), PTs (X.blk s H scope (compEnvC scope cl C X.env) fp) ifs1 (tT X.K G tt1))
    (he : ∀ (G : Gm) (s : Shared) (H : Hp) (C : Addr) (cl : List (Str × Addr)) (fp : List Addr), PE (X.blk s H scope (compEnvC scope cl C X.env) fp) elt (tO X.K G te))
    (hws : ∀ j ∈ ws, j ∈ own.map (·.2) := by decide) (hws1 : ∀ j ∈ ws1, j ∈ vs1 := by decide) (hv : ∀ j ∈ vs1, j ∈ own.map (·.2) := by decide) (hc : X.calm = true := by rfl) (hs : ∀ x, foldedSetIterable iter X.env x = pure x := by intro _; rfl) (hs1 : ∀ env x, foldedSetIterable iter1 env x = pure x := by intro _ _; rfl) :
    PE X (.ListComp elt [⟨tg, iter, ifs, 0⟩, ⟨tg1, iter1, ifs1, 0⟩] scope pos) (tN X.K G (lc2N fi g tt fi1 g1 tt1 te (own.map (·.2)) vs1)) :=
  PE.imp (pe_lc2 (vs1 := vs1) (g := fun v σ H Q => ∃ G, tG X.K G ws g v σ H Q) (tt := fun σ H Q => ∃ G, tT X.K G tt σ H Q) (wi1 := fun σ H Q => ∃ G, tI X.K G fi1 σ H Q) (g1 := fun v σ H Q => ∃ G, tG X.K G ws1 g1 v σ H Q) (tt1 := fun σ H Q => ∃ G, tT X.K G tt1 σ H Q) (te := fun σ H Q => ∃ G, tO X.K G te σ H Q) hc hN hi ok hv
    (fun s H C cl fp => ⟨fun pins s' σ H' v u Q I r ⟨G', q⟩ => (hg G' s H C cl fp).run pins s' σ H' v u Q I r q⟩)
    (fun s H C cl fp => ⟨fun pins s' σ H' Q I ⟨G', q⟩ => (ht G' s H C cl fp).run pins s' σ H' Q I q⟩)
    (fun s H C cl fp => ⟨fun pins s' σ H' R I ⟨G', q⟩ => (hi1 G' s H C cl fp).run pins s' σ H' R I q⟩)
    (fun s H C cl fp => ⟨fun pins s' σ H' v u Q I r ⟨G', q⟩ => (hg1 G' s H C cl fp).run pins s' σ H' v u Q I r q⟩)
    (fun s H C cl fp => ⟨fun pins s' σ H' Q I ⟨G', q⟩ => (ht1 G' s H C cl fp).run pins s' σ H' Q I q⟩)
    (fun s H C cl fp => ⟨fun pins s' σ H' Q I ⟨G', q⟩ => (he G' s H C cl fp).run pins s' σ H' Q I q⟩) hs hs1) (tLc2_of hws hws1 hv)
theorem ds_setLc2 {i : Nat} {y : Str} {py spos : Pos} (hN : X.N.Nodup) (hi : PI X tg iter (tI X.K G fi)) (ok : BlkOk X.N X.env.scope scope own)
    (hg : ∀ (G : Gm) (s : Shared) (H : Hp) (C : Addr) (cl : List (Str × Addr)) (fp : List Addr), PG (X.blk s H scope (compEnvC scope cl C X.env) fp) tg (tG X.K G ws g))
    (ht : ∀ (G : Gm) (s : Shared) (H : Hp) (C : Addr) (cl : List (Str × Addr)) (fp : List Addr), PTs (X.blk s H scope (compEnvC scope cl C X.env) fp) ifs (tT X.K G tt))
    (hi1 : ∀ (G : Gm) (s : Shared) (H : Hp) (C : Addr) (cl : List (Str × Addr)) (fp : List Addr), PI (X.blk s H scope (compEnvC scope cl C X.env) fp) tg1 iter1 (tI X.K G fi1))
    (hg1 : ∀ (G : Gm) (s : Shared) (H : Hp) (C : Addr) (cl : List (Str × Addr)) (fp : List Addr), PG (X.blk s H scope (compEnvC scope cl C X.env) fp) tg1 (tG X.K G ws1 g1))
    (ht1 : ∀ (G : Gm) (s : Shared) (H : Hp) (C : Addr) (cl : List (Str × Addr)) (fp : List Addr), PTs (X.blk s H scope (compEnvC scope cl C X.env) fp) ifs1 (tT X.K G tt1))
    (he : ∀ (G : Gm) (s : Shared) (H : Hp) (C : Addr) (cl : List (Str × Addr)) (fp : List Addr), PE (X.blk s H scope (compEnvC scope cl C X.env) fp) elt (tO X.K G te))
    (hsw : swapsWith (.ListComp elt [⟨tg, iter, ifs, 0⟩, ⟨tg1, iter1, ifs1, 0⟩] scope pos) (some (.Name y py)) spos.line X.env = pure true)
    (hy : X.N[i]? = some y := by rfl) (hyl : X.env.scope.names.lookup y = some .local := by rfl)
    (hws : ∀ j ∈ ws, j ∈ own.map (·.2) := by decide) (hws1 : ∀ j ∈ ws1, j ∈ vs1 := by decide) (hv : ∀ j ∈ vs1, j ∈ own.map (·.2) := by decide) (hc : X.calm = true := by rfl) (hs : ∀ x, foldedSetIterable iter X.env x = pure x := by intro _; rfl) (hs1 : ∀ env x, foldedSetIterable iter1 env x = pure x := by intro _ _; rfl) :
    PS X (.Assign [.Name y py] (.ListComp elt [⟨tg, iter, ifs, 0⟩, ⟨tg1, iter1, ifs1, 0⟩] scope pos) spos) (tS X.K G (setS i (nO (lc2N fi g tt fi1 g1 tt1 te (own.map (·.2)) vs1)))) :=
  PS.imp (ps_setLc2 (vs1 := vs1) (g := fun v σ H Q => ∃ G, tG X.K G ws g v σ H Q) (tt := fun σ H Q => ∃ G, tT X.K G tt σ H Q) (wi1 := fun σ H Q => ∃ G, tI X.K G fi1 σ H Q) (g1 := fun v σ H Q => ∃ G, tG X.K G ws1 g1 v σ H Q) (tt1 := fun σ H Q => ∃ G, tT X.K G tt1 σ H Q) (te := fun σ H Q => ∃ G, tO X.K G te σ H Q) hc hN hy hyl hsw hi ok hv
    (fun s H C cl fp => ⟨fun pins s' σ H' v u Q I r ⟨G', q⟩ => (hg G' s H C cl fp).run pins s' σ H' v u Q I r q⟩)
    (fun s H C cl fp => ⟨fun pins s' σ H' Q I ⟨G', q⟩ => (ht G' s H C cl fp).run pins s' σ H' Q I q⟩)
    (fun s H C cl fp => ⟨fun pins s' σ H' R I ⟨G', q⟩ => (hi1 G' s H C cl fp).run pins s' σ H' R I q⟩)
    (fun s H C cl fp => ⟨fun pins s' σ H' v u Q I r ⟨G', q⟩ => (hg1 G' s H C cl fp).run pins s' σ H' v u Q I r q⟩)
    (fun s H C cl fp => ⟨fun pins s' σ H' Q I ⟨G', q⟩ => (ht1 G' s H C cl fp).run pins s' σ H' Q I q⟩)
    (fun s H C cl fp => ⟨fun pins s' σ H' Q I ⟨G', q⟩ => (he G' s H C cl fp).run pins s' σ H' Q I q⟩) hs hs1) fun E σ H q => dn_useF (tLc2_of hws hws1 hv) q
end
/-! ### its plain side -/
section
variable {g g1 : EG} {tt tt1 : ET} {fi fi1 : EI} {te : EO} {vs vs1 : List Nat} {δ : DE} {PN : List D → DE → Prop}
theorem w_lc2N (h : W fi δ fun ds δ1 => okWipe δ1 vs = true ∧ W (lc2Loop g tt fi1 g1 tt1 te vs vs1 ds []) δ1 PN) : W (lc2N fi g tt fi1 g1 tt1 te vs vs1) δ PN := by
  obtain ⟨ds, δ1, e, hw, out, δ2, e2, p⟩ := h
  exact ⟨_, _, by unfold lc2N; simp only [e, Option.bind_some]; rw [if_pos hw]; exact e2, p⟩
/-- both loops by pure functions: each outer item gives its list -/
theorem w_lc2p {ds : List D} {F : D → List D} (hl : (ds.flatMap F).length ≤ sizeLine)
    (h : ∀ x ∈ ds, ∀ acc : List D, acc.length + (F x).length ≤ sizeLine → Wg g x (wipeD δ vs) fun δ1 => W tt δ1 fun b δ2 => b = true ∧ W fi1 δ2 fun ds1 δ3 => okWipe δ3 vs1 = true ∧ W (lcLoop g1 tt1 te vs1 ds1 acc) δ3 fun out δ4 => out = acc ++ F x ∧ restD δ vs δ4 = δ)
    (p : PN (ds.flatMap F) δ) : W (lc2Loop g tt fi1 g1 tt1 te vs vs1 ds []) δ PN := by
  have key : ∀ (ds : List D) (acc : List D), acc.length + (ds.flatMap F).length ≤ sizeLine → (∀ x ∈ ds, ∀ acc : List D, acc.length + (F x).length ≤ sizeLine → Wg g x (wipeD δ vs) fun δ1 => W tt δ1 fun b δ2 => b = true ∧ W fi1 δ2 fun ds1 δ3 => okWipe δ3 vs1 = true ∧ W (lcLoop g1 tt1 te vs1 ds1 acc) δ3 fun out δ4 => out = acc ++ F x ∧ restD δ vs δ4 = δ) →
      lc2Loop g tt fi1 g1 tt1 te vs vs1 ds acc δ = some (acc ++ ds.flatMap F, δ) := by
    intro ds
    induction ds with
    | nil => intro acc _ _; simp [lc2Loop]
    | cons x ds ih =>
      intro acc ha hx
      rw [List.flatMap_cons, List.length_append] at ha
      obtain ⟨δ1, e1, b, δ2, e2, rfl, ds1, δ3, e3, hw, out, δ4, e4, rfl, e5⟩ := hx x List.mem_cons_self acc (by omega)
      unfold lc2Loop
      simp only [e1, Option.bind_some, e2, if_true, e3, hw, e4, e5]
      rw [ih (acc ++ F x) (by rw [List.length_append]; omega) (fun y hy => hx y (List.mem_cons_of_mem _ hy)), List.flatMap_cons, List.append_assoc]
  exact ⟨_, _, by rw [key ds [] (by simpa using hl) h], by simpa using p⟩
end
end DL
namespace DL
open PySem PySem.Spec PyProof.Rows L2

/-! ### sorted(set(xs)), xs a list of tuples of small ints -/
theorem code_inj {B : Int} : ∀ (r q : List Int), r.length = q.length → TS.Bd B r → TS.Bd B q → TS.code B r = TS.code B q → r = q
  | [], [], _, _, _, _ => rfl
  | d :: r, e :: q, hl, h1, h2, h => by
    have hl' : r.length = q.length := by simpa using hl
    rcases Int.lt_trichotomy d e with z | rfl | z
    · have := TS.code_lt hl' h1.tail h2.tail z; omega
    · have : TS.code B r = TS.code B q := by
        have a : d * B ^ r.length + TS.code B r = d * B ^ q.length + TS.code B q := h
        rw [hl'] at a; omega
      rw [code_inj r q hl' h1.tail h2.tail this]
    · have := TS.code_lt hl'.symm h2.tail h1.tail z; omega
def ddp {α : Type} [DecidableEq α] : List α → List α
  | [] => []
  | x :: xs => if x ∈ xs then ddp xs else x :: ddp xs
theorem mem_ddp {α : Type} [DecidableEq α] : ∀ {l : List α} {x : α}, x ∈ ddp l ↔ x ∈ l
  | [], x => by simp [ddp]
  | y :: l, x => by
    unfold ddp
    split
    · rename_i h
      rw [mem_ddp, List.mem_cons]
      exact ⟨.inr, fun z => z.elim (fun e => e ▸ h) id⟩
    · rw [List.mem_cons, List.mem_cons, mem_ddp]
theorem nodup_ddp {α : Type} [DecidableEq α] : ∀ (l : List α), (ddp l).Nodup
  | [] => List.nodup_nil
  | y :: l => by
    unfold ddp
    split
    · exact nodup_ddp l
    · rename_i h
      exact List.nodup_cons.mpr ⟨fun z => h (mem_ddp.mp z), nodup_ddp l⟩
def cle (a b : List Int) : Bool := decide (TS.code 64 a ≤ TS.code 64 b)
def srtW (l : List (List Int)) : List (List Int) := (ddp l).mergeSort cle
theorem mem_srtW {l : List (List Int)} {x : List Int} : x ∈ srtW l ↔ x ∈ l := by
  unfold srtW
  rw [(List.mergeSort_perm _ _).mem_iff, mem_ddp]
theorem srtW_sorted (l : List (List Int)) : (srtW l).Pairwise fun a b => TS.code 64 a ≤ TS.code 64 b := by
  have := List.pairwise_mergeSort (le := cle) (fun a b c h1 h2 => decide_eq_true (Int.le_trans (of_decide_eq_true h1) (of_decide_eq_true h2))) (fun a b => by
    rcases Int.le_total (TS.code 64 a) (TS.code 64 b) with z | z
    · simp [cle, z]
    · simp [cle, z]) (ddp l)
  exact this.imp fun h => of_decide_eq_true h
theorem srtW_nodup (l : List (List Int)) : (srtW l).Nodup := (List.mergeSort_perm _ _).nodup_iff.mpr (nodup_ddp l)
theorem srtW_unique {l m : List (List Int)} {d : Nat} (hl : ∀ x ∈ l, x.length = d ∧ TS.Bd 64 x) (h : ∀ x, x ∈ m ↔ x ∈ l) (hn : m.Nodup) (hs : m.Pairwise fun a b => TS.code 64 a ≤ TS.code 64 b) : m = srtW l := by
  have hp : m.Perm (srtW l) := (List.perm_ext_iff_of_nodup hn (srtW_nodup l)).mpr fun x => by rw [h, mem_srtW]
  refine List.Perm.eq_of_pairwise (le := fun a b => TS.code 64 a ≤ TS.code 64 b) (fun a b ha hb h1 h2 => ?_) hs (srtW_sorted l) hp
  have a1 := hl a ((h a).mp ha)
  have b1 := hl b (mem_srtW.mp hb)
  exact code_inj a b (a1.1.trans b1.1.symm) a1.2 b1.2 (Int.le_antisymm h1 h2)
def tupsD : List D → Option (List (List Int))
  | [] => some []
  | .tup xs :: ds => (intsD xs).bind fun ns => (tupsD ds).bind fun r => some (ns :: r)
  | _ => none
def wD (ns : List Int) : D := .tup (ns.map D.int)
theorem tupsD_ok : ∀ {ds : List D} {l : List (List Int)}, tupsD ds = some l → ds = l.map wD
  | [], l, e => by cases e; rfl
  | d :: ds, l, e => by
    unfold tupsD at e
    split at e
    · rename_i h; cases h
    · rename_i xs ds' h
      cases h
      obtain ⟨ns, h1, e⟩ := bind_inv e
      obtain ⟨r, h2, e⟩ := bind_inv e
      cases e
      rw [tupsD_ok h2, intsD_ok h1]; rfl
    · cases e
theorem tupsD_map : ∀ (l : List (List Int)), tupsD (l.map wD) = some l
  | [] => rfl
  | n :: l => by simp only [List.map_cons, wD, tupsD, intsD_map, Option.bind_some]; rw [tupsD_map l]; rfl
def wOk (d : Nat) (ns : List Int) : Bool := decide (ns.length = d) && ns.all fun m => decide (0 ≤ m ∧ m < 64)
def srtSetD : OpN := fun ds => match ds with
  | [.lst xs] => (tupsD xs).bind fun l => match l with
    | [] => none
    | n0 :: r => if (n0 :: r).length < 64 ∧ 1 ≤ n0.length ∧ (n0 :: r).all (wOk n0.length) = true then some (.lst ((srtW (n0 :: r)).map wD)) else none
  | _ => none
theorem refs_of {K : PySem.W.Frag} {H : Hp} : ∀ {l : List (List Int)} {us : List V}, DvAll K H us (l.map wD) → ∃ ks : List (Addr × List Int), us = ks.map (fun p => V.ref p.1) ∧ ks.map (·.2) = l ∧ ∀ p ∈ ks, Dv K H (.ref p.1) (wD p.2)
  | [], us, h => by cases h; exact ⟨[], rfl, rfl, fun _ h => by cases h⟩
  | n :: l, us, h => by
    cases h with
    | cons a b =>
      obtain ⟨ks, rfl, rfl, h3⟩ := refs_of b
      have a' := a
      cases a with
      | tup s1 n1 a1 =>
        rename_i p xs
        exact ⟨(p, n) :: ks, rfl, rfl, fun q hq => by
          rcases List.mem_cons.mp hq with rfl | hq
          · exact a'
          · exact h3 q hq⟩
theorem dv_word {K : PySem.W.Frag} {H : Hp} {a : Addr} {ns : List Int} (h : Dv K H (.ref a) (wD ns)) : SqT K H a (ns.map V.int) := by
  unfold wD at h
  cases h with
  | tup s1 n1 a1 => rw [a1.ints] at s1; exact s1
theorem dvAll_refs {K : PySem.W.Frag} {H : Hp} : ∀ {ks : List (Addr × List Int)}, (∀ p ∈ ks, Dv K H (.ref p.1) (wD p.2)) → DvAll K H (ks.map fun p => V.ref p.1) ((ks.map (·.2)).map wD)
  | [], _ => .nil
  | p :: ks, h => .cons (h p List.mem_cons_self) (dvAll_refs fun q hq => h q (List.mem_cons_of_mem _ hq))
section
variable {X : Cx} {G : Gm} {e : Expr} {fa : EA} {p p2 pos q : Pos}
theorem do_srtSet (hu : X.A.units + 64 < cLine) (ha : PA X [e] (tAr X.K G fa)) (hg : Gl X "sorted") (hm : X.mg "sorted" = none) (hg2 : Gl X "set") (hm2 : X.mg "set" = none) (hc : X.calm = true := by rfl)
    (he : starEach [e] X.env = (false, eval e X.env) :: starEach [] X.env := by rfl) (hpl : (backTo q (starEach [] X.env)).any (·.1) = false := by rfl)
    (he2 : starEach [.Call (.Name "set" p2) [e] [] q] X.env = (false, eval (.Call (.Name "set" p2) [e] [] q) X.env) :: starEach [] X.env := by rfl) (hpl2 : (backTo pos (starEach [] X.env)).any (·.1) = false := by rfl) :
    PE X (.Call (.Name "sorted" p) [.Call (.Name "set" p2) [e] [] q] [] pos) (tO X.K G (callN srtSetD fa)) := by
  have h1 : PE X (.Call (.Name "set" p2) [e] [] q) (tCB (rSetOfT X.K X.prog X.w) (tAr X.K G fa)) := pe_callTy (cr_setOfT hc hu) hg2 hm2 PyProof.Rows.boot_set ha (he := he) (hpl := hpl)
  refine PE.imp (pe_callB (cr_sortedT hc) hg hm boot_sorted (pa_cons h1 pa_nil) (he := he2) (hpl := hpl2)) fun σ H Q q => ?_
  obtain ⟨ms, δ, x, δ', R, e, k⟩ := q
  obtain ⟨a, δ1, x, z, q1, q3, q5, e⟩ := callN_inv e
  cases e
  refine ⟨ms, δ, a, _, R, q1, fun v1 H1 m1 R1 e1 h1 => ?_⟩
  have ht := tops_of R1 h1 q3
  unfold srtSetD at q5
  split at q5
  · rename_i xs
    obtain ⟨l, q6, q5⟩ := bind_inv q5
    split at q5
    · cases q5
    · rename_i n0 r
      split at q5
      · rename_i hok
        cases q5
        cases ht with
        | cons t tn =>
          cases tn
          obtain ⟨p, us, rfl, s1, a1⟩ := t.lst
          rw [tupsD_ok q6] at a1
          obtain ⟨ks, rfl, hk2, hk3⟩ := refs_of a1
          have hd : ∀ x ∈ (n0 :: r), x.length = n0.length ∧ TS.Bd 64 x := fun x hx => by
            have := List.all_eq_true.mp hok.2.2 x hx
            unfold wOk at this
            rw [Bool.and_eq_true, decide_eq_true_eq, List.all_eq_true] at this
            exact ⟨this.1, fun m hm => of_decide_eq_true (this.2 m hm)⟩
          have hlen : ks.length = (n0 :: r).length := by rw [← hk2, List.length_map]
          refine ⟨p, ks, rfl, SqL.of s1, fun p hp => Same.seqT mask_sub (dv_word (hk3 p hp)), by rw [hlen]; exact hok.1, fun a L hn hL hA => ?_⟩
          have sm := same_upd (o := SetTO X.prog X.w a L) hn
          refine ⟨a, L, n0.length, 64, rfl, upd_same, fun p hp => Same.seqT sm (Same.seqT mask_sub (dv_word (hk3 p (hL p hp)))), hok.2.1, fun p hp => hd p.2 (by rw [← hk2]; exact List.mem_map_of_mem (hL p hp)), fun L' r' pm nd hl64 pw hr => ?_⟩
          have hmem : ∀ x, x ∈ L'.map (·.2) ↔ x ∈ n0 :: r := fun x => by
            rw [← hk2]
            constructor
            · intro hx
              obtain ⟨p, hp, rfl⟩ := List.mem_map.mp hx
              exact List.mem_map_of_mem (hL p (pm.mem_iff.mp hp))
            · intro hx
              obtain ⟨p, hp, rfl⟩ := List.mem_map.mp hx
              obtain ⟨p', hp', e'⟩ := List.mem_map.mp (hA p hp)
              rw [← e']
              exact List.mem_map_of_mem (pm.mem_iff.mpr hp')
          have hu : L'.map (·.2) = srtW (n0 :: r) := srtW_unique hd hmem nd (List.pairwise_map.mpr pw)
          rw [← hu] at k
          have R2 := R1.same sm
          have e2 : Ext m1 H1 m1 (upd H1 a (SetTO X.prog X.w a L)) := .of_same sm
          have dvs : DvAll X.K (mask (upd H1 a (SetTO X.prog X.w a L)) m1) (L'.map fun p => V.ref p.1) ((L'.map (·.2)).map wD) := dvAll_refs fun p hp => (hk3 p (hL p (pm.mem_iff.mp hp))).mono e2.same
          exact k _ _ m1 (R2.same (same_upd hr)) ((e1.trans e2).trans (.of_same (same_upd hr))) (dv_new_lst R2.here hr dvs)
      · cases q5
  · cases q5
end
end DL
namespace DL
open PySem PySem.Spec PyProof.Rows L2

/-! ### sorted(xs), xs a list of tuples of ints, any length -/
def wle (a b : List Int) : Bool := decide (a ≤ b)
def encW (b : V × List Int) : PyData := .tuple (b.2.map .int)
theorem dataLe_tups : PySem.W.dataLe false encW = fun p q => wle p.2 q.2 := by
  funext p q
  show (!PySem.W.dataLt (.tuple (q.2.map .int)) (.tuple (p.2.map .int))) = _
  rw [PySem.W.dataLt_tuple]
  show (!PySem.W.rowLt (q.2.map .int) (p.2.map .int)) = _
  rw [PySem.W.dataLt_ints]
  unfold wle
  by_cases h : q.2 < p.2
  · have h' : ¬ p.2 ≤ q.2 := fun r => List.not_lt.mpr r h
    simp [h, h']
  · have h' : p.2 ≤ q.2 := List.not_lt.mp h
    simp [h, h']
theorem dpAll_ints {K : PySem.W.Frag} {H : Hp} : ∀ (ns : List Int), DpAll K H (ns.map V.int) (ns.map .int)
  | [] => .nil
  | n :: ns => .cons (.int n) (dpAll_ints ns)
def rSortW (K : PySem.W.Frag) : List V → Hp → VK → Prop := fun vs H Q => ∃ (a : Addr) (ks : List (V × List Int)), vs = [V.ref a] ∧ SqL K H a (ks.map (·.1)) ∧ (∀ p ∈ ks, ∃ b, p.1 = V.ref b ∧ SqT K H b (p.2.map V.int)) ∧ (∀ p ∈ ks, p.2 ≠ []) ∧
  ∀ p, H p = none → Q (.ref p) (upd H p (.lst ((ks.mergeSort fun a b => wle a.2 b.2).map (·.1))))
section
variable {X : Cx} {pins : List (Addr × Obj)} {σ : L2.St} {H : Hp} {s : Shared}
theorem each_vals : ∀ {ks : List (V × List Int)} {its : List Value}, Vals (ks.map (·.1)) its → PySem.W.EachIs (fun v (b : V × List Int) => RelV b.1 v) its ks
  | [], _, h => by cases h; exact .nil
  | p :: ks, _, h => by
    cases h with
    | cons a b => exact .cons a (each_vals b)
theorem vals_each : ∀ {its : List Value} {ks : List (V × List Int)}, PySem.W.EachIs (fun v (b : V × List Int) => RelV b.1 v) its ks → Vals (ks.map (·.1)) its
  | _, _, .nil => .nil
  | _, _, .cons a b => .cons a (vals_each b)
theorem each_reads (I : Inv X pins σ H s) : ∀ {ks : List (V × List Int)} {its : List Value}, Vals (ks.map (·.1)) its → (∀ p ∈ ks, ∃ b, p.1 = V.ref b ∧ SqT X.K H b (p.2.map V.int)) → PySem.W.EachIs (fun v (b : V × List Int) => ∃ as, Reads s.heap v (encW b) as) its ks
  | [], _, h, _ => by cases h; exact .nil
  | p :: ks, _, h, hs => by
    cases h with
    | cons a b =>
      obtain ⟨c, e, hT⟩ := hs p List.mem_cons_self
      refine .cons (Dp.reads I (encW p) p.1 _ ?_ a) (each_reads I b fun q hq => hs q (List.mem_cons_of_mem _ hq))
      rw [e]
      exact .tup hT (dpAll_ints p.2)
theorem cr_sortW (hu : X.A.units + 4 < cLine) : CallR X (.builtin "sorted") (rSortW X.K) := by
  intro pins s σ H vs us Q I r h
  obtain ⟨a, ks, rfl, hs, hk, hne, q⟩ := h
  obtain ⟨its, rv, pl, hz⟩ := I.list hs
  rw [Vals.ref1 r]
  rw [List.length_map] at hz
  refine PySem.W.sorted_data (enc := encW) (vs := its) pl.isList (each_vals rv) (each_reads I rv hk) (PySem.W.AllAlike.of fun b b' => ?_) (.inl fun d hd => ?_) hz (fun b hb => ?_) fun out ho eo => ?_
  · exact PySem.W.alike_ints b.2 b'.2
  · obtain ⟨b, hb, rfl⟩ := List.mem_map.mp hd
    cases q : b.2 with
    | nil => exact absurd q (hne b hb)
    | cons x r => exact ⟨.int x, r.map .int, by unfold encW; rw [q]; rfl⟩
  · have e : (encW b).depth = 1 := by
      unfold encW
      simp only [PyData.depth, PySem.W.depth_ints]
    rw [e]; omega
  · rw [dataLe_tups] at eo
    obtain ⟨e, hat⟩ := sortedAll_at s.heap its out.toArray
    have hn : H (s.heap.objs.size + 1) = none := I.hok.fresh (Nat.le_succ _)
    have rl := vals_each eo
    refine ⟨.ref _, _, I.laid (t' := s.toks) (o := .lst ((ks.mergeSort fun a b => wle a.2 b.2).map (·.1))) (fun b ob z => sortedAll_old z) (Nat.le_succ _) ⟨?_, out, e, rl, hat⟩, rfl, q _ hn⟩
    rw [List.length_map, List.length_mergeSort]; exact hz
end
def sortWD : OpN := fun ds => match ds with
  | [.lst xs] => (tupsD xs).bind fun l => if (l.all fun n => !n.isEmpty) = true then some (.lst ((l.mergeSort wle).map wD)) else none
  | _ => none
theorem vrefs_of {K : PySem.W.Frag} {H : Hp} : ∀ {l : List (List Int)} {us : List V}, DvAll K H us (l.map wD) → ∃ ks : List (V × List Int), us = ks.map (·.1) ∧ ks.map (·.2) = l ∧ ∀ p ∈ ks, Dv K H p.1 (wD p.2)
  | [], us, h => by cases h; exact ⟨[], rfl, rfl, fun _ h => by cases h⟩
  | n :: l, us, h => by
    cases h with
    | cons a b =>
      rename_i v vs
      obtain ⟨ks, rfl, rfl, h3⟩ := vrefs_of b
      exact ⟨(v, n) :: ks, rfl, rfl, fun q hq => by
        rcases List.mem_cons.mp hq with rfl | hq
        · exact a
        · exact h3 q hq⟩
theorem dv_wordV {K : PySem.W.Frag} {H : Hp} {v : V} {ns : List Int} (h : Dv K H v (wD ns)) : ∃ b, v = V.ref b ∧ SqT K H b (ns.map V.int) := by
  have h' := h
  unfold wD at h
  cases h with
  | tup s1 n1 a1 => exact ⟨_, rfl, dv_word h'⟩
theorem dvAll_pairs {K : PySem.W.Frag} {H : Hp} : ∀ {ks : List (V × List Int)}, (∀ p ∈ ks, Dv K H p.1 (wD p.2)) → DvAll K H (ks.map (·.1)) ((ks.map (·.2)).map wD)
  | [], _ => .nil
  | p :: ks, h => .cons (h p List.mem_cons_self) (dvAll_pairs fun q hq => h q (List.mem_cons_of_mem _ hq))
theorem spec_sortW {K : PySem.W.Frag} : SpecN K (rSortW K) sortWD := fun ms H vs ds d Q h hm e k => by
  unfold sortWD at e
  split at e
  · rename_i xs
    obtain ⟨l, q6, e⟩ := bind_inv e
    split at e
    · rename_i hok
      cases e
      obtain ⟨v, rfl, t⟩ := top1 h
      obtain ⟨p, us, rfl, s1, a1⟩ := t.lst
      rw [tupsD_ok q6] at a1
      obtain ⟨ks, rfl, hk2, hk3⟩ := vrefs_of a1
      refine ⟨p, ks, rfl, SqL.of s1, fun p hp => ?_, fun p hp e => ?_, fun r hr => ?_⟩
      · obtain ⟨b, e, hT⟩ := dv_wordV (hk3 p hp)
        exact ⟨b, e, Same.seqT mask_sub hT⟩
      · have := List.all_eq_true.mp hok p.2 (by rw [← hk2]; exact List.mem_map_of_mem hp)
        rw [e] at this; simp at this
      · have em : (ks.mergeSort fun a b => wle a.2 b.2).map (·.2) = l.mergeSort wle := by
          rw [← hk2]
          exact List.map_mergeSort fun a _ b _ => rfl
        rw [← em] at k
        exact k _ _ (same_upd hr) (dv_new_lst hm hr (dvAll_pairs fun p hp => hk3 p (by
          exact (List.mergeSort_perm _ _).mem_iff.mp hp)))
    · cases e
  · cases e
def rSortAll (K : PySem.W.Frag) : List V → Hp → VK → Prop := fun vs H Q => rSortAny K vs H Q ∨ rSortW K vs H Q
theorem cr_sortAll {X : Cx} (hu : X.A.units + 64 < cLine) : CallR X (.builtin "sorted") (rSortAll X.K) := cr_or cr_sortAny (cr_sortW (by omega))
def sortAllD : OpN := fun ds => match ds with
  | [.lst (.tup a :: xs)] => sortWD [.lst (.tup a :: xs)]
  | ds => sortAnyD ds
theorem spec_sortAll {K : PySem.W.Frag} : SpecN K (rSortAll K) sortAllD := fun ms H vs ds d Q h hm e k => by
  unfold sortAllD at e
  split at e
  · exact .inr (spec_sortW ms H vs _ d Q h hm e k)
  · exact .inl (spec_sortAny ms H vs _ d Q h hm e k)

/-! ### t <= u, tuples of ints -/
def leTD : Op2 := fun x y => match x, y with
  | .tup xs, .tup ys => (intsD xs).bind fun ns => (intsD ys).bind fun ms => some (.bl (Ob.lexAt (fun j => decide (ns.getD j 0 = ms.getD j 0)) (fun j => decide (ns.getD j 0 ≤ ms.getD j 0)) (decide (ns.length ≤ ms.length)) 0 (min ns.length ms.length)))
  | _, _ => none
theorem spec_leT {K : PySem.W.Frag} : Spec2 K (rLeT K) leTD := fun ms H v1 v2 d1 d2 d Q h1 h2 hm e k => by
  unfold leTD at e
  split at e
  · obtain ⟨ns, q1, e⟩ := bind_inv e
    obtain ⟨ls, q2, e⟩ := bind_inv e
    cases e
    obtain ⟨p, us, rfl, s1, a1⟩ := h1.tup
    obtain ⟨q, ws, rfl, s2, a2⟩ := h2.tup
    rw [intsD_ok q1] at a1
    rw [intsD_ok q2] at a2
    rw [a1.ints] at s1
    rw [a2.ints] at s2
    exact ⟨p, q, ns, ls, rfl, rfl, s1, s2, k _ H (Same.refl H) (.bl _)⟩
  · cases e
/-- from the place i on -/
theorem lexAt_drop (ns ms : List Int) : ∀ (k i : Nat), i + k = min ns.length ms.length →
    Ob.lexAt (fun j => decide (ns.getD j 0 = ms.getD j 0)) (fun j => decide (ns.getD j 0 ≤ ms.getD j 0)) (decide (ns.length ≤ ms.length)) i k = decide (ns.drop i ≤ ms.drop i)
  | 0, i, h => by
    rw [Ob.lexAt_zero, decide_eq_decide]
    rcases Nat.le_total ns.length ms.length with z | z
    · have e : ns.drop i = [] := List.drop_eq_nil_of_le (by omega)
      rw [e]
      exact ⟨fun _ => List.nil_le _, fun _ => z⟩
    · by_cases z2 : ns.length = ms.length
      · have e : ns.drop i = [] := List.drop_eq_nil_of_le (by omega)
        rw [e]
        exact ⟨fun _ => List.nil_le _, fun _ => by omega⟩
      · have e : ms.drop i = [] := List.drop_eq_nil_of_le (by omega)
        rw [e]
        constructor
        · intro z3; omega
        · intro z3
          exfalso
          have : ns.drop i = [] := by
            cases q : ns.drop i with
            | nil => rfl
            | cons a l => rw [q] at z3; exact absurd z3 (by simp)
          have := List.drop_eq_nil_iff.mp this
          omega
  | k + 1, i, h => by
    have h1 : i < ns.length := by omega
    have h2 : i < ms.length := by omega
    have e1 : ns.getD i 0 = ns[i] := by simp [h1]
    have e2 : ms.getD i 0 = ms[i] := by simp [h2]
    rw [Ob.lexAt_succ, lexAt_drop ns ms k (i + 1) (by omega), List.drop_eq_getElem_cons h1, List.drop_eq_getElem_cons h2, e1, e2]
    by_cases z : ns[i] = ms[i]
    · rw [if_pos (decide_eq_true z), decide_eq_decide, List.cons_le_cons_iff]
      exact ⟨fun h => .inr ⟨z, h⟩, fun h => h.elim (fun q => by omega) (·.2)⟩
    · rw [if_neg (fun q => z (of_decide_eq_true q)), decide_eq_decide, List.cons_le_cons_iff]
      exact ⟨fun h => .inl (by omega), fun h => h.elim (fun q => by omega) (fun q => absurd q.1 z)⟩
theorem leT_ev (ns ms : List Int) : leTD (wD ns) (wD ms) = some (.bl (decide (ns ≤ ms))) := by
  unfold leTD wD
  simp only [intsD_map, Option.bind_some]
  rw [lexAt_drop ns ms _ 0 (by omega), List.drop_zero, List.drop_zero]
end DL
namespace DL
open PySem PySem.Spec PyProof.Rows L2

/-! ### sum of a tuple of ints -/
def rSumT (K : PySem.W.Frag) : List V → Hp → VK → Prop := fun vs H Q => ∃ (a : Addr) (ns : List Int), vs = [V.ref a] ∧ SqT K H a (ns.map V.int) ∧ Q (.int ns.sum) H
theorem cr_sumT {X : Cx} (hc : X.calm = true) : CallR X (.builtin "sum") (rSumT X.K) := by
  intro pins s σ H vs us Q I r h
  obtain ⟨a, ns, rfl, hs, q⟩ := h
  obtain ⟨its, rv, hT, _⟩ := I.tuple hs
  rw [Vals.ref1 r]
  have hi : IntsAre its ns := rv.ints
  obtain ⟨xs, e⟩ := hi.allInts.items
  have hn : numsOf (intItems xs).toList = ns := by rw [← e]; exact hi.numsOf
  rw [nums_intItems] at hn
  rw [e] at hT
  obtain ⟨ob, ho, _⟩ := id hT
  have hlt := Heap.lt_size ho
  refine call_sum_walkG (wpAny_pyIter_tuple (show s.heap.IsTuple a (intItems xs) from hT) ?_)
  refine ⟨_, [_, a], [_], _, _, _, numAt xs, rfl, Walks.tuple (A := X.A.in1) (I.ok.hd hc) _ a (Nat.ne_of_lt hlt) (intItems xs), ⟨⟨_, Heap.get?_push_size _ rfl, rfl, rfl⟩, (show s.heap.IsTuple a (intItems xs) from hT).push _⟩, fun b hb => ?_, fun _ _ => intItems_at, fun h' tk t' hk => ?_⟩
  · show b < (s.heap.push _).objs.size
    rw [Heap.size_push]
    rcases List.mem_cons.mp hb with rfl | hb
    · exact Nat.lt_succ_self _
    · rw [List.mem_singleton.mp hb]; exact Nat.lt_succ_of_lt hlt
  · have hk' : ∀ b o, s.heap.get? b = some o → h'.get? b = some o := fun b o e => hk b o (fun z => by
      rw [List.mem_singleton.mp z] at e
      exact Nat.lt_irrefl _ (Heap.lt_size e)) (Heap.get?_push_of_some _ e)
    rw [preSum_eq, List.take_of_length_le (by simp [intItems]), hn]
    exact ⟨.int _, H, I.kept hk', ⟨_, rfl⟩, q⟩
def rSumA (K : PySem.W.Frag) : List V → Hp → VK → Prop := fun vs H Q => rSum K vs H Q ∨ rSumT K vs H Q
theorem cr_sumA {X : Cx} (hc : X.calm = true) : CallR X (.builtin "sum") (rSumA X.K) := cr_or (cr_sum hc) (cr_sumT hc)
def sumAD : OpN := fun ds => match ds with
  | [.tup xs] => (intsD xs).bind fun ns => some (.int ns.sum)
  | ds => sumD ds
theorem spec_sumA {K : PySem.W.Frag} : SpecN K (rSumA K) sumAD := fun ms H vs ds d Q h hm e k => by
  unfold sumAD at e
  split at e
  · rename_i xs
    obtain ⟨ns, q, e⟩ := bind_inv e
    cases e
    obtain ⟨v, rfl, t⟩ := top1 h
    obtain ⟨p, us, rfl, s1, a1⟩ := t.tup
    rw [intsD_ok q] at a1
    rw [a1.ints] at s1
    exact .inr ⟨p, ns, rfl, s1, k _ H (Same.refl H) (.int _)⟩
  · exact .inl (spec_sum ms H vs _ d Q h hm e k)
theorem sumT_ev (ns : List Int) : sumAD [.tup (ns.map D.int)] = some (.int ns.sum) := by
  unfold sumAD
  simp [intsD_map]
theorem sumL_ev (ns : List Int) : sumAD [.lst (ns.map D.int)] = some (.int ns.sum) := by
  unfold sumAD sumD
  simp [intsD_map]
end DL
namespace DL
open PySem PySem.Spec PyProof.Rows L2

/-! ### min(xs), max(xs), xs a list of tuples of ints -/
def encT (b : List Int) : PyData := .tuple (b.map .int)
theorem lt_encT (a b : List Int) : PySem.W.dataLt (encT a) (encT b) = decide (a < b) := by
  unfold encT
  rw [PySem.W.dataLt_tuple]
  exact PySem.W.dataLt_ints a b
def foldMin (a : List Int) (l : List (List Int)) : List Int := l.foldl (fun x y => if y < x then y else x) a
def foldMax (a : List Int) (l : List (List Int)) : List Int := l.foldl (fun x y => if x < y then y else x) a
theorem fold_minT (a : List Int) : ∀ l : List (List Int), PySem.W.minD (encT a) (l.map encT) = encT (foldMin a l) := by
  intro l
  unfold PySem.W.minD foldMin
  induction l generalizing a with
  | nil => rfl
  | cons b l ih =>
    rw [List.map_cons, List.foldl_cons, List.foldl_cons, ← ih]
    congr 1
    rw [lt_encT]
    by_cases h : b < a <;> simp [h]
theorem fold_maxT (a : List Int) : ∀ l : List (List Int), PySem.W.maxD (encT a) (l.map encT) = encT (foldMax a l) := by
  intro l
  unfold PySem.W.maxD foldMax
  induction l generalizing a with
  | nil => rfl
  | cons b l ih =>
    rw [List.map_cons, List.foldl_cons, List.foldl_cons, ← ih]
    congr 1
    rw [lt_encT]
    by_cases h : a < b <;> simp [h]
theorem dpAll_tups {K : PySem.W.Frag} {H : Hp} : ∀ {ks : List (V × List Int)}, (∀ p ∈ ks, ∃ b, p.1 = V.ref b ∧ SqT K H b (p.2.map V.int)) → DpAll K H (ks.map (·.1)) ((ks.map (·.2)).map encT)
  | [], _ => .nil
  | p :: ks, h => by
    obtain ⟨b, e, hT⟩ := h p List.mem_cons_self
    have := dpAll_tups fun q hq => h q (List.mem_cons_of_mem _ hq)
    refine DpAll.cons ?_ this
    show Dp K H p.1 (encT p.2)
    rw [e]
    exact .tup hT (dpAll_ints p.2)
theorem alike_enc (a b : List Int) : PySem.W.alike (encT a) (encT b) = true := PySem.W.alike_ints a b
theorem alikeT (l : List (List Int)) : PySem.W.AlikeAll (l.map encT) := by
  constructor
  · intro x hx y hy
    obtain ⟨a, _, rfl⟩ := List.mem_map.mp hx
    obtain ⟨b, _, rfl⟩ := List.mem_map.mp hy
    exact PySem.W.alike_ints a b
  · intro x hx e
    obtain ⟨a, _, rfl⟩ := List.mem_map.mp hx
    cases e
theorem depthT : ∀ l : List (List Int), PyData.depthAll (l.map encT) ≤ 1
  | [] => by simp [PyData.depthAll]
  | a :: l => by
    have := depthT l
    rw [List.map_cons]
    unfold PyData.depthAll
    have e : (encT a).depth = 1 := by
      unfold encT
      simp only [PyData.depth, PySem.W.depth_ints]
    rw [e]
    omega
/-- the value at an index whose data are the told ones -/
def rMinT (K : PySem.W.Frag) (isMax : Bool) : List V → Hp → VK → Prop := fun vs H Q => ∃ (a : Addr) (ks : List (V × List Int)) (k0 : V × List Int), vs = [V.ref a] ∧ SqL K H a ((k0 :: ks).map (·.1)) ∧ (∀ p ∈ k0 :: ks, ∃ b, p.1 = V.ref b ∧ SqT K H b (p.2.map V.int)) ∧
  ∀ p ∈ k0 :: ks, p.2 = (if isMax = true then foldMax k0.2 (ks.map (·.2)) else foldMin k0.2 (ks.map (·.2))) → Q p.1 H
section
variable {X : Cx} {pins : List (Addr × Obj)} {σ : L2.St} {H : Hp} {s : Shared}
theorem vals_at : ∀ {ks : List (V × List Int)} {its : List Value} {i : Nat} {v : Value}, Vals (ks.map (·.1)) its → its[i]? = some v → ∃ p, ks[i]? = some p ∧ RelV p.1 v
  | [], _, _, _, h, e => by cases h; simp at e
  | p :: ks, _, 0, _, h, e => by
    cases h with
    | cons a b => simp at e; subst e; exact ⟨p, rfl, a⟩
  | p :: ks, _, i + 1, _, h, e => by
    cases h with
    | cons a b =>
      obtain ⟨q, h1, h2⟩ := vals_at (i := i) b (by simpa using e)
      exact ⟨q, by simpa using h1, h2⟩
theorem encT_inj {a b : List Int} (h : encT a = encT b) : a = b := by
  unfold encT at h
  injection h with h
  have : ∀ (a b : List Int), a.map PyData.int = b.map PyData.int → a = b := by
    intro a
    induction a with
    | nil => intro b h; cases b with
      | nil => rfl
      | cons _ _ => cases h
    | cons x a ih => intro b h; cases b with
      | nil => cases h
      | cons y b =>
        simp only [List.map_cons, List.cons.injEq, PyData.int.injEq] at h
        rw [h.1, ih b h.2]
  exact this a b h
theorem cr_minT (hc : X.calm = true) (hu : X.A.units + 4 < cLine) : CallR X (.builtin "min") (rMinT X.K false) := by
  intro pins s σ H vs us Q I r h
  obtain ⟨a, ks, k0, rfl, hs, hk, q⟩ := h
  obtain ⟨its, rv, hl, _⟩ := I.list hs
  rw [Vals.ref1 r]
  obtain ⟨as, hr⟩ := Dp.readsAll I _ _ _ (dpAll_tups hk) rv
  have hd := depthT ((k0 :: ks).map (·.2))
  refine PySem.W.min_list_data (x := encT k0.2) (xs := (ks.map fun z : V × List Int => z.2).map encT) (I.ok.hd hc) hl.isList (by simpa using hr) (alikeT ((k0 :: ks).map fun z : V × List Int => z.2)) (by
    rw [List.map_cons, List.map_cons] at hd; omega) fun i v h' tk bs hv hv2 hold => ?_
  rw [fold_minT] at hv2
  obtain ⟨p, hp, rel⟩ := vals_at rv (by simpa using hv)
  have hpm := List.mem_of_getElem? hp
  obtain ⟨b, eb, hT⟩ := hk p hpm
  obtain ⟨as2, hr2⟩ := Dp.reads I (encT p.2) p.1 v (by rw [eb]; exact .tup hT (dpAll_ints p.2)) rel
  have e := PySem.W.alike_unique _ _ _ _ _ (alike_enc p.2 _) (PySem.W.reads_keeps hold hr2) hv2
  have e2 : p.2 = foldMin k0.2 (ks.map (·.2)) := encT_inj e
  exact ⟨p.1, H, I.kept hold, rel, q p hpm (by rw [if_neg Bool.false_ne_true]; exact e2)⟩
theorem cr_maxT (hc : X.calm = true) (hu : X.A.units + 4 < cLine) : CallR X (.builtin "max") (rMinT X.K true) := by
  intro pins s σ H vs us Q I r h
  obtain ⟨a, ks, k0, rfl, hs, hk, q⟩ := h
  obtain ⟨its, rv, hl, _⟩ := I.list hs
  rw [Vals.ref1 r]
  obtain ⟨as, hr⟩ := Dp.readsAll I _ _ _ (dpAll_tups hk) rv
  have hd := depthT ((k0 :: ks).map (·.2))
  refine PySem.W.max_list_data (x := encT k0.2) (xs := (ks.map fun z : V × List Int => z.2).map encT) (I.ok.hd hc) hl.isList (by simpa using hr) (alikeT ((k0 :: ks).map fun z : V × List Int => z.2)) (by
    rw [List.map_cons, List.map_cons] at hd; omega) fun i v h' tk bs hv hv2 hold => ?_
  rw [fold_maxT] at hv2
  obtain ⟨p, hp, rel⟩ := vals_at rv (by simpa using hv)
  have hpm := List.mem_of_getElem? hp
  obtain ⟨b, eb, hT⟩ := hk p hpm
  obtain ⟨as2, hr2⟩ := Dp.reads I (encT p.2) p.1 v (by rw [eb]; exact .tup hT (dpAll_ints p.2)) rel
  have e := PySem.W.alike_unique _ _ _ _ _ (alike_enc p.2 _) (PySem.W.reads_keeps hold hr2) hv2
  have e2 : p.2 = foldMax k0.2 (ks.map (·.2)) := encT_inj e
  exact ⟨p.1, H, I.kept hold, rel, q p hpm (by rw [if_pos rfl]; exact e2)⟩
end
def minTD : OpN := fun ds => match ds with
  | [.lst xs] => (tupsD xs).bind fun l => match l with
    | [] => none
    | a :: l => some (wD (foldMin a l))
  | _ => none
def maxTD : OpN := fun ds => match ds with
  | [.lst xs] => (tupsD xs).bind fun l => match l with
    | [] => none
    | a :: l => some (wD (foldMax a l))
  | _ => none
theorem spec_minTT {K : PySem.W.Frag} (isMax : Bool) : SpecN K (rMinT K isMax) (if isMax = true then maxTD else minTD) := fun ms H vs ds d Q h hm e k => by
  have key : ∃ xs a l, ds = [.lst xs] ∧ tupsD xs = some (a :: l) ∧ d = wD (if isMax = true then foldMax a l else foldMin a l) := by
    cases isMax with
    | true =>
      rw [if_pos rfl] at e
      unfold maxTD at e
      split at e
      · obtain ⟨l, q6, e⟩ := bind_inv e
        cases l with
        | nil => cases e
        | cons a l => cases e; exact ⟨_, a, l, rfl, q6, rfl⟩
      · cases e
    | false =>
      rw [if_neg Bool.false_ne_true] at e
      unfold minTD at e
      split at e
      · obtain ⟨l, q6, e⟩ := bind_inv e
        cases l with
        | nil => cases e
        | cons a l => cases e; exact ⟨_, a, l, rfl, q6, rfl⟩
      · cases e
  obtain ⟨xs, a, l, rfl, q6, rfl⟩ := key
  obtain ⟨v, rfl, t⟩ := top1 h
  obtain ⟨p, us, rfl, s1, a1⟩ := t.lst
  rw [tupsD_ok q6] at a1
  obtain ⟨ks, rfl, hk2, hk3⟩ := vrefs_of a1
  cases ks with
  | nil => cases hk2
  | cons k0 ks =>
    rw [List.map_cons] at hk2
    injection hk2 with h0 h1
    refine ⟨p, ks, k0, rfl, SqL.of s1, fun q hq => ?_, fun q hq eq => ?_⟩
    · obtain ⟨b, e, hT⟩ := dv_wordV (hk3 q hq)
      exact ⟨b, e, Same.seqT mask_sub hT⟩
    · rw [h0, h1] at eq
      rw [← eq] at k
      exact k _ H (Same.refl H) (hk3 q hq)
def rMinA (K : PySem.W.Frag) : List V → Hp → VK → Prop := fun vs H Q => rMin K vs H Q ∨ rMinT K false vs H Q
def rMaxA (K : PySem.W.Frag) : List V → Hp → VK → Prop := fun vs H Q => rMax K vs H Q ∨ rMinT K true vs H Q
theorem cr_minA {X : Cx} (hc : X.calm = true) (hu : X.A.units + 64 < cLine) : CallR X (.builtin "min") (rMinA X.K) := cr_or (cr_min hc) (cr_minT hc (by omega))
theorem cr_maxA {X : Cx} (hc : X.calm = true) (hu : X.A.units + 64 < cLine) : CallR X (.builtin "max") (rMaxA X.K) := cr_or (cr_max hc) (cr_maxT hc (by omega))
def minAD : OpN := fun ds => match ds with
  | [.lst (.tup a :: xs)] => minTD [.lst (.tup a :: xs)]
  | ds => minLD ds
def maxAD : OpN := fun ds => match ds with
  | [.lst (.tup a :: xs)] => maxTD [.lst (.tup a :: xs)]
  | ds => maxLD ds
theorem spec_minA {K : PySem.W.Frag} : SpecN K (rMinA K) minAD := fun ms H vs ds d Q h hm e k => by
  unfold minAD at e
  split at e
  · exact .inr (spec_minTT false ms H vs _ d Q h hm e k)
  · exact .inl (spec_minL ms H vs _ d Q h hm e k)
theorem spec_maxA {K : PySem.W.Frag} : SpecN K (rMaxA K) maxAD := fun ms H vs ds d Q h hm e k => by
  unfold maxAD at e
  split at e
  · exact .inr (spec_minTT true ms H vs _ d Q h hm e k)
  · exact .inl (spec_maxL ms H vs _ d Q h hm e k)
/-! what the fold gives -/
theorem foldMin_mem (a : List Int) : ∀ l : List (List Int), foldMin a l ∈ a :: l := by
  intro l
  induction l generalizing a with
  | nil => simp [foldMin]
  | cons b l ih =>
    have := ih (if b < a then b else a)
    show foldMin (if b < a then b else a) l ∈ a :: b :: l
    rcases List.mem_cons.mp this with h | h
    · rw [h]; split <;> simp
    · exact List.mem_cons_of_mem _ (List.mem_cons_of_mem _ h)
theorem foldMin_le (a : List Int) : ∀ l : List (List Int), ∀ x ∈ a :: l, foldMin a l ≤ x := by
  intro l
  induction l generalizing a with
  | nil => intro x hx; rw [List.mem_singleton.mp hx]; exact List.le_refl _
  | cons b l ih =>
    intro x hx
    have := ih (if b < a then b else a)
    show foldMin (if b < a then b else a) l ≤ x
    have h0 := this _ List.mem_cons_self
    rcases List.mem_cons.mp hx with rfl | hx
    · refine List.le_trans h0 ?_
      split
      · rename_i h; exact List.le_of_lt h
      · exact List.le_refl _
    · rcases List.mem_cons.mp hx with rfl | hx
      · refine List.le_trans h0 ?_
        split
        · exact List.le_refl _
        · rename_i h; exact List.not_lt.mp h
      · exact this x (List.mem_cons_of_mem _ hx)
theorem minA_ev (a : List Int) (l : List (List Int)) : minAD [.lst ((a :: l).map wD)] = some (wD (foldMin a l)) := by
  show minTD [.lst ((a :: l).map wD)] = _
  unfold minTD
  simp only [tupsD_map, Option.bind_some]
theorem maxA_ev (a : List Int) (l : List (List Int)) : maxAD [.lst ((a :: l).map wD)] = some (wD (foldMax a l)) := by
  show maxTD [.lst ((a :: l).map wD)] = _
  unfold maxTD
  simp only [tupsD_map, Option.bind_some]
end DL
namespace DL
open PySem PySem.Spec PyProof.Rows L2

/-! ### numbers of choices -/
def chs : Nat → Nat → Nat
  | _, 0 => 1
  | 0, _ + 1 => 0
  | n + 1, k + 1 => chs n k + chs n (k + 1)
theorem chs_zero (n : Nat) : chs n 0 = 1 := by cases n <;> rfl
theorem chs_succ (n k : Nat) : chs (n + 1) (k + 1) = chs n k + chs n (k + 1) := rfl
theorem chs_gt : ∀ {n k : Nat}, n < k → chs n k = 0
  | _, 0, h => by omega
  | 0, _ + 1, _ => rfl
  | n + 1, k + 1, h => by rw [chs_succ, chs_gt (show n < k by omega), chs_gt (show n < k + 1 by omega)]
theorem chs_self : ∀ n : Nat, chs n n = 1
  | 0 => rfl
  | n + 1 => by rw [chs_succ, chs_self n, chs_gt (Nat.lt_succ_self n)]
theorem chs_pos : ∀ {n k : Nat}, k ≤ n → 1 ≤ chs n k
  | n, 0, _ => by rw [chs_zero]; exact Nat.le_refl _
  | 0, k + 1, h => by omega
  | n + 1, k + 1, h => by rw [chs_succ]; have := chs_pos (n := n) (k := k) (by omega); omega
theorem chs_le : ∀ n k : Nat, chs n k ≤ 2 ^ n
  | n, 0 => by rw [chs_zero]; exact Nat.one_le_two_pow
  | 0, k + 1 => by show 0 ≤ _; omega
  | n + 1, k + 1 => by
    have h1 := chs_le n k
    have h2 := chs_le n (k + 1)
    rw [chs_succ, Nat.pow_succ]; omega
/-- (k+1) C(n+1, k+1) = (n+1) C(n, k) -/
theorem chs_absorb : ∀ n k : Nat, (k + 1) * chs (n + 1) (k + 1) = (n + 1) * chs n k
  | 0, 0 => rfl
  | 0, k + 1 => by
    rw [chs_succ]
    show (k + 2) * (0 + 0) = 1 * 0
    omega
  | n + 1, 0 => by
    have h := chs_absorb n 0
    have e := chs_succ (n + 1) 0
    rw [chs_zero] at *
    omega
  | n + 1, k + 1 => by
    have h1 := chs_absorb n k
    have h2 := chs_absorb n (k + 1)
    have e1 := chs_succ (n + 1) (k + 1)
    have e2 := chs_succ n k
    grind
theorem chs_next (n k : Nat) (h : k ≤ n) : chs n (k + 1) * (k + 1) = chs n k * (n - k) := by
  have h1 := chs_absorb n k
  have e := chs_succ n k
  have : n - k + k = n := by omega
  generalize n - k = d at *
  subst this
  grind
theorem chs_sub : ∀ {n k : Nat}, k ≤ n → chs n (n - k) = chs n k
  | 0, 0, _ => rfl
  | 0, k + 1, h => by omega
  | n + 1, 0, _ => by rw [chs_zero]; exact chs_self (n + 1)
  | n + 1, k + 1, h => by
    by_cases q : k = n
    · subst q
      rw [Nat.sub_self, chs_zero, chs_self]
    · have e : n + 1 - (k + 1) = (n - (k + 1)) + 1 := by omega
      rw [e, chs_succ, chs_succ, chs_sub (show k + 1 ≤ n by omega)]
      have e2 : n - (k + 1) + 1 = n - k := by omega
      rw [e2, chs_sub (show k ≤ n by omega)]
      omega
/-! math.comb -/
theorem fp_shift (n k : Nat) : Builtin.Math.fallingProduct ((n + 1 : Nat) : Int) (k + 1) = ((n : Int) + 1) * Builtin.Math.fallingProduct (n : Int) k := by
  induction k with
  | zero => rw [PySem.W.mc_fp_zero]; rw [PySem.W.mc_fp_one]; omega
  | succ k ih =>
    rw [PySem.W.mc_fp_succ, ih, PySem.W.mc_fp_succ]
    have : ((n + 1 : Nat) : Int) - ((k + 1 : Nat) : Int) = (n : Int) - (k : Int) := by omega
    rw [this, Int.mul_assoc]
theorem fp_chs : ∀ (n k : Nat), Builtin.Math.fallingProduct (n : Int) k = (chs n k : Int) * Builtin.Math.fallingProduct (k : Int) k
  | n, 0 => by rw [PySem.W.mc_fp_zero, PySem.W.mc_fp_zero, chs_zero]; rfl
  | 0, k + 1 => by
    have e : chs 0 (k + 1) = 0 := rfl
    rw [e]
    have : ∀ k, Builtin.Math.fallingProduct ((0 : Nat) : Int) (k + 1) = 0 := by
      intro k
      induction k with
      | zero => rw [PySem.W.mc_fp_one]; rfl
      | succ k ih => rw [PySem.W.mc_fp_succ, ih, Int.zero_mul]
    rw [this]
    simp
  | n + 1, k + 1 => by
    have h := fp_chs n k
    have h1 := fp_shift n k
    have h2 := fp_shift k k
    have h3 := chs_absorb n k
    have h4 : ((k : Int) + 1) * (chs (n + 1) (k + 1) : Int) = ((n : Int) + 1) * (chs n k : Int) := by exact_mod_cast h3
    rw [h1, h2, h]
    grind
theorem fp_self_pos (k : Nat) : 1 ≤ Builtin.Math.fallingProduct (k : Int) k := PySem.W.mc_fp_pos k (Int.le_refl _)
theorem mcComb_chs (n k : Nat) : PySem.W.mcComb (n : Int) (k : Int) = (chs n k : Int) := by
  by_cases h : k ≤ n
  · by_cases q : (k : Int) ≤ (n : Int) - (k : Int)
    · rw [PySem.W.mcComb_at (by omega) (by omega) (m := (k : Int)) (by omega), Int.toNat_natCast, fp_chs n k]
      exact Int.mul_ediv_cancel _ (by have := fp_self_pos k; omega)
    · rw [PySem.W.mcComb_at (by omega) (by omega) (m := ((n - k : Nat) : Int)) (by omega), Int.toNat_natCast, fp_chs n (n - k), chs_sub h]
      exact Int.mul_ediv_cancel _ (by have := fp_self_pos (n - k); omega)
  · rw [PySem.W.mcComb_above (by omega), chs_gt (by omega)]; rfl
theorem comb_ev {n k : Nat} (hn : n ≤ 18000) : combD [.int (n : Int), .int (k : Int)] = some (.int (chs n k : Int)) := by
  show (if _ then _ else _) = _
  rw [if_pos (by rw [decide_eq_true_eq]; omega)]
  show some (D.int (PySem.W.mcComb (n : Int) (k : Int))) = _
  rw [mcComb_chs]
/-! sums -/
def sumR (f : Nat → Int) : Nat → Int
  | 0 => 0
  | n + 1 => sumR f n + f n
theorem sumR_congr {f g : Nat → Int} : ∀ {n : Nat}, (∀ i, i < n → f i = g i) → sumR f n = sumR g n
  | 0, _ => rfl
  | n + 1, h => by
    show sumR f n + f n = sumR g n + g n
    rw [sumR_congr (n := n) (fun i hi => h i (by omega)), h n (by omega)]
theorem sumR_add (f g : Nat → Int) : ∀ n, sumR (fun i => f i + g i) n = sumR f n + sumR g n
  | 0 => rfl
  | n + 1 => by
    show sumR _ n + (f n + g n) = (sumR f n + f n) + (sumR g n + g n)
    rw [sumR_add f g n]; omega
theorem sumR_mul (c : Int) (f : Nat → Int) : ∀ n, sumR (fun i => c * f i) n = c * sumR f n
  | 0 => by show 0 = c * 0; rw [Int.mul_zero]
  | n + 1 => by
    show sumR _ n + c * f n = c * (sumR f n + f n)
    rw [sumR_mul c f n, Int.mul_add]
theorem sumR_shift (f : Nat → Int) : ∀ n, sumR f (n + 1) = f 0 + sumR (fun i => f (i + 1)) n
  | 0 => by show 0 + f 0 = f 0 + 0; omega
  | n + 1 => by
    show sumR f (n + 1) + f (n + 1) = f 0 + (sumR _ n + f (n + 1))
    rw [sumR_shift f n]; omega
theorem sumR_split (f : Nat → Int) (m : Nat) : ∀ n, sumR f (m + n) = sumR f m + sumR (fun i => f (m + i)) n
  | 0 => by show sumR f m = sumR f m + 0; omega
  | n + 1 => by
    show sumR f (m + n) + f (m + n) = sumR f m + (sumR _ n + f (m + n))
    rw [sumR_split f m n]; omega
theorem sumR_nonneg {f : Nat → Int} : ∀ {n : Nat}, (∀ i, i < n → 0 ≤ f i) → 0 ≤ sumR f n
  | 0, _ => Int.le_refl _
  | n + 1, h => by
    show 0 ≤ sumR f n + f n
    have := sumR_nonneg (n := n) fun i hi => h i (by omega)
    have := h n (by omega)
    omega
theorem sumR_le {f g : Nat → Int} : ∀ {n : Nat}, (∀ i, i < n → f i ≤ g i) → sumR f n ≤ sumR g n
  | 0, _ => Int.le_refl _
  | n + 1, h => by
    show sumR f n + f n ≤ sumR g n + g n
    have := sumR_le (n := n) fun i hi => h i (by omega)
    have := h n (by omega)
    omega
theorem sumR_rev (f : Nat → Int) : ∀ n, sumR (fun i => f (n - 1 - i)) n = sumR f n
  | 0 => rfl
  | n + 1 => by
    rw [sumR_shift]
    show f n + sumR (fun i => f (n + 1 - 1 - (i + 1))) n = sumR f n + f n
    rw [← sumR_rev f n, Int.add_comm]
    congr 1
    refine sumR_congr fun i hi => ?_
    congr 1; omega
theorem sumR_list (f : Nat → Int) : ∀ n, ((List.range n).map f).sum = sumR f n
  | 0 => rfl
  | n + 1 => by
    rw [List.range_succ, List.map_append, List.sum_append, sumR_list f n]
    show sumR f n + (f n + 0) = sumR f n + f n
    omega
/-! the sum of all choices -/
theorem binom (a b : Int) : ∀ n : Nat, sumR (fun k => (chs n k : Int) * a ^ k * b ^ (n - k)) (n + 1) = (a + b) ^ n
  | 0 => by show 0 + ((chs 0 0 : Nat) : Int) * a ^ 0 * b ^ 0 = _; simp [chs]
  | n + 1 => by
    have ih := binom a b n
    have e1 : sumR (fun k => (chs n (k + 1) : Int) * a ^ (k + 1) * b ^ (n - k)) (n + 1) = sumR (fun k => (chs n (k + 1) : Int) * a ^ (k + 1) * b ^ (n - k)) n := by
      show sumR _ n + (chs n (n + 1) : Int) * a ^ (n + 1) * b ^ (n - n) = _
      rw [chs_gt (Nat.lt_succ_self n)]; simp
    have e2 : b * sumR (fun k => (chs n k : Int) * a ^ k * b ^ (n - k)) (n + 1) = b ^ (n + 1) + sumR (fun k => (chs n (k + 1) : Int) * a ^ (k + 1) * b ^ (n - k)) n := by
      rw [sumR_shift, chs_zero, Int.mul_add, ← sumR_mul]
      congr 1
      · simp [Int.pow_succ, Int.mul_comm]
      · refine sumR_congr fun i hi => ?_
        have : b ^ (n - i) = b ^ (n - (i + 1)) * b := by rw [← Int.pow_succ]; congr 1; omega
        rw [this]
        grind
    rw [sumR_shift]
    have e3 : sumR (fun i => (chs (n + 1) (i + 1) : Int) * a ^ (i + 1) * b ^ (n + 1 - (i + 1))) (n + 1) = a * sumR (fun k => (chs n k : Int) * a ^ k * b ^ (n - k)) (n + 1) + sumR (fun k => (chs n (k + 1) : Int) * a ^ (k + 1) * b ^ (n - k)) (n + 1) := by
      rw [← sumR_mul, ← sumR_add]
      refine sumR_congr fun i hi => ?_
      rw [chs_succ, show n + 1 - (i + 1) = n - i by omega]
      push_cast
      grind
    rw [e3, e1]
    have e4 : ((chs (n + 1) 0 : Nat) : Int) * a ^ 0 * b ^ (n + 1 - 0) = b ^ (n + 1) := by rw [chs_zero]; simp
    rw [e4, ih]
    rw [ih] at e2
    have e5 : (a + b) ^ (n + 1) = (a + b) ^ n * (a + b) := Int.pow_succ ..
    rw [e5]
    generalize (a + b) ^ n = q at *
    grind
end DL
namespace DL
open PySem PySem.Spec PyProof.Rows L2
theorem at_last {xs : List D} {d : D} (h : xs[xs.length - 1]? = some d) : atI xs (-1) = some d := by
  have hp : xs.length - 1 < xs.length := (List.getElem?_eq_some_iff.mp h).1
  have e : L2.ixN xs.length (-1) = some (xs.length - 1) := by
    unfold L2.ixN
    rw [if_neg (by decide), if_pos (by omega)]
    congr 1; omega
  unfold atI
  rw [e]; exact h
theorem small_line {n : Nat} (h : n ≤ 100000) : n ≤ sizeLine := Nat.le_trans h (by decide)
theorem bd_pow {x : Int} {b : Nat} (h : Bd x b) : ∀ k : Nat, Bd (x ^ k) (b * k + 1)
  | 0 => by rw [Int.pow_zero]; show (1 : Int).natAbs < 2 ^ (b * 0 + 1); rw [Nat.mul_zero]; decide
  | k + 1 => by
    have := bd_mul (bd_pow h k) h
    rw [Int.pow_succ]
    exact bd_mono this (by rw [Nat.mul_add]; omega)
theorem bd_chs {n : Nat} (k : Nat) (hn : n ≤ 80) : Bd (chs n k : Int) 81 := by
  unfold Bd
  rw [Int.natAbs_natCast]
  refine Nat.lt_of_le_of_lt (chs_le n k) ?_
  exact Nat.pow_lt_pow_right (by decide) (by omega)
theorem bd_le {x y : Int} {b : Nat} (h0 : 0 ≤ x) (h : x ≤ y) (hy : Bd y b) : Bd x b := by
  unfold Bd at *
  omega
theorem app_small {xs : List D} {d : D} (h : xs.length < 100000) : appM xs [d] = some (.non, xs ++ [d]) := app_ev (Nat.lt_of_lt_of_le h (small_line (Nat.le_refl _)))
/-- the sum of a stretch's chances -/
theorem sumR_pick (f : Nat → Int) {n i : Nat} (h : i < n) : ∃ r, sumR f n = f i + r ∧ ((∀ j, j < n → 0 ≤ f j) → 0 ≤ r) := by
  obtain ⟨t, rfl⟩ : ∃ t, n = i + (1 + t) := ⟨n - i - 1, by omega⟩
  refine ⟨sumR f i + sumR (fun x => f (i + (1 + x))) t, ?_, fun hp => ?_⟩
  · rw [sumR_split, sumR_split]
    show sumR f i + ((0 + f (i + 0)) + sumR _ t) = _
    rw [Nat.add_zero]; omega
  · have h1 := sumR_nonneg (f := f) (n := i) fun j hj => hp j (by omega)
    have h2 := sumR_nonneg (f := fun x => f (i + (1 + x))) (n := t) fun j hj => hp _ (by omega)
    omega
end DL
namespace DL
open PySem PySem.Spec PyProof.Rows L2
/-! ### what repr shows, ints of any told size -/
structure Sw (B n w : Nat) (d : D) : Prop where
  s : shp n d = true
  a : (toPy d).showable = true
  b : (toPy d).leavesShort B = true
  w : (toPy d).weight ≤ w
theorem Sw.mono {B n m w v : Nat} {d : D} (h : Sw B n w d) (hn : n ≤ m) (hw : w ≤ v) : Sw B m v d := ⟨shp_mono h.s hn, h.a, h.b, Nat.le_trans h.w hw⟩
theorem two_ten (b : Nat) : 2 ^ b ≤ 10 ^ b := Nat.pow_le_pow_left (by decide) b
theorem sw_int {i : Int} {b : Nat} (h : Bd i b) (h1 : 1 ≤ b) (h2 : b ≤ 1900) : Sw (b + 1) 0 (b + 1) (.int i) := by
  unfold Bd at h
  refine ⟨rfl, ?_, ?_, ?_⟩
  · show decide (i.natAbs.log2 < 1920) = true
    rw [decide_eq_true_eq]
    by_cases z : i.natAbs = 0
    · rw [z]; decide
    · have := (Nat.log2_lt z).mpr h; omega
  · show decide ((PyData.shown (.int i)).length ≤ b + 1) = true
    rw [decide_eq_true_eq]
    have e := int_text_length_le10 (k := b) h1 (Nat.lt_of_lt_of_le h (two_ten b))
    show (Str.ofString (toString i)).length ≤ b + 1
    rw [PySem.ofString_length]; exact e
  · show (if i == 0 then 0 else i.natAbs.log2 + 1) ≤ b + 1
    split
    · omega
    · rename_i z
      have hz : i.natAbs ≠ 0 := fun q => z (by simp [Int.natAbs_eq_zero.mp q])
      have := (Nat.log2_lt hz).mpr h; omega
theorem sw_non {B : Nat} : Sw B 0 0 .non := ⟨rfl, rfl, rfl, by decide⟩
theorem sw_bl {B : Nat} (b : Bool) : Sw B 0 0 (.bl b) := by cases b <;> exact ⟨rfl, rfl, rfl, by decide⟩
theorem sw_all {B n w : Nat} : ∀ {l : List D}, (∀ d ∈ l, Sw B n w d) → PyData.showableAll (toPyAll l) = true ∧ PyData.leavesShortAll B (toPyAll l) = true ∧ PyData.weightAll (toPyAll l) ≤ l.length * (w + 1)
  | [], _ => by simp [toPyAll, PyData.showableAll, PyData.leavesShortAll, PyData.weightAll]
  | x :: l, h => by
    obtain ⟨i1, i2, i3⟩ := sw_all (l := l) fun d hd => h d (List.mem_cons_of_mem _ hd)
    obtain ⟨h1, h2, h3, h4⟩ := h x List.mem_cons_self
    refine ⟨?_, ?_, ?_⟩
    · simp only [toPyAll, PyData.showableAll, h2, i1, Bool.and_true]
    · simp only [toPyAll, PyData.leavesShortAll, h3, i2, Bool.and_true]
    · simp only [toPyAll, PyData.weightAll, List.length_cons, Nat.add_mul]; omega
theorem sw_lst {B n w k : Nat} {l : List D} (h : ∀ d ∈ l, Sw B n w d) (hk : l.length ≤ k) : Sw B (n + 1) (k * (w + 1) + 1) (.lst l) := by
  obtain ⟨k1, k2, k3⟩ := sw_all h
  have := Nat.mul_le_mul_right (w + 1) hk
  refine ⟨?_, ?_, ?_, ?_⟩
  · simp only [shp, List.all_eq_true]; exact fun d hd => (h d hd).s
  · simpa only [toPy, PyData.showable] using k1
  · simpa only [toPy, PyData.leavesShort] using k2
  · simp only [toPy, PyData.weight]; omega
theorem sw_tup {B n w k : Nat} {l : List D} (h : ∀ d ∈ l, Sw B n w d) (hk : l.length ≤ k) : Sw B (n + 1) (k * (w + 1) + 1) (.tup l) := by
  obtain ⟨k1, k2, k3⟩ := sw_all h
  have := Nat.mul_le_mul_right (w + 1) hk
  refine ⟨?_, ?_, ?_, ?_⟩
  · simp only [shp, List.all_eq_true]; exact fun d hd => (h d hd).s
  · simpa only [toPy, PyData.showable] using k1
  · simpa only [toPy, PyData.leavesShort] using k2
  · simp only [toPy, PyData.weight]; omega
theorem sw_shw {B n w : Nat} {d : D} (h : Sw B n w d) (hn : n ≤ 60) (hB : 8 ≤ B) (hw : (B + 2) * w + B ≤ 2 ^ 24) : shwOk d = true := by
  unfold shwOk
  have h1 := PyData.shown_le B hB (toPy d) h.b
  have h2 := Nat.mul_le_mul_left (B + 2) h.w
  have h3 : (toPy d).shown.length ≤ sizeLine := by
    show _ ≤ 2 ^ 24
    omega
  rw [shp_mono h.s hn, h.a, decide_eq_true h3]
  rfl
theorem sw_two {B n w : Nat} {x y : D} (hx : Sw B n w x) (hy : Sw B n w y) : Sw B (n + 1) (2 * (w + 1) + 1) (.lst [x, y]) := sw_lst (k := 2) (fun d hd => by
  rcases List.mem_cons.mp hd with rfl | hd
  · exact hx
  · rcases List.mem_cons.mp hd with rfl | hd
    · exact hy
    · cases hd) (by simp)
theorem sw_q {p : Int × Int} {b : Nat} (h1 : Bd p.1 b) (h2 : Bd p.2 b) (hb : 1 ≤ b) (hb2 : b ≤ 1900) : Sw (b + 1) 1 (2 * (b + 2) + 1) (qD p) := sw_tup (k := 2) (fun d hd => by
  simp only [List.mem_cons, List.not_mem_nil, or_false] at hd
  rcases hd with rfl | rfl
  · exact sw_int h1 hb hb2
  · exact sw_int h2 hb hb2) (by simp)
theorem sw_qs {ps : List (Int × Int)} {b k : Nat} (h : ∀ p ∈ ps, Bd p.1 b ∧ Bd p.2 b) (hb : 1 ≤ b) (hb2 : b ≤ 1900) (hk : ps.length ≤ k) : Sw (b + 1) 2 (k * (2 * (b + 2) + 2) + 1) (.lst (ps.map qD)) := sw_lst (fun d hd => by
  obtain ⟨p, hp, rfl⟩ := List.mem_map.mp hd
  exact sw_q (h p hp).1 (h p hp).2 hb hb2) (by rw [List.length_map]; exact hk)
/-- a fraction in lowest terms is told by its worth -/
theorem red_uniq {x y A B : Int} (hy : 0 < y) (hB : 0 < B) (hc : Int.gcd x y = 1) (h : x * B = A * y) : (x, y) = redQ A B := by
  have hp : 0 < (redQ A B).2 := by
    have hg : 0 < Int.gcd A B := Int.gcd_pos_of_ne_zero_right _ (by omega)
    exact Int.ediv_pos_of_pos_of_dvd hB (by omega) (Int.gcd_dvd_right ..)
  have hg : 0 < Int.gcd A B := Int.gcd_pos_of_ne_zero_right _ (by omega)
  have hcr := red_cross A B
  have e : x * (redQ A B).2 = (redQ A B).1 * y := by
    refine Int.eq_of_mul_eq_mul_right (a := B) (by omega) ?_
    have e1 : x * (redQ A B).2 * B = x * B * (redQ A B).2 := by grind
    have e2 : (redQ A B).1 * y * B = (redQ A B).1 * B * y := by grind
    rw [e1, e2, h, hcr]
    grind
  have c2 : Int.gcd (redQ A B).1 (redQ A B).2 = 1 := Int.gcd_ediv_gcd_ediv_gcd hg
  refine leq_anti (p := (x, y)) (q := redQ A B) hy hp hc c2 ?_ ?_
  · unfold leq; rw [lt_no]
    exact Int.le_of_eq e
  · unfold leq; rw [lt_no]
    exact Int.le_of_eq e.symm
theorem red_eq {A B C E : Int} (hB : 0 < B) (hE : 0 < E) (h : A * E = C * B) : redQ A B = redQ C E := by
  have hg : 0 < Int.gcd A B := Int.gcd_pos_of_ne_zero_right _ (by omega)
  have hp : 0 < (redQ A B).2 := Int.ediv_pos_of_pos_of_dvd hB (by omega) (Int.gcd_dvd_right ..)
  refine red_uniq (x := (redQ A B).1) (y := (redQ A B).2) hp hE (Int.gcd_ediv_gcd_ediv_gcd hg) ?_
  have hcr := red_cross A B
  refine Int.eq_of_mul_eq_mul_right (a := B) (by omega) ?_
  have e1 : (redQ A B).1 * E * B = (redQ A B).1 * B * E := by grind
  rw [e1, hcr]
  have e2 : A * (redQ A B).2 * E = A * E * (redQ A B).2 := by grind
  rw [e2, h]
  grind
theorem red_pos2 {A B : Int} (hB : 0 < B) : 0 < (redQ A B).2 := by
  have hg : 0 < Int.gcd A B := Int.gcd_pos_of_ne_zero_right _ (by omega)
  exact Int.ediv_pos_of_pos_of_dvd hB (by omega) (Int.gcd_dvd_right ..)
theorem red_cop {A B : Int} (hB : 0 < B) : Int.gcd (redQ A B).1 (redQ A B).2 = 1 :=
  Int.gcd_ediv_gcd_ediv_gcd (Int.gcd_pos_of_ne_zero_right _ (by omega))
end DL
namespace DL
open PySem PySem.Spec PyProof.Rows L2
/-! ### sums, products, quotients of fractions in lowest terms -/
theorem red_plus {A B C E : Int} (hB : 0 < B) (hE : 0 < E) : redQ ((redQ A B).1 * (redQ C E).2 + (redQ C E).1 * (redQ A B).2) ((redQ A B).2 * (redQ C E).2) = redQ (A * E + C * B) (B * E) := by
  have h1 := red_pos2 (A := A) hB
  have h2 := red_pos2 (A := C) hE
  have c1 := red_cross A B
  have c2 := red_cross C E
  generalize (redQ A B).1 = a at *
  generalize (redQ A B).2 = b at *
  generalize (redQ C E).1 = c at *
  generalize (redQ C E).2 = e at *
  refine red_eq (Int.mul_pos h1 h2) (Int.mul_pos hB hE) ?_
  have e1 : (a * e + c * b) * (B * E) = a * B * (e * E) + c * E * (b * B) := by grind
  rw [e1, c1, c2]
  grind
theorem red_minus {A B C E : Int} (hB : 0 < B) (hE : 0 < E) : redQ ((redQ A B).1 * (redQ C E).2 - (redQ C E).1 * (redQ A B).2) ((redQ A B).2 * (redQ C E).2) = redQ (A * E - C * B) (B * E) := by
  have h1 := red_pos2 (A := A) hB
  have h2 := red_pos2 (A := C) hE
  have c1 := red_cross A B
  have c2 := red_cross C E
  generalize (redQ A B).1 = a at *
  generalize (redQ A B).2 = b at *
  generalize (redQ C E).1 = c at *
  generalize (redQ C E).2 = e at *
  refine red_eq (Int.mul_pos h1 h2) (Int.mul_pos hB hE) ?_
  have e1 : (a * e - c * b) * (B * E) = a * B * (e * E) - c * E * (b * B) := by grind
  rw [e1, c1, c2]
  grind
theorem red_times {A B C E : Int} (hB : 0 < B) (hE : 0 < E) : redQ ((redQ A B).1 * (redQ C E).1) ((redQ A B).2 * (redQ C E).2) = redQ (A * C) (B * E) := by
  have h1 := red_pos2 (A := A) hB
  have h2 := red_pos2 (A := C) hE
  have c1 := red_cross A B
  have c2 := red_cross C E
  generalize (redQ A B).1 = a at *
  generalize (redQ A B).2 = b at *
  generalize (redQ C E).1 = c at *
  generalize (redQ C E).2 = e at *
  refine red_eq (Int.mul_pos h1 h2) (Int.mul_pos hB hE) ?_
  have e1 : a * c * (B * E) = a * B * (c * E) := by grind
  rw [e1, c1, c2]
  grind
theorem red_pos1 {A B : Int} (hB : 0 < B) (hA : 0 < A) : 0 < (redQ A B).1 := by
  have hg : 0 < Int.gcd A B := Int.gcd_pos_of_ne_zero_right _ (by omega)
  exact Int.ediv_pos_of_pos_of_dvd hA (by omega) (Int.gcd_dvd_left ..)
theorem red_over {A B C E : Int} (hB : 0 < B) (hE : 0 < E) (hC : 0 < C) : redQ ((redQ A B).1 * (redQ C E).2) ((redQ A B).2 * (redQ C E).1) = redQ (A * E) (B * C) := by
  have h1 := red_pos2 (A := A) hB
  have h2 := red_pos2 (A := C) hE
  have h3 := red_pos1 hE hC
  have c1 := red_cross A B
  have c2 := red_cross C E
  generalize (redQ A B).1 = a at *
  generalize (redQ A B).2 = b at *
  generalize (redQ C E).1 = c at *
  generalize (redQ C E).2 = e at *
  refine red_eq (Int.mul_pos h1 h3) (Int.mul_pos hB hC) ?_
  have e1 : a * e * (B * C) = a * B * (C * e) := by grind
  rw [e1, c1, ← c2]
  grind
theorem red_bd {A B : Int} {m n : Nat} (hB : 0 < B) (h1 : Bd A m) (h2 : Bd B n) : Bd (redQ A B).1 m ∧ Bd (redQ A B).2 n := ⟨(sq_red hB h1 h2).b1, (sq_red hB h1 h2).b2⟩
theorem red_self {p : Int × Int} (h : Int.gcd p.1 p.2 = 1) : redQ p.1 p.2 = p := redq_self h
theorem red_one {q : Int} (h : 0 < q) : redQ q q = (1, 1) := by
  have := red_eq (A := q) (B := q) (C := 1) (E := 1) h (by decide) (by omega)
  rw [this]; rfl
theorem red_scale {A B c : Int} (hB : 0 < B) (hc : 0 < c) : redQ (A * c) (B * c) = redQ A B := red_eq (Int.mul_pos hB hc) hB (by grind)
end DL
namespace DL
open PySem PySem.Spec PyProof.Rows L2

/-! ### xs.count(x), xs a list -/
section
variable {X : Cx} {pins : List (Addr × Obj)} {σ : L2.St} {H : Hp} {s : Shared}
variable {o e : Expr} {to : TE} {t : TA} {apos cpos : Pos}
def tCntL (K : PySem.W.Frag) (to : TE) (t : TA) : TE := fun σ H Q => to σ H fun x H1 => ∃ a, x = .ref a ∧ (∃ xs, SqL K H1 a xs) ∧ t σ H1 fun vs H2 => ∃ y d ds, vs = [y] ∧ Dp K H2 (.ref a) (.list ds) ∧ Dp K H2 y d ∧ SeqAt.shaped d = true ∧ SeqAt.shaped (.list ds) = true ∧ Q (.int ((ds.countP fun z => PyData.eqv z d : Nat) : Int)) H2
theorem pe_cntL (hu : X.A.units + 65 < cLine) (ho : PE X o to) (ha : PA X [e] t)
    (hbase : attributeBase o "count" X.env (eval o X.env) = eval o X.env := by rfl)
    (hfew : ((backTo cpos (starEach [e] X.env)).all (fun x => !x.1) && (backToKw cpos (keywordEach [] X.env)).all (fun x => x.1.isSome)
      && decide (([e] : List Expr).length + ([] : List Keyword).length + (if ([] : List Keyword).isEmpty then 0 else 1) < 30)) = true := by rfl)
    (hline : (apos.endLine == cpos.line) = true := by rfl) (hs : starEach [e] X.env = (false, eval e X.env) :: starEach [] X.env := by rfl) (hplain : (backTo cpos (starEach [] X.env)).any (·.1) = false := by rfl) :
    PE X (.Call (.Attribute o "count" apos) [e] [] cpos) (tCntL X.K to t) := by
  refine ⟨fun pins s σ H Q I h => ?_⟩
  refine wpAny_Call_method_late hbase hfew hline rfl (thn (ho.run pins s σ H _ I h) fun v s1 ⟨x, H1, I1, r1, a, ex, ⟨xs, hT⟩, q1⟩ => ?_)
  subst ex
  cases r1
  obtain ⟨its, rv, ⟨ob, n, hob, hcl, hnd, hsq⟩, _⟩ := I1.list hT
  refine ⟨"list", _, PySem.F.plainAttrs_list, PySem.F.slot_list_count, PySem.F.type_list_count, ⟨ob, hob, hcl⟩, fun b e2 => by cases e2; exact ⟨ob, hob, hnd⟩, ?_⟩
  have hA := ha.run cpos pins s1 σ H1 _ I1 q1
  rw [hs] at hA ⊢
  refine Calls.callWith_builtin (by show (false || (backTo cpos (starEach [] X.env)).any (·.1)) = false; rw [hplain] <;> rfl) (Calls.evalArgs_plain ?_)
  refine thn hA fun us s2 ⟨vs, H2, I2, r2, y, d, ds, ev, h1, h2, h3, h4, q2⟩ => ?_
  subst ev
  obtain ⟨u, rfl, ru⟩ := r2.one
  obtain ⟨bs, z2⟩ := Dp.reads I2 d _ _ h2 ru
  cases h1 with
  | lst hs2 ha2 =>
    obtain ⟨its2, rv2, pl, hz⟩ := I2.list hs2
    obtain ⟨as, z1⟩ := Dp.readsAll I2 ds _ its2 ha2 rv2
    have c1 : PyData.canLayAll0 ds = true := SeqAt.canLay_of_shaped h4
    have c2 := SeqAt.canLay_of_shaped h3
    refine SeqAt.count_list_data (vs := its2.toArray) (as := as) pl.isList (by simpa using z1) z2 ?_ (PyData.plain_of_canLay0 d c2) (room_in_shaped h3 hu) ⟨.int _, H2, I2.tok _, ⟨_, rfl⟩, q2⟩
    exact PyData.plainAll_of_canLay0 ds c1
def cntLO (f : EO) (fa : EA) : EO := fun δ => (f δ).bind fun (a, δ1) => (rsl δ1 a).bind fun x => match x with
  | .lst _ => (fa δ1).bind fun (as, δ2) => (rsl δ2 a).bind fun x2 => (rsls δ2 as).bind fun ys => match x2, ys with
    | .lst ds, [y] => (countD ds y).bind fun z => some (.d z, δ2)
    | _, _ => none
  | _ => none
variable {G : Gm} {f : EO} {fa : EA}
theorem do_countL (hu : X.A.units + 65 < cLine) (ho : PE X o (tO X.K G f)) (ha : PA X [e] (tAr X.K G fa))
    (hbase : attributeBase o "count" X.env (eval o X.env) = eval o X.env := by rfl)
    (hfew : ((backTo cpos (starEach [e] X.env)).all (fun x => !x.1) && (backToKw cpos (keywordEach [] X.env)).all (fun x => x.1.isSome)
      && decide (([e] : List Expr).length + ([] : List Keyword).length + (if ([] : List Keyword).isEmpty then 0 else 1) < 30)) = true := by rfl)
    (hline : (apos.endLine == cpos.line) = true := by rfl) (hs : starEach [e] X.env = (false, eval e X.env) :: starEach [] X.env := by rfl) (hplain : (backTo cpos (starEach [] X.env)).any (·.1) = false := by rfl) :
    PE X (.Call (.Attribute o "count" apos) [e] [] cpos) (tO X.K G (cntLO f fa)) :=
  PE.imp (pe_cntL hu ho ha hbase hfew hline hs hplain) fun σ H Q q => by
  obtain ⟨ms, δ, x, δ', R, e, k⟩ := q
  unfold cntLO at e
  obtain ⟨⟨a, δ1⟩, q1, e⟩ := bind_inv e
  obtain ⟨x1, q2, e⟩ := bind_inv e
  split at e
  · obtain ⟨⟨as, δ2⟩, q3, e⟩ := bind_inv e
    obtain ⟨x2, q4, e⟩ := bind_inv e
    obtain ⟨ys, q5, e⟩ := bind_inv e
    split at e
    · rename_i ds y _
      obtain ⟨z, q6, e⟩ := bind_inv e
      cases e
      unfold countD at q6
      split at q6
      · rename_i hc
        cases q6
        refine ⟨ms, δ, a, δ1, R, q1, fun v1 H1 m1 R1 e1 h1 => ?_⟩
        obtain ⟨p, us, rfl, s1, a1⟩ := (top_of R1 h1 q2).lst
        refine ⟨p, rfl, ⟨_, SqL.of s1⟩, m1, δ1, as, _, R1, q3, fun vs H2 m2 R2 e2 h2 => ?_⟩
        have t2 := top_of R2 (h1.ext e2) q4
        have t3 := tops_of R2 h2 q5
        cases t3 with
        | cons ty tn =>
          cases tn
          have hs3 : shp 60 (.lst ds) = true := by simpa only [shp] using hc.1
          refine ⟨_, toPy y, toPyAll ds, rfl, by simpa only [toPy] using dp_of 60 _ _ hs3 t2.dv, dp_of 60 _ _ hc.2 ty.dv, shp_shaped (by decide) hc.2, by simpa only [toPy] using shp_shaped (by decide) hs3, ?_⟩
          rw [count_toPy hc.2 ds hc.1]
          exact k _ H2 m2 R2 (e1.trans e2) (.int _)
      · cases q6
    · cases e
  · cases e
end
section
variable {δ : DE} {f : EO} {fa : EA} {P : Ar → DE → Prop}
theorem w_countL (h : W f δ fun a δ1 => ∃ ds0, rsl δ1 a = some (.lst ds0) ∧ W fa δ1 fun as δ2 => ∃ ds y, rsl δ2 a = some (.lst ds) ∧ rsls δ2 as = some [y] ∧ (ds.all (shp 59) = true ∧ shp 60 y = true) ∧ P (.d (.int ((ds.countP fun z => eqvD z y : Nat) : Int))) δ2) : W (cntLO f fa) δ P := by
  obtain ⟨a, δ1, e1, ds0, e2, as, δ2, e3, ds, y, e4, e5, hc, p⟩ := h
  exact ⟨_, _, by unfold cntLO; simp only [e1, Option.bind_some, e2, e3, e4, e5]; unfold countD; rw [if_pos hc]; rfl, p⟩
end
end DL
namespace DL
open PySem PySem.Spec PyProof.Rows L2
theorem two_q_shw {x y : Int × Int} (h1 : Bd x.1 1000) (h2 : Bd x.2 1000) (h3 : Bd y.1 1000) (h4 : Bd y.2 1000) : shwOk (.lst [qD x, qD y]) = true :=
  sw_shw (sw_two (sw_q h1 h2 (by decide) (by decide)) (sw_q h3 h4 (by decide) (by decide))) (by decide) (by decide) (by decide)
theorem one_q_shw {x : Int × Int} (h1 : Bd x.1 1000) (h2 : Bd x.2 1000) : shwOk (qD x) = true :=
  sw_shw (sw_q h1 h2 (by decide) (by decide)) (by decide) (by decide) (by decide)
theorem qs_shw {ps : List (Int × Int)} (h : ∀ p ∈ ps, Bd p.1 300 ∧ Bd p.2 300) (hl : ps.length ≤ 60) : shwOk (.lst (ps.map qD)) = true :=
  sw_shw (sw_qs (k := 60) h (by decide) (by decide) hl) (by decide) (by decide) (by decide)
end DL
namespace DL
open PySem PySem.Spec PyProof.Rows L2

/-! ### xs * k, a new list of one's own -/
def mulN (f1 f2 : EO) : EN := fun δ => (f1 δ).bind fun (a, δ1) => (f2 δ1).bind fun (b, δ2) => (rsl δ2 a).bind fun x => (rsl δ2 b).bind fun y => match x, y with
  | .lst xs, .int k => if -(2 ^ 63) ≤ k ∧ k < 2 ^ 63 ∧ xs.length * k.toNat ≤ sizeLine then some ((List.replicate k.toNat xs).flatten, δ2) else none
  | _, _ => none
section
variable {X : Cx} {G : Gm} {f1 f2 : EO} {a b : Expr} {pos : Pos}
theorem dn_mul (ha : PE X a (tO X.K G f1)) (hb : PE X b (tO X.K G f2)) : PE X (.BinOp a .Mult b pos) (tN X.K G (mulN f1 f2)) :=
  PE.imp (pe_op op_mulAny ha hb) fun σ H Q q => by
  obtain ⟨ms, δ, ds, δ', R, e, k⟩ := q
  unfold mulN at e
  obtain ⟨⟨a, δ1⟩, q1, e⟩ := bind_inv e
  obtain ⟨⟨b, δ2⟩, q2, e⟩ := bind_inv e
  obtain ⟨x, q3, e⟩ := bind_inv e
  obtain ⟨y, q4, e⟩ := bind_inv e
  refine ⟨ms, δ, a, _, R, q1, fun v1 H1 m1 R1 e1 h1 => ?_⟩
  refine ⟨m1, δ1, b, _, R1, q2, fun v2 H2 m2 R2 e2 h2 => ?_⟩
  have t1 := top_of R2 (h1.ext e2) q3
  have t2 := top_of R2 h2 q4
  split at e
  · split at e
    · rename_i hl
      cases e
      obtain ⟨p, us, rfl, s1, a1⟩ := t1.lst
      rw [t2.int]
      exact .inr (.inl ⟨_, _, us, rfl, rfl, s1, hl.1, hl.2.1, by rw [a1.length]; exact hl.2.2, fun r hr => k r _ H2 m2 R2 (e1.trans e2) hr (a1.rep _)⟩)
    · cases e
  · cases e
theorem w_mulN {δ : DE} {PN : List D → DE → Prop} (h : W f1 δ fun a δ1 => W f2 δ1 fun b δ2 => ∃ xs k, rsl δ2 a = some (.lst xs) ∧ rsl δ2 b = some (.int k) ∧ (-(2 ^ 63) ≤ k ∧ k < 2 ^ 63 ∧ xs.length * k.toNat ≤ sizeLine) ∧ PN (List.replicate k.toNat xs).flatten δ2) : W (mulN f1 f2) δ PN := by
  obtain ⟨a, δ1, e, b, δ2, e2, xs, k, e3, e4, hc, p⟩ := h
  exact ⟨_, _, by unfold mulN; simp only [e, Option.bind_some, e2, e3, e4]; rw [if_pos hc], p⟩
end
/-- a def that is not called: the lowest step of one that calls itself -/
theorem fnG_none {P : Program} {w : World} {K : PySem.W.Frag} {mg : Str → Option Value} {base : Heap} {k : Nat} {f : Addr} {fd : FuncData} {ps : List Str} : FnG P w K mg base k f fd ps (fun _ => none) :=
  ⟨fun _ _ h => (by cases h), fun _ _ _ _ _ _ _ _ _ _ _ _ _ h => by obtain ⟨_, _, _, _, _, _, h, _⟩ := h; cases h⟩
end DL
/-! zip over lists and tuples in any mixture, two and three -/
namespace DL
open PySem PySem.Spec PyProof.Rows L2

def SqK (k : Bool) (K : PySem.W.Frag) (H : Hp) (a : Addr) (us : List V) : Prop := match k with | true => SqL K H a us | false => SqT K H a us
def IsSqK (k : Bool) (h : Heap) (a : Addr) (xs : Array Value) : Prop := match k with | true => h.IsList a xs | false => h.IsTuple a xs
def IsItK (k : Bool) (h : Heap) (it a : Addr) (i : Nat) : Prop := match k with | true => h.IsListIter it a i | false => h.IsTupleIter it a i
theorem inv_sqK {k : Bool} {X : Cx} {pins : List (Addr × Obj)} {σ : L2.St} {H : Hp} {s : Shared} {a : Addr} {us : List V} (I : Inv X pins σ H s) (h : SqK k X.K H a us) :
    ∃ its : List Value, its.length = us.length ∧ IsSqK k s.heap a its.toArray ∧ (∀ (i : Nat) x, us[i]? = some x → ∃ u, its[i]? = some u ∧ RelV x u) ∧ ∀ l, SqK k X.K H a l → l = us := by
  cases k with
  | true =>
    obtain ⟨its, rv, p, _⟩ := I.list h
    exact ⟨its, rv.length.symm, p.isList, fun i x hx => rv.get hx, fun l hl => I.list_inj hl h⟩
  | false =>
    obtain ⟨its, rv, p, _⟩ := I.tuple h
    exact ⟨its, rv.length.symm, p, fun i x hx => rv.get hx, fun l hl => I.tuple_inj hl h⟩
theorem draws_k {prog : Program} {w : World} {A : Around} (k : Bool) (hh : A.handled = none) (it l : Addr) (hne : l ≠ it) (items : Array Value) :
    Draws prog w A it [it, l] items.size (fun i v => items[i]? = some v) (fun i h => IsItK k h it l i ∧ IsSqK k h l items) := by
  cases k
  · exact Draws.tuple hh it l hne items
  · exact Draws.list hh it l hne items
theorem itK_at {k : Bool} {h h' : Heap} {it l : Addr} {i : Nat} (x : IsItK k h it l i) (e : ∀ o, h.get? it = some o → h'.get? it = some o) : IsItK k h' it l i := by
  cases k
  · exact Heap.IsTupleIter.at x e
  · exact Heap.IsListIter.at x e
theorem itK_obj {k : Bool} {h : Heap} {it l : Addr} {i : Nat} (x : IsItK k h it l i) : ∃ o, h.get? it = some o ∧ ∀ v, o.data ≠ .cell v := by
  cases k
  · obtain ⟨o, e, _, d⟩ := x
    exact ⟨o, e, fun v q => by rw [d] at q; cases q⟩
  · obtain ⟨o, e, _, d⟩ := x
    exact ⟨o, e, fun v q => by rw [d] at q; cases q⟩
def itO (k : Bool) (a : Addr) : Obj := match k with | true => { cls := .type "list_iterator", data := .fields #[.ref a, .int 0 0] } | false => { cls := .type "tuple_iterator", data := .fields #[.ref a, .int 0 0] }
theorem begins_k (k : Bool) (a : Addr) (items : Array Value) : Begins (.ref a) (itO k a) fun h => IsSqK k h a items := by
  cases k
  · exact begins_tuple a items
  · exact begins_list a items
theorem itK_of {k : Bool} {h : Heap} {it l : Addr} (x : h.get? it = some (itO k l)) : IsItK k h it l 0 := by
  cases k
  · exact ⟨_, x, rfl, rfl⟩
  · exact ⟨_, x, rfl, rfl⟩
theorem sqK_lt {k : Bool} {h : Heap} {a : Addr} {xs : Array Value} (x : IsSqK k h a xs) : a < h.objs.size := by
  cases k
  · obtain ⟨o, e, _⟩ := x; exact Heap.lt_size e
  · obtain ⟨o, e, _⟩ := x; exact Heap.lt_size e

def Itm (K : PySem.W.Frag) (k1 k2 : Bool) (a b : Addr) : L2.It :=
  ⟨fun i H => ∃ (xs ys : List V) (x y : V), SqK k1 K H a xs ∧ SqK k2 K H b ys ∧ xs[i]? = some x ∧ ys[i]? = some y,
    fun i H v H' => ∃ T x y, v = .ref T ∧ H T = none ∧ H' = upd H T (.tup [x, y]) ∧ (∀ xs, SqK k1 K H a xs → xs[i]? = some x) ∧ ∀ ys, SqK k2 K H b ys → ys[i]? = some y,
    fun i H => ∃ xs ys : List V, SqK k1 K H a xs ∧ SqK k2 K H b ys ∧ i ≤ xs.length ∧ i ≤ ys.length ∧ (xs.length = i ∨ ys.length = i)⟩
theorem turn_zipM {P : Program} {w : World} {K : PySem.W.Frag} {elts : List Expr} {kk : Nat} {tpos : Pos} {a b z TI TO i1 i2 : Addr} {k1 k2 : Bool} (S : ZipSep2 z TI TO i1 i2 [i1, a] [i2, b]) (na : a ≠ i1) (nb : b ≠ i2) :
    Turn P w K (.Tuple elts kk tpos) (Itm K k1 k2 a b) [z, TI, TO, i1, i2] z (fun i h => IsZip h z TI TO .none ∧ IsTupOf2 h TI (.ref i1) (.ref i2) ∧ (∃ x y, IsTupOf2 h TO x y) ∧ IsItK k1 h i1 a i ∧ IsItK k2 h i2 b i) where
  mem := by simp
  obj := fun i h st c hc => by
    obtain ⟨hz, hTI, ⟨x, y, hTO⟩, h1, h2⟩ := st
    have e' : c = z ∨ c = TI ∨ c = TO ∨ c = i1 ∨ c = i2 := by simpa using hc
    rcases e' with q | q | q | q | q
    · rw [q]; exact ⟨_, hz, fun v q => nomatch q⟩
    · rw [q]; exact ⟨_, hTI, fun v q => nomatch q⟩
    · rw [q]; exact ⟨_, hTO, fun v q => nomatch q⟩
    · rw [q]; exact itK_obj h1
    · rw [q]; exact itK_obj h2
  keep := fun i h h' st k => by
    obtain ⟨hz, hTI, ⟨x, y, hTO⟩, h1, h2⟩ := st
    exact ⟨k z (by simp) _ hz, k TI (by simp) _ hTI, ⟨x, y, k TO (by simp) _ hTO⟩, itK_at h1 fun o q => k i1 (by simp) o q, itK_at h2 fun o q => k i2 (by simp) o q⟩
  item := by
    intro X hP hw hK hc i pins s σ H E I hf st hg
    subst hP hw hK
    obtain ⟨hz, hTI, ⟨x0, y0, hTO⟩, h1, h2⟩ := st
    obtain ⟨xs, ys, x, y, hqx, hqy, hx, hy⟩ := hg
    obtain ⟨its, l1, p, g1, u1⟩ := inv_sqK I hqx
    obtain ⟨its2, l2, p2, g2, u2⟩ := inv_sqK I hqy
    obtain ⟨u, hu, ru⟩ := g1 i x hx
    obtain ⟨u', hu', ru'⟩ := g2 i y hy
    have hzl : z < s.heap.objs.size := Heap.lt_size hz
    have hd : X.A.in1.handled = none := I.ok.hd hc
    refine wpAny_pyNext_zipD2_item S (draws_k (A := X.A.in1) k1 hd i1 a na its.toArray) (draws_k (A := X.A.in1) k2 hd i2 b nb its2.toArray) hz hTI hTO ⟨h1, p⟩ ⟨h2, p2⟩ (by have := (List.getElem?_eq_some_iff.mp hu).1; simpa using this) (by have := (List.getElem?_eq_some_iff.mp hu').1; simpa using this) fun x1 x2 h' tk q1 q2 z' TO' d1 d2 hT hsz hk => ?_
    obtain ⟨h1', _⟩ := d1
    obtain ⟨h2', _⟩ := d2
    have e1 : x1 = u := by
      have : its[i]? = some x1 := by simpa using q1
      rw [hu] at this; cases this; rfl
    have e2 : x2 = u' := by
      have : its2[i]? = some x2 := by simpa using q2
      rw [hu'] at this; cases this; rfl
    subst e1 e2
    refine ⟨_, rfl, wpAny_letOwnedTupleGo_zip (s := { s with heap := h', toks := tk }) z' fun h'' z'' sb => ?_⟩
    have hT2 : h''.get? s.heap.objs.size = some { cls := .type "tuple", data := .seq #[x1, x2] } := (sb.2 _ (Nat.ne_of_gt hzl)).trans hT
    have new : ObjOk X.prog X.w (upd H s.heap.objs.size (.tup [x, y])) h'' s.heap.objs.size (.tup [x, y]) :=
      ⟨by show 2 ≤ sizeLine; decide, [x1, x2], .cons ru (.cons ru' .nil), ⟨_, hT2, rfl, _, rfl⟩⟩
    have I1 : Inv X pins σ (upd H s.heap.objs.size (.tup [x, y])) { s with heap := h'', toks := tk } :=
      I.turnedNew (t' := tk) (ch := [z, TI, TO, i1, i2]) (fun c o hb q => (sb.2 c (fun q' => hb (by simp [q']))).trans (hk c o (fun q' => hb (by simp [q'])) (fun q' => hb (by simp [q'])) (fun q' => hb (by simp [q'])) (fun q' => hb (by simp [q'])) q)) hf (Nat.le_refl _) new
    refine ⟨.ref s.heap.objs.size, _, I1, rfl, ⟨_, x, y, rfl, I.hok.fresh (Nat.le_refl _), rfl, fun l hl => by rw [u1 l hl]; exact hx, fun l hl => by rw [u2 l hl]; exact hy⟩, ⟨z'', ?_, ⟨x1, x2, ?_⟩, ?_, ?_⟩, fun c hcm => ?_⟩
    · exact (sb.2 _ S.TIz).trans (hk _ _ S.TIz S.TITO S.TIi1 S.TIi2 hTI)
    · exact (sb.2 _ S.TOz).trans TO'
    · exact itK_at h1' fun o q => (sb.2 _ (fun e => S.zf1 (by simp [e]))).trans q
    · exact itK_at h2' fun o q => (sb.2 _ (fun e => S.zf2 (by simp [e]))).trans q
    · have hlt : c < s.heap.objs.size := by
        have e' : c = z ∨ c = TI ∨ c = TO ∨ c = i1 ∨ c = i2 := by simpa using hcm
        rcases e' with q | q | q | q | q
        · rw [q]; exact hzl
        · rw [q]; exact Heap.lt_size hTI
        · rw [q]; exact Heap.lt_size hTO
        · rw [q]; obtain ⟨_, e1, _⟩ := itK_obj h1; exact Heap.lt_size e1
        · rw [q]; obtain ⟨_, e2, _⟩ := itK_obj h2; exact Heap.lt_size e2
      rw [upd_ne (Nat.ne_of_lt hlt)]
      exact (hf c hcm).1
  done := by
    intro X hP hw hK hc i pins s σ H E I hf st hg
    subst hP hw hK
    obtain ⟨hz, hTI, ⟨x0, y0, hTO⟩, h1, h2⟩ := st
    obtain ⟨xs, ys, hqx, hqy, hi1, hi2, hend⟩ := hg
    obtain ⟨its, l1, p, g1, u1⟩ := inv_sqK I hqx
    obtain ⟨its2, l2, p2, g2, u2⟩ := inv_sqK I hqy
    have hd : X.A.in1.handled = none := I.ok.hd hc
    exact wpAny_pyNext_zipD2_end S (draws_k (A := X.A.in1) k1 hd i1 a na its.toArray) (draws_k (A := X.A.in1) k2 hd i2 b nb its2.toArray) hz hTI hTO ⟨h1, p⟩ ⟨h2, p2⟩ (by simp; omega) (by simp; omega) (by simp; omega) fun h' tk hk => ⟨rfl, I.turnedL (t' := tk) (ch := [z, TI, TO, i1, i2]) (fun c o hb q =>
      hk c o (fun q' => hb (by simp [q'])) (fun q' => hb (by simp [q'])) (fun q' => hb (by simp [q'])) (fun q' => hb (by simp [q'])) q) hf⟩
  self := fun A i s Q E st h => wpAny_pyIter_zip st.1 h
def iZipM (K : PySem.W.Frag) (ta : TA) : TI := fun σ H R => ta σ H fun vs H1 => ∃ k1 k2 a b xs ys, vs = [.ref a, .ref b] ∧ SqK k1 K H1 a xs ∧ SqK k2 K H1 b ys ∧ R (Itm K k1 k2 a b) H1
theorem pi_zipM {X : Cx} {e e2 : Expr} {ta : TA} {p pos tpos : Pos} {elts : List Expr} {kk : Nat} (hg : Gl X "zip") (hm : X.mg "zip" = none) (ha : PA X [e, e2] ta)
    (hs : starEach [e, e2] X.env = (false, eval e X.env) :: starEach [e2] X.env := by rfl) (hpl : (backTo pos (starEach [e2] X.env)).any (·.1) = false := by rfl) :
    PI X (.Tuple elts kk tpos) (.Call (.Name "zip" p) [e, e2] [] pos) (iZipM X.K ta) := by
  refine ⟨fun pins s σ H R I h => ?_⟩
  refine Call_ (ld_blt I hg hm PyProof.Rows.boot_zip (PyProof.Rows.callWith_type1 (thn (ha.run pos pins s σ H _ I h) fun us s1 ⟨vs, H1, I1, r1, q1⟩ => ?_) hs hpl))
  obtain ⟨k1, k2, a, b, xs, ys, ex, hqx, hqy, q⟩ := q1
  subst ex
  cases r1 with
  | cons r rr =>
    cases rr with
    | cons r' rr =>
      cases rr
      cases r
      cases r'
      obtain ⟨its, l1, p1, _⟩ := inv_sqK I1 hqx
      obtain ⟨its2, l2, p2, _⟩ := inv_sqK I1 hqy
      have la : @LT.lt Nat _ a s1.heap.objs.size := sqK_lt p1
      have lb : @LT.lt Nat _ b s1.heap.objs.size := sqK_lt p2
      refine zip_begins2 (begins_k k1 a its.toArray) (begins_k k2 b its2.toArray) p1 p2 fun h' hz hTI hTO h1 h2 hsz hk => wpAny_pyIter_zip hz ?_
      have I2 : Inv X pins σ H1 { s1 with heap := h' } := I1.kept (t' := s1.toks) hk
      have fresh5 : ∀ c, c ∈ [s1.heap.objs.size + 4, s1.heap.objs.size + 2, s1.heap.objs.size + 3, s1.heap.objs.size, s1.heap.objs.size + 1] → FpOk X pins H1 c := fun c hcm => by
        have hle : s1.heap.objs.size ≤ c := by
          simp only [List.mem_cons, List.not_mem_nil, or_false] at hcm
          omega
        exact I1.fpOk hle (I1.hok.fresh hle)
      refine ⟨s1.heap.objs.size + 4, [s1.heap.objs.size + 4, s1.heap.objs.size + 2, s1.heap.objs.size + 3, s1.heap.objs.size, s1.heap.objs.size + 1], _, _, H1, rfl, I2, turn_zipM (k1 := k1) (k2 := k2) (a := a) (b := b) ?S ?na ?nb, ⟨hz, hTI, ⟨_, _, hTO⟩, itK_of h1, itK_of h2⟩, fresh5, q⟩
      case S => constructor <;> first | (intro h; have h' : @Eq Nat _ _ := h; omega) | (simp; done) | (intro h; simp only [List.mem_cons, List.not_mem_nil, or_false] at h; rcases h with h | h <;> (have h' : @Eq Nat _ _ := h; omega))
      all_goals (intro h; have h' : @Eq Nat _ _ := h; omega)

def It3 (K : PySem.W.Frag) (k1 k2 k3 : Bool) (a b c : Addr) : L2.It :=
  ⟨fun i H => ∃ (xs ys zs : List V) (x y z : V), SqK k1 K H a xs ∧ SqK k2 K H b ys ∧ SqK k3 K H c zs ∧ xs[i]? = some x ∧ ys[i]? = some y ∧ zs[i]? = some z,
    fun i H v H' => ∃ T x y z, v = .ref T ∧ H T = none ∧ H' = upd H T (.tup [x, y, z]) ∧ (∀ xs, SqK k1 K H a xs → xs[i]? = some x) ∧ (∀ ys, SqK k2 K H b ys → ys[i]? = some y) ∧ ∀ zs, SqK k3 K H c zs → zs[i]? = some z,
    fun i H => ∃ xs ys zs : List V, SqK k1 K H a xs ∧ SqK k2 K H b ys ∧ SqK k3 K H c zs ∧ i ≤ xs.length ∧ i ≤ ys.length ∧ i ≤ zs.length ∧ (xs.length = i ∨ ys.length = i ∨ zs.length = i)⟩
theorem turn_zip3 {P : Program} {w : World} {K : PySem.W.Frag} {elts : List Expr} {kk : Nat} {tpos : Pos} {a b c z TI TO i1 i2 i3 : Addr} {k1 k2 k3 : Bool} (S : ZipSep3 z TI TO i1 i2 i3 [i1, a] [i2, b] [i3, c]) (na : a ≠ i1) (nb : b ≠ i2) (nc : c ≠ i3) :
    Turn P w K (.Tuple elts kk tpos) (It3 K k1 k2 k3 a b c) [z, TI, TO, i1, i2, i3] z (fun i h => IsZip h z TI TO .none ∧ IsTupOf3 h TI (.ref i1) (.ref i2) (.ref i3) ∧ (∃ x y v, IsTupOf3 h TO x y v) ∧ IsItK k1 h i1 a i ∧ IsItK k2 h i2 b i ∧ IsItK k3 h i3 c i) where
  mem := by simp
  obj := fun i h st d hc => by
    obtain ⟨hz, hTI, ⟨x, y, v, hTO⟩, h1, h2, h3⟩ := st
    have e' : d = z ∨ d = TI ∨ d = TO ∨ d = i1 ∨ d = i2 ∨ d = i3 := by simpa using hc
    rcases e' with q | q | q | q | q | q
    · rw [q]; exact ⟨_, hz, fun v q => nomatch q⟩
    · rw [q]; exact ⟨_, hTI, fun v q => nomatch q⟩
    · rw [q]; exact ⟨_, hTO, fun v q => nomatch q⟩
    · rw [q]; exact itK_obj h1
    · rw [q]; exact itK_obj h2
    · rw [q]; exact itK_obj h3
  keep := fun i h h' st k => by
    obtain ⟨hz, hTI, ⟨x, y, v, hTO⟩, h1, h2, h3⟩ := st
    exact ⟨k z (by simp) _ hz, k TI (by simp) _ hTI, ⟨x, y, v, k TO (by simp) _ hTO⟩, itK_at h1 fun o q => k i1 (by simp) o q, itK_at h2 fun o q => k i2 (by simp) o q, itK_at h3 fun o q => k i3 (by simp) o q⟩
  item := by
    intro X hP hw hK hc i pins s σ H E I hf st hg
    subst hP hw hK
    obtain ⟨hz, hTI, ⟨x0, y0, v0, hTO⟩, h1, h2, h3⟩ := st
    obtain ⟨xs, ys, vs, x, y, v, hqx, hqy, hqv, hx, hy, hv⟩ := hg
    obtain ⟨its, l1, p, g1, u1⟩ := inv_sqK I hqx
    obtain ⟨its2, l2, p2, g2, u2⟩ := inv_sqK I hqy
    obtain ⟨its3, l3, p3, g3, u3⟩ := inv_sqK I hqv
    obtain ⟨u, hu, ru⟩ := g1 i x hx
    obtain ⟨u', hu', ru'⟩ := g2 i y hy
    obtain ⟨u'', hu'', ru''⟩ := g3 i v hv
    have hzl : z < s.heap.objs.size := Heap.lt_size hz
    have hd : X.A.in1.handled = none := I.ok.hd hc
    refine wpAny_pyNext_zipD3_item S (draws_k (A := X.A.in1) k1 hd i1 a na its.toArray) (draws_k (A := X.A.in1) k2 hd i2 b nb its2.toArray) (draws_k (A := X.A.in1) k3 hd i3 c nc its3.toArray) hz hTI hTO ⟨h1, p⟩ ⟨h2, p2⟩ ⟨h3, p3⟩ (by have := (List.getElem?_eq_some_iff.mp hu).1; simpa using this) (by have := (List.getElem?_eq_some_iff.mp hu').1; simpa using this) (by have := (List.getElem?_eq_some_iff.mp hu'').1; simpa using this) fun x1 x2 x3 h' tk q1 q2 q3 z' TO' d1 d2 d3 hT hsz hk => ?_
    obtain ⟨h1', _⟩ := d1
    obtain ⟨h2', _⟩ := d2
    obtain ⟨h3', _⟩ := d3
    have e1 : x1 = u := by
      have : its[i]? = some x1 := by simpa using q1
      rw [hu] at this; cases this; rfl
    have e2 : x2 = u' := by
      have : its2[i]? = some x2 := by simpa using q2
      rw [hu'] at this; cases this; rfl
    have e3 : x3 = u'' := by
      have : its3[i]? = some x3 := by simpa using q3
      rw [hu''] at this; cases this; rfl
    subst e1 e2 e3
    refine ⟨_, rfl, wpAny_letOwnedTupleGo_zip (s := { s with heap := h', toks := tk }) z' fun h'' z'' sb => ?_⟩
    have hT2 : h''.get? s.heap.objs.size = some { cls := .type "tuple", data := .seq #[x1, x2, x3] } := (sb.2 _ (Nat.ne_of_gt hzl)).trans hT
    have new : ObjOk X.prog X.w (upd H s.heap.objs.size (.tup [x, y, v])) h'' s.heap.objs.size (.tup [x, y, v]) :=
      ⟨by show 3 ≤ sizeLine; decide, [x1, x2, x3], .cons ru (.cons ru' (.cons ru'' .nil)), ⟨_, hT2, rfl, _, rfl⟩⟩
    have I1 : Inv X pins σ (upd H s.heap.objs.size (.tup [x, y, v])) { s with heap := h'', toks := tk } :=
      I.turnedNew (t' := tk) (ch := [z, TI, TO, i1, i2, i3]) (fun c o hb q => (sb.2 c (fun q' => hb (by simp [q']))).trans (hk c o (fun q' => hb (by simp [q'])) (fun q' => hb (by simp [q'])) (fun q' => hb (by simp [q'])) (fun q' => hb (by simp [q'])) (fun q' => hb (by simp [q'])) q)) hf (Nat.le_refl _) new
    refine ⟨.ref s.heap.objs.size, _, I1, rfl, ⟨_, x, y, v, rfl, I.hok.fresh (Nat.le_refl _), rfl, fun l hl => by rw [u1 l hl]; exact hx, fun l hl => by rw [u2 l hl]; exact hy, fun l hl => by rw [u3 l hl]; exact hv⟩, ⟨z'', ?_, ⟨x1, x2, x3, ?_⟩, ?_, ?_, ?_⟩, fun c hcm => ?_⟩
    · exact (sb.2 _ S.TIz).trans (hk _ _ S.TIz S.TITO S.TIi1 S.TIi2 S.TIi3 hTI)
    · exact (sb.2 _ S.TOz).trans TO'
    · exact itK_at h1' fun o q => (sb.2 _ (fun e => S.zf1 (by simp [e]))).trans q
    · exact itK_at h2' fun o q => (sb.2 _ (fun e => S.zf2 (by simp [e]))).trans q
    · exact itK_at h3' fun o q => (sb.2 _ (fun e => S.zf3 (by simp [e]))).trans q
    · have hlt : c < s.heap.objs.size := by
        have e' : c = z ∨ c = TI ∨ c = TO ∨ c = i1 ∨ c = i2 ∨ c = i3 := by simpa using hcm
        rcases e' with q | q | q | q | q | q
        · rw [q]; exact hzl
        · rw [q]; exact Heap.lt_size hTI
        · rw [q]; exact Heap.lt_size hTO
        · rw [q]; obtain ⟨_, e1, _⟩ := itK_obj h1; exact Heap.lt_size e1
        · rw [q]; obtain ⟨_, e2, _⟩ := itK_obj h2; exact Heap.lt_size e2
        · rw [q]; obtain ⟨_, e2, _⟩ := itK_obj h3; exact Heap.lt_size e2
      rw [upd_ne (Nat.ne_of_lt hlt)]
      exact (hf c hcm).1
  done := by
    intro X hP hw hK hc i pins s σ H E I hf st hg
    subst hP hw hK
    obtain ⟨hz, hTI, ⟨x0, y0, v0, hTO⟩, h1, h2, h3⟩ := st
    obtain ⟨xs, ys, zs, hqx, hqy, hqz, hi1, hi2, hi3, hend⟩ := hg
    obtain ⟨its, l1, p, g1, u1⟩ := inv_sqK I hqx
    obtain ⟨its2, l2, p2, g2, u2⟩ := inv_sqK I hqy
    obtain ⟨its3, l3, p3, g3, u3⟩ := inv_sqK I hqz
    have hd : X.A.in1.handled = none := I.ok.hd hc
    exact wpAny_pyNext_zipD3_end S (draws_k (A := X.A.in1) k1 hd i1 a na its.toArray) (draws_k (A := X.A.in1) k2 hd i2 b nb its2.toArray) (draws_k (A := X.A.in1) k3 hd i3 c nc its3.toArray) hz hTI hTO ⟨h1, p⟩ ⟨h2, p2⟩ ⟨h3, p3⟩ (by simp; omega) (by simp; omega) (by simp; omega) (by simp; omega) fun h' tk hk => ⟨rfl, I.turnedL (t' := tk) (ch := [z, TI, TO, i1, i2, i3]) (fun c o hb q =>
      hk c o (fun q' => hb (by simp [q'])) (fun q' => hb (by simp [q'])) (fun q' => hb (by simp [q'])) (fun q' => hb (by simp [q'])) (fun q' => hb (by simp [q'])) q) hf⟩
  self := fun A i s Q E st h => wpAny_pyIter_zip st.1 h
def iZip3 (K : PySem.W.Frag) (ta : TA) : TI := fun σ H R => ta σ H fun vs H1 => ∃ k1 k2 k3 a b c xs ys zs, vs = [.ref a, .ref b, .ref c] ∧ SqK k1 K H1 a xs ∧ SqK k2 K H1 b ys ∧ SqK k3 K H1 c zs ∧ R (It3 K k1 k2 k3 a b c) H1
theorem pi_zip3 {X : Cx} {e e2 e3 : Expr} {ta : TA} {p pos tpos : Pos} {elts : List Expr} {kk : Nat} (hg : Gl X "zip") (hm : X.mg "zip" = none) (ha : PA X [e, e2, e3] ta)
    (hs : starEach [e, e2, e3] X.env = (false, eval e X.env) :: starEach [e2, e3] X.env := by rfl) (hpl : (backTo pos (starEach [e2, e3] X.env)).any (·.1) = false := by rfl) :
    PI X (.Tuple elts kk tpos) (.Call (.Name "zip" p) [e, e2, e3] [] pos) (iZip3 X.K ta) := by
  refine ⟨fun pins s σ H R I h => ?_⟩
  refine Call_ (ld_blt I hg hm PyProof.Rows.boot_zip (PyProof.Rows.callWith_type1 (thn (ha.run pos pins s σ H _ I h) fun us s1 ⟨vs, H1, I1, r1, q1⟩ => ?_) hs hpl))
  obtain ⟨k1, k2, k3, a, b, c, xs, ys, zs, ex, hqx, hqy, hqz, q⟩ := q1
  subst ex
  cases r1 with
  | cons r rr =>
    cases rr with
    | cons r' rr =>
      cases rr with
      | cons r'' rr =>
        cases rr
        cases r
        cases r'
        cases r''
        obtain ⟨its, l1, p1, _⟩ := inv_sqK I1 hqx
        obtain ⟨its2, l2, p2, _⟩ := inv_sqK I1 hqy
        obtain ⟨its3, l3, p3, _⟩ := inv_sqK I1 hqz
        have la : @LT.lt Nat _ a s1.heap.objs.size := sqK_lt p1
        have lb : @LT.lt Nat _ b s1.heap.objs.size := sqK_lt p2
        have lc : @LT.lt Nat _ c s1.heap.objs.size := sqK_lt p3
        refine zip_begins3 (begins_k k1 a its.toArray) (begins_k k2 b its2.toArray) (begins_k k3 c its3.toArray) p1 p2 p3 fun h' hz hTI hTO h1 h2 h3 hsz hk => wpAny_pyIter_zip hz ?_
        have I2 : Inv X pins σ H1 { s1 with heap := h' } := I1.kept (t' := s1.toks) hk
        have fresh5 : ∀ c, c ∈ [s1.heap.objs.size + 5, s1.heap.objs.size + 3, s1.heap.objs.size + 4, s1.heap.objs.size, s1.heap.objs.size + 1, s1.heap.objs.size + 2] → FpOk X pins H1 c := fun c hcm => by
          have hle : s1.heap.objs.size ≤ c := by
            simp only [List.mem_cons, List.not_mem_nil, or_false] at hcm
            omega
          exact I1.fpOk hle (I1.hok.fresh hle)
        refine ⟨s1.heap.objs.size + 5, [s1.heap.objs.size + 5, s1.heap.objs.size + 3, s1.heap.objs.size + 4, s1.heap.objs.size, s1.heap.objs.size + 1, s1.heap.objs.size + 2], _, _, H1, rfl, I2, turn_zip3 (k1 := k1) (k2 := k2) (k3 := k3) (a := a) (b := b) (c := c) ?S ?na ?nb ?nc, ⟨hz, hTI, ⟨_, _, _, hTO⟩, itK_of h1, itK_of h2, itK_of h3⟩, fresh5, q⟩
        case S => constructor <;> first | (intro h; have h' : @Eq Nat _ _ := h; omega) | (simp; done) | (intro h; simp only [List.mem_cons, List.not_mem_nil, or_false] at h; rcases h with h | h <;> (have h' : @Eq Nat _ _ := h; omega))
        all_goals (intro h; have h' : @Eq Nat _ _ := h; omega)
end DL
namespace DL
open PySem PySem.Spec PyProof.Rows L2

def sqD : D → Option (List D) | .lst xs => some xs | .tup xs => some xs | _ => none
theorem SqK.same {k : Bool} {K : PySem.W.Frag} {H H' : Hp} {a : Addr} {us : List V} (e : Same H H') (h : SqK k K H a us) : SqK k K H' a us := by
  cases k
  · exact Same.seqT e h
  · exact e.seq h
theorem SqK.un {k : Bool} {K : PySem.W.Frag} {H : Hp} {ms : List Addr} {a : Addr} {us : List V} (h : SqK k K (mask H ms) a us) : SqK k K H a us := by
  cases k
  · exact Same.seqT mask_sub h
  · exact mask_sub.seq h
theorem dv_sq {K : PySem.W.Frag} {H : Hp} {v : V} {d : D} {xs : List D} (h : Dv K H v d) (e : sqD d = some xs) : ∃ k a us, v = .ref a ∧ SqK k K H a us ∧ DvAll K H us xs := by
  cases h <;> first
    | (simp [sqD] at e; done)
    | (simp only [sqD, Option.some.injEq] at e; subst e; rename_i hs ha; exact ⟨true, _, _, rfl, SqL.of hs, ha⟩)
    | (simp only [sqD, Option.some.injEq] at e; subst e; rename_i hs hn ha; exact ⟨false, _, _, rfl, hs, ha⟩)
theorem walk_zipM {K : PySem.W.Frag} {ms : List Addr} {H : Hp} {a b : Addr} {us ws : List V} {xs ys : List D} {k1 k2 : Bool} (hs : SqK k1 K (mask H ms) a us) (ha : DvAll K (mask H ms) us xs) (hs' : SqK k2 K (mask H ms) b ws) (ha' : DvAll K (mask H ms) ws ys) : WalkOk K (Itm K k1 k2 a b) ms H (zipD xs ys) := by
  intro i ms2 H2 ex hm
  have s2 : SqK k1 K H2 a us := (hs.same ex.same).un
  have a2 : DvAll K (mask H2 ms2) us xs := ha.mono ex.same
  have s3 : SqK k2 K H2 b ws := (hs'.same ex.same).un
  have a3 : DvAll K (mask H2 ms2) ws ys := ha'.mono ex.same
  refine ⟨fun d hd => ?_, fun hl' => ?_⟩
  · obtain ⟨x0, y0, hx0, hy0, rfl⟩ := zipD_get hd
    obtain ⟨v, hv, dv⟩ := a2.get hx0
    obtain ⟨v', hv', dv'⟩ := a3.get hy0
    refine ⟨⟨us, ws, v, v', s2, s3, hv, hv'⟩, fun x H3 y => ?_⟩
    obtain ⟨T, w, w', rfl, hT, rfl, hx, hy⟩ := y
    have := hx us s2
    rw [hv] at this
    cases this
    have := hy ws s3
    rw [hv'] at this
    cases this
    exact ⟨same_upd hT, dv_new_tup hm hT (.cons dv (.cons dv' .nil))⟩
  · unfold zipD at hl'
    rw [List.length_zipWith] at hl'
    have l1 := ha.length
    have l2 := ha'.length
    exact ⟨us, ws, s2, s3, by omega, by omega, by omega⟩
def zip3D (xs ys zs : List D) : List D := List.zipWith (fun x (p : D × D) => .pr [x, p.1, p.2]) xs (ys.zip zs)
theorem zip3D_len (xs ys zs : List D) : (zip3D xs ys zs).length = min xs.length (min ys.length zs.length) := by
  unfold zip3D
  rw [List.length_zipWith, List.length_zip]
theorem zip3D_get {xs ys zs : List D} {i : Nat} {d : D} (h : (zip3D xs ys zs)[i]? = some d) : ∃ x y z, xs[i]? = some x ∧ ys[i]? = some y ∧ zs[i]? = some z ∧ d = .pr [x, y, z] := by
  unfold zip3D at h
  rw [List.getElem?_zipWith] at h
  cases q : xs[i]? with
  | none => rw [q] at h; cases h
  | some x =>
    cases q2 : (ys.zip zs)[i]? with
    | none => rw [q, q2] at h; cases h
    | some y =>
      rw [q, q2] at h
      rw [List.getElem?_zip_eq_some] at q2
      simp at h
      exact ⟨x, y.1, y.2, rfl, q2.1, q2.2, h.symm⟩
theorem walk_zip3 {K : PySem.W.Frag} {ms : List Addr} {H : Hp} {a b c : Addr} {us ws ts : List V} {xs ys zs : List D} {k1 k2 k3 : Bool} (hs : SqK k1 K (mask H ms) a us) (ha : DvAll K (mask H ms) us xs) (hs' : SqK k2 K (mask H ms) b ws) (ha' : DvAll K (mask H ms) ws ys)
    (hs'' : SqK k3 K (mask H ms) c ts) (ha'' : DvAll K (mask H ms) ts zs) : WalkOk K (It3 K k1 k2 k3 a b c) ms H (zip3D xs ys zs) := by
  intro i ms2 H2 ex hm
  have s2 : SqK k1 K H2 a us := (hs.same ex.same).un
  have a2 : DvAll K (mask H2 ms2) us xs := ha.mono ex.same
  have s3 : SqK k2 K H2 b ws := (hs'.same ex.same).un
  have a3 : DvAll K (mask H2 ms2) ws ys := ha'.mono ex.same
  have s4 : SqK k3 K H2 c ts := (hs''.same ex.same).un
  have a4 : DvAll K (mask H2 ms2) ts zs := ha''.mono ex.same
  refine ⟨fun d hd => ?_, fun hl' => ?_⟩
  · obtain ⟨x0, y0, z0, hx0, hy0, hz0, rfl⟩ := zip3D_get hd
    obtain ⟨v, hv, dv⟩ := a2.get hx0
    obtain ⟨v', hv', dv'⟩ := a3.get hy0
    obtain ⟨v'', hv'', dv''⟩ := a4.get hz0
    refine ⟨⟨us, ws, ts, v, v', v'', s2, s3, s4, hv, hv', hv''⟩, fun x H3 y => ?_⟩
    obtain ⟨T, w, w', w'', rfl, hT, rfl, hx, hy, hz⟩ := y
    have := hx us s2
    rw [hv] at this
    cases this
    have := hy ws s3
    rw [hv'] at this
    cases this
    have := hz ts s4
    rw [hv''] at this
    cases this
    exact ⟨same_upd hT, dv_new_tup hm hT (.cons dv (.cons dv' (.cons dv'' .nil)))⟩
  · rw [zip3D_len] at hl'
    have l1 := ha.length
    have l2 := ha'.length
    have l3 := ha''.length
    exact ⟨us, ws, ts, s2, s3, s4, by omega, by omega, by omega, by omega⟩
section
variable {X : Cx} {G : Gm} {a b c e tg elt : Expr} {es : List Expr} {f f1 f2 : EO} {fn : EN} {fa : EA} {fb : ET} {fi : EI} {pos p tpos : Pos} {st : Stmt} {rest body orelse : List Stmt} {s1 s2 : ES} {g : EG} {ws : List Nat}
def zipM (fa : EA) : EI := fun δ => (fa δ).bind fun (as, δ1) => (frzs as δ1).bind fun (ds, δ2) => match ds with
  | [x, y] => (sqD x).bind fun xs => (sqD y).map fun ys => (zipD xs ys, δ2)
  | _ => none
theorem di_zipM {elts : List Expr} {kk : Nat} {e2 : Expr} (ha : PA X [e, e2] (tAr X.K G fa)) (hg : Gl X "zip") (hm : X.mg "zip" = none) (hs : starEach [e, e2] X.env = (false, eval e X.env) :: starEach [e2] X.env := by rfl) (hpl : (backTo pos (starEach [e2] X.env)).any (·.1) = false := by rfl) : PI X (.Tuple elts kk tpos) (.Call (.Name "zip" p) [e, e2] [] pos) (tI X.K G (zipM fa)) :=
  PI.imp (pi_zipM hg hm ha hs hpl) fun σ H R q => by
  obtain ⟨ms, δ, ds, δ', Rr, e, k⟩ := q
  unfold zipM at e
  cases q : fa δ with
  | none => rw [q] at e; cases e
  | some r =>
    obtain ⟨as, δ1⟩ := r
    cases q2 : frzs as δ1 with
    | none => simp only [q, Option.bind_some, q2] at e; cases e
    | some r2 =>
      obtain ⟨xs, δ2⟩ := r2
      simp only [q, Option.bind_some, q2] at e
      split at e
      · rename_i x y
        cases q3 : sqD x with
        | none => rw [q3] at e; cases e
        | some xs' =>
          cases q4 : sqD y with
          | none => rw [q3, q4] at e; cases e
          | some ys' =>
            rw [q3, q4] at e
            cases e
            refine ⟨ms, δ, _, _, Rr, q, fun vs H1 m1 R1 e1 h1 => ?_⟩
            obtain ⟨m2, R2, e2, d2⟩ := frzs_ok R1 h1 q2
            cases d2 with
            | cons x y =>
              cases y with
              | cons y z =>
                cases z
                obtain ⟨k1, a1, us1, rfl, hs1, ha1⟩ := dv_sq x q3
                obtain ⟨k2, a2, us2, rfl, hs2, ha2⟩ := dv_sq y q4
                exact ⟨k1, k2, _, _, _, _, rfl, hs1.un, hs2.un, k _ _ m2 R2 (e1.trans e2) (walk_zipM hs1 ha1 hs2 ha2)⟩
      · cases e
def zip3I (fa : EA) : EI := fun δ => (fa δ).bind fun (as, δ1) => (frzs as δ1).bind fun (ds, δ2) => match ds with
  | [x, y, z] => (sqD x).bind fun xs => (sqD y).bind fun ys => (sqD z).map fun zs => (zip3D xs ys zs, δ2)
  | _ => none
theorem di_zip3 {elts : List Expr} {kk : Nat} {e2 e3 : Expr} (ha : PA X [e, e2, e3] (tAr X.K G fa)) (hg : Gl X "zip") (hm : X.mg "zip" = none) (hs : starEach [e, e2, e3] X.env = (false, eval e X.env) :: starEach [e2, e3] X.env := by rfl) (hpl : (backTo pos (starEach [e2, e3] X.env)).any (·.1) = false := by rfl) : PI X (.Tuple elts kk tpos) (.Call (.Name "zip" p) [e, e2, e3] [] pos) (tI X.K G (zip3I fa)) :=
  PI.imp (pi_zip3 hg hm ha hs hpl) fun σ H R q => by
  obtain ⟨ms, δ, ds, δ', Rr, e, k⟩ := q
  unfold zip3I at e
  cases q : fa δ with
  | none => rw [q] at e; cases e
  | some r =>
    obtain ⟨as, δ1⟩ := r
    cases q2 : frzs as δ1 with
    | none => simp only [q, Option.bind_some, q2] at e; cases e
    | some r2 =>
      obtain ⟨xs, δ2⟩ := r2
      simp only [q, Option.bind_some, q2] at e
      split at e
      · rename_i x y z
        cases q3 : sqD x with
        | none => rw [q3] at e; cases e
        | some xs' =>
          cases q4 : sqD y with
          | none => rw [q3] at e; simp only [Option.bind_some, q4] at e; cases e
          | some ys' =>
            cases q5 : sqD z with
            | none => rw [q3] at e; simp only [Option.bind_some, q4, q5] at e; cases e
            | some zs' =>
              rw [q3] at e
              simp only [Option.bind_some, q4, q5] at e
              cases e
              refine ⟨ms, δ, _, _, Rr, q, fun vs H1 m1 R1 e1 h1 => ?_⟩
              obtain ⟨m2, R2, e2, d2⟩ := frzs_ok R1 h1 q2
              cases d2 with
              | cons x y =>
                cases y with
                | cons y z =>
                  cases z with
                  | cons z zz =>
                    cases zz
                    obtain ⟨k1, a1, us1, rfl, hs1, ha1⟩ := dv_sq x q3
                    obtain ⟨k2, a2, us2, rfl, hs2, ha2⟩ := dv_sq y q4
                    obtain ⟨k3, a3, us3, rfl, hs3, ha3⟩ := dv_sq z q5
                    exact ⟨k1, k2, k3, _, _, _, _, _, _, rfl, hs1.un, hs2.un, hs3.un, k _ _ m2 R2 (e1.trans e2) (walk_zip3 hs1 ha1 hs2 ha2 hs3 ha3)⟩
      · cases e
end
section
variable {δ : DE} {fa : EA} {PN : List D → DE → Prop}
theorem w_zipM (h : W fa δ fun as δ1 => ∃ x y xs ys δ2, frzs as δ1 = some ([x, y], δ2) ∧ sqD x = some xs ∧ sqD y = some ys ∧ PN (zipD xs ys) δ2) : W (zipM fa) δ PN := by
  obtain ⟨a, δ1, e, x, y, xs, ys, δ2, e2, e3, e4, p⟩ := h
  exact ⟨_, _, by unfold zipM; simp only [e, Option.bind_some, e2, e3, e4, Option.map_some], p⟩
theorem w_zip3 (h : W fa δ fun as δ1 => ∃ x y z xs ys zs δ2, frzs as δ1 = some ([x, y, z], δ2) ∧ sqD x = some xs ∧ sqD y = some ys ∧ sqD z = some zs ∧ PN (zip3D xs ys zs) δ2) : W (zip3I fa) δ PN := by
  obtain ⟨a, δ1, e, x, y, z, xs, ys, zs, δ2, e2, e3, e4, e5, p⟩ := h
  exact ⟨_, _, by unfold zip3I; simp only [e, Option.bind_some, e2, e3, e4, e5, Option.map_some], p⟩
end
section
variable {δ δ2 : DE} {as : List Ar} {x y z : D} {xs ys zs : List D}
theorem exZ2 {P : List D → List D → DE → Prop} (h1 : frzs as δ = some ([x, y], δ2)) (h2 : sqD x = some xs) (h3 : sqD y = some ys) (p : P xs ys δ2) : ∃ x y xs ys δ2, frzs as δ = some ([x, y], δ2) ∧ sqD x = some xs ∧ sqD y = some ys ∧ P xs ys δ2 := ⟨x, y, xs, ys, δ2, h1, h2, h3, p⟩
theorem exZ3 {P : List D → List D → List D → DE → Prop} (h1 : frzs as δ = some ([x, y, z], δ2)) (h2 : sqD x = some xs) (h3 : sqD y = some ys) (h4 : sqD z = some zs) (p : P xs ys zs δ2) : ∃ x y z xs ys zs δ2, frzs as δ = some ([x, y, z], δ2) ∧ sqD x = some xs ∧ sqD y = some ys ∧ sqD z = some zs ∧ P xs ys zs δ2 := ⟨x, y, z, xs, ys, zs, δ2, h1, h2, h3, h4, p⟩
end
end DL
/-! plain: lots of draws over atoms, their weights -/
namespace DL
open PySem PySem.Spec PyProof.Rows L2
def nW (w : List Nat) : List Int := w.map fun (i : Nat) => (i : Int)
def sstep (t : Nat) (s : List Nat) : List (List Nat) := (List.range (t - s.sum + 1)).map fun i => s ++ [i]
def splK (t : Nat) : Nat → List (List Nat)
  | 0 => [[]]
  | k + 1 => (splK t k).flatMap (sstep t)
def splL (t p : Nat) : List (List Nat) := (splK t (p - 1)).map fun s => s ++ [t - s.sum]
theorem mem_splK {t : Nat} : ∀ {k : Nat} {s : List Nat}, s ∈ splK t k ↔ s.length = k ∧ s.sum ≤ t
  | 0, s => by
    show s ∈ [[]] ↔ _
    rw [List.mem_singleton]
    constructor
    · rintro rfl; exact ⟨rfl, Nat.zero_le _⟩
    · rintro ⟨h, _⟩; exact List.eq_nil_of_length_eq_zero h
  | k + 1, s => by
    show s ∈ (splK t k).flatMap (sstep t) ↔ _
    rw [List.mem_flatMap]
    constructor
    · rintro ⟨r, hr, hs⟩
      obtain ⟨h1, h2⟩ := mem_splK.mp hr
      unfold sstep at hs
      obtain ⟨i, hi, rfl⟩ := List.mem_map.mp hs
      have := List.mem_range.mp hi
      exact ⟨by simp [h1], by rw [List.sum_append]; simp; omega⟩
    · rintro ⟨h1, h2⟩
      rcases List.eq_nil_or_concat s with rfl | ⟨r, x, rfl⟩
      · simp at h1
      · rw [List.concat_eq_append] at *
        rw [List.sum_append] at h2
        simp at h1 h2
        refine ⟨r, mem_splK.mpr ⟨h1, by omega⟩, ?_⟩
        unfold sstep
        exact List.mem_map.mpr ⟨x, List.mem_range.mpr (by omega), rfl⟩
theorem mem_splL {t p : Nat} (hp : 1 ≤ p) {s : List Nat} : s ∈ splL t p ↔ s.length = p ∧ s.sum = t := by
  unfold splL
  rw [List.mem_map]
  constructor
  · rintro ⟨r, hr, rfl⟩
    obtain ⟨h1, h2⟩ := mem_splK.mp hr
    exact ⟨by simp [h1]; omega, by rw [List.sum_append]; simp; omega⟩
  · rintro ⟨h1, h2⟩
    rcases List.eq_nil_or_concat s with rfl | ⟨r, x, rfl⟩
    · simp at h1; omega
    · rw [List.concat_eq_append] at *
      rw [List.sum_append] at h2
      simp at h1 h2
      refine ⟨r, mem_splK.mpr ⟨by omega, by omega⟩, ?_⟩
      congr 2; omega
theorem sum_nW (w : List Nat) : (nW w).sum = (w.sum : Int) := by
  unfold nW
  induction w with
  | nil => rfl
  | cons x w ih => rw [List.map_cons, List.sum_cons, List.sum_cons, ih]; push_cast; rfl
theorem nW_app (a b : List Nat) : nW (a ++ b) = nW a ++ nW b := by unfold nW; rw [List.map_append]
theorem sstep_len (t : Nat) (s : List Nat) : (sstep t s).length = t - s.sum + 1 := by unfold sstep; simp
/-! sums over lists -/
theorem nodup_flatMap {α β : Type} {f : α → List β} : ∀ {L : List α}, L.Nodup → (∀ a ∈ L, (f a).Nodup) → (∀ a ∈ L, ∀ b ∈ L, a ≠ b → ∀ x ∈ f a, x ∉ f b) → (L.flatMap f).Nodup
  | [], _, _, _ => by simp
  | a :: L, h, h1, h2 => by
    rw [List.flatMap_cons, List.nodup_append]
    have hn := List.nodup_cons.mp h
    refine ⟨h1 a List.mem_cons_self, nodup_flatMap hn.2 (fun b hb => h1 b (List.mem_cons_of_mem _ hb)) (fun b hb c hc => h2 b (List.mem_cons_of_mem _ hb) c (List.mem_cons_of_mem _ hc)), ?_⟩
    intro x hx y hy e
    subst e
    obtain ⟨b, hb, hxb⟩ := List.mem_flatMap.mp hy
    exact h2 a List.mem_cons_self b (List.mem_cons_of_mem _ hb) (fun e => hn.1 (e ▸ hb)) x hx hxb
theorem snoc_inj {α : Type} {s t : List α} {x y : α} (h : s ++ [x] = t ++ [y]) : s = t ∧ x = y := by
  have h1 := List.append_inj' h rfl
  exact ⟨h1.1, by simpa using h1.2⟩
theorem nodup_splK (t : Nat) : ∀ k, (splK t k).Nodup
  | 0 => by show ([[]] : List (List Nat)).Nodup; simp
  | k + 1 => by
    refine nodup_flatMap (nodup_splK t k) (fun s _ => ?_) (fun a _ b _ hab x hx hy => ?_)
    · unfold sstep
      refine List.pairwise_map.mpr (List.Pairwise.imp (fun {a b} h => ?_) List.nodup_range)
      exact fun e => h (snoc_inj e).2
    · unfold sstep at hx hy
      obtain ⟨i, _, rfl⟩ := List.mem_map.mp hx
      obtain ⟨j, _, e⟩ := List.mem_map.mp hy
      exact hab (snoc_inj e).1.symm
theorem nodup_splL (t p : Nat) : (splL t p).Nodup := by
  unfold splL
  refine List.pairwise_map.mpr (List.Pairwise.imp (fun {a b} h => ?_) (nodup_splK t (p - 1)))
  exact fun e => h (snoc_inj e).1
def lotE : Nat → Nat → List (List Nat)
  | t, 0 => if t = 0 then [[]] else []
  | t, p + 1 => (List.range (t + 1)).flatMap fun l => (lotE (t - l) p).map fun s => s ++ [l]
theorem mem_lotE : ∀ {p t : Nat} {s : List Nat}, s ∈ lotE t p ↔ s.length = p ∧ s.sum = t
  | 0, t, s => by
    unfold lotE
    by_cases h : t = 0
    · subst h; rw [if_pos rfl, List.mem_singleton]
      constructor
      · rintro rfl; exact ⟨rfl, rfl⟩
      · rintro ⟨h, _⟩; exact List.eq_nil_of_length_eq_zero h
    · rw [if_neg h]
      constructor
      · intro z; cases z
      · rintro ⟨h1, h2⟩; rw [List.eq_nil_of_length_eq_zero h1] at h2; exact absurd h2.symm h
  | p + 1, t, s => by
    unfold lotE
    rw [List.mem_flatMap]
    constructor
    · rintro ⟨l, hl, hs⟩
      obtain ⟨r, hr, rfl⟩ := List.mem_map.mp hs
      obtain ⟨h1, h2⟩ := mem_lotE.mp hr
      have := List.mem_range.mp hl
      exact ⟨by simp [h1], by rw [List.sum_append]; simp; omega⟩
    · rintro ⟨h1, h2⟩
      rcases List.eq_nil_or_concat s with rfl | ⟨r, x, rfl⟩
      · simp at h1
      · rw [List.concat_eq_append] at *
        rw [List.sum_append] at h2
        simp at h1 h2
        exact ⟨x, List.mem_range.mpr (by omega), List.mem_map.mpr ⟨r, mem_lotE.mpr ⟨h1, by omega⟩, rfl⟩⟩
theorem nodup_lotE : ∀ (p t : Nat), (lotE t p).Nodup
  | 0, t => by unfold lotE; split <;> simp
  | p + 1, t => by
    unfold lotE
    refine nodup_flatMap List.nodup_range (fun l _ => ?_) (fun a _ b _ hab x hx hy => ?_)
    · refine List.pairwise_map.mpr (List.Pairwise.imp (fun {a b} h => ?_) (nodup_lotE p (t - l)))
      exact fun e => h (snoc_inj e).1
    · obtain ⟨r, _, rfl⟩ := List.mem_map.mp hx
      obtain ⟨r', _, e⟩ := List.mem_map.mp hy
      exact hab (snoc_inj e).2.symm
theorem perm_of_mem {α : Type} [DecidableEq α] {a b : List α} (ha : a.Nodup) (hb : b.Nodup) (h : ∀ x, x ∈ a ↔ x ∈ b) : a.Perm b := by
  rw [List.perm_iff_count]
  intro x
  rw [ha.count, hb.count]
  by_cases q : x ∈ a
  · rw [if_pos q, if_pos ((h x).mp q)]
  · rw [if_neg q, if_neg (fun z => q ((h x).mpr z))]
theorem spl_lot {t p : Nat} (hp : 1 ≤ p) : (splL t p).Perm (lotE t p) := perm_of_mem (nodup_splL t p) (nodup_lotE p t) fun x => by rw [mem_splL hp, mem_lotE]
theorem sum_perm {α : Type} {a b : List α} (h : a.Perm b) (f : α → Nat) : (a.map f).sum = (b.map f).sum := (h.map f).sum_nat
theorem sum_flatMap {α β : Type} (f : α → List β) (g : β → Nat) : ∀ L : List α, ((L.flatMap f).map g).sum = (L.map fun a => ((f a).map g).sum).sum
  | [] => rfl
  | a :: L => by rw [List.flatMap_cons, List.map_append, List.sum_append, sum_flatMap f g L, List.map_cons, List.sum_cons]
theorem sum_mulL {α : Type} (c : Nat) (f : α → Nat) : ∀ L : List α, (L.map fun x => c * f x).sum = c * (L.map f).sum
  | [] => by simp
  | a :: L => by rw [List.map_cons, List.sum_cons, sum_mulL c f L, List.map_cons, List.sum_cons, Nat.mul_add]
theorem sum_congrL {α : Type} {f g : α → Nat} {L : List α} (h : ∀ x ∈ L, f x = g x) : (L.map f).sum = (L.map g).sum := by rw [List.map_congr_left h]
theorem sum_leL {α : Type} {f g : α → Nat} : ∀ {L : List α}, (∀ x ∈ L, f x ≤ g x) → (L.map f).sum ≤ (L.map g).sum
  | [], _ => Nat.le_refl _
  | a :: L, h => by
    rw [List.map_cons, List.map_cons, List.sum_cons, List.sum_cons]
    exact Nat.add_le_add (h a List.mem_cons_self) (sum_leL fun x hx => h x (List.mem_cons_of_mem _ hx))
theorem sum_addL {α : Type} (f g : α → Nat) : ∀ L : List α, (L.map fun x => f x + g x).sum = (L.map f).sum + (L.map g).sum
  | [] => rfl
  | a :: L => by simp only [List.map_cons, List.sum_cons, sum_addL f g L]; omega
theorem sum_zeroL {α : Type} : ∀ C : List α, (C.map fun _ => 0).sum = 0
  | [] => rfl
  | c :: C => by rw [List.map_cons, List.sum_cons, sum_zeroL C]
/-- grouped by a key -/
theorem sum_group {α β : Type} [DecidableEq β] {key : α → β} {F : β → α → Nat} : ∀ {C : List β}, C.Nodup → ∀ {L : List α}, (∀ x ∈ L, key x ∈ C) → (L.map fun x => F (key x) x).sum = (C.map fun c => ((L.filter fun x => decide (key x = c)).map (F c)).sum).sum := by
  intro C hC L
  induction L with
  | nil =>
    intro _
    have : (C.map fun c => ((([] : List α).filter fun x => decide (key x = c)).map (F c)).sum) = C.map fun _ => 0 := by simp
    rw [this, sum_zeroL]; rfl
  | cons x L ih =>
    intro h
    rw [List.map_cons, List.sum_cons, ih fun y hy => h y (List.mem_cons_of_mem _ hy)]
    have e : ∀ c, (((x :: L).filter fun x => decide (key x = c)).map (F c)).sum = (if key x = c then F c x else 0) + ((L.filter fun x => decide (key x = c)).map (F c)).sum := by
      intro c
      rw [List.filter_cons]
      by_cases q : key x = c
      · simp [q]
      · simp [q]
    rw [sum_congrL fun c _ => e c, sum_addL]
    congr 1
    have hx := h x List.mem_cons_self
    clear ih h e
    generalize hk : key x = k at *
    have hC2 := hC
    clear hC
    induction C with
    | nil => cases hx
    | cons c C ih =>
      rw [List.map_cons, List.sum_cons]
      have hn := List.nodup_cons.mp hC2
      rcases List.mem_cons.mp hx with rfl | hx
      · rw [if_pos rfl]
        have : (C.map fun c => if k = c then F c x else 0).sum = 0 := by
          rw [sum_congrL (g := fun _ => 0) fun c hc => ?_, sum_zeroL]
          show (if k = c then F c x else 0) = 0
          refine if_neg fun e => hn.1 ?_
          rw [e]; exact hc
        omega
      · rw [if_neg (fun e : k = c => hn.1 (by rw [← e]; exact hx)), ← ih hx hn.2]; omega
theorem sumR_cast (f : Nat → Nat) : ∀ n : Nat, (((List.range n).map f).sum : Int) = sumR (fun i => (f i : Int)) n := by
  intro n
  rw [← sumR_list]
  generalize List.range n = L
  induction L with
  | nil => rfl
  | cons a L ih => rw [List.map_cons, List.map_cons, List.sum_cons, List.sum_cons, ← ih]; push_cast; rfl
theorem binomN (a b n : Nat) : ((List.range (n + 1)).map fun k => chs n k * a ^ k * b ^ (n - k)).sum = (a + b) ^ n := by
  have h := binom (a : Int) (b : Int) n
  have e := sumR_cast (fun k => chs n k * a ^ k * b ^ (n - k)) (n + 1)
  push_cast at e
  rw [h] at e
  exact_mod_cast e
def fct : Nat → Nat | 0 => 1 | n + 1 => (n + 1) * fct n
theorem fct_pos : ∀ n, 0 < fct n | 0 => Nat.one_pos | n + 1 => Nat.mul_pos (Nat.succ_pos n) (fct_pos n)
theorem chs_fct : ∀ a b : Nat, chs (a + b) a * (fct a * fct b) = fct (a + b)
  | 0, b => by rw [chs_zero, Nat.zero_add]; show 1 * (1 * fct b) = _; omega
  | a + 1, b => by
    have h := chs_absorb (a + b) a
    have i := chs_fct a b
    rw [show a + 1 + b = a + b + 1 by omega]
    show chs (a + b + 1) (a + 1) * ((a + 1) * fct a * fct b) = (a + b + 1) * fct (a + b)
    grind
theorem chs_four (n x m y : Nat) : chs (n + x) x * chs (m + y) y * chs (n + x + (m + y)) (n + x) = chs (n + m) n * chs (n + m + (x + y)) (x + y) * chs (x + y) x := by
  have a1 := chs_fct x n
  have a2 := chs_fct y m
  have a3 := chs_fct (n + x) (m + y)
  have b1 := chs_fct n m
  have b2 := chs_fct (x + y) (n + m)
  have b3 := chs_fct x y
  rw [Nat.add_comm x n] at a1
  rw [Nat.add_comm y m] at a2
  rw [Nat.add_comm (x + y) (n + m)] at b2
  have e : n + x + (m + y) = n + m + (x + y) := by omega
  have hp : 0 < fct n * fct x * (fct m * fct y) := Nat.mul_pos (Nat.mul_pos (fct_pos n) (fct_pos x)) (Nat.mul_pos (fct_pos m) (fct_pos y))
  refine Nat.eq_of_mul_eq_mul_right hp ?_
  rw [e] at a3 ⊢
  have lh : chs (n + x) x * chs (m + y) y * chs (n + m + (x + y)) (n + x) * (fct n * fct x * (fct m * fct y)) = fct (n + m + (x + y)) := by
    rw [← a3, ← a1, ← a2]; grind
  have rh : chs (n + m) n * chs (n + m + (x + y)) (x + y) * chs (x + y) x * (fct n * fct x * (fct m * fct y)) = fct (n + m + (x + y)) := by
    rw [← b2, ← b3, ← b1]; grind
  rw [lh, rh]
theorem chs_three {m k l : Nat} (h1 : l ≤ k) (h2 : k ≤ m) : chs m l * chs (m - l) (k - l) = chs m k * chs k l := by
  obtain ⟨a, rfl⟩ : ∃ a, k = l + a := ⟨k - l, by omega⟩
  obtain ⟨b, rfl⟩ : ∃ b, m = l + a + b := ⟨m - (l + a), by omega⟩
  have a1 := chs_fct l (a + b)
  have a2 := chs_fct a b
  have b1 := chs_fct (l + a) b
  have b2 := chs_fct l a
  have hp : 0 < fct l * (fct a * fct b) := Nat.mul_pos (fct_pos l) (Nat.mul_pos (fct_pos a) (fct_pos b))
  refine Nat.eq_of_mul_eq_mul_right hp ?_
  rw [show l + a + b - l = a + b by omega, show l + a - l = a by omega]
  rw [show l + (a + b) = l + a + b by omega] at a1
  have lh : chs (l + a + b) l * chs (a + b) a * (fct l * (fct a * fct b)) = fct (l + a + b) := by rw [← a1, ← a2]; grind
  have rh : chs (l + a + b) (l + a) * chs (l + a) l * (fct l * (fct a * fct b)) = fct (l + a + b) := by rw [← b1, ← b2]; grind
  rw [lh, rh]
/-! weights -/
def wstep (p x : Nat × Nat) : Nat × Nat := (p.1 * chs (p.2 + x.2) x.2 * x.1 ^ x.2, p.2 + x.2)
def wgtN (hs lot : List Nat) : Nat := ((hs.zip lot).foldl wstep (1, 0)).1
theorem wstep_snd : ∀ (l : List (Nat × Nat)) (p : Nat × Nat), (l.foldl wstep p).2 = p.2 + (l.map (·.2)).sum
  | [], p => by simp
  | x :: l, p => by
    rw [List.foldl_cons, wstep_snd l, List.map_cons, List.sum_cons]
    show p.2 + x.2 + _ = _
    omega
theorem zip_snd {α β : Type} : ∀ {a : List α} {b : List β}, a.length = b.length → (a.zip b).map (·.2) = b
  | [], [], _ => rfl
  | _ :: a, _ :: b, h => by rw [List.zip_cons_cons, List.map_cons, zip_snd (by simpa using h)]
  | [], _ :: _, h => by simp at h
  | _ :: _, [], h => by simp at h
theorem wgt_snoc {hs ls : List Nat} (hl : hs.length = ls.length) (h l : Nat) : wgtN (hs ++ [h]) (ls ++ [l]) = wgtN hs ls * chs (ls.sum + l) l * h ^ l := by
  unfold wgtN
  rw [List.zip_append hl, List.foldl_append]
  show (wstep ((hs.zip ls).foldl wstep (1, 0)) (h, l)).1 = _
  have e := wstep_snd (hs.zip ls) (1, 0)
  rw [zip_snd hl] at e
  show ((hs.zip ls).foldl wstep (1, 0)).1 * chs (((hs.zip ls).foldl wstep (1, 0)).2 + l) l * h ^ l = _
  rw [e, Nat.zero_add]
theorem sum_wgt : ∀ (p : Nat) {hs : List Nat}, hs.length = p → ∀ t, ((lotE t p).map (wgtN hs)).sum = hs.sum ^ t
  | 0, hs, hl, t => by
    rw [List.eq_nil_of_length_eq_zero hl]
    unfold lotE
    by_cases h : t = 0
    · subst h; rfl
    · rw [if_neg h]
      show 0 = 0 ^ t
      rw [Nat.zero_pow (by omega)]
  | p + 1, hs, hl, t => by
    rcases List.eq_nil_or_concat hs with rfl | ⟨r, x, rfl⟩
    · simp at hl
    rw [List.concat_eq_append] at *
    have hr : r.length = p := by simpa using hl
    unfold lotE
    rw [sum_flatMap]
    have e : ∀ l ∈ List.range (t + 1), (((lotE (t - l) p).map fun s => s ++ [l]).map (wgtN (r ++ [x]))).sum = chs t l * x ^ l * r.sum ^ (t - l) := by
      intro l hl2
      have hlt : l ≤ t := by have := List.mem_range.mp hl2; omega
      rw [List.map_map, sum_congrL (g := fun s => chs t l * x ^ l * wgtN r s) fun s hs => ?_, sum_mulL, sum_wgt p hr]
      obtain ⟨h1, h2⟩ := mem_lotE.mp hs
      show wgtN (r ++ [x]) (s ++ [l]) = _
      rw [wgt_snoc (by rw [hr, h1]), h2, show t - l + l = t by omega]
      grind
    rw [sum_congrL e, binomN, List.sum_append]
    simp [Nat.add_comm]
/-! two lots over the same atoms -/
def adL (l r : List Nat) : List Nat := List.zipWith (· + ·) l r
def mulC (l r : List Nat) : Nat := ((l.zip r).foldl (fun a p => a * chs (p.1 + p.2) p.1) 1)
theorem mulC_snoc {l r : List Nat} (h : l.length = r.length) (x y : Nat) : mulC (l ++ [x]) (r ++ [y]) = mulC l r * chs (x + y) x := by
  unfold mulC
  rw [List.zip_append h, List.foldl_append]
  rfl
theorem adL_snoc {l r : List Nat} (h : l.length = r.length) (x y : Nat) : adL (l ++ [x]) (r ++ [y]) = adL l r ++ [x + y] := by
  unfold adL
  rw [List.zipWith_append h]
  rfl
theorem adL_sum : ∀ {l r : List Nat}, l.length = r.length → (adL l r).sum = l.sum + r.sum
  | [], [], _ => rfl
  | x :: l, y :: r, h => by
    have := adL_sum (l := l) (r := r) (by simpa using h)
    unfold adL at *
    rw [List.zipWith_cons_cons, List.sum_cons, List.sum_cons, List.sum_cons, this]; omega
  | [], _ :: _, h => by simp at h
  | _ :: _, [], h => by simp at h
theorem adL_len {l r : List Nat} (h : l.length = r.length) : (adL l r).length = l.length := by unfold adL; rw [List.length_zipWith, ← h, Nat.min_self]
theorem wgt_two : ∀ (p : Nat) {hs l r : List Nat}, hs.length = p → l.length = p → r.length = p → wgtN hs l * wgtN hs r * chs (l.sum + r.sum) l.sum = wgtN hs (adL l r) * mulC l r
  | 0, hs, l, r, h1, h2, h3 => by
    rw [List.eq_nil_of_length_eq_zero h1, List.eq_nil_of_length_eq_zero h2, List.eq_nil_of_length_eq_zero h3]; rfl
  | p + 1, hs, l, r, h1, h2, h3 => by
    rcases List.eq_nil_or_concat hs with rfl | ⟨hs, h, rfl⟩
    · simp at h1
    rcases List.eq_nil_or_concat l with rfl | ⟨l, x, rfl⟩
    · simp at h2
    rcases List.eq_nil_or_concat r with rfl | ⟨r, y, rfl⟩
    · simp at h3
    rw [List.concat_eq_append] at *
    rw [List.concat_eq_append] at *
    rw [List.concat_eq_append] at *
    have h1' : hs.length = p := by simpa using h1
    have h2' : l.length = p := by simpa using h2
    have h3' : r.length = p := by simpa using h3
    have ih := wgt_two p h1' h2' h3'
    have f := chs_four l.sum x r.sum y
    rw [wgt_snoc (by rw [h1', h2']), wgt_snoc (by rw [h1', h3']), adL_snoc (by rw [h2', h3']), mulC_snoc (by rw [h2', h3']), wgt_snoc (by rw [h1', adL_len (by rw [h2', h3']), h2']), adL_sum (by rw [h2', h3'])]
    rw [List.sum_append, List.sum_append]
    have e1 : [x].sum = x := by simp
    have e2 : [y].sum = y := by simp
    rw [e1, e2, Nat.pow_add]
    grind
def pairs (n m p : Nat) : List (List Nat × List Nat) := (lotE n p).flatMap fun l => (lotE m p).map fun r => (l, r)
theorem mem_pairs {n m p : Nat} {x : List Nat × List Nat} : x ∈ pairs n m p ↔ (x.1.length = p ∧ x.1.sum = n) ∧ (x.2.length = p ∧ x.2.sum = m) := by
  unfold pairs
  rw [List.mem_flatMap]
  constructor
  · rintro ⟨l, hl, h⟩
    obtain ⟨r, hr, rfl⟩ := List.mem_map.mp h
    exact ⟨mem_lotE.mp hl, mem_lotE.mp hr⟩
  · rintro ⟨h1, h2⟩
    exact ⟨x.1, mem_lotE.mpr h1, List.mem_map.mpr ⟨x.2, mem_lotE.mpr h2, rfl⟩⟩
theorem sum_pairs (n m p : Nat) (f : List Nat → List Nat → Nat) : ((pairs n m p).map fun x => f x.1 x.2).sum = ((lotE n p).map fun l => ((lotE m p).map fun r => f l r).sum).sum := by
  unfold pairs
  rw [sum_flatMap]
  exact sum_congrL fun l _ => by rw [List.map_map]; rfl
/-- all draws at one: the told lot of all, and which of them are of which lot -/
theorem two_lots {n m p : Nat} {hs : List Nat} (hl : hs.length = p) (g : List Nat → List Nat → Nat) :
    chs (n + m) n * ((pairs n m p).map fun x => wgtN hs x.1 * wgtN hs x.2 * g x.1 x.2).sum = ((lotE (n + m) p).map fun c => wgtN hs c * (((pairs n m p).filter fun x => decide (adL x.1 x.2 = c)).map fun x => mulC x.1 x.2 * g x.1 x.2).sum).sum := by
  rw [← sum_mulL]
  have e : ∀ x ∈ pairs n m p, chs (n + m) n * (wgtN hs x.1 * wgtN hs x.2 * g x.1 x.2) = wgtN hs (adL x.1 x.2) * (mulC x.1 x.2 * g x.1 x.2) := by
    intro x hx
    obtain ⟨⟨h1, h2⟩, h3, h4⟩ := mem_pairs.mp hx
    have := wgt_two p hl h1 h3
    rw [h2, h4] at this
    grind
  rw [sum_congrL e]
  rw [sum_group (key := fun x : List Nat × List Nat => adL x.1 x.2) (F := fun c x => wgtN hs c * (mulC x.1 x.2 * g x.1 x.2)) (nodup_lotE p (n + m)) fun x hx => ?_]
  · exact sum_congrL fun c _ => by rw [sum_mulL]
  · obtain ⟨⟨h1, h2⟩, h3, h4⟩ := mem_pairs.mp hx
    exact mem_lotE.mpr ⟨by rw [adL_len (by rw [h1, h3]), h1], by rw [adL_sum (by rw [h1, h3]), h2, h4]⟩
theorem two_lots_ge {n m p R : Nat} {hs : List Nat} (hl : hs.length = p) {g : List Nat → List Nat → Nat} (h : ∀ c ∈ lotE (n + m) p, R ≤ (((pairs n m p).filter fun x => decide (adL x.1 x.2 = c)).map fun x => mulC x.1 x.2 * g x.1 x.2).sum) :
    R * hs.sum ^ (n + m) ≤ chs (n + m) n * ((pairs n m p).map fun x => wgtN hs x.1 * wgtN hs x.2 * g x.1 x.2).sum := by
  rw [two_lots hl, ← sum_wgt p hl, ← sum_mulL]
  exact sum_leL fun c hc => by rw [Nat.mul_comm]; exact Nat.mul_le_mul_left _ (h c hc)
end DL
/-! plain: marked atoms -/
namespace DL
open PySem PySem.Spec PyProof.Rows L2
def mkS : List Bool → List Nat → Nat
  | b :: bs, x :: xs => (if b = true then x else 0) + mkS bs xs
  | _, _ => 0
theorem mkS_snoc : ∀ {bs : List Bool} {xs : List Nat}, bs.length = xs.length → ∀ b x, mkS (bs ++ [b]) (xs ++ [x]) = mkS bs xs + if b = true then x else 0
  | [], [], _, b, x => by simp [mkS]
  | b' :: bs, x' :: xs, h, b, x => by
    have := mkS_snoc (bs := bs) (xs := xs) (by simpa using h) b x
    simp only [List.cons_append, mkS, this]; omega
  | [], _ :: _, h, _, _ => by simp at h
  | _ :: _, [], h, _, _ => by simp at h
theorem mkS_le : ∀ (bs : List Bool) (xs : List Nat), mkS bs xs ≤ xs.sum
  | [], xs => by simp [mkS]
  | b :: bs, [] => by simp [mkS]
  | b :: bs, x :: xs => by
    have := mkS_le bs xs
    simp only [mkS, List.sum_cons]
    split <;> omega
theorem sum_short {f : Nat → Nat} {k t : Nat} (hk : k ≤ t) (h : ∀ l, k < l → l ≤ t → f l = 0) : ((List.range (t + 1)).map f).sum = ((List.range (k + 1)).map f).sum := by
  induction t with
  | zero => have : k = 0 := by omega
            subst this; rfl
  | succ t ih =>
    by_cases q : k = t + 1
    · subst q; rfl
    · rw [List.range_succ, List.map_append, List.sum_append, ih (by omega) fun l h1 h2 => h l h1 (by omega)]
      simp [h (t + 1) (by omega) (by omega)]
theorem sum_mark : ∀ (p : Nat) {hs : List Nat} {bs : List Bool}, hs.length = p → bs.length = p → ∀ t k, ((lotE t p).map fun r => if mkS bs r = k then wgtN hs r else 0).sum = chs t k * mkS bs hs ^ k * (hs.sum - mkS bs hs) ^ (t - k)
  | 0, hs, bs, h1, h2, t, k => by
    rw [List.eq_nil_of_length_eq_zero h1, List.eq_nil_of_length_eq_zero h2]
    unfold lotE
    by_cases h : t = 0
    · subst h
      cases k with
      | zero => rfl
      | succ k => simp [mkS, chs]
    · rw [if_neg h]
      show 0 = chs t k * 0 ^ k * (0 - 0) ^ (t - k)
      cases k with
      | zero => rw [Nat.pow_zero, show t - 0 = t by omega, show 0 - 0 = 0 from rfl, Nat.zero_pow (by omega)]; simp
      | succ k => simp
  | p + 1, hs, bs, h1, h2, t, k => by
    rcases List.eq_nil_or_concat hs with rfl | ⟨hs, h, rfl⟩
    · simp at h1
    rcases List.eq_nil_or_concat bs with rfl | ⟨bs, b, rfl⟩
    · simp at h2
    rw [List.concat_eq_append] at *
    rw [List.concat_eq_append] at *
    have h1' : hs.length = p := by simpa using h1
    have h2' : bs.length = p := by simpa using h2
    have hle := mkS_le bs hs
    unfold lotE
    rw [sum_flatMap]
    have e0 : ∀ l, l ≤ t → ∀ s ∈ lotE (t - l) p, (if mkS (bs ++ [b]) (s ++ [l]) = k then wgtN (hs ++ [h]) (s ++ [l]) else 0) = chs t l * h ^ l * (if mkS bs s + (if b = true then l else 0) = k then wgtN hs s else 0) := by
      intro l hlt s hs'
      obtain ⟨q1, q2⟩ := mem_lotE.mp hs'
      rw [wgt_snoc (by rw [h1', q1]), mkS_snoc (by rw [h2', q1]), q2, show t - l + l = t by omega]
      by_cases z : mkS bs s + (if b = true then l else 0) = k
      · rw [if_pos z, if_pos z]; grind
      · rw [if_neg z, if_neg z]; simp
    rw [mkS_snoc (by rw [h1', h2']), List.sum_append]
    have eh : [h].sum = h := by simp
    rw [eh]
    cases b with
    | true =>
      rw [if_pos rfl, show hs.sum + h - (mkS bs hs + h) = hs.sum - mkS bs hs by omega]
      have e : ∀ l ∈ List.range (t + 1), (((lotE (t - l) p).map fun s => s ++ [l]).map fun r => if mkS (bs ++ [true]) r = k then wgtN (hs ++ [h]) r else 0).sum = if l ≤ k then chs t l * h ^ l * (chs (t - l) (k - l) * mkS bs hs ^ (k - l) * (hs.sum - mkS bs hs) ^ (t - l - (k - l))) else 0 := by
        intro l hl
        have hlt : l ≤ t := by have := List.mem_range.mp hl; omega
        rw [List.map_map]
        rw [sum_congrL (g := fun s => chs t l * h ^ l * (if mkS bs s + l = k then wgtN hs s else 0)) fun s hs' => by have := e0 l hlt s hs'; rw [if_pos rfl] at this; exact this]
        rw [sum_mulL]
        by_cases q : l ≤ k
        · rw [if_pos q, ← sum_mark p h1' h2' (t - l) (k - l)]
          congr 2
          refine List.map_congr_left fun s _ => ?_
          by_cases z : mkS bs s + l = k
          · rw [if_pos z, if_pos (by omega)]
          · rw [if_neg z, if_neg (by omega)]
        · rw [if_neg q]
          rw [sum_congrL (g := fun _ => 0) fun s _ => if_neg (by omega), sum_zeroL, Nat.mul_zero]
      rw [sum_congrL e]
      by_cases hk : k ≤ t
      · rw [sum_short hk fun l h1 h2 => if_neg (by omega)]
        have e2 : ∀ l ∈ List.range (k + 1), (if l ≤ k then chs t l * h ^ l * (chs (t - l) (k - l) * mkS bs hs ^ (k - l) * (hs.sum - mkS bs hs) ^ (t - l - (k - l))) else 0) = chs t k * (hs.sum - mkS bs hs) ^ (t - k) * (chs k l * h ^ l * mkS bs hs ^ (k - l)) := by
          intro l hl
          have hlk : l ≤ k := by have := List.mem_range.mp hl; omega
          rw [if_pos hlk, show t - l - (k - l) = t - k by omega]
          have := chs_three hlk hk
          grind
        rw [sum_congrL e2, sum_mulL, binomN, Nat.add_comm h]
        grind
      · rw [chs_gt (show t < k by omega), Nat.zero_mul, Nat.zero_mul]
        rw [sum_congrL (g := fun _ => 0) fun l hl => ?_, sum_zeroL]
        have hlt : l ≤ t := by have := List.mem_range.mp hl; omega
        rw [if_pos (by omega), chs_gt (show t - l < k - l by omega)]
        simp
    | false =>
      rw [if_neg Bool.false_ne_true]
      simp only [Nat.add_zero]
      rw [show hs.sum + h - mkS bs hs = h + (hs.sum - mkS bs hs) by omega]
      have e : ∀ l ∈ List.range (t + 1), (((lotE (t - l) p).map fun s => s ++ [l]).map fun r => if mkS (bs ++ [false]) r = k then wgtN (hs ++ [h]) r else 0).sum = chs t l * h ^ l * (chs (t - l) k * mkS bs hs ^ k * (hs.sum - mkS bs hs) ^ (t - l - k)) := by
        intro l hl
        have hlt : l ≤ t := by have := List.mem_range.mp hl; omega
        rw [List.map_map]
        rw [sum_congrL (g := fun s => chs t l * h ^ l * (if mkS bs s = k then wgtN hs s else 0)) fun s hs' => by have := e0 l hlt s hs'; rw [if_neg Bool.false_ne_true, Nat.add_zero] at this; exact this]
        rw [sum_mulL, sum_mark p h1' h2' (t - l) k]
      rw [sum_congrL e]
      by_cases hk : k ≤ t
      · rw [sum_short (k := t - k) (by omega) fun l h1 h2 => by rw [chs_gt (show t - l < k by omega)]; simp]
        have e2 : ∀ l ∈ List.range (t - k + 1), chs t l * h ^ l * (chs (t - l) k * mkS bs hs ^ k * (hs.sum - mkS bs hs) ^ (t - l - k)) = chs t k * mkS bs hs ^ k * (chs (t - k) l * h ^ l * (hs.sum - mkS bs hs) ^ (t - k - l)) := by
          intro l hl
          have hlk : l ≤ t - k := by have := List.mem_range.mp hl; omega
          have a := chs_three (m := t) (k := l + k) (l := l) (by omega) (by omega)
          have b := chs_three (m := t) (k := l + k) (l := k) (by omega) (by omega)
          have c := chs_sub (n := l + k) (k := l) (by omega)
          rw [show l + k - l = k by omega] at a c
          rw [show l + k - k = l by omega] at b
          rw [show t - l - k = t - k - l by omega]
          have d : chs t l * chs (t - l) k = chs t k * chs (t - k) l := by rw [a, b, c]
          grind
        rw [sum_congrL e2, sum_mulL, binomN]
      · rw [chs_gt (show t < k by omega), Nat.zero_mul, Nat.zero_mul]
        rw [sum_congrL (g := fun _ => 0) fun l hl => ?_, sum_zeroL]
        have hlt : l ≤ t := by have := List.mem_range.mp hl; omega
        rw [chs_gt (show t - l < k by omega)]
        simp
/-- at least so many on marked atoms -/
theorem sum_marked {p : Nat} {hs : List Nat} {bs : List Bool} (h1 : hs.length = p) (h2 : bs.length = p) (t q : Nat) :
    ((lotE t p).map fun r => wgtN hs r * if q ≤ mkS bs r then 1 else 0).sum = ((List.range (t + 1)).map fun k => if q ≤ k then chs t k * mkS bs hs ^ k * (hs.sum - mkS bs hs) ^ (t - k) else 0).sum := by
  rw [sum_group (key := mkS bs) (C := List.range (t + 1)) (F := fun k r => wgtN hs r * if q ≤ k then 1 else 0) List.nodup_range fun r hr => ?_]
  · refine sum_congrL fun k _ => ?_
    by_cases hq : q ≤ k
    · simp only [if_pos hq]
      rw [← sum_mark p h1 h2 t k]
      generalize lotE t p = L
      induction L with
      | nil => rfl
      | cons x L ih =>
        rw [List.filter_cons, List.map_cons, List.sum_cons, ← ih]
        by_cases z : mkS bs x = k
        · simp [z]
        · simp [z]
    · rw [sum_congrL (g := fun _ => 0) fun r _ => by simp [hq], sum_zeroL, if_neg hq]
  · obtain ⟨q1, q2⟩ := mem_lotE.mp hr
    have := mkS_le bs r
    exact List.mem_range.mpr (by omega)
theorem drop_sum (f : Nat → Nat) : ∀ n q, q ≤ n → ((((List.range n).map f).drop q).sum = ((List.range n).map fun k => if q ≤ k then f k else 0).sum) := by
  intro n
  induction n with
  | zero => intro q hq; have : q = 0 := by omega
            subst this; rfl
  | succ n ih =>
    intro q hq
    by_cases z : q = n + 1
    · rw [List.drop_eq_nil_of_le (by simp [z])]
      rw [sum_congrL (g := fun _ => 0) fun k hk => if_neg (by have := List.mem_range.mp hk; omega), sum_zeroL]; rfl
    · rw [List.range_succ, List.map_append, List.map_append, List.drop_append_of_le_length (by simp; omega), List.sum_append, List.sum_append, ih q (by omega)]
      simp [show q ≤ n by omega]
/-! the lots of one lot among all -/
def subV : List Nat → Nat → List (List Nat × List Nat)
  | [], n => if n = 0 then [([], [])] else []
  | c :: cs, n => (List.range (c + 1)).flatMap fun x => if x ≤ n then (subV cs (n - x)).map fun y => (x :: y.1, (c - x) :: y.2) else []
theorem mem_subV : ∀ {cs : List Nat} {n : Nat} {y : List Nat × List Nat}, y ∈ subV cs n ↔ (y.1.length = cs.length ∧ y.1.sum = n) ∧ y.2.length = cs.length ∧ adL y.1 y.2 = cs
  | [], n, y => by
    unfold subV
    by_cases h : n = 0
    · subst h
      rw [if_pos rfl, List.mem_singleton]
      constructor
      · rintro rfl; exact ⟨⟨rfl, rfl⟩, rfl, rfl⟩
      · rintro ⟨⟨h1, _⟩, h2, _⟩
        exact Prod.ext (List.eq_nil_of_length_eq_zero h1) (List.eq_nil_of_length_eq_zero h2)
    · rw [if_neg h]
      constructor
      · intro z; cases z
      · rintro ⟨⟨h1, h2⟩, _⟩
        rw [List.eq_nil_of_length_eq_zero h1] at h2
        exact absurd h2.symm h
  | c :: cs, n, y => by
    unfold subV
    rw [List.mem_flatMap]
    constructor
    · rintro ⟨x, hx, h⟩
      have hx2 := List.mem_range.mp hx
      by_cases q : x ≤ n
      · rw [if_pos q] at h
        obtain ⟨z, hz, rfl⟩ := List.mem_map.mp h
        obtain ⟨⟨h1, h2⟩, h3, h4⟩ := mem_subV.mp hz
        refine ⟨⟨by simp [h1], by simp [h2]; omega⟩, by simp [h3], ?_⟩
        unfold adL at *
        rw [List.zipWith_cons_cons, h4]
        congr 1; omega
      · rw [if_neg q] at h; cases h
    · rintro ⟨⟨h1, h2⟩, h3, h4⟩
      obtain ⟨l, r⟩ := y
      cases l with
      | nil => simp at h1
      | cons x l =>
        cases r with
        | nil => simp at h3
        | cons z r =>
          have h4' : x + z = c ∧ adL l r = cs := by
            unfold adL at *
            simpa [List.zipWith_cons_cons] using h4
          have h2' : x + l.sum = n := by simpa using h2
          refine ⟨x, List.mem_range.mpr (by omega), ?_⟩
          rw [if_pos (by omega)]
          refine List.mem_map.mpr ⟨(l, r), mem_subV.mpr ⟨⟨by simpa using h1, by show l.sum = _; omega⟩, by simpa using h3, h4'.2⟩, ?_⟩
          rw [show c - x = z by omega]
theorem nodup_subV : ∀ (cs : List Nat) (n : Nat), (subV cs n).Nodup
  | [], n => by unfold subV; split <;> simp
  | c :: cs, n => by
    unfold subV
    refine nodup_flatMap List.nodup_range (fun x _ => ?_) (fun a _ b _ hab x hx hy => ?_)
    · split
      · refine List.pairwise_map.mpr (List.Pairwise.imp (fun {a b} h => ?_) (nodup_subV cs (n - x)))
        intro e
        simp only [Prod.mk.injEq, List.cons.injEq, true_and] at e
        exact h (Prod.ext e.1 e.2)
      · simp
    · split at hx
      · split at hy
        · obtain ⟨r, _, rfl⟩ := List.mem_map.mp hx
          obtain ⟨r', _, e⟩ := List.mem_map.mp hy
          simp only [Prod.mk.injEq, List.cons.injEq] at e
          exact hab e.1.1.symm
        · cases hy
      · cases hx
theorem nodup_pairs (n m p : Nat) : (pairs n m p).Nodup := by
  unfold pairs
  refine nodup_flatMap (nodup_lotE p n) (fun l _ => ?_) (fun a _ b _ hab x hx hy => ?_)
  · refine List.pairwise_map.mpr (List.Pairwise.imp (fun {a b} h => ?_) (nodup_lotE p m))
    intro e
    simp only [Prod.mk.injEq, true_and] at e
    exact h e
  · obtain ⟨r, _, rfl⟩ := List.mem_map.mp hx
    obtain ⟨r', _, e⟩ := List.mem_map.mp hy
    simp only [Prod.mk.injEq] at e
    exact hab e.1.symm
theorem sum_subV {n m p : Nat} {c : List Nat} (hc : c ∈ lotE (n + m) p) (f : List Nat × List Nat → Nat) : (((pairs n m p).filter fun x => decide (adL x.1 x.2 = c)).map f).sum = ((subV c n).map f).sum := by
  obtain ⟨h1, h2⟩ := mem_lotE.mp hc
  refine sum_perm (perm_of_mem ((nodup_pairs n m p).filter _) (nodup_subV c n) fun x => ?_) f
  rw [List.mem_filter, mem_pairs, mem_subV, decide_eq_true_eq, h1]
  constructor
  · rintro ⟨⟨⟨a, b⟩, d, e⟩, g⟩; exact ⟨⟨a, b⟩, d, g⟩
  · rintro ⟨⟨a, b⟩, d, g⟩
    have := adL_sum (l := x.1) (r := x.2) (by rw [a, d])
    rw [g, h2, b] at this
    exact ⟨⟨⟨a, b⟩, d, by omega⟩, g⟩
theorem lots_ge {n m p R : Nat} {hs : List Nat} (hl : hs.length = p) {g : List Nat → List Nat → Nat} (h : ∀ c ∈ lotE (n + m) p, R ≤ ((subV c n).map fun x => mulC x.1 x.2 * g x.1 x.2).sum) :
    R * hs.sum ^ (n + m) ≤ chs (n + m) n * ((lotE n p).map fun l => wgtN hs l * ((lotE m p).map fun r => wgtN hs r * g l r).sum).sum := by
  have := two_lots_ge (n := n) (m := m) (R := R) hl (g := g) fun c hc => by rw [sum_subV hc]; exact h c hc
  rw [sum_pairs n m p (fun l r => wgtN hs l * wgtN hs r * g l r)] at this
  refine Nat.le_trans this (Nat.le_of_eq ?_)
  congr 1
  refine sum_congrL fun l _ => ?_
  rw [← sum_mulL]
  exact sum_congrL fun r _ => Nat.mul_assoc _ _ _
end DL
/-! plain: draw by draw; weights moved to later atoms -/
namespace DL
open PySem PySem.Spec PyProof.Rows L2
def incL (r : List Nat) (a : Nat) : List Nat := r.set a (r.getD a 0 + 1)
def decL (r : List Nat) (a : Nat) : List Nat := r.set a (r.getD a 0 - 1)
theorem incL_len (r : List Nat) (a : Nat) : (incL r a).length = r.length := by unfold incL; simp
theorem decL_len (r : List Nat) (a : Nat) : (decL r a).length = r.length := by unfold decL; simp
theorem sum_set : ∀ {r : List Nat} {a : Nat} (x : Nat), a < r.length → (r.set a x).sum + r.getD a 0 = r.sum + x
  | [], a, x, h => by simp at h
  | y :: r, 0, x, h => by
    simp only [List.set_cons_zero, List.sum_cons, List.getD_cons_zero]; omega
  | y :: r, a + 1, x, h => by
    have := sum_set (r := r) (a := a) x (by simpa using h)
    simp only [List.set_cons_succ, List.sum_cons, List.getD_cons_succ]; omega
theorem incL_sum {r : List Nat} {a : Nat} (h : a < r.length) : (incL r a).sum = r.sum + 1 := by
  have := sum_set (r.getD a 0 + 1) h
  unfold incL; omega
theorem getD_le : ∀ {r : List Nat} {a : Nat}, r.getD a 0 ≤ r.sum
  | [], a => by simp
  | y :: r, 0 => by simp
  | y :: r, a + 1 => by
    have := getD_le (r := r) (a := a)
    simp only [List.getD_cons_succ, List.sum_cons]; omega
theorem decL_sum {r : List Nat} {a : Nat} (h : a < r.length) (h1 : 1 ≤ r.getD a 0) : (decL r a).sum + 1 = r.sum := by
  have := sum_set (r.getD a 0 - 1) h
  unfold decL; omega
theorem set_getD {r : List Nat} {a x : Nat} (h : a < r.length) : (r.set a x).getD a 0 = x := by
  rw [List.getD_eq_getElem?_getD, List.getElem?_set_self h]; rfl
theorem set_getD_ne {r : List Nat} {a b x : Nat} (h : a ≠ b) : (r.set a x).getD b 0 = r.getD b 0 := by
  rw [List.getD_eq_getElem?_getD, List.getElem?_set_ne h, List.getD_eq_getElem?_getD]
theorem setD_self {r : List Nat} {a : Nat} (h : a < r.length) : r.set a (r.getD a 0) = r := by
  refine List.ext_getElem? fun i => ?_
  by_cases e : a = i
  · subst e
    rw [List.getElem?_set_self h, List.getD_eq_getElem?_getD, List.getElem?_eq_getElem h]; rfl
  · rw [List.getElem?_set_ne e]
theorem dec_inc {r : List Nat} {a : Nat} (h : a < r.length) : decL (incL r a) a = r := by
  unfold decL incL
  rw [set_getD h, List.set_set]
  rw [show r.getD a 0 + 1 - 1 = r.getD a 0 by omega, setD_self h]
theorem inc_dec {r : List Nat} {a : Nat} (h : a < r.length) (h1 : 1 ≤ r.getD a 0) : incL (decL r a) a = r := by
  unfold decL incL
  rw [set_getD h, List.set_set]
  rw [show r.getD a 0 - 1 + 1 = r.getD a 0 by omega, setD_self h]
theorem inc_comm (r : List Nat) (a b : Nat) : incL (incL r a) b = incL (incL r b) a := by
  by_cases e : a = b
  · subst e; rfl
  · unfold incL
    rw [set_getD_ne e, set_getD_ne (fun z => e z.symm), List.set_comm _ _ e]
/-- sum over the places of a list -/
def sumIx (ot : List Nat) (g : Nat → Nat) : Nat := ((List.range ot.length).map fun a => ot.getD a 0 * g a).sum
theorem sumIx_snoc (ot : List Nat) (h : Nat) (g : Nat → Nat) : sumIx (ot ++ [h]) g = sumIx ot g + h * g ot.length := by
  unfold sumIx
  rw [List.length_append, List.length_singleton, List.range_succ, List.map_append, List.sum_append]
  congr 1
  · refine sum_congrL fun a ha => ?_
    have := List.mem_range.mp ha
    rw [List.getD_eq_getElem?_getD, List.getElem?_append_left this, List.getD_eq_getElem?_getD]
  · simp
theorem sumIx_le {ot : List Nat} {f g : Nat → Nat} (h : ∀ a, a < ot.length → f a ≤ g a) : sumIx ot f ≤ sumIx ot g := by
  unfold sumIx
  exact sum_leL fun a ha => Nat.mul_le_mul_left _ (h a (List.mem_range.mp ha))
theorem wgt_zero : ∀ {hs r : List Nat}, hs.length = r.length → r.sum = 0 → wgtN hs r = 1 := by
  intro hs r h h0
  generalize hp : r.length = p at h
  induction p generalizing hs r with
  | zero =>
    rw [List.eq_nil_of_length_eq_zero h, List.eq_nil_of_length_eq_zero hp]; rfl
  | succ p ih =>
    rcases List.eq_nil_or_concat hs with rfl | ⟨hs, x, rfl⟩
    · simp at h
    rcases List.eq_nil_or_concat r with rfl | ⟨r, y, rfl⟩
    · simp at hp
    rw [List.concat_eq_append] at *
    rw [List.concat_eq_append] at *
    rw [List.sum_append] at h0
    simp at h0 h hp
    rw [wgt_snoc (by omega), ih h0.1 hp (by omega), h0.2, h0.1]
    rfl
/-- the first draw -/
theorem wgt_rec : ∀ (p : Nat) {hs r : List Nat}, hs.length = p → r.length = p → 1 ≤ r.sum → wgtN hs r = sumIx hs fun a => if 1 ≤ r.getD a 0 then wgtN hs (decL r a) else 0
  | 0, hs, r, h1, h2, h3 => by rw [List.eq_nil_of_length_eq_zero h2] at h3; simp at h3
  | p + 1, hs, r, h1, h2, h3 => by
    rcases List.eq_nil_or_concat hs with rfl | ⟨hs, h, rfl⟩
    · simp at h1
    rcases List.eq_nil_or_concat r with rfl | ⟨r, x, rfl⟩
    · simp at h2
    rw [List.concat_eq_append] at *
    rw [List.concat_eq_append] at *
    have h1' : hs.length = p := by simpa using h1
    have h2' : r.length = p := by simpa using h2
    rw [sumIx_snoc, wgt_snoc (by omega)]
    have hlast : (r ++ [x]).getD hs.length 0 = x := by
      rw [List.getD_eq_getElem?_getD, h1', ← h2']; simp
    have hdlast : decL (r ++ [x]) hs.length = r ++ [x - 1] := by
      unfold decL
      rw [hlast, h1', ← h2', List.set_append_right _ _ (Nat.le_refl _), Nat.sub_self]; rfl
    have hinner : ∀ a, a < hs.length → (if 1 ≤ (r ++ [x]).getD a 0 then wgtN (hs ++ [h]) (decL (r ++ [x]) a) else 0) = (if 1 ≤ r.getD a 0 then wgtN hs (decL r a) else 0) * (chs (r.sum - 1 + x) x * h ^ x) := by
      intro a ha
      have e1 : (r ++ [x]).getD a 0 = r.getD a 0 := by
        rw [List.getD_eq_getElem?_getD, List.getElem?_append_left (by omega), List.getD_eq_getElem?_getD]
      rw [e1]
      by_cases q : 1 ≤ r.getD a 0
      · rw [if_pos q, if_pos q]
        have e2 : decL (r ++ [x]) a = decL r a ++ [x] := by
          unfold decL; rw [e1, List.set_append_left _ _ (by omega)]
        have hd := decL_sum (r := r) (a := a) (by omega) q
        rw [e2, wgt_snoc (by rw [decL_len]; omega), show (decL r a).sum = r.sum - 1 by omega]
        grind
      · rw [if_neg q, if_neg q, Nat.zero_mul]
    have hsum : sumIx hs (fun a => if 1 ≤ (r ++ [x]).getD a 0 then wgtN (hs ++ [h]) (decL (r ++ [x]) a) else 0) = sumIx hs (fun a => if 1 ≤ r.getD a 0 then wgtN hs (decL r a) else 0) * (chs (r.sum - 1 + x) x * h ^ x) := by
      unfold sumIx
      rw [Nat.mul_comm, ← sum_mulL]
      refine sum_congrL fun a ha => ?_
      show hs.getD a 0 * (if 1 ≤ (r ++ [x]).getD a 0 then wgtN (hs ++ [h]) (decL (r ++ [x]) a) else 0) = chs (r.sum - 1 + x) x * h ^ x * (hs.getD a 0 * (if 1 ≤ r.getD a 0 then wgtN hs (decL r a) else 0))
      rw [hinner a (List.mem_range.mp ha)]
      grind
    rw [hsum, hlast, hdlast]
    by_cases hs0 : r.sum = 0
    · have hx : 1 ≤ x := by rw [List.sum_append] at h3; simp at h3; omega
      have hz : sumIx hs (fun a => if 1 ≤ r.getD a 0 then wgtN hs (decL r a) else 0) = 0 := by
        unfold sumIx
        rw [sum_congrL (g := fun _ => 0) fun a _ => ?_, sum_zeroL]
        have := getD_le (r := r) (a := a)
        show hs.getD a 0 * (if 1 ≤ r.getD a 0 then wgtN hs (decL r a) else 0) = 0
        rw [if_neg (by omega), Nat.mul_zero]
      rw [hz, Nat.zero_mul, Nat.zero_add, if_pos hx, wgt_snoc (by omega), hs0, Nat.zero_add, Nat.zero_add, chs_self, chs_self]
      obtain ⟨y, rfl⟩ : ∃ y, x = y + 1 := ⟨x - 1, by omega⟩
      rw [Nat.add_sub_cancel, Nat.pow_succ]
      grind
    · rw [← wgt_rec p h1' h2' (by omega)]
      by_cases hx : 1 ≤ x
      · rw [if_pos hx, wgt_snoc (by omega)]
        obtain ⟨y, rfl⟩ : ∃ y, x = y + 1 := ⟨x - 1, by omega⟩
        obtain ⟨s, hs1⟩ : ∃ s, r.sum = s + 1 := ⟨r.sum - 1, by omega⟩
        rw [hs1, Nat.add_sub_cancel, Nat.add_sub_cancel, show s + 1 + (y + 1) = (s + (y + 1)) + 1 by omega, chs_succ, Nat.pow_succ, show s + 1 + y = s + (y + 1) by omega]
        grind
      · rw [if_neg hx, Nat.mul_zero, Nat.add_zero]
        have : x = 0 := by omega
        subst this
        rw [chs_zero, chs_zero]
        grind
def AM (ot : List Nat) : Nat → (List Nat → Nat) → Nat
  | 0, ψ => ψ (List.replicate ot.length 0)
  | m + 1, ψ => sumIx ot fun a => AM ot m fun r => ψ (incL r a)
theorem sum_filter_if {α : Type} (p : α → Bool) (f : α → Nat) : ∀ L : List α, (L.map fun x => if p x = true then f x else 0).sum = ((L.filter p).map f).sum
  | [] => rfl
  | x :: L => by
    rw [List.map_cons, List.sum_cons, sum_filter_if p f L, List.filter_cons]
    by_cases q : p x = true
    · rw [if_pos q, if_pos q]; rfl
    · rw [if_neg q, if_neg q]; omega
theorem lot_dec {m p a : Nat} (ha : a < p) (f : List Nat → Nat) : ((lotE (m + 1) p).map fun r => if 1 ≤ r.getD a 0 then f r else 0).sum = ((lotE m p).map fun r => f (incL r a)).sum := by
  have h1 := sum_filter_if (fun r : List Nat => decide (1 ≤ r.getD a 0)) f (lotE (m + 1) p)
  have h1' : ((lotE (m + 1) p).map fun r => if 1 ≤ r.getD a 0 then f r else 0).sum = (((lotE (m + 1) p).filter fun r : List Nat => decide (1 ≤ r.getD a 0)).map f).sum := by
    rw [← h1]
    refine sum_congrL fun r _ => ?_
    by_cases q : 1 ≤ r.getD a 0
    · rw [if_pos q, if_pos (decide_eq_true q)]
    · rw [if_neg q, if_neg (by simpa using q)]
  rw [h1']
  have h2 : ((lotE m p).map fun r => f (incL r a)) = (((lotE m p).map fun r => incL r a).map f) := by rw [List.map_map]; rfl
  rw [h2]
  refine sum_perm (perm_of_mem ((nodup_lotE p (m + 1)).filter _) ?_ fun r => ?_) f
  · refine List.pairwise_map.mpr (List.Pairwise.imp_of_mem (fun {x y} hx hy h => ?_) (nodup_lotE p m))
    intro e
    have e1 : decL (incL x a) a = decL (incL y a) a := by rw [show incL x a = incL y a from e]
    rw [dec_inc (by rw [(mem_lotE.mp hx).1]; exact ha), dec_inc (by rw [(mem_lotE.mp hy).1]; exact ha)] at e1
    exact h e1
  · rw [List.mem_filter, List.mem_map, mem_lotE, decide_eq_true_eq]
    constructor
    · rintro ⟨⟨l1, l2⟩, h⟩
      have := decL_sum (r := r) (a := a) (by omega) h
      exact ⟨decL r a, mem_lotE.mpr ⟨by rw [decL_len]; exact l1, by omega⟩, inc_dec (by omega) h⟩
    · rintro ⟨x, hx, rfl⟩
      obtain ⟨l1, l2⟩ := mem_lotE.mp hx
      refine ⟨⟨by rw [incL_len]; exact l1, by rw [incL_sum (by omega)]; omega⟩, ?_⟩
      unfold incL
      rw [set_getD (by omega)]; omega
theorem sum_AM {p : Nat} {ot : List Nat} (hl : ot.length = p) : ∀ (m : Nat) (ψ : List Nat → Nat), ((lotE m p).map fun r => wgtN ot r * ψ r).sum = AM ot m ψ
  | 0, ψ => by
    have hp : (lotE 0 p).Perm [List.replicate p 0] := perm_of_mem (nodup_lotE p 0) (by simp) fun x => by
      rw [mem_lotE, List.mem_singleton]
      constructor
      · rintro ⟨h1, h2⟩
        refine List.eq_replicate_iff.mpr ⟨h1, fun b hb => ?_⟩
        have : b ≤ x.sum := by
          obtain ⟨i, hi, e⟩ := List.getElem_of_mem hb
          have := getD_le (r := x) (a := i)
          rw [List.getD_eq_getElem?_getD, List.getElem?_eq_getElem hi] at this
          simp at this; omega
        omega
      · rintro rfl; simp
    rw [sum_perm hp]
    show wgtN ot (List.replicate p 0) * ψ (List.replicate p 0) + 0 = ψ (List.replicate ot.length 0)
    rw [wgt_zero (by simp [hl]) (by simp), hl]; omega
  | m + 1, ψ => by
    have e : ∀ r ∈ lotE (m + 1) p, wgtN ot r * ψ r = ((List.range p).map fun a => ot.getD a 0 * (if 1 ≤ r.getD a 0 then wgtN ot (decL r a) * ψ r else 0)).sum := by
      intro r hr
      obtain ⟨l1, l2⟩ := mem_lotE.mp hr
      rw [wgt_rec p hl l1 (by omega)]
      unfold sumIx
      rw [hl, Nat.mul_comm, ← sum_mulL]
      refine sum_congrL fun a _ => ?_
      show ψ r * (ot.getD a 0 * if 1 ≤ r.getD a 0 then wgtN ot (decL r a) else 0) = ot.getD a 0 * (if 1 ≤ r.getD a 0 then wgtN ot (decL r a) * ψ r else 0)
      by_cases q : 1 ≤ r.getD a 0
      · rw [if_pos q, if_pos q]; grind
      · rw [if_neg q, if_neg q]; simp
    rw [sum_congrL e]
    have sw : ∀ (A : List (List Nat)) (B : List Nat) (f : List Nat → Nat → Nat), (A.map fun x => (B.map fun y => f x y).sum).sum = (B.map fun y => (A.map fun x => f x y).sum).sum := by
      intro A B f
      induction A with
      | nil => simp only [List.map_nil, List.sum_nil, sum_zeroL]
      | cons x A ih => rw [List.map_cons, List.sum_cons, ih, ← sum_addL]; rfl
    rw [sw]
    show _ = sumIx ot fun a => AM ot m fun r => ψ (incL r a)
    unfold sumIx
    rw [hl]
    refine sum_congrL fun a ha => ?_
    have ha' := List.mem_range.mp ha
    rw [sum_mulL, lot_dec ha' fun r => wgtN ot (decL r a) * ψ r]
    congr 1
    show _ = AM ot m fun r => ψ (incL r a)
    rw [← sum_AM hl m fun r => ψ (incL r a)]
    refine sum_congrL fun r hr => ?_
    rw [dec_inc (by rw [(mem_lotE.mp hr).1]; exact ha')]
theorem AM_le {ot : List Nat} : ∀ {m : Nat} {ψ χ : List Nat → Nat}, (∀ r, r.length = ot.length → r.sum = m → ψ r ≤ χ r) → AM ot m ψ ≤ AM ot m χ
  | 0, ψ, χ, h => h _ (by simp) (by simp)
  | m + 1, ψ, χ, h => sumIx_le fun a ha => AM_le fun r h1 h2 => h _ (by rw [incL_len]; exact h1) (by rw [incL_sum (by omega)]; omega)
def Later (ot ot' : List Nat) : Prop := ot'.length = ot.length ∧ ∀ g : Nat → Nat, (∀ a, a + 1 < ot.length → g a ≤ g (a + 1)) → sumIx ot g ≤ sumIx ot' g
theorem AM_later {ot ot' : List Nat} (hL : Later ot ot') : ∀ {m : Nat} {ψ : List Nat → Nat}, (∀ r a, r.length = ot.length → r.sum + 1 = m → a + 1 < ot.length → ψ (incL r a) ≤ ψ (incL r (a + 1))) → AM ot m ψ ≤ AM ot' m ψ
  | 0, ψ, _ => by show ψ _ ≤ ψ _; rw [hL.1]; exact Nat.le_refl _
  | m + 1, ψ, h => by
    have h1 : sumIx ot (fun a => AM ot m fun r => ψ (incL r a)) ≤ sumIx ot (fun a => AM ot' m fun r => ψ (incL r a)) :=
      sumIx_le fun a ha => AM_later hL fun r b l1 l2 hb => by
        rw [inc_comm r b a, inc_comm r (b + 1) a]
        exact h (incL r a) b (by rw [incL_len]; exact l1) (by rw [incL_sum (by omega)]; omega) hb
    refine Nat.le_trans h1 (hL.2 _ fun a ha => ?_)
    refine AM_le fun r l1 l2 => h r a (by rw [l1, hL.1]) (by omega) ha
end DL
namespace DL
open PySem PySem.Spec PyProof.Rows L2
section
variable {δ : DE} {a b : Ar} {xs : List D} {k : Int}
theorem exMN {P : List D → Int → Prop} (h1 : rsl δ a = some (.lst xs)) (h2 : rsl δ b = some (.int k)) (c : -(2 ^ 63) ≤ k ∧ k < 2 ^ 63 ∧ xs.length * k.toNat ≤ sizeLine) (p : P xs k) : ∃ xs k, rsl δ a = some (.lst xs) ∧ rsl δ b = some (.int k) ∧ (-(2 ^ 63) ≤ k ∧ k < 2 ^ 63 ∧ xs.length * k.toNat ≤ sizeLine) ∧ P xs k := ⟨xs, k, h1, h2, c, p⟩
end
end DL
namespace DL
open PySem PySem.Spec PyProof.Rows L2 RT
/-! reversed -/
theorem walk_revL {K : PySem.W.Frag} {ms : List Addr} {H : Hp} {a : Addr} {us : List V} {ds : List D} (hs : SqL K (mask H ms) a us) (ha : DvAll K (mask H ms) us ds) : WalkOk K (Itv K a us.length) ms H ds.reverse := by
  intro i ms2 H2 ex hm
  have s2 : SqL K H2 a us := mask_sub.seq (ex.same.seq hs)
  have a2 : DvAll K (mask H2 ms2) us ds := ha.mono ex.same
  have hlen := ha.length
  refine ⟨fun d hd => ?_, fun hl => ?_⟩
  · have hi : i < ds.length := by have := (List.getElem?_eq_some_iff.mp hd).1; simpa using this
    rw [List.getElem?_reverse hi, ← hlen] at hd
    obtain ⟨v, hv, dv⟩ := a2.get hd
    refine ⟨⟨by omega, us, v, s2, hv⟩, fun x H3 y => ?_⟩
    obtain ⟨rfl, hx⟩ := y
    have := hx us s2
    rw [hv] at this
    cases this
    exact ⟨Same.refl _, dv⟩
  · show us.length ≤ i
    rw [List.length_reverse] at hl
    omega
theorem walk_revT {K : PySem.W.Frag} {ms : List Addr} {H : Hp} {a : Addr} {us : List V} {ds : List D} (hs : SqT K (mask H ms) a us) (ha : DvAll K (mask H ms) us ds) : WalkOk K (ItvT K a us.length) ms H ds.reverse := by
  intro i ms2 H2 ex hm
  have s2 : SqT K H2 a us := Same.seqT mask_sub (Same.seqT ex.same hs)
  have a2 : DvAll K (mask H2 ms2) us ds := ha.mono ex.same
  have hlen := ha.length
  refine ⟨fun d hd => ?_, fun hl => ?_⟩
  · have hi : i < ds.length := by have := (List.getElem?_eq_some_iff.mp hd).1; simpa using this
    rw [List.getElem?_reverse hi, ← hlen] at hd
    obtain ⟨v, hv, dv⟩ := a2.get hd
    refine ⟨⟨by omega, us, v, s2, hv⟩, fun x H3 y => ?_⟩
    obtain ⟨rfl, hx⟩ := y
    have := hx us s2
    rw [hv] at this
    cases this
    exact ⟨Same.refl _, dv⟩
  · show us.length ≤ i
    rw [List.length_reverse] at hl
    omega
def revI (f : EO) : EI := fun δ => (f δ).bind fun (a, δ1) => (frz a δ1).bind fun (d, δ2) => (sqD d).map fun xs => (xs.reverse, δ2)
section
variable {X : Cx} {G : Gm} {e tg : Expr} {f : EO} {pos p : Pos}
theorem di_rev (he : PE X e (tO X.K G f)) (hg : Gl X "reversed") (hm : X.mg "reversed" = none) (hs : starEach [e] X.env = (false, eval e X.env) :: starEach [] X.env := by rfl) : PI X tg (.Call (.Name "reversed" p) [e] [] pos) (tI X.K G (revI f)) := PI.imp (pi_revA hg hm he hs) fun σ H R q => by
  obtain ⟨ms, δ, ds, δ', Rr, e, k⟩ := q
  unfold revI at e
  cases q : f δ with
  | none => rw [q] at e; cases e
  | some r =>
    obtain ⟨a, δ1⟩ := r
    cases q2 : frz a δ1 with
    | none => simp only [q, Option.bind_some, q2] at e; cases e
    | some r2 =>
      obtain ⟨d, δ2⟩ := r2
      cases q3 : sqD d with
      | none => simp only [q, Option.bind_some, q2, q3] at e; cases e
      | some xs =>
        simp only [q, Option.bind_some, q2, q3] at e
        cases e
        refine ⟨ms, δ, a, δ1, Rr, q, fun v H1 m1 R1 e1 h1 => ?_⟩
        obtain ⟨m2, R2, e2, d2⟩ := frz_ok R1 h1 q2
        obtain ⟨k1, a1, us1, rfl, hs1, ha1⟩ := dv_sq d2 q3
        cases k1 with
        | true => exact ⟨_, us1, rfl, .inl ⟨hs1.un, k _ _ m2 R2 (e1.trans e2) (walk_revL hs1 ha1)⟩⟩
        | false => exact ⟨_, us1, rfl, .inr ⟨hs1.un, k _ _ m2 R2 (e1.trans e2) (walk_revT hs1 ha1)⟩⟩
end
section
variable {δ : DE} {f : EO} {PN : List D → DE → Prop}
theorem w_rev (h : W f δ fun a δ1 => ∃ d δ2 xs, frz a δ1 = some (d, δ2) ∧ sqD d = some xs ∧ PN xs.reverse δ2) : W (revI f) δ PN := by
  obtain ⟨a, δ1, e, d, δ2, xs, e2, e3, p⟩ := h
  exact ⟨_, _, by unfold revI; simp only [e, Option.bind_some, e2, e3, Option.map_some], p⟩
theorem exRv {a : Ar} {d : D} {δ2 : DE} {xs : List D} {P : List D → DE → Prop} (h1 : frz a δ = some (d, δ2)) (h2 : sqD d = some xs) (p : P xs δ2) : ∃ d δ2 xs, frz a δ = some (d, δ2) ∧ sqD d = some xs ∧ P xs δ2 := ⟨d, δ2, xs, h1, h2, p⟩
end
/-! pop(i) -/
section
variable {X : Cx} {G : Gm} {e : Expr} {fa : EA} {i : Nat} {x : Str} {px apos cpos : Pos}
theorem do_popAt (ha : PA X [e] (tAr X.K G fa)) (hN : X.N[i]? = some x := by rfl) (hv : Vis X.env.scope x := by first | exact Or.inl rfl | exact Or.inr (Or.inl rfl) | exact Or.inr (Or.inr rfl)) (hd : (x == ("__debug__" : Str)) = false := by decide) (hcd : (x == ("__classdict__" : Str)) = false := by decide)
    (hbase : attributeBase (.Name x px) "pop" X.env (eval (.Name x px) X.env) = eval (.Name x px) X.env := by rfl)
    (hfew : ((backTo cpos (starEach [e] X.env)).all (fun x => !x.1) && (backToKw cpos (keywordEach [] X.env)).all (fun x => x.1.isSome)
      && decide (([e] : List Expr).length + ([] : List Keyword).length + (if ([] : List Keyword).isEmpty then 0 else 1) < 30)) = true := by rfl)
    (hline : (apos.endLine == cpos.line) = true := by rfl) (hs : starEach [e] X.env = (false, eval e X.env) :: starEach [] X.env := by rfl) (hplain : (backTo cpos (starEach [] X.env)).any (·.1) = false := by rfl) :
    PE X (.Call (.Attribute (.Name x px) "pop" apos) [e] [] cpos) (tO X.K G (mutO i fa popAtM)) :=
  do_mut PySem.F.slot_list_pop PySem.F.type_list_pop mt_popAt spec_popAt ha hN hv hd hcd hbase hfew hline hs hplain
end
end DL
namespace DL
open PySem PySem.Spec PyProof.Rows L2
/-! a list of one's own, handed on for good -/
section
variable {δ : DE} {f : EO} {P : Ar → DE → Prop}
theorem w_fF (h : W f δ fun a δ1 => ∃ d δ2, frz a δ1 = some (d, δ2) ∧ P (.d d) δ2) : W (fF f) δ P := by
  obtain ⟨a, δ1, e, d, δ2, e2, p⟩ := h
  exact ⟨_, _, by unfold fF; simp only [e, Option.bind_some, e2], p⟩
end
end DL
/-! fractions as rational numbers -/
namespace DL
open PySem PySem.Spec PyProof.Rows L2
def qp (x : Rat) : Int × Int := (x.num, (x.den : Int))
def qR (x : Rat) : D := qD (qp x)
theorem den_pos (x : Rat) : (0 : Int) < (x.den : Int) := by have := x.den_pos; omega
theorem qp_cop (x : Rat) : Int.gcd (qp x).1 (qp x).2 = 1 := by
  have := x.reduced
  unfold qp
  simpa [Int.gcd] using this
theorem rat_eq (x : Rat) : x = (x.num : Rat) / ((x.den : Int) : Rat) := by
  have := Rat.mkRat_eq_div x.num x.den
  rw [Rat.mkRat_self] at this
  exact_mod_cast this
/-- a fraction in lowest terms is the number's own -/
theorem qp_of {n m : Int} (hm : 0 < m) (hg : Int.gcd n m = 1) : qp ((n : Rat) / (m : Rat)) = (n, m) := by
  obtain ⟨k, rfl⟩ := Int.eq_ofNat_of_zero_le (show 0 ≤ m by omega)
  have h0 : k ≠ 0 := by omega
  have hc : n.natAbs.Coprime k := by
    have : Int.gcd n (k : Int) = n.natAbs.gcd k := by simp [Int.gcd]
    rw [this] at hg; exact hg
  have e : ((n : Rat) / ((k : Int) : Rat)) = Rat.mk' n k h0 hc := by
    have h := rat_eq (Rat.mk' n k h0 hc)
    exact h.symm
  rw [e]; rfl
theorem redq_R {a b : Int} (hb : 0 < b) : redQ a b = qp ((a : Rat) / (b : Rat)) := by
  have h := red_cross a b
  have h1 := red_pos2 (A := a) hb
  have h2 := red_cop (A := a) hb
  generalize redQ a b = p at *
  rw [show p = (p.1, p.2) from rfl, ← qp_of h1 h2]
  congr 1
  have h3 : (p.1 : Rat) * (b : Rat) = (a : Rat) * (p.2 : Rat) := by exact_mod_cast h
  have hb' : (b : Rat) ≠ 0 := by
    intro e; have : b = 0 := by exact_mod_cast e
    omega
  have hp' : (p.2 : Rat) ≠ 0 := by
    intro e; have : p.2 = 0 := by exact_mod_cast e
    omega
  grind
theorem qp_red (x : Rat) : redQ x.num (x.den : Int) = qp x := by
  rw [redq_R (den_pos x), ← rat_eq]
/-- from any two whole numbers that stand for it -/
theorem redq_of {a b : Int} {x : Rat} (hb : 0 < b) (h : (a : Rat) = x * (b : Rat)) : redQ a b = qp x := by
  rw [redq_R hb]
  congr 1
  have hb' : (b : Rat) ≠ 0 := by
    intro e; have : b = 0 := by exact_mod_cast e
    omega
  grind
theorem num_eq (x : Rat) : (x.num : Rat) = x * ((x.den : Int) : Rat) := by
  have h := rat_eq x
  have hb' : ((x.den : Int) : Rat) ≠ 0 := by
    intro e
    have h0 : (x.den : Int) = 0 := by exact_mod_cast e
    have := den_pos x; omega
  grind
theorem red_add (x y : Rat) : redQ (x.num * (y.den : Int) + y.num * (x.den : Int)) ((x.den : Int) * (y.den : Int)) = qp (x + y) := by
  refine redq_of (Int.mul_pos (den_pos x) (den_pos y)) ?_
  have h1 := num_eq x
  have h2 := num_eq y
  push_cast at *
  grind
theorem red_sub (x y : Rat) : redQ (x.num * (y.den : Int) - y.num * (x.den : Int)) ((x.den : Int) * (y.den : Int)) = qp (x - y) := by
  refine redq_of (Int.mul_pos (den_pos x) (den_pos y)) ?_
  have h1 := num_eq x
  have h2 := num_eq y
  push_cast at *
  grind
theorem red_mul (x y : Rat) : redQ (x.num * y.num) ((x.den : Int) * (y.den : Int)) = qp (x * y) := by
  refine redq_of (Int.mul_pos (den_pos x) (den_pos y)) ?_
  have h1 := num_eq x
  have h2 := num_eq y
  push_cast at *
  grind
theorem num_nonneg {x : Rat} : 0 ≤ x.num ↔ 0 ≤ x := Rat.num_nonneg
theorem num_neg {x : Rat} : x.num < 0 ↔ x < 0 := by
  have h := num_nonneg (x := x)
  constructor
  · intro h1
    exact Rat.not_le.mp fun h2 => by have := h.mpr h2; omega
  · intro h1
    by_cases h2 : 0 ≤ x.num
    · have := h.mp h2; grind
    · omega
theorem num_zero {x : Rat} : x.num = 0 ↔ x = 0 := by
  have h := num_eq x
  constructor
  · intro e
    have hb' : ((x.den : Int) : Rat) ≠ 0 := by
      intro e
      have h0 : (x.den : Int) = 0 := by exact_mod_cast e
      have := den_pos x; omega
    rw [e] at h
    have h0 : (0 : Rat) = x * ((x.den : Int) : Rat) := by exact_mod_cast h
    grind
  · intro e; rw [e]; rfl
theorem num_pos {x : Rat} : 0 < x.num ↔ 0 < x := by
  have h1 := num_nonneg (x := x)
  have h2 := num_zero (x := x)
  constructor
  · intro h
    have a := h1.mp (by omega)
    have b : x ≠ 0 := fun e => by have := h2.mpr e; omega
    grind
  · intro h
    have a := h1.mpr (by grind)
    have b : x.num ≠ 0 := fun e => by have := h2.mp e; grind
    omega
/-! bounds of both numbers -/
structure Rz (n : Nat) (x : Rat) : Prop where
  b1 : Bd x.num n
  b2 : Bd (x.den : Int) n
theorem Rz.mono {m n : Nat} {x : Rat} (h : Rz m x) (hn : m ≤ n) : Rz n x := ⟨bd_mono h.b1 hn, bd_mono h.b2 hn⟩
theorem rz_of {a b : Int} {n : Nat} {x : Rat} (hb : 0 < b) (h1 : Bd a n) (h2 : Bd b n) (e : redQ a b = qp x) : Rz n x := by
  have s := sq_red hb h1 h2
  rw [e] at s
  exact ⟨s.b1, s.b2⟩
theorem Rz.add {m n : Nat} {x y : Rat} (hx : Rz m x) (hy : Rz n y) : Rz (m + n + 1) (x + y) :=
  rz_of (Int.mul_pos (den_pos x) (den_pos y)) (bd_mono (bd_add1 (bd_mul hx.b1 hy.b2) (bd_mul hy.b1 hx.b2)) (by omega)) (bd_mono (bd_mul hx.b2 hy.b2) (by omega)) (red_add x y)
theorem Rz.sub {m n : Nat} {x y : Rat} (hx : Rz m x) (hy : Rz n y) : Rz (m + n + 1) (x - y) :=
  rz_of (Int.mul_pos (den_pos x) (den_pos y)) (bd_mono (by rw [Int.sub_eq_add_neg]; exact bd_add1 (bd_mul hx.b1 hy.b2) (bd_neg (bd_mul hy.b1 hx.b2))) (show max (m + n) (n + m) + 1 ≤ m + n + 1 by omega)) (bd_mono (bd_mul hx.b2 hy.b2) (by omega)) (red_sub x y)
theorem Rz.mul {m n : Nat} {x y : Rat} (hx : Rz m x) (hy : Rz n y) : Rz (m + n) (x * y) :=
  rz_of (Int.mul_pos (den_pos x) (den_pos y)) (bd_mul hx.b1 hy.b1) (bd_mul hx.b2 hy.b2) (red_mul x y)
theorem rz_int {i : Int} {n : Nat} (h : Bd i n) (hn : 1 ≤ n) : Rz n (i : Rat) := by
  have e : qp (i : Rat) = (i, 1) := by
    have := qp_of (n := i) (m := 1) (by decide) (by simp [Int.gcd])
    rw [← this]; congr 1; grind
  refine ⟨?_, ?_⟩
  · rw [show (i : Rat).num = i from congrArg Prod.fst e]; exact h
  · rw [show (((i : Rat).den : Int)) = 1 from congrArg Prod.snd e]
    exact bd_mono (bd_lit 1 1 (Nat.le_refl 1) (by decide)) hn
theorem rz_frac {a b : Int} {n : Nat} (hb : 0 < b) (h1 : Bd a n) (h2 : Bd b n) : Rz n ((a : Rat) / (b : Rat)) := rz_of hb h1 h2 (redq_R hb)
theorem qR_int (i : Int) : qR (i : Rat) = .tup [.int i, .int 1] := by
  have e : qp (i : Rat) = (i, 1) := by
    have := qp_of (n := i) (m := 1) (by decide) (by simp [Int.gcd])
    rw [← this]; congr 1; grind
  unfold qR; rw [e]; rfl
theorem qR_zero : qR 0 = .tup [.int 0, .int 1] := qR_int 0
theorem qR_one : qR 1 = .tup [.int 1, .int 1] := qR_int 1
/-- below -/
theorem lt_R (x y : Rat) : lt (qp x) (qp y) = decide (x < y) := by
  unfold lt qp
  have h1 := num_eq x
  have h2 := num_eq y
  have p1 := den_pos x
  have p2 := den_pos y
  have e : (x.num * (y.den : Int) < y.num * (x.den : Int)) ↔ x < y := by
    have hp : (0 : Rat) < ((x.den : Int) : Rat) := by exact_mod_cast p1
    have hq : (0 : Rat) < ((y.den : Int) : Rat) := by exact_mod_cast p2
    have hpq : (0 : Rat) < ((x.den : Int) : Rat) * ((y.den : Int) : Rat) := Rat.mul_pos hp hq
    have l : ((x.num * (y.den : Int) : Int) : Rat) = x * (((x.den : Int) : Rat) * ((y.den : Int) : Rat)) := by push_cast at *; grind
    have r : ((y.num * (x.den : Int) : Int) : Rat) = y * (((x.den : Int) : Rat) * ((y.den : Int) : Rat)) := by push_cast at *; grind
    rw [← Rat.intCast_lt_intCast, l, r]
    constructor
    · intro h; exact (Rat.mul_lt_mul_right hpq).mp h
    · intro h; exact (Rat.mul_lt_mul_right hpq).mpr h
  by_cases h : x < y
  · rw [decide_eq_true h, decide_eq_true (e.mpr h)]
  · rw [decide_eq_false h, decide_eq_false (fun z => h (e.mp z))]
theorem qp_inj {x y : Rat} (h : qp x = qp y) : x = y := by
  have h1 : x.num = y.num := congrArg Prod.fst h
  have h2 : (x.den : Int) = (y.den : Int) := congrArg Prod.snd h
  rw [rat_eq x, rat_eq y, h1, h2]
end DL
/-! a range as a value, walked as often as one likes -/
namespace DL
open PySem PySem.Spec PyProof.Rows L2
section
variable {X : Cx} {G : Gm} {tg a e : Expr} {f : EO} {fr : ER} {p pos : Pos} {fa : EA}
/-- range(j) -/
theorem cr_range1 : CallR X (.type "range") (fun vs H Q => ∃ j, vs = [V.int j] ∧ ∀ p, H p = none → Q (.ref p) (upd H p (.rng 0 j))) := by
  intro pins s σ H vs us Q I r h
  obtain ⟨j, rfl, q⟩ := h
  obtain ⟨u1, rfl, ri⟩ := vals1 r
  obtain ⟨t, rfl⟩ := ri
  refine call_range_1 ⟨.ref s.heap.objs.size, upd H s.heap.objs.size (.rng 0 j), I.laid (t' := s.toks + 2) (fun b o e => Heap.get?_push_of_some _ e) (Nat.le_refl _) ?_, rfl, q _ (I.hok.fresh (Nat.le_refl _))⟩
  exact ⟨_, _, _, Heap.get?_push_size _ rfl⟩
def rgD : OpN := fun ds => match ds with
  | [.int j] => if j.natAbs ≤ 100000 then some (.rg 0 j) else none
  | _ => none
theorem spec_rg {K : PySem.W.Frag} : SpecN K (fun vs H Q => ∃ j, vs = [V.int j] ∧ ∀ p, H p = none → Q (.ref p) (upd H p (.rng 0 j))) rgD := fun ms H vs ds d Q h hm e k => by
  unfold rgD at e
  split at e
  · rename_i j
    obtain ⟨v, rfl, t⟩ := top1 h
    obtain rfl := t.int
    split at e
    · cases e
      refine ⟨j, rfl, fun p hp => ?_⟩
      exact k _ _ (same_upd hp) (.rg (mask_some.mpr ⟨fun q => hm p q hp, upd_same⟩))
    · cases e
  · cases e
/-- a name that holds a range, walked -/
def iRg (tl : TE) : TI := fun σ H R => tl σ H fun x H1 => ∃ a lo hi, x = .ref a ∧ H1 a = some (.rng lo hi) ∧ (-(2 ^ 62) ≤ lo ∧ lo < 2 ^ 62 ∧ -(2 ^ 62) ≤ hi ∧ hi < 2 ^ 62) ∧ R (Itr lo (hi - lo).toNat) H1
theorem pi_rgv {l : Expr} {tl : TE} (hl : PE X l tl) : PI X tg l (iRg tl) := by
  refine ⟨fun pins s σ H R I h => ?_⟩
  refine thn (hl.run pins s σ H _ I h) fun v s1 ⟨x, H1, I1, r1, q1⟩ => ?_
  obtain ⟨a, lo, hi, e, hq, ⟨h1, h2, h3, h4⟩, q⟩ := q1
  subst e
  cases r1
  obtain ⟨t, u, w, hg⟩ := I1.hok _ _ hq
  refine wpAny_pyIter_range (show IsRange s1.heap a lo hi 1 t u w from hg) (small_one h1 h2 h3 h4) ?_
  refine ⟨s1.heap.objs.size, [s1.heap.objs.size], _, _, H1, rfl, I1.kept (t' := s1.toks) fun b o e => Heap.get?_push_of_some _ e, turn_range _ lo (hi - lo).toNat, ?_, fun b hb => ?_, q⟩
  · have e1 : lo + ((0 : Nat) : Int) * 1 = lo := by simp
    have e2 : (((hi - lo).toNat : Nat) : Int) - ((0 : Nat) : Int) = Builtin.Range.rangeSize lo hi 1 := by rw [rangeSize_one]; split <;> omega
    show IsRangeIter _ _ (lo + ((0 : Nat) : Int) * 1) ((((hi - lo).toNat : Nat) : Int) - ((0 : Nat) : Int)) 1
    rw [e1, e2]
    exact Heap.get?_push_size _ rfl
  · have e : b = s1.heap.objs.size := by simpa using hb
    subst e
    exact I1.fpOk (Nat.le_refl _) (I1.hok.fresh (Nat.le_refl _))
def rgvI (f : EO) : EI := fun δ => (f δ).bind fun (a, δ1) => (frz a δ1).bind fun (d, δ2) => match d with
  | .rg lo hi => if lo.natAbs ≤ 100000 ∧ hi.natAbs ≤ 100000 then some (rngD lo (hi - lo).toNat, δ2) else none
  | _ => none
theorem di_rgv (he : PE X e (tO X.K G f)) : PI X tg e (tI X.K G (rgvI f)) := PI.imp (pi_rgv he) fun σ H R q => by
  obtain ⟨ms, δ, ds, δ', Rr, e, k⟩ := q
  unfold rgvI at e
  cases q : f δ with
  | none => rw [q] at e; cases e
  | some r =>
    obtain ⟨a, δ1⟩ := r
    cases q2 : frz a δ1 with
    | none => simp only [q, Option.bind_some, q2] at e; cases e
    | some r2 =>
      obtain ⟨d, δ2⟩ := r2
      simp only [q, Option.bind_some, q2] at e
      split at e
      · rename_i lo hi
        split at e
        · rename_i hb
          cases e
          refine ⟨ms, δ, a, δ1, Rr, q, fun v H1 m1 R1 e1 h1 => ?_⟩
          obtain ⟨m2, R2, e2, d2⟩ := frz_ok R1 h1 q2
          cases d2 with
          | rg hs => exact ⟨_, lo, hi, rfl, mask_sub _ _ hs, ⟨by omega, by omega, by omega, by omega⟩, k _ _ m2 R2 (e1.trans e2) walk_range⟩
        · cases e
      · cases e
end
section
variable {δ : DE} {f : EO} {PN : List D → DE → Prop}
theorem w_rgv (h : W f δ fun a δ1 => ∃ lo hi δ2, frz a δ1 = some (.rg lo hi, δ2) ∧ (lo.natAbs ≤ 100000 ∧ hi.natAbs ≤ 100000) ∧ PN (rngD lo (hi - lo).toNat) δ2) : W (rgvI f) δ PN := by
  obtain ⟨a, δ1, e, lo, hi, δ2, e2, hb, p⟩ := h
  exact ⟨_, _, by unfold rgvI; simp only [e, Option.bind_some, e2]; rw [if_pos hb], p⟩
theorem exRg {δ2 : DE} {a : Ar} {lo hi : Int} {P : Int → Int → DE → Prop} (h1 : frz a δ = some (.rg lo hi, δ2)) (c : lo.natAbs ≤ 100000 ∧ hi.natAbs ≤ 100000) (p : P lo hi δ2) : ∃ lo hi δ2, frz a δ = some (.rg lo hi, δ2) ∧ (lo.natAbs ≤ 100000 ∧ hi.natAbs ≤ 100000) ∧ P lo hi δ2 := ⟨_, _, _, h1, c, p⟩
theorem rg_ev {n : Nat} (h : n ≤ 1000) : rgD [.int (n : Int)] = some (.rg 0 (n : Int)) := by
  show (if _ then _ else _) = _
  rw [if_pos (by omega)]
end
end DL
/-! plain: boxes of evens in order; Steck's determinant against a sum over stretches -/
namespace DL
open PySem PySem.Spec PyProof.Rows L2
--BEGIN
def pz (x : Int) : Int := if 0 < x then x else 0
def sg (k : Nat) : Int := (-1) ^ k
theorem pz_le {x : Int} (h : x ≤ 0) : pz x = 0 := if_neg (by omega)
theorem pz_ge {x : Int} (h : 0 ≤ x) : pz x = x := by unfold pz; split <;> omega
theorem sg_add (a b : Nat) : sg (a + b) = sg a * sg b := by unfold sg; exact Int.pow_add ..
theorem sg_sq (a : Nat) : sg a * sg a = 1 := by
  unfold sg
  rw [← Int.mul_pow, show ((-1 : Int) * -1) = 1 from rfl]; exact Int.one_pow
theorem neg_pow' (d : Int) (c : Nat) : (-d) ^ c = sg c * d ^ c := by
  unfold sg
  rw [← Int.mul_pow]; congr 1; omega
theorem chs_tri (n i c : Nat) : chs n i * chs (n - i) c = chs n c * chs (n - c) i := by
  by_cases h : i + c ≤ n
  · obtain ⟨r, rfl⟩ : ∃ r, n = i + c + r := ⟨n - i - c, by omega⟩
    have a1 := chs_fct i (c + r)
    have a2 := chs_fct c r
    have b1 := chs_fct c (i + r)
    have b2 := chs_fct i r
    rw [show i + (c + r) = i + c + r by omega] at a1
    rw [show c + (i + r) = i + c + r by omega] at b1
    rw [show i + c + r - i = c + r by omega, show i + c + r - c = i + r by omega]
    have hp : 0 < fct i * (fct c * fct r) := Nat.mul_pos (fct_pos i) (Nat.mul_pos (fct_pos c) (fct_pos r))
    have lh : chs (i + c + r) i * chs (c + r) c * (fct i * (fct c * fct r)) = fct (i + c + r) := by rw [← a1, ← a2]; grind
    have rh : chs (i + c + r) c * chs (i + r) i * (fct i * (fct c * fct r)) = fct (i + c + r) := by rw [← b1, ← b2]; grind
    exact Nat.eq_of_mul_eq_mul_right hp (lh.trans rh.symm)
  · have e1 : chs n i * chs (n - i) c = 0 := by
      by_cases hi : i ≤ n
      · rw [chs_gt (show n - i < c by omega), Nat.mul_zero]
      · rw [chs_gt (show n < i by omega), Nat.zero_mul]
    have e2 : chs n c * chs (n - c) i = 0 := by
      by_cases hi : c ≤ n
      · rw [chs_gt (show n - c < i by omega), Nat.mul_zero]
      · rw [chs_gt (show n < c by omega), Nat.zero_mul]
    rw [e1, e2]
theorem sumR_zero {f : Nat → Int} : ∀ {n : Nat}, (∀ i, i < n → f i = 0) → sumR f n = 0
  | 0, _ => rfl
  | n + 1, h => by
    show sumR f n + f n = 0
    rw [sumR_zero (n := n) (fun i hi => h i (by omega)), h n (by omega)]; rfl
theorem sumR_ext {f : Nat → Int} {n N : Nat} (h : n ≤ N) (hz : ∀ i, n ≤ i → i < N → f i = 0) : sumR f N = sumR f n := by
  obtain ⟨d, rfl⟩ := Nat.exists_eq_add_of_le h
  rw [sumR_split, sumR_zero (n := d) (fun i hi => hz _ (by omega) (by omega)), Int.add_zero]
theorem sumR_swap (F : Nat → Nat → Int) (n : Nat) : ∀ m, sumR (fun i => sumR (F i) m) n = sumR (fun c => sumR (fun i => F i c) n) m
  | 0 => by
    show sumR (fun i => 0) n = 0
    exact sumR_zero fun i _ => rfl
  | m + 1 => by
    show sumR (fun i => sumR (F i) m + F i m) n = sumR _ m + sumR (fun i => F i m) n
    rw [sumR_add, sumR_swap F n m]
def tB (h D : Nat → Int) (n : Nat) (x : Int) (i : Nat) : Int := sg (n - i) * chs n i * pz (h i - x) ^ (n - i) * D i
def SB (h D : Nat → Int) (n : Nat) (x : Int) : Int := sumR (tB h D n x) (n + 1)
theorem SB_ext (h D : Nat → Int) {n N : Nat} (x : Int) (hN : n ≤ N) : sumR (tB h D n x) (N + 1) = SB h D n x :=
  sumR_ext (by omega) fun i hi _ => by unfold tB; rw [chs_gt (by omega)]; simp
theorem SB_step {h D : Nat → Int} {n m : Nat} {a b : Int} (hm : m ≤ n) (hab : a ≤ b) (h1 : ∀ i, i < m → h i ≤ a) (h2 : ∀ i, m ≤ i → i < n → b ≤ h i) : SB h D n b = sumR (fun c => chs n c * (b - a) ^ c * SB h D (n - c) a) (n - m + 1) := by
  let G : Nat → Nat → Int := fun i c => if m ≤ i then chs n c * (b - a) ^ c * (sg (n - c - i) * chs (n - c) i * (h i - a) ^ (n - c - i) * D i) else 0
  have e1 : ∀ i, i < n + 1 → tB h D n b i = sumR (G i) (n + 1) := by
    intro i hi
    by_cases hmi : m ≤ i
    · have ep : pz (h i - b) ^ (n - i) = (-(b - a) + (h i - a)) ^ (n - i) := by
        by_cases hin : i < n
        · have := h2 i hmi hin
          rw [pz_ge (by omega)]
          congr 1; omega
        · rw [show n - i = 0 by omega, Int.pow_zero, Int.pow_zero]
      have hb := binom (-(b - a)) (h i - a) (n - i)
      unfold tB
      rw [ep, ← hb]
      have ex : sumR (fun k => (chs (n - i) k : Int) * (-(b - a)) ^ k * (h i - a) ^ (n - i - k)) (n - i + 1) = sumR (fun k => (chs (n - i) k : Int) * (-(b - a)) ^ k * (h i - a) ^ (n - i - k)) (n + 1) :=
        (sumR_ext (by omega) fun k hk _ => by rw [chs_gt (by omega)]; simp).symm
      rw [ex]
      rw [show sg (n - i) * (chs n i : Int) * sumR (fun k => (chs (n - i) k : Int) * (-(b - a)) ^ k * (h i - a) ^ (n - i - k)) (n + 1) * D i = (sg (n - i) * (chs n i : Int) * D i) * sumR (fun k => (chs (n - i) k : Int) * (-(b - a)) ^ k * (h i - a) ^ (n - i - k)) (n + 1) by grind, ← sumR_mul]
      refine sumR_congr fun c hc => ?_
      show _ = if m ≤ i then _ else _
      rw [if_pos hmi, neg_pow']
      have ht := chs_tri n i c
      have ht' : (chs n i : Int) * (chs (n - i) c : Int) = (chs n c : Int) * (chs (n - c) i : Int) := by exact_mod_cast ht
      by_cases hci : c ≤ n - i
      · have es : sg (n - i) = sg (n - c - i) * sg c := by rw [← sg_add]; congr 1; omega
        have hs := sg_sq c
        rw [show n - i - c = n - c - i by omega, es]
        generalize (h i - a) ^ (n - c - i) = P at *
        generalize (b - a) ^ c = Q at *
        generalize sg (n - c - i) = s1 at *
        generalize sg c = s2 at *
        generalize D i = d at *
        calc s1 * s2 * (chs n i : Int) * d * ((chs (n - i) c : Int) * (s2 * Q) * P) = (s2 * s2) * ((chs n i : Int) * (chs (n - i) c : Int)) * s1 * d * Q * P := by grind
          _ = _ := by rw [hs, ht']; grind
      · rw [chs_gt (show n - i < c by omega), chs_gt (show n - c < i by omega)]; simp
    · have hb := h1 i (by omega)
      unfold tB
      rw [pz_le (by omega), Int.zero_pow (by omega)]
      rw [sumR_zero (f := G i) fun c _ => if_neg hmi]
      simp
  have e2 : ∀ c, c < n + 1 → sumR (fun i => G i c) (n + 1) = if c < n - m + 1 then chs n c * (b - a) ^ c * SB h D (n - c) a else 0 := by
    intro c hc
    by_cases hcm : c < n - m + 1
    · rw [if_pos hcm, ← SB_ext h D a (show n - c ≤ n by omega), ← sumR_mul]
      refine sumR_congr fun i hi => ?_
      show (if m ≤ i then _ else _) = _
      unfold tB
      by_cases hmi : m ≤ i
      · rw [if_pos hmi]
        by_cases hin : i < n
        · have := h2 i hmi hin
          rw [pz_ge (by omega)]
        · have e : n - c - i = 0 := by omega
          rw [e, Int.pow_zero, Int.pow_zero]
      · rw [if_neg hmi]
        have hb := h1 i (by omega)
        rw [pz_le (by omega), Int.zero_pow (by omega)]
        simp
    · rw [if_neg hcm]
      refine sumR_zero fun i hi => ?_
      show (if m ≤ i then _ else _) = _
      by_cases hmi : m ≤ i
      · rw [if_pos hmi, chs_gt (show n - c < i by omega)]; simp
      · rw [if_neg hmi]
  unfold SB
  rw [sumR_congr e1, sumR_swap, sumR_congr e2]
  rw [sumR_ext (n := n - m + 1) (by omega) fun c h1 _ => if_neg (by omega)]
  exact sumR_congr fun c hc => if_pos hc
/-! the numbers of the elimination -/
def EE (H L : Nat → Int) : Nat → Nat → Int
  | 0, j => pz (H 0 - L j) ^ (j + 1)
  | k + 1, j => chs (j + 1) (k + 1) * pz (H (k + 1) - L j) ^ (j - k) * EE H L k k - EE H L k j
def DB (H L : Nat → Int) : Nat → Int
  | 0 => 1
  | n + 1 => EE H L n n
theorem EE_sum (H L : Nat → Int) (j : Nat) : ∀ k, k ≤ j → EE H L k j = sumR (fun i => sg (k - i) * chs (j + 1) i * pz (H i - L j) ^ (j + 1 - i) * DB H L i) (k + 1)
  | 0, _ => by
    show _ = 0 + sg 0 * ((chs (j + 1) 0 : Nat) : Int) * _ * 1
    rw [chs_zero]
    unfold EE sg
    simp
  | k + 1, h => by
    show chs (j + 1) (k + 1) * pz (H (k + 1) - L j) ^ (j - k) * EE H L k k - EE H L k j = sumR _ (k + 1) + sg (k + 1 - (k + 1)) * chs (j + 1) (k + 1) * pz (H (k + 1) - L j) ^ (j + 1 - (k + 1)) * EE H L k k
    rw [EE_sum H L j k (by omega)]
    have e : sumR (fun i => sg (k + 1 - i) * chs (j + 1) i * pz (H i - L j) ^ (j + 1 - i) * DB H L i) (k + 1) = -1 * sumR (fun i => sg (k - i) * chs (j + 1) i * pz (H i - L j) ^ (j + 1 - i) * DB H L i) (k + 1) := by
      rw [← sumR_mul]
      refine sumR_congr fun i hi => ?_
      rw [show k + 1 - i = (k - i) + 1 by omega, sg_add]
      rw [show sg 1 = -1 from rfl]; grind
    rw [e, Nat.sub_self, show j + 1 - (k + 1) = j - k by omega, show sg 0 = 1 from rfl]
    grind
theorem DB_rec (H L : Nat → Int) (n : Nat) : SB H (DB H L) (n + 1) (L n) = 0 := by
  unfold SB
  show sumR (tB H (DB H L) (n + 1) (L n)) (n + 1) + tB H (DB H L) (n + 1) (L n) (n + 1) = 0
  have e := EE_sum H L n n (Nat.le_refl _)
  have e1 : sumR (tB H (DB H L) (n + 1) (L n)) (n + 1) = -1 * EE H L n n := by
    rw [e, ← sumR_mul]
    refine sumR_congr fun i hi => ?_
    unfold tB
    rw [show n + 1 - i = (n - i) + 1 by omega, sg_add, show sg 1 = -1 from rfl]
    grind
  rw [e1]
  unfold tB
  rw [Nat.sub_self, chs_self, show sg 0 = 1 from rfl]
  show _ + 1 * ((1 : Nat) : Int) * _ ^ 0 * EE H L n n = 0
  rw [Int.pow_zero]; simp; omega
theorem SB_top {H D : Nat → Int} {n : Nat} {x : Int} (h : ∀ i, i < n → H i ≤ x) : SB H D n x = D n := by
  unfold SB
  show sumR (tB H D n x) n + tB H D n x n = D n
  rw [sumR_zero fun i hi => by unfold tB; rw [pz_le (by have := h i hi; omega), Int.zero_pow (by omega)]; simp]
  unfold tB
  rw [Nat.sub_self, chs_self, show sg 0 = 1 from rfl, Int.pow_zero]; simp
theorem SB_zero (H D : Nat → Int) (x : Int) : SB H D 0 x = D 0 := SB_top fun i hi => by omega
/-! the law's step over a stretch -/
def okB (l h : Nat → Int) (a b : Int) (i c : Nat) : Prop := ∀ t, i ≤ t → t < i + c → l t ≤ a ∧ b ≤ h t
open Classical in
noncomputable def stW (l h : Nat → Int) (a b : Int) (A : Nat → Int) (k : Nat) : Int := sumR (fun c => if okB l h a b (k - c) c then chs k c * (b - a) ^ c * A (k - c) else 0) (k + 1)
structure Plain (n : Nat) (l' h' l h : Nat → Int) : Prop where
  l1 : ∀ k, k < n → ∀ t, t ≤ k → l' t ≤ l k
  l2 : ∀ k, k < n → ∃ t, t ≤ k ∧ l' t = l k
  h1 : ∀ k, k < n → ∀ t, k ≤ t → t < n → h k ≤ h' t
  h2 : ∀ k, k < n → ∃ t, k ≤ t ∧ t < n ∧ h' t = h k
theorem Plain.lmono {n : Nat} {l' h' l h : Nat → Int} (p : Plain n l' h' l h) {i k : Nat} (hi : i ≤ k) (hk : k < n) : l i ≤ l k := by
  obtain ⟨t, ht, e⟩ := p.l2 i (by omega)
  have := p.l1 k hk t (by omega)
  omega
theorem Plain.hmono {n : Nat} {l' h' l h : Nat → Int} (p : Plain n l' h' l h) {i k : Nat} (hi : i ≤ k) (hk : k < n) : h i ≤ h k := by
  obtain ⟨t, ht, ht2, e⟩ := p.h2 k hk
  have := p.h1 i (by omega) t (by omega) ht2
  omega
structure Inv (n : Nat) (l h D : Nat → Int) (a : Int) (A : Nat → Int) : Prop where
  v : ∀ k, k ≤ n → (∀ t, t < n → h t ≤ a → t < k) → ((k = 0 ∨ l (k - 1) ≤ a) → A k = SB h D k a) ∧ (¬ (k = 0 ∨ l (k - 1) ≤ a) → A k = 0)
  z : ∀ i, i < n → h i ≤ l i → ∀ k, i < k → k ≤ n → (∀ t, t < n → h t ≤ a → t < k) → A k = 0
theorem cut_at {n : Nat} {h : Nat → Int} {a b : Int} (hm : ∀ i k, i ≤ k → k < n → h i ≤ h k) (hab : a < b) (hd : ∀ t, t < n → h t ≤ a ∨ b ≤ h t) : ∃ m, m ≤ n ∧ (∀ i, i < m → h i ≤ a) ∧ ∀ i, m ≤ i → i < n → b ≤ h i := by
  induction n with
  | zero => exact ⟨0, by omega, fun i hi => by omega, fun i _ hi => by omega⟩
  | succ n ih =>
    obtain ⟨m, hm1, hm2, hm3⟩ := ih (fun i k h1 h2 => hm i k h1 (by omega)) fun t ht => hd t (by omega)
    rcases hd n (by omega) with q | q
    · have : m = n := by
        by_cases z : m < n
        · have := hm3 m (Nat.le_refl _) z
          have := hm m n (by omega) (by omega)
          omega
        · omega
      subst this
      exact ⟨m + 1, by omega, fun i hi => by
        by_cases z : i < m
        · exact hm2 i z
        · rw [show i = m by omega]; exact q, fun i h1 h2 => by omega⟩
    · refine ⟨m, by omega, hm2, fun i h1 h2 => ?_⟩
      by_cases z : i < n
      · exact hm3 i h1 z
      · rw [show i = n by omega]; exact q
theorem inv_step {n : Nat} {l' h' l h D : Nat → Int} (p : Plain n l' h' l h) (hD : ∀ k, k < n → SB h D (k + 1) (l k) = 0) {a b : Int} {A : Nat → Int} (hab : a < b) (hl : ∀ t, t < n → l' t ≤ a ∨ b ≤ l' t) (hh : ∀ t, t < n → h' t ≤ a ∨ b ≤ h' t) (I : Inv n l h D a A) : Inv n l h D b (stW l' h' a b A) := by
  have hl2 : ∀ t, t < n → l t ≤ a ∨ b ≤ l t := fun t ht => by
    obtain ⟨s, hs, e⟩ := p.l2 t ht
    rw [← e]; exact hl s (by omega)
  have hh2 : ∀ t, t < n → h t ≤ a ∨ b ≤ h t := fun t ht => by
    obtain ⟨s, hs, hs2, e⟩ := p.h2 t ht
    rw [← e]; exact hh s hs2
  obtain ⟨m, hmn, hm1, hm2⟩ := cut_at (fun i k h1 h2 => p.hmono h1 h2) hab hh2
  have mk : ∀ k, k ≤ n → (∀ t, t < n → h t ≤ b → t < k) → m ≤ k := fun k hk hx => by
    by_cases z : m ≤ k
    · exact z
    · have := hm1 k (by omega)
      have := hx k (by omega) (by omega)
      omega
  have gd : ∀ j, m ≤ j → ∀ t, t < n → h t ≤ a → t < j := fun j hj t ht hta => by
    by_cases z : m ≤ t
    · have := hm2 t z ht; omega
    · omega
  have nok : ∀ k, k ≤ n → (∀ t, t < n → h t ≤ b → t < k) → ∀ c, c ≤ k → okB l' h' a b (k - c) c → c ≤ k - m := fun k hk hx c hc ok => by
    by_cases z : c ≤ k - m
    · exact z
    · have hmk := mk k hk hx
      have hm0 : 1 ≤ m := by omega
      obtain ⟨t, ht1, ht2, e⟩ := p.h2 (m - 1) (by omega)
      have q := hm1 (m - 1) (by omega)
      have q2 := p.h1 t ht2 t (Nat.le_refl _) ht2
      have q3 := hx t ht2 (by omega)
      have := (ok t (by omega) (by omega)).2
      omega
  have low : ∀ k, 1 ≤ k → k ≤ n → ∀ c, c ≤ k → okB l' h' a b (k - c) c → (k - c = 0 ∨ l (k - c - 1) ≤ a) → l (k - 1) ≤ a := fun k hk1 hk c hc ok hlo => by
    obtain ⟨t, ht, e⟩ := p.l2 (k - 1) (by omega)
    rw [← e]
    by_cases z : k - c ≤ t
    · exact (ok t z (by omega)).1
    · rcases hlo with q | q
      · omega
      · have := p.l1 (k - c - 1) (by omega) t (by omega)
        omega
  constructor
  · intro k hk hx
    have hmk := mk k hk hx
    have caseA : (k = 0 ∨ l (k - 1) ≤ a) → stW l' h' a b A k = SB h D k b := fun hlo => by
      rw [SB_step hmk (by omega) hm1 fun i h1 h2 => hm2 i h1 (by omega)]
      unfold stW
      have e : ∀ c, c < k + 1 → (open Classical in if okB l' h' a b (k - c) c then chs k c * (b - a) ^ c * A (k - c) else 0) = if c < k - m + 1 then chs k c * (b - a) ^ c * SB h D (k - c) a else 0 := fun c hc => by
        by_cases z : c < k - m + 1
        · have ok : okB l' h' a b (k - c) c := fun t ht1 ht2 => by
            have h1 := p.l1 (k - 1) (by omega) t (by omega)
            have h2 := p.h1 t (by omega) t (Nat.le_refl _) (by omega)
            have h3 := hm2 t (by omega) (by omega)
            rcases hlo with q | q
            · omega
            · exact ⟨by omega, by omega⟩
          rw [if_pos ok, if_pos z, (I.v (k - c) (by omega) (gd _ (by omega))).1]
          rcases hlo with q | q
          · exact .inl (by omega)
          · by_cases z2 : k - c = 0
            · exact .inl z2
            · exact .inr (by have := p.lmono (show k - c - 1 ≤ k - 1 by omega) (by omega); omega)
        · rw [if_neg z, if_neg fun ok => z (by have := nok k hk hx c (by omega) ok; omega)]
      rw [sumR_congr e, sumR_ext (n := k - m + 1) (by omega) fun c h1 _ => if_neg (by omega)]
      exact sumR_congr fun c hc => if_pos hc
    have caseB : 1 ≤ k → b ≤ l (k - 1) → stW l' h' a b A k = 0 := fun hk1 hlo => by
      unfold stW
      refine sumR_zero fun c hc => ?_
      by_cases ok : okB l' h' a b (k - c) c
      · rw [if_pos ok]
        have hcm := nok k hk hx c (by omega) ok
        have hv := (I.v (k - c) (by omega) (gd _ (by omega))).2 fun hlo2 => by
          have := low k hk1 hk c (by omega) ok hlo2
          omega
        rw [hv, Int.mul_zero]
      · rw [if_neg ok]
    refine ⟨fun hlo => ?_, fun hlo => ?_⟩
    · rcases hlo with q | q
      · exact caseA (.inl q)
      · by_cases hk0 : k = 0
        · exact caseA (.inl hk0)
        · rcases hl2 (k - 1) (by omega) with q2 | q2
          · exact caseA (.inr q2)
          · rw [caseB (by omega) q2]
            have e : b = l (k - 1) := by omega
            have := hD (k - 1) (by omega)
            rw [show k - 1 + 1 = k by omega, ← e] at this
            exact this.symm
    · have hk0 : 1 ≤ k := by
        by_cases z : k = 0
        · exact absurd (.inl z) hlo
        · omega
      have : ¬ l (k - 1) ≤ b := fun z => hlo (.inr z)
      exact caseB hk0 (by omega)
  · intro i hi hil k hik hk hx
    unfold stW
    refine sumR_zero fun c hc => ?_
    by_cases ok : okB l' h' a b (k - c) c
    · rw [if_pos ok]
      have hcm := nok k hk hx c (by omega) ok
      have hmk := mk k hk hx
      have : A (k - c) = 0 := by
        by_cases z : i < k - c
        · exact I.z i hi hil (k - c) z (by omega) (gd _ (by omega))
        · refine (I.v (k - c) (by omega) (gd _ (by omega))).2 fun hlo => ?_
          have h1 := low k (by omega) hk c (by omega) ok hlo
          have h2 := p.lmono (show i ≤ k - 1 by omega) (by omega)
          have h3 := gd (k - c) (by omega) i hi (by omega)
          omega
      rw [this, Int.mul_zero]
    · rw [if_neg ok]
theorem inv_base {n : Nat} {l h D : Nat → Int} (hD0 : D 0 = 1) (hD : ∀ k, k < n → SB h D (k + 1) (l k) = 0) (hl : ∀ k, k < n → 0 ≤ l k) : Inv n l h D 0 (fun k => if k = 0 then 1 else 0) := by
  constructor
  · intro k hk hx
    refine ⟨fun hlo => ?_, fun hlo => ?_⟩
    · by_cases z : k = 0
      · subst z; rw [if_pos rfl, SB_zero, hD0]
      · rw [if_neg z]
        rcases hlo with q | q
        · exact absurd q z
        · have h1 := hl (k - 1) (by omega)
          have := hD (k - 1) (by omega)
          rw [show k - 1 + 1 = k by omega, show l (k - 1) = 0 by omega] at this
          exact this.symm
    · by_cases z : k = 0
      · exact absurd (.inl z) hlo
      · exact if_neg z
  · intro i _ _ k hk _ _
    exact if_neg (by omega)
theorem inv_end {n : Nat} {l h D : Nat → Int} {N : Int} {A : Nat → Int} (I : Inv n l h D N A) (hl : ∀ k, k < n → l k ≤ N) (hh : ∀ k, k < n → h k ≤ N) : A n = D n ∧ ∀ i, i < n → h i ≤ l i → A n = 0 := by
  refine ⟨?_, fun i hi hil => I.z i hi hil n (by omega) (Nat.le_refl _) fun t ht _ => ht⟩
  rw [(I.v n (Nat.le_refl _) fun t ht _ => ht).1, SB_top hh]
  by_cases z : n = 0
  · exact .inl z
  · exact .inr (hl _ (by omega))
--END
end DL
/-! plain: a box with lows below its highs has a chance above 0 -/
namespace DL
open PySem PySem.Spec PyProof.Rows L2
--BEGIN
theorem sumR_pos {f : Nat → Int} : ∀ {n : Nat} (i : Nat), (∀ j, j < n → 0 ≤ f j) → i < n → 0 < f i → 0 < sumR f n
  | 0, i, _, h, _ => by omega
  | n + 1, i, h0, h, hp => by
    show 0 < sumR f n + f n
    have h1 := sumR_nonneg (n := n) fun j hj => h0 j (by omega)
    have h2 := h0 n (by omega)
    by_cases z : i = n
    · subst z; omega
    · have := sumR_pos (n := n) i (fun j hj => h0 j (by omega)) (by omega) hp
      omega
noncomputable def AW (l h : Nat → Int) : Nat → Nat → Int
  | 0 => fun k => if k = 0 then 1 else 0
  | j + 1 => stW l h (j : Int) ((j + 1 : Nat) : Int) (AW l h j)
theorem stW_nn {l h : Nat → Int} {a b : Int} {A : Nat → Int} (hab : a ≤ b) (hA : ∀ k, 0 ≤ A k) (k : Nat) : 0 ≤ stW l h a b A k := by
  unfold stW
  refine sumR_nonneg fun c _ => ?_
  split
  · exact Int.mul_nonneg (Int.mul_nonneg (by omega) (Int.pow_nonneg (by omega))) (hA _)
  · exact Int.le_refl _
theorem AW_nn (l h : Nat → Int) : ∀ j k, 0 ≤ AW l h j k
  | 0, k => by show 0 ≤ if k = 0 then (1 : Int) else 0; split <;> omega
  | j + 1, k => stW_nn (by omega) (AW_nn l h j) k
theorem plain_self {n : Nat} {l h : Nat → Int} (h1 : ∀ i k, i ≤ k → k < n → l i ≤ l k) (h2 : ∀ i k, i ≤ k → k < n → h i ≤ h k) : Plain n l h l h :=
  ⟨fun k hk t ht => h1 t k ht hk, fun k hk => ⟨k, Nat.le_refl _, rfl⟩, fun k hk t ht ht2 => h2 k t ht ht2, fun k hk => ⟨k, Nat.le_refl _, hk, rfl⟩⟩
theorem AW_inv {n : Nat} {l h D : Nat → Int} (p : Plain n l h l h) (hD0 : D 0 = 1) (hD : ∀ k, k < n → SB h D (k + 1) (l k) = 0) (hl : ∀ k, k < n → 0 ≤ l k) : ∀ j : Nat, Inv n l h D (j : Int) (AW l h j)
  | 0 => inv_base hD0 hD hl
  | j + 1 => inv_step p hD (by omega) (fun t _ => by omega) (fun t _ => by omega) (AW_inv p hD0 hD hl j)
theorem AW_pos {n : Nat} {l h : Nat → Int} (p : Plain n l h l h) (hlt : ∀ k, k < n → l k < h k) (hl : ∀ k, k < n → 0 ≤ l k) : ∀ (j k : Nat), k ≤ n → (∀ t, t < k → l t < (j : Int)) → (∀ t, k ≤ t → t < n → (j : Int) ≤ l t) → 0 < AW l h j k
  | 0, k, hk, h1, h2 => by
    have : k = 0 := by
      by_cases z : k = 0
      · exact z
      · have := h1 0 (by omega)
        have := hl 0 (by omega)
        omega
    subst this
    show (0 : Int) < if (0 : Nat) = 0 then 1 else 0
    rw [if_pos rfl]; omega
  | j + 1, k, hk, h1, h2 => by
    obtain ⟨m, hm1, hm2, hm3⟩ := cut_at (n := n) (h := l) (a := (j : Int) - 1) (b := (j : Int)) (fun i k h1 h2 => p.lmono h1 h2) (by omega) (fun t _ => by omega)
    have hmk : m ≤ k := by
      by_cases z : m ≤ k
      · exact z
      · have := h2 k (Nat.le_refl _) (by omega)
        have := hm2 k (by omega)
        omega
    have ih := AW_pos p hlt hl j m hm1 (fun t ht => by have := hm2 t ht; omega) hm3
    show 0 < stW l h (j : Int) ((j + 1 : Nat) : Int) (AW l h j) k
    have hnn : ∀ c, c < k + 1 → 0 ≤ (open Classical in if okB l h (j : Int) ((j + 1 : Nat) : Int) (k - c) c then chs k c * (((j + 1 : Nat) : Int) - j) ^ c * AW l h j (k - c) else 0) := fun c _ => by
      split
      · exact Int.mul_nonneg (Int.mul_nonneg (by omega) (Int.pow_nonneg (by omega))) (AW_nn l h j _)
      · exact Int.le_refl _
    unfold stW
    refine sumR_pos (k - m) hnn (by omega) ?_
    have hok : okB l h (j : Int) ((j + 1 : Nat) : Int) (k - (k - m)) (k - m) := fun t ht1 ht2 => by
      have a1 := h1 t (by omega)
      have a2 := hm3 t (by omega) (by omega)
      have a3 := hlt t (by omega)
      constructor <;> omega
    rw [if_pos hok, show ((j + 1 : Nat) : Int) - (j : Int) = 1 by omega, Int.one_pow, Int.mul_one, show k - (k - m) = m by omega]
    have := chs_pos (n := k) (k := k - m) (by omega)
    exact Int.mul_pos (by omega) ih
theorem D_pos {n : Nat} {l h D : Nat → Int} (h1 : ∀ i k, i ≤ k → k < n → l i ≤ l k) (h2 : ∀ i k, i ≤ k → k < n → h i ≤ h k) (hlt : ∀ k, k < n → l k < h k) (hl : ∀ k, k < n → 0 ≤ l k) (hD0 : D 0 = 1) (hD : ∀ k, k < n → SB h D (k + 1) (l k) = 0) : 0 < D n := by
  have p := plain_self h1 h2
  obtain ⟨N, hN⟩ : ∃ N : Nat, ∀ k, k < n → h k ≤ (N : Int) := by
    refine ⟨(h (n - 1)).toNat, fun k hk => ?_⟩
    have := p.hmono (show k ≤ n - 1 by omega) (by omega)
    omega
  have hp := AW_pos p hlt hl N n (Nat.le_refl _) (fun t ht => by have := hlt t ht; have := hN t ht; omega) (fun t h1 h2 => by omega)
  rw [(inv_end (AW_inv p hD0 hD hl N) (fun k hk => by have := hlt k hk; have := hN k hk; omega) hN).1] at hp
  exact hp
theorem DB_pos {n : Nat} {l h : Nat → Int} (h1 : ∀ i k, i ≤ k → k < n → l i ≤ l k) (h2 : ∀ i k, i ≤ k → k < n → h i ≤ h k) (hlt : ∀ k, k < n → l k < h k) (hl : ∀ k, k < n → 0 ≤ l k) {k : Nat} (hk : k ≤ n) : 0 < DB h l k :=
  D_pos (n := k) (fun i j a b => h1 i j a (by omega)) (fun i j a b => h2 i j a (by omega)) (fun i hi => hlt i (by omega)) (fun i hi => hl i (by omega)) rfl fun i _ => DB_rec h l i
--END
end DL
/-! plain: ends in order; the law's step as a loop -/
namespace DL
open PySem PySem.Spec PyProof.Rows L2
--BEGIN
def endS (acc : List Int) (x : Int) : List Int := if acc.getLast? = some x then acc else acc ++ [x]
def endF (S : List Int) : List Int := S.foldl endS []
theorem endF_snoc (S : List Int) (x : Int) : endF (S ++ [x]) = endS (endF S) x := by unfold endF; rw [List.foldl_append]; rfl
theorem snoc_ind {P : List Int → Prop} (h0 : P []) (hs : ∀ S x, P S → P (S ++ [x])) : ∀ S, P S := by
  have key : ∀ n, ∀ S : List Int, S.length = n → P S := by
    intro n
    induction n with
    | zero => intro S h; rw [List.eq_nil_of_length_eq_zero h]; exact h0
    | succ n ih =>
      intro S h
      rcases List.eq_nil_or_concat S with rfl | ⟨r, x, rfl⟩
      · simp at h
      · rw [List.concat_eq_append] at *
        exact hs r x (ih r (by simpa using h))
  exact fun S => key S.length S rfl
theorem endF_last (S : List Int) : (endF S).getLast? = S.getLast? := by
  refine snoc_ind (P := fun S => (endF S).getLast? = S.getLast?) rfl (fun S x ih => ?_) S
  rw [endF_snoc, List.getLast?_append]
  unfold endS
  split
  · rename_i h; rw [h]; rfl
  · rw [List.getLast?_append]; rfl
theorem getI_app {l : List Int} {x : Int} {i : Nat} (h : i < l.length) : (l ++ [x]).getD i 0 = l.getD i 0 := by
  rw [List.getD_eq_getElem?_getD, List.getD_eq_getElem?_getD, List.getElem?_append_left h]
theorem getI_end {l : List Int} {x : Int} : (l ++ [x]).getD l.length 0 = x := by
  rw [List.getD_eq_getElem?_getD, List.getElem?_append_right (Nat.le_refl _), Nat.sub_self]; rfl
theorem getI_last {l : List Int} {y : Int} (h : l.getLast? = some y) : l.getD (l.length - 1) 0 = y ∧ l ≠ [] := by
  rw [List.getLast?_eq_getElem?] at h
  refine ⟨by rw [List.getD_eq_getElem?_getD, h]; rfl, fun e => by rw [e] at h; simp at h⟩
theorem endF_at (S : List Int) : ((List.range S.length).filter fun k => decide (k = 0) || decide (¬ S.getD k 0 = S.getD (k - 1) 0)).map (fun k => S.getD k 0) = endF S := by
  refine snoc_ind (P := fun S => ((List.range S.length).filter fun k => decide (k = 0) || decide (¬ S.getD k 0 = S.getD (k - 1) 0)).map (fun k => S.getD k 0) = endF S) rfl (fun S x ih => ?_) S
  rw [endF_snoc, List.length_append, List.length_singleton, List.range_succ, List.filter_append, List.map_append]
  have e1 : ((List.range S.length).filter fun k => decide (k = 0) || decide (¬ (S ++ [x]).getD k 0 = (S ++ [x]).getD (k - 1) 0)).map (fun k => (S ++ [x]).getD k 0) = endF S := by
    rw [← ih]
    have e2 : ∀ k ∈ List.range S.length, (decide (k = 0) || decide (¬ (S ++ [x]).getD k 0 = (S ++ [x]).getD (k - 1) 0)) = (decide (k = 0) || decide (¬ S.getD k 0 = S.getD (k - 1) 0)) := fun k hk => by
      have hk := List.mem_range.mp hk
      rw [getI_app hk, getI_app (show k - 1 < S.length by omega)]
    rw [List.filter_congr e2]
    refine List.map_congr_left fun k hk => ?_
    exact getI_app (List.mem_range.mp (List.mem_filter.mp hk).1)
  rw [e1]
  unfold endS
  rw [endF_last]
  cases e : S.getLast? with
  | none =>
    have : S = [] := List.getLast?_eq_none_iff.mp e
    subst this
    rw [if_neg (by simp)]; rfl
  | some y =>
    obtain ⟨h1, h2⟩ := getI_last e
    have h3 : 0 < S.length := List.length_pos_iff.mpr h2
    have e4 : (S ++ [x]).getD (S.length - 1) 0 = y := by rw [getI_app (by omega), h1]
    by_cases z : y = x
    · rw [if_pos (by rw [z]), List.filter_cons, if_neg (by rw [getI_end, e4, decide_eq_false (show ¬ S.length = 0 by omega), z]; simp)]; simp
    · rw [if_neg (fun q => z (Option.some.inj q)), List.filter_cons, if_pos (by rw [getI_end, e4, decide_eq_true (show ¬ x = y from fun q => z q.symm)]; simp)]
      rw [List.filter_nil, List.map_cons, List.map_nil, getI_end]
structure AdjE (S E : List Int) : Prop where
  st : ∀ k, k + 1 < E.length → E.getD k 0 < E.getD (k + 1) 0 ∧ ∀ x ∈ S, x ≤ E.getD k 0 ∨ E.getD (k + 1) 0 ≤ x
theorem le_lastP {S : List Int} {y x : Int} (hs : (S ++ [x]).Pairwise (· ≤ ·)) (hy : y ∈ S) : y ≤ x := (List.pairwise_append.mp hs).2.2 y hy x (by simp)
theorem endF_mem (S : List Int) : ∀ x ∈ endF S, x ∈ S := by
  refine snoc_ind (P := fun S => ∀ x ∈ endF S, x ∈ S) (fun x h => by cases h) (fun S x ih y hy => ?_) S
  rw [endF_snoc] at hy
  unfold endS at hy
  split at hy
  · exact List.mem_append_left _ (ih y hy)
  · rcases List.mem_append.mp hy with h | h
    · exact List.mem_append_left _ (ih y h)
    · exact List.mem_append_right _ h
theorem endF_adj (S : List Int) : S.Pairwise (· ≤ ·) → AdjE S (endF S) := by
  refine snoc_ind (P := fun S => S.Pairwise (· ≤ ·) → AdjE S (endF S)) (fun _ => ⟨fun k hk => by simp [endF] at hk⟩) (fun S x ih hs => ?_) S
  have hs1 := (List.pairwise_append.mp hs).1
  have A := ih hs1
  have hlast := endF_last S
  have hmem := endF_mem S
  rw [endF_snoc]
  unfold endS
  generalize endF S = E at *
  have hgm : ∀ k, k < E.length → E.getD k 0 ∈ S := fun k hk => hmem _ (by rw [List.getD_eq_getElem?_getD, List.getElem?_eq_getElem hk]; exact List.getElem_mem _)
  split
  · rename_i h
    refine ⟨fun k hk => ?_⟩
    obtain ⟨a1, a2⟩ := A.st k hk
    refine ⟨a1, fun y hy => ?_⟩
    rcases List.mem_append.mp hy with q | q
    · exact a2 y q
    · rw [List.mem_singleton.mp q]
      exact .inr (le_lastP hs (hgm (k + 1) hk))
  · rename_i h
    refine ⟨fun k hk => ?_⟩
    rw [List.length_append, List.length_singleton] at hk
    by_cases z : k + 1 < E.length
    · rw [getI_app (by omega), getI_app z]
      obtain ⟨a1, a2⟩ := A.st k z
      refine ⟨a1, fun y hy => ?_⟩
      rcases List.mem_append.mp hy with q | q
      · exact a2 y q
      · rw [List.mem_singleton.mp q]
        exact .inr (le_lastP hs (hgm (k + 1) z))
    · have ek : k + 1 = E.length := by omega
      rw [getI_app (show k < E.length by omega)]
      have e2 : (E ++ [x]).getD (k + 1) 0 = x := by rw [ek]; exact getI_end
      rw [e2]
      cases e : E.getLast? with
      | none =>
        have : E = [] := List.getLast?_eq_none_iff.mp e
        rw [this] at ek; simp at ek
      | some y =>
        obtain ⟨h1, _⟩ := getI_last e
        rw [show E.length - 1 = k by omega] at h1
        rw [h1]
        rw [e] at hlast h
        have hyS : y ∈ S := List.mem_of_getLast? hlast.symm
        have hle := le_lastP hs hyS
        refine ⟨by
          have : ¬ y = x := fun q => h (by rw [q])
          omega, fun w hw => ?_⟩
        rcases List.mem_append.mp hw with q | q
        · left
          rcases List.eq_nil_or_concat S with rfl | ⟨r, u, rfl⟩
          · cases q
          · rw [List.concat_eq_append] at *
            rw [List.getLast?_append] at hlast
            have : y = u := by simpa using hlast
            subst this
            rcases List.mem_append.mp q with q | q
            · exact le_lastP hs1 q
            · rw [List.mem_singleton.mp q]; omega
        · rw [List.mem_singleton.mp q]; right; omega
theorem endF_head {x : Int} {S : List Int} : ∃ r, endF (x :: S) = x :: r := by
  refine snoc_ind (P := fun S => ∃ r, endF (x :: S) = x :: r) ⟨[], rfl⟩ (fun S y ih => ?_) S
  obtain ⟨r, e⟩ := ih
  rw [show x :: (S ++ [y]) = (x :: S) ++ [y] from rfl, endF_snoc, e]
  unfold endS
  split
  · exact ⟨r, rfl⟩
  · exact ⟨r ++ [y], rfl⟩
/-! the step as a loop over how many draws there were, and how many more -/
open Classical in
noncomputable def cW (l h : Nat → Int) (a b : Int) (A : Nat → Int) (i c : Nat) : Int := if okB l h a b i c then chs (i + c) c * (b - a) ^ c * A i else 0
noncomputable def frI (l h : Nat → Int) (a b : Int) (A : Nat → Int) (i k : Nat) : Int := A k + sumR (fun j => if j < k then cW l h a b A j (k - j) else 0) i
theorem okB0 (l h : Nat → Int) (a b : Int) (i : Nat) : okB l h a b i 0 := fun t h1 h2 => by omega
theorem frI_end (l h : Nat → Int) (a b : Int) (A : Nat → Int) {n k : Nat} (hk : k ≤ n) : frI l h a b A n k = stW l h a b A k := by
  unfold frI stW
  have e1 : sumR (fun j => if j < k then cW l h a b A j (k - j) else 0) n = sumR (fun j => cW l h a b A j (k - j)) k := by
    rw [sumR_ext (n := k) hk fun i h1 _ => if_neg (by omega)]
    exact sumR_congr fun i hi => if_pos hi
  rw [e1, sumR_shift, ← sumR_rev (fun j => cW l h a b A j (k - j)) k]
  rw [if_pos (okB0 _ _ _ _ _), chs_zero, Int.pow_zero, Nat.sub_zero]
  rw [show ((1 : Nat) : Int) * 1 * A k = A k by simp]
  congr 1
  refine sumR_congr fun c hc => ?_
  unfold cW
  rw [show k - 1 - c = k - (c + 1) by omega, show k - (k - (c + 1)) = c + 1 by omega, show k - (c + 1) + (c + 1) = k by omega]
theorem stW_le {l h : Nat → Int} {a b : Int} {A : Nat → Int} (h0 : 0 ≤ a) (hab : a ≤ b) {n : Nat} (hA : ∀ k, k ≤ n → 0 ≤ A k ∧ A k ≤ a ^ k) {k : Nat} (hk : k ≤ n) : 0 ≤ stW l h a b A k ∧ stW l h a b A k ≤ b ^ k := by
  unfold stW
  constructor
  · refine sumR_nonneg fun c hc => ?_
    split
    · exact Int.mul_nonneg (Int.mul_nonneg (by omega) (Int.pow_nonneg (by omega))) (hA _ (by omega)).1
    · exact Int.le_refl _
  · have hb := binom (b - a) a k
    rw [show b - a + a = b by omega] at hb
    rw [← hb]
    refine sumR_le fun c hc => ?_
    have hp : 0 ≤ (chs k c : Int) * (b - a) ^ c := Int.mul_nonneg (by omega) (Int.pow_nonneg (by omega))
    split
    · exact Int.mul_le_mul_of_nonneg_left (hA _ (by omega)).2 hp
    · exact Int.mul_nonneg hp (Int.pow_nonneg h0)
--END
end DL
namespace LK
open PySem PySem.Spec PyProof.Rows L2 DL
def topS (i : Nat) : Stmt := PySem.Challenge.pw_anydraws_k14_whole_tables_of_boxes.main.body.getD i (.Pass ⟨0, 0, 0, 0⟩)
abbrev s_f_law_draw : Stmt := topS 47
theorem sc_f_law_draw : FnScope ["source", "many", "digit"] ["source", "many"] (defScope s_f_law_draw) := ⟨rfl, rfl, rfl, by decide +kernel, rfl, by decide +kernel, by decide +kernel⟩
abbrev s_f_law_ratio : Stmt := topS 48
theorem sc_f_law_ratio : FnScope ["n", "m", "a", "b"] ["n", "m"] (defScope s_f_law_ratio) := ⟨rfl, rfl, rfl, by decide +kernel, rfl, by decide +kernel, by decide +kernel⟩
abbrev s_f_law_box : Stmt := topS 52
theorem sc_f_law_box : FnScope ["source", "n", "by", "low", "high", "k", "at", "x"] ["source", "n"] (defScope s_f_law_box) := ⟨rfl, rfl, rfl, by decide +kernel, rfl, by decide +kernel, by decide +kernel⟩
abbrev s_f_law_below : Stmt := topS 51
theorem sc_f_law_below : FnScope ["x", "y"] ["x", "y"] (defScope s_f_law_below) := ⟨rfl, rfl, rfl, by decide +kernel, rfl, by decide +kernel, by decide +kernel⟩
abbrev s_f_law_plain : Stmt := topS 53
theorem sc_f_law_plain : FnScope ["box", "lows", "highs", "k", "low", "high"] ["box"] (defScope s_f_law_plain) := ⟨rfl, rfl, rfl, by decide +kernel, rfl, by decide +kernel, by decide +kernel⟩
abbrev s_f_law_times : Stmt := topS 50
theorem sc_f_law_times : FnScope ["x", "y"] ["x", "y"] (defScope s_f_law_times) := ⟨rfl, rfl, rfl, by decide +kernel, rfl, by decide +kernel, by decide +kernel⟩
abbrev s_is_whole : Stmt := topS 5
theorem sc_is_whole : FnScope ["value"] ["value"] (defScope s_is_whole) := ⟨rfl, rfl, rfl, by decide +kernel, rfl, by decide +kernel, by decide +kernel⟩
abbrev s_are_wholes : Stmt := topS 6
theorem sc_are_wholes : FnScope ["value", "many", "each"] ["value", "many"] (defScope s_are_wholes) := ⟨rfl, rfl, rfl, by decide +kernel, rfl, by decide +kernel, by decide +kernel⟩
abbrev s_are_coprime : Stmt := topS 7
theorem sc_are_coprime : FnScope ["one", "two"] ["one", "two"] (defScope s_are_coprime) := ⟨rfl, rfl, rfl, by decide +kernel, rfl, by decide +kernel, by decide +kernel⟩
abbrev s_is_ratio : Stmt := topS 13
theorem sc_is_ratio : FnScope ["value"] ["value"] (defScope s_is_ratio) := ⟨rfl, rfl, rfl, by decide +kernel, rfl, by decide +kernel, by decide +kernel⟩
abbrev s_is_from_nought : Stmt := topS 14
theorem sc_is_from_nought : FnScope ["value"] ["value"] (defScope s_is_from_nought) := ⟨rfl, rfl, rfl, by decide +kernel, rfl, by decide +kernel, by decide +kernel⟩
abbrev s_is_share : Stmt := topS 15
theorem sc_is_share : FnScope ["value"] ["value"] (defScope s_is_share) := ⟨rfl, rfl, rfl, by decide +kernel, rfl, by decide +kernel, by decide +kernel⟩
abbrev s_are_shares_all : Stmt := topS 25
theorem sc_are_shares_all : FnScope ["value", "least", "most", "each"] ["value", "least", "most"] (defScope s_are_shares_all) := ⟨rfl, rfl, rfl, by decide +kernel, rfl, by decide +kernel, by decide +kernel⟩
abbrev s_wrong_in_pair : Stmt := topS 32
theorem sc_wrong_in_pair : FnScope ["value", "least", "most", "part", "at"] ["value", "least", "most"] (defScope s_wrong_in_pair) := ⟨rfl, rfl, rfl, by decide +kernel, rfl, by decide +kernel, by decide +kernel⟩
abbrev s_wrong_in_box : Stmt := topS 33
theorem sc_wrong_in_box : FnScope ["value"] ["value"] (defScope s_wrong_in_box) := ⟨rfl, rfl, rfl, by decide +kernel, rfl, by decide +kernel, by decide +kernel⟩
abbrev s_check_box : Stmt := topS 41
theorem sc_check_box : FnScope ["value", "found"] ["value"] (defScope s_check_box) := ⟨rfl, rfl, rfl, by decide +kernel, rfl, by decide +kernel, by decide +kernel⟩
abbrev s_is_below : Stmt := topS 20
theorem sc_is_below : FnScope ["one", "two"] ["one", "two"] (defScope s_is_below) := ⟨rfl, rfl, rfl, by decide +kernel, rfl, by decide +kernel, by decide +kernel⟩
abbrev s_greater_of : Stmt := topS 22
theorem sc_greater_of : FnScope ["one", "two"] ["one", "two"] (defScope s_greater_of) := ⟨rfl, rfl, rfl, by decide +kernel, rfl, by decide +kernel, by decide +kernel⟩
abbrev s_rising : Stmt := topS 34
theorem sc_rising : FnScope ["numbers", "found", "number"] ["numbers"] (defScope s_rising) := ⟨rfl, rfl, rfl, by decide +kernel, rfl, by decide +kernel, by decide +kernel⟩
abbrev s_lesser_of : Stmt := topS 21
theorem sc_lesser_of : FnScope ["one", "two"] ["one", "two"] (defScope s_lesser_of) := ⟨rfl, rfl, rfl, by decide +kernel, rfl, by decide +kernel, by decide +kernel⟩
abbrev s_falling_back : Stmt := topS 35
theorem sc_falling_back : FnScope ["numbers", "found", "number"] ["numbers"] (defScope s_falling_back) := ⟨rfl, rfl, rfl, by decide +kernel, rfl, by decide +kernel, by decide +kernel⟩
abbrev s_plain_of : Stmt := topS 36
theorem sc_plain_of : FnScope ["box"] ["box"] (defScope s_plain_of) := ⟨rfl, rfl, rfl, by decide +kernel, rfl, by decide +kernel, by decide +kernel⟩
abbrev s_lowest : Stmt := topS 8
theorem sc_lowest : FnScope ["top", "under", "part"] ["top", "under"] (defScope s_lowest) := ⟨rfl, rfl, rfl, by decide +kernel, rfl, by decide +kernel, by decide +kernel⟩
abbrev s_minus : Stmt := topS 16
theorem sc_minus : FnScope ["one", "two"] ["one", "two"] (defScope s_minus) := ⟨rfl, rfl, rfl, by decide +kernel, rfl, by decide +kernel, by decide +kernel⟩
abbrev s_over : Stmt := topS 18
theorem sc_over : FnScope ["one", "two"] ["one", "two"] (defScope s_over) := ⟨rfl, rfl, rfl, by decide +kernel, rfl, by decide +kernel, by decide +kernel⟩
abbrev s_powered : Stmt := topS 19
theorem sc_powered : FnScope ["one", "many", "found", "turn"] ["one", "many"] (defScope s_powered) := ⟨rfl, rfl, rfl, by decide +kernel, rfl, by decide +kernel, by decide +kernel⟩
abbrev s_whole : Stmt := topS 23
theorem sc_whole : FnScope ["number"] ["number"] (defScope s_whole) := ⟨rfl, rfl, rfl, by decide +kernel, rfl, by decide +kernel, by decide +kernel⟩
abbrev s_product_up_to : Stmt := topS 9
theorem sc_product_up_to : FnScope ["many", "found", "number"] ["many"] (defScope s_product_up_to) := ⟨rfl, rfl, rfl, by decide +kernel, rfl, by decide +kernel, by decide +kernel⟩
abbrev s_entry_of : Stmt := topS 37
theorem sc_entry_of : FnScope ["lows", "highs", "row", "column", "power", "gap"] ["lows", "highs", "row", "column"] (defScope s_entry_of) := ⟨rfl, rfl, rfl, by decide +kernel, rfl, by decide +kernel, by decide +kernel⟩
abbrev s_table_of : Stmt := topS 38
theorem sc_table_of : FnScope ["box", "lows", "highs", "low", "high", "places", "column", "row"] ["box"] (defScope s_table_of) := ⟨rfl, rfl, rfl, by decide +kernel, rfl, by decide +kernel, by decide +kernel⟩
abbrev s_times : Stmt := topS 17
theorem sc_times : FnScope ["one", "two"] ["one", "two"] (defScope s_times) := ⟨rfl, rfl, rfl, by decide +kernel, rfl, by decide +kernel, by decide +kernel⟩
abbrev s_row_less : Stmt := topS 27
theorem sc_row_less : FnScope ["one", "two", "here", "there"] ["one", "two"] (defScope s_row_less) := ⟨rfl, rfl, rfl, by decide +kernel, rfl, by decide +kernel, by decide +kernel⟩
abbrev s_row_scaled : Stmt := topS 28
theorem sc_row_scaled : FnScope ["row", "number", "each"] ["row", "number"] (defScope s_row_scaled) := ⟨rfl, rfl, rfl, by decide +kernel, rfl, by decide +kernel, by decide +kernel⟩
abbrev s_determinant : Stmt := topS 29
theorem sc_determinant : FnScope ["table", "left", "found", "row", "heads", "at", "lead"] ["table"] (defScope s_determinant) := ⟨rfl, rfl, rfl, by decide +kernel, rfl, by decide +kernel, by decide +kernel⟩
abbrev s_chance_of : Stmt := topS 39
theorem sc_chance_of : FnScope ["box", "table"] ["box"] (defScope s_chance_of) := ⟨rfl, rfl, rfl, by decide +kernel, rfl, by decide +kernel, by decide +kernel⟩
abbrev s_box_chance : Stmt := topS 43
theorem sc_box_chance : FnScope ["box"] ["box"] (defScope s_box_chance) := ⟨rfl, rfl, rfl, by decide +kernel, rfl, by decide +kernel, by decide +kernel⟩
abbrev s_box_table : Stmt := topS 44
theorem sc_box_table : FnScope ["box", "table"] ["box"] (defScope s_box_table) := ⟨rfl, rfl, rfl, by decide +kernel, rfl, by decide +kernel, by decide +kernel⟩
abbrev s_f_law_entry : Stmt := topS 54
theorem sc_f_law_entry : FnScope ["high", "low", "k", "by", "found", "turn"] ["high", "low", "k"] (defScope s_f_law_entry) := ⟨rfl, rfl, rfl, by decide +kernel, rfl, by decide +kernel, by decide +kernel⟩
abbrev s_f_law_table : Stmt := topS 55
theorem sc_f_law_table : FnScope ["lows", "highs", "found", "i", "high", "row", "j", "low"] ["lows", "highs"] (defScope s_f_law_table) := ⟨rfl, rfl, rfl, by decide +kernel, rfl, by decide +kernel, by decide +kernel⟩
abbrev s_f_law_plus : Stmt := topS 49
theorem sc_f_law_plus : FnScope ["x", "y"] ["x", "y"] (defScope s_f_law_plus) := ⟨rfl, rfl, rfl, by decide +kernel, rfl, by decide +kernel, by decide +kernel⟩
abbrev s_f_law_determinant : Stmt := topS 56
theorem sc_f_law_determinant : FnScope ["table", "found", "j", "total", "i", "sign"] ["table"] (defScope s_f_law_determinant) := ⟨rfl, rfl, rfl, by decide +kernel, rfl, by decide +kernel, by decide +kernel⟩
abbrev s_plain_box : Stmt := topS 42
theorem sc_plain_box : FnScope ["box"] ["box"] (defScope s_plain_box) := ⟨rfl, rfl, rfl, by decide +kernel, rfl, by decide +kernel, by decide +kernel⟩
abbrev s_f_law_right : Stmt := topS 57
theorem sc_f_law_right : FnScope ["source", "n", "box", "plain", "told", "low", "high", "table", "many", "k", "due"] ["source"] (defScope s_f_law_right) := ⟨rfl, rfl, rfl, by decide +kernel, rfl, by decide +kernel, by decide +kernel⟩
abbrev s_f_law_source : Stmt := topS 46
theorem sc_f_law_source : FnScope ["script", "turn", "cell", "stir", "each"] ["script", "turn"] (defScope s_f_law_source) := ⟨rfl, rfl, rfl, by decide +kernel, rfl, by decide +kernel, by decide +kernel⟩
abbrev s_law : Stmt := topS 58
theorem sc_law : FnScope ["script", "turn"] ["script"] (defScope s_law) := ⟨rfl, rfl, rfl, by decide +kernel, rfl, by decide +kernel, by decide +kernel⟩
def e_f_law_draw : ES := seqS (ifS (blT (bin2 gtD (bin2 ixD (vO 0) (cO (.int 0))) (cO (.int 0)))) (seqS (asgS (callN divmodD (consA (bin2 ixD (vO 0) (cO (.int 0))) (consA (vO 1) (nilA)))) (tupG 2 (consG (subG 0 (cO (.int 0))) (consG (nameG 2) (nilG))))) (retS (vO 2))) (nxS)) (seqS (asgS (bin2 addD (bin2 ixD (vO 0) (cO (.int 2))) (cO (.int 1))) (subG 0 (cO (.int 2)))) (seqS (asgS (bin2 modD (callN intD (consA (bin2 addD (bin2 addD (bin2 mulD (bin2 ixD (vO 0) (cO (.int 1))) (bin2 addD (cO (.int 39709)) (bin2 mulD (cO (.int 6)) (bin2 ixD (vO 0) (cO (.int 2)))))) (bin2 mulD (cO (.int 17497)) (bin2 ixD (vO 0) (cO (.int 2))))) (cO (.int 3))) (nilA))) (cO (.int 2147483549))) (subG 0 (cO (.int 1)))) (retS (bin2 modD (callN intD (consA (bin2 fdivD (bin2 ixD (vO 0) (cO (.int 1))) (cO (.int 307))) (nilA))) (vO 1)))))
def d_f_law_draw : FD := fnD 3 2 e_f_law_draw
noncomputable def e_f_law_ratio : ES := seqS (par2S 2 3 (consA (callN absD (consA (vO 0) (nilA))) (consA (callN absD (consA (vO 1) (nilA))) (nilA)))) (seqS (whileS (blT (bin2 gtD (vO 3) (cO (.int 0)))) (par2S 2 3 (consA (vO 3) (consA (bin2 modD (callN intD (consA (vO 2) (nilA))) (vO 3)) (nilA))))) (seqS (setS 2 (ifO (blT (bin2 gtD (vO 1) (cO (.int 0)))) (vO 2) (bin2 subD (cO (.int 0)) (vO 2)))) (retS (tupO (consA (bin2 fdivD (vO 0) (vO 2)) (consA (bin2 fdivD (vO 1) (vO 2)) (nilA)))))))
noncomputable def d_f_law_ratio : FD := fnD 4 2 e_f_law_ratio
noncomputable def e_f_law_box : ES := seqS (parM [2, 3, 4] (consMa (bin2 addD (cO (.int 2)) (callD d_f_law_draw (consA (vO 0) (consA (cO (.int 11)) (nilA))))) (consMn (dispN (nilA)) (consMn (dispN (nilA)) (nilM))))) (seqS (forS (rng1I (consA (vO 1) (nilA))) (nameG 5) (seqS (setS 6 (bin2 fdivD (bin2 mulD (vO 2) (bin2 addD (vO 5) (cO (.int 1)))) (bin2 addD (vO 1) (cO (.int 1))))) (seqS (exS (mutO 3 (consA (callD d_f_law_draw (consA (vO 0) (consA (bin2 addD (vO 6) (cO (.int 1))) (nilA)))) (nilA)) appM)) (exS (mutO 4 (consA (bin2 addD (bin2 addD (vO 6) (cO (.int 1))) (callD d_f_law_draw (consA (vO 0) (consA (bin2 subD (vO 2) (vO 6)) (nilA))))) (nilA)) appM))))) (seqS (ifS (blT (bin2 eqD (callD d_f_law_draw (consA (vO 0) (consA (cO (.int 4)) (nilA)))) (cO (.int 0)))) (asgS (callD d_f_law_draw (consA (vO 0) (consA (bin2 addD (vO 2) (cO (.int 1))) (nilA)))) (subG 3 (callD d_f_law_draw (consA (vO 0) (consA (vO 1) (nilA)))))) (nxS)) (seqS (ifS (blT (bin2 eqD (callD d_f_law_draw (consA (vO 0) (consA (cO (.int 4)) (nilA)))) (cO (.int 0)))) (asgS (callD d_f_law_draw (consA (vO 0) (consA (bin2 addD (vO 2) (cO (.int 1))) (nilA)))) (subG 4 (callD d_f_law_draw (consA (vO 0) (consA (vO 1) (nilA)))))) (nxS)) (retS (tupO (consA (callN tupleD (consA (nO (lcL 3 (nameG 7) (yesT) (callD d_f_law_ratio (consA (vO 7) (consA (vO 2) (nilA)))) [7])) (nilA))) (consA (callN tupleD (consA (nO (lcL 4 (nameG 7) (yesT) (callD d_f_law_ratio (consA (vO 7) (consA (vO 2) (nilA)))) [7])) (nilA))) (nilA))))))))
noncomputable def d_f_law_box : FD := fnD 8 2 e_f_law_box
def e_f_law_below : ES := retS (bin2 ltD (bin2 mulD (bin2 ixD (vO 0) (cO (.int 0))) (bin2 ixD (vO 1) (cO (.int 1)))) (bin2 mulD (bin2 ixD (vO 1) (cO (.int 0))) (bin2 ixD (vO 0) (cO (.int 1)))))
def d_f_law_below : FD := fnD 2 2 e_f_law_below
def e_f_law_plain : ES := seqS (parM [1, 2] (consMn (dispN (nilA)) (consMn (dispN (nilA)) (nilM)))) (seqS (forS (rng1I (consA (callN lenD (consA (bin2 ixD (vO 0) (cO (.int 0))) (nilA))) (nilA))) (nameG 3) (seqS (par2S 4 5 (consA (bin2 ixD (bin2 ixD (vO 0) (cO (.int 0))) (vO 3)) (consA (bin2 ixD (bin2 ixD (vO 0) (cO (.int 1))) (bin2 subD (bin2 subD (callN lenD (consA (bin2 ixD (vO 0) (cO (.int 0))) (nilA))) (cO (.int 1))) (vO 3))) (nilA)))) (seqS (exS (mutO 1 (consA (ifO (andT (blT (bin2 neD (vO 1) (nO (dispN (nilA))))) (truT (callD d_f_law_below (consA (vO 4) (consA (bin2 ixD (vO 1) (un1 negD (cO (.int 1)))) (nilA)))))) (bin2 ixD (vO 1) (un1 negD (cO (.int 1)))) (vO 4)) (nilA)) appM)) (exS (mutO 2 (consA (ifO (andT (blT (bin2 neD (vO 2) (nO (dispN (nilA))))) (truT (callD d_f_law_below (consA (bin2 ixD (vO 2) (un1 negD (cO (.int 1)))) (consA (vO 5) (nilA)))))) (bin2 ixD (vO 2) (un1 negD (cO (.int 1)))) (vO 5)) (nilA)) appM))))) (retS (tupO (consA (callN tupleD (consA (vO 1) (nilA))) (consA (callN tupleD (consA (revA (vO 2)) (nilA))) (nilA))))))
def d_f_law_plain : FD := fnD 6 1 e_f_law_plain
noncomputable def e_f_law_times : ES := retS (callD d_f_law_ratio (consA (bin2 mulD (bin2 ixD (vO 0) (cO (.int 0))) (bin2 ixD (vO 1) (cO (.int 0)))) (consA (bin2 mulD (bin2 ixD (vO 0) (cO (.int 1))) (bin2 ixD (vO 1) (cO (.int 1)))) (nilA))))
noncomputable def d_f_law_times : FD := fnD 2 2 e_f_law_times
def e_is_whole : ES := retS (andO (callN isiD (consA (vO 0) (consA (cO (.ty "int")) (nilA)))) (notO (callN isiD (consA (vO 0) (consA (cO (.ty "bool")) (nilA))))))
def d_is_whole : FD := fnD 1 1 e_is_whole
def e_are_wholes : ES := retS (andO (callN isiD (consA (vO 0) (consA (cO (.ty "tuple")) (nilA)))) (andO (bin2 eqD (callN lenD (consA (vO 0) (nilA))) (vO 1)) (callN allD (consA (nO (lcN (seqI (vO 0)) (nameG 2) (yesT) (callD d_is_whole (consA (vO 2) (nilA))) [2])) (nilA)))))
def d_are_wholes : FD := fnD 3 2 e_are_wholes
def e_are_coprime : ES := retS (bin2 eqD (callN gcdD (consA (vO 0) (consA (vO 1) (nilA)))) (cO (.int 1)))
def d_are_coprime : FD := fnD 2 2 e_are_coprime
def e_is_ratio : ES := retS (andO (callD d_are_wholes (consA (vO 0) (consA (cO (.int 2)) (nilA)))) (andO (bin2 gtD (bin2 ixD (vO 0) (cO (.int 1))) (cO (.int 0))) (callD d_are_coprime (consA (bin2 ixD (vO 0) (cO (.int 0))) (consA (bin2 ixD (vO 0) (cO (.int 1))) (nilA))))))
def d_is_ratio : FD := fnD 1 1 e_is_ratio
def e_is_from_nought : ES := retS (andO (callD d_is_ratio (consA (vO 0) (nilA))) (bin2 geD (bin2 ixD (vO 0) (cO (.int 0))) (cO (.int 0))))
def d_is_from_nought : FD := fnD 1 1 e_is_from_nought
def e_is_share : ES := retS (andO (callD d_is_from_nought (consA (vO 0) (nilA))) (bin2 leD (bin2 ixD (vO 0) (cO (.int 0))) (bin2 ixD (vO 0) (cO (.int 1)))))
def d_is_share : FD := fnD 1 1 e_is_share
def e_are_shares_all : ES := retS (andO (callN isiD (consA (vO 0) (consA (cO (.ty "tuple")) (nilA)))) (andO (chainO leD leD (vO 1) (callN lenD (consA (vO 0) (nilA))) (vO 2)) (callN allD (consA (nO (lcN (seqI (vO 0)) (nameG 3) (yesT) (callD d_is_share (consA (vO 3) (nilA))) [3])) (nilA)))))
def d_are_shares_all : FD := fnD 4 3 e_are_shares_all
def e_wrong_in_pair : ES := seqS (ifS (orT (notT (truT (callN isiD (consA (vO 0) (consA (cO (.ty "tuple")) (nilA)))))) (blT (bin2 neD (callN lenD (consA (vO 0) (nilA))) (cO (.int 2))))) (retN (dispN (consA (cO .non) (nilA)))) (nxS)) (seqS (ifS (orT (notT (truT (callN allD (consA (nO (lcN (seqI (vO 0)) (nameG 3) (yesT) (callN isiD (consA (vO 3) (consA (cO (.ty "tuple")) (nilA)))) [3])) (nilA))))) (blT (bin2 neD (callN lenD (consA (bin2 ixD (vO 0) (cO (.int 0))) (nilA))) (callN lenD (consA (bin2 ixD (vO 0) (cO (.int 1))) (nilA)))))) (retN (dispN (consA (cO .non) (nilA)))) (nxS)) (seqS (ifS (notT (blT (chainO leD leD (vO 1) (callN lenD (consA (bin2 ixD (vO 0) (cO (.int 0))) (nilA))) (vO 2)))) (retN (dispN (consA (cO .non) (nilA)))) (nxS)) (retS (sliceO (nO (lcN (rng1I (consA (cO (.int 2)) (nilA))) (nameG 4) (notT (truT (callD d_are_shares_all (consA (bin2 ixD (vO 0) (vO 4)) (consA (vO 1) (consA (vO 2) (nilA))))))) (vO 4) [4])) (noP) (soP (cO (.int 1)))))))
def d_wrong_in_pair : FD := fnD 5 3 e_wrong_in_pair
def e_wrong_in_box : ES := retS (callD d_wrong_in_pair (consA (vO 0) (consA (cO (.int 1)) (consA (cO (.int 8)) (nilA)))))
def d_wrong_in_box : FD := fnD 1 1 e_wrong_in_box
def e_check_box : ES := seqS (setS 1 (callD d_wrong_in_box (consA (vO 0) (nilA)))) (ifS (blT (bin2 neD (vO 1) (nO (dispN (nilA))))) (noS) (nxS))
def d_check_box : FD := fnD 2 1 e_check_box
def e_is_below : ES := retS (bin2 ltD (bin2 mulD (bin2 ixD (vO 0) (cO (.int 0))) (bin2 ixD (vO 1) (cO (.int 1)))) (bin2 mulD (bin2 ixD (vO 1) (cO (.int 0))) (bin2 ixD (vO 0) (cO (.int 1)))))
def d_is_below : FD := fnD 2 2 e_is_below
def e_greater_of : ES := retS (ifO (truT (callD d_is_below (consA (vO 0) (consA (vO 1) (nilA))))) (vO 1) (vO 0))
def d_greater_of : FD := fnD 2 2 e_greater_of
def e_rising : ES := seqS (ownS 1 (dispN (nilA))) (seqS (forS (seqI (vO 0)) (nameG 2) (exS (mutO 1 (consA (ifO (blT (bin2 eqD (vO 1) (nO (dispN (nilA))))) (vO 2) (callD d_greater_of (consA (bin2 ixD (vO 1) (un1 negD (cO (.int 1)))) (consA (vO 2) (nilA))))) (nilA)) appM))) (retS (callN tupleD (consA (vO 1) (nilA)))))
def d_rising : FD := fnD 3 1 e_rising
def e_lesser_of : ES := retS (ifO (truT (callD d_is_below (consA (vO 1) (consA (vO 0) (nilA))))) (vO 1) (vO 0))
def d_lesser_of : FD := fnD 2 2 e_lesser_of
def e_falling_back : ES := seqS (ownS 1 (dispN (nilA))) (seqS (forS (seqI (revA (vO 0))) (nameG 2) (exS (mutO 1 (consA (ifO (blT (bin2 eqD (vO 1) (nO (dispN (nilA))))) (vO 2) (callD d_lesser_of (consA (bin2 ixD (vO 1) (un1 negD (cO (.int 1)))) (consA (vO 2) (nilA))))) (nilA)) appM))) (retS (callN tupleD (consA (revA (vO 1)) (nilA)))))
def d_falling_back : FD := fnD 3 1 e_falling_back
def e_plain_of : ES := retS (tupO (consA (callD d_rising (consA (bin2 ixD (vO 0) (cO (.int 0))) (nilA))) (consA (callD d_falling_back (consA (bin2 ixD (vO 0) (cO (.int 1))) (nilA))) (nilA))))
def d_plain_of : FD := fnD 1 1 e_plain_of
def e_lowest : ES := seqS (setS 2 (ifO (blT (bin2 gtD (vO 1) (cO (.int 0)))) (callN gcdD (consA (vO 0) (consA (vO 1) (nilA)))) (un1 negD (callN gcdD (consA (vO 0) (consA (vO 1) (nilA))))))) (retS (tupO (consA (bin2 fdivD (vO 0) (vO 2)) (consA (bin2 fdivD (vO 1) (vO 2)) (nilA)))))
def d_lowest : FD := fnD 3 2 e_lowest
def e_minus : ES := retS (callD d_lowest (consA (bin2 subD (bin2 mulD (bin2 ixD (vO 0) (cO (.int 0))) (bin2 ixD (vO 1) (cO (.int 1)))) (bin2 mulD (bin2 ixD (vO 1) (cO (.int 0))) (bin2 ixD (vO 0) (cO (.int 1))))) (consA (bin2 mulD (bin2 ixD (vO 0) (cO (.int 1))) (bin2 ixD (vO 1) (cO (.int 1)))) (nilA))))
def d_minus : FD := fnD 2 2 e_minus
def e_over : ES := retS (callD d_lowest (consA (bin2 mulD (bin2 ixD (vO 0) (cO (.int 0))) (bin2 ixD (vO 1) (cO (.int 1)))) (consA (bin2 mulD (bin2 ixD (vO 0) (cO (.int 1))) (bin2 ixD (vO 1) (cO (.int 0)))) (nilA))))
def d_over : FD := fnD 2 2 e_over
def e_powered : ES := seqS (setS 2 (cO (.tup [.int 1, .int 1]))) (seqS (forS (rng1I (consA (vO 1) (nilA))) (nameG 3) (setS 2 (tupO (consA (bin2 mulD (bin2 ixD (vO 2) (cO (.int 0))) (bin2 ixD (vO 0) (cO (.int 0)))) (consA (bin2 mulD (bin2 ixD (vO 2) (cO (.int 1))) (bin2 ixD (vO 0) (cO (.int 1)))) (nilA)))))) (retS (vO 2)))
def d_powered : FD := fnD 4 2 e_powered
def e_whole : ES := retS (tupO (consA (vO 0) (consA (cO (.int 1)) (nilA))))
def d_whole : FD := fnD 1 1 e_whole
def e_product_up_to : ES := seqS (setS 1 (cO (.int 1))) (seqS (forS (rng2I (consA (cO (.int 2)) (consA (bin2 addD (vO 0) (cO (.int 1))) (nilA)))) (nameG 2) (setS 1 (bin2 mulD (vO 1) (vO 2)))) (retS (vO 1)))
def d_product_up_to : FD := fnD 3 1 e_product_up_to
def e_entry_of : ES := seqS (setS 4 (bin2 addD (bin2 subD (vO 3) (vO 2)) (cO (.int 1)))) (seqS (ifS (blT (bin2 leD (vO 4) (cO (.int 0)))) (retS (ifO (blT (bin2 eqD (vO 4) (cO (.int 0)))) (cO (.tup [.int 1, .int 1])) (cO (.tup [.int 0, .int 1])))) (nxS)) (seqS (setS 5 (callD d_minus (consA (bin2 ixD (vO 1) (vO 2)) (consA (bin2 ixD (vO 0) (vO 3)) (nilA))))) (retS (ifO (blT (bin2 gtD (bin2 ixD (vO 5) (cO (.int 0))) (cO (.int 0)))) (callD d_over (consA (callD d_powered (consA (vO 5) (consA (vO 4) (nilA)))) (consA (callD d_whole (consA (callD d_product_up_to (consA (vO 4) (nilA))) (nilA))) (nilA)))) (cO (.tup [.int 0, .int 1]))))))
def d_entry_of : FD := fnD 6 4 e_entry_of
def e_table_of : ES := seqS (asgS (callD d_plain_of (consA (vO 0) (nilA))) (tupG 2 (consG (nameG 1) (consG (nameG 2) (nilG))))) (seqS (ifS (notT (truT (callN allD (consA (nO (lcN (zipM (consA (vO 1) (consA (vO 2) (nilA)))) (tupG 2 (consG (nameG 3) (consG (nameG 4) (nilG)))) (yesT) (callD d_is_below (consA (vO 3) (consA (vO 4) (nilA)))) [3, 4])) (nilA))))) (retN (dispN (nilA))) (nxS)) (seqS (setS 5 (callN rgD (consA (callN lenD (consA (vO 1) (nilA))) (nilA)))) (retN (lcN (rgvI (vO 5)) (nameG 7) (yesT) (callN tupleD (consA (nO (lcN (rgvI (vO 5)) (nameG 6) (yesT) (callD d_entry_of (consA (vO 1) (consA (vO 2) (consA (vO 7) (consA (vO 6) (nilA)))))) [6])) (nilA))) [7]))))
def d_table_of : FD := fnD 8 1 e_table_of
def e_times : ES := retS (callD d_lowest (consA (bin2 mulD (bin2 ixD (vO 0) (cO (.int 0))) (bin2 ixD (vO 1) (cO (.int 0)))) (consA (bin2 mulD (bin2 ixD (vO 0) (cO (.int 1))) (bin2 ixD (vO 1) (cO (.int 1)))) (nilA))))
def d_times : FD := fnD 2 2 e_times
def e_row_less : ES := retS (callN tupleD (consA (nO (lcN (zipM (consA (vO 0) (consA (vO 1) (nilA)))) (tupG 2 (consG (nameG 2) (consG (nameG 3) (nilG)))) (yesT) (callD d_minus (consA (vO 2) (consA (vO 3) (nilA)))) [2, 3])) (nilA)))
def d_row_less : FD := fnD 4 2 e_row_less
def e_row_scaled : ES := retS (callN tupleD (consA (nO (lcN (seqI (vO 0)) (nameG 2) (yesT) (callD d_times (consA (vO 2) (consA (vO 1) (nilA)))) [2])) (nilA)))
def d_row_scaled : FD := fnD 3 2 e_row_scaled
noncomputable def e_determinant : ES := seqS (parM [1, 2] (consMn (lcN (seqI (vO 0)) (nameG 3) (yesT) (callN tupleD (consA (vO 3) (nilA))) [3]) (consMa (cO (.tup [.int 1, .int 1])) (nilM)))) (seqS (whileS (blT (bin2 neD (vO 1) (nO (dispN (nilA))))) (seqS (setS 4 (nO (lcN (rng1I (consA (callN lenD (consA (vO 1) (nilA))) (nilA))) (nameG 5) (blT (bin2 neD (bin2 ixD (bin2 ixD (vO 1) (vO 5)) (cO (.int 0))) (cO (.tup [.int 0, .int 1])))) (vO 5) [5]))) (seqS (ifS (blT (bin2 eqD (vO 4) (nO (dispN (nilA))))) (retS (cO (.tup [.int 0, .int 1]))) (nxS)) (seqS (setS 6 (mutO 1 (consA (bin2 ixD (vO 4) (cO (.int 0))) (nilA)) popAtM)) (seqS (setS 2 (callD d_times (consA (vO 2) (consA (ifO (blT (bin2 eqD (bin2 modD (bin2 ixD (vO 4) (cO (.int 0))) (cO (.int 2))) (cO (.int 0)))) (bin2 ixD (vO 6) (cO (.int 0))) (callD d_minus (consA (cO (.tup [.int 0, .int 1])) (consA (bin2 ixD (vO 6) (cO (.int 0))) (nilA))))) (nilA))))) (ownS 1 (lcL 1 (nameG 3) (yesT) (sliceO (callD d_row_less (consA (vO 3) (consA (callD d_row_scaled (consA (vO 6) (consA (callD d_over (consA (bin2 ixD (vO 3) (cO (.int 0))) (consA (bin2 ixD (vO 6) (cO (.int 0))) (nilA)))) (nilA)))) (nilA)))) (soP (cO (.int 1))) (noP)) [3]))))))) (retS (vO 2)))
noncomputable def d_determinant : FD := fnD 7 1 e_determinant
noncomputable def e_chance_of : ES := seqS (setS 1 (callD d_table_of (consA (vO 0) (nilA)))) (retS (ifO (blT (bin2 eqD (vO 1) (nO (dispN (nilA))))) (cO (.tup [.int 0, .int 1])) (callD d_times (consA (callD d_whole (consA (callD d_product_up_to (consA (callN lenD (consA (vO 1) (nilA))) (nilA))) (nilA))) (consA (callD d_determinant (consA (vO 1) (nilA))) (nilA))))))
noncomputable def d_chance_of : FD := fnD 2 1 e_chance_of
noncomputable def e_box_chance : ES := seqS (exS (callD d_check_box (consA (vO 0) (nilA)))) (retS (callD d_chance_of (consA (vO 0) (nilA))))
noncomputable def d_box_chance : FD := fnD 1 1 e_box_chance
def e_box_table : ES := seqS (exS (callD d_check_box (consA (vO 0) (nilA)))) (seqS (setS 1 (callD d_table_of (consA (vO 0) (nilA)))) (retS (ifO (blT (bin2 eqD (vO 1) (nO (dispN (nilA))))) (cO .non) (callN tupleD (consA (vO 1) (nilA))))))
def d_box_table : FD := fnD 2 1 e_box_table
noncomputable def e_f_law_entry : ES := seqS (par2S 3 4 (consA (callD d_f_law_ratio (consA (bin2 subD (bin2 mulD (bin2 ixD (vO 0) (cO (.int 0))) (bin2 ixD (vO 1) (cO (.int 1)))) (bin2 mulD (bin2 ixD (vO 1) (cO (.int 0))) (bin2 ixD (vO 0) (cO (.int 1))))) (consA (bin2 mulD (bin2 ixD (vO 0) (cO (.int 1))) (bin2 ixD (vO 1) (cO (.int 1)))) (nilA)))) (consA (tupO (consA (cO (.int 1)) (consA (cO (.int 1)) (nilA)))) (nilA)))) (seqS (forS (rng1I (consA (vO 2) (nilA))) (nameG 5) (setS 4 (callD d_f_law_times (consA (vO 4) (consA (callD d_f_law_ratio (consA (bin2 ixD (vO 3) (cO (.int 0))) (consA (bin2 mulD (bin2 ixD (vO 3) (cO (.int 1))) (bin2 addD (vO 5) (cO (.int 1)))) (nilA)))) (nilA)))))) (retS (ifO (blT (bin2 gtD (bin2 ixD (vO 3) (cO (.int 0))) (cO (.int 0)))) (vO 4) (tupO (consA (cO (.int 0)) (consA (cO (.int 1)) (nilA)))))))
noncomputable def d_f_law_entry : FD := fnD 6 3 e_f_law_entry
noncomputable def e_f_law_table : ES := seqS (ownS 2 (dispN (nilA))) (seqS (forS (enumA (consA (vO 1) (nilA))) (tupG 2 (consG (nameG 3) (consG (nameG 4) (nilG)))) (seqS (ownS 5 (dispN (nilA))) (seqS (forS (enumA (consA (vO 0) (nilA))) (tupG 2 (consG (nameG 6) (consG (nameG 7) (nilG)))) (exS (mutO 5 (consA (ifO (blT (bin2 geD (vO 6) (vO 3))) (callD d_f_law_entry (consA (vO 4) (consA (vO 7) (consA (bin2 addD (bin2 subD (vO 6) (vO 3)) (cO (.int 1))) (nilA))))) (ifO (blT (bin2 eqD (vO 6) (bin2 subD (vO 3) (cO (.int 1))))) (tupO (consA (cO (.int 1)) (consA (cO (.int 1)) (nilA)))) (tupO (consA (cO (.int 0)) (consA (cO (.int 1)) (nilA)))))) (nilA)) appM))) (exS (mutO 2 (consA (callN tupleD (consA (vO 5) (nilA))) (nilA)) appM))))) (retS (callN tupleD (consA (vO 2) (nilA)))))
noncomputable def d_f_law_table : FD := fnD 8 2 e_f_law_table
noncomputable def e_f_law_plus : ES := retS (callD d_f_law_ratio (consA (bin2 addD (bin2 mulD (bin2 ixD (vO 0) (cO (.int 0))) (bin2 ixD (vO 1) (cO (.int 1)))) (bin2 mulD (bin2 ixD (vO 1) (cO (.int 0))) (bin2 ixD (vO 0) (cO (.int 1))))) (consA (bin2 mulD (bin2 ixD (vO 0) (cO (.int 1))) (bin2 ixD (vO 1) (cO (.int 1)))) (nilA))))
noncomputable def d_f_law_plus : FD := fnD 2 2 e_f_law_plus
noncomputable def e_f_law_determinant : ES := seqS (ownS 1 (dispN (consA (tupO (consA (cO (.int 1)) (consA (cO (.int 1)) (nilA)))) (nilA)))) (seqS (forS (rng1I (consA (callN lenD (consA (vO 0) (nilA))) (nilA))) (nameG 2) (seqS (setS 3 (tupO (consA (cO (.int 0)) (consA (cO (.int 1)) (nilA))))) (seqS (forS (rng1I (consA (bin2 addD (vO 2) (cO (.int 1))) (nilA))) (nameG 4) (seqS (setS 5 (ifO (blT (bin2 eqD (bin2 modD (callN intD (consA (bin2 subD (vO 2) (vO 4)) (nilA))) (cO (.int 2))) (cO (.int 0)))) (cO (.int 1)) (un1 negD (cO (.int 1))))) (setS 3 (callD d_f_law_plus (consA (vO 3) (consA (callD d_f_law_times (consA (tupO (consA (vO 5) (consA (cO (.int 1)) (nilA)))) (consA (callD d_f_law_times (consA (bin2 ixD (bin2 ixD (vO 0) (vO 4)) (vO 2)) (consA (bin2 ixD (vO 1) (vO 4)) (nilA)))) (nilA)))) (nilA))))))) (exS (mutO 1 (consA (vO 3) (nilA)) appM))))) (retS (bin2 ixD (vO 1) (un1 negD (cO (.int 1))))))
noncomputable def d_f_law_determinant : FD := fnD 6 1 e_f_law_determinant
def e_plain_box : ES := seqS (exS (callD d_check_box (consA (vO 0) (nilA)))) (retS (callD d_plain_of (consA (vO 0) (nilA))))
def d_plain_box : FD := fnD 1 1 e_plain_box
noncomputable def e_f_law_right : ES := seqS (setS 1 (bin2 addD (cO (.int 1)) (callD d_f_law_draw (consA (vO 0) (consA (cO (.int 6)) (nilA)))))) (seqS (setS 2 (callD d_f_law_box (consA (vO 0) (consA (vO 1) (nilA))))) (seqS (setS 3 (callD d_f_law_plain (consA (vO 2) (nilA)))) (seqS (ifS (blT (bin2 neD (callN reprD (consA (callD d_plain_box (consA (vO 2) (nilA))) (nilA))) (callN reprD (consA (vO 3) (nilA))))) (retS (cO (.bl false))) (nxS)) (seqS (setS 4 (nO (dispN (consA (callD d_box_chance (consA (vO 2) (nilA))) (consA (callD d_box_table (consA (vO 2) (nilA))) (nilA)))))) (seqS (ifS (notT (truT (callN allD (consA (nO (lcN (zipM (consA (bin2 ixD (vO 3) (cO (.int 0))) (consA (bin2 ixD (vO 3) (cO (.int 1))) (nilA)))) (tupG 2 (consG (nameG 5) (consG (nameG 6) (nilG)))) (yesT) (callD d_f_law_below (consA (vO 5) (consA (vO 6) (nilA)))) [5, 6])) (nilA))))) (retS (bin2 eqD (callN reprD (consA (vO 4) (nilA))) (cO (.str "[(0, 1), None]")))) (nxS)) (seqS (par2S 7 8 (consA (callD d_f_law_table (consA (bin2 ixD (vO 3) (cO (.int 0))) (consA (bin2 ixD (vO 3) (cO (.int 1))) (nilA)))) (consA (cO (.int 1)) (nilA)))) (seqS (forS (rng1I (consA (vO 1) (nilA))) (nameG 9) (setS 8 (bin2 mulD (vO 8) (bin2 addD (vO 9) (cO (.int 1)))))) (seqS (setS 10 (callD d_f_law_times (consA (tupO (consA (vO 8) (consA (cO (.int 1)) (nilA)))) (consA (callD d_f_law_determinant (consA (vO 7) (nilA))) (nilA))))) (retS (bin2 eqD (callN reprD (consA (vO 4) (nilA))) (callN reprD (consA (nO (dispN (consA (vO 10) (consA (vO 7) (nilA))))) (nilA)))))))))))))
noncomputable def d_f_law_right : FD := fnD 11 1 e_f_law_right
def e_f_law_source : ES := seqS (setS 2 (ifO (blT (bin2 ltD (vO 1) (callN lenD (consA (vO 0) (nilA))))) (callN intD (consA (bin2 ixD (vO 0) (vO 1)) (nilA))) (cO (.int 0)))) (seqS (setS 3 (bin2 addD (cO (.int 44159)) (bin2 mulD (cO (.int 5231)) (vO 1)))) (seqS (forS (seqI (sliceO (vO 0) (noP) (soP (cO (.int 7))))) (nameG 4) (setS 3 (bin2 modD (callN intD (consA (bin2 addD (bin2 addD (bin2 mulD (vO 3) (cO (.int 52361))) (bin2 mulD (bin2 modD (callN intD (consA (vO 4) (nilA))) (cO (.int 2147483549))) (cO (.int 3)))) (cO (.int 11))) (nilA))) (cO (.int 2147483549))))) (seqS (setS 3 (bin2 modD (callN intD (consA (bin2 addD (bin2 addD (bin2 mulD (vO 3) (cO (.int 211))) (bin2 modD (callN intD (consA (vO 2) (nilA))) (cO (.int 1999999973)))) (cO (.int 29))) (nilA))) (cO (.int 2147483549)))) (retN (dispN (consA (ifO (blT (bin2 geD (callN absD (consA (vO 2) (nilA))) (bin2 powD (cO (.int 10)) (cO (.int 17))))) (callN absD (consA (vO 2) (nilA))) (cO (.int 0))) (consA (vO 3) (consA (cO (.int 0)) (nilA)))))))))
def d_f_law_source : FDN := fnN 5 2 e_f_law_source
noncomputable def e_law : ES := retS (callN allD (consA (nO (lcN (rng1I (consA (callN maxD (consA (cO (.int 2)) (consA (callN minD (consA (callN lenD (consA (vO 0) (nilA))) (consA (cO (.int 3)) (nilA)))) (nilA)))) (nilA))) (nameG 1) (yesT) (callT d_f_law_right (callN' d_f_law_source (consA (vO 0) (consA (vO 1) (nilA))))) [1])) (nilA)))
noncomputable def d_law : FD := fnD 2 1 e_law
section
variable {P : Program} {w : World} {K : PySem.W.Frag} {mg : Str → Option Value} {base : Heap}
theorem ok_f_law_draw {f : Addr} {fd : FuncData}   (F : Fun K "_law_draw" "_law_draw" s_f_law_draw f fd) (z_divmod : mg "divmod" = none) (z_int : mg "int" = none) : FnG P w K mg base 1 f fd ["source", "many"] d_f_law_draw :=
  fnG_of F sc_f_law_draw fun cdv A outer s H G hr => dss_cons (ds_if (dt_cmp op_gt spec_gt (do_ix ix_seq spec_ix (dv 0) (do_int) (fun _ _ => rfl)) (do_int) (nomark _)) (dss_cons (ds_asg (do_callB call_divmod spec_divmod rfl z_divmod boot_divmod (da_cons (do_ix ix_seq spec_ix (dv 0) (do_int) (fun _ _ => rfl)) (da_cons (dv 1) (da_nil)))) (dg_tup (dgs_cons (dg_sub (j := 0) (do_int)) (dgs_cons (dg_name (i := 2) sc_f_law_draw.nd) (dgs_nil))))) (dss_one (ds_ret (dv 2)))) (dss_nil)) (dss_cons (ds_asg (do_bin op_addAny spec_add (do_ix ix_seq spec_ix (dv 0) (do_int) (fun _ _ => rfl)) (do_int)) (dg_sub (j := 0) (do_int))) (dss_cons (ds_asg (do_bin op_modN spec_mod (do_callTy call_int1 spec_int rfl z_int PyProof.Rows.boot_int (da_cons (do_bin op_addAny spec_add (do_bin op_addAny spec_add (do_bin op_mulAny spec_mul (do_ix ix_seq spec_ix (dv 0) (do_int) (fun _ _ => rfl)) (do_bin op_addAny spec_add (do_int) (do_bin op_mulAny spec_mul (do_int) (do_ix ix_seq spec_ix (dv 0) (do_int) (fun _ _ => rfl))))) (do_bin op_mulAny spec_mul (do_int) (do_ix ix_seq spec_ix (dv 0) (do_int) (fun _ _ => rfl)))) (do_int)) (da_nil))) (do_int)) (dg_sub (j := 0) (do_int))) (dss_one (ds_ret (do_bin op_modN spec_mod (do_callTy call_int1 spec_int rfl z_int PyProof.Rows.boot_int (da_cons (do_bin op_fdivG spec_fdiv (do_ix ix_seq spec_ix (dv 0) (do_int) (fun _ _ => rfl)) (do_int)) (da_nil))) (dv 1))))))
theorem ok_f_law_ratio {f : Addr} {fd : FuncData}   (F : Fun K "_law_ratio" "_law_ratio" s_f_law_ratio f fd) (z_abs : mg "abs" = none) (z_int : mg "int" = none) : FnG P w K mg base 1 f fd ["n", "m"] d_f_law_ratio :=
  fnG_of F sc_f_law_ratio fun cdv A outer s H G hr => dss_cons (ds_par2 (i := 2) (j := 3) sc_f_law_ratio.nd (da_cons (do_callB call_abs spec_abs rfl z_abs boot_abs (da_cons (dv 0) (da_nil))) (da_cons (do_callB call_abs spec_abs rfl z_abs boot_abs (da_cons (dv 1) (da_nil))) (da_nil)))) (dss_cons (ds_while (dt_cmp op_gt spec_gt (dv 3) (do_int) (nomark _)) (dss_one (ds_par2 (i := 2) (j := 3) sc_f_law_ratio.nd (da_cons (dv 3) (da_cons (do_bin op_modN spec_mod (do_callTy call_int1 spec_int rfl z_int PyProof.Rows.boot_int (da_cons (dv 2) (da_nil))) (dv 3)) (da_nil)))))) (dss_cons (ds_set (i := 2) sc_f_law_ratio.nd (do_if (dt_cmp op_gt spec_gt (dv 1) (do_int) (nomark _)) (dv 2) (do_bin op_sub spec_sub (do_int) (dv 2)))) (dss_one (ds_ret (do_tuple (da_cons (do_bin op_fdivG spec_fdiv (dv 0) (dv 2)) (da_cons (do_bin op_fdivG spec_fdiv (dv 1) (dv 2)) (da_nil))))))))
theorem ok_f_law_box {f : Addr} {fd : FuncData} {a_f_law_draw : Addr} {t_f_law_draw : FuncData} {a_f_law_ratio : Addr} {t_f_law_ratio : FuncData}  (F : Fun K "_law_box" "_law_box" s_f_law_box f fd) (D_f_law_draw : Def K mg "_law_draw" s_f_law_draw ["source", "many"] a_f_law_draw t_f_law_draw) (G_f_law_draw : FnG P w K mg base 1 a_f_law_draw t_f_law_draw ["source", "many"] d_f_law_draw) (D_f_law_ratio : Def K mg "_law_ratio" s_f_law_ratio ["n", "m"] a_f_law_ratio t_f_law_ratio) (G_f_law_ratio : FnG P w K mg base 1 a_f_law_ratio t_f_law_ratio ["n", "m"] d_f_law_ratio) (z_range : mg "range" = none) (z_tuple : mg "tuple" = none) : FnG P w K mg base 2 f fd ["source", "n"] d_f_law_box :=
  fnG_of F sc_f_law_box fun cdv A outer s H G hr => dss_cons (ds_asgM (dm_a (fun _ => do_bin op_addAny spec_add (do_int) (do_call G_f_law_draw (hr.mono (by decide)) D_f_law_draw.g D_f_law_draw.F.kp D_f_law_draw.b (da_cons (dv 0) (da_cons (do_int) (da_nil))))) (dm_n (fun _ => dn_lst (da_nil)) (dm_n (fun _ => dn_lst (da_nil)) (dm_nil)))) (ng_cons (i := 2) sc_f_law_box.nd (ng_cons (i := 3) sc_f_law_box.nd (ng_cons (i := 4) sc_f_law_box.nd (ng_nil))))) (dss_cons (ds_for (di_range1 (da_cons (dv 1) (da_nil)) rfl z_range) (dg_name (i := 5) sc_f_law_box.nd) (dss_cons (ds_set (i := 6) sc_f_law_box.nd (do_bin op_fdivG spec_fdiv (do_bin op_mulAny spec_mul (dv 2) (do_bin op_addAny spec_add (dv 5) (do_int))) (do_bin op_addAny spec_add (dv 1) (do_int)))) (dss_cons (ds_expr (do_append (i := 3) (da_cons (do_call G_f_law_draw (hr.mono (by decide)) D_f_law_draw.g D_f_law_draw.F.kp D_f_law_draw.b (da_cons (dv 0) (da_cons (do_bin op_addAny spec_add (dv 6) (do_int)) (da_nil)))) (da_nil)))) (dss_one (ds_expr (do_append (i := 4) (da_cons (do_bin op_addAny spec_add (do_bin op_addAny spec_add (dv 6) (do_int)) (do_call G_f_law_draw (hr.mono (by decide)) D_f_law_draw.g D_f_law_draw.F.kp D_f_law_draw.b (da_cons (dv 0) (da_cons (do_bin op_sub spec_sub (dv 2) (dv 6)) (da_nil))))) (da_nil)))))))) (dss_cons (ds_if (dt_cmp (op_eqAny hr.hu64) spec_eq (do_call G_f_law_draw (hr.mono (by decide)) D_f_law_draw.g D_f_law_draw.F.kp D_f_law_draw.b (da_cons (dv 0) (da_cons (do_int) (da_nil)))) (do_int) (nomark _)) (dss_one (ds_asg (do_call G_f_law_draw (hr.mono (by decide)) D_f_law_draw.g D_f_law_draw.F.kp D_f_law_draw.b (da_cons (dv 0) (da_cons (do_bin op_addAny spec_add (dv 2) (do_int)) (da_nil)))) (dg_sub (j := 3) (do_call G_f_law_draw (hr.mono (by decide)) D_f_law_draw.g D_f_law_draw.F.kp D_f_law_draw.b (da_cons (dv 0) (da_cons (dv 1) (da_nil))))))) (dss_nil)) (dss_cons (ds_if (dt_cmp (op_eqAny hr.hu64) spec_eq (do_call G_f_law_draw (hr.mono (by decide)) D_f_law_draw.g D_f_law_draw.F.kp D_f_law_draw.b (da_cons (dv 0) (da_cons (do_int) (da_nil)))) (do_int) (nomark _)) (dss_one (ds_asg (do_call G_f_law_draw (hr.mono (by decide)) D_f_law_draw.g D_f_law_draw.F.kp D_f_law_draw.b (da_cons (dv 0) (da_cons (do_bin op_addAny spec_add (dv 2) (do_int)) (da_nil)))) (dg_sub (j := 4) (do_call G_f_law_draw (hr.mono (by decide)) D_f_law_draw.g D_f_law_draw.F.kp D_f_law_draw.b (da_cons (dv 0) (da_cons (dv 1) (da_nil))))))) (dss_nil)) (dss_one (ds_ret (do_tuple (da_cons (do_callTy call_tupleF spec_tuple rfl z_tuple PyProof.Rows.boot_tuple (da_cons (do_new (dn_lcL (i := 3) (own := [("x", 7)]) sc_f_law_box.nd (dv 3) (blkOk_by (own := [("x", 7)]) rfl) (fun _ _ _ _ _ _ => dg_name (i := 7) sc_f_law_box.nd) (fun _ _ _ _ _ _ => dts_nil) (fun _ _ _ _ _ _ => do_call G_f_law_ratio (hr.mono (by decide)) D_f_law_ratio.g D_f_law_ratio.F.kp D_f_law_ratio.b (da_cons (dv 7) (da_cons (dv 2) (da_nil)))))) (da_nil))) (da_cons (do_callTy call_tupleF spec_tuple rfl z_tuple PyProof.Rows.boot_tuple (da_cons (do_new (dn_lcL (i := 4) (own := [("x", 7)]) sc_f_law_box.nd (dv 4) (blkOk_by (own := [("x", 7)]) rfl) (fun _ _ _ _ _ _ => dg_name (i := 7) sc_f_law_box.nd) (fun _ _ _ _ _ _ => dts_nil) (fun _ _ _ _ _ _ => do_call G_f_law_ratio (hr.mono (by decide)) D_f_law_ratio.g D_f_law_ratio.F.kp D_f_law_ratio.b (da_cons (dv 7) (da_cons (dv 2) (da_nil)))))) (da_nil))) (da_nil)))))))))
theorem ok_f_law_below {f : Addr} {fd : FuncData}   (F : Fun K "_law_below" "_law_below" s_f_law_below f fd) : FnG P w K mg base 1 f fd ["x", "y"] d_f_law_below :=
  fnG_of F sc_f_law_below fun cdv A outer s H G hr => dss_one (ds_ret (do_cmp op_lt spec_lt (do_bin op_mulAny spec_mul (do_ix ix_seq spec_ix (dv 0) (do_int) (fun _ _ => rfl)) (do_ix ix_seq spec_ix (dv 1) (do_int) (fun _ _ => rfl))) (do_bin op_mulAny spec_mul (do_ix ix_seq spec_ix (dv 1) (do_int) (fun _ _ => rfl)) (do_ix ix_seq spec_ix (dv 0) (do_int) (fun _ _ => rfl))) (nomark _)))
theorem ok_f_law_plain {f : Addr} {fd : FuncData} {a_f_law_below : Addr} {t_f_law_below : FuncData}  (F : Fun K "_law_plain" "_law_plain" s_f_law_plain f fd) (D_f_law_below : Def K mg "_law_below" s_f_law_below ["x", "y"] a_f_law_below t_f_law_below) (G_f_law_below : FnG P w K mg base 1 a_f_law_below t_f_law_below ["x", "y"] d_f_law_below) (z_range : mg "range" = none) (z_len : mg "len" = none) (z_tuple : mg "tuple" = none) : FnG P w K mg base 2 f fd ["box"] d_f_law_plain :=
  fnG_of F sc_f_law_plain fun cdv A outer s H G hr => dss_cons (ds_parM2 (i := 1) (j := 2) sc_f_law_plain.nd (dm_n (fun _ => dn_lst (da_nil)) (dm_n (fun _ => dn_lst (da_nil)) (dm_nil)))) (dss_cons (ds_for (di_range1 (da_cons (do_callB call_len_seq spec_len rfl z_len PySem.boot_len (da_cons (do_ix ix_seq spec_ix (dv 0) (do_int) (fun _ _ => rfl)) (da_nil))) (da_nil)) rfl z_range) (dg_name (i := 3) sc_f_law_plain.nd) (dss_cons (ds_par2 (i := 4) (j := 5) sc_f_law_plain.nd (da_cons (do_ix ix_seq spec_ix (do_ix ix_seq spec_ix (dv 0) (do_int) (fun _ _ => rfl)) (dv 3) (fun _ _ => rfl)) (da_cons (do_ix ix_seq spec_ix (do_ix ix_seq spec_ix (dv 0) (do_int) (fun _ _ => rfl)) (do_bin op_sub spec_sub (do_bin op_sub spec_sub (do_callB call_len_seq spec_len rfl z_len PySem.boot_len (da_cons (do_ix ix_seq spec_ix (dv 0) (do_int) (fun _ _ => rfl)) (da_nil))) (do_int)) (dv 3)) (fun _ _ => rfl)) (da_nil)))) (dss_cons (ds_expr (do_append (i := 1) (da_cons (do_if (PW.pt (dw_and (dt_cmp (op_neAny hr.hu64) spec_ne (dv 1) (do_new (dn_lst (da_nil))) (nomark _)) (dw_and1 (dt_tru (do_call G_f_law_below (hr.mono (by decide)) D_f_law_below.g D_f_law_below.F.kp D_f_law_below.b (da_cons (dv 4) (da_cons (do_ix ix_seq spec_ix (dv 1) (do_un un_neg spec_neg (do_int)) (fun _ _ => rfl)) (da_nil)))))))) (do_ix ix_seq spec_ix (dv 1) (do_un un_neg spec_neg (do_int)) (fun _ _ => rfl)) (dv 4)) (da_nil)))) (dss_one (ds_expr (do_append (i := 2) (da_cons (do_if (PW.pt (dw_and (dt_cmp (op_neAny hr.hu64) spec_ne (dv 2) (do_new (dn_lst (da_nil))) (nomark _)) (dw_and1 (dt_tru (do_call G_f_law_below (hr.mono (by decide)) D_f_law_below.g D_f_law_below.F.kp D_f_law_below.b (da_cons (do_ix ix_seq spec_ix (dv 2) (do_un un_neg spec_neg (do_int)) (fun _ _ => rfl)) (da_cons (dv 5) (da_nil)))))))) (do_ix ix_seq spec_ix (dv 2) (do_un un_neg spec_neg (do_int)) (fun _ _ => rfl)) (dv 5)) (da_nil)))))))) (dss_one (ds_ret (do_tuple (da_cons (do_callTy call_tupleF spec_tuple rfl z_tuple PyProof.Rows.boot_tuple (da_cons (dv 1) (da_nil))) (da_cons (do_callTy call_tupleF spec_tuple rfl z_tuple PyProof.Rows.boot_tuple (da_cons (do_rev (dv 2)) (da_nil))) (da_nil)))))))
theorem ok_f_law_times {f : Addr} {fd : FuncData} {a_f_law_ratio : Addr} {t_f_law_ratio : FuncData}  (F : Fun K "_law_times" "_law_times" s_f_law_times f fd) (D_f_law_ratio : Def K mg "_law_ratio" s_f_law_ratio ["n", "m"] a_f_law_ratio t_f_law_ratio) (G_f_law_ratio : FnG P w K mg base 1 a_f_law_ratio t_f_law_ratio ["n", "m"] d_f_law_ratio) : FnG P w K mg base 2 f fd ["x", "y"] d_f_law_times :=
  fnG_of F sc_f_law_times fun cdv A outer s H G hr => dss_one (ds_ret (do_call G_f_law_ratio (hr.mono (by decide)) D_f_law_ratio.g D_f_law_ratio.F.kp D_f_law_ratio.b (da_cons (do_bin op_mulAny spec_mul (do_ix ix_seq spec_ix (dv 0) (do_int) (fun _ _ => rfl)) (do_ix ix_seq spec_ix (dv 1) (do_int) (fun _ _ => rfl))) (da_cons (do_bin op_mulAny spec_mul (do_ix ix_seq spec_ix (dv 0) (do_int) (fun _ _ => rfl)) (do_ix ix_seq spec_ix (dv 1) (do_int) (fun _ _ => rfl))) (da_nil)))))
theorem ok_is_whole {f : Addr} {fd : FuncData}   (F : Fun K "is_whole" "is_whole" s_is_whole f fd) (z_isinstance : mg "isinstance" = none) (z_int : mg "int" = none) (z_bool : mg "bool" = none) : FnG P w K mg base 1 f fd ["value"] d_is_whole :=
  fnG_of F sc_is_whole fun cdv A outer s H G hr => dss_one (ds_ret (do_and (do_callB call_isi spec_isi rfl z_isinstance boot_isinstance (da_cons (dv 0) (da_cons (do_c (pe_bltn rfl z_int PyProof.Rows.boot_int (v := .ty "int") rfl) fun _ => .ty _) (da_nil)))) (do_one (do_not (do_callB call_isi spec_isi rfl z_isinstance boot_isinstance (da_cons (dv 0) (da_cons (do_c (pe_bltn rfl z_bool PyProof.Rows.boot_bool (v := .ty "bool") rfl) fun _ => .ty _) (da_nil))))))))
theorem ok_are_wholes {f : Addr} {fd : FuncData} {a_is_whole : Addr} {t_is_whole : FuncData}  (F : Fun K "are_wholes" "are_wholes" s_are_wholes f fd) (D_is_whole : Def K mg "is_whole" s_is_whole ["value"] a_is_whole t_is_whole) (G_is_whole : FnG P w K mg base 1 a_is_whole t_is_whole ["value"] d_is_whole) (z_isinstance : mg "isinstance" = none) (z_tuple : mg "tuple" = none) (z_len : mg "len" = none) (z_all : mg "all" = none) : FnG P w K mg base 2 f fd ["value", "many"] d_are_wholes :=
  fnG_of F sc_are_wholes fun cdv A outer s H G hr => dss_one (ds_ret (do_and (do_callB call_isi spec_isi rfl z_isinstance boot_isinstance (da_cons (dv 0) (da_cons (do_c (pe_bltn rfl z_tuple PyProof.Rows.boot_tuple (v := .ty "tuple") rfl) fun _ => .ty _) (da_nil)))) (do_and (do_cmp (op_eqAny hr.hu64) spec_eq (do_callB call_len_seq spec_len rfl z_len PySem.boot_len (da_cons (dv 0) (da_nil))) (dv 1) (nomark _)) (do_one (do_callB (cr_all rfl) spec_all rfl z_all boot_all (da_cons (do_new (dn_lc (own := [("each", 2)]) sc_are_wholes.nd (di_seq (dv 0)) (blkOk_by (own := [("each", 2)]) rfl) (fun _ _ _ _ _ _ => dg_name (i := 2) sc_are_wholes.nd) (fun _ _ _ _ _ _ => dts_nil) (fun _ _ _ _ _ _ => do_call G_is_whole (hr.mono (by decide)) D_is_whole.g D_is_whole.F.kp D_is_whole.b (da_cons (dv 2) (da_nil))))) (da_nil)))))))
theorem ok_are_coprime {f : Addr} {fd : FuncData}   (F : Fun K "are_coprime" "are_coprime" s_are_coprime f fd) (i_gcd : mg "gcd" = some (.builtin "math.gcd")) : FnG P w K mg base 1 f fd ["one", "two"] d_are_coprime :=
  fnG_of F sc_are_coprime fun cdv A outer s H G hr => dss_one (ds_ret (do_cmp (op_eqAny hr.hu64) spec_eq (do_callBfun cr_gcd spec_gcd rfl i_gcd (da_cons (dv 0) (da_cons (dv 1) (da_nil)))) (do_int) (nomark _)))
theorem ok_is_ratio {f : Addr} {fd : FuncData} {a_are_wholes : Addr} {t_are_wholes : FuncData} {a_are_coprime : Addr} {t_are_coprime : FuncData}  (F : Fun K "is_ratio" "is_ratio" s_is_ratio f fd) (D_are_wholes : Def K mg "are_wholes" s_are_wholes ["value", "many"] a_are_wholes t_are_wholes) (G_are_wholes : FnG P w K mg base 2 a_are_wholes t_are_wholes ["value", "many"] d_are_wholes) (D_are_coprime : Def K mg "are_coprime" s_are_coprime ["one", "two"] a_are_coprime t_are_coprime) (G_are_coprime : FnG P w K mg base 1 a_are_coprime t_are_coprime ["one", "two"] d_are_coprime) : FnG P w K mg base 3 f fd ["value"] d_is_ratio :=
  fnG_of F sc_is_ratio fun cdv A outer s H G hr => dss_one (ds_ret (do_and (do_call G_are_wholes (hr.mono (by decide)) D_are_wholes.g D_are_wholes.F.kp D_are_wholes.b (da_cons (dv 0) (da_cons (do_int) (da_nil)))) (do_and (do_cmp op_gt spec_gt (do_ix ix_seq spec_ix (dv 0) (do_int) (fun _ _ => rfl)) (do_int) (nomark _)) (do_one (do_call G_are_coprime (hr.mono (by decide)) D_are_coprime.g D_are_coprime.F.kp D_are_coprime.b (da_cons (do_ix ix_seq spec_ix (dv 0) (do_int) (fun _ _ => rfl)) (da_cons (do_ix ix_seq spec_ix (dv 0) (do_int) (fun _ _ => rfl)) (da_nil))))))))
theorem ok_is_from_nought {f : Addr} {fd : FuncData} {a_is_ratio : Addr} {t_is_ratio : FuncData}  (F : Fun K "is_from_nought" "is_from_nought" s_is_from_nought f fd) (D_is_ratio : Def K mg "is_ratio" s_is_ratio ["value"] a_is_ratio t_is_ratio) (G_is_ratio : FnG P w K mg base 3 a_is_ratio t_is_ratio ["value"] d_is_ratio) : FnG P w K mg base 4 f fd ["value"] d_is_from_nought :=
  fnG_of F sc_is_from_nought fun cdv A outer s H G hr => dss_one (ds_ret (do_and (do_call G_is_ratio (hr.mono (by decide)) D_is_ratio.g D_is_ratio.F.kp D_is_ratio.b (da_cons (dv 0) (da_nil))) (do_one (do_cmp op_ge spec_ge (do_ix ix_seq spec_ix (dv 0) (do_int) (fun _ _ => rfl)) (do_int) (nomark _)))))
theorem ok_is_share {f : Addr} {fd : FuncData} {a_is_from_nought : Addr} {t_is_from_nought : FuncData}  (F : Fun K "is_share" "is_share" s_is_share f fd) (D_is_from_nought : Def K mg "is_from_nought" s_is_from_nought ["value"] a_is_from_nought t_is_from_nought) (G_is_from_nought : FnG P w K mg base 4 a_is_from_nought t_is_from_nought ["value"] d_is_from_nought) : FnG P w K mg base 5 f fd ["value"] d_is_share :=
  fnG_of F sc_is_share fun cdv A outer s H G hr => dss_one (ds_ret (do_and (do_call G_is_from_nought (hr.mono (by decide)) D_is_from_nought.g D_is_from_nought.F.kp D_is_from_nought.b (da_cons (dv 0) (da_nil))) (do_one (do_cmp op_le spec_le (do_ix ix_seq spec_ix (dv 0) (do_int) (fun _ _ => rfl)) (do_ix ix_seq spec_ix (dv 0) (do_int) (fun _ _ => rfl)) (nomark _)))))
theorem ok_are_shares_all {f : Addr} {fd : FuncData} {a_is_share : Addr} {t_is_share : FuncData}  (F : Fun K "are_shares_all" "are_shares_all" s_are_shares_all f fd) (D_is_share : Def K mg "is_share" s_is_share ["value"] a_is_share t_is_share) (G_is_share : FnG P w K mg base 5 a_is_share t_is_share ["value"] d_is_share) (z_isinstance : mg "isinstance" = none) (z_tuple : mg "tuple" = none) (z_len : mg "len" = none) (z_all : mg "all" = none) : FnG P w K mg base 6 f fd ["value", "least", "most"] d_are_shares_all :=
  fnG_of F sc_are_shares_all fun cdv A outer s H G hr => dss_one (ds_ret (do_and (do_callB call_isi spec_isi rfl z_isinstance boot_isinstance (da_cons (dv 0) (da_cons (do_c (pe_bltn rfl z_tuple PyProof.Rows.boot_tuple (v := .ty "tuple") rfl) fun _ => .ty _) (da_nil)))) (do_and (do_chain op_le op_le spec_le spec_le (dv 1) (do_callB call_len_seq spec_len rfl z_len PySem.boot_len (da_cons (dv 0) (da_nil))) (dv 2)) (do_one (do_callB (cr_all rfl) spec_all rfl z_all boot_all (da_cons (do_new (dn_lc (own := [("each", 3)]) sc_are_shares_all.nd (di_seq (dv 0)) (blkOk_by (own := [("each", 3)]) rfl) (fun _ _ _ _ _ _ => dg_name (i := 3) sc_are_shares_all.nd) (fun _ _ _ _ _ _ => dts_nil) (fun _ _ _ _ _ _ => do_call G_is_share (hr.mono (by decide)) D_is_share.g D_is_share.F.kp D_is_share.b (da_cons (dv 3) (da_nil))))) (da_nil)))))))
theorem ok_wrong_in_pair {f : Addr} {fd : FuncData} {a_are_shares_all : Addr} {t_are_shares_all : FuncData}  (F : Fun K "wrong_in_pair" "wrong_in_pair" s_wrong_in_pair f fd) (D_are_shares_all : Def K mg "are_shares_all" s_are_shares_all ["value", "least", "most"] a_are_shares_all t_are_shares_all) (G_are_shares_all : FnG P w K mg base 6 a_are_shares_all t_are_shares_all ["value", "least", "most"] d_are_shares_all) (z_isinstance : mg "isinstance" = none) (z_tuple : mg "tuple" = none) (z_len : mg "len" = none) (z_all : mg "all" = none) (z_range : mg "range" = none) : FnG P w K mg base 7 f fd ["value", "least", "most"] d_wrong_in_pair :=
  fnG_of F sc_wrong_in_pair fun cdv A outer s H G hr => dss_cons (ds_if (PW.pt (dw_or (dt_not (dt_tru (do_callB call_isi spec_isi rfl z_isinstance boot_isinstance (da_cons (dv 0) (da_cons (do_c (pe_bltn rfl z_tuple PyProof.Rows.boot_tuple (v := .ty "tuple") rfl) fun _ => .ty _) (da_nil)))))) (dw_or1 (dt_cmp (op_neAny hr.hu64) spec_ne (do_callB call_len_seq spec_len rfl z_len PySem.boot_len (da_cons (dv 0) (da_nil))) (do_int) (nomark _))))) (dss_one (ds_retNew (dn_lst (da_cons (do_non) (da_nil))))) (dss_nil)) (dss_cons (ds_if (PW.pt (dw_or (dt_not (dt_tru (do_callB (cr_all rfl) spec_all rfl z_all boot_all (da_cons (do_new (dn_lc (own := [("part", 3)]) sc_wrong_in_pair.nd (di_seq (dv 0)) (blkOk_by (own := [("part", 3)]) rfl) (fun _ _ _ _ _ _ => dg_name (i := 3) sc_wrong_in_pair.nd) (fun _ _ _ _ _ _ => dts_nil) (fun _ _ _ _ _ _ => do_callB call_isi spec_isi rfl z_isinstance boot_isinstance (da_cons (dv 3) (da_cons (do_c (pe_bltn rfl z_tuple PyProof.Rows.boot_tuple (v := .ty "tuple") rfl) fun _ => .ty _) (da_nil)))))) (da_nil))))) (dw_or1 (dt_cmp (op_neAny hr.hu64) spec_ne (do_callB call_len_seq spec_len rfl z_len PySem.boot_len (da_cons (do_ix ix_seq spec_ix (dv 0) (do_int) (fun _ _ => rfl)) (da_nil))) (do_callB call_len_seq spec_len rfl z_len PySem.boot_len (da_cons (do_ix ix_seq spec_ix (dv 0) (do_int) (fun _ _ => rfl)) (da_nil))) (nomark _))))) (dss_one (ds_retNew (dn_lst (da_cons (do_non) (da_nil))))) (dss_nil)) (dss_cons (ds_if (dt_not (dt_chain op_le op_le spec_le spec_le (dv 1) (do_callB call_len_seq spec_len rfl z_len PySem.boot_len (da_cons (do_ix ix_seq spec_ix (dv 0) (do_int) (fun _ _ => rfl)) (da_nil))) (dv 2))) (dss_one (ds_retNew (dn_lst (da_cons (do_non) (da_nil))))) (dss_nil)) (dss_one (ds_ret (do_slice (do_new (dn_lc (own := [("at", 4)]) sc_wrong_in_pair.nd (di_range1 (da_cons (do_int) (da_nil)) rfl z_range) (blkOk_by (own := [("at", 4)]) rfl) (fun _ _ _ _ _ _ => dg_name (i := 4) sc_wrong_in_pair.nd) (fun _ _ _ _ _ _ => dts_one (dt_not (dt_tru (do_call G_are_shares_all (hr.mono (by decide)) D_are_shares_all.g D_are_shares_all.F.kp D_are_shares_all.b (da_cons (do_ix ix_seq spec_ix (dv 0) (dv 4) (fun _ _ => rfl)) (da_cons (dv 1) (da_cons (dv 2) (da_nil)))))))) (fun _ _ _ _ _ _ => dv 4))) (dpo_none) (dpo_some (do_int)))))))
theorem ok_wrong_in_box {f : Addr} {fd : FuncData} {a_wrong_in_pair : Addr} {t_wrong_in_pair : FuncData} {u_MOST_DRAWS : Tok} (F : Fun K "wrong_in_box" "wrong_in_box" s_wrong_in_box f fd) (D_wrong_in_pair : Def K mg "wrong_in_pair" s_wrong_in_pair ["value", "least", "most"] a_wrong_in_pair t_wrong_in_pair) (G_wrong_in_pair : FnG P w K mg base 7 a_wrong_in_pair t_wrong_in_pair ["value", "least", "most"] d_wrong_in_pair) (c_MOST_DRAWS : mg "MOST_DRAWS" = some (.int 8 u_MOST_DRAWS)) : FnG P w K mg base 8 f fd ["value"] d_wrong_in_box :=
  fnG_of F sc_wrong_in_box fun cdv A outer s H G hr => dss_one (ds_ret (do_call G_wrong_in_pair (hr.mono (by decide)) D_wrong_in_pair.g D_wrong_in_pair.F.kp D_wrong_in_pair.b (da_cons (dv 0) (da_cons (do_int) (da_cons (do_glob (v := .int 8) rfl c_MOST_DRAWS ⟨_, rfl⟩ fun _ => .int _) (da_nil))))))
theorem ok_check_box {f : Addr} {fd : FuncData} {a_wrong_in_box : Addr} {t_wrong_in_box : FuncData}  (F : Fun K "check_box" "check_box" s_check_box f fd) (D_wrong_in_box : Def K mg "wrong_in_box" s_wrong_in_box ["value"] a_wrong_in_box t_wrong_in_box) (G_wrong_in_box : FnG P w K mg base 8 a_wrong_in_box t_wrong_in_box ["value"] d_wrong_in_box) : FnG P w K mg base 9 f fd ["value"] d_check_box :=
  fnG_of F sc_check_box fun cdv A outer s H G hr => dss_cons (ds_set (i := 1) sc_check_box.nd (do_call G_wrong_in_box (hr.mono (by decide)) D_wrong_in_box.g D_wrong_in_box.F.kp D_wrong_in_box.b (da_cons (dv 0) (da_nil)))) (dss_one (ds_if (dt_cmp (op_neAny hr.hu64) spec_ne (dv 1) (do_new (dn_lst (da_nil))) (nomark _)) (dss_one (ds_never)) (dss_nil)))
theorem ok_is_below {f : Addr} {fd : FuncData}   (F : Fun K "is_below" "is_below" s_is_below f fd) : FnG P w K mg base 1 f fd ["one", "two"] d_is_below :=
  fnG_of F sc_is_below fun cdv A outer s H G hr => dss_one (ds_ret (do_cmp op_lt spec_lt (do_bin op_mulAny spec_mul (do_ix ix_seq spec_ix (dv 0) (do_int) (fun _ _ => rfl)) (do_ix ix_seq spec_ix (dv 1) (do_int) (fun _ _ => rfl))) (do_bin op_mulAny spec_mul (do_ix ix_seq spec_ix (dv 1) (do_int) (fun _ _ => rfl)) (do_ix ix_seq spec_ix (dv 0) (do_int) (fun _ _ => rfl))) (nomark _)))
theorem ok_greater_of {f : Addr} {fd : FuncData} {a_is_below : Addr} {t_is_below : FuncData}  (F : Fun K "greater_of" "greater_of" s_greater_of f fd) (D_is_below : Def K mg "is_below" s_is_below ["one", "two"] a_is_below t_is_below) (G_is_below : FnG P w K mg base 1 a_is_below t_is_below ["one", "two"] d_is_below) : FnG P w K mg base 2 f fd ["one", "two"] d_greater_of :=
  fnG_of F sc_greater_of fun cdv A outer s H G hr => dss_one (ds_ret (do_if (dt_tru (do_call G_is_below (hr.mono (by decide)) D_is_below.g D_is_below.F.kp D_is_below.b (da_cons (dv 0) (da_cons (dv 1) (da_nil))))) (dv 1) (dv 0)))
theorem ok_rising {f : Addr} {fd : FuncData} {a_greater_of : Addr} {t_greater_of : FuncData}  (F : Fun K "rising" "rising" s_rising f fd) (D_greater_of : Def K mg "greater_of" s_greater_of ["one", "two"] a_greater_of t_greater_of) (G_greater_of : FnG P w K mg base 2 a_greater_of t_greater_of ["one", "two"] d_greater_of) (z_tuple : mg "tuple" = none) : FnG P w K mg base 3 f fd ["numbers"] d_rising :=
  fnG_of F sc_rising fun cdv A outer s H G hr => dss_cons (ds_own (i := 1) sc_rising.nd (dn_lst (da_nil))) (dss_cons (ds_for (di_seq (dv 0)) (dg_name (i := 2) sc_rising.nd) (dss_one (ds_expr (do_append (i := 1) (da_cons (do_if (dt_cmp (op_eqAny hr.hu64) spec_eq (dv 1) (do_new (dn_lst (da_nil))) (nomark _)) (dv 2) (do_call G_greater_of (hr.mono (by decide)) D_greater_of.g D_greater_of.F.kp D_greater_of.b (da_cons (do_ix ix_seq spec_ix (dv 1) (do_un un_neg spec_neg (do_int)) (fun _ _ => rfl)) (da_cons (dv 2) (da_nil))))) (da_nil)))))) (dss_one (ds_ret (do_callTy call_tupleF spec_tuple rfl z_tuple PyProof.Rows.boot_tuple (da_cons (dv 1) (da_nil))))))
theorem ok_lesser_of {f : Addr} {fd : FuncData} {a_is_below : Addr} {t_is_below : FuncData}  (F : Fun K "lesser_of" "lesser_of" s_lesser_of f fd) (D_is_below : Def K mg "is_below" s_is_below ["one", "two"] a_is_below t_is_below) (G_is_below : FnG P w K mg base 1 a_is_below t_is_below ["one", "two"] d_is_below) : FnG P w K mg base 2 f fd ["one", "two"] d_lesser_of :=
  fnG_of F sc_lesser_of fun cdv A outer s H G hr => dss_one (ds_ret (do_if (dt_tru (do_call G_is_below (hr.mono (by decide)) D_is_below.g D_is_below.F.kp D_is_below.b (da_cons (dv 1) (da_cons (dv 0) (da_nil))))) (dv 1) (dv 0)))
theorem ok_falling_back {f : Addr} {fd : FuncData} {a_lesser_of : Addr} {t_lesser_of : FuncData}  (F : Fun K "falling_back" "falling_back" s_falling_back f fd) (D_lesser_of : Def K mg "lesser_of" s_lesser_of ["one", "two"] a_lesser_of t_lesser_of) (G_lesser_of : FnG P w K mg base 2 a_lesser_of t_lesser_of ["one", "two"] d_lesser_of) (z_tuple : mg "tuple" = none) : FnG P w K mg base 3 f fd ["numbers"] d_falling_back :=
  fnG_of F sc_falling_back fun cdv A outer s H G hr => dss_cons (ds_own (i := 1) sc_falling_back.nd (dn_lst (da_nil))) (dss_cons (ds_for (di_seq (do_rev (dv 0))) (dg_name (i := 2) sc_falling_back.nd) (dss_one (ds_expr (do_append (i := 1) (da_cons (do_if (dt_cmp (op_eqAny hr.hu64) spec_eq (dv 1) (do_new (dn_lst (da_nil))) (nomark _)) (dv 2) (do_call G_lesser_of (hr.mono (by decide)) D_lesser_of.g D_lesser_of.F.kp D_lesser_of.b (da_cons (do_ix ix_seq spec_ix (dv 1) (do_un un_neg spec_neg (do_int)) (fun _ _ => rfl)) (da_cons (dv 2) (da_nil))))) (da_nil)))))) (dss_one (ds_ret (do_callTy call_tupleF spec_tuple rfl z_tuple PyProof.Rows.boot_tuple (da_cons (do_rev (dv 1)) (da_nil))))))
theorem ok_plain_of {f : Addr} {fd : FuncData} {a_falling_back : Addr} {t_falling_back : FuncData} {a_rising : Addr} {t_rising : FuncData}  (F : Fun K "plain_of" "plain_of" s_plain_of f fd) (D_falling_back : Def K mg "falling_back" s_falling_back ["numbers"] a_falling_back t_falling_back) (G_falling_back : FnG P w K mg base 3 a_falling_back t_falling_back ["numbers"] d_falling_back) (D_rising : Def K mg "rising" s_rising ["numbers"] a_rising t_rising) (G_rising : FnG P w K mg base 3 a_rising t_rising ["numbers"] d_rising) : FnG P w K mg base 4 f fd ["box"] d_plain_of :=
  fnG_of F sc_plain_of fun cdv A outer s H G hr => dss_one (ds_ret (do_tuple (da_cons (do_call G_rising (hr.mono (by decide)) D_rising.g D_rising.F.kp D_rising.b (da_cons (do_ix ix_seq spec_ix (dv 0) (do_int) (fun _ _ => rfl)) (da_nil))) (da_cons (do_call G_falling_back (hr.mono (by decide)) D_falling_back.g D_falling_back.F.kp D_falling_back.b (da_cons (do_ix ix_seq spec_ix (dv 0) (do_int) (fun _ _ => rfl)) (da_nil))) (da_nil)))))
theorem ok_lowest {f : Addr} {fd : FuncData}   (F : Fun K "lowest" "lowest" s_lowest f fd) (i_gcd : mg "gcd" = some (.builtin "math.gcd")) : FnG P w K mg base 1 f fd ["top", "under"] d_lowest :=
  fnG_of F sc_lowest fun cdv A outer s H G hr => dss_cons (ds_set (i := 2) sc_lowest.nd (do_if (dt_cmp op_gt spec_gt (dv 1) (do_int) (nomark _)) (do_callBfun cr_gcd spec_gcd rfl i_gcd (da_cons (dv 0) (da_cons (dv 1) (da_nil)))) (do_un un_neg spec_neg (do_callBfun cr_gcd spec_gcd rfl i_gcd (da_cons (dv 0) (da_cons (dv 1) (da_nil))))))) (dss_one (ds_ret (do_tuple (da_cons (do_bin op_fdivG spec_fdiv (dv 0) (dv 2)) (da_cons (do_bin op_fdivG spec_fdiv (dv 1) (dv 2)) (da_nil))))))
theorem ok_minus {f : Addr} {fd : FuncData} {a_lowest : Addr} {t_lowest : FuncData}  (F : Fun K "minus" "minus" s_minus f fd) (D_lowest : Def K mg "lowest" s_lowest ["top", "under"] a_lowest t_lowest) (G_lowest : FnG P w K mg base 1 a_lowest t_lowest ["top", "under"] d_lowest) : FnG P w K mg base 2 f fd ["one", "two"] d_minus :=
  fnG_of F sc_minus fun cdv A outer s H G hr => dss_one (ds_ret (do_call G_lowest (hr.mono (by decide)) D_lowest.g D_lowest.F.kp D_lowest.b (da_cons (do_bin op_sub spec_sub (do_bin op_mulAny spec_mul (do_ix ix_seq spec_ix (dv 0) (do_int) (fun _ _ => rfl)) (do_ix ix_seq spec_ix (dv 1) (do_int) (fun _ _ => rfl))) (do_bin op_mulAny spec_mul (do_ix ix_seq spec_ix (dv 1) (do_int) (fun _ _ => rfl)) (do_ix ix_seq spec_ix (dv 0) (do_int) (fun _ _ => rfl)))) (da_cons (do_bin op_mulAny spec_mul (do_ix ix_seq spec_ix (dv 0) (do_int) (fun _ _ => rfl)) (do_ix ix_seq spec_ix (dv 1) (do_int) (fun _ _ => rfl))) (da_nil)))))
theorem ok_over {f : Addr} {fd : FuncData} {a_lowest : Addr} {t_lowest : FuncData}  (F : Fun K "over" "over" s_over f fd) (D_lowest : Def K mg "lowest" s_lowest ["top", "under"] a_lowest t_lowest) (G_lowest : FnG P w K mg base 1 a_lowest t_lowest ["top", "under"] d_lowest) : FnG P w K mg base 2 f fd ["one", "two"] d_over :=
  fnG_of F sc_over fun cdv A outer s H G hr => dss_one (ds_ret (do_call G_lowest (hr.mono (by decide)) D_lowest.g D_lowest.F.kp D_lowest.b (da_cons (do_bin op_mulAny spec_mul (do_ix ix_seq spec_ix (dv 0) (do_int) (fun _ _ => rfl)) (do_ix ix_seq spec_ix (dv 1) (do_int) (fun _ _ => rfl))) (da_cons (do_bin op_mulAny spec_mul (do_ix ix_seq spec_ix (dv 0) (do_int) (fun _ _ => rfl)) (do_ix ix_seq spec_ix (dv 1) (do_int) (fun _ _ => rfl))) (da_nil)))))
theorem ok_powered {f : Addr} {fd : FuncData}  {A_ONE : Addr} {u_ONE v_ONE : Tok} {n_ONE : Nat} {s_ONE : Array (Option Value)} (F : Fun K "powered" "powered" s_powered f fd) (z_range : mg "range" = none) (c_ONE : mg "ONE" = some (.ref A_ONE)) (o_ONE : K.lookup A_ONE = some ⟨.type "tuple", none, .seq #[.int 1 u_ONE, .int 1 v_ONE] n_ONE, s_ONE⟩) : FnG P w K mg base 1 f fd ["one", "many"] d_powered :=
  fnG_of F sc_powered fun cdv A outer s H G hr => dss_cons (ds_set (i := 2) sc_powered.nd (do_globQ rfl c_ONE o_ONE)) (dss_cons (ds_for (di_range1 (da_cons (dv 1) (da_nil)) rfl z_range) (dg_name (i := 3) sc_powered.nd) (dss_one (ds_set (i := 2) sc_powered.nd (do_tuple (da_cons (do_bin op_mulAny spec_mul (do_ix ix_seq spec_ix (dv 2) (do_int) (fun _ _ => rfl)) (do_ix ix_seq spec_ix (dv 0) (do_int) (fun _ _ => rfl))) (da_cons (do_bin op_mulAny spec_mul (do_ix ix_seq spec_ix (dv 2) (do_int) (fun _ _ => rfl)) (do_ix ix_seq spec_ix (dv 0) (do_int) (fun _ _ => rfl))) (da_nil))))))) (dss_one (ds_ret (dv 2))))
theorem ok_whole {f : Addr} {fd : FuncData}   (F : Fun K "whole" "whole" s_whole f fd) : FnG P w K mg base 1 f fd ["number"] d_whole :=
  fnG_of F sc_whole fun cdv A outer s H G hr => dss_one (ds_ret (do_tuple (da_cons (dv 0) (da_cons (do_int) (da_nil)))))
theorem ok_product_up_to {f : Addr} {fd : FuncData}   (F : Fun K "product_up_to" "product_up_to" s_product_up_to f fd) (z_range : mg "range" = none) : FnG P w K mg base 1 f fd ["many"] d_product_up_to :=
  fnG_of F sc_product_up_to fun cdv A outer s H G hr => dss_cons (ds_set (i := 1) sc_product_up_to.nd (do_int)) (dss_cons (ds_for (di_range2 (da_cons (do_int) (da_cons (do_bin op_addAny spec_add (dv 0) (do_int)) (da_nil))) rfl z_range) (dg_name (i := 2) sc_product_up_to.nd) (dss_one (ds_set (i := 1) sc_product_up_to.nd (do_bin op_mulAny spec_mul (dv 1) (dv 2))))) (dss_one (ds_ret (dv 1))))
theorem ok_entry_of {f : Addr} {fd : FuncData} {a_minus : Addr} {t_minus : FuncData} {a_over : Addr} {t_over : FuncData} {a_whole : Addr} {t_whole : FuncData} {a_product_up_to : Addr} {t_product_up_to : FuncData} {a_powered : Addr} {t_powered : FuncData} {A_ONE : Addr} {u_ONE v_ONE : Tok} {n_ONE : Nat} {s_ONE : Array (Option Value)} {A_ZERO : Addr} {u_ZERO v_ZERO : Tok} {n_ZERO : Nat} {s_ZERO : Array (Option Value)} (F : Fun K "entry_of" "entry_of" s_entry_of f fd) (D_minus : Def K mg "minus" s_minus ["one", "two"] a_minus t_minus) (G_minus : FnG P w K mg base 2 a_minus t_minus ["one", "two"] d_minus) (D_over : Def K mg "over" s_over ["one", "two"] a_over t_over) (G_over : FnG P w K mg base 2 a_over t_over ["one", "two"] d_over) (D_whole : Def K mg "whole" s_whole ["number"] a_whole t_whole) (G_whole : FnG P w K mg base 1 a_whole t_whole ["number"] d_whole) (D_product_up_to : Def K mg "product_up_to" s_product_up_to ["many"] a_product_up_to t_product_up_to) (G_product_up_to : FnG P w K mg base 1 a_product_up_to t_product_up_to ["many"] d_product_up_to) (D_powered : Def K mg "powered" s_powered ["one", "many"] a_powered t_powered) (G_powered : FnG P w K mg base 1 a_powered t_powered ["one", "many"] d_powered) (c_ONE : mg "ONE" = some (.ref A_ONE)) (o_ONE : K.lookup A_ONE = some ⟨.type "tuple", none, .seq #[.int 1 u_ONE, .int 1 v_ONE] n_ONE, s_ONE⟩) (c_ZERO : mg "ZERO" = some (.ref A_ZERO)) (o_ZERO : K.lookup A_ZERO = some ⟨.type "tuple", none, .seq #[.int 0 u_ZERO, .int 1 v_ZERO] n_ZERO, s_ZERO⟩) : FnG P w K mg base 3 f fd ["lows", "highs", "row", "column"] d_entry_of :=
  fnG_of F sc_entry_of fun cdv A outer s H G hr => dss_cons (ds_set (i := 4) sc_entry_of.nd (do_bin op_addAny spec_add (do_bin op_sub spec_sub (dv 3) (dv 2)) (do_int))) (dss_cons (ds_if (dt_cmp op_le spec_le (dv 4) (do_int) (nomark _)) (dss_one (ds_ret (do_if (dt_cmp (op_eqAny hr.hu64) spec_eq (dv 4) (do_int) (nomark _)) (do_globQ rfl c_ONE o_ONE) (do_globQ rfl c_ZERO o_ZERO)))) (dss_nil)) (dss_cons (ds_set (i := 5) sc_entry_of.nd (do_call G_minus (hr.mono (by decide)) D_minus.g D_minus.F.kp D_minus.b (da_cons (do_ix ix_seq spec_ix (dv 1) (dv 2) (fun _ _ => rfl)) (da_cons (do_ix ix_seq spec_ix (dv 0) (dv 3) (fun _ _ => rfl)) (da_nil))))) (dss_one (ds_ret (do_if (dt_cmp op_gt spec_gt (do_ix ix_seq spec_ix (dv 5) (do_int) (fun _ _ => rfl)) (do_int) (nomark _)) (do_call G_over (hr.mono (by decide)) D_over.g D_over.F.kp D_over.b (da_cons (do_call G_powered (hr.mono (by decide)) D_powered.g D_powered.F.kp D_powered.b (da_cons (dv 5) (da_cons (dv 4) (da_nil)))) (da_cons (do_call G_whole (hr.mono (by decide)) D_whole.g D_whole.F.kp D_whole.b (da_cons (do_call G_product_up_to (hr.mono (by decide)) D_product_up_to.g D_product_up_to.F.kp D_product_up_to.b (da_cons (dv 4) (da_nil))) (da_nil))) (da_nil)))) (do_globQ rfl c_ZERO o_ZERO))))))
theorem ok_table_of {f : Addr} {fd : FuncData} {a_plain_of : Addr} {t_plain_of : FuncData} {a_is_below : Addr} {t_is_below : FuncData} {a_entry_of : Addr} {t_entry_of : FuncData}  (F : Fun K "table_of" "table_of" s_table_of f fd) (D_plain_of : Def K mg "plain_of" s_plain_of ["box"] a_plain_of t_plain_of) (G_plain_of : FnG P w K mg base 4 a_plain_of t_plain_of ["box"] d_plain_of) (D_is_below : Def K mg "is_below" s_is_below ["one", "two"] a_is_below t_is_below) (G_is_below : FnG P w K mg base 1 a_is_below t_is_below ["one", "two"] d_is_below) (D_entry_of : Def K mg "entry_of" s_entry_of ["lows", "highs", "row", "column"] a_entry_of t_entry_of) (G_entry_of : FnG P w K mg base 3 a_entry_of t_entry_of ["lows", "highs", "row", "column"] d_entry_of) (z_all : mg "all" = none) (z_zip : mg "zip" = none) (z_range : mg "range" = none) (z_len : mg "len" = none) (z_tuple : mg "tuple" = none) : FnG P w K mg base 5 f fd ["box"] d_table_of :=
  fnG_of F sc_table_of fun cdv A outer s H G hr => dss_cons (ds_asg (do_call G_plain_of (hr.mono (by decide)) D_plain_of.g D_plain_of.F.kp D_plain_of.b (da_cons (dv 0) (da_nil))) (dg_tup (dgs_cons (dg_name (i := 1) sc_table_of.nd) (dgs_cons (dg_name (i := 2) sc_table_of.nd) (dgs_nil))))) (dss_cons (ds_if (dt_not (dt_tru (do_callB (cr_all rfl) spec_all rfl z_all boot_all (da_cons (do_new (dn_lc (own := [("low", 3), ("high", 4)]) sc_table_of.nd (di_zipM (da_cons (dv 1) (da_cons (dv 2) (da_nil))) rfl z_zip) (blkOk_by (own := [("low", 3), ("high", 4)]) rfl) (fun _ _ _ _ _ _ => dg_tup (dgs_cons (dg_name (i := 3) sc_table_of.nd) (dgs_cons (dg_name (i := 4) sc_table_of.nd) (dgs_nil)))) (fun _ _ _ _ _ _ => dts_nil) (fun _ _ _ _ _ _ => do_call G_is_below (hr.mono (by decide)) D_is_below.g D_is_below.F.kp D_is_below.b (da_cons (dv 3) (da_cons (dv 4) (da_nil)))))) (da_nil))))) (dss_one (ds_retNew (dn_lst (da_nil)))) (dss_nil)) (dss_cons (ds_set (i := 5) sc_table_of.nd (do_callTy cr_range1 spec_rg rfl z_range boot_range (da_cons (do_callB call_len_seq spec_len rfl z_len PySem.boot_len (da_cons (dv 1) (da_nil))) (da_nil)))) (dss_one (ds_retNew (dn_lc (own := [("row", 7)]) sc_table_of.nd (di_rgv (dv 5)) (blkOk_by (own := [("row", 7)]) rfl) (fun _ _ _ _ _ _ => dg_name (i := 7) sc_table_of.nd) (fun _ _ _ _ _ _ => dts_nil) (fun _ _ _ _ _ _ => do_callTy call_tupleF spec_tuple rfl z_tuple PyProof.Rows.boot_tuple (da_cons (do_new (dn_lc (own := [("column", 6)]) sc_table_of.nd (di_rgv (dv 5)) (blkOk_by (own := [("column", 6)]) rfl) (fun _ _ _ _ _ _ => dg_name (i := 6) sc_table_of.nd) (fun _ _ _ _ _ _ => dts_nil) (fun _ _ _ _ _ _ => do_call G_entry_of (hr.mono (by decide)) D_entry_of.g D_entry_of.F.kp D_entry_of.b (da_cons (dv 1) (da_cons (dv 2) (da_cons (dv 7) (da_cons (dv 6) (da_nil)))))))) (da_nil))))))))
theorem ok_times {f : Addr} {fd : FuncData} {a_lowest : Addr} {t_lowest : FuncData}  (F : Fun K "times" "times" s_times f fd) (D_lowest : Def K mg "lowest" s_lowest ["top", "under"] a_lowest t_lowest) (G_lowest : FnG P w K mg base 1 a_lowest t_lowest ["top", "under"] d_lowest) : FnG P w K mg base 2 f fd ["one", "two"] d_times :=
  fnG_of F sc_times fun cdv A outer s H G hr => dss_one (ds_ret (do_call G_lowest (hr.mono (by decide)) D_lowest.g D_lowest.F.kp D_lowest.b (da_cons (do_bin op_mulAny spec_mul (do_ix ix_seq spec_ix (dv 0) (do_int) (fun _ _ => rfl)) (do_ix ix_seq spec_ix (dv 1) (do_int) (fun _ _ => rfl))) (da_cons (do_bin op_mulAny spec_mul (do_ix ix_seq spec_ix (dv 0) (do_int) (fun _ _ => rfl)) (do_ix ix_seq spec_ix (dv 1) (do_int) (fun _ _ => rfl))) (da_nil)))))
theorem ok_row_less {f : Addr} {fd : FuncData} {a_minus : Addr} {t_minus : FuncData}  (F : Fun K "row_less" "row_less" s_row_less f fd) (D_minus : Def K mg "minus" s_minus ["one", "two"] a_minus t_minus) (G_minus : FnG P w K mg base 2 a_minus t_minus ["one", "two"] d_minus) (z_tuple : mg "tuple" = none) (z_zip : mg "zip" = none) : FnG P w K mg base 3 f fd ["one", "two"] d_row_less :=
  fnG_of F sc_row_less fun cdv A outer s H G hr => dss_one (ds_ret (do_callTy call_tupleF spec_tuple rfl z_tuple PyProof.Rows.boot_tuple (da_cons (do_new (dn_lc (own := [("here", 2), ("there", 3)]) sc_row_less.nd (di_zipM (da_cons (dv 0) (da_cons (dv 1) (da_nil))) rfl z_zip) (blkOk_by (own := [("here", 2), ("there", 3)]) rfl) (fun _ _ _ _ _ _ => dg_tup (dgs_cons (dg_name (i := 2) sc_row_less.nd) (dgs_cons (dg_name (i := 3) sc_row_less.nd) (dgs_nil)))) (fun _ _ _ _ _ _ => dts_nil) (fun _ _ _ _ _ _ => do_call G_minus (hr.mono (by decide)) D_minus.g D_minus.F.kp D_minus.b (da_cons (dv 2) (da_cons (dv 3) (da_nil)))))) (da_nil))))
theorem ok_row_scaled {f : Addr} {fd : FuncData} {a_times : Addr} {t_times : FuncData}  (F : Fun K "row_scaled" "row_scaled" s_row_scaled f fd) (D_times : Def K mg "times" s_times ["one", "two"] a_times t_times) (G_times : FnG P w K mg base 2 a_times t_times ["one", "two"] d_times) (z_tuple : mg "tuple" = none) : FnG P w K mg base 3 f fd ["row", "number"] d_row_scaled :=
  fnG_of F sc_row_scaled fun cdv A outer s H G hr => dss_one (ds_ret (do_callTy call_tupleF spec_tuple rfl z_tuple PyProof.Rows.boot_tuple (da_cons (do_new (dn_lc (own := [("each", 2)]) sc_row_scaled.nd (di_seq (dv 0)) (blkOk_by (own := [("each", 2)]) rfl) (fun _ _ _ _ _ _ => dg_name (i := 2) sc_row_scaled.nd) (fun _ _ _ _ _ _ => dts_nil) (fun _ _ _ _ _ _ => do_call G_times (hr.mono (by decide)) D_times.g D_times.F.kp D_times.b (da_cons (dv 2) (da_cons (dv 1) (da_nil)))))) (da_nil))))
theorem ok_determinant {f : Addr} {fd : FuncData} {a_times : Addr} {t_times : FuncData} {a_minus : Addr} {t_minus : FuncData} {a_row_less : Addr} {t_row_less : FuncData} {a_row_scaled : Addr} {t_row_scaled : FuncData} {a_over : Addr} {t_over : FuncData} {A_ONE : Addr} {u_ONE v_ONE : Tok} {n_ONE : Nat} {s_ONE : Array (Option Value)} {A_ZERO : Addr} {u_ZERO v_ZERO : Tok} {n_ZERO : Nat} {s_ZERO : Array (Option Value)} (F : Fun K "determinant" "determinant" s_determinant f fd) (D_times : Def K mg "times" s_times ["one", "two"] a_times t_times) (G_times : FnG P w K mg base 2 a_times t_times ["one", "two"] d_times) (D_minus : Def K mg "minus" s_minus ["one", "two"] a_minus t_minus) (G_minus : FnG P w K mg base 2 a_minus t_minus ["one", "two"] d_minus) (D_row_less : Def K mg "row_less" s_row_less ["one", "two"] a_row_less t_row_less) (G_row_less : FnG P w K mg base 3 a_row_less t_row_less ["one", "two"] d_row_less) (D_row_scaled : Def K mg "row_scaled" s_row_scaled ["row", "number"] a_row_scaled t_row_scaled) (G_row_scaled : FnG P w K mg base 3 a_row_scaled t_row_scaled ["row", "number"] d_row_scaled) (D_over : Def K mg "over" s_over ["one", "two"] a_over t_over) (G_over : FnG P w K mg base 2 a_over t_over ["one", "two"] d_over) (z_tuple : mg "tuple" = none) (z_range : mg "range" = none) (z_len : mg "len" = none) (c_ONE : mg "ONE" = some (.ref A_ONE)) (o_ONE : K.lookup A_ONE = some ⟨.type "tuple", none, .seq #[.int 1 u_ONE, .int 1 v_ONE] n_ONE, s_ONE⟩) (c_ZERO : mg "ZERO" = some (.ref A_ZERO)) (o_ZERO : K.lookup A_ZERO = some ⟨.type "tuple", none, .seq #[.int 0 u_ZERO, .int 1 v_ZERO] n_ZERO, s_ZERO⟩) : FnG P w K mg base 4 f fd ["table"] d_determinant :=
  fnG_of F sc_determinant fun cdv A outer s H G hr => dss_cons (ds_asgM (dm_n (fun _ => dn_lc (own := [("row", 3)]) sc_determinant.nd (di_seq (dv 0)) (blkOk_by (own := [("row", 3)]) rfl) (fun _ _ _ _ _ _ => dg_name (i := 3) sc_determinant.nd) (fun _ _ _ _ _ _ => dts_nil) (fun _ _ _ _ _ _ => do_callTy call_tupleF spec_tuple rfl z_tuple PyProof.Rows.boot_tuple (da_cons (dv 3) (da_nil)))) (dm_a (fun _ => do_globQ rfl c_ONE o_ONE) (dm_nil))) (ng_cons (i := 1) sc_determinant.nd (ng_cons (i := 2) sc_determinant.nd (ng_nil)))) (dss_cons (ds_while (dt_cmp (op_neAny hr.hu64) spec_ne (dv 1) (do_new (dn_lst (da_nil))) (nomark _)) (dss_cons (ds_setLc (own := [("at", 5)]) (i := 4) sc_determinant.nd (di_range1 (da_cons (do_callB call_len_seq spec_len rfl z_len PySem.boot_len (da_cons (dv 1) (da_nil))) (da_nil)) rfl z_range) (blkOk_by (own := [("at", 5)]) rfl) (fun _ _ _ _ _ _ => dg_name (i := 5) sc_determinant.nd) (fun _ _ _ _ _ _ => dts_one (dt_cmp (op_neAny hr.hu64) spec_ne (do_ix ix_seq spec_ix (do_ix ix_seq spec_ix (dv 1) (dv 5) (fun _ _ => rfl)) (do_int) (fun _ _ => rfl)) (do_globQ rfl c_ZERO o_ZERO) (nomark _))) (fun _ _ _ _ _ _ => dv 5) (sw_true rfl rfl rfl rfl)) (dss_cons (ds_if (dt_cmp (op_eqAny hr.hu64) spec_eq (dv 4) (do_new (dn_lst (da_nil))) (nomark _)) (dss_one (ds_ret (do_globQ rfl c_ZERO o_ZERO))) (dss_nil)) (dss_cons (ds_set (i := 6) sc_determinant.nd (do_popAt (i := 1) (da_cons (do_ix ix_seq spec_ix (dv 4) (do_int) (fun _ _ => rfl)) (da_nil)))) (dss_cons (ds_set (i := 2) sc_determinant.nd (do_call G_times (hr.mono (by decide)) D_times.g D_times.F.kp D_times.b (da_cons (dv 2) (da_cons (do_if (dt_cmp (op_eqAny hr.hu64) spec_eq (do_bin op_modN spec_mod (do_ix ix_seq spec_ix (dv 4) (do_int) (fun _ _ => rfl)) (do_int)) (do_int) (nomark _)) (do_ix ix_seq spec_ix (dv 6) (do_int) (fun _ _ => rfl)) (do_call G_minus (hr.mono (by decide)) D_minus.g D_minus.F.kp D_minus.b (da_cons (do_globQ rfl c_ZERO o_ZERO) (da_cons (do_ix ix_seq spec_ix (dv 6) (do_int) (fun _ _ => rfl)) (da_nil))))) (da_nil))))) (dss_one (ds_own (i := 1) sc_determinant.nd (dn_lcL (i := 1) (own := [("row", 3)]) sc_determinant.nd (dv 1) (blkOk_by (own := [("row", 3)]) rfl) (fun _ _ _ _ _ _ => dg_name (i := 3) sc_determinant.nd) (fun _ _ _ _ _ _ => dts_nil) (fun _ _ _ _ _ _ => do_slice (do_call G_row_less (hr.mono (by decide)) D_row_less.g D_row_less.F.kp D_row_less.b (da_cons (dv 3) (da_cons (do_call G_row_scaled (hr.mono (by decide)) D_row_scaled.g D_row_scaled.F.kp D_row_scaled.b (da_cons (dv 6) (da_cons (do_call G_over (hr.mono (by decide)) D_over.g D_over.F.kp D_over.b (da_cons (do_ix ix_seq spec_ix (dv 3) (do_int) (fun _ _ => rfl)) (da_cons (do_ix ix_seq spec_ix (dv 6) (do_int) (fun _ _ => rfl)) (da_nil)))) (da_nil)))) (da_nil)))) (dpo_some (do_int)) (dpo_none)))))))))) (dss_one (ds_ret (dv 2))))
theorem ok_chance_of {f : Addr} {fd : FuncData} {a_table_of : Addr} {t_table_of : FuncData} {a_times : Addr} {t_times : FuncData} {a_determinant : Addr} {t_determinant : FuncData} {a_whole : Addr} {t_whole : FuncData} {a_product_up_to : Addr} {t_product_up_to : FuncData} {A_ZERO : Addr} {u_ZERO v_ZERO : Tok} {n_ZERO : Nat} {s_ZERO : Array (Option Value)} (F : Fun K "chance_of" "chance_of" s_chance_of f fd) (D_table_of : Def K mg "table_of" s_table_of ["box"] a_table_of t_table_of) (G_table_of : FnG P w K mg base 5 a_table_of t_table_of ["box"] d_table_of) (D_times : Def K mg "times" s_times ["one", "two"] a_times t_times) (G_times : FnG P w K mg base 2 a_times t_times ["one", "two"] d_times) (D_determinant : Def K mg "determinant" s_determinant ["table"] a_determinant t_determinant) (G_determinant : FnG P w K mg base 4 a_determinant t_determinant ["table"] d_determinant) (D_whole : Def K mg "whole" s_whole ["number"] a_whole t_whole) (G_whole : FnG P w K mg base 1 a_whole t_whole ["number"] d_whole) (D_product_up_to : Def K mg "product_up_to" s_product_up_to ["many"] a_product_up_to t_product_up_to) (G_product_up_to : FnG P w K mg base 1 a_product_up_to t_product_up_to ["many"] d_product_up_to) (z_len : mg "len" = none) (c_ZERO : mg "ZERO" = some (.ref A_ZERO)) (o_ZERO : K.lookup A_ZERO = some ⟨.type "tuple", none, .seq #[.int 0 u_ZERO, .int 1 v_ZERO] n_ZERO, s_ZERO⟩) : FnG P w K mg base 6 f fd ["box"] d_chance_of :=
  fnG_of F sc_chance_of fun cdv A outer s H G hr => dss_cons (ds_set (i := 1) sc_chance_of.nd (do_call G_table_of (hr.mono (by decide)) D_table_of.g D_table_of.F.kp D_table_of.b (da_cons (dv 0) (da_nil)))) (dss_one (ds_ret (do_if (dt_cmp (op_eqAny hr.hu64) spec_eq (dv 1) (do_new (dn_lst (da_nil))) (nomark _)) (do_globQ rfl c_ZERO o_ZERO) (do_call G_times (hr.mono (by decide)) D_times.g D_times.F.kp D_times.b (da_cons (do_call G_whole (hr.mono (by decide)) D_whole.g D_whole.F.kp D_whole.b (da_cons (do_call G_product_up_to (hr.mono (by decide)) D_product_up_to.g D_product_up_to.F.kp D_product_up_to.b (da_cons (do_callB call_len_seq spec_len rfl z_len PySem.boot_len (da_cons (dv 1) (da_nil))) (da_nil))) (da_nil))) (da_cons (do_call G_determinant (hr.mono (by decide)) D_determinant.g D_determinant.F.kp D_determinant.b (da_cons (dv 1) (da_nil))) (da_nil)))))))
theorem ok_box_chance {f : Addr} {fd : FuncData} {a_check_box : Addr} {t_check_box : FuncData} {a_chance_of : Addr} {t_chance_of : FuncData}  (F : Fun K "box_chance" "box_chance" s_box_chance f fd) (D_check_box : Def K mg "check_box" s_check_box ["value"] a_check_box t_check_box) (G_check_box : FnG P w K mg base 9 a_check_box t_check_box ["value"] d_check_box) (D_chance_of : Def K mg "chance_of" s_chance_of ["box"] a_chance_of t_chance_of) (G_chance_of : FnG P w K mg base 6 a_chance_of t_chance_of ["box"] d_chance_of) : FnG P w K mg base 10 f fd ["box"] d_box_chance :=
  fnG_of F sc_box_chance fun cdv A outer s H G hr => dss_cons (ds_expr (do_call G_check_box (hr.mono (by decide)) D_check_box.g D_check_box.F.kp D_check_box.b (da_cons (dv 0) (da_nil)))) (dss_one (ds_ret (do_call G_chance_of (hr.mono (by decide)) D_chance_of.g D_chance_of.F.kp D_chance_of.b (da_cons (dv 0) (da_nil)))))
theorem ok_box_table {f : Addr} {fd : FuncData} {a_check_box : Addr} {t_check_box : FuncData} {a_table_of : Addr} {t_table_of : FuncData}  (F : Fun K "box_table" "box_table" s_box_table f fd) (D_check_box : Def K mg "check_box" s_check_box ["value"] a_check_box t_check_box) (G_check_box : FnG P w K mg base 9 a_check_box t_check_box ["value"] d_check_box) (D_table_of : Def K mg "table_of" s_table_of ["box"] a_table_of t_table_of) (G_table_of : FnG P w K mg base 5 a_table_of t_table_of ["box"] d_table_of) (z_tuple : mg "tuple" = none) : FnG P w K mg base 10 f fd ["box"] d_box_table :=
  fnG_of F sc_box_table fun cdv A outer s H G hr => dss_cons (ds_expr (do_call G_check_box (hr.mono (by decide)) D_check_box.g D_check_box.F.kp D_check_box.b (da_cons (dv 0) (da_nil)))) (dss_cons (ds_set (i := 1) sc_box_table.nd (do_call G_table_of (hr.mono (by decide)) D_table_of.g D_table_of.F.kp D_table_of.b (da_cons (dv 0) (da_nil)))) (dss_one (ds_ret (do_if (dt_cmp (op_eqAny hr.hu64) spec_eq (dv 1) (do_new (dn_lst (da_nil))) (nomark _)) (do_non) (do_callTy call_tupleF spec_tuple rfl z_tuple PyProof.Rows.boot_tuple (da_cons (dv 1) (da_nil)))))))
theorem ok_f_law_entry {f : Addr} {fd : FuncData} {a_f_law_ratio : Addr} {t_f_law_ratio : FuncData} {a_f_law_times : Addr} {t_f_law_times : FuncData}  (F : Fun K "_law_entry" "_law_entry" s_f_law_entry f fd) (D_f_law_ratio : Def K mg "_law_ratio" s_f_law_ratio ["n", "m"] a_f_law_ratio t_f_law_ratio) (G_f_law_ratio : FnG P w K mg base 1 a_f_law_ratio t_f_law_ratio ["n", "m"] d_f_law_ratio) (D_f_law_times : Def K mg "_law_times" s_f_law_times ["x", "y"] a_f_law_times t_f_law_times) (G_f_law_times : FnG P w K mg base 2 a_f_law_times t_f_law_times ["x", "y"] d_f_law_times) (z_range : mg "range" = none) : FnG P w K mg base 3 f fd ["high", "low", "k"] d_f_law_entry :=
  fnG_of F sc_f_law_entry fun cdv A outer s H G hr => dss_cons (ds_par2 (i := 3) (j := 4) sc_f_law_entry.nd (da_cons (do_call G_f_law_ratio (hr.mono (by decide)) D_f_law_ratio.g D_f_law_ratio.F.kp D_f_law_ratio.b (da_cons (do_bin op_sub spec_sub (do_bin op_mulAny spec_mul (do_ix ix_seq spec_ix (dv 0) (do_int) (fun _ _ => rfl)) (do_ix ix_seq spec_ix (dv 1) (do_int) (fun _ _ => rfl))) (do_bin op_mulAny spec_mul (do_ix ix_seq spec_ix (dv 1) (do_int) (fun _ _ => rfl)) (do_ix ix_seq spec_ix (dv 0) (do_int) (fun _ _ => rfl)))) (da_cons (do_bin op_mulAny spec_mul (do_ix ix_seq spec_ix (dv 0) (do_int) (fun _ _ => rfl)) (do_ix ix_seq spec_ix (dv 1) (do_int) (fun _ _ => rfl))) (da_nil)))) (da_cons (do_tuple (da_cons (do_int) (da_cons (do_int) (da_nil)))) (da_nil)))) (dss_cons (ds_for (di_range1 (da_cons (dv 2) (da_nil)) rfl z_range) (dg_name (i := 5) sc_f_law_entry.nd) (dss_one (ds_set (i := 4) sc_f_law_entry.nd (do_call G_f_law_times (hr.mono (by decide)) D_f_law_times.g D_f_law_times.F.kp D_f_law_times.b (da_cons (dv 4) (da_cons (do_call G_f_law_ratio (hr.mono (by decide)) D_f_law_ratio.g D_f_law_ratio.F.kp D_f_law_ratio.b (da_cons (do_ix ix_seq spec_ix (dv 3) (do_int) (fun _ _ => rfl)) (da_cons (do_bin op_mulAny spec_mul (do_ix ix_seq spec_ix (dv 3) (do_int) (fun _ _ => rfl)) (do_bin op_addAny spec_add (dv 5) (do_int))) (da_nil)))) (da_nil))))))) (dss_one (ds_ret (do_if (dt_cmp op_gt spec_gt (do_ix ix_seq spec_ix (dv 3) (do_int) (fun _ _ => rfl)) (do_int) (nomark _)) (dv 4) (do_tuple (da_cons (do_int) (da_cons (do_int) (da_nil))))))))
theorem ok_f_law_table {f : Addr} {fd : FuncData} {a_f_law_entry : Addr} {t_f_law_entry : FuncData}  (F : Fun K "_law_table" "_law_table" s_f_law_table f fd) (D_f_law_entry : Def K mg "_law_entry" s_f_law_entry ["high", "low", "k"] a_f_law_entry t_f_law_entry) (G_f_law_entry : FnG P w K mg base 3 a_f_law_entry t_f_law_entry ["high", "low", "k"] d_f_law_entry) (z_enumerate : mg "enumerate" = none) (z_tuple : mg "tuple" = none) : FnG P w K mg base 4 f fd ["lows", "highs"] d_f_law_table :=
  fnG_of F sc_f_law_table fun cdv A outer s H G hr => dss_cons (ds_own (i := 2) sc_f_law_table.nd (dn_lst (da_nil))) (dss_cons (ds_for (di_enumA (da_cons (dv 1) (da_nil)) rfl z_enumerate) (dg_tup (dgs_cons (dg_name (i := 3) sc_f_law_table.nd) (dgs_cons (dg_name (i := 4) sc_f_law_table.nd) (dgs_nil)))) (dss_cons (ds_own (i := 5) sc_f_law_table.nd (dn_lst (da_nil))) (dss_cons (ds_for (di_enumA (da_cons (dv 0) (da_nil)) rfl z_enumerate) (dg_tup (dgs_cons (dg_name (i := 6) sc_f_law_table.nd) (dgs_cons (dg_name (i := 7) sc_f_law_table.nd) (dgs_nil)))) (dss_one (ds_expr (do_append (i := 5) (da_cons (do_if (dt_cmp op_ge spec_ge (dv 6) (dv 3) (nomark _)) (do_call G_f_law_entry (hr.mono (by decide)) D_f_law_entry.g D_f_law_entry.F.kp D_f_law_entry.b (da_cons (dv 4) (da_cons (dv 7) (da_cons (do_bin op_addAny spec_add (do_bin op_sub spec_sub (dv 6) (dv 3)) (do_int)) (da_nil))))) (do_if (dt_cmp (op_eqAny hr.hu64) spec_eq (dv 6) (do_bin op_sub spec_sub (dv 3) (do_int)) (nomark _)) (do_tuple (da_cons (do_int) (da_cons (do_int) (da_nil)))) (do_tuple (da_cons (do_int) (da_cons (do_int) (da_nil)))))) (da_nil)))))) (dss_one (ds_expr (do_append (i := 2) (da_cons (do_callTy call_tupleF spec_tuple rfl z_tuple PyProof.Rows.boot_tuple (da_cons (dv 5) (da_nil))) (da_nil)))))))) (dss_one (ds_ret (do_callTy call_tupleF spec_tuple rfl z_tuple PyProof.Rows.boot_tuple (da_cons (dv 2) (da_nil))))))
theorem ok_f_law_plus {f : Addr} {fd : FuncData} {a_f_law_ratio : Addr} {t_f_law_ratio : FuncData}  (F : Fun K "_law_plus" "_law_plus" s_f_law_plus f fd) (D_f_law_ratio : Def K mg "_law_ratio" s_f_law_ratio ["n", "m"] a_f_law_ratio t_f_law_ratio) (G_f_law_ratio : FnG P w K mg base 1 a_f_law_ratio t_f_law_ratio ["n", "m"] d_f_law_ratio) : FnG P w K mg base 2 f fd ["x", "y"] d_f_law_plus :=
  fnG_of F sc_f_law_plus fun cdv A outer s H G hr => dss_one (ds_ret (do_call G_f_law_ratio (hr.mono (by decide)) D_f_law_ratio.g D_f_law_ratio.F.kp D_f_law_ratio.b (da_cons (do_bin op_addAny spec_add (do_bin op_mulAny spec_mul (do_ix ix_seq spec_ix (dv 0) (do_int) (fun _ _ => rfl)) (do_ix ix_seq spec_ix (dv 1) (do_int) (fun _ _ => rfl))) (do_bin op_mulAny spec_mul (do_ix ix_seq spec_ix (dv 1) (do_int) (fun _ _ => rfl)) (do_ix ix_seq spec_ix (dv 0) (do_int) (fun _ _ => rfl)))) (da_cons (do_bin op_mulAny spec_mul (do_ix ix_seq spec_ix (dv 0) (do_int) (fun _ _ => rfl)) (do_ix ix_seq spec_ix (dv 1) (do_int) (fun _ _ => rfl))) (da_nil)))))
theorem ok_f_law_determinant {f : Addr} {fd : FuncData} {a_f_law_plus : Addr} {t_f_law_plus : FuncData} {a_f_law_times : Addr} {t_f_law_times : FuncData}  (F : Fun K "_law_determinant" "_law_determinant" s_f_law_determinant f fd) (D_f_law_plus : Def K mg "_law_plus" s_f_law_plus ["x", "y"] a_f_law_plus t_f_law_plus) (G_f_law_plus : FnG P w K mg base 2 a_f_law_plus t_f_law_plus ["x", "y"] d_f_law_plus) (D_f_law_times : Def K mg "_law_times" s_f_law_times ["x", "y"] a_f_law_times t_f_law_times) (G_f_law_times : FnG P w K mg base 2 a_f_law_times t_f_law_times ["x", "y"] d_f_law_times) (z_range : mg "range" = none) (z_len : mg "len" = none) (z_int : mg "int" = none) : FnG P w K mg base 3 f fd ["table"] d_f_law_determinant :=
  fnG_of F sc_f_law_determinant fun cdv A outer s H G hr => dss_cons (ds_own (i := 1) sc_f_law_determinant.nd (dn_lst (da_cons (do_tuple (da_cons (do_int) (da_cons (do_int) (da_nil)))) (da_nil)))) (dss_cons (ds_for (di_range1 (da_cons (do_callB call_len_seq spec_len rfl z_len PySem.boot_len (da_cons (dv 0) (da_nil))) (da_nil)) rfl z_range) (dg_name (i := 2) sc_f_law_determinant.nd) (dss_cons (ds_set (i := 3) sc_f_law_determinant.nd (do_tuple (da_cons (do_int) (da_cons (do_int) (da_nil))))) (dss_cons (ds_for (di_range1 (da_cons (do_bin op_addAny spec_add (dv 2) (do_int)) (da_nil)) rfl z_range) (dg_name (i := 4) sc_f_law_determinant.nd) (dss_cons (ds_set (i := 5) sc_f_law_determinant.nd (do_if (dt_cmp (op_eqAny hr.hu64) spec_eq (do_bin op_modN spec_mod (do_callTy call_int1 spec_int rfl z_int PyProof.Rows.boot_int (da_cons (do_bin op_sub spec_sub (dv 2) (dv 4)) (da_nil))) (do_int)) (do_int) (nomark _)) (do_int) (do_un un_neg spec_neg (do_int)))) (dss_one (ds_set (i := 3) sc_f_law_determinant.nd (do_call G_f_law_plus (hr.mono (by decide)) D_f_law_plus.g D_f_law_plus.F.kp D_f_law_plus.b (da_cons (dv 3) (da_cons (do_call G_f_law_times (hr.mono (by decide)) D_f_law_times.g D_f_law_times.F.kp D_f_law_times.b (da_cons (do_tuple (da_cons (dv 5) (da_cons (do_int) (da_nil)))) (da_cons (do_call G_f_law_times (hr.mono (by decide)) D_f_law_times.g D_f_law_times.F.kp D_f_law_times.b (da_cons (do_ix ix_seq spec_ix (do_ix ix_seq spec_ix (dv 0) (dv 4) (fun _ _ => rfl)) (dv 2) (fun _ _ => rfl)) (da_cons (do_ix ix_seq spec_ix (dv 1) (dv 4) (fun _ _ => rfl)) (da_nil)))) (da_nil)))) (da_nil)))))))) (dss_one (ds_expr (do_append (i := 1) (da_cons (dv 3) (da_nil)))))))) (dss_one (ds_ret (do_ix ix_seq spec_ix (dv 1) (do_un un_neg spec_neg (do_int)) (fun _ _ => rfl)))))
theorem ok_plain_box {f : Addr} {fd : FuncData} {a_check_box : Addr} {t_check_box : FuncData} {a_plain_of : Addr} {t_plain_of : FuncData}  (F : Fun K "plain_box" "plain_box" s_plain_box f fd) (D_check_box : Def K mg "check_box" s_check_box ["value"] a_check_box t_check_box) (G_check_box : FnG P w K mg base 9 a_check_box t_check_box ["value"] d_check_box) (D_plain_of : Def K mg "plain_of" s_plain_of ["box"] a_plain_of t_plain_of) (G_plain_of : FnG P w K mg base 4 a_plain_of t_plain_of ["box"] d_plain_of) : FnG P w K mg base 10 f fd ["box"] d_plain_box :=
  fnG_of F sc_plain_box fun cdv A outer s H G hr => dss_cons (ds_expr (do_call G_check_box (hr.mono (by decide)) D_check_box.g D_check_box.F.kp D_check_box.b (da_cons (dv 0) (da_nil)))) (dss_one (ds_ret (do_call G_plain_of (hr.mono (by decide)) D_plain_of.g D_plain_of.F.kp D_plain_of.b (da_cons (dv 0) (da_nil)))))
theorem ok_f_law_right {f : Addr} {fd : FuncData} {a_f_law_draw : Addr} {t_f_law_draw : FuncData} {a_f_law_box : Addr} {t_f_law_box : FuncData} {a_f_law_plain : Addr} {t_f_law_plain : FuncData} {a_plain_box : Addr} {t_plain_box : FuncData} {a_box_table : Addr} {t_box_table : FuncData} {a_box_chance : Addr} {t_box_chance : FuncData} {a_f_law_below : Addr} {t_f_law_below : FuncData} {a_f_law_table : Addr} {t_f_law_table : FuncData} {a_f_law_times : Addr} {t_f_law_times : FuncData} {a_f_law_determinant : Addr} {t_f_law_determinant : FuncData}  (F : Fun K "_law_right" "_law_right" s_f_law_right f fd) (D_f_law_draw : Def K mg "_law_draw" s_f_law_draw ["source", "many"] a_f_law_draw t_f_law_draw) (G_f_law_draw : FnG P w K mg base 1 a_f_law_draw t_f_law_draw ["source", "many"] d_f_law_draw) (D_f_law_box : Def K mg "_law_box" s_f_law_box ["source", "n"] a_f_law_box t_f_law_box) (G_f_law_box : FnG P w K mg base 2 a_f_law_box t_f_law_box ["source", "n"] d_f_law_box) (D_f_law_plain : Def K mg "_law_plain" s_f_law_plain ["box"] a_f_law_plain t_f_law_plain) (G_f_law_plain : FnG P w K mg base 2 a_f_law_plain t_f_law_plain ["box"] d_f_law_plain) (D_plain_box : Def K mg "plain_box" s_plain_box ["box"] a_plain_box t_plain_box) (G_plain_box : FnG P w K mg base 10 a_plain_box t_plain_box ["box"] d_plain_box) (D_box_table : Def K mg "box_table" s_box_table ["box"] a_box_table t_box_table) (G_box_table : FnG P w K mg base 10 a_box_table t_box_table ["box"] d_box_table) (D_box_chance : Def K mg "box_chance" s_box_chance ["box"] a_box_chance t_box_chance) (G_box_chance : FnG P w K mg base 10 a_box_chance t_box_chance ["box"] d_box_chance) (D_f_law_below : Def K mg "_law_below" s_f_law_below ["x", "y"] a_f_law_below t_f_law_below) (G_f_law_below : FnG P w K mg base 1 a_f_law_below t_f_law_below ["x", "y"] d_f_law_below) (D_f_law_table : Def K mg "_law_table" s_f_law_table ["lows", "highs"] a_f_law_table t_f_law_table) (G_f_law_table : FnG P w K mg base 4 a_f_law_table t_f_law_table ["lows", "highs"] d_f_law_table) (D_f_law_times : Def K mg "_law_times" s_f_law_times ["x", "y"] a_f_law_times t_f_law_times) (G_f_law_times : FnG P w K mg base 2 a_f_law_times t_f_law_times ["x", "y"] d_f_law_times) (D_f_law_determinant : Def K mg "_law_determinant" s_f_law_determinant ["table"] a_f_law_determinant t_f_law_determinant) (G_f_law_determinant : FnG P w K mg base 3 a_f_law_determinant t_f_law_determinant ["table"] d_f_law_determinant) (z_repr : mg "repr" = none) (z_all : mg "all" = none) (z_zip : mg "zip" = none) (z_range : mg "range" = none) : FnG P w K mg base 11 f fd ["source"] d_f_law_right :=
  fnG_of F sc_f_law_right fun cdv A outer s H G hr => dss_cons (ds_set (i := 1) sc_f_law_right.nd (do_bin op_addAny spec_add (do_int) (do_call G_f_law_draw (hr.mono (by decide)) D_f_law_draw.g D_f_law_draw.F.kp D_f_law_draw.b (da_cons (dv 0) (da_cons (do_int) (da_nil)))))) (dss_cons (ds_set (i := 2) sc_f_law_right.nd (do_call G_f_law_box (hr.mono (by decide)) D_f_law_box.g D_f_law_box.F.kp D_f_law_box.b (da_cons (dv 0) (da_cons (dv 1) (da_nil))))) (dss_cons (ds_set (i := 3) sc_f_law_right.nd (do_call G_f_law_plain (hr.mono (by decide)) D_f_law_plain.g D_f_law_plain.F.kp D_f_law_plain.b (da_cons (dv 2) (da_nil)))) (dss_cons (ds_if (dt_cmp (op_neAny hr.hu64) spec_ne (do_callB (cr_repr hr.hu62 hr.guards) spec_repr rfl z_repr boot_repr (da_cons (do_call G_plain_box (hr.mono (by decide)) D_plain_box.g D_plain_box.F.kp D_plain_box.b (da_cons (dv 2) (da_nil))) (da_nil))) (do_callB (cr_repr hr.hu62 hr.guards) spec_repr rfl z_repr boot_repr (da_cons (dv 3) (da_nil))) (nomark _)) (dss_one (ds_ret (do_bl))) (dss_nil)) (dss_cons (ds_set (i := 4) sc_f_law_right.nd (do_new (dn_lst (da_cons (do_call G_box_chance (hr.mono (by decide)) D_box_chance.g D_box_chance.F.kp D_box_chance.b (da_cons (dv 2) (da_nil))) (da_cons (do_call G_box_table (hr.mono (by decide)) D_box_table.g D_box_table.F.kp D_box_table.b (da_cons (dv 2) (da_nil))) (da_nil)))))) (dss_cons (ds_if (dt_not (dt_tru (do_callB (cr_all rfl) spec_all rfl z_all boot_all (da_cons (do_new (dn_lc (own := [("low", 5), ("high", 6)]) sc_f_law_right.nd (di_zipM (da_cons (do_ix ix_seq spec_ix (dv 3) (do_int) (fun _ _ => rfl)) (da_cons (do_ix ix_seq spec_ix (dv 3) (do_int) (fun _ _ => rfl)) (da_nil))) rfl z_zip) (blkOk_by (own := [("low", 5), ("high", 6)]) rfl) (fun _ _ _ _ _ _ => dg_tup (dgs_cons (dg_name (i := 5) sc_f_law_right.nd) (dgs_cons (dg_name (i := 6) sc_f_law_right.nd) (dgs_nil)))) (fun _ _ _ _ _ _ => dts_nil) (fun _ _ _ _ _ _ => do_call G_f_law_below (hr.mono (by decide)) D_f_law_below.g D_f_law_below.F.kp D_f_law_below.b (da_cons (dv 5) (da_cons (dv 6) (da_nil)))))) (da_nil))))) (dss_one (ds_ret (do_cmp (op_eqAny hr.hu64) spec_eq (do_callB (cr_repr hr.hu62 hr.guards) spec_repr rfl z_repr boot_repr (da_cons (dv 4) (da_nil))) (do_str) (nomark _)))) (dss_nil)) (dss_cons (ds_par2 (i := 7) (j := 8) sc_f_law_right.nd (da_cons (do_call G_f_law_table (hr.mono (by decide)) D_f_law_table.g D_f_law_table.F.kp D_f_law_table.b (da_cons (do_ix ix_seq spec_ix (dv 3) (do_int) (fun _ _ => rfl)) (da_cons (do_ix ix_seq spec_ix (dv 3) (do_int) (fun _ _ => rfl)) (da_nil)))) (da_cons (do_int) (da_nil)))) (dss_cons (ds_for (di_range1 (da_cons (dv 1) (da_nil)) rfl z_range) (dg_name (i := 9) sc_f_law_right.nd) (dss_one (ds_set (i := 8) sc_f_law_right.nd (do_bin op_mulAny spec_mul (dv 8) (do_bin op_addAny spec_add (dv 9) (do_int)))))) (dss_cons (ds_set (i := 10) sc_f_law_right.nd (do_call G_f_law_times (hr.mono (by decide)) D_f_law_times.g D_f_law_times.F.kp D_f_law_times.b (da_cons (do_tuple (da_cons (dv 8) (da_cons (do_int) (da_nil)))) (da_cons (do_call G_f_law_determinant (hr.mono (by decide)) D_f_law_determinant.g D_f_law_determinant.F.kp D_f_law_determinant.b (da_cons (dv 7) (da_nil))) (da_nil))))) (dss_one (ds_ret (do_cmp (op_eqAny hr.hu64) spec_eq (do_callB (cr_repr hr.hu62 hr.guards) spec_repr rfl z_repr boot_repr (da_cons (dv 4) (da_nil))) (do_callB (cr_repr hr.hu62 hr.guards) spec_repr rfl z_repr boot_repr (da_cons (do_new (dn_lst (da_cons (dv 10) (da_cons (dv 7) (da_nil))))) (da_nil))) (nomark _))))))))))))
theorem ok_f_law_source {f : Addr} {fd : FuncData}   (F : Fun K "_law_source" "_law_source" s_f_law_source f fd) (z_len : mg "len" = none) (z_int : mg "int" = none) (z_abs : mg "abs" = none) : FnN P w K mg base 1 f fd ["script", "turn"] d_f_law_source :=
  fnN_of F sc_f_law_source fun cdv A outer s H G hr => dss_cons (ds_set (i := 2) sc_f_law_source.nd (do_if (dt_cmp op_lt spec_lt (dv 1) (do_callB call_len_seq spec_len rfl z_len PySem.boot_len (da_cons (dv 0) (da_nil))) (nomark _)) (do_callTy call_int1 spec_int rfl z_int PyProof.Rows.boot_int (da_cons (do_ix ix_seq spec_ix (dv 0) (dv 1) (fun _ _ => rfl)) (da_nil))) (do_int))) (dss_cons (ds_set (i := 3) sc_f_law_source.nd (do_bin op_addAny spec_add (do_int) (do_bin op_mulAny spec_mul (do_int) (dv 1)))) (dss_cons (ds_for (di_seq (do_slice (dv 0) (dpo_none) (dpo_some (do_int)))) (dg_name (i := 4) sc_f_law_source.nd) (dss_one (ds_set (i := 3) sc_f_law_source.nd (do_bin op_modN spec_mod (do_callTy call_int1 spec_int rfl z_int PyProof.Rows.boot_int (da_cons (do_bin op_addAny spec_add (do_bin op_addAny spec_add (do_bin op_mulAny spec_mul (dv 3) (do_int)) (do_bin op_mulAny spec_mul (do_bin op_modN spec_mod (do_callTy call_int1 spec_int rfl z_int PyProof.Rows.boot_int (da_cons (dv 4) (da_nil))) (do_int)) (do_int))) (do_int)) (da_nil))) (do_int))))) (dss_cons (ds_set (i := 3) sc_f_law_source.nd (do_bin op_modN spec_mod (do_callTy call_int1 spec_int rfl z_int PyProof.Rows.boot_int (da_cons (do_bin op_addAny spec_add (do_bin op_addAny spec_add (do_bin op_mulAny spec_mul (dv 3) (do_int)) (do_bin op_modN spec_mod (do_callTy call_int1 spec_int rfl z_int PyProof.Rows.boot_int (da_cons (dv 2) (da_nil))) (do_int))) (do_int)) (da_nil))) (do_int))) (dss_one (ds_retNew (dn_lst (da_cons (do_if (dt_cmp op_ge spec_ge (do_callB call_abs spec_abs rfl z_abs boot_abs (da_cons (dv 2) (da_nil))) (do_bin op_pow spec_pow (do_int) (do_int)) (nomark _)) (do_callB call_abs spec_abs rfl z_abs boot_abs (da_cons (dv 2) (da_nil))) (do_int)) (da_cons (dv 3) (da_cons (do_int) (da_nil))))))))))
theorem ok_law {f : Addr} {fd : FuncData} {a_f_law_right : Addr} {t_f_law_right : FuncData} {a_f_law_source : Addr} {t_f_law_source : FuncData}  (F : Fun K "law" "law" s_law f fd) (D_f_law_right : Def K mg "_law_right" s_f_law_right ["source"] a_f_law_right t_f_law_right) (G_f_law_right : FnG P w K mg base 11 a_f_law_right t_f_law_right ["source"] d_f_law_right) (D_f_law_source : Def K mg "_law_source" s_f_law_source ["script", "turn"] a_f_law_source t_f_law_source) (G_f_law_source : FnN P w K mg base 1 a_f_law_source t_f_law_source ["script", "turn"] d_f_law_source) (z_all : mg "all" = none) (z_range : mg "range" = none) (z_max : mg "max" = none) (z_min : mg "min" = none) (z_len : mg "len" = none) : FnG P w K mg base 12 f fd ["script"] d_law :=
  fnG_of F sc_law fun cdv A outer s H G hr => dss_one (ds_ret (do_callB (cr_all rfl) spec_all rfl z_all boot_all (da_cons (do_new (dn_lc (own := [("turn", 1)]) sc_law.nd (di_range1 (da_cons (do_callB (call_max2 rfl) spec_max rfl z_max boot_max (da_cons (do_int) (da_cons (do_callB (call_min2 rfl) spec_min rfl z_min boot_min (da_cons (do_callB call_len_seq spec_len rfl z_len PySem.boot_len (da_cons (dv 0) (da_nil))) (da_cons (do_int) (da_nil)))) (da_nil)))) (da_nil)) rfl z_range) (blkOk_by (own := [("turn", 1)]) rfl) (fun _ _ _ _ _ _ => dg_name (i := 1) sc_law.nd) (fun _ _ _ _ _ _ => dts_nil) (fun _ _ _ _ _ _ => do_callT G_f_law_right (hr.mono (by decide)) D_f_law_right.g D_f_law_right.F.kp D_f_law_right.b (dn_call G_f_law_source (hr.mono (by decide)) D_f_law_source.g D_f_law_source.F.kp D_f_law_source.b (da_cons (dv 0) (da_cons (dv 1) (da_nil))))))) (da_nil))))
theorem all_mk {l : PySem.W.OpenLaw} {h : Heap} {fa a_f_law_draw a_f_law_ratio a_f_law_box a_f_law_below a_f_law_plain a_f_law_times a_is_whole a_are_wholes a_are_coprime a_is_ratio a_is_from_nought a_is_share a_are_shares_all a_wrong_in_pair a_wrong_in_box a_check_box a_is_below a_greater_of a_rising a_lesser_of a_falling_back a_plain_of a_lowest a_minus a_over a_powered a_whole a_product_up_to a_entry_of a_table_of a_times a_row_less a_row_scaled a_determinant a_chance_of a_box_chance a_box_table a_f_law_entry a_f_law_table a_f_law_plus a_f_law_determinant a_plain_box a_f_law_right a_f_law_source a_law : Addr} (X : K.In h) (M : h.Ns mainGlobals mg) (hfa : mg "law" = some (.ref fa))
    {od_f_law_draw an_f_law_draw od_f_law_ratio an_f_law_ratio od_f_law_box an_f_law_box od_f_law_below an_f_law_below od_f_law_plain an_f_law_plain od_f_law_times an_f_law_times od_is_whole an_is_whole od_are_wholes an_are_wholes od_are_coprime an_are_coprime od_is_ratio an_is_ratio od_is_from_nought an_is_from_nought od_is_share an_is_share od_are_shares_all an_are_shares_all od_wrong_in_pair an_wrong_in_pair od_wrong_in_box an_wrong_in_box od_check_box an_check_box od_is_below an_is_below od_greater_of an_greater_of od_rising an_rising od_lesser_of an_lesser_of od_falling_back an_falling_back od_plain_of an_plain_of od_lowest an_lowest od_minus an_minus od_over an_over od_powered an_powered od_whole an_whole od_product_up_to an_product_up_to od_entry_of an_entry_of od_table_of an_table_of od_times an_times od_row_less an_row_less od_row_scaled an_row_scaled od_determinant an_determinant od_chance_of an_chance_of od_box_chance an_box_chance od_box_table an_box_table od_f_law_entry an_f_law_entry od_f_law_table an_f_law_table od_f_law_plus an_f_law_plus od_f_law_determinant an_f_law_determinant od_plain_box an_plain_box od_f_law_right an_f_law_right od_f_law_source an_f_law_source od_law an_law : Option Addr} {sl_f_law_draw sl_f_law_ratio sl_f_law_box sl_f_law_below sl_f_law_plain sl_f_law_times sl_is_whole sl_are_wholes sl_are_coprime sl_is_ratio sl_is_from_nought sl_is_share sl_are_shares_all sl_wrong_in_pair sl_wrong_in_box sl_check_box sl_is_below sl_greater_of sl_rising sl_lesser_of sl_falling_back sl_plain_of sl_lowest sl_minus sl_over sl_powered sl_whole sl_product_up_to sl_entry_of sl_table_of sl_times sl_row_less sl_row_scaled sl_determinant sl_chance_of sl_box_chance sl_box_table sl_f_law_entry sl_f_law_table sl_f_law_plus sl_f_law_determinant sl_plain_box sl_f_law_right sl_f_law_source sl_law : Array (Option Value)} {oc_f_law_draw kV_f_law_draw dc_f_law_draw pm_f_law_draw cd_f_law_draw ct_f_law_draw oc_f_law_ratio kV_f_law_ratio dc_f_law_ratio pm_f_law_ratio cd_f_law_ratio ct_f_law_ratio oc_f_law_box kV_f_law_box dc_f_law_box pm_f_law_box cd_f_law_box ct_f_law_box oc_f_law_below kV_f_law_below dc_f_law_below pm_f_law_below cd_f_law_below ct_f_law_below oc_f_law_plain kV_f_law_plain dc_f_law_plain pm_f_law_plain cd_f_law_plain ct_f_law_plain oc_f_law_times kV_f_law_times dc_f_law_times pm_f_law_times cd_f_law_times ct_f_law_times oc_is_whole kV_is_whole dc_is_whole pm_is_whole cd_is_whole ct_is_whole oc_are_wholes kV_are_wholes dc_are_wholes pm_are_wholes cd_are_wholes ct_are_wholes oc_are_coprime kV_are_coprime dc_are_coprime pm_are_coprime cd_are_coprime ct_are_coprime oc_is_ratio kV_is_ratio dc_is_ratio pm_is_ratio cd_is_ratio ct_is_ratio oc_is_from_nought kV_is_from_nought dc_is_from_nought pm_is_from_nought cd_is_from_nought ct_is_from_nought oc_is_share kV_is_share dc_is_share pm_is_share cd_is_share ct_is_share oc_are_shares_all kV_are_shares_all dc_are_shares_all pm_are_shares_all cd_are_shares_all ct_are_shares_all oc_wrong_in_pair kV_wrong_in_pair dc_wrong_in_pair pm_wrong_in_pair cd_wrong_in_pair ct_wrong_in_pair oc_wrong_in_box kV_wrong_in_box dc_wrong_in_box pm_wrong_in_box cd_wrong_in_box ct_wrong_in_box oc_check_box kV_check_box dc_check_box pm_check_box cd_check_box ct_check_box oc_is_below kV_is_below dc_is_below pm_is_below cd_is_below ct_is_below oc_greater_of kV_greater_of dc_greater_of pm_greater_of cd_greater_of ct_greater_of oc_rising kV_rising dc_rising pm_rising cd_rising ct_rising oc_lesser_of kV_lesser_of dc_lesser_of pm_lesser_of cd_lesser_of ct_lesser_of oc_falling_back kV_falling_back dc_falling_back pm_falling_back cd_falling_back ct_falling_back oc_plain_of kV_plain_of dc_plain_of pm_plain_of cd_plain_of ct_plain_of oc_lowest kV_lowest dc_lowest pm_lowest cd_lowest ct_lowest oc_minus kV_minus dc_minus pm_minus cd_minus ct_minus oc_over kV_over dc_over pm_over cd_over ct_over oc_powered kV_powered dc_powered pm_powered cd_powered ct_powered oc_whole kV_whole dc_whole pm_whole cd_whole ct_whole oc_product_up_to kV_product_up_to dc_product_up_to pm_product_up_to cd_product_up_to ct_product_up_to oc_entry_of kV_entry_of dc_entry_of pm_entry_of cd_entry_of ct_entry_of oc_table_of kV_table_of dc_table_of pm_table_of cd_table_of ct_table_of oc_times kV_times dc_times pm_times cd_times ct_times oc_row_less kV_row_less dc_row_less pm_row_less cd_row_less ct_row_less oc_row_scaled kV_row_scaled dc_row_scaled pm_row_scaled cd_row_scaled ct_row_scaled oc_determinant kV_determinant dc_determinant pm_determinant cd_determinant ct_determinant oc_chance_of kV_chance_of dc_chance_of pm_chance_of cd_chance_of ct_chance_of oc_box_chance kV_box_chance dc_box_chance pm_box_chance cd_box_chance ct_box_chance oc_box_table kV_box_table dc_box_table pm_box_table cd_box_table ct_box_table oc_f_law_entry kV_f_law_entry dc_f_law_entry pm_f_law_entry cd_f_law_entry ct_f_law_entry oc_f_law_table kV_f_law_table dc_f_law_table pm_f_law_table cd_f_law_table ct_f_law_table oc_f_law_plus kV_f_law_plus dc_f_law_plus pm_f_law_plus cd_f_law_plus ct_f_law_plus oc_f_law_determinant kV_f_law_determinant dc_f_law_determinant pm_f_law_determinant cd_f_law_determinant ct_f_law_determinant oc_plain_box kV_plain_box dc_plain_box pm_plain_box cd_plain_box ct_plain_box oc_f_law_right kV_f_law_right dc_f_law_right pm_f_law_right cd_f_law_right ct_f_law_right oc_f_law_source kV_f_law_source dc_f_law_source pm_f_law_source cd_f_law_source ct_f_law_source oc_law kV_law dc_law pm_law cd_law ct_law : Value} {u_MOST_DRAWS : Tok} {A_ONE : Addr} {u_ONE v_ONE : Tok} {n_ONE : Nat} {s_ONE : Array (Option Value)} {A_ZERO : Addr} {u_ZERO v_ZERO : Tok} {n_ZERO : Nat} {s_ZERO : Array (Option Value)}
    (af_law_draw : PySem.W.nsIn K mainGlobals "_law_draw" = some (some (.ref a_f_law_draw))) (lf_law_draw : K.lookup a_f_law_draw = some ⟨oc_f_law_draw, od_f_law_draw, .func (PySem.W.fnOf "_law_draw" "_law_draw" (defArgs s_f_law_draw) (defBody s_f_law_draw) (defScope s_f_law_draw) .none kV_f_law_draw dc_f_law_draw pm_f_law_draw an_f_law_draw cd_f_law_draw ct_f_law_draw), sl_f_law_draw⟩) (cf_law_draw : PySem.W.codeIn K cd_f_law_draw "_law_draw" = true) (kf_law_draw : PySem.W.keepIn K (.ref a_f_law_draw) = true)
    (af_law_ratio : PySem.W.nsIn K mainGlobals "_law_ratio" = some (some (.ref a_f_law_ratio))) (lf_law_ratio : K.lookup a_f_law_ratio = some ⟨oc_f_law_ratio, od_f_law_ratio, .func (PySem.W.fnOf "_law_ratio" "_law_ratio" (defArgs s_f_law_ratio) (defBody s_f_law_ratio) (defScope s_f_law_ratio) .none kV_f_law_ratio dc_f_law_ratio pm_f_law_ratio an_f_law_ratio cd_f_law_ratio ct_f_law_ratio), sl_f_law_ratio⟩) (cf_law_ratio : PySem.W.codeIn K cd_f_law_ratio "_law_ratio" = true) (kf_law_ratio : PySem.W.keepIn K (.ref a_f_law_ratio) = true)
    (af_law_box : PySem.W.nsIn K mainGlobals "_law_box" = some (some (.ref a_f_law_box))) (lf_law_box : K.lookup a_f_law_box = some ⟨oc_f_law_box, od_f_law_box, .func (PySem.W.fnOf "_law_box" "_law_box" (defArgs s_f_law_box) (defBody s_f_law_box) (defScope s_f_law_box) .none kV_f_law_box dc_f_law_box pm_f_law_box an_f_law_box cd_f_law_box ct_f_law_box), sl_f_law_box⟩) (cf_law_box : PySem.W.codeIn K cd_f_law_box "_law_box" = true) (kf_law_box : PySem.W.keepIn K (.ref a_f_law_box) = true)
    (af_law_below : PySem.W.nsIn K mainGlobals "_law_below" = some (some (.ref a_f_law_below))) (lf_law_below : K.lookup a_f_law_below = some ⟨oc_f_law_below, od_f_law_below, .func (PySem.W.fnOf "_law_below" "_law_below" (defArgs s_f_law_below) (defBody s_f_law_below) (defScope s_f_law_below) .none kV_f_law_below dc_f_law_below pm_f_law_below an_f_law_below cd_f_law_below ct_f_law_below), sl_f_law_below⟩) (cf_law_below : PySem.W.codeIn K cd_f_law_below "_law_below" = true) (kf_law_below : PySem.W.keepIn K (.ref a_f_law_below) = true)
    (af_law_plain : PySem.W.nsIn K mainGlobals "_law_plain" = some (some (.ref a_f_law_plain))) (lf_law_plain : K.lookup a_f_law_plain = some ⟨oc_f_law_plain, od_f_law_plain, .func (PySem.W.fnOf "_law_plain" "_law_plain" (defArgs s_f_law_plain) (defBody s_f_law_plain) (defScope s_f_law_plain) .none kV_f_law_plain dc_f_law_plain pm_f_law_plain an_f_law_plain cd_f_law_plain ct_f_law_plain), sl_f_law_plain⟩) (cf_law_plain : PySem.W.codeIn K cd_f_law_plain "_law_plain" = true) (kf_law_plain : PySem.W.keepIn K (.ref a_f_law_plain) = true)
    (af_law_times : PySem.W.nsIn K mainGlobals "_law_times" = some (some (.ref a_f_law_times))) (lf_law_times : K.lookup a_f_law_times = some ⟨oc_f_law_times, od_f_law_times, .func (PySem.W.fnOf "_law_times" "_law_times" (defArgs s_f_law_times) (defBody s_f_law_times) (defScope s_f_law_times) .none kV_f_law_times dc_f_law_times pm_f_law_times an_f_law_times cd_f_law_times ct_f_law_times), sl_f_law_times⟩) (cf_law_times : PySem.W.codeIn K cd_f_law_times "_law_times" = true) (kf_law_times : PySem.W.keepIn K (.ref a_f_law_times) = true)
    (ais_whole : PySem.W.nsIn K mainGlobals "is_whole" = some (some (.ref a_is_whole))) (lis_whole : K.lookup a_is_whole = some ⟨oc_is_whole, od_is_whole, .func (PySem.W.fnOf "is_whole" "is_whole" (defArgs s_is_whole) (defBody s_is_whole) (defScope s_is_whole) .none kV_is_whole dc_is_whole pm_is_whole an_is_whole cd_is_whole ct_is_whole), sl_is_whole⟩) (cis_whole : PySem.W.codeIn K cd_is_whole "is_whole" = true) (kis_whole : PySem.W.keepIn K (.ref a_is_whole) = true)
    (aare_wholes : PySem.W.nsIn K mainGlobals "are_wholes" = some (some (.ref a_are_wholes))) (lare_wholes : K.lookup a_are_wholes = some ⟨oc_are_wholes, od_are_wholes, .func (PySem.W.fnOf "are_wholes" "are_wholes" (defArgs s_are_wholes) (defBody s_are_wholes) (defScope s_are_wholes) .none kV_are_wholes dc_are_wholes pm_are_wholes an_are_wholes cd_are_wholes ct_are_wholes), sl_are_wholes⟩) (care_wholes : PySem.W.codeIn K cd_are_wholes "are_wholes" = true) (kare_wholes : PySem.W.keepIn K (.ref a_are_wholes) = true)
    (aare_coprime : PySem.W.nsIn K mainGlobals "are_coprime" = some (some (.ref a_are_coprime))) (lare_coprime : K.lookup a_are_coprime = some ⟨oc_are_coprime, od_are_coprime, .func (PySem.W.fnOf "are_coprime" "are_coprime" (defArgs s_are_coprime) (defBody s_are_coprime) (defScope s_are_coprime) .none kV_are_coprime dc_are_coprime pm_are_coprime an_are_coprime cd_are_coprime ct_are_coprime), sl_are_coprime⟩) (care_coprime : PySem.W.codeIn K cd_are_coprime "are_coprime" = true) (kare_coprime : PySem.W.keepIn K (.ref a_are_coprime) = true)
    (ais_ratio : PySem.W.nsIn K mainGlobals "is_ratio" = some (some (.ref a_is_ratio))) (lis_ratio : K.lookup a_is_ratio = some ⟨oc_is_ratio, od_is_ratio, .func (PySem.W.fnOf "is_ratio" "is_ratio" (defArgs s_is_ratio) (defBody s_is_ratio) (defScope s_is_ratio) .none kV_is_ratio dc_is_ratio pm_is_ratio an_is_ratio cd_is_ratio ct_is_ratio), sl_is_ratio⟩) (cis_ratio : PySem.W.codeIn K cd_is_ratio "is_ratio" = true) (kis_ratio : PySem.W.keepIn K (.ref a_is_ratio) = true)
    (ais_from_nought : PySem.W.nsIn K mainGlobals "is_from_nought" = some (some (.ref a_is_from_nought))) (lis_from_nought : K.lookup a_is_from_nought = some ⟨oc_is_from_nought, od_is_from_nought, .func (PySem.W.fnOf "is_from_nought" "is_from_nought" (defArgs s_is_from_nought) (defBody s_is_from_nought) (defScope s_is_from_nought) .none kV_is_from_nought dc_is_from_nought pm_is_from_nought an_is_from_nought cd_is_from_nought ct_is_from_nought), sl_is_from_nought⟩) (cis_from_nought : PySem.W.codeIn K cd_is_from_nought "is_from_nought" = true) (kis_from_nought : PySem.W.keepIn K (.ref a_is_from_nought) = true)
    (ais_share : PySem.W.nsIn K mainGlobals "is_share" = some (some (.ref a_is_share))) (lis_share : K.lookup a_is_share = some ⟨oc_is_share, od_is_share, .func (PySem.W.fnOf "is_share" "is_share" (defArgs s_is_share) (defBody s_is_share) (defScope s_is_share) .none kV_is_share dc_is_share pm_is_share an_is_share cd_is_share ct_is_share), sl_is_share⟩) (cis_share : PySem.W.codeIn K cd_is_share "is_share" = true) (kis_share : PySem.W.keepIn K (.ref a_is_share) = true)
    (aare_shares_all : PySem.W.nsIn K mainGlobals "are_shares_all" = some (some (.ref a_are_shares_all))) (lare_shares_all : K.lookup a_are_shares_all = some ⟨oc_are_shares_all, od_are_shares_all, .func (PySem.W.fnOf "are_shares_all" "are_shares_all" (defArgs s_are_shares_all) (defBody s_are_shares_all) (defScope s_are_shares_all) .none kV_are_shares_all dc_are_shares_all pm_are_shares_all an_are_shares_all cd_are_shares_all ct_are_shares_all), sl_are_shares_all⟩) (care_shares_all : PySem.W.codeIn K cd_are_shares_all "are_shares_all" = true) (kare_shares_all : PySem.W.keepIn K (.ref a_are_shares_all) = true)
    (awrong_in_pair : PySem.W.nsIn K mainGlobals "wrong_in_pair" = some (some (.ref a_wrong_in_pair))) (lwrong_in_pair : K.lookup a_wrong_in_pair = some ⟨oc_wrong_in_pair, od_wrong_in_pair, .func (PySem.W.fnOf "wrong_in_pair" "wrong_in_pair" (defArgs s_wrong_in_pair) (defBody s_wrong_in_pair) (defScope s_wrong_in_pair) .none kV_wrong_in_pair dc_wrong_in_pair pm_wrong_in_pair an_wrong_in_pair cd_wrong_in_pair ct_wrong_in_pair), sl_wrong_in_pair⟩) (cwrong_in_pair : PySem.W.codeIn K cd_wrong_in_pair "wrong_in_pair" = true) (kwrong_in_pair : PySem.W.keepIn K (.ref a_wrong_in_pair) = true)
    (awrong_in_box : PySem.W.nsIn K mainGlobals "wrong_in_box" = some (some (.ref a_wrong_in_box))) (lwrong_in_box : K.lookup a_wrong_in_box = some ⟨oc_wrong_in_box, od_wrong_in_box, .func (PySem.W.fnOf "wrong_in_box" "wrong_in_box" (defArgs s_wrong_in_box) (defBody s_wrong_in_box) (defScope s_wrong_in_box) .none kV_wrong_in_box dc_wrong_in_box pm_wrong_in_box an_wrong_in_box cd_wrong_in_box ct_wrong_in_box), sl_wrong_in_box⟩) (cwrong_in_box : PySem.W.codeIn K cd_wrong_in_box "wrong_in_box" = true) (kwrong_in_box : PySem.W.keepIn K (.ref a_wrong_in_box) = true)
    (acheck_box : PySem.W.nsIn K mainGlobals "check_box" = some (some (.ref a_check_box))) (lcheck_box : K.lookup a_check_box = some ⟨oc_check_box, od_check_box, .func (PySem.W.fnOf "check_box" "check_box" (defArgs s_check_box) (defBody s_check_box) (defScope s_check_box) .none kV_check_box dc_check_box pm_check_box an_check_box cd_check_box ct_check_box), sl_check_box⟩) (ccheck_box : PySem.W.codeIn K cd_check_box "check_box" = true) (kcheck_box : PySem.W.keepIn K (.ref a_check_box) = true)
    (ais_below : PySem.W.nsIn K mainGlobals "is_below" = some (some (.ref a_is_below))) (lis_below : K.lookup a_is_below = some ⟨oc_is_below, od_is_below, .func (PySem.W.fnOf "is_below" "is_below" (defArgs s_is_below) (defBody s_is_below) (defScope s_is_below) .none kV_is_below dc_is_below pm_is_below an_is_below cd_is_below ct_is_below), sl_is_below⟩) (cis_below : PySem.W.codeIn K cd_is_below "is_below" = true) (kis_below : PySem.W.keepIn K (.ref a_is_below) = true)
    (agreater_of : PySem.W.nsIn K mainGlobals "greater_of" = some (some (.ref a_greater_of))) (lgreater_of : K.lookup a_greater_of = some ⟨oc_greater_of, od_greater_of, .func (PySem.W.fnOf "greater_of" "greater_of" (defArgs s_greater_of) (defBody s_greater_of) (defScope s_greater_of) .none kV_greater_of dc_greater_of pm_greater_of an_greater_of cd_greater_of ct_greater_of), sl_greater_of⟩) (cgreater_of : PySem.W.codeIn K cd_greater_of "greater_of" = true) (kgreater_of : PySem.W.keepIn K (.ref a_greater_of) = true)
    (arising : PySem.W.nsIn K mainGlobals "rising" = some (some (.ref a_rising))) (lrising : K.lookup a_rising = some ⟨oc_rising, od_rising, .func (PySem.W.fnOf "rising" "rising" (defArgs s_rising) (defBody s_rising) (defScope s_rising) .none kV_rising dc_rising pm_rising an_rising cd_rising ct_rising), sl_rising⟩) (crising : PySem.W.codeIn K cd_rising "rising" = true) (krising : PySem.W.keepIn K (.ref a_rising) = true)
    (alesser_of : PySem.W.nsIn K mainGlobals "lesser_of" = some (some (.ref a_lesser_of))) (llesser_of : K.lookup a_lesser_of = some ⟨oc_lesser_of, od_lesser_of, .func (PySem.W.fnOf "lesser_of" "lesser_of" (defArgs s_lesser_of) (defBody s_lesser_of) (defScope s_lesser_of) .none kV_lesser_of dc_lesser_of pm_lesser_of an_lesser_of cd_lesser_of ct_lesser_of), sl_lesser_of⟩) (clesser_of : PySem.W.codeIn K cd_lesser_of "lesser_of" = true) (klesser_of : PySem.W.keepIn K (.ref a_lesser_of) = true)
    (afalling_back : PySem.W.nsIn K mainGlobals "falling_back" = some (some (.ref a_falling_back))) (lfalling_back : K.lookup a_falling_back = some ⟨oc_falling_back, od_falling_back, .func (PySem.W.fnOf "falling_back" "falling_back" (defArgs s_falling_back) (defBody s_falling_back) (defScope s_falling_back) .none kV_falling_back dc_falling_back pm_falling_back an_falling_back cd_falling_back ct_falling_back), sl_falling_back⟩) (cfalling_back : PySem.W.codeIn K cd_falling_back "falling_back" = true) (kfalling_back : PySem.W.keepIn K (.ref a_falling_back) = true)
    (aplain_of : PySem.W.nsIn K mainGlobals "plain_of" = some (some (.ref a_plain_of))) (lplain_of : K.lookup a_plain_of = some ⟨oc_plain_of, od_plain_of, .func (PySem.W.fnOf "plain_of" "plain_of" (defArgs s_plain_of) (defBody s_plain_of) (defScope s_plain_of) .none kV_plain_of dc_plain_of pm_plain_of an_plain_of cd_plain_of ct_plain_of), sl_plain_of⟩) (cplain_of : PySem.W.codeIn K cd_plain_of "plain_of" = true) (kplain_of : PySem.W.keepIn K (.ref a_plain_of) = true)
    (alowest : PySem.W.nsIn K mainGlobals "lowest" = some (some (.ref a_lowest))) (llowest : K.lookup a_lowest = some ⟨oc_lowest, od_lowest, .func (PySem.W.fnOf "lowest" "lowest" (defArgs s_lowest) (defBody s_lowest) (defScope s_lowest) .none kV_lowest dc_lowest pm_lowest an_lowest cd_lowest ct_lowest), sl_lowest⟩) (clowest : PySem.W.codeIn K cd_lowest "lowest" = true) (klowest : PySem.W.keepIn K (.ref a_lowest) = true)
    (aminus : PySem.W.nsIn K mainGlobals "minus" = some (some (.ref a_minus))) (lminus : K.lookup a_minus = some ⟨oc_minus, od_minus, .func (PySem.W.fnOf "minus" "minus" (defArgs s_minus) (defBody s_minus) (defScope s_minus) .none kV_minus dc_minus pm_minus an_minus cd_minus ct_minus), sl_minus⟩) (cminus : PySem.W.codeIn K cd_minus "minus" = true) (kminus : PySem.W.keepIn K (.ref a_minus) = true)
    (aover : PySem.W.nsIn K mainGlobals "over" = some (some (.ref a_over))) (lover : K.lookup a_over = some ⟨oc_over, od_over, .func (PySem.W.fnOf "over" "over" (defArgs s_over) (defBody s_over) (defScope s_over) .none kV_over dc_over pm_over an_over cd_over ct_over), sl_over⟩) (cover : PySem.W.codeIn K cd_over "over" = true) (kover : PySem.W.keepIn K (.ref a_over) = true)
    (apowered : PySem.W.nsIn K mainGlobals "powered" = some (some (.ref a_powered))) (lpowered : K.lookup a_powered = some ⟨oc_powered, od_powered, .func (PySem.W.fnOf "powered" "powered" (defArgs s_powered) (defBody s_powered) (defScope s_powered) .none kV_powered dc_powered pm_powered an_powered cd_powered ct_powered), sl_powered⟩) (cpowered : PySem.W.codeIn K cd_powered "powered" = true) (kpowered : PySem.W.keepIn K (.ref a_powered) = true)
    (awhole : PySem.W.nsIn K mainGlobals "whole" = some (some (.ref a_whole))) (lwhole : K.lookup a_whole = some ⟨oc_whole, od_whole, .func (PySem.W.fnOf "whole" "whole" (defArgs s_whole) (defBody s_whole) (defScope s_whole) .none kV_whole dc_whole pm_whole an_whole cd_whole ct_whole), sl_whole⟩) (cwhole : PySem.W.codeIn K cd_whole "whole" = true) (kwhole : PySem.W.keepIn K (.ref a_whole) = true)
    (aproduct_up_to : PySem.W.nsIn K mainGlobals "product_up_to" = some (some (.ref a_product_up_to))) (lproduct_up_to : K.lookup a_product_up_to = some ⟨oc_product_up_to, od_product_up_to, .func (PySem.W.fnOf "product_up_to" "product_up_to" (defArgs s_product_up_to) (defBody s_product_up_to) (defScope s_product_up_to) .none kV_product_up_to dc_product_up_to pm_product_up_to an_product_up_to cd_product_up_to ct_product_up_to), sl_product_up_to⟩) (cproduct_up_to : PySem.W.codeIn K cd_product_up_to "product_up_to" = true) (kproduct_up_to : PySem.W.keepIn K (.ref a_product_up_to) = true)
    (aentry_of : PySem.W.nsIn K mainGlobals "entry_of" = some (some (.ref a_entry_of))) (lentry_of : K.lookup a_entry_of = some ⟨oc_entry_of, od_entry_of, .func (PySem.W.fnOf "entry_of" "entry_of" (defArgs s_entry_of) (defBody s_entry_of) (defScope s_entry_of) .none kV_entry_of dc_entry_of pm_entry_of an_entry_of cd_entry_of ct_entry_of), sl_entry_of⟩) (centry_of : PySem.W.codeIn K cd_entry_of "entry_of" = true) (kentry_of : PySem.W.keepIn K (.ref a_entry_of) = true)
    (atable_of : PySem.W.nsIn K mainGlobals "table_of" = some (some (.ref a_table_of))) (ltable_of : K.lookup a_table_of = some ⟨oc_table_of, od_table_of, .func (PySem.W.fnOf "table_of" "table_of" (defArgs s_table_of) (defBody s_table_of) (defScope s_table_of) .none kV_table_of dc_table_of pm_table_of an_table_of cd_table_of ct_table_of), sl_table_of⟩) (ctable_of : PySem.W.codeIn K cd_table_of "table_of" = true) (ktable_of : PySem.W.keepIn K (.ref a_table_of) = true)
    (atimes : PySem.W.nsIn K mainGlobals "times" = some (some (.ref a_times))) (ltimes : K.lookup a_times = some ⟨oc_times, od_times, .func (PySem.W.fnOf "times" "times" (defArgs s_times) (defBody s_times) (defScope s_times) .none kV_times dc_times pm_times an_times cd_times ct_times), sl_times⟩) (ctimes : PySem.W.codeIn K cd_times "times" = true) (ktimes : PySem.W.keepIn K (.ref a_times) = true)
    (arow_less : PySem.W.nsIn K mainGlobals "row_less" = some (some (.ref a_row_less))) (lrow_less : K.lookup a_row_less = some ⟨oc_row_less, od_row_less, .func (PySem.W.fnOf "row_less" "row_less" (defArgs s_row_less) (defBody s_row_less) (defScope s_row_less) .none kV_row_less dc_row_less pm_row_less an_row_less cd_row_less ct_row_less), sl_row_less⟩) (crow_less : PySem.W.codeIn K cd_row_less "row_less" = true) (krow_less : PySem.W.keepIn K (.ref a_row_less) = true)
    (arow_scaled : PySem.W.nsIn K mainGlobals "row_scaled" = some (some (.ref a_row_scaled))) (lrow_scaled : K.lookup a_row_scaled = some ⟨oc_row_scaled, od_row_scaled, .func (PySem.W.fnOf "row_scaled" "row_scaled" (defArgs s_row_scaled) (defBody s_row_scaled) (defScope s_row_scaled) .none kV_row_scaled dc_row_scaled pm_row_scaled an_row_scaled cd_row_scaled ct_row_scaled), sl_row_scaled⟩) (crow_scaled : PySem.W.codeIn K cd_row_scaled "row_scaled" = true) (krow_scaled : PySem.W.keepIn K (.ref a_row_scaled) = true)
    (adeterminant : PySem.W.nsIn K mainGlobals "determinant" = some (some (.ref a_determinant))) (ldeterminant : K.lookup a_determinant = some ⟨oc_determinant, od_determinant, .func (PySem.W.fnOf "determinant" "determinant" (defArgs s_determinant) (defBody s_determinant) (defScope s_determinant) .none kV_determinant dc_determinant pm_determinant an_determinant cd_determinant ct_determinant), sl_determinant⟩) (cdeterminant : PySem.W.codeIn K cd_determinant "determinant" = true) (kdeterminant : PySem.W.keepIn K (.ref a_determinant) = true)
    (achance_of : PySem.W.nsIn K mainGlobals "chance_of" = some (some (.ref a_chance_of))) (lchance_of : K.lookup a_chance_of = some ⟨oc_chance_of, od_chance_of, .func (PySem.W.fnOf "chance_of" "chance_of" (defArgs s_chance_of) (defBody s_chance_of) (defScope s_chance_of) .none kV_chance_of dc_chance_of pm_chance_of an_chance_of cd_chance_of ct_chance_of), sl_chance_of⟩) (cchance_of : PySem.W.codeIn K cd_chance_of "chance_of" = true) (kchance_of : PySem.W.keepIn K (.ref a_chance_of) = true)
    (abox_chance : PySem.W.nsIn K mainGlobals "box_chance" = some (some (.ref a_box_chance))) (lbox_chance : K.lookup a_box_chance = some ⟨oc_box_chance, od_box_chance, .func (PySem.W.fnOf "box_chance" "box_chance" (defArgs s_box_chance) (defBody s_box_chance) (defScope s_box_chance) .none kV_box_chance dc_box_chance pm_box_chance an_box_chance cd_box_chance ct_box_chance), sl_box_chance⟩) (cbox_chance : PySem.W.codeIn K cd_box_chance "box_chance" = true) (kbox_chance : PySem.W.keepIn K (.ref a_box_chance) = true)
    (abox_table : PySem.W.nsIn K mainGlobals "box_table" = some (some (.ref a_box_table))) (lbox_table : K.lookup a_box_table = some ⟨oc_box_table, od_box_table, .func (PySem.W.fnOf "box_table" "box_table" (defArgs s_box_table) (defBody s_box_table) (defScope s_box_table) .none kV_box_table dc_box_table pm_box_table an_box_table cd_box_table ct_box_table), sl_box_table⟩) (cbox_table : PySem.W.codeIn K cd_box_table "box_table" = true) (kbox_table : PySem.W.keepIn K (.ref a_box_table) = true)
    (af_law_entry : PySem.W.nsIn K mainGlobals "_law_entry" = some (some (.ref a_f_law_entry))) (lf_law_entry : K.lookup a_f_law_entry = some ⟨oc_f_law_entry, od_f_law_entry, .func (PySem.W.fnOf "_law_entry" "_law_entry" (defArgs s_f_law_entry) (defBody s_f_law_entry) (defScope s_f_law_entry) .none kV_f_law_entry dc_f_law_entry pm_f_law_entry an_f_law_entry cd_f_law_entry ct_f_law_entry), sl_f_law_entry⟩) (cf_law_entry : PySem.W.codeIn K cd_f_law_entry "_law_entry" = true) (kf_law_entry : PySem.W.keepIn K (.ref a_f_law_entry) = true)
    (af_law_table : PySem.W.nsIn K mainGlobals "_law_table" = some (some (.ref a_f_law_table))) (lf_law_table : K.lookup a_f_law_table = some ⟨oc_f_law_table, od_f_law_table, .func (PySem.W.fnOf "_law_table" "_law_table" (defArgs s_f_law_table) (defBody s_f_law_table) (defScope s_f_law_table) .none kV_f_law_table dc_f_law_table pm_f_law_table an_f_law_table cd_f_law_table ct_f_law_table), sl_f_law_table⟩) (cf_law_table : PySem.W.codeIn K cd_f_law_table "_law_table" = true) (kf_law_table : PySem.W.keepIn K (.ref a_f_law_table) = true)
    (af_law_plus : PySem.W.nsIn K mainGlobals "_law_plus" = some (some (.ref a_f_law_plus))) (lf_law_plus : K.lookup a_f_law_plus = some ⟨oc_f_law_plus, od_f_law_plus, .func (PySem.W.fnOf "_law_plus" "_law_plus" (defArgs s_f_law_plus) (defBody s_f_law_plus) (defScope s_f_law_plus) .none kV_f_law_plus dc_f_law_plus pm_f_law_plus an_f_law_plus cd_f_law_plus ct_f_law_plus), sl_f_law_plus⟩) (cf_law_plus : PySem.W.codeIn K cd_f_law_plus "_law_plus" = true) (kf_law_plus : PySem.W.keepIn K (.ref a_f_law_plus) = true)
    (af_law_determinant : PySem.W.nsIn K mainGlobals "_law_determinant" = some (some (.ref a_f_law_determinant))) (lf_law_determinant : K.lookup a_f_law_determinant = some ⟨oc_f_law_determinant, od_f_law_determinant, .func (PySem.W.fnOf "_law_determinant" "_law_determinant" (defArgs s_f_law_determinant) (defBody s_f_law_determinant) (defScope s_f_law_determinant) .none kV_f_law_determinant dc_f_law_determinant pm_f_law_determinant an_f_law_determinant cd_f_law_determinant ct_f_law_determinant), sl_f_law_determinant⟩) (cf_law_determinant : PySem.W.codeIn K cd_f_law_determinant "_law_determinant" = true) (kf_law_determinant : PySem.W.keepIn K (.ref a_f_law_determinant) = true)
    (aplain_box : PySem.W.nsIn K mainGlobals "plain_box" = some (some (.ref a_plain_box))) (lplain_box : K.lookup a_plain_box = some ⟨oc_plain_box, od_plain_box, .func (PySem.W.fnOf "plain_box" "plain_box" (defArgs s_plain_box) (defBody s_plain_box) (defScope s_plain_box) .none kV_plain_box dc_plain_box pm_plain_box an_plain_box cd_plain_box ct_plain_box), sl_plain_box⟩) (cplain_box : PySem.W.codeIn K cd_plain_box "plain_box" = true) (kplain_box : PySem.W.keepIn K (.ref a_plain_box) = true)
    (af_law_right : PySem.W.nsIn K mainGlobals "_law_right" = some (some (.ref a_f_law_right))) (lf_law_right : K.lookup a_f_law_right = some ⟨oc_f_law_right, od_f_law_right, .func (PySem.W.fnOf "_law_right" "_law_right" (defArgs s_f_law_right) (defBody s_f_law_right) (defScope s_f_law_right) .none kV_f_law_right dc_f_law_right pm_f_law_right an_f_law_right cd_f_law_right ct_f_law_right), sl_f_law_right⟩) (cf_law_right : PySem.W.codeIn K cd_f_law_right "_law_right" = true) (kf_law_right : PySem.W.keepIn K (.ref a_f_law_right) = true)
    (af_law_source : PySem.W.nsIn K mainGlobals "_law_source" = some (some (.ref a_f_law_source))) (lf_law_source : K.lookup a_f_law_source = some ⟨oc_f_law_source, od_f_law_source, .func (PySem.W.fnOf "_law_source" "_law_source" (defArgs s_f_law_source) (defBody s_f_law_source) (defScope s_f_law_source) .none kV_f_law_source dc_f_law_source pm_f_law_source an_f_law_source cd_f_law_source ct_f_law_source), sl_f_law_source⟩) (cf_law_source : PySem.W.codeIn K cd_f_law_source "_law_source" = true) (kf_law_source : PySem.W.keepIn K (.ref a_f_law_source) = true)
    (alaw : PySem.W.nsIn K mainGlobals "law" = some (some (.ref a_law))) (llaw : K.lookup a_law = some ⟨oc_law, od_law, .func (PySem.W.fnOf "law" "law" (defArgs s_law) (defBody s_law) (defScope s_law) .none kV_law dc_law pm_law an_law cd_law ct_law), sl_law⟩) (claw : PySem.W.codeIn K cd_law "law" = true) (klaw : PySem.W.keepIn K (.ref a_law) = true)
    (y_divmod : PySem.W.nsIn K mainGlobals "divmod" = some none)
    (y_int : PySem.W.nsIn K mainGlobals "int" = some none)
    (y_abs : PySem.W.nsIn K mainGlobals "abs" = some none)
    (y_range : PySem.W.nsIn K mainGlobals "range" = some none)
    (y_tuple : PySem.W.nsIn K mainGlobals "tuple" = some none)
    (y_len : PySem.W.nsIn K mainGlobals "len" = some none)
    (y_isinstance : PySem.W.nsIn K mainGlobals "isinstance" = some none)
    (y_bool : PySem.W.nsIn K mainGlobals "bool" = some none)
    (y_all : PySem.W.nsIn K mainGlobals "all" = some none)
    (y_zip : PySem.W.nsIn K mainGlobals "zip" = some none)
    (y_enumerate : PySem.W.nsIn K mainGlobals "enumerate" = some none)
    (y_repr : PySem.W.nsIn K mainGlobals "repr" = some none)
    (y_max : PySem.W.nsIn K mainGlobals "max" = some none)
    (y_min : PySem.W.nsIn K mainGlobals "min" = some none)
    (y_MOST_DRAWS : PySem.W.nsIn K mainGlobals "MOST_DRAWS" = some (some (.int 8 u_MOST_DRAWS)))
    (y_ONE : PySem.W.nsIn K mainGlobals "ONE" = some (some (.ref A_ONE))) (o_ONE : K.lookup A_ONE = some ⟨.type "tuple", none, .seq #[.int 1 u_ONE, .int 1 v_ONE] n_ONE, s_ONE⟩)
    (y_ZERO : PySem.W.nsIn K mainGlobals "ZERO" = some (some (.ref A_ZERO))) (o_ZERO : K.lookup A_ZERO = some ⟨.type "tuple", none, .seq #[.int 0 u_ZERO, .int 1 v_ZERO] n_ZERO, s_ZERO⟩)
    (y_gcd : PySem.W.nsIn K mainGlobals "gcd" = some (some (.builtin "math.gcd")))
    : ∃ fd : FuncData, (∀ (s : Shared) (u : Value), BindsTo s fd ⟨[u], []⟩ [("script", u)]) ∧ ∀ base : Heap, K.In base → base.Ns mainGlobals mg → FnG l.prog w K mg base 12 fa fd ["script"] d_law := by
  have e := hfa.symm.trans (PySem.W.mg_of X M alaw)
  cases e
  have F_f_law_draw := fun_mk (st := s_f_law_draw) lf_law_draw cf_law_draw kf_law_draw
  have D_f_law_draw : Def K mg "_law_draw" s_f_law_draw ["source", "many"] _ _ := ⟨F_f_law_draw, PySem.W.mg_of X M af_law_draw, F_f_law_draw.binds (ps := ["source", "many"]) fun _ _ _ _ _ _ us hl => match us, hl with | [_, _], _ => rfl⟩
  have F_f_law_ratio := fun_mk (st := s_f_law_ratio) lf_law_ratio cf_law_ratio kf_law_ratio
  have D_f_law_ratio : Def K mg "_law_ratio" s_f_law_ratio ["n", "m"] _ _ := ⟨F_f_law_ratio, PySem.W.mg_of X M af_law_ratio, F_f_law_ratio.binds (ps := ["n", "m"]) fun _ _ _ _ _ _ us hl => match us, hl with | [_, _], _ => rfl⟩
  have F_f_law_box := fun_mk (st := s_f_law_box) lf_law_box cf_law_box kf_law_box
  have D_f_law_box : Def K mg "_law_box" s_f_law_box ["source", "n"] _ _ := ⟨F_f_law_box, PySem.W.mg_of X M af_law_box, F_f_law_box.binds (ps := ["source", "n"]) fun _ _ _ _ _ _ us hl => match us, hl with | [_, _], _ => rfl⟩
  have F_f_law_below := fun_mk (st := s_f_law_below) lf_law_below cf_law_below kf_law_below
  have D_f_law_below : Def K mg "_law_below" s_f_law_below ["x", "y"] _ _ := ⟨F_f_law_below, PySem.W.mg_of X M af_law_below, F_f_law_below.binds (ps := ["x", "y"]) fun _ _ _ _ _ _ us hl => match us, hl with | [_, _], _ => rfl⟩
  have F_f_law_plain := fun_mk (st := s_f_law_plain) lf_law_plain cf_law_plain kf_law_plain
  have D_f_law_plain : Def K mg "_law_plain" s_f_law_plain ["box"] _ _ := ⟨F_f_law_plain, PySem.W.mg_of X M af_law_plain, F_f_law_plain.binds (ps := ["box"]) fun _ _ _ _ _ _ us hl => match us, hl with | [_], _ => rfl⟩
  have F_f_law_times := fun_mk (st := s_f_law_times) lf_law_times cf_law_times kf_law_times
  have D_f_law_times : Def K mg "_law_times" s_f_law_times ["x", "y"] _ _ := ⟨F_f_law_times, PySem.W.mg_of X M af_law_times, F_f_law_times.binds (ps := ["x", "y"]) fun _ _ _ _ _ _ us hl => match us, hl with | [_, _], _ => rfl⟩
  have F_is_whole := fun_mk (st := s_is_whole) lis_whole cis_whole kis_whole
  have D_is_whole : Def K mg "is_whole" s_is_whole ["value"] _ _ := ⟨F_is_whole, PySem.W.mg_of X M ais_whole, F_is_whole.binds (ps := ["value"]) fun _ _ _ _ _ _ us hl => match us, hl with | [_], _ => rfl⟩
  have F_are_wholes := fun_mk (st := s_are_wholes) lare_wholes care_wholes kare_wholes
  have D_are_wholes : Def K mg "are_wholes" s_are_wholes ["value", "many"] _ _ := ⟨F_are_wholes, PySem.W.mg_of X M aare_wholes, F_are_wholes.binds (ps := ["value", "many"]) fun _ _ _ _ _ _ us hl => match us, hl with | [_, _], _ => rfl⟩
  have F_are_coprime := fun_mk (st := s_are_coprime) lare_coprime care_coprime kare_coprime
  have D_are_coprime : Def K mg "are_coprime" s_are_coprime ["one", "two"] _ _ := ⟨F_are_coprime, PySem.W.mg_of X M aare_coprime, F_are_coprime.binds (ps := ["one", "two"]) fun _ _ _ _ _ _ us hl => match us, hl with | [_, _], _ => rfl⟩
  have F_is_ratio := fun_mk (st := s_is_ratio) lis_ratio cis_ratio kis_ratio
  have D_is_ratio : Def K mg "is_ratio" s_is_ratio ["value"] _ _ := ⟨F_is_ratio, PySem.W.mg_of X M ais_ratio, F_is_ratio.binds (ps := ["value"]) fun _ _ _ _ _ _ us hl => match us, hl with | [_], _ => rfl⟩
  have F_is_from_nought := fun_mk (st := s_is_from_nought) lis_from_nought cis_from_nought kis_from_nought
  have D_is_from_nought : Def K mg "is_from_nought" s_is_from_nought ["value"] _ _ := ⟨F_is_from_nought, PySem.W.mg_of X M ais_from_nought, F_is_from_nought.binds (ps := ["value"]) fun _ _ _ _ _ _ us hl => match us, hl with | [_], _ => rfl⟩
  have F_is_share := fun_mk (st := s_is_share) lis_share cis_share kis_share
  have D_is_share : Def K mg "is_share" s_is_share ["value"] _ _ := ⟨F_is_share, PySem.W.mg_of X M ais_share, F_is_share.binds (ps := ["value"]) fun _ _ _ _ _ _ us hl => match us, hl with | [_], _ => rfl⟩
  have F_are_shares_all := fun_mk (st := s_are_shares_all) lare_shares_all care_shares_all kare_shares_all
  have D_are_shares_all : Def K mg "are_shares_all" s_are_shares_all ["value", "least", "most"] _ _ := ⟨F_are_shares_all, PySem.W.mg_of X M aare_shares_all, F_are_shares_all.binds (ps := ["value", "least", "most"]) fun _ _ _ _ _ _ us hl => match us, hl with | [_, _, _], _ => rfl⟩
  have F_wrong_in_pair := fun_mk (st := s_wrong_in_pair) lwrong_in_pair cwrong_in_pair kwrong_in_pair
  have D_wrong_in_pair : Def K mg "wrong_in_pair" s_wrong_in_pair ["value", "least", "most"] _ _ := ⟨F_wrong_in_pair, PySem.W.mg_of X M awrong_in_pair, F_wrong_in_pair.binds (ps := ["value", "least", "most"]) fun _ _ _ _ _ _ us hl => match us, hl with | [_, _, _], _ => rfl⟩
  have F_wrong_in_box := fun_mk (st := s_wrong_in_box) lwrong_in_box cwrong_in_box kwrong_in_box
  have D_wrong_in_box : Def K mg "wrong_in_box" s_wrong_in_box ["value"] _ _ := ⟨F_wrong_in_box, PySem.W.mg_of X M awrong_in_box, F_wrong_in_box.binds (ps := ["value"]) fun _ _ _ _ _ _ us hl => match us, hl with | [_], _ => rfl⟩
  have F_check_box := fun_mk (st := s_check_box) lcheck_box ccheck_box kcheck_box
  have D_check_box : Def K mg "check_box" s_check_box ["value"] _ _ := ⟨F_check_box, PySem.W.mg_of X M acheck_box, F_check_box.binds (ps := ["value"]) fun _ _ _ _ _ _ us hl => match us, hl with | [_], _ => rfl⟩
  have F_is_below := fun_mk (st := s_is_below) lis_below cis_below kis_below
  have D_is_below : Def K mg "is_below" s_is_below ["one", "two"] _ _ := ⟨F_is_below, PySem.W.mg_of X M ais_below, F_is_below.binds (ps := ["one", "two"]) fun _ _ _ _ _ _ us hl => match us, hl with | [_, _], _ => rfl⟩
  have F_greater_of := fun_mk (st := s_greater_of) lgreater_of cgreater_of kgreater_of
  have D_greater_of : Def K mg "greater_of" s_greater_of ["one", "two"] _ _ := ⟨F_greater_of, PySem.W.mg_of X M agreater_of, F_greater_of.binds (ps := ["one", "two"]) fun _ _ _ _ _ _ us hl => match us, hl with | [_, _], _ => rfl⟩
  have F_rising := fun_mk (st := s_rising) lrising crising krising
  have D_rising : Def K mg "rising" s_rising ["numbers"] _ _ := ⟨F_rising, PySem.W.mg_of X M arising, F_rising.binds (ps := ["numbers"]) fun _ _ _ _ _ _ us hl => match us, hl with | [_], _ => rfl⟩
  have F_lesser_of := fun_mk (st := s_lesser_of) llesser_of clesser_of klesser_of
  have D_lesser_of : Def K mg "lesser_of" s_lesser_of ["one", "two"] _ _ := ⟨F_lesser_of, PySem.W.mg_of X M alesser_of, F_lesser_of.binds (ps := ["one", "two"]) fun _ _ _ _ _ _ us hl => match us, hl with | [_, _], _ => rfl⟩
  have F_falling_back := fun_mk (st := s_falling_back) lfalling_back cfalling_back kfalling_back
  have D_falling_back : Def K mg "falling_back" s_falling_back ["numbers"] _ _ := ⟨F_falling_back, PySem.W.mg_of X M afalling_back, F_falling_back.binds (ps := ["numbers"]) fun _ _ _ _ _ _ us hl => match us, hl with | [_], _ => rfl⟩
  have F_plain_of := fun_mk (st := s_plain_of) lplain_of cplain_of kplain_of
  have D_plain_of : Def K mg "plain_of" s_plain_of ["box"] _ _ := ⟨F_plain_of, PySem.W.mg_of X M aplain_of, F_plain_of.binds (ps := ["box"]) fun _ _ _ _ _ _ us hl => match us, hl with | [_], _ => rfl⟩
  have F_lowest := fun_mk (st := s_lowest) llowest clowest klowest
  have D_lowest : Def K mg "lowest" s_lowest ["top", "under"] _ _ := ⟨F_lowest, PySem.W.mg_of X M alowest, F_lowest.binds (ps := ["top", "under"]) fun _ _ _ _ _ _ us hl => match us, hl with | [_, _], _ => rfl⟩
  have F_minus := fun_mk (st := s_minus) lminus cminus kminus
  have D_minus : Def K mg "minus" s_minus ["one", "two"] _ _ := ⟨F_minus, PySem.W.mg_of X M aminus, F_minus.binds (ps := ["one", "two"]) fun _ _ _ _ _ _ us hl => match us, hl with | [_, _], _ => rfl⟩
  have F_over := fun_mk (st := s_over) lover cover kover
  have D_over : Def K mg "over" s_over ["one", "two"] _ _ := ⟨F_over, PySem.W.mg_of X M aover, F_over.binds (ps := ["one", "two"]) fun _ _ _ _ _ _ us hl => match us, hl with | [_, _], _ => rfl⟩
  have F_powered := fun_mk (st := s_powered) lpowered cpowered kpowered
  have D_powered : Def K mg "powered" s_powered ["one", "many"] _ _ := ⟨F_powered, PySem.W.mg_of X M apowered, F_powered.binds (ps := ["one", "many"]) fun _ _ _ _ _ _ us hl => match us, hl with | [_, _], _ => rfl⟩
  have F_whole := fun_mk (st := s_whole) lwhole cwhole kwhole
  have D_whole : Def K mg "whole" s_whole ["number"] _ _ := ⟨F_whole, PySem.W.mg_of X M awhole, F_whole.binds (ps := ["number"]) fun _ _ _ _ _ _ us hl => match us, hl with | [_], _ => rfl⟩
  have F_product_up_to := fun_mk (st := s_product_up_to) lproduct_up_to cproduct_up_to kproduct_up_to
  have D_product_up_to : Def K mg "product_up_to" s_product_up_to ["many"] _ _ := ⟨F_product_up_to, PySem.W.mg_of X M aproduct_up_to, F_product_up_to.binds (ps := ["many"]) fun _ _ _ _ _ _ us hl => match us, hl with | [_], _ => rfl⟩
  have F_entry_of := fun_mk (st := s_entry_of) lentry_of centry_of kentry_of
  have D_entry_of : Def K mg "entry_of" s_entry_of ["lows", "highs", "row", "column"] _ _ := ⟨F_entry_of, PySem.W.mg_of X M aentry_of, F_entry_of.binds (ps := ["lows", "highs", "row", "column"]) fun _ _ _ _ _ _ us hl => match us, hl with | [_, _, _, _], _ => rfl⟩
  have F_table_of := fun_mk (st := s_table_of) ltable_of ctable_of ktable_of
  have D_table_of : Def K mg "table_of" s_table_of ["box"] _ _ := ⟨F_table_of, PySem.W.mg_of X M atable_of, F_table_of.binds (ps := ["box"]) fun _ _ _ _ _ _ us hl => match us, hl with | [_], _ => rfl⟩
  have F_times := fun_mk (st := s_times) ltimes ctimes ktimes
  have D_times : Def K mg "times" s_times ["one", "two"] _ _ := ⟨F_times, PySem.W.mg_of X M atimes, F_times.binds (ps := ["one", "two"]) fun _ _ _ _ _ _ us hl => match us, hl with | [_, _], _ => rfl⟩
  have F_row_less := fun_mk (st := s_row_less) lrow_less crow_less krow_less
  have D_row_less : Def K mg "row_less" s_row_less ["one", "two"] _ _ := ⟨F_row_less, PySem.W.mg_of X M arow_less, F_row_less.binds (ps := ["one", "two"]) fun _ _ _ _ _ _ us hl => match us, hl with | [_, _], _ => rfl⟩
  have F_row_scaled := fun_mk (st := s_row_scaled) lrow_scaled crow_scaled krow_scaled
  have D_row_scaled : Def K mg "row_scaled" s_row_scaled ["row", "number"] _ _ := ⟨F_row_scaled, PySem.W.mg_of X M arow_scaled, F_row_scaled.binds (ps := ["row", "number"]) fun _ _ _ _ _ _ us hl => match us, hl with | [_, _], _ => rfl⟩
  have F_determinant := fun_mk (st := s_determinant) ldeterminant cdeterminant kdeterminant
  have D_determinant : Def K mg "determinant" s_determinant ["table"] _ _ := ⟨F_determinant, PySem.W.mg_of X M adeterminant, F_determinant.binds (ps := ["table"]) fun _ _ _ _ _ _ us hl => match us, hl with | [_], _ => rfl⟩
  have F_chance_of := fun_mk (st := s_chance_of) lchance_of cchance_of kchance_of
  have D_chance_of : Def K mg "chance_of" s_chance_of ["box"] _ _ := ⟨F_chance_of, PySem.W.mg_of X M achance_of, F_chance_of.binds (ps := ["box"]) fun _ _ _ _ _ _ us hl => match us, hl with | [_], _ => rfl⟩
  have F_box_chance := fun_mk (st := s_box_chance) lbox_chance cbox_chance kbox_chance
  have D_box_chance : Def K mg "box_chance" s_box_chance ["box"] _ _ := ⟨F_box_chance, PySem.W.mg_of X M abox_chance, F_box_chance.binds (ps := ["box"]) fun _ _ _ _ _ _ us hl => match us, hl with | [_], _ => rfl⟩
  have F_box_table := fun_mk (st := s_box_table) lbox_table cbox_table kbox_table
  have D_box_table : Def K mg "box_table" s_box_table ["box"] _ _ := ⟨F_box_table, PySem.W.mg_of X M abox_table, F_box_table.binds (ps := ["box"]) fun _ _ _ _ _ _ us hl => match us, hl with | [_], _ => rfl⟩
  have F_f_law_entry := fun_mk (st := s_f_law_entry) lf_law_entry cf_law_entry kf_law_entry
  have D_f_law_entry : Def K mg "_law_entry" s_f_law_entry ["high", "low", "k"] _ _ := ⟨F_f_law_entry, PySem.W.mg_of X M af_law_entry, F_f_law_entry.binds (ps := ["high", "low", "k"]) fun _ _ _ _ _ _ us hl => match us, hl with | [_, _, _], _ => rfl⟩
  have F_f_law_table := fun_mk (st := s_f_law_table) lf_law_table cf_law_table kf_law_table
  have D_f_law_table : Def K mg "_law_table" s_f_law_table ["lows", "highs"] _ _ := ⟨F_f_law_table, PySem.W.mg_of X M af_law_table, F_f_law_table.binds (ps := ["lows", "highs"]) fun _ _ _ _ _ _ us hl => match us, hl with | [_, _], _ => rfl⟩
  have F_f_law_plus := fun_mk (st := s_f_law_plus) lf_law_plus cf_law_plus kf_law_plus
  have D_f_law_plus : Def K mg "_law_plus" s_f_law_plus ["x", "y"] _ _ := ⟨F_f_law_plus, PySem.W.mg_of X M af_law_plus, F_f_law_plus.binds (ps := ["x", "y"]) fun _ _ _ _ _ _ us hl => match us, hl with | [_, _], _ => rfl⟩
  have F_f_law_determinant := fun_mk (st := s_f_law_determinant) lf_law_determinant cf_law_determinant kf_law_determinant
  have D_f_law_determinant : Def K mg "_law_determinant" s_f_law_determinant ["table"] _ _ := ⟨F_f_law_determinant, PySem.W.mg_of X M af_law_determinant, F_f_law_determinant.binds (ps := ["table"]) fun _ _ _ _ _ _ us hl => match us, hl with | [_], _ => rfl⟩
  have F_plain_box := fun_mk (st := s_plain_box) lplain_box cplain_box kplain_box
  have D_plain_box : Def K mg "plain_box" s_plain_box ["box"] _ _ := ⟨F_plain_box, PySem.W.mg_of X M aplain_box, F_plain_box.binds (ps := ["box"]) fun _ _ _ _ _ _ us hl => match us, hl with | [_], _ => rfl⟩
  have F_f_law_right := fun_mk (st := s_f_law_right) lf_law_right cf_law_right kf_law_right
  have D_f_law_right : Def K mg "_law_right" s_f_law_right ["source"] _ _ := ⟨F_f_law_right, PySem.W.mg_of X M af_law_right, F_f_law_right.binds (ps := ["source"]) fun _ _ _ _ _ _ us hl => match us, hl with | [_], _ => rfl⟩
  have F_f_law_source := fun_mk (st := s_f_law_source) lf_law_source cf_law_source kf_law_source
  have D_f_law_source : Def K mg "_law_source" s_f_law_source ["script", "turn"] _ _ := ⟨F_f_law_source, PySem.W.mg_of X M af_law_source, F_f_law_source.binds (ps := ["script", "turn"]) fun _ _ _ _ _ _ us hl => match us, hl with | [_, _], _ => rfl⟩
  have F_law := fun_mk (st := s_law) llaw claw klaw
  have D_law : Def K mg "law" s_law ["script"] _ _ := ⟨F_law, PySem.W.mg_of X M alaw, F_law.binds (ps := ["script"]) fun _ _ _ _ _ _ us hl => match us, hl with | [_], _ => rfl⟩
  have z_divmod := PySem.W.mg_none_of X M y_divmod
  have z_int := PySem.W.mg_none_of X M y_int
  have z_abs := PySem.W.mg_none_of X M y_abs
  have z_range := PySem.W.mg_none_of X M y_range
  have z_tuple := PySem.W.mg_none_of X M y_tuple
  have z_len := PySem.W.mg_none_of X M y_len
  have z_isinstance := PySem.W.mg_none_of X M y_isinstance
  have z_bool := PySem.W.mg_none_of X M y_bool
  have z_all := PySem.W.mg_none_of X M y_all
  have z_zip := PySem.W.mg_none_of X M y_zip
  have z_enumerate := PySem.W.mg_none_of X M y_enumerate
  have z_repr := PySem.W.mg_none_of X M y_repr
  have z_max := PySem.W.mg_none_of X M y_max
  have z_min := PySem.W.mg_none_of X M y_min
  have c_MOST_DRAWS := PySem.W.mg_of X M y_MOST_DRAWS
  have c_ONE := PySem.W.mg_of X M y_ONE
  have c_ZERO := PySem.W.mg_of X M y_ZERO
  have i_gcd := PySem.W.mg_of X M y_gcd
  refine ⟨PySem.W.fnOf "law" "law" (defArgs s_law) (defBody s_law) (defScope s_law) .none kV_law dc_law pm_law an_law cd_law ct_law, fun s u => .of_eq rfl, fun base kb nb => ?_⟩
  have G_f_law_draw := ok_f_law_draw (P := l.prog) (w := w) (mg := mg) (base := base) F_f_law_draw z_divmod z_int
  have G_f_law_ratio := ok_f_law_ratio (P := l.prog) (w := w) (mg := mg) (base := base) F_f_law_ratio z_abs z_int
  have G_f_law_box := ok_f_law_box (P := l.prog) (w := w) (mg := mg) (base := base) F_f_law_box D_f_law_draw G_f_law_draw D_f_law_ratio G_f_law_ratio z_range z_tuple
  have G_f_law_below := ok_f_law_below (P := l.prog) (w := w) (mg := mg) (base := base) F_f_law_below
  have G_f_law_plain := ok_f_law_plain (P := l.prog) (w := w) (mg := mg) (base := base) F_f_law_plain D_f_law_below G_f_law_below z_range z_len z_tuple
  have G_f_law_times := ok_f_law_times (P := l.prog) (w := w) (mg := mg) (base := base) F_f_law_times D_f_law_ratio G_f_law_ratio
  have G_is_whole := ok_is_whole (P := l.prog) (w := w) (mg := mg) (base := base) F_is_whole z_isinstance z_int z_bool
  have G_are_wholes := ok_are_wholes (P := l.prog) (w := w) (mg := mg) (base := base) F_are_wholes D_is_whole G_is_whole z_isinstance z_tuple z_len z_all
  have G_are_coprime := ok_are_coprime (P := l.prog) (w := w) (mg := mg) (base := base) F_are_coprime i_gcd
  have G_is_ratio := ok_is_ratio (P := l.prog) (w := w) (mg := mg) (base := base) F_is_ratio D_are_wholes G_are_wholes D_are_coprime G_are_coprime
  have G_is_from_nought := ok_is_from_nought (P := l.prog) (w := w) (mg := mg) (base := base) F_is_from_nought D_is_ratio G_is_ratio
  have G_is_share := ok_is_share (P := l.prog) (w := w) (mg := mg) (base := base) F_is_share D_is_from_nought G_is_from_nought
  have G_are_shares_all := ok_are_shares_all (P := l.prog) (w := w) (mg := mg) (base := base) F_are_shares_all D_is_share G_is_share z_isinstance z_tuple z_len z_all
  have G_wrong_in_pair := ok_wrong_in_pair (P := l.prog) (w := w) (mg := mg) (base := base) F_wrong_in_pair D_are_shares_all G_are_shares_all z_isinstance z_tuple z_len z_all z_range
  have G_wrong_in_box := ok_wrong_in_box (P := l.prog) (w := w) (mg := mg) (base := base) F_wrong_in_box D_wrong_in_pair G_wrong_in_pair c_MOST_DRAWS
  have G_check_box := ok_check_box (P := l.prog) (w := w) (mg := mg) (base := base) F_check_box D_wrong_in_box G_wrong_in_box
  have G_is_below := ok_is_below (P := l.prog) (w := w) (mg := mg) (base := base) F_is_below
  have G_greater_of := ok_greater_of (P := l.prog) (w := w) (mg := mg) (base := base) F_greater_of D_is_below G_is_below
  have G_rising := ok_rising (P := l.prog) (w := w) (mg := mg) (base := base) F_rising D_greater_of G_greater_of z_tuple
  have G_lesser_of := ok_lesser_of (P := l.prog) (w := w) (mg := mg) (base := base) F_lesser_of D_is_below G_is_below
  have G_falling_back := ok_falling_back (P := l.prog) (w := w) (mg := mg) (base := base) F_falling_back D_lesser_of G_lesser_of z_tuple
  have G_plain_of := ok_plain_of (P := l.prog) (w := w) (mg := mg) (base := base) F_plain_of D_falling_back G_falling_back D_rising G_rising
  have G_lowest := ok_lowest (P := l.prog) (w := w) (mg := mg) (base := base) F_lowest i_gcd
  have G_minus := ok_minus (P := l.prog) (w := w) (mg := mg) (base := base) F_minus D_lowest G_lowest
  have G_over := ok_over (P := l.prog) (w := w) (mg := mg) (base := base) F_over D_lowest G_lowest
  have G_powered := ok_powered (P := l.prog) (w := w) (mg := mg) (base := base) F_powered z_range c_ONE o_ONE
  have G_whole := ok_whole (P := l.prog) (w := w) (mg := mg) (base := base) F_whole
  have G_product_up_to := ok_product_up_to (P := l.prog) (w := w) (mg := mg) (base := base) F_product_up_to z_range
  have G_entry_of := ok_entry_of (P := l.prog) (w := w) (mg := mg) (base := base) F_entry_of D_minus G_minus D_over G_over D_whole G_whole D_product_up_to G_product_up_to D_powered G_powered c_ONE o_ONE c_ZERO o_ZERO
  have G_table_of := ok_table_of (P := l.prog) (w := w) (mg := mg) (base := base) F_table_of D_plain_of G_plain_of D_is_below G_is_below D_entry_of G_entry_of z_all z_zip z_range z_len z_tuple
  have G_times := ok_times (P := l.prog) (w := w) (mg := mg) (base := base) F_times D_lowest G_lowest
  have G_row_less := ok_row_less (P := l.prog) (w := w) (mg := mg) (base := base) F_row_less D_minus G_minus z_tuple z_zip
  have G_row_scaled := ok_row_scaled (P := l.prog) (w := w) (mg := mg) (base := base) F_row_scaled D_times G_times z_tuple
  have G_determinant := ok_determinant (P := l.prog) (w := w) (mg := mg) (base := base) F_determinant D_times G_times D_minus G_minus D_row_less G_row_less D_row_scaled G_row_scaled D_over G_over z_tuple z_range z_len c_ONE o_ONE c_ZERO o_ZERO
  have G_chance_of := ok_chance_of (P := l.prog) (w := w) (mg := mg) (base := base) F_chance_of D_table_of G_table_of D_times G_times D_determinant G_determinant D_whole G_whole D_product_up_to G_product_up_to z_len c_ZERO o_ZERO
  have G_box_chance := ok_box_chance (P := l.prog) (w := w) (mg := mg) (base := base) F_box_chance D_check_box G_check_box D_chance_of G_chance_of
  have G_box_table := ok_box_table (P := l.prog) (w := w) (mg := mg) (base := base) F_box_table D_check_box G_check_box D_table_of G_table_of z_tuple
  have G_f_law_entry := ok_f_law_entry (P := l.prog) (w := w) (mg := mg) (base := base) F_f_law_entry D_f_law_ratio G_f_law_ratio D_f_law_times G_f_law_times z_range
  have G_f_law_table := ok_f_law_table (P := l.prog) (w := w) (mg := mg) (base := base) F_f_law_table D_f_law_entry G_f_law_entry z_enumerate z_tuple
  have G_f_law_plus := ok_f_law_plus (P := l.prog) (w := w) (mg := mg) (base := base) F_f_law_plus D_f_law_ratio G_f_law_ratio
  have G_f_law_determinant := ok_f_law_determinant (P := l.prog) (w := w) (mg := mg) (base := base) F_f_law_determinant D_f_law_plus G_f_law_plus D_f_law_times G_f_law_times z_range z_len z_int
  have G_plain_box := ok_plain_box (P := l.prog) (w := w) (mg := mg) (base := base) F_plain_box D_check_box G_check_box D_plain_of G_plain_of
  have G_f_law_right := ok_f_law_right (P := l.prog) (w := w) (mg := mg) (base := base) F_f_law_right D_f_law_draw G_f_law_draw D_f_law_box G_f_law_box D_f_law_plain G_f_law_plain D_plain_box G_plain_box D_box_table G_box_table D_box_chance G_box_chance D_f_law_below G_f_law_below D_f_law_table G_f_law_table D_f_law_times G_f_law_times D_f_law_determinant G_f_law_determinant z_repr z_all z_zip z_range
  have G_f_law_source := ok_f_law_source (P := l.prog) (w := w) (mg := mg) (base := base) F_f_law_source z_len z_int z_abs
  have G_law := ok_law (P := l.prog) (w := w) (mg := mg) (base := base) F_law D_f_law_right G_f_law_right D_f_law_source G_f_law_source z_all z_range z_max z_min z_len
  exact G_law
end
local macro_rules | `(tactic| walk_at "bd") => `(tactic| repeat (first | exact bd_fmod 64 (by decide) (by decide) | assumption | exact bd_of (b := 10000000000000000000) 64 (by omega) (by decide) | apply bd_mul | apply bd_add | apply bd_sub))
local macro_rules | `(tactic| walk_at "nm") => `(tactic| try simp only [List.set_cons_succ, List.set_cons_zero, recont, Int.reduceToNat, wback_nil, wback_one, wset_z, wset_s, Option.map_some, List.nil_append, List.cons_append])
local macro_rules | `(tactic| walk_at "e1") => `(tactic| first
  | ((with_reducible refine seqP_nx ?_); try simp only [List.set_cons_succ, List.set_cons_zero, recont, Int.reduceToNat, wback_nil, wback_one, wset_z, wset_s, Option.map_some, List.nil_append, List.cons_append])
  | (with_reducible first | refine seqP_rt ?_ | refine seqP_rn ?_ | refine seqP_bk ?_ | refine seqP_ct ?_ | refine w_seq ?_ | refine w_ret ?_ | refine w_ex ?_ | refine w_cons ?_ | refine w_nil ?_ | refine w_c ?_ | refine w_ifS ?_ | refine w_set ?_ | refine w_asg ?_ | refine w_call ?_ | refine w_callK ?_ | refine w_andT ?_ | refine w_orT ?_ | refine w_notT ?_ | refine w_tru ?_ | refine w_bl ?_ | refine w_mulL ?_ | refine w_mulN ?_ | refine w_mul ?_ | refine w_fdiv ?_ | refine w_mod ?_ | refine w_pow ?_ | refine w_bin ?_ | refine w_un ?_ | refine w_divmod ?_ | refine w_callN ?_ | refine w_tup ?_ | refine w_disp ?_ | refine w_nO ?_ | refine w_andO ?_ | refine w_orO ?_ | refine w_notO ?_ | refine w_ifO ?_ | refine w_slice ?_ | refine w_noP ?_ | refine w_soP ?_ | refine w_chain ?_ | refine w_callT ?_ | refine w_callNew ?_ | refine w_nx ?_ | refine w_bk ?_ | refine w_ct ?_ | refine w_yes ?_ | refine w_retNew ?_ | refine w_own ?_ | refine w_par2 ?_ | refine w_par3 ?_ | refine w_parM ?_ | refine w_nilM ?_ | refine w_consMa ?_ | refine w_consMn ?_ | refine w_dic0 ?_ | refine w_dic ?_ | refine wgs_nil ?_ | refine wgs_cons ?_ | refine w_for ?_ | refine w_seqI ?_ | refine w_rng1 ?_ | refine w_rng2 ?_ | refine w_enum ?_ | refine w_lstRg ?_ | refine w_rg1 ?_ | refine w_rg2 ?_ | refine w_tupRg ?_ | refine w_lc ?_ | refine w_zipM ?_ | refine w_zip3 ?_ | refine w_rev ?_ | refine w_fF ?_ | refine w_cmb ?_ | refine w_rgv ?_)
  | ((with_reducible apply w_vz); (case e => rfl))
  | ((with_reducible apply w_vb); (case e => rfl))
  | ((with_reducible apply w_vo); (case e => rfl))
  | ((with_reducible apply w_altS1); (case e => rfl))
  | ((with_reducible apply w_altS2); (case e => rfl))
  | ((with_reducible apply w_altS3); (case e => rfl))
  | ((with_reducible apply w_altN1); (case e => rfl))
  | ((with_reducible apply w_altN2); (case e => rfl))
  | ((with_reducible apply w_altN3); (case e => rfl))
  | ((with_reducible apply w_forL); (case e => rfl))
  | ((with_reducible apply w_forLb); (case e => rfl))
  | ((with_reducible refine wg_name ?hrf ?_); (case hrf => first | rfl | exact notBo_at rfl (by assumption) | exact notBo_at rfl (NF.nb (by assumption))))
  | ((with_reducible refine wg_tup ?hrf ?_); (case hrf => rfl))
  | ((with_reducible refine wg_pr ?hrf ?_); (case hrf => rfl))
  | (with_reducible refine wg_sub ?_)
  | ((with_reducible apply w_mut); (case e0 => rfl))
  | ((with_reducible refine and_nb ?_ ?_); first | rfl | exact notBo_at rfl (by assumption) | exact notBo_at rfl (NF.nb (by assumption)))
  | ((with_reducible refine and_ow ?_ ?_); first | rfl | exact ow_1 rfl (by assumption) | exact ow_2 rfl (by assumption) rfl (by assumption))
  | ((with_reducible refine and_rg ?_ ?_); with_reducible assumption)
  | (with_reducible refine ⟨fun _ => ?_, fun h => Bool.noConfusion h⟩)
  | (with_reducible refine ⟨fun h => Bool.noConfusion h, fun _ => ?_⟩)
  | ((with_reducible apply exIM); (case h1 => rfl); (case h2 => rfl); (case c => first | (with_reducible assumption) | exact mulOk_bd (by walk_at "bd") (by walk_at "bd") (by decide)))
  | ((with_reducible apply exID); (case h1 => rfl); (case h2 => rfl); (case c => first | (with_reducible assumption) | exact divOk_bd (by walk_at "bd") (by omega) (by decide)))
  | ((with_reducible apply exIR); (case h1 => rfl); (case h2 => rfl); (case c => omega))
  | ((with_reducible apply exIP); (case h1 => rfl); (case h2 => rfl); (case c => exact ⟨by decide, by decide, by decide⟩))
  | ((with_reducible apply ex2); (case h1 => rfl); (case h2 => rfl); (case h3 => first | ((with_reducible show eqD _ _ = some _); exact eq_ints_rng _ _ _) | ((with_reducible show neD _ _ = some _); exact ne_same _) | ((with_reducible show eqD _ _ = some _); exact eq_same _) | ((with_reducible show addD _ _ = some _); exact add_ev) | ((with_reducible show subD _ _ = some _); exact sub_ev) | ((with_reducible show ltD _ _ = some _); exact lt_ev) | ((with_reducible show leD _ _ = some _); exact le_ev) | ((with_reducible show gtD _ _ = some _); exact gt_ev) | ((with_reducible show geD _ _ = some _); exact ge_ev) | ((with_reducible show eqD _ _ = some _); exact DL.eq_int) | ((with_reducible show neD _ _ = some _); exact DL.ne_int) | rfl))
  | ((with_reducible apply exMN); (case h1 => rfl); (case h2 => rfl); (case c => first | (with_reducible assumption) | exact ⟨by omega, by omega, len_ok (by simp only [List.length_cons, List.length_nil]; omega)⟩))
  | ((with_reducible apply exSl); (case h1 => rfl); (case h2 => rfl))
  | ((with_reducible apply exTr); (case h1 => rfl); (case h2 => rfl))
  | ((with_reducible apply exTr2); (case h1 => rfl); (case h2 => rfl))
  | ((with_reducible apply ex1); (case h1 => rfl); (case h3 => rfl))
  | ((with_reducible apply exDM); (case h1 => rfl); (case c => omega))
  | ((with_reducible apply exN); (case h1 => rfl); (case h3 => first | ((with_reducible show reprD _ = some _); exact repr_ev (by first | with_reducible assumption | assumption)) | ((with_reducible show sortAnyD _ = some _); exact (by assumption : sortAnyD _ = some _)) | ((with_reducible show minD _ = some _); exact min_ev) | ((with_reducible show maxD _ = some _); exact max_ev) | ((with_reducible show absD _ = some _); exact abs_ev) | ((with_reducible show isiD _ = some _); exact isi_int (by assumption)) | ((with_reducible show isiD _ = some _); exact isi_bool (by assumption)) | ((with_reducible show isiD _ = some _); exact isi_tup (by assumption)) | ((with_reducible show rgD _ = some _); exact rg_ev (by omega)) | rfl))
  | ((with_reducible apply exT); (case h1 => rfl); (case h2 => exact len_ok (by simp only [List.length_cons, List.length_nil]; decide)))
  | ((with_reducible apply exSq); (case h1 => rfl); (case h2 => rfl))
  | ((with_reducible apply exP2); (case h1 => rfl))
  | ((with_reducible apply exP3); (case h1 => rfl))
  | ((with_reducible apply exF); (case h1 => rfl))
  | ((with_reducible apply exB); (case h1 => rfl))
  | ((with_reducible apply exR1); (case h1 => rfl); (case c => exact ⟨by omega, by omega⟩))
  | ((with_reducible apply exR2); (case h1 => rfl); (case c => exact ⟨by omega, by omega, by omega, by omega⟩))
  | ((with_reducible apply exI); (case h1 => rfl))
  | ((with_reducible apply exRv); (case h1 => rfl); (case h2 => rfl))
  | ((with_reducible apply exRg); (case h1 => rfl); (case c => exact ⟨by omega, by omega⟩))
  | ((with_reducible apply exZ2); (case h1 => rfl); (case h2 => rfl); (case h3 => rfl))
  | ((with_reducible apply exZ3); (case h1 => rfl); (case h2 => rfl); (case h3 => rfl); (case h4 => rfl))
  | refine ⟨_, _, _, _, rfl, rfl, rfl, rfl, ?_⟩
  | refine ⟨_, _, _, _, _, _, rfl, rfl, rfl, rfl, ?_⟩
  | refine ⟨_, _, _, rfl, rfl, rfl, ?_⟩
  | refine ⟨_, _, _, rfl, rfl, ?_⟩
  | refine ⟨_, _, rfl, rfl, ?_⟩
  | refine ⟨_, _, rfl, ?_⟩
  | refine ⟨_, rfl, ?_⟩)
local macro_rules | `(tactic| walk_at "ev") => `(tactic| repeat walk_at "e1")
local macro_rules | `(tactic| walk_at "fn") => `(tactic| (refine wf_fn rfl rfl ?_; simp only [List.map_cons, List.map_nil, List.cons_append, List.nil_append, Nat.reduceSub, List.reduceReplicate]))
local macro_rules | `(tactic| walk_at "fnN") => `(tactic| (refine wf_fnN rfl rfl ?_; simp only [List.map_cons, List.map_nil, List.cons_append, List.nil_append, Nat.reduceSub, List.reduceReplicate]))
local macro_rules | `(tactic| walk_at "rt") => `(tactic| refine ⟨_, .inl rfl, ?_⟩)
namespace P14x1
end P14x1
theorem are_wholes_q (p : Int × Int) : d_are_wholes [.fz (qD p), .fz (.int 2)] = some (.bl true, [.fz (qD p), .fz (.int 2)]) := rfl
theorem is_ratio_q {p : Int × Int} (h1 : 0 < p.2) (h2 : Int.gcd p.1 p.2 = 1) : d_is_ratio [.fz (qD p)] = some (.bl true, [.fz (qD p)]) := by
  suffices H : Wf d_is_ratio [.fz (qD p)] fun r o => r = .bl true ∧ o = [.fz (qD p)] by
    obtain ⟨r, o, e, rfl, rfl⟩ := H; exact e
  walk_at "fn"
  unfold e_is_ratio
  walk_at "ev"
  refine wrp (are_wholes_q p) rfl rfl rfl ?_
  walk_at "ev"
  refine ⟨fun _ => ?_, fun h => absurd h1 (of_decide_eq_false h)⟩
  walk_at "ev"
  have e : d_are_coprime [.fz (.int p.1), .fz (.int p.2)] = some (.bl (((Nat.gcd p.1.natAbs p.2.natAbs : Nat) : Int) == 1), [.fz (.int p.1), .fz (.int p.2)]) := rfl
  refine wrp e rfl rfl rfl ?_
  walk_at "ev"
  walk_at "rt"
  have e2 : Nat.gcd p.1.natAbs p.2.natAbs = 1 := h2
  rw [e2]
  exact ⟨rfl, rfl⟩
theorem lowest_B {a b : Int} (h0 : 0 < b) (hb : Bd b 8900) : d_lowest [.fz (.int a), .fz (.int b)] = some (qD (redQ a b), [.fz (.int a), .fz (.int b)]) := by
  suffices H : Wf d_lowest [.fz (.int a), .fz (.int b)] fun r o => r = qD (redQ a b) ∧ o = [.fz (.int a), .fz (.int b)] by
    obtain ⟨r, o, e, rfl, rfl⟩ := H; exact e
  have hg : 0 < Int.gcd a b := Int.gcd_pos_of_ne_zero_right _ (by omega)
  have hgb : Bd ((Nat.gcd a.natAbs b.natAbs : Nat) : Int) 8900 := by
    unfold Bd at *
    have : Nat.gcd a.natAbs b.natAbs ≤ b.natAbs := Int.gcd_le_natAbs_right a (b := b) (by omega)
    simp only [Int.natAbs_natCast]
    omega
  have hne : ((Nat.gcd a.natAbs b.natAbs : Nat) : Int) ≠ 0 := by
    have : Nat.gcd a.natAbs b.natAbs = Int.gcd a b := rfl
    omega
  walk_at "fn"
  unfold e_lowest
  walk_at "ev"
  refine ⟨fun _ => ?_, fun h => absurd h0 (of_decide_eq_false h)⟩
  walk_at "ev"
  walk_at "rt"
  rw [Int.fdiv_eq_ediv_of_nonneg _ (by omega), Int.fdiv_eq_ediv_of_nonneg _ (by omega)]
  exact ⟨rfl, rfl⟩
theorem minus_R {x y : Rat} (hx : Rz 4000 x) (hy : Rz 4000 y) : d_minus [.fz (qR x), .fz (qR y)] = some (qR (x - y), [.fz (qR x), .fz (qR y)]) := by
  suffices H : Wf d_minus [.fz (qR x), .fz (qR y)] fun r o => r = qR (x - y) ∧ o = [.fz (qR x), .fz (qR y)] by
    obtain ⟨r, o, e, rfl, rfl⟩ := H; exact e
  have h1 := hx.b1
  have h2 := hx.b2
  have h3 := hy.b1
  have h4 := hy.b2
  have hl := lowest_B (a := x.num * (y.den : Int) - y.num * (x.den : Int)) (b := (x.den : Int) * (y.den : Int)) (Int.mul_pos (den_pos x) (den_pos y)) (bd_mono (bd_mul h2 h4) (by decide))
  rw [red_sub] at hl
  walk_at "fn"
  unfold e_minus
  walk_at "ev"
  refine wrp (hl) rfl rfl rfl ?_
  walk_at "ev"
  walk_at "ev"
  walk_at "rt"
  exact ⟨rfl, rfl⟩
theorem times_R {x y : Rat} (hx : Rz 4000 x) (hy : Rz 4000 y) : d_times [.fz (qR x), .fz (qR y)] = some (qR (x * y), [.fz (qR x), .fz (qR y)]) := by
  suffices H : Wf d_times [.fz (qR x), .fz (qR y)] fun r o => r = qR (x * y) ∧ o = [.fz (qR x), .fz (qR y)] by
    obtain ⟨r, o, e, rfl, rfl⟩ := H; exact e
  have h1 := hx.b1
  have h2 := hx.b2
  have h3 := hy.b1
  have h4 := hy.b2
  have hl := lowest_B (a := x.num * y.num) (b := (x.den : Int) * (y.den : Int)) (Int.mul_pos (den_pos x) (den_pos y)) (bd_mono (bd_mul h2 h4) (by decide))
  rw [red_mul] at hl
  walk_at "fn"
  unfold e_times
  walk_at "ev"
  refine wrp (hl) rfl rfl rfl ?_
  walk_at "ev"
  walk_at "ev"
  walk_at "rt"
  exact ⟨rfl, rfl⟩
theorem is_below_R {x y : Rat} (hx : Rz 4000 x) (hy : Rz 4000 y) : d_is_below [.fz (qR x), .fz (qR y)] = some (.bl (decide (x < y)), [.fz (qR x), .fz (qR y)]) := by
  suffices H : Wf d_is_below [.fz (qR x), .fz (qR y)] fun r o => r = .bl (decide (x < y)) ∧ o = [.fz (qR x), .fz (qR y)] by
    obtain ⟨r, o, e, rfl, rfl⟩ := H; exact e
  have h1 := hx.b1
  have h2 := hx.b2
  have h3 := hy.b1
  have h4 := hy.b2
  rw [← lt_R]
  walk_at "fn"
  unfold e_is_below
  walk_at "ev"
  walk_at "ev"
  walk_at "rt"
  exact ⟨rfl, rfl⟩
theorem whole_R {i : Int} : d_whole [.fz (.int i)] = some (qR (i : Rat), [.fz (.int i)]) := by
  suffices H : Wf d_whole [.fz (.int i)] fun r o => r = qR (i : Rat) ∧ o = [.fz (.int i)] by
    obtain ⟨r, o, e, rfl, rfl⟩ := H; exact e
  walk_at "fn"
  unfold e_whole
  walk_at "ev"
  walk_at "ev"
  walk_at "rt"
  exact ⟨(qR_int i).symm, rfl⟩
theorem qp_pow (x : Rat) : ∀ k : Nat, qp (x ^ k) = (x.num ^ k, (x.den : Int) ^ k) := fun k => by
  have hp : (0 : Int) < (x.den : Int) ^ k := Int.pow_pos (den_pos x)
  have hg : Int.gcd (x.num ^ k) ((x.den : Int) ^ k) = 1 := by
    have h : x.num.natAbs.Coprime x.den := x.reduced
    have h2 := Nat.Coprime.pow k k h
    unfold Int.gcd
    rw [Int.natAbs_pow, Int.natAbs_pow, Int.natAbs_natCast]
    exact h2
  rw [← qp_of hp hg]
  congr 1
  have hb' : ((x.den : Int) : Rat) ≠ 0 := by
    intro e
    have h0 : (x.den : Int) = 0 := by exact_mod_cast e
    have := den_pos x; omega
  have key : ∀ k : Nat, x ^ k * (((x.den : Int) ^ k : Int) : Rat) = ((x.num ^ k : Int) : Rat) := by
    intro k
    induction k with
    | zero => simp
    | succ k ih =>
      have h1 := num_eq x
      rw [Rat.pow_succ, Int.pow_succ, Int.pow_succ]
      push_cast at *
      grind
  have h := key k
  have hk : (((x.den : Int) ^ k : Int) : Rat) ≠ 0 := by
    intro e
    have h0 : (x.den : Int) ^ k = 0 := by exact_mod_cast e
    omega
  grind
theorem rz_pow {n : Nat} {x : Rat} (h : Rz n x) (k : Nat) : Rz (n * k + 1) (x ^ k) := by
  have e := qp_pow x k
  have h1 := bd_pow h.b1 k
  have h2 := bd_pow h.b2 k
  exact ⟨by rw [show (x ^ k).num = x.num ^ k from congrArg Prod.fst e]; exact h1, by rw [show (((x ^ k).den : Int)) = (x.den : Int) ^ k from congrArg Prod.snd e]; exact h2⟩
theorem powered_R {x : Rat} {k : Nat} (hx : Rz 1000 x) (hk : k ≤ 50) : d_powered [.fz (qR x), .fz (.int k)] = some (qR (x ^ k), [.fz (qR x), .fz (.int k)]) := by
  suffices H : Wf d_powered [.fz (qR x), .fz (.int k)] fun r o => r = qR (x ^ k) ∧ o = [.fz (qR x), .fz (.int k)] by
    obtain ⟨r, o, e, rfl, rfl⟩ := H; exact e
  have h1 := hx.b1
  have h2 := hx.b2
  walk_at "fn"
  unfold e_powered
  walk_at "ev"
  rw [Int.toNat_natCast]
  refine w_loop (Rt := fun _ _ => False) (fun i δ => ∃ y, δ = [some (.fz (qR x)), some (.fz (.int k)), some (.fz (qR (x ^ i))), y] ∧ NB y) ⟨none, by rw [Rat.pow_zero, qR_one], trivial⟩ (fun i z δ1 hz hI => ?_) (fun δ1 hI => ?_) (fun _ _ h => h.elim)
  · obtain ⟨y, rfl, ny⟩ := hI
    obtain ⟨hi, rfl⟩ := rng_get hz
    have hp := rz_pow hx i
    have p1 : Bd (qp (x ^ i)).1 51000 := bd_mono hp.b1 (by omega)
    have p2 : Bd (qp (x ^ i)).2 51000 := bd_mono hp.b2 (by omega)
    have e1 := qp_pow x i
    have e2 := qp_pow x (i + 1)
    have e3 : qR (x ^ (i + 1)) = .tup [.int ((qp (x ^ i)).1 * (qp x).1), .int ((qp (x ^ i)).2 * (qp x).2)] := by
      unfold qR qD
      rw [e2, e1]
      simp only [Int.pow_succ]
      rfl
    have q1 : Bd (qp x).1 1000 := h1
    have q2 : Bd (qp x).2 1000 := h2
    have m1 : mulOk (qp (x ^ i)).1 (qp x).1 = true := mulOk_bd p1 q1 (by decide)
    have m2 : mulOk (qp (x ^ i)).2 (qp x).2 = true := mulOk_bd p2 q2 (by decide)
    rw [e3]
    have u1 : qR (x ^ i) = .tup [.int (qp (x ^ i)).1, .int (qp (x ^ i)).2] := rfl
    have u2 : qR x = .tup [.int (qp x).1, .int (qp x).2] := rfl
    rw [u1, u2]
    walk_at "ev"
    exact .inl ⟨rfl, _, rfl, nb_fz⟩
  · obtain ⟨y, rfl, ny⟩ := hI
    rw [rng_len]
    walk_at "ev"
    walk_at "rt"
    exact ⟨rfl, rfl⟩
theorem is_ratio_R {x : Rat} : d_is_ratio [.fz (qR x)] = some (.bl true, [.fz (qR x)]) := is_ratio_q (p := qp x) (den_pos x) (qp_cop x)

def rowR (r : List Rat) : D := .tup (r.map qR)
theorem eqv_i (a c : Int) : eqvD (.int a) (.int c) = decide (a = c) := by
  by_cases h : a = c <;> simp [eqvD, h]
theorem shp_R (n : Nat) (x : Rat) : shp (n + 1) (qR x) = true := shp_q n (qp x)
theorem eqv_R (x y : Rat) : eqvD (qR x) (qR y) = decide (x = y) := by
  have e : eqvD (qR x) (qR y) = (decide ((qp x).1 = (qp y).1) && decide ((qp x).2 = (qp y).2)) := by
    unfold qR qD
    rw [Bool.eq_iff_iff]
    simp [eqvD, eqvAllD]
  rw [e]
  by_cases h : x = y
  · subst h; simp
  · rw [decide_eq_false h]
    by_cases h1 : (qp x).1 = (qp y).1
    · by_cases h2 : (qp x).2 = (qp y).2
      · exact absurd (qp_inj (Prod.ext h1 h2)) h
      · simp [h2]
    · simp [h1]
theorem eq_R (x y : Rat) : eqD (qR x) (qR y) = some (.bl (decide (x = y))) := by
  have h1 : shp 60 (qR x) = true := shp_R 59 x
  have h2 : shp 60 (qR y) = true := shp_R 59 y
  have e : eqC (qR x) (qR y) = some (decide (x = y)) := by
    have h1' : shp 60 (.tup [.int (qp x).1, .int (qp x).2]) = true := h1
    have h2' : shp 60 (.tup [.int (qp y).1, .int (qp y).2]) = true := h2
    have := eqv_R x y
    unfold qR qD at *
    simp only [eqC, h1', h2', Bool.and_self, if_true, this]
  unfold eqD
  rw [e]; rfl
theorem eq_R0 (x : Rat) : eqD (qR x) (.tup [.int 0, .int 1]) = some (.bl (decide (x = 0))) := by rw [← qR_zero]; exact eq_R x 0
theorem all_true' {α : Type} (l : List α) : allD [.lst (l.map fun _ => D.bl true)] = some (.bl true) := by
  have e : (l.map fun _ => D.bl true) = (l.map fun _ => true).map D.bl := by rw [List.map_map]; rfl
  rw [e]
  unfold allD
  simp only [blsD_map, Option.bind_some]
  simp
theorem all_bl {α : Type} (p : α → Bool) (l : List α) : allD [.lst (l.map fun x => D.bl (p x))] = some (.bl (l.all p)) := by
  have e : (l.map fun x => D.bl (p x)) = (l.map p).map D.bl := by rw [List.map_map]; rfl
  rw [e]
  unfold allD
  simp only [blsD_map, Option.bind_some]
  simp
theorem dz0 (x : Rat) : decide ((qp x).1 = 0) = decide (x = 0) := by
  show decide (x.num = 0) = _
  by_cases h : x = 0
  · rw [decide_eq_true h, decide_eq_true (num_zero.mpr h)]
  · rw [decide_eq_false h, decide_eq_false (fun z => h (num_zero.mp z))]
theorem lc_map {α : Type} {g : EG} {tt : ET} {te : EO} {vs : List Nat} {δ : DE} (f : α → D) (G : α → Option D) : ∀ (xs : List α) (acc : List D), acc.length + xs.length ≤ sizeLine →
    (∀ x ∈ xs, Wg g (f x) (wipeD δ vs) fun δ1 => W tt δ1 fun b δ2 => (b = true → W te δ2 fun a δ3 => ∃ y δ4, frz a δ3 = some (y, δ4) ∧ G x = some y ∧ restD δ vs δ4 = δ) ∧ (b = false → G x = none ∧ restD δ vs δ2 = δ)) →
    lcLoop g tt te vs (xs.map f) acc δ = some (acc ++ xs.filterMap G, δ)
  | [], acc, _, _ => by simp [lcLoop]
  | x :: xs, acc, hl, h => by
    obtain ⟨δ1, e1, b, δ2, e2, h1, h2⟩ := h x List.mem_cons_self
    have hl' : acc.length + xs.length + 1 ≤ sizeLine := by simpa [Nat.add_assoc] using hl
    rw [List.map_cons]
    unfold lcLoop
    simp only [e1, Option.bind_some, e2]
    cases b with
    | true =>
      obtain ⟨a, δ3, e3, y, δ4, e4, hF, hr⟩ := h1 rfl
      rw [if_pos rfl]
      simp only [e3, Option.bind_some, e4]
      rw [if_pos (by omega), hr, lc_map f G xs (acc ++ [y]) (by simp; omega) fun z hz => h z (List.mem_cons_of_mem _ hz)]
      simp [List.filterMap_cons, hF]
    | false =>
      obtain ⟨hF, hr⟩ := h2 rfl
      rw [if_neg Bool.false_ne_true, hr, lc_map f G xs acc (by omega) fun z hz => h z (List.mem_cons_of_mem _ hz)]
      simp [List.filterMap_cons, hF]
theorem w_lcm {α : Type} {g : EG} {tt : ET} {te : EO} {vs : List Nat} {δ : DE} {PN : List D → DE → Prop} {xs : List α} {f : α → D} (G : α → D) (hl : xs.length ≤ sizeLine)
    (h : ∀ x ∈ xs, Wg g (f x) (wipeD δ vs) fun δ1 => W tt δ1 fun b δ2 => b = true ∧ W te δ2 fun a δ3 => ∃ δ4, frz a δ3 = some (G x, δ4) ∧ restD δ vs δ4 = δ) (p : PN (xs.map G) δ) : W (lcLoop g tt te vs (xs.map f) []) δ PN := by
  refine ⟨_, _, lc_map f (fun x => some (G x)) xs [] (by simpa using hl) (fun x hx => ?_), by rw [fm_map]; simpa using p⟩
  obtain ⟨δ1, e1, b, δ2, e2, hb, a, δ3, e3, δ4, e4, hr⟩ := h x hx
  refine ⟨δ1, e1, b, δ2, e2, fun _ => ⟨a, δ3, e3, _, δ4, e4, rfl, hr⟩, fun hf => ?_⟩
  rw [hb] at hf; cases hf
theorem w_lcf {α : Type} {g : EG} {tt : ET} {te : EO} {vs : List Nat} {δ : DE} {PN : List D → DE → Prop} {xs : List α} {f : α → D} (t : α → Bool) (G : α → D) (hl : xs.length ≤ sizeLine)
    (h : ∀ x ∈ xs, Wg g (f x) (wipeD δ vs) fun δ1 => W tt δ1 fun b δ2 => b = t x ∧ (t x = true → W te δ2 fun a δ3 => ∃ δ4, frz a δ3 = some (G x, δ4) ∧ restD δ vs δ4 = δ) ∧ (t x = false → restD δ vs δ2 = δ)) (p : PN ((xs.filter t).map G) δ) : W (lcLoop g tt te vs (xs.map f) []) δ PN := by
  have e : ∀ l : List α, (l.filter t).map G = l.filterMap fun x => if t x then some (G x) else none := fun l => by
    induction l with
    | nil => rfl
    | cons x l ih => cases ht : t x <;> simp [List.filter_cons, List.filterMap_cons, ht, ih]
  rw [e] at p
  refine ⟨_, _, lc_map f (fun x => if t x then some (G x) else none) xs [] (by simpa using hl) (fun x hx => ?_), by simpa using p⟩
  obtain ⟨δ1, e1, b, δ2, e2, hb, h1, h2⟩ := h x hx
  refine ⟨δ1, e1, b, δ2, e2, fun ht => ?_, fun ht => ?_⟩
  · obtain ⟨a, δ3, e3, δ4, e4, hr⟩ := h1 (hb ▸ ht)
    exact ⟨a, δ3, e3, _, δ4, e4, by rw [if_pos (hb ▸ ht)], hr⟩
  · exact ⟨by rw [if_neg]; rw [← hb, ht]; exact Bool.false_ne_true, h2 (hb ▸ ht)⟩
theorem zipD_map {α β : Type} (f : α → D) (g : β → D) : ∀ (xs : List α) (ys : List β), zipD (xs.map f) (ys.map g) = (xs.zip ys).map fun p => D.pr [f p.1, g p.2]
  | [], _ => rfl
  | _ :: _, [] => rfl
  | x :: xs, y :: ys => by
    have ih := zipD_map f g xs ys
    unfold zipD at *
    rw [List.map_cons, List.map_cons, List.zipWith_cons_cons, ih]
    rfl
theorem cutD_1 {α : Type} (f : α → D) (xs : List α) (h : 1 ≤ xs.length) : DL.cutD (xs.map f) (some 1) none = (xs.drop 1).map f := by
  unfold DL.cutD
  rw [show (some (1 : Int)) = some ((1 : Nat) : Int) from rfl, HT.sIx_nat, List.length_map, Nat.min_eq_left h]
  rw [show HT.sIx xs.length xs.length none = xs.length from rfl, List.take_of_length_le (by rw [List.length_drop, List.length_map]; exact Nat.le_refl _), List.map_drop]
theorem ix_at {α : Type} (f : α → D) {xs : List α} {i : Nat} {x : α} (h : xs[i]? = some x) : ixD (.tup (xs.map f)) (.int (i : Int)) = some (f x) := L2.atI_nat (by rw [List.getElem?_map, h]; rfl)
theorem ix_0 {α : Type} (f : α → D) {xs : List α} {x : α} (h : xs[0]? = some x) : ixD (.tup (xs.map f)) (.int 0) = some (f x) := ix_at f h
theorem ix_l {α : Type} (f : α → D) {xs : List α} {x : α} (h : xs[xs.length - 1]? = some x) : ixD (.tup (xs.map f)) (.int (-1)) = some (f x) := at_last (by rw [List.length_map, List.getElem?_map, h]; rfl)

theorem draw_ok {k : Nat} {u : List D} {t : Int} (g : GU (k + 1) u) (h0 : 0 < t) (h1 : t < 1073741824) : Wf d_f_law_draw [.bo u, .fz (.int t)] fun r o => ∃ (i : Int) (u' : List D), r = .int i ∧ 0 ≤ i ∧ i < t ∧ GU k u' ∧ o = [.bo u', .fz (.int t)] := by
  obtain ⟨a, s, n, rfl, ha, hs, hs2, hn, hk⟩ := g
  walk_at "fn"
  unfold e_f_law_draw
  walk_at "ev"
  refine ⟨fun h => ?_, fun h => ?_⟩
  · walk_at "ev"
    walk_at "rt"
    have h' : 0 < a := of_decide_eq_true h
    exact ⟨_, _, rfl, Int.emod_nonneg _ (by omega), Int.emod_lt_of_pos _ h0, ⟨_, _, _, rfl, Int.ediv_nonneg ha (by omega), hs, hs2, hn, by omega⟩, rfl⟩
  · walk_at "ev"
    walk_at "rt"
    have q1 := Int.fmod_nonneg_of_pos (s * (39709 + 6 * (n + 1)) + 17497 * (n + 1) + 3) (b := 2147483549) (by decide)
    have q2 := Int.fmod_lt_of_pos (s * (39709 + 6 * (n + 1)) + 17497 * (n + 1) + 3) (b := 2147483549) (by decide)
    exact ⟨_, _, rfl, Int.fmod_nonneg_of_pos _ h0, Int.fmod_lt_of_pos _ h0, ⟨_, _, _, rfl, ha, q1, by omega, by omega, by omega⟩, rfl⟩
theorem ratio_ok {a b : Int} (h0 : 0 < b) (hb : Bd b 8000) (ha : Bd a 8000) : Wf d_f_law_ratio [.fz (.int a), .fz (.int b)] fun r o => r = qD (redQ a b) ∧ o = [.fz (.int a), .fz (.int b)] := by
  have hg : 0 < Int.gcd a b := Int.gcd_pos_of_ne_zero_right _ (by omega)
  have hgb : Bd (Int.gcd a b : Int) 8000 := by
    unfold Bd at *
    have := Int.gcd_le_natAbs_right a (b := b) (by omega)
    simp only [Int.natAbs_natCast]
    omega
  walk_at "fn"
  unfold e_f_law_ratio
  walk_at "ev"
  refine w_while (I := fun m δ => ∃ x y : Int, δ = [some (.fz (.int a)), some (.fz (.int b)), some (.fz (.int x)), some (.fz (.int y))] ∧ 0 ≤ x ∧ 0 ≤ y ∧ Int.gcd x y = Int.gcd a b ∧ m = y.toNat) b.toNat ⟨_, _, rfl, by split <;> omega, by split <;> omega, by split <;> split <;> simp, by split <;> omega⟩ fun m δ1 hI => ?_
  obtain ⟨x, y, rfl, hx, hy, hgc, rfl⟩ := hI
  walk_at "ev"
  refine ⟨fun h => ?_, fun h => ?_⟩
  · have h' : 0 < y := of_decide_eq_true h
    walk_at "ev"
    refine ⟨rfl, _, ?_, _, _, rfl, hy, Int.fmod_nonneg_of_pos _ h', ?_, rfl⟩
    · have := Int.fmod_lt_of_pos x h'
      omega
    · rw [Int.fmod_eq_emod_of_nonneg _ hy, ← hgc, Int.gcd_comm x y]
      have e := Int.gcd_add_mul_left_right y (x % y) (x / y)
      rw [Int.emod_add_mul_ediv] at e
      exact e.symm
  · have h' : y = 0 := by
      have := of_decide_eq_false h
      omega
    subst h'
    have hxg : x = (Int.gcd a b : Int) := by
      rw [← hgc, Int.gcd_zero_right]; omega
    subst hxg
    have hne : (Int.gcd a b : Int) ≠ 0 := by omega
    walk_at "ev"
    refine ⟨fun _ => ?_, fun h => absurd h0 (of_decide_eq_false h)⟩
    walk_at "ev"
    refine ⟨_, .inl rfl, ?_, rfl⟩
    rw [Int.fdiv_eq_ediv_of_nonneg _ (by omega), Int.fdiv_eq_ediv_of_nonneg _ (by omega)]
    rfl
theorem ratio_eq {a b : Int} (h0 : 0 < b) (hb : Bd b 8000) (ha : Bd a 8000) : d_f_law_ratio [.fz (.int a), .fz (.int b)] = some (qD (redQ a b), [.fz (.int a), .fz (.int b)]) := by
  obtain ⟨r, o, e, rfl, rfl⟩ := ratio_ok h0 hb ha
  exact e
namespace P14x2
end P14x2
theorem is_from_nought_q {q : Int × Int} (hp : 0 < q.2) (hc : Int.gcd q.1 q.2 = 1) (h0 : 0 ≤ q.1) : d_is_from_nought [.fz (qD q)] = some (.bl true, [.fz (qD q)]) := by
  suffices H : Wf d_is_from_nought [.fz (qD q)] fun r o => r = .bl true ∧ o = [.fz (qD q)] by
    obtain ⟨r, o, e, rfl, rfl⟩ := H; exact e
  walk_at "fn"
  unfold e_is_from_nought
  walk_at "ev"
  refine wrp (is_ratio_q hp hc) rfl rfl rfl ?_
  walk_at "ev"
  walk_at "rt"
  rw [decide_eq_true h0]
  exact ⟨rfl, rfl⟩

--@ share
theorem is_share_q {q : Int × Int} (hp : 0 < q.2) (hc : Int.gcd q.1 q.2 = 1) (h0 : 0 ≤ q.1) (h1 : q.1 ≤ q.2) : d_is_share [.fz (qD q)] = some (.bl true, [.fz (qD q)]) := by
  suffices H : Wf d_is_share [.fz (qD q)] fun r o => r = .bl true ∧ o = [.fz (qD q)] by
    obtain ⟨r, o, e, rfl, rfl⟩ := H; exact e
  walk_at "fn"
  unfold e_is_share
  walk_at "ev"
  refine wrp (is_from_nought_q hp hc h0) rfl rfl rfl ?_
  walk_at "ev"
  walk_at "rt"
  rw [decide_eq_true h1]
  exact ⟨rfl, rfl⟩

--@ check_share
theorem num_le {x : Rat} (h : x ≤ 1) : x.num ≤ (x.den : Int) := by
  have e := num_eq x
  have hp : (0 : Rat) ≤ ((x.den : Int) : Rat) := by exact_mod_cast Int.le_of_lt (den_pos x)
  have := Rat.mul_nonneg (show 0 ≤ 1 - x by grind) hp
  have h2 : (x.num : Rat) ≤ ((x.den : Int) : Rat) := by grind
  exact_mod_cast h2
theorem is_share_R {x : Rat} (h0 : 0 ≤ x) (h1 : x ≤ 1) : d_is_share [.fz (qR x)] = some (.bl true, [.fz (qR x)]) := is_share_q (q := qp x) (den_pos x) (qp_cop x) (num_nonneg.mpr h0) (num_le h1)
theorem are_shares_R {xs : List Rat} {lo hi : Int} (h : ∀ x ∈ xs, 0 ≤ x ∧ x ≤ 1) (h1 : lo ≤ (xs.length : Int)) (h2 : (xs.length : Int) ≤ hi) (h3 : xs.length ≤ 100) : d_are_shares_all [.fz (rowR xs), .fz (.int lo), .fz (.int hi)] = some (.bl true, [.fz (rowR xs), .fz (.int lo), .fz (.int hi)]) := by
  suffices H : Wf d_are_shares_all [.fz (rowR xs), .fz (.int lo), .fz (.int hi)] fun r o => r = .bl true ∧ o = [.fz (rowR xs), .fz (.int lo), .fz (.int hi)] by
    obtain ⟨r, o, e, rfl, rfl⟩ := H; exact e
  unfold rowR
  have hpl : Pl (.tup (xs.map qR)) := rfl
  walk_at "fn"
  unfold e_are_shares_all
  walk_at "ev"
  refine ⟨fun _ => ?_, fun h => absurd (of_decide_eq_false h) (by rw [List.length_map]; omega)⟩
  walk_at "ev"
  refine ⟨fun _ => ?_, fun h => absurd (of_decide_eq_false h) (by rw [List.length_map]; omega)⟩
  walk_at "ev"
  refine w_lcm (fun _ => D.bl true) (len_ok (by omega)) (fun x hx => ?_) ?_
  · walk_at "ev"
    refine ⟨rfl, ?_⟩
    walk_at "ev"
    refine wrp (is_share_R (h x hx).1 (h x hx).2) rfl rfl rfl ?_
    walk_at "ev"
    rfl
  · walk_at "ev"
    refine exN rfl (all_true' _) ?_
    walk_at "ev"
    walk_at "rt"
    exact ⟨rfl, rfl⟩
structure Bx (n : Nat) (ls hs : List Rat) : Prop where
  n1 : 1 ≤ n
  n8 : n ≤ 8
  ll : ls.length = n
  lh : hs.length = n
  sl : ∀ x ∈ ls, 0 ≤ x ∧ x ≤ 1
  sh : ∀ x ∈ hs, 0 ≤ x ∧ x ≤ 1
  bl : ∀ x ∈ ls, Rz 60 x
  bh : ∀ x ∈ hs, Rz 60 x
def boxR (ls hs : List Rat) : D := .tup [rowR ls, rowR hs]
theorem wrong_in_pair {ls hs : List Rat} {lo hi : Int} (h1 : ∀ x ∈ ls, 0 ≤ x ∧ x ≤ 1) (h2 : ∀ x ∈ hs, 0 ≤ x ∧ x ≤ 1) (hl : ls.length = hs.length) (h3 : lo ≤ (ls.length : Int)) (h4 : (ls.length : Int) ≤ hi) (h5 : ls.length ≤ 100) : d_wrong_in_pair [.fz (boxR ls hs), .fz (.int lo), .fz (.int hi)] = some (.lst [], [.fz (boxR ls hs), .fz (.int lo), .fz (.int hi)]) := by
  suffices H : Wf d_wrong_in_pair [.fz (boxR ls hs), .fz (.int lo), .fz (.int hi)] fun r o => r = .lst [] ∧ o = [.fz (boxR ls hs), .fz (.int lo), .fz (.int hi)] by
    obtain ⟨r, o, e, rfl, rfl⟩ := H; exact e
  have a1 := are_shares_R h1 h3 h4 h5
  have a2 := are_shares_R (lo := lo) (hi := hi) h2 (by omega) (by omega) (by omega)
  unfold boxR
  have p1 : Pl (rowR ls) := rfl
  have p2 : Pl (rowR hs) := rfl
  have p3 : Pl (.tup [rowR ls, rowR hs]) := rfl
  have l1 : lenD [rowR ls] = some (.int (ls.length : Int)) := by show some (D.int ((ls.map qR).length : Int)) = _; rw [List.length_map]
  have l2 : lenD [rowR hs] = some (.int (ls.length : Int)) := by show some (D.int ((hs.map qR).length : Int)) = _; rw [List.length_map, hl]
  have t1 : isTupB (rowR ls) = true := rfl
  have t2 : isTupB (rowR hs) = true := rfl
  generalize rowR ls = u at *
  generalize rowR hs = v at *
  walk_at "fn"
  unfold e_wrong_in_pair
  walk_at "ev"
  refine w_lcp (F := fun d => some (.bl (isTupB d))) (len_ok (by simp)) (fun z hz => ?_) ?_
  · have hz2 : z = u ∨ z = v := by simpa using hz
    have hpz : Pl z := by rcases hz2 with rfl | rfl <;> assumption
    walk_at "ev"
    exact ⟨rfl, rfl⟩
  · walk_at "ev"
    rw [show ([isTupB u, isTupB v].all id) = true by simp [t1, t2]]
    walk_at "ev"
    refine exN rfl l1 ?_
    walk_at "ev"
    refine exN rfl l2 ?_
    walk_at "ev"
    refine ⟨fun z => absurd z (by simp), fun _ => ?_⟩
    walk_at "ev"
    refine exN rfl l1 ?_
    walk_at "ev"
    refine ⟨fun _ => ?_, fun h => absurd (of_decide_eq_false h) (by omega)⟩
    walk_at "ev"
    rw [decide_eq_true h4]
    walk_at "ev"
    refine w_lcp (F := fun d => none) (len_ok (by rw [rng_len]; decide)) (fun d hd => ?_) ?_
    · obtain ⟨i, hi, rfl⟩ := rng_mem0 hd
      have hi2 : i = 0 ∨ i = 1 := by omega
      rcases hi2 with rfl | rfl
      · walk_at "ev"
        refine wrp (a1) rfl rfl rfl ?_
        walk_at "ev"
        exact ⟨rfl, rfl⟩
      · walk_at "ev"
        refine wrp (a2) rfl rfl rfl ?_
        walk_at "ev"
        exact ⟨rfl, rfl⟩
    · rw [show (List.filterMap (fun d => (none : Option D)) (rngD 0 (Int.toNat 2))) = [] from rfl]
      walk_at "ev"
      exact ⟨_, .inl rfl, rfl, rfl⟩
theorem wrong_in_box {n : Nat} {ls hs : List Rat} (h : Bx n ls hs) : d_wrong_in_box [.fz (boxR ls hs)] = some (.lst [], [.fz (boxR ls hs)]) := by
  suffices H : Wf d_wrong_in_box [.fz (boxR ls hs)] fun r o => r = .lst [] ∧ o = [.fz (boxR ls hs)] by
    obtain ⟨r, o, e, rfl, rfl⟩ := H; exact e
  have hp := wrong_in_pair (lo := 1) (hi := 8) h.sl h.sh (by rw [h.ll, h.lh]) (by have := h.n1; rw [h.ll]; omega) (by have := h.n8; rw [h.ll]; omega) (by have := h.n8; rw [h.ll]; omega)
  walk_at "fn"
  unfold e_wrong_in_box
  walk_at "ev"
  refine wrp (hp) rfl rfl rfl ?_
  walk_at "ev"
  walk_at "ev"
  walk_at "rt"
  exact ⟨rfl, rfl⟩
theorem check_box {n : Nat} {ls hs : List Rat} (h : Bx n ls hs) : d_check_box [.fz (boxR ls hs)] = some (.non, [.fz (boxR ls hs)]) := by
  suffices H : Wf d_check_box [.fz (boxR ls hs)] fun r o => r = .non ∧ o = [.fz (boxR ls hs)] by
    obtain ⟨r, o, e, rfl, rfl⟩ := H; exact e
  have hw := wrong_in_box h
  walk_at "fn"
  unfold e_check_box
  walk_at "ev"
  refine wrp (hw) rfl rfl rfl ?_
  walk_at "ev"
  exact ⟨_, .inr (.inl ⟨rfl, rfl⟩), rfl, rfl⟩
def mxR (x y : Rat) : Rat := if x < y then y else x
def mnR (x y : Rat) : Rat := if y < x then y else x
theorem greater_of_R {x y : Rat} (hx : Rz 1000 x) (hy : Rz 1000 y) : d_greater_of [.fz (qR x), .fz (qR y)] = some (qR (mxR x y), [.fz (qR x), .fz (qR y)]) := by
  suffices H : Wf d_greater_of [.fz (qR x), .fz (qR y)] fun r o => r = qR (mxR x y) ∧ o = [.fz (qR x), .fz (qR y)] by
    obtain ⟨r, o, e, rfl, rfl⟩ := H; exact e
  have h := is_below_R (hx.mono (show 1000 ≤ 4000 by decide)) (hy.mono (show 1000 ≤ 4000 by decide))
  unfold mxR
  walk_at "fn"
  unfold e_greater_of
  walk_at "ev"
  refine wrp (h) rfl rfl rfl ?_
  walk_at "ev"
  refine ⟨fun h1 => ?_, fun h1 => ?_⟩
  · walk_at "ev"
    walk_at "rt"
    exact ⟨by rw [if_pos (of_decide_eq_true h1)], rfl⟩
  · walk_at "ev"
    walk_at "rt"
    exact ⟨by rw [if_neg (of_decide_eq_false h1)], rfl⟩
theorem lesser_of_R {x y : Rat} (hx : Rz 1000 x) (hy : Rz 1000 y) : d_lesser_of [.fz (qR x), .fz (qR y)] = some (qR (mnR x y), [.fz (qR x), .fz (qR y)]) := by
  suffices H : Wf d_lesser_of [.fz (qR x), .fz (qR y)] fun r o => r = qR (mnR x y) ∧ o = [.fz (qR x), .fz (qR y)] by
    obtain ⟨r, o, e, rfl, rfl⟩ := H; exact e
  have h := is_below_R (hy.mono (show 1000 ≤ 4000 by decide)) (hx.mono (show 1000 ≤ 4000 by decide))
  unfold mnR
  walk_at "fn"
  unfold e_lesser_of
  walk_at "ev"
  refine wrp (h) rfl rfl rfl ?_
  walk_at "ev"
  refine ⟨fun h1 => ?_, fun h1 => ?_⟩
  · walk_at "ev"
    walk_at "rt"
    exact ⟨by rw [if_pos (of_decide_eq_true h1)], rfl⟩
  · walk_at "ev"
    walk_at "rt"
    exact ⟨by rw [if_neg (of_decide_eq_false h1)], rfl⟩
theorem shp_lR (n : Nat) (q : List Rat) : shp (n + 2) (.lst (q.map qR)) = true := by
  have := shp_qs n (q.map qp)
  rw [List.map_map] at this
  exact this
theorem eq_nilR (q : List Rat) : eqD (.lst (q.map qR)) (.lst []) = some (.bl q.isEmpty) := by
  rw [eq_nil (shp_lR 58 q)]
  cases q <;> rfl
def accS (f : Rat → Rat → Rat) (a : List Rat) (x : Rat) : List Rat := a ++ [match a.getLast? with | none => x | some y => f y x]
def accR (f : Rat → Rat → Rat) (l : List Rat) : List Rat := l.foldl (accS f) []
theorem accR_take (f : Rat → Rat → Rat) {l : List Rat} {k : Nat} {x : Rat} (h : l[k]? = some x) : accR f (l.take (k + 1)) = accS f (accR f (l.take k)) x := by
  unfold accR
  rw [List.take_add_one, h, List.foldl_append]; rfl
theorem accR_len (f : Rat → Rat → Rat) {l : List Rat} : ∀ k, k ≤ l.length → (accR f (l.take k)).length = k
  | 0, _ => by rw [List.take_zero]; rfl
  | k + 1, h => by
    have hx : l[k]? = some l[k] := List.getElem?_eq_getElem (by omega)
    rw [accR_take f hx]
    unfold accS
    rw [List.length_append, accR_len f k (by omega)]; rfl
theorem accR_mem {f : Rat → Rat → Rat} (hf : ∀ x y, f x y = x ∨ f x y = y) {l : List Rat} : ∀ k, k ≤ l.length → ∀ z ∈ accR f (l.take k), z ∈ l
  | 0, _, z, hz => by rw [List.take_zero] at hz; cases hz
  | k + 1, h, z, hz => by
    have hx : l[k]? = some l[k] := List.getElem?_eq_getElem (by omega)
    rw [accR_take f hx] at hz
    unfold accS at hz
    rcases List.mem_append.mp hz with q | q
    · exact accR_mem hf k (by omega) z q
    · rw [List.mem_singleton] at q
      have hl : l[k] ∈ l := List.getElem_mem _
      cases e : (accR f (l.take k)).getLast? with
      | none => rw [e] at q; rw [q]; exact hl
      | some y =>
        rw [e] at q
        have hy := accR_mem hf k (by omega) y (List.mem_of_getLast? e)
        rcases hf y l[k] with z2 | z2
        · rw [q]; show f y l[k] ∈ l; rw [z2]; exact hy
        · rw [q]; show f y l[k] ∈ l; rw [z2]; exact hl
theorem mxR_or (x y : Rat) : mxR x y = x ∨ mxR x y = y := by unfold mxR; split <;> simp
theorem mnR_or (x y : Rat) : mnR x y = x ∨ mnR x y = y := by unfold mnR; split <;> simp
theorem accR_nil {f : Rat → Rat → Rat} {l : List Rat} {k : Nat} (h : k ≤ l.length) : (accR f (l.take k)).isEmpty = decide (k = 0) := by
  have := accR_len f k h
  cases e : accR f (l.take k) with
  | nil => rw [e] at this; simp at this; simp [← this]
  | cons y r => rw [e] at this; simp at this; simp; omega
theorem last_R {q : List Rat} {y : Rat} (h : q.getLast? = some y) : ixD (.lst (q.map qR)) (.int (-1)) = some (qR y) := at_last (by
  rw [List.length_map, List.getElem?_map, ← List.getLast?_eq_getElem?, h]; rfl)
theorem rising {xs : List Rat} (hb : ∀ x ∈ xs, Rz 60 x) (hl : xs.length ≤ 50) : d_rising [.fz (rowR xs)] = some (rowR (accR mxR xs), [.fz (rowR xs)]) := by
  suffices H : Wf d_rising [.fz (rowR xs)] fun r o => r = rowR (accR mxR xs) ∧ o = [.fz (rowR xs)] by
    obtain ⟨r, o, e, rfl, rfl⟩ := H; exact e
  unfold rowR
  walk_at "fn"
  unfold e_rising
  walk_at "ev"
  refine w_loop (Rt := fun _ _ => False) (fun k δ => ∃ y, δ = [some (.fz (.tup (xs.map qR))), some (.ow ((accR mxR (xs.take k)).map qR)), y] ∧ NB y) ⟨none, rfl, trivial⟩ (fun k z δ1 hz hI => ?_) (fun δ1 hI => ?_) (fun _ _ h => h.elim)
  · obtain ⟨y, rfl, ny⟩ := hI
    rw [List.getElem?_map] at hz
    obtain ⟨x, hx, rfl⟩ := Option.map_eq_some_iff.mp hz
    have hk := (List.getElem?_eq_some_iff.mp hx).1
    have hev := eq_nilR (accR mxR (xs.take k))
    rw [accR_nil (by omega)] at hev
    have hlen := accR_len mxR k (show k ≤ xs.length by omega)
    have hmem := accR_mem mxR_or k (show k ≤ xs.length by omega)
    have hbx := hb x (List.mem_of_getElem? hx)
    have hsz : ∀ v, appM ((accR mxR (xs.take k)).map qR) [v] = some (.non, (accR mxR (xs.take k)).map qR ++ [v]) := fun v => app_small (by rw [List.length_map]; omega)
    rw [accR_take mxR hx]
    unfold accS
    cases e : (accR mxR (xs.take k)).getLast? with
    | none =>
      have h0 : k = 0 := by
        rw [List.getLast?_eq_none_iff] at e
        rw [e] at hlen; simpa using hlen.symm
      rw [decide_eq_true h0] at hev
      generalize accR mxR (xs.take k) = L at *
      walk_at "ev"
      refine ex2 rfl rfl hev ?_
      walk_at "ev"
      refine ⟨_, _, _, _, _, _, rfl, rfl, rfl, hsz _, ?_⟩
      walk_at "ev"
      exact .inl ⟨rfl, _, by rw [List.map_append]; rfl, nb_fz⟩
    | some y =>
      have hg := greater_of_R (x := y) (y := x) ((hb y (hmem y (List.mem_of_getLast? e))).mono (by decide)) (hbx.mono (by decide))
      have hla := last_R e
      have h0 : ¬ k = 0 := fun h0 => by
        subst h0
        rw [List.take_zero] at e; cases e
      rw [decide_eq_false h0] at hev
      generalize accR mxR (xs.take k) = L at *
      walk_at "ev"
      refine ex2 rfl rfl hev ?_
      walk_at "ev"
      refine ex2 rfl rfl hla ?_
      walk_at "ev"
      refine wrp (hg) rfl rfl rfl ?_
      walk_at "ev"
      refine ⟨_, _, _, _, _, _, rfl, rfl, rfl, hsz _, ?_⟩
      walk_at "ev"
      exact .inl ⟨rfl, _, by rw [List.map_append]; rfl, nb_fz⟩
  · obtain ⟨y, rfl, ny⟩ := hI
    rw [List.length_map, List.take_length]
    walk_at "ev"
    walk_at "rt"
    exact ⟨rfl, rfl⟩
namespace P14x3
end P14x3
theorem falling_back {xs : List Rat} (hb : ∀ x ∈ xs, Rz 60 x) (hl : xs.length ≤ 50) : d_falling_back [.fz (rowR xs)] = some (rowR (accR mnR xs.reverse).reverse, [.fz (rowR xs)]) := by
  suffices H : Wf d_falling_back [.fz (rowR xs)] fun r o => r = rowR (accR mnR xs.reverse).reverse ∧ o = [.fz (rowR xs)] by
    obtain ⟨r, o, e, rfl, rfl⟩ := H; exact e
  unfold rowR
  have hb' : ∀ x ∈ xs.reverse, Rz 60 x := fun x hx => hb x (List.mem_reverse.mp hx)
  have hl' : xs.reverse.length ≤ 50 := by rw [List.length_reverse]; exact hl
  have er : (xs.map qR).reverse = xs.reverse.map qR := List.map_reverse.symm
  walk_at "fn"
  unfold e_falling_back
  walk_at "ev"
  rw [er]
  generalize xs.reverse = ys at *
  refine w_loop (Rt := fun _ _ => False) (fun k δ => ∃ y, δ = [some (.fz (.tup (xs.map qR))), some (.ow ((accR mnR (ys.take k)).map qR)), y] ∧ NB y) ⟨none, rfl, trivial⟩ (fun k z δ1 hz hI => ?_) (fun δ1 hI => ?_) (fun _ _ h => h.elim)
  · obtain ⟨y, rfl, ny⟩ := hI
    rw [List.getElem?_map] at hz
    obtain ⟨x, hx, rfl⟩ := Option.map_eq_some_iff.mp hz
    have hk := (List.getElem?_eq_some_iff.mp hx).1
    have hev := eq_nilR (accR mnR (ys.take k))
    rw [accR_nil (by omega)] at hev
    have hlen := accR_len mnR k (show k ≤ ys.length by omega)
    have hmem := accR_mem mnR_or k (show k ≤ ys.length by omega)
    have hbx := hb' x (List.mem_of_getElem? hx)
    have hsz : ∀ v, appM ((accR mnR (ys.take k)).map qR) [v] = some (.non, (accR mnR (ys.take k)).map qR ++ [v]) := fun v => app_small (by rw [List.length_map]; omega)
    rw [accR_take mnR hx]
    unfold accS
    cases e : (accR mnR (ys.take k)).getLast? with
    | none =>
      have h0 : k = 0 := by
        rw [List.getLast?_eq_none_iff] at e
        rw [e] at hlen; simpa using hlen.symm
      rw [decide_eq_true h0] at hev
      generalize accR mnR (ys.take k) = L at *
      walk_at "ev"
      refine ex2 rfl rfl hev ?_
      walk_at "ev"
      refine ⟨_, _, _, _, _, _, rfl, rfl, rfl, hsz _, ?_⟩
      walk_at "ev"
      exact .inl ⟨rfl, _, by rw [List.map_append]; rfl, nb_fz⟩
    | some y =>
      have hg := lesser_of_R (x := y) (y := x) ((hb' y (hmem y (List.mem_of_getLast? e))).mono (by decide)) (hbx.mono (by decide))
      have hla := last_R e
      have h0 : ¬ k = 0 := fun h0 => by
        subst h0
        rw [List.take_zero] at e; cases e
      rw [decide_eq_false h0] at hev
      generalize accR mnR (ys.take k) = L at *
      walk_at "ev"
      refine ex2 rfl rfl hev ?_
      walk_at "ev"
      refine ex2 rfl rfl hla ?_
      walk_at "ev"
      refine wrp (hg) rfl rfl rfl ?_
      walk_at "ev"
      refine ⟨_, _, _, _, _, _, rfl, rfl, rfl, hsz _, ?_⟩
      walk_at "ev"
      exact .inl ⟨rfl, _, by rw [List.map_append]; rfl, nb_fz⟩
  · obtain ⟨y, rfl, ny⟩ := hI
    rw [List.length_map, List.take_length]
    walk_at "ev"
    rw [← List.map_reverse]
    exact ⟨_, .inl rfl, rfl, rfl⟩
def risR (ls : List Rat) : List Rat := accR mxR ls
def falR (hs : List Rat) : List Rat := (accR mnR hs.reverse).reverse
theorem plain_of {ls hs : List Rat} (h1 : ∀ x ∈ ls, Rz 60 x) (h2 : ∀ x ∈ hs, Rz 60 x) (hl1 : ls.length ≤ 50) (hl2 : hs.length ≤ 50) : d_plain_of [.fz (boxR ls hs)] = some (.tup [rowR (risR ls), rowR (falR hs)], [.fz (boxR ls hs)]) := by
  suffices H : Wf d_plain_of [.fz (boxR ls hs)] fun r o => r = .tup [rowR (risR ls), rowR (falR hs)] ∧ o = [.fz (boxR ls hs)] by
    obtain ⟨r, o, e, rfl, rfl⟩ := H; exact e
  have e1 := rising h1 hl1
  have e2 := falling_back h2 hl2
  unfold boxR risR falR
  walk_at "fn"
  unfold e_plain_of
  walk_at "ev"
  refine wrp (e1) rfl rfl rfl ?_
  walk_at "ev"
  refine wrp (e2) rfl rfl rfl ?_
  walk_at "ev"
  walk_at "ev"
  walk_at "rt"
  exact ⟨rfl, rfl⟩
theorem risR_len (ls : List Rat) : (risR ls).length = ls.length := by
  have := accR_len mxR ls.length (Nat.le_refl _)
  rw [List.take_length] at this; exact this
theorem falR_len (hs : List Rat) : (falR hs).length = hs.length := by
  have := accR_len mnR hs.reverse.length (Nat.le_refl _)
  rw [List.take_length] at this
  unfold falR
  rw [List.length_reverse, this, List.length_reverse]
theorem risR_mem {ls : List Rat} : ∀ x ∈ risR ls, x ∈ ls := fun x hx => by
  have := accR_mem mxR_or ls.length (Nat.le_refl _) x
  rw [List.take_length] at this; exact this hx
theorem falR_mem {hs : List Rat} : ∀ x ∈ falR hs, x ∈ hs := fun x hx => by
  have := accR_mem mnR_or hs.reverse.length (Nat.le_refl _) x
  rw [List.take_length] at this
  exact List.mem_reverse.mp (this (List.mem_reverse.mp hx))
theorem product_up_to {p : Nat} (hp : p ≤ 20) : d_product_up_to [.fz (.int (p : Int))] = some (.int (fct p : Int), [.fz (.int (p : Int))]) := by
  suffices H : Wf d_product_up_to [.fz (.int (p : Int))] fun r o => r = .int (fct p : Int) ∧ o = [.fz (.int (p : Int))] by
    obtain ⟨r, o, e, rfl, rfl⟩ := H; exact e
  have hf : ∀ n : Nat, n ≤ 21 → Bd (fct n : Int) 100 := by
    have : ∀ n : Fin 22, fct n.val < 2 ^ 100 := by decide +kernel
    intro n hn
    have h := this ⟨n, by omega⟩
    unfold Bd; simpa using h
  walk_at "fn"
  unfold e_product_up_to
  walk_at "ev"
  refine w_loop (Rt := fun _ _ => False) (fun k δ => ∃ y, δ = [some (.fz (.int (p : Int))), some (.fz (.int (fct (k + 1) : Int))), y] ∧ NB y) ⟨none, rfl, trivial⟩ (fun k z δ1 hz hI => ?_) (fun δ1 hI => ?_) (fun _ _ h => h.elim)
  · obtain ⟨y, rfl, ny⟩ := hI
    obtain ⟨hk, rfl⟩ := rng_get hz
    have h1 := hf (k + 1) (by omega)
    have h2 : Bd (2 + (k : Int)) 100 := bd_lit 100 100 (by omega) (by decide)
    have hm : mulOk (fct (k + 1) : Int) (2 + (k : Int)) = true := mulOk_bd h1 h2 (by decide)
    have e : ((fct (k + 1 + 1) : Nat) : Int) = (fct (k + 1) : Int) * (2 + (k : Int)) := by
      show (((k + 1 + 1) * fct (k + 1) : Nat) : Int) = _
      push_cast; grind
    rw [e]
    generalize ((fct (k + 1) : Nat) : Int) = F at *
    walk_at "ev"
    exact .inl ⟨rfl, _, rfl, nb_fz⟩
  · obtain ⟨y, rfl, ny⟩ := hI
    rw [rng_len]
    have e : ((p : Int) + 1 - 2).toNat + 1 = if p = 0 then 1 else p := by split <;> omega
    have e2 : fct (if p = 0 then 1 else p) = fct p := by
      by_cases h : p = 0
      · rw [if_pos h, h]; rfl
      · rw [if_neg h]
    rw [e, e2]
    walk_at "ev"
    walk_at "rt"
    exact ⟨rfl, rfl⟩
theorem red_div {x y : Rat} (hy : 0 < y) : redQ (x.num * (y.den : Int)) ((x.den : Int) * y.num) = qp (x / y) := by
  refine redq_of (Int.mul_pos (den_pos x) (num_pos.mpr hy)) ?_
  have h1 := num_eq x
  have h2 := num_eq y
  push_cast at *
  grind
theorem rz_div {m n : Nat} {x y : Rat} (hx : Rz m x) (hy : Rz n y) (h : 0 < y) : Rz (m + n) (x / y) :=
  rz_of (Int.mul_pos (den_pos x) (num_pos.mpr h)) (bd_mul hx.b1 hy.b2) (bd_mul hx.b2 hy.b1) (red_div h)
theorem over_R {x y : Rat} (hx : Rz 4000 x) (hy : Rz 4000 y) (h0 : 0 < y) : d_over [.fz (qR x), .fz (qR y)] = some (qR (x / y), [.fz (qR x), .fz (qR y)]) := by
  suffices H : Wf d_over [.fz (qR x), .fz (qR y)] fun r o => r = qR (x / y) ∧ o = [.fz (qR x), .fz (qR y)] by
    obtain ⟨r, o, e, rfl, rfl⟩ := H; exact e
  have h1 := hx.b1
  have h2 := hx.b2
  have h3 := hy.b1
  have h4 := hy.b2
  have hl := lowest_B (a := x.num * (y.den : Int)) (b := (x.den : Int) * y.num) (Int.mul_pos (den_pos x) (num_pos.mpr h0)) (bd_mono (bd_mul h2 h3) (by decide))
  rw [red_div h0] at hl
  walk_at "fn"
  unfold e_over
  walk_at "ev"
  refine wrp (hl) rfl rfl rfl ?_
  walk_at "ev"
  walk_at "ev"
  walk_at "rt"
  exact ⟨rfl, rfl⟩
def entR (l h : Rat) (p : Nat) : Rat := if 0 < h - l then (h - l) ^ p / ((fct p : Int) : Rat) else 0
def tabR (L H : List Rat) (r c : Nat) : Rat := if c + 1 < r then 0 else if c + 1 = r then 1 else entR (L.getD c 0) (H.getD r 0) (c + 1 - r)
theorem getD_at {L : List Rat} {c : Nat} (h : c < L.length) : L[c]? = some (L.getD c 0) := by
  rw [List.getD_eq_getElem?_getD, List.getElem?_eq_getElem h]; rfl
theorem gt_R0 {x : Rat} : decide ((qp x).1 > 0) = decide (0 < x) := by
  show decide (0 < x.num) = _
  by_cases h : 0 < x
  · rw [decide_eq_true h, decide_eq_true (num_pos.mpr h)]
  · rw [decide_eq_false h, decide_eq_false (fun z => h (num_pos.mp z))]
theorem entry_of {L H : List Rat} {i j : Nat} (hL : ∀ x ∈ L, Rz 60 x) (hH : ∀ x ∈ H, Rz 60 x) (hr : i < H.length) (hc : j < L.length) (l8 : L.length ≤ 8) (h8 : H.length ≤ 8) : d_entry_of [.fz (rowR L), .fz (rowR H), .fz (.int (i : Int)), .fz (.int (j : Int))] = some (qR (tabR L H i j), [.fz (rowR L), .fz (rowR H), .fz (.int (i : Int)), .fz (.int (j : Int))]) := by
  suffices H : Wf d_entry_of [.fz (rowR L), .fz (rowR H), .fz (.int (i : Int)), .fz (.int (j : Int))] fun r o => r = qR (tabR L H i j) ∧ o = [.fz (rowR L), .fz (rowR H), .fz (.int (i : Int)), .fz (.int (j : Int))] by
    obtain ⟨r, o, e, rfl, rfl⟩ := H; exact e
  have bl := hL _ (List.mem_of_getElem? (getD_at hc))
  have bh := hH _ (List.mem_of_getElem? (getD_at hr))
  have il := ix_at qR (getD_at hc)
  have ih := ix_at qR (getD_at hr)
  have hg := minus_R (x := H.getD i 0) (y := L.getD j 0) (bh.mono (by decide)) (bl.mono (by decide))
  have rg : Rz 121 (H.getD i 0 - L.getD j 0) := bh.sub bl
  unfold tabR entR
  generalize H.getD i 0 = h at *
  generalize L.getD j 0 = l at *
  unfold rowR
  walk_at "fn"
  unfold e_entry_of
  walk_at "ev"
  by_cases h1 : j + 1 < i
  · rw [if_pos h1]
    refine ⟨fun _ => ?_, fun h => absurd (of_decide_eq_false h) (by omega)⟩
    walk_at "ev"
    rw [decide_eq_false (show ¬ ((j : Int) - (i : Int) + 1 = 0) by omega)]
    walk_at "ev"
    rw [qR_zero]
    exact ⟨_, .inl rfl, rfl, rfl⟩
  · rw [if_neg h1]
    by_cases h2 : j + 1 = i
    · rw [if_pos h2]
      refine ⟨fun _ => ?_, fun h => absurd (of_decide_eq_false h) (by omega)⟩
      walk_at "ev"
      rw [decide_eq_true (show ((j : Int) - (i : Int) + 1 = 0) by omega)]
      walk_at "ev"
      rw [qR_one]
      exact ⟨_, .inl rfl, rfl, rfl⟩
    · rw [if_neg h2]
      refine ⟨fun h => absurd (of_decide_eq_true h) (by omega), fun _ => ?_⟩
      obtain ⟨p, hp⟩ : ∃ p : Nat, j + 1 - i = p := ⟨_, rfl⟩
      have hp1 : (j : Int) - (i : Int) + 1 = (p : Int) := by omega
      rw [hp]
      have e1 := powered_R (k := p) (rg.mono (by decide)) (by omega)
      have e2 := product_up_to (p := p) (by omega)
      have e3 := whole_R (i := (fct p : Int))
      have hf : (0 : Rat) < ((fct p : Int) : Rat) := by exact_mod_cast fct_pos p
      have hfb : Rz 100 ((fct p : Int) : Rat) := by
        have : ∀ n : Fin 22, fct n.val < 2 ^ 100 := by decide +kernel
        have hh := this ⟨p, by omega⟩
        exact rz_int (by unfold Bd; simpa using hh) (by decide)
      have e4 := over_R (x := (h - l) ^ p) (y := ((fct p : Int) : Rat)) ((rz_pow rg p).mono (by have : 121 * p ≤ 121 * 8 := Nat.mul_le_mul_left _ (by omega); omega)) (hfb.mono (by decide)) hf
      walk_at "ev"
      rw [hp1]
      refine ex2 rfl rfl ih ?_
      walk_at "ev"
      refine ex2 rfl rfl il ?_
      walk_at "ev"
      refine wrp (hg) rfl rfl rfl ?_
      walk_at "ev"
      rw [show decide (0 < (qp (h - l)).1) = decide (0 < h - l) from gt_R0]
      refine ⟨fun h3 => ?_, fun h3 => ?_⟩
      · rw [if_pos (of_decide_eq_true h3)]
        walk_at "ev"
        refine wrp (e1) rfl rfl rfl ?_
        walk_at "ev"
        refine wrp (e2) rfl rfl rfl ?_
        walk_at "ev"
        refine wrp (e3) rfl rfl rfl ?_
        walk_at "ev"
        refine wrp (e4) rfl rfl rfl ?_
        walk_at "ev"
        exact ⟨_, .inl rfl, rfl, rfl⟩
      · rw [if_neg (of_decide_eq_false h3), qR_zero]
        walk_at "ev"
        exact ⟨_, .inl rfl, rfl, rfl⟩
theorem rng0 (n : Nat) : rngD 0 ((n : Int) - 0).toNat = (List.range n).map fun (i : Nat) => D.int (i : Int) := by
  rw [Int.sub_zero, Int.toNat_natCast]
  unfold rngD
  refine List.map_congr_left fun i _ => ?_
  rw [Int.zero_add]
def ltsB (L H : List Rat) : Bool := (L.zip H).all fun p => decide (p.1 < p.2)
def tblR (L H : List Rat) : List (List Rat) := (List.range L.length).map fun r => (List.range L.length).map fun c => tabR L H r c
theorem table_of {n : Nat} {ls hs : List Rat} (h : Bx n ls hs) : d_table_of [.fz (boxR ls hs)] = some (.lst (if ltsB (risR ls) (falR hs) = true then (tblR (risR ls) (falR hs)).map rowR else []), [.fz (boxR ls hs)]) := by
  suffices H : Wf d_table_of [.fz (boxR ls hs)] fun r o => r = .lst (if ltsB (risR ls) (falR hs) = true then (tblR (risR ls) (falR hs)).map rowR else []) ∧ o = [.fz (boxR ls hs)] by
    obtain ⟨r, o, e, rfl, rfl⟩ := H; exact e
  have h8 := h.n8
  have ll := h.ll
  have lh := h.lh
  have hp := plain_of h.bl h.bh (by omega) (by omega)
  have l1 := risR_len ls
  have l2 := falR_len hs
  have bL : ∀ x ∈ risR ls, Rz 60 x := fun x hx => h.bl x (risR_mem x hx)
  have bH : ∀ x ∈ falR hs, Rz 60 x := fun x hx => h.bh x (falR_mem x hx)
  generalize risR ls = L at *
  generalize falR hs = H at *
  have hent := fun (r c : Nat) (hr : r < H.length) (hc : c < L.length) => entry_of (L := L) (H := H) bL bH hr hc (by omega) (by omega)
  have hlen : ∀ q : List Rat, lenD [.tup (q.map qR)] = some (.int (q.length : Int)) := fun q => by show some (D.int ((q.map qR).length : Int)) = _; rw [List.length_map]
  unfold boxR at *
  unfold rowR at *
  walk_at "fn"
  unfold e_table_of
  walk_at "ev"
  refine wrp (hp) rfl rfl rfl ?_
  walk_at "ev"
  rw [zipD_map]
  refine w_lcm (fun p => D.bl (decide (p.1 < p.2))) (len_ok (by rw [List.length_zip]; omega)) (fun p hpm => ?_) ?_
  · have hz := List.of_mem_zip (show (p.1, p.2) ∈ _ from hpm)
    have hb := is_below_R ((bL p.1 hz.1).mono (show 60 ≤ 4000 by decide)) ((bH p.2 hz.2).mono (show 60 ≤ 4000 by decide))
    walk_at "ev"
    refine ⟨rfl, ?_⟩
    walk_at "ev"
    refine wrp (hb) rfl rfl rfl ?_
    walk_at "ev"
    rfl
  · have hall := all_bl (fun p : Rat × Rat => decide (p.1 < p.2)) (L.zip H)
    rw [show (L.zip H).all (fun p : Rat × Rat => decide (p.1 < p.2)) = ltsB L H from rfl] at hall
    walk_at "ev"
    refine exN rfl hall ?_
    walk_at "ev"
    cases hlt : ltsB L H with
    | false =>
      walk_at "ev"
      exact ⟨_, .inr (.inr ⟨_, rfl, rfl⟩), rfl, rfl⟩
    | true =>
      have hrg := rg_ev (n := L.length) (by omega)
      walk_at "ev"
      rw [List.length_map]
      refine exN rfl hrg ?_
      walk_at "ev"
      rw [rng0 L.length]
      refine w_lcm (fun r => rowR ((List.range L.length).map fun c => tabR L H r c)) (len_ok (by rw [List.length_range]; omega)) (fun r hr => ?_) ?_
      · have hr2 := List.mem_range.mp hr
        walk_at "ev"
        refine ⟨rfl, ?_⟩
        walk_at "ev"
        rw [rng0 L.length]
        refine w_lcm (fun c => qR (tabR L H r c)) (len_ok (by rw [List.length_range]; omega)) (fun c hc => ?_) ?_
        · have he := hent r c (by omega) (List.mem_range.mp hc)
          clear hent hall hrg hp hlen
          walk_at "ev"
          refine ⟨rfl, ?_⟩
          walk_at "ev"
          refine wrp (he) rfl rfl rfl ?_
          walk_at "ev"
          rfl
        · walk_at "ev"
          unfold rowR
          rw [List.map_map]
          exact ⟨_, rfl, rfl⟩
      · refine ⟨_, .inr (.inr ⟨_, rfl, rfl⟩), ?_, rfl⟩
        unfold tblR rowR
        rw [if_pos trivial, List.map_map]; rfl
namespace P14x4
end P14x4
/-! the determinant, row by row -/
def unq : D → Rat
  | .tup [.int a, .int b] => (a : Rat) / (b : Rat)
  | _ => 0
theorem unq_R (x : Rat) : unq (qR x) = x := (rat_eq x).symm
def unR : D → List Rat
  | .tup ds => ds.map unq
  | _ => []
theorem unR_R (q : List Rat) : unR (rowR q) = q := by
  show (q.map qR).map unq = q
  rw [List.map_map]
  conv => rhs; rw [← List.map_id q]
  exact List.map_congr_left fun x _ => unq_R x
def lessRR (p q : List Rat) : List Rat := (p.zip q).map fun z => z.1 - z.2
def scalR (p : List Rat) (x : Rat) : List Rat := p.map fun y => y * x
theorem row_less {p q : List Rat} (hp : ∀ x ∈ p, Rz 4000 x) (hq : ∀ x ∈ q, Rz 4000 x) (hl : p.length ≤ 500) : d_row_less [.fz (rowR p), .fz (rowR q)] = some (rowR (lessRR p q), [.fz (rowR p), .fz (rowR q)]) := by
  suffices H : Wf d_row_less [.fz (rowR p), .fz (rowR q)] fun r o => r = rowR (lessRR p q) ∧ o = [.fz (rowR p), .fz (rowR q)] by
    obtain ⟨r, o, e, rfl, rfl⟩ := H; exact e
  unfold rowR
  walk_at "fn"
  unfold e_row_less
  walk_at "ev"
  rw [zipD_map]
  refine w_lcm (fun z => qR (z.1 - z.2)) (len_ok (by rw [List.length_zip]; omega)) (fun z hz => ?_) ?_
  · have hm := List.of_mem_zip (show (z.1, z.2) ∈ _ from hz)
    have h := minus_R (hp _ hm.1) (hq _ hm.2)
    walk_at "ev"
    refine ⟨rfl, ?_⟩
    walk_at "ev"
    refine wrp (h) rfl rfl rfl ?_
    walk_at "ev"
    rfl
  · walk_at "ev"
    refine ⟨_, .inl rfl, ?_, rfl⟩
    unfold lessRR
    rw [List.map_map]; rfl
theorem row_scaled {p : List Rat} {x : Rat} (hp : ∀ y ∈ p, Rz 4000 y) (hx : Rz 4000 x) (hl : p.length ≤ 500) : d_row_scaled [.fz (rowR p), .fz (qR x)] = some (rowR (scalR p x), [.fz (rowR p), .fz (qR x)]) := by
  suffices H : Wf d_row_scaled [.fz (rowR p), .fz (qR x)] fun r o => r = rowR (scalR p x) ∧ o = [.fz (rowR p), .fz (qR x)] by
    obtain ⟨r, o, e, rfl, rfl⟩ := H; exact e
  unfold rowR
  walk_at "fn"
  unfold e_row_scaled
  walk_at "ev"
  refine w_lcm (fun y => qR (y * x)) (len_ok (by omega)) (fun y hy => ?_) ?_
  · have h := times_R (hp y hy) hx
    generalize qR x = v at *
    walk_at "ev"
    refine ⟨rfl, ?_⟩
    walk_at "ev"
    refine wrp (h) rfl rfl rfl ?_
    walk_at "ev"
    rfl
  · walk_at "ev"
    refine ⟨_, .inl rfl, ?_, rfl⟩
    unfold scalR
    rw [List.map_map]; rfl
def elimR (lead q : List Rat) : List Rat := (lessRR q (scalR lead (q.headD 0 / lead.headD 0))).drop 1
/-- how the elimination goes: left k, found k -/
structure Eli (n : Nat) (T : Nat → List (List Rat)) (fd : Nat → Rat) : Prop where
  f0 : fd 0 = 1
  len : ∀ k, k ≤ n → (T k).length = n - k
  ne : ∀ k, k < n → ∀ q ∈ T k, q ≠ [] ∧ q.length ≤ 500
  bd : ∀ k, k < n → ∀ q ∈ T k, ∀ x ∈ q, Rz 900 x
  fb : ∀ k, k ≤ n → Rz 900 (fd k)
  pos : ∀ k, k < n → 0 < ((T k).headD []).headD 0
  st : ∀ k, k < n → T (k + 1) = ((T k).drop 1).map (elimR ((T k).headD []))
  sf : ∀ k, k < n → fd (k + 1) = fd k * ((T k).headD []).headD 0
theorem head_at {q : List Rat} (h : q ≠ []) : q[0]? = some (q.headD 0) := by
  cases q with
  | nil => exact absurd rfl h
  | cons x q => rfl
theorem range_filt {m : Nat} {t : Nat → Bool} (h : 0 < m) (h0 : t 0 = true) : ∃ r, (List.range m).filter t = 0 :: r := by
  obtain ⟨d, rfl⟩ := Nat.exists_eq_add_of_lt h
  rw [Nat.zero_add, List.range_succ_eq_map, List.filter_cons, if_pos h0]
  exact ⟨_, rfl⟩
theorem ne_nilRow (T : List (List Rat)) : neD (.lst (T.map rowR)) (.lst []) = some (.bl (!T.isEmpty)) := by
  rw [ne_nil (show shp 60 (.lst (T.map rowR)) = true by
    show (T.map rowR).all (shp 59) = true
    rw [List.all_eq_true]
    intro d hd
    obtain ⟨q, _, rfl⟩ := List.mem_map.mp hd
    show (q.map qR).all (shp 58) = true
    rw [List.all_eq_true]
    intro e he
    obtain ⟨x, _, rfl⟩ := List.mem_map.mp he
    exact shp_R 57 x)]
  cases T <;> rfl
theorem ne_R0 (x : Rat) : neD (qR x) (.tup [.int 0, .int 1]) = some (.bl (decide (¬ x = 0))) := by
  have h := eq_R0 x
  unfold eqD at h
  unfold neD
  cases e : eqC (qR x) (.tup [.int 0, .int 1]) with
  | none => rw [e] at h; cases h
  | some b =>
    rw [e] at h
    have hb : b = decide (x = 0) := by simpa using h
    rw [hb]
    by_cases z : x = 0 <;> simp [z]
theorem eq_nil_ns (l : List Nat) : eqD (.lst (l.map fun (i : Nat) => D.int (i : Int))) (.lst []) = some (.bl l.isEmpty) := by
  rw [eq_nil (show shp 60 (.lst (l.map fun (i : Nat) => D.int (i : Int))) = true by
    show (l.map fun (i : Nat) => D.int (i : Int)).all (shp 59) = true
    rw [List.all_eq_true]
    intro d hd
    obtain ⟨q, _, rfl⟩ := List.mem_map.mp hd
    rfl)]
  cases l <;> rfl
theorem pop0 (y : D) (ys : List D) : popAtM (y :: ys) [.int 0] = some (y, ys) := by
  unfold popAtM
  simp [seqIndex?]
theorem ixl_at {α : Type} (f : α → D) {xs : List α} {i : Nat} {x : α} (h : xs[i]? = some x) : ixD (.lst (xs.map f)) (.int (i : Int)) = some (f x) := L2.atI_nat (by rw [List.getElem?_map, h]; rfl)
theorem rngT (n : Nat) : rngD 0 ((n : Int)).toNat = (List.range n).map fun (i : Nat) => D.int (i : Int) := by
  rw [Int.toNat_natCast]
  unfold rngD
  refine List.map_congr_left fun i _ => ?_
  rw [Int.zero_add]
theorem determinant_R {n : Nat} {T : Nat → List (List Rat)} {fd : Nat → Rat} (E : Eli n T fd) (hn : n ≤ 100) : d_determinant [.fz (.lst ((T 0).map rowR))] = some (qR (fd n), [.fz (.lst ((T 0).map rowR))]) := by
  suffices H : Wf d_determinant [.fz (.lst ((T 0).map rowR))] fun r o => r = qR (fd n) ∧ o = [.fz (.lst ((T 0).map rowR))] by
    obtain ⟨r, o, e, rfl, rfl⟩ := H; exact e
  walk_at "fn"
  unfold e_determinant
  walk_at "ev"
  refine w_lcm (fun q => rowR q) (len_ok (by rw [E.len 0 (by omega)]; omega)) (fun q hq => ?_) ?_
  · unfold rowR
    walk_at "ev"
    refine ⟨rfl, ?_⟩
    walk_at "ev"
    rfl
  · walk_at "ev"
    refine w_while (I := fun m δ => ∃ (k : Nat) (x3 x4 x5 x6 : Option Sl), m = n - k ∧ k ≤ n ∧ δ = [some (.fz (.lst ((T 0).map rowR))), some (.ow ((T k).map rowR)), some (.fz (qR (fd k))), x3, x4, x5, x6] ∧ NF x3 ∧ NB x4 ∧ NF x5 ∧ NB x6) n ⟨0, none, none, none, none, by omega, by omega, by rw [E.f0, qR_one], trivial, trivial, trivial, trivial⟩ (fun m δ1 hI => ?_)
    obtain ⟨k, x3, x4, x5, x6, rfl, hk, rfl, n3, n4, n5, n6⟩ := hI
    have hne := ne_nilRow (T k)
    have hlen := E.len k hk
    walk_at "ev"
    refine ex2 rfl rfl hne ?_
    walk_at "ev"
    refine ⟨fun hb => ?_, fun hb => ?_⟩
    · have hkn : k < n := by
        by_cases z : k < n
        · exact z
        · have : T k = [] := List.eq_nil_of_length_eq_zero (by omega)
          rw [this] at hb; cases hb
      obtain ⟨lead, rest, eT⟩ : ∃ lead rest, T k = lead :: rest := by
        cases e : T k with
        | nil => rw [e] at hb; cases hb
        | cons q r => exact ⟨q, r, rfl⟩
      have hbd := E.bd k hkn
      have hnn := E.ne k hkn
      have hpos := E.pos k hkn
      have hst := E.st k hkn
      have hsf := E.sf k hkn
      have hfb := E.fb k hk
      rw [eT] at hbd hnn hpos hst hsf hlen
      have hlT : ((T k).map rowR).length = (T k).length := List.length_map _
      have hw4 : okWipe [some (.fz (.lst ((T 0).map rowR))), some (.ow ((T k).map rowR)), some (.fz (qR (fd k))), x3, x4, x5, x6] [5] = true := by
        rcases x5 with _ | (_ | _ | _) <;> first | rfl | exact n5.elim
      have hrl : (List.range (T k).length).length ≤ sizeLine := len_ok (by rw [List.length_range, E.len k hk]; omega)
      have hTl := E.len k hk
      rw [hTl] at hlT hrl
      walk_at "ev"
      rw [hlT, rngT]
      refine w_lcf (fun i => decide (¬ ((T k).getD i []).headD 0 = 0)) (fun (i : Nat) => D.int (i : Int)) hrl (fun i hi => ?_) ?_
      · have hi2 : i < (T k).length := by rw [hTl]; exact List.mem_range.mp hi
        have hg : (T k)[i]? = some ((T k).getD i []) := by rw [List.getD_eq_getElem?_getD, List.getElem?_eq_getElem hi2]; rfl
        have h1 := ixl_at rowR hg
        have h2 := ix_0 qR (head_at (E.ne k hkn _ (List.mem_of_getElem? hg)).1)
        have h3 := ne_R0 (((T k).getD i []).headD 0)
        clear hbd hnn hpos hst hsf hfb hne hb hlT
        generalize (T k).getD i [] = q at *
        generalize q.headD 0 = x at *
        walk_at "ev"
        refine ex2 rfl rfl h1 ?_
        walk_at "ev"
        refine ex2 rfl rfl h2 ?_
        walk_at "ev"
        rw [← qR_zero, eqv_R]
        exact ⟨by rw [decide_not], fun _ => ⟨_, _, rfl, _, rfl, rfl⟩, fun _ => rfl⟩
      · have hh : (T k).headD [] = lead := by rw [eT]; rfl
        have hg0 : (T k).getD 0 [] = lead := by rw [eT]; rfl
        obtain ⟨r, er⟩ := range_filt (m := n - k) (t := fun i => decide (¬ ((T k).getD i []).headD 0 = 0)) (by omega) (decide_eq_true (by rw [hg0]; intro z; rw [show ((lead :: rest).headD []) = lead from rfl, z] at hpos; exact absurd hpos (by decide)))
        have hnil := eq_nil_ns (0 :: r)
        rw [er]
        rw [show ((lead :: rest).headD []) = lead from rfl] at hpos hst hsf
        rw [show List.drop 1 (lead :: rest) = rest from rfl] at hst
        have hl0 := head_at (hnn lead List.mem_cons_self).1
        have il := ix_0 qR hl0
        have bl := hbd lead List.mem_cons_self
        have hx0 := bl _ (List.mem_of_getElem? hl0)
        have ht := times_R (x := fd k) (y := lead.headD 0) (hfb.mono (by decide)) (hx0.mono (by decide))
        rw [← hsf] at ht
        have hpop := pop0 (rowR lead) (rest.map rowR)
        rw [eT, show (lead :: rest).map rowR = rowR lead :: rest.map rowR from rfl]
        have hix : ixD (.lst ((0 :: r).map fun (i : Nat) => D.int (i : Int))) (.int 0) = some (.int 0) := ixl_at (fun (i : Nat) => D.int (i : Int)) (xs := 0 :: r) (i := 0) (x := 0) rfl
        have hnil2 : eqD (.lst ((0 :: r).map fun (i : Nat) => D.int (i : Int))) (.lst []) = some (.bl false) := hnil
        clear hnil
        generalize (0 :: r : List Nat) = hs at *
        generalize hs.map (fun (i : Nat) => D.int (i : Int)) = HS at *
        unfold rowR at il
        walk_at "ev"
        refine ex2 rfl rfl hnil2 ?_
        walk_at "ev"
        refine ex2 rfl rfl hix ?_
        walk_at "ev"
        refine ⟨_, _, _, _, _, _, rfl, rfl, rfl, hpop, ?_⟩
        walk_at "ev"
        refine ex2 rfl rfl hix ?_
        walk_at "ev"
        refine ex2 rfl rfl il ?_
        walk_at "ev"
        refine wrp (ht) rfl rfl rfl ?_
        walk_at "ev"
        have hw3 : ∀ a2 a4 a5 a6 : Option Sl, okWipe (lkd 1 (rest.map rowR) [some (.fz (.lst ((T 0).map rowR))), some (.ow (rest.map rowR)), a2, x3, a4, a5, a6]) [3] = true := fun a2 a4 a5 a6 => by
          rcases x3 with _ | (_ | _ | _) <;> first | rfl | exact n3.elim
        refine w_lcL (F := fun d => some (rowR (elimR lead (unR d)))) rfl (hw3 _ _ _ _) (len_ok (by rw [List.length_map]; simp at hlen; omega)) (fun d hd => ?_) ?_
        · obtain ⟨q, hq, rfl⟩ := List.mem_map.mp hd
          have hqn := hnn q (List.mem_cons_of_mem _ hq)
          have hqb := hbd q (List.mem_cons_of_mem _ hq)
          have hq0 := head_at hqn.1
          have iq := ix_0 qR hq0
          have r0 := hqb _ (List.mem_of_getElem? hq0)
          have e1 := over_R (x := q.headD 0) (y := lead.headD 0) (r0.mono (by decide)) (hx0.mono (by decide)) hpos
          have rb := rz_div r0 hx0 hpos
          have e2 := row_scaled (p := lead) (x := q.headD 0 / lead.headD 0) (fun y hy => (bl y hy).mono (by decide)) (rb.mono (by decide)) (hnn lead List.mem_cons_self).2
          have e3 := row_less (p := q) (q := scalR lead (q.headD 0 / lead.headD 0)) (fun y hy => (hqb y hy).mono (by decide)) (fun y hy => by
            obtain ⟨z, hz, rfl⟩ := List.mem_map.mp hy
            exact ((bl z hz).mul rb).mono (by decide)) hqn.2
          have hl1 : 1 ≤ (lessRR q (scalR lead (q.headD 0 / lead.headD 0))).length := by
            unfold lessRR scalR
            rw [List.length_map, List.length_zip, List.length_map]
            have h1 := List.length_pos_iff.mpr hqn.1
            have h2 := List.length_pos_iff.mpr (hnn lead List.mem_cons_self).1
            omega
          have hcut := cutD_1 qR _ hl1
          have hF : rowR (elimR lead (unR (rowR q))) = .tup (((lessRR q (scalR lead (q.headD 0 / lead.headD 0))).drop 1).map qR) := by
            rw [unR_R]; rfl
          rw [hF]
          clear hF
          generalize lessRR q (scalR lead (q.headD 0 / lead.headD 0)) = Z at *
          generalize scalR lead (q.headD 0 / lead.headD 0) = Y at *
          generalize q.headD 0 / lead.headD 0 = X at *
          unfold rowR at *
          walk_at "ev"
          refine ex2 rfl rfl iq ?_
          walk_at "ev"
          refine ex2 rfl rfl il ?_
          walk_at "ev"
          refine wrp (e1) rfl rfl rfl ?_
          walk_at "ev"
          refine wrp (e2) rfl rfl rfl ?_
          walk_at "ev"
          refine wrp (e3) rfl rfl rfl ?_
          walk_at "ev"
          exact ⟨by rw [hcut], rfl⟩
        · have eF : (rest.map rowR).filterMap (fun d => some (rowR (elimR lead (unR d)))) = (T (k + 1)).map rowR := by
            rw [hst, fm_map, List.map_map, List.map_map]
            exact List.map_congr_left fun q _ => by show rowR (elimR lead (unR (rowR q))) = _; rw [unR_R]; rfl
          rw [eF]
          walk_at "ev"
          exact ⟨rfl, n - (k + 1), by omega, k + 1, _, _, _, _, rfl, by omega, rfl, n3, nb_fz, n5, nb_fz⟩
    · have hkn : n - k = 0 := by
        cases e : T k with
        | nil => rw [e] at hlen; simpa using hlen.symm
        | cons q r => rw [e] at hb; cases hb
      have : k = n := by omega
      subst this
      walk_at "ev"
      walk_at "rt"
      exact ⟨rfl, rfl⟩
namespace P14x5
end P14x5
/-! the numbers of the elimination -/
def scI (M : Int) (x : Rat) : Int := x.num * (M / (x.den : Int))
theorem scI_eq {M : Int} {x : Rat} (h : (x.den : Int) ∣ M) : (scI M x : Rat) = x * (M : Rat) := by
  obtain ⟨k, rfl⟩ := h
  unfold scI
  rw [Int.mul_ediv_cancel_left _ (by have := den_pos x; omega)]
  have h1 := num_eq x
  push_cast at *
  grind
theorem sc_le {N : Int} {x y : Rat} (hN : 0 < N) (hx : (x.den : Int) ∣ N) (hy : (y.den : Int) ∣ N) : scI N x ≤ scI N y ↔ x ≤ y := by
  have hNr : (0 : Rat) < (N : Rat) := by exact_mod_cast hN
  rw [← Rat.intCast_le_intCast, scI_eq hx, scI_eq hy]
  constructor
  · intro h
    by_cases z : x ≤ y
    · exact z
    · have := Rat.mul_pos (show (0 : Rat) < x - y by grind) hNr
      grind
  · intro h
    have := Rat.mul_nonneg (show (0 : Rat) ≤ y - x by grind) (show (0 : Rat) ≤ (N : Rat) by grind)
    grind
theorem sc_lt {N : Int} {x y : Rat} (hN : 0 < N) (hx : (x.den : Int) ∣ N) (hy : (y.den : Int) ∣ N) : scI N x < scI N y ↔ x < y := by
  have h := sc_le hN hy hx
  constructor
  · intro z
    by_cases q : x < y
    · exact q
    · have := h.mpr (by grind); omega
  · intro z
    by_cases q : scI N x < scI N y
    · exact q
    · have := h.mp (by omega); grind
theorem rmul_pow (a b : Rat) : ∀ p : Nat, (a * b) ^ p = a ^ p * b ^ p
  | 0 => by simp
  | p + 1 => by rw [Rat.pow_succ, Rat.pow_succ, Rat.pow_succ, rmul_pow a b p]; grind
theorem sc_0 (N : Int) : scI N 0 = 0 := by unfold scI; simp
theorem sc_1 (N : Int) : scI N 1 = N := by
  unfold scI
  show (1 : Int) * (N / 1) = N
  rw [Int.ediv_one, Int.one_mul]
structure Bz (n : Nat) (L H : List Rat) (N : Int) : Prop where
  n1 : 1 ≤ n
  n8 : n ≤ 8
  lL : L.length = n
  lH : H.length = n
  N0 : 0 < N
  Nb : Bd N 40
  dL : ∀ x ∈ L, (x.den : Int) ∣ N
  dH : ∀ x ∈ H, (x.den : Int) ∣ N
  sL : ∀ x ∈ L, 0 ≤ x ∧ x ≤ 1
  sH : ∀ x ∈ H, 0 ≤ x ∧ x ≤ 1
  mL : ∀ i k, i ≤ k → k < n → L.getD i 0 ≤ L.getD k 0
  mH : ∀ i k, i ≤ k → k < n → H.getD i 0 ≤ H.getD k 0
def gI (N : Int) (L : List Rat) (k : Nat) : Int := scI N (L.getD k 0)
section
variable {n : Nat} {L H : List Rat} {N : Int}
theorem Bz.iL (b : Bz n L H N) {k : Nat} (hk : k < n) : L.getD k 0 ∈ L := List.mem_of_getElem? (getD_at (by rw [b.lL]; exact hk))
theorem Bz.iH (b : Bz n L H N) {k : Nat} (hk : k < n) : H.getD k 0 ∈ H := List.mem_of_getElem? (getD_at (by rw [b.lH]; exact hk))
theorem Bz.l0 (b : Bz n L H N) {k : Nat} (hk : k < n) : 0 ≤ gI N L k ∧ gI N L k ≤ N := by
  have h := b.sL _ (b.iL hk)
  have hd := b.dL _ (b.iL hk)
  constructor
  · have := (sc_le (x := 0) b.N0 ⟨N, by simp⟩ hd).mpr h.1
    rw [sc_0] at this; exact this
  · have := (sc_le (y := 1) b.N0 hd ⟨N, by simp⟩).mpr h.2
    rw [sc_1] at this; exact this
theorem Bz.h0 (b : Bz n L H N) {k : Nat} (hk : k < n) : 0 ≤ gI N H k ∧ gI N H k ≤ N := by
  have h := b.sH _ (b.iH hk)
  have hd := b.dH _ (b.iH hk)
  constructor
  · have := (sc_le (x := 0) b.N0 ⟨N, by simp⟩ hd).mpr h.1
    rw [sc_0] at this; exact this
  · have := (sc_le (y := 1) b.N0 hd ⟨N, by simp⟩).mpr h.2
    rw [sc_1] at this; exact this
theorem Bz.ml (b : Bz n L H N) {i k : Nat} (hi : i ≤ k) (hk : k < n) : gI N L i ≤ gI N L k := (sc_le b.N0 (b.dL _ (b.iL (by omega))) (b.dL _ (b.iL hk))).mpr (b.mL i k hi hk)
theorem Bz.mh (b : Bz n L H N) {i k : Nat} (hi : i ≤ k) (hk : k < n) : gI N H i ≤ gI N H k := (sc_le b.N0 (b.dH _ (b.iH (by omega))) (b.dH _ (b.iH hk))).mpr (b.mH i k hi hk)
theorem Bz.dpos (b : Bz n L H N) (hlt : ∀ k, k < n → gI N L k < gI N H k) {k : Nat} (hk : k ≤ n) : 0 < DB (gI N H) (gI N L) k :=
  DB_pos (n := n) (fun i k h1 h2 => b.ml h1 h2) (fun i k h1 h2 => b.mh h1 h2) hlt (fun k hk => (b.l0 hk).1) hk
/-- bounds -/
theorem bd_pz {x : Int} {m : Nat} (h : Bd x m) : Bd (pz x) m := by
  unfold pz
  split
  · exact h
  · exact bd_lit _ 0 (by decide) (Nat.pow_pos (by decide))
theorem Bz.gap (b : Bz n L H N) {r c : Nat} (hr : r < n) (hc : c < n) : Bd (pz (gI N H r - gI N L c)) 40 := by
  have h1 := b.h0 hr
  have h2 := b.l0 hc
  have h3 := b.Nb
  refine bd_pz ?_
  unfold Bd at *
  omega
theorem Bz.bdE (b : Bz n L H N) {j : Nat} (hj : j < n) : ∀ k, k ≤ j → Bd (EE (gI N H) (gI N L) k j) (40 * (j + 1) + 12 * k + 1) := by
  have hn := b.n8
  have main : ∀ k, ∀ j, j < n → k ≤ j → Bd (EE (gI N H) (gI N L) k j) (40 * (j + 1) + 12 * k + 1) := fun k => by
    induction k with
    | zero =>
      intro j hj _
      show Bd (pz (gI N H 0 - gI N L j) ^ (j + 1)) _
      exact bd_mono (bd_pow (b.gap (by omega) hj) (j + 1)) (by omega)
    | succ k ih =>
      intro j hj hk
      show Bd (chs (j + 1) (k + 1) * pz (gI N H (k + 1) - gI N L j) ^ (j - k) * EE _ _ k k - EE _ _ k j) _
      have h1 : Bd (chs (j + 1) (k + 1) : Int) 9 := by
        have := chs_le (j + 1) (k + 1)
        have : 2 ^ (j + 1) ≤ 2 ^ 8 := Nat.pow_le_pow_right (by decide) (by omega)
        unfold Bd; simp; omega
      have h2 := bd_pow (b.gap (show k + 1 < n by omega) hj) (j - k)
      have h3 := ih k (by omega) (Nat.le_refl _)
      have h4 := ih j hj (by omega)
      rw [Int.sub_eq_add_neg]
      exact bd_mono (bd_add1 (bd_mul (bd_mul h1 h2) h3) (bd_neg h4)) (by omega)
  exact fun k hk => main k j hj hk
theorem bd_fct {k : Nat} (hk : k ≤ 8) : Bd (fct k : Int) 16 := by
  have : ∀ n : Fin 9, fct n.val < 2 ^ 16 := by decide +kernel
  have h := this ⟨k, by omega⟩
  unfold Bd; simpa using h
theorem Bz.bN (b : Bz n L H N) (k : Nat) : Bd (N ^ k) (40 * k + 1) := bd_pow b.Nb k
theorem Bz.bdD (b : Bz n L H N) {k : Nat} (hk : k ≤ n) : Bd (DB (gI N H) (gI N L) k) 409 := by
  have hn := b.n8
  cases k with
  | zero => exact bd_mono (show Bd 1 2 from bd_lit 2 1 (by decide) (by decide)) (by omega)
  | succ k => exact bd_mono (b.bdE (show k < n by omega) k (Nat.le_refl _)) (by omega)
/-- the numbers of the first row that is left -/
def rho (N : Int) (h l : Nat → Int) (k j : Nat) : Rat := ((EE h l k j * ((fct k : Int) * N ^ k) : Int) : Rat) / (((fct (j + 1) : Int) * N ^ (j + 1) * DB h l k : Int) : Rat)
def fdR (N : Int) (h l : Nat → Int) (k : Nat) : Rat := ((DB h l k : Int) : Rat) / (((fct k : Int) * N ^ k : Int) : Rat)
theorem fct_posI (k : Nat) : (0 : Int) < (fct k : Int) := by exact_mod_cast fct_pos k
theorem Bz.np (b : Bz n L H N) (k : Nat) : 0 < N ^ k := Int.pow_pos b.N0
theorem Bz.rzr (b : Bz n L H N) (hlt : ∀ k, k < n → gI N L k < gI N H k) {k j : Nat} (hk : k ≤ j) (hj : j < n) : Rz 900 (rho N (gI N H) (gI N L) k j) := by
  have hn := b.n8
  refine rz_frac (Int.mul_pos (Int.mul_pos (fct_posI _) (b.np _)) (b.dpos hlt (by omega))) ?_ ?_
  · exact bd_mono (bd_mul (b.bdE hj k hk) (bd_mul (bd_fct (by omega)) (b.bN k))) (by omega)
  · exact bd_mono (bd_mul (bd_mul (bd_fct (by omega)) (b.bN (j + 1))) (b.bdD (show k ≤ n by omega))) (by omega)
theorem Bz.rzf (b : Bz n L H N) {k : Nat} (hk : k ≤ n) : Rz 900 (fdR N (gI N H) (gI N L) k) := by
  have hn := b.n8
  refine rz_frac (Int.mul_pos (fct_posI _) (b.np _)) ?_ ?_
  · exact bd_mono (b.bdD hk) (by omega)
  · exact bd_mono (bd_mul (bd_fct (by omega)) (b.bN k)) (by omega)
/-- the table in whole numbers -/
theorem Bz.ent (b : Bz n L H N) {r c p : Nat} (hr : r < n) (hc : c < n) (hp : 1 ≤ p) : entR (L.getD c 0) (H.getD r 0) p = ((pz (gI N H r - gI N L c) ^ p : Int) : Rat) / (((fct p : Int) * N ^ p : Int) : Rat) := by
  have e1 := scI_eq (b.dH _ (b.iH hr))
  have e2 := scI_eq (b.dL _ (b.iL hc))
  have hlt := sc_lt b.N0 (b.dL _ (b.iL hc)) (b.dH _ (b.iH hr))
  have hNr : (0 : Rat) < (N : Rat) := by exact_mod_cast b.N0
  have hf : (0 : Rat) < ((fct p : Int) : Rat) := by exact_mod_cast fct_posI p
  unfold entR gI
  by_cases z : 0 < H.getD r 0 - L.getD c 0
  · have z2 := hlt.mpr (by grind)
    rw [if_pos z, pz_ge (by omega)]
    have e3 : ((scI N (H.getD r 0) - scI N (L.getD c 0) : Int) : Rat) = (H.getD r 0 - L.getD c 0) * (N : Rat) := by push_cast; rw [e1, e2]; grind
    rw [Rat.intCast_pow, e3, rmul_pow, Rat.intCast_mul, Rat.intCast_pow]
    have hP : (N : Rat) ^ p ≠ 0 := by
      have : (0 : Int) < N ^ p := b.np p
      intro e
      rw [← Rat.intCast_pow] at e
      have : N ^ p = 0 := by exact_mod_cast e
      omega
    grind
  · have z2 : ¬ scI N (L.getD c 0) < scI N (H.getD r 0) := fun q => z (by have := hlt.mp q; grind)
    rw [if_neg z, pz_le (by omega), Int.zero_pow (by omega)]
    simp [Rat.div_def]
end
/-! the elimination of the table -/
section
variable {n : Nat} {L H : List Rat} {N : Int}
theorem Bz.tab (b : Bz n L H N) {r c : Nat} (hr : r < n) (hc : c < n) (hp : r ≤ c) : tabR L H r c = ((pz (gI N H r - gI N L c) ^ (c + 1 - r) : Int) : Rat) / (((fct (c + 1 - r) : Int) * N ^ (c + 1 - r) : Int) : Rat) := by
  unfold tabR
  rw [if_neg (by omega), if_neg (by omega), b.ent hr hc (by omega)]
theorem ratI_ne {a : Int} (h : 0 < a) : (a : Rat) ≠ 0 := by
  intro e
  have : a = 0 := by exact_mod_cast e
  omega
theorem rne {a b : Rat} (ha : a ≠ 0) (hb : b ≠ 0) : a * b ≠ 0 := by
  intro e
  rcases Rat.mul_eq_zero.mp e with h | h
  · exact ha h
  · exact hb h
theorem frac1_eq {a b c d : Rat} (hb : b ≠ 0) (hd : d ≠ 0) (h : a * d = c * b) : a / b = c / d := by grind
theorem one_dd {a b : Rat} (ha : a ≠ 0) (hb : b ≠ 0) : 1 / (a / b) = b / a := by grind
theorem frac_eq {a b c d e f : Rat} (hb : b ≠ 0) (hd : d ≠ 0) (hf : f ≠ 0) (h : a * c * f = e * (b * d)) : a / b * (c / d) = e / f := by grind
theorem sub_frac (a b c : Rat) : (a - b) / c = a / c - b / c := by grind
theorem step_alg {P Fp Bp e2 Fk A Fc1 C1 Dk e1 Fk1 A1 C : Rat} (n1 : Fp ≠ 0) (n2 : Bp ≠ 0) (n3 : Fk ≠ 0) (n4 : A ≠ 0) (n5 : Fc1 ≠ 0) (n6 : C1 ≠ 0) (n7 : Dk ≠ 0) (n8 : e1 ≠ 0) (n9 : Fk1 ≠ 0) (n10 : A1 ≠ 0) (hC : C1 = A1 * Bp) (hF : Fc1 = C * (Fk1 * Fp)) :
    P / (Fp * Bp) - (e2 * (Fk * A)) / (Fc1 * C1 * Dk) * (1 / ((e1 * (Fk * A)) / (Fk1 * A1 * Dk))) = ((C * P * e1 - e2) * (Fk1 * A1)) / (Fc1 * C1 * e1) := by
  have m1 := rne n3 n4
  have m2 := rne (rne n9 n10) n7
  have m3 := rne (rne n5 n6) n7
  have m4 := rne (rne n5 n6) n8
  have m5 := rne n1 n2
  have m6 := rne n8 m1
  have m7 := rne n9 n10
  have h1 : (e2 * (Fk * A)) / (Fc1 * C1 * Dk) * (1 / ((e1 * (Fk * A)) / (Fk1 * A1 * Dk))) = e2 * (Fk1 * A1) / (Fc1 * C1 * e1) := by
    rw [one_dd m6 m2]
    exact frac_eq m3 m6 m4 (by grind)
  have h2 : P / (Fp * Bp) = (C * P * e1) * (Fk1 * A1) / (Fc1 * C1 * e1) := by
    refine frac1_eq m5 m4 ?_
    rw [hC, hF]; grind
  rw [h1, h2, ← sub_frac]
  congr 1
  grind
theorem Bz.step (b : Bz n L H N) (hlt : ∀ k, k < n → gI N L k < gI N H k) {k c : Nat} (hk : k < c) (hc : c < n) : tabR L H (k + 1) c - rho N (gI N H) (gI N L) k c * (1 / rho N (gI N H) (gI N L) k k) = rho N (gI N H) (gI N L) (k + 1) c := by
  rw [b.tab (show k + 1 < n by omega) hc (by omega)]
  unfold rho
  have hD1 : DB (gI N H) (gI N L) (k + 1) = EE (gI N H) (gI N L) k k := rfl
  have hE : EE (gI N H) (gI N L) (k + 1) c = chs (c + 1) (k + 1) * pz (gI N H (k + 1) - gI N L c) ^ (c - k) * EE (gI N H) (gI N L) k k - EE (gI N H) (gI N L) k c := rfl
  have hp1 := b.dpos hlt (k := k + 1) (by omega)
  have hp0 := b.dpos hlt (k := k) (by omega)
  rw [hD1] at hp1 ⊢
  rw [hE, show c + 1 - (k + 1) = c - k by omega]
  have hch := chs_fct (k + 1) (c - k)
  rw [show k + 1 + (c - k) = c + 1 by omega] at hch
  have hN1 : N ^ (c + 1) = N ^ (k + 1) * N ^ (c - k) := by rw [← Int.pow_add]; congr 1; omega
  have z := step_alg (P := ((pz (gI N H (k + 1) - gI N L c) ^ (c - k) : Int) : Rat)) (e2 := ((EE (gI N H) (gI N L) k c : Int) : Rat)) (C := ((chs (c + 1) (k + 1) : Int) : Rat)) (ratI_ne (fct_posI (c - k))) (ratI_ne (b.np (c - k))) (ratI_ne (fct_posI k)) (ratI_ne (b.np k)) (ratI_ne (fct_posI (c + 1))) (ratI_ne (b.np (c + 1))) (ratI_ne hp0) (ratI_ne hp1) (ratI_ne (fct_posI (k + 1))) (ratI_ne (b.np (k + 1))) (by rw [← Rat.intCast_mul, hN1]) (by rw [← Rat.intCast_mul, ← Rat.intCast_mul]; congr 1; exact_mod_cast hch.symm)
  simp only [Rat.intCast_mul, Rat.intCast_sub] at z ⊢
  exact z
theorem Bz.first (b : Bz n L H N) {c : Nat} (hc : c < n) : tabR L H 0 c = rho N (gI N H) (gI N L) 0 c := by
  rw [b.tab (show 0 < n by omega) hc (by omega)]
  unfold rho
  rw [show DB (gI N H) (gI N L) 0 = 1 from rfl, show EE (gI N H) (gI N L) 0 c = pz (gI N H 0 - gI N L c) ^ (c + 1) from rfl, show fct 0 = 1 from rfl, Nat.sub_zero]
  simp
/-- the rows that are left after k turns -/
def TTR (N : Int) (L H : List Rat) (n k : Nat) : List (List Rat) :=
  if k < n then ((List.range (n - k)).map fun j => rho N (gI N H) (gI N L) k (k + j)) :: (List.range (n - 1 - k)).map (fun i => (List.range (n - k)).map fun j => tabR L H (k + 1 + i) (k + j)) else []
theorem TT0 (b : Bz n L H N) : TTR N L H n 0 = tblR L H := by
  unfold TTR tblR
  have h1 := b.n1
  rw [if_pos (by omega), b.lL]
  obtain ⟨m, rfl⟩ := Nat.exists_eq_add_of_le' h1
  have e : ∀ g : Nat → List Rat, (List.range (m + 1)).map g = g 0 :: (List.range m).map fun i => g (i + 1) := fun g => by rw [List.range_succ_eq_map, List.map_cons, List.map_map]; rfl
  rw [show m + 1 - 1 - 0 = m by omega, show m + 1 - 0 = m + 1 by omega, e]
  congr 1
  · refine List.map_congr_left fun c hc => ?_
    rw [Nat.zero_add]
    exact (b.first (List.mem_range.mp hc)).symm
  · refine List.map_congr_left fun i _ => ?_
    refine List.map_congr_left fun j _ => ?_
    rw [Nat.zero_add, Nat.zero_add, Nat.add_comm 1 i]
theorem head_map {m : Nat} (f : Nat → Rat) (h : 0 < m) : ((List.range m).map f).headD 0 = f 0 := by
  obtain ⟨d, rfl⟩ := Nat.exists_eq_add_of_lt h
  rw [Nat.zero_add, List.range_succ_eq_map]; rfl
theorem elim_map {m : Nat} (f g : Nat → Rat) (h : 0 < m) : elimR ((List.range m).map f) ((List.range m).map g) = (List.range (m - 1)).map fun j => g (j + 1) - f (j + 1) * (g 0 / f 0) := by
  unfold elimR lessRR scalR
  rw [head_map f h, head_map g h]
  refine List.ext_getElem (by simp) fun i h1 h2 => ?_
  simp [List.getElem_drop, List.getElem_zip, Nat.add_comm 1 i]
theorem Bz.eli (b : Bz n L H N) (hlt : ∀ k, k < n → gI N L k < gI N H k) : Eli n (TTR N L H n) (fdR N (gI N H) (gI N L)) := by
  have h8 := b.n8
  have h1 := b.n1
  have hhead : ∀ k, k < n → ((TTR N L H n k).headD []) = (List.range (n - k)).map fun j => rho N (gI N H) (gI N L) k (k + j) := fun k hk => by unfold TTR; rw [if_pos hk]; rfl
  have hh0 : ∀ k, k < n → ((TTR N L H n k).headD []).headD 0 = rho N (gI N H) (gI N L) k k := fun k hk => by rw [hhead k hk, head_map _ (by omega), Nat.add_zero]
  constructor
  · show ((1 : Int) : Rat) / ((((1 : Nat) : Int) * N ^ 0 : Int) : Rat) = 1
    rw [show (((1 : Nat) : Int) * N ^ 0) = 1 by simp]
    grind
  · intro k hk
    unfold TTR
    by_cases z : k < n
    · rw [if_pos z, List.length_cons, List.length_map, List.length_range]; omega
    · rw [if_neg z]; simp; omega
  · intro k hk q hq
    unfold TTR at hq
    rw [if_pos hk] at hq
    have hl : q.length = n - k := by
      rcases List.mem_cons.mp hq with rfl | hq
      · rw [List.length_map, List.length_range]
      · obtain ⟨i, _, rfl⟩ := List.mem_map.mp hq
        rw [List.length_map, List.length_range]
    exact ⟨fun e => by rw [e] at hl; simp at hl; omega, by omega⟩
  · intro k hk q hq x hx
    unfold TTR at hq
    rw [if_pos hk] at hq
    rcases List.mem_cons.mp hq with rfl | hq
    · obtain ⟨j, hj, rfl⟩ := List.mem_map.mp hx
      have := List.mem_range.mp hj
      exact b.rzr hlt (by omega) (by omega)
    · obtain ⟨i, hi, rfl⟩ := List.mem_map.mp hq
      obtain ⟨j, hj, rfl⟩ := List.mem_map.mp hx
      have hi := List.mem_range.mp hi
      have hj := List.mem_range.mp hj
      by_cases z : k + 1 + i ≤ k + j
      · rw [b.tab (by omega) (by omega) z]
        refine rz_frac (Int.mul_pos (fct_posI _) (b.np _)) (bd_mono (bd_pow (b.gap (by omega) (by omega)) _) (by omega)) (bd_mono (bd_mul (bd_fct (by omega)) (b.bN _)) (by omega))
      · unfold tabR
        by_cases z2 : k + j + 1 < k + 1 + i
        · rw [if_pos z2]; exact rz_int (i := 0) (bd_lit _ 0 (by decide) (Nat.pow_pos (by decide))) (by omega)
        · rw [if_neg z2, if_pos (by omega)]; exact (rz_int (i := 1) (n := 2) (bd_lit 2 1 (by decide) (by decide)) (by omega)).mono (by omega)
  · intro k hk; exact b.rzf hk
  · intro k hk
    rw [hh0 k hk]
    unfold rho
    have p1 : (0 : Rat) < ((EE (gI N H) (gI N L) k k * ((fct k : Int) * N ^ k) : Int) : Rat) := by
      exact_mod_cast Int.mul_pos (b.dpos hlt (k := k + 1) (by omega)) (Int.mul_pos (fct_posI _) (b.np _))
    have p2 : (0 : Rat) < (((fct (k + 1) : Int) * N ^ (k + 1) * DB (gI N H) (gI N L) k : Int) : Rat) := by
      exact_mod_cast Int.mul_pos (Int.mul_pos (fct_posI _) (b.np _)) (b.dpos hlt (k := k) (by omega))
    rw [Rat.div_def]
    exact Rat.mul_pos p1 (Rat.inv_pos.mpr p2)
  · intro k hk
    rw [hhead k hk]
    have hd : (TTR N L H n k).drop 1 = (List.range (n - 1 - k)).map (fun i => (List.range (n - k)).map fun j => tabR L H (k + 1 + i) (k + j)) := by unfold TTR; rw [if_pos hk]; rfl
    rw [hd, List.map_map]
    unfold TTR
    by_cases z : k + 1 < n
    · rw [if_pos z]
      obtain ⟨m, hm⟩ : ∃ m, n - 1 - k = m + 1 := ⟨n - 2 - k, by omega⟩
      rw [hm, List.range_succ_eq_map, List.map_cons, List.map_map, show n - 1 - (k + 1) = m by omega]
      congr 1
      · show _ = elimR _ _
        rw [elim_map _ _ (by omega), show n - (k + 1) = n - k - 1 by omega]
        refine List.map_congr_left fun j hj => ?_
        have hj := List.mem_range.mp hj
        have e1 : tabR L H (k + 1 + 0) (k + 0) = 1 := by unfold tabR; rw [if_neg (by omega), if_pos (by omega)]
        rw [e1]
        simp only [Nat.add_zero]
        rw [show k + 1 + j = k + (j + 1) by omega, ← b.step hlt (show k < k + (j + 1) by omega) (by omega)]
      · refine List.map_congr_left fun i hi => ?_
        show _ = elimR _ _
        rw [elim_map _ _ (by omega), show n - (k + 1) = n - k - 1 by omega]
        refine List.map_congr_left fun j hj => ?_
        have e1 : tabR L H (k + 1 + (i + 1)) (k + 0) = 0 := by unfold tabR; rw [if_pos (by omega)]
        rw [e1, show k + 1 + j = k + (j + 1) by omega, show k + 1 + 1 + i = k + 1 + (i + 1) by omega]
        simp [Rat.div_def]; grind
    · rw [if_neg z, show n - 1 - k = 0 by omega]; rfl
  · intro k hk
    rw [hh0 k hk]
    unfold fdR rho
    rw [show DB (gI N H) (gI N L) (k + 1) = EE (gI N H) (gI N L) k k from rfl]
    have p0 := ratI_ne (b.dpos hlt (k := k) (by omega))
    have p1 := ratI_ne (fct_posI k)
    have p2 := ratI_ne (b.np k)
    have p3 := ratI_ne (fct_posI (k + 1))
    have p4 := ratI_ne (b.np (k + 1))
    simp only [Rat.intCast_mul]
    have q0 := rne p1 p2
    have q1 := rne p3 p4
    exact (frac_eq q0 (rne q1 p0) q1 (by grind)).symm
/-- what the program tells of a box -/
def boxVal (N : Int) (L H : List Rat) (n : Nat) : Rat := if ltsB L H = true then ((DB (gI N H) (gI N L) n : Int) : Rat) / ((N ^ n : Int) : Rat) else 0
end
namespace P14x6
end P14x6
/-! the chance that the program tells -/
theorem eq_nilRow (T : List (List Rat)) : eqD (.lst (T.map rowR)) (.lst []) = some (.bl T.isEmpty) := by
  rw [eq_nil (show shp 60 (.lst (T.map rowR)) = true by
    show (T.map rowR).all (shp 59) = true
    rw [List.all_eq_true]
    intro d hd
    obtain ⟨q, _, rfl⟩ := List.mem_map.mp hd
    show (q.map qR).all (shp 58) = true
    rw [List.all_eq_true]
    intro e he
    obtain ⟨x, _, rfl⟩ := List.mem_map.mp he
    exact shp_R 57 x)]
  cases T <;> rfl
theorem getD_app {l : List Rat} {x : Rat} {i : Nat} (h : i < l.length) : (l ++ [x]).getD i 0 = l.getD i 0 := by
  rw [List.getD_eq_getElem?_getD, List.getD_eq_getElem?_getD, List.getElem?_append_left h]
theorem getD_end {l : List Rat} {x : Rat} : (l ++ [x]).getD l.length 0 = x := by
  rw [List.getD_eq_getElem?_getD, List.getElem?_append_right (Nat.le_refl _), Nat.sub_self]; rfl
theorem acc_spec {f : Rat → Rat → Rat} {R : Rat → Rat → Prop} (rr : ∀ x, R x x) (rt : ∀ x y z, R x y → R y z → R x z) (hf : ∀ x y, R x (f x y) ∧ R y (f x y)) (hor : ∀ x y, f x y = x ∨ f x y = y) {l : List Rat} : ∀ k, k ≤ l.length → ∀ i, i < k → (∀ t, t ≤ i → R (l.getD t 0) ((accR f (l.take k)).getD i 0)) ∧ ∃ t, t ≤ i ∧ l.getD t 0 = (accR f (l.take k)).getD i 0
  | 0, _, i, hi => by omega
  | k + 1, hk, i, hi => by
    have hx := getD_at (L := l) (c := k) (by omega)
    have hl := accR_len f k (show k ≤ l.length by omega)
    rw [accR_take f hx]
    unfold accS
    by_cases z : i < k
    · rw [getD_app (l := accR f (l.take k)) (by omega)]
      exact acc_spec rr rt hf hor k (by omega) i z
    · have e : i = k := by omega
      subst e
      have he : ∀ y, (accR f (l.take i) ++ [y]).getD i 0 = y := fun y => by
        have := getD_end (l := accR f (l.take i)) (x := y)
        rw [hl] at this; exact this
      rw [he]
      cases e : (accR f (l.take i)).getLast? with
      | none =>
        have h0 : i = 0 := by
          rw [List.getLast?_eq_none_iff] at e
          rw [e] at hl; simpa using hl.symm
        subst h0
        exact ⟨fun t ht => by rw [show t = 0 by omega]; exact rr _, 0, Nat.le_refl _, rfl⟩
      | some y =>
        have hi0 : 0 < i := by
          by_cases z : 0 < i
          · exact z
          · rw [show i = 0 by omega, List.take_zero] at e; cases e
        have ey : (accR f (l.take i)).getD (i - 1) 0 = y := by
          rw [List.getLast?_eq_getElem?, hl] at e
          rw [List.getD_eq_getElem?_getD, e]; rfl
        obtain ⟨h1, t0, ht0, e0⟩ := acc_spec (l := l) rr rt hf hor i (by omega) (i - 1) (by omega)
        rw [ey] at h1 e0
        have h2 := hf y (l.getD i 0)
        refine ⟨fun t ht => ?_, ?_⟩
        · by_cases q : t = i
          · rw [q]; exact h2.2
          · exact rt _ _ _ (h1 t (by omega)) h2.1
        · rcases hor y (l.getD i 0) with q | q
          · exact ⟨t0, by omega, by show _ = f y (l.getD i 0); rw [q, e0]⟩
          · exact ⟨i, Nat.le_refl _, by show _ = f y (l.getD i 0); rw [q]⟩
theorem ris_spec {ls : List Rat} {i : Nat} (hi : i < ls.length) : (∀ t, t ≤ i → ls.getD t 0 ≤ (risR ls).getD i 0) ∧ ∃ t, t ≤ i ∧ ls.getD t 0 = (risR ls).getD i 0 := by
  have h := acc_spec (f := mxR) (R := fun x y => x ≤ y) (fun x => Rat.le_refl) (fun x y z => Rat.le_trans) (fun x y => by unfold mxR; split <;> constructor <;> grind) mxR_or (l := ls) ls.length (Nat.le_refl _) i hi
  rw [List.take_length] at h
  exact h
theorem getD_rev {l : List Rat} {i : Nat} (h : i < l.length) : l.reverse.getD i 0 = l.getD (l.length - 1 - i) 0 := by
  rw [List.getD_eq_getElem?_getD, List.getD_eq_getElem?_getD, List.getElem?_reverse h]
theorem fal_spec {hs : List Rat} {i : Nat} (hi : i < hs.length) : (∀ t, i ≤ t → t < hs.length → (falR hs).getD i 0 ≤ hs.getD t 0) ∧ ∃ t, i ≤ t ∧ t < hs.length ∧ hs.getD t 0 = (falR hs).getD i 0 := by
  have hr : hs.reverse.length = hs.length := List.length_reverse
  have hl : (accR mnR hs.reverse).length = hs.length := by
    have := accR_len mnR hs.reverse.length (Nat.le_refl _)
    rw [List.take_length, hr] at this; exact this
  have h := acc_spec (f := mnR) (R := fun x y => y ≤ x) (fun x => Rat.le_refl) (fun x y z h1 h2 => Rat.le_trans h2 h1) (fun x y => by unfold mnR; split <;> constructor <;> grind) mnR_or (l := hs.reverse) hs.reverse.length (Nat.le_refl _) (hs.length - 1 - i) (by omega)
  rw [List.take_length] at h
  have e : (falR hs).getD i 0 = (accR mnR hs.reverse).getD (hs.length - 1 - i) 0 := by
    unfold falR
    rw [getD_rev (by omega), hl]
  rw [e]
  refine ⟨fun t h1 h2 => ?_, ?_⟩
  · have := h.1 (hs.length - 1 - t) (by omega)
    rw [getD_rev (by omega), show hs.length - 1 - (hs.length - 1 - t) = t by omega] at this
    exact this
  · obtain ⟨t, ht, e⟩ := h.2
    rw [getD_rev (by omega)] at e
    exact ⟨hs.length - 1 - t, by omega, by omega, e⟩
theorem bz_of {n : Nat} {ls hs : List Rat} {N : Int} (b : Bx n ls hs) (N0 : 0 < N) (Nb : Bd N 40) (dL : ∀ x ∈ ls, (x.den : Int) ∣ N) (dH : ∀ x ∈ hs, (x.den : Int) ∣ N) : Bz n (risR ls) (falR hs) N := by
  have ll := b.ll
  have lh := b.lh
  refine ⟨b.n1, b.n8, by rw [risR_len, ll], by rw [falR_len, lh], N0, Nb, fun x hx => dL x (risR_mem x hx), fun x hx => dH x (falR_mem x hx), fun x hx => b.sl x (risR_mem x hx), fun x hx => b.sh x (falR_mem x hx), fun i k hi hk => ?_, fun i k hi hk => ?_⟩
  · obtain ⟨t, ht, e⟩ := (ris_spec (ls := ls) (i := i) (by omega)).2
    rw [← e]
    exact (ris_spec (ls := ls) (i := k) (by omega)).1 t (by omega)
  · obtain ⟨t, ht, ht2, e⟩ := (fal_spec (hs := hs) (i := k) (by omega)).2
    rw [← e]
    exact (fal_spec (hs := hs) (i := i) (by omega)).1 t (by omega) ht2
theorem plain_gI {n : Nat} {ls hs : List Rat} {N : Int} (b : Bx n ls hs) (N0 : 0 < N) (dL : ∀ x ∈ ls, (x.den : Int) ∣ N) (dH : ∀ x ∈ hs, (x.den : Int) ∣ N) : Plain n (gI N ls) (gI N hs) (gI N (risR ls)) (gI N (falR hs)) := by
  have ll := b.ll
  have lh := b.lh
  have ml : ∀ k, k < n → ls.getD k 0 ∈ ls := fun k hk => List.mem_of_getElem? (getD_at (by omega))
  have mh : ∀ k, k < n → hs.getD k 0 ∈ hs := fun k hk => List.mem_of_getElem? (getD_at (by omega))
  have mr : ∀ k, k < n → (risR ls).getD k 0 ∈ ls := fun k hk => risR_mem _ (List.mem_of_getElem? (getD_at (by rw [risR_len]; omega)))
  have mf : ∀ k, k < n → (falR hs).getD k 0 ∈ hs := fun k hk => falR_mem _ (List.mem_of_getElem? (getD_at (by rw [falR_len]; omega)))
  refine ⟨fun k hk t ht => ?_, fun k hk => ?_, fun k hk t ht ht2 => ?_, fun k hk => ?_⟩
  · exact (sc_le N0 (dL _ (ml t (by omega))) (dL _ (mr k hk))).mpr ((ris_spec (ls := ls) (i := k) (by omega)).1 t ht)
  · obtain ⟨t, ht, e⟩ := (ris_spec (ls := ls) (i := k) (by omega)).2
    exact ⟨t, ht, by unfold gI; rw [e]⟩
  · exact (sc_le N0 (dH _ (mf k hk)) (dH _ (mh t ht2))).mpr ((fal_spec (hs := hs) (i := k) (by omega)).1 t ht (by omega))
  · obtain ⟨t, ht, ht2, e⟩ := (fal_spec (hs := hs) (i := k) (by omega)).2
    exact ⟨t, ht, by omega, by unfold gI; rw [e]⟩
theorem lts_iff {n : Nat} {L H : List Rat} {N : Int} (b : Bz n L H N) : ltsB L H = true ↔ ∀ k, k < n → gI N L k < gI N H k := by
  have lL := b.lL
  have lH := b.lH
  unfold ltsB
  rw [List.all_eq_true]
  constructor
  · intro h k hk
    have hm : (L.getD k 0, H.getD k 0) ∈ L.zip H := by
      refine List.mem_of_getElem? (i := k) ?_
      rw [List.getElem?_zip_eq_some]
      exact ⟨getD_at (by omega), getD_at (by omega)⟩
    exact (sc_lt b.N0 (b.dL _ (b.iL hk)) (b.dH _ (b.iH hk))).mpr (of_decide_eq_true (h _ hm))
  · intro h p hp
    obtain ⟨k, hk⟩ := List.mem_iff_getElem?.mp hp
    rw [List.getElem?_zip_eq_some] at hk
    have hk1 := (List.getElem?_eq_some_iff.mp hk.1).1
    have e1 := getD_at (L := L) (c := k) (by omega)
    have e2 := getD_at (L := H) (c := k) (by omega)
    rw [hk.1] at e1
    rw [hk.2] at e2
    have := (sc_lt b.N0 (b.dL _ (b.iL (k := k) (by omega))) (b.dH _ (b.iH (k := k) (by omega)))).mp (h k (by omega))
    rw [Option.some.inj e1, Option.some.inj e2]
    exact decide_eq_true this
theorem chance_of {n : Nat} {ls hs : List Rat} {N : Int} (h : Bx n ls hs) (b : Bz n (risR ls) (falR hs) N) : d_chance_of [.fz (boxR ls hs)] = some (qR (boxVal N (risR ls) (falR hs) n), [.fz (boxR ls hs)]) := by
  suffices H : Wf d_chance_of [.fz (boxR ls hs)] fun r o => r = qR (boxVal N (risR ls) (falR hs) n) ∧ o = [.fz (boxR ls hs)] by
    obtain ⟨r, o, e, rfl, rfl⟩ := H; exact e
  have ht := table_of h
  unfold boxVal
  cases hl : ltsB (risR ls) (falR hs) with
  | false =>
    rw [hl] at ht
    simp only [Bool.false_eq_true, if_false] at ht ⊢
    rw [qR_zero]
    have hn : eqD (.lst []) (.lst []) = some (.bl true) := eq_nilRow []
    walk_at "fn"
    unfold e_chance_of
    walk_at "ev"
    refine wrp (ht) rfl rfl rfl ?_
    walk_at "ev"
    exact ⟨_, .inl rfl, rfl, rfl⟩
  | true =>
    rw [hl] at ht
    simp only [if_true] at ht ⊢
    have hlt := (lts_iff b).mp hl
    have E := b.eli hlt
    have n8 := b.n8
    have n1 := b.n1
    have hd := determinant_R E (by omega)
    rw [TT0 b] at hd
    have hT : (tblR (risR ls) (falR hs)).length = n := by unfold tblR; rw [List.length_map, List.length_range, b.lL]
    have hn := eq_nilRow (tblR (risR ls) (falR hs))
    have hne : (tblR (risR ls) (falR hs)).isEmpty = false := by
      cases e : tblR (risR ls) (falR hs) with
      | nil => rw [e] at hT; simp at hT; omega
      | cons a r => rfl
    rw [hne] at hn
    have hp := product_up_to (p := n) (by omega)
    have hw := whole_R (i := (fct n : Int))
    have hf : Rz 100 ((fct n : Int) : Rat) := rz_int (bd_mono (bd_fct n8) (by decide)) (by decide)
    have htm := times_R (x := ((fct n : Int) : Rat)) (y := fdR N (gI N (falR hs)) (gI N (risR ls)) n) (hf.mono (by decide)) ((b.rzf (Nat.le_refl n)).mono (by decide))
    have ev : ((fct n : Int) : Rat) * fdR N (gI N (falR hs)) (gI N (risR ls)) n = ((DB (gI N (falR hs)) (gI N (risR ls)) n : Int) : Rat) / ((N ^ n : Int) : Rat) := by
      unfold fdR
      have p1 := ratI_ne (fct_posI n)
      have p2 := ratI_ne (b.np n)
      rw [Rat.intCast_mul]
      have := frac_eq (a := ((fct n : Int) : Rat)) (b := 1) (c := ((DB (gI N (falR hs)) (gI N (risR ls)) n : Int) : Rat)) (d := ((fct n : Int) : Rat) * ((N ^ n : Int) : Rat)) (e := ((DB (gI N (falR hs)) (gI N (risR ls)) n : Int) : Rat)) (f := ((N ^ n : Int) : Rat)) (by decide) (rne p1 p2) p2 (by grind)
      rw [← this]; grind
    rw [ev] at htm
    have hlen : ((tblR (risR ls) (falR hs)).map rowR).length = n := by rw [List.length_map, hT]
    generalize tblR (risR ls) (falR hs) = T at *
    generalize fdR N (gI N (falR hs)) (gI N (risR ls)) n = v at *
    generalize ((DB (gI N (falR hs)) (gI N (risR ls)) n : Int) : Rat) / ((N ^ n : Int) : Rat) = z at *
    walk_at "fn"
    unfold e_chance_of
    walk_at "ev"
    refine wrp (ht) rfl rfl rfl ?_
    walk_at "ev"
    refine ex2 rfl rfl hn ?_
    walk_at "ev"
    rw [hlen]
    walk_at "ev"
    refine wrp (hp) rfl rfl rfl ?_
    walk_at "ev"
    refine wrp (hw) rfl rfl rfl ?_
    walk_at "ev"
    refine wrp (hd) rfl rfl rfl ?_
    walk_at "ev"
    refine wrp (htm) rfl rfl rfl ?_
    walk_at "ev"
    exact ⟨_, .inl rfl, rfl, rfl⟩
theorem box_chance {n : Nat} {ls hs : List Rat} {N : Int} (h : Bx n ls hs) (b : Bz n (risR ls) (falR hs) N) : d_box_chance [.fz (boxR ls hs)] = some (qR (boxVal N (risR ls) (falR hs) n), [.fz (boxR ls hs)]) := by
  suffices H : Wf d_box_chance [.fz (boxR ls hs)] fun r o => r = qR (boxVal N (risR ls) (falR hs) n) ∧ o = [.fz (boxR ls hs)] by
    obtain ⟨r, o, e, rfl, rfl⟩ := H; exact e
  have h1 := check_box h
  have h2 := chance_of h b
  walk_at "fn"
  unfold e_box_chance
  walk_at "ev"
  refine wrp (h1) rfl rfl rfl ?_
  walk_at "ev"
  refine wrp (h2) rfl rfl rfl ?_
  walk_at "ev"
  exact ⟨_, .inl rfl, rfl, rfl⟩

theorem box_table_eq {n : Nat} {ls hs : List Rat} (h : Bx n ls hs) : d_box_table [.fz (boxR ls hs)] = some (if ltsB (risR ls) (falR hs) = true then .tup ((tblR (risR ls) (falR hs)).map rowR) else .non, [.fz (boxR ls hs)]) := by
  suffices H : Wf d_box_table [.fz (boxR ls hs)] fun r o => r = (if ltsB (risR ls) (falR hs) = true then .tup ((tblR (risR ls) (falR hs)).map rowR) else .non) ∧ o = [.fz (boxR ls hs)] by
    obtain ⟨r, o, e, rfl, rfl⟩ := H; exact e
  have h1 := check_box h
  have h2 := table_of h
  have n1 := h.n1
  have hT : (tblR (risR ls) (falR hs)).length = n := by unfold tblR; rw [List.length_map, List.length_range, risR_len, h.ll]
  have hn := eq_nilRow (tblR (risR ls) (falR hs))
  have hne : (tblR (risR ls) (falR hs)).isEmpty = false := by
    cases e : tblR (risR ls) (falR hs) with
    | nil => rw [e] at hT; simp at hT; omega
    | cons a r => rfl
  rw [hne] at hn
  cases hl : ltsB (risR ls) (falR hs) with
  | false =>
    rw [hl] at h2
    simp only [Bool.false_eq_true, if_false] at h2 ⊢
    walk_at "fn"
    unfold e_box_table
    walk_at "ev"
    refine wrp (h1) rfl rfl rfl ?_
    walk_at "ev"
    refine wrp (h2) rfl rfl rfl ?_
    walk_at "ev"
    exact ⟨_, .inl rfl, rfl, rfl⟩
  | true =>
    rw [hl] at h2
    simp only [if_true] at h2 ⊢
    generalize (tblR (risR ls) (falR hs)).map rowR = T at *
    walk_at "fn"
    unfold e_box_table
    walk_at "ev"
    refine wrp (h1) rfl rfl rfl ?_
    walk_at "ev"
    refine wrp (h2) rfl rfl rfl ?_
    walk_at "ev"
    refine ex2 rfl rfl hn ?_
    walk_at "ev"
    exact ⟨_, .inl rfl, rfl, rfl⟩
theorem plain_box_eq {n : Nat} {ls hs : List Rat} (h : Bx n ls hs) : d_plain_box [.fz (boxR ls hs)] = some (.tup [rowR (risR ls), rowR (falR hs)], [.fz (boxR ls hs)]) := by
  suffices H : Wf d_plain_box [.fz (boxR ls hs)] fun r o => r = .tup [rowR (risR ls), rowR (falR hs)] ∧ o = [.fz (boxR ls hs)] by
    obtain ⟨r, o, e, rfl, rfl⟩ := H; exact e
  have h1 := check_box h
  have h2 := plain_of h.bl h.bh (by have := h.n8; rw [h.ll]; omega) (by have := h.n8; rw [h.lh]; omega)
  generalize D.tup [rowR (risR ls), rowR (falR hs)] = v at *
  walk_at "fn"
  unfold e_plain_box
  walk_at "ev"
  refine wrp (h1) rfl rfl rfl ?_
  walk_at "ev"
  refine wrp (h2) rfl rfl rfl ?_
  walk_at "ev"
  exact ⟨_, .inl rfl, rfl, rfl⟩
namespace P14x7
end P14x7
inductive Stop (P : Prop) : Prop | mk (h : P) | no (h : False)
theorem Stop.get {P : Prop} : Stop P → P | .mk h => h | .no h => h.elim
theorem ixn {n i : Nat} (h : i < n) : L2.ixN n (i : Int) = some i := by
  unfold L2.ixN
  rw [if_pos (by omega), if_pos (by omega)]
  simp
/-! drawn boxes -/
structure Sx (B : Nat) (x : Rat) : Prop where
  s0 : 0 ≤ x
  s1 : x ≤ 1
  d : x.den ∣ B
theorem Sx.mono {B C : Nat} {x : Rat} (h : Sx B x) (hd : B ∣ C) : Sx C x := ⟨h.s0, h.s1, Nat.dvd_trans h.d hd⟩
theorem Sx.rz {B : Nat} {x : Rat} (h : Sx B x) (h0 : 0 < B) (hB : B < 2 ^ 40) : Rz 60 x := by
  have h1 := Nat.le_of_dvd h0 h.d
  have h2 := num_le h.s1
  have h3 := num_nonneg.mpr h.s0
  refine ⟨?_, ?_⟩ <;> unfold Bd <;> simp <;> omega
theorem sx_frac {a b : Nat} (hb : 0 < b) (hab : a ≤ b) : Sx b ((a : Rat) / (b : Rat)) := by
  have hbr : (0 : Rat) < (b : Rat) := by exact_mod_cast hb
  have har : (0 : Rat) ≤ (a : Rat) := by exact_mod_cast Nat.zero_le a
  have habr : (a : Rat) ≤ (b : Rat) := by exact_mod_cast hab
  refine ⟨?_, ?_, ?_⟩
  · rw [Rat.div_def]
    exact Rat.mul_nonneg har (Rat.le_of_lt (Rat.inv_pos.mpr hbr))
  · have h := Rat.mul_nonneg (show (0 : Rat) ≤ (b : Rat) - a by grind) (Rat.le_of_lt (Rat.inv_pos.mpr hbr))
    rw [Rat.div_def]
    grind
  · have e := redq_R (a := (a : Int)) (b := (b : Int)) (by omega)
    have e2 : (((a : Int) : Rat) / ((b : Int) : Rat)) = (a : Rat) / (b : Rat) := rfl
    rw [e2] at e
    have h2 : ((((a : Rat) / (b : Rat)).den : Nat) : Int) = (b : Int) / ((Nat.gcd a b : Nat) : Int) := (congrArg Prod.snd e).symm
    have h3 : ((a : Rat) / (b : Rat)).den = b / Nat.gcd a b := by exact_mod_cast h2
    rw [h3]
    exact Nat.div_dvd_of_dvd (Nat.gcd_dvd_right a b)
theorem law_ratio_N {a b : Nat} (hb : 0 < b) (h1 : a < 2 ^ 50) (h2 : b < 2 ^ 50) : d_f_law_ratio [.fz (.int (a : Int)), .fz (.int (b : Int))] = some (qR ((a : Rat) / (b : Rat)), [.fz (.int (a : Int)), .fz (.int (b : Int))]) := by
  have h := ratio_eq (a := (a : Int)) (b := (b : Int)) (by omega) (bd_mono (show Bd (b : Int) 50 by unfold Bd; simp; omega) (by decide)) (bd_mono (show Bd (a : Int) 50 by unfold Bd; simp; omega) (by decide))
  rw [redq_R (by omega)] at h
  exact h
def fracs (b : Nat) (l : List Nat) : List Rat := l.map fun (a : Nat) => (a : Rat) / (b : Rat)
theorem box_ok {k n : Nat} {u0 : List D} (g : GU (k + 2 * n + 10) u0) (n1 : 1 ≤ n) (n8 : n ≤ 8) : Wf d_f_law_box [.bo u0, .fz (.int n)] fun r o => ∃ (b : Nat) (lo hi : List Nat) (u' : List D), r = boxR (fracs b lo) (fracs b hi) ∧ 1 ≤ b ∧ b ≤ 12 ∧ lo.length = n ∧ hi.length = n ∧ (∀ x ∈ lo, x ≤ b) ∧ (∀ x ∈ hi, x ≤ b) ∧ GU k u' ∧ o = [.bo u', .fz (.int n)] := by
  walk_at "fn"
  unfold e_f_law_box
  walk_at "ev"
  refine wru ((draw_ok (k := k + 2 * n + 9) g (by decide) (by decide)).imp ?_) rfl rfl
  rintro _ _ ⟨bb, u1, rfl, hb0, hb1, g1, rfl⟩
  refine ⟨_, rfl, ?_⟩
  walk_at "nm"
  obtain ⟨b, hb, hb2, hb12⟩ : ∃ b : Nat, 2 + bb = (b : Int) ∧ 2 ≤ b ∧ b ≤ 12 := ⟨(2 + bb).toNat, by omega, by omega, by omega⟩
  walk_at "ev"
  rw [hb, Int.toNat_natCast]
  refine w_loop (Rt := fun _ _ => False) (fun i δ => ∃ (u : List D) (lo hi : List Nat) (y5 y6 : Option Sl), δ = [some (.bo u), some (.fz (.int n)), some (.fz (.int b)), some (.ow (lo.map fun (x : Nat) => D.int (x : Int))), some (.ow (hi.map fun (x : Nat) => D.int (x : Int))), y5, y6, none] ∧ lo.length = i ∧ hi.length = i ∧ (∀ x ∈ lo, x ≤ b) ∧ (∀ x ∈ hi, x ≤ b) ∧ GU (k + 2 * (n - i) + 9) u ∧ NB y5 ∧ NB y6) ⟨u1, [], [], none, none, rfl, rfl, rfl, fun _ h => (nomatch h), fun _ h => (nomatch h), g1.mono (by omega), trivial, trivial⟩ (fun i z δ1 hz hI => ?_) (fun δ1 hI => ?_) (fun _ _ h => h.elim)
  · obtain ⟨u, lo, hi, y5, y6, rfl, ll, lh, hl, hh, g, m5, m6⟩ := hI
    obtain ⟨hi', rfl⟩ := rng_get hz
    rw [Int.zero_add]
    obtain ⟨at', hat, hat1⟩ : ∃ a : Nat, ((b : Int) * ((i : Int) + 1)).fdiv ((n : Int) + 1) = (a : Int) ∧ a < b := by
      refine ⟨b * (i + 1) / (n + 1), ?_, ?_⟩
      · rw [Int.fdiv_eq_ediv_of_nonneg _ (by omega)]
        push_cast; rfl
      · rw [Nat.div_lt_iff_lt_mul (by omega)]
        exact Nat.mul_lt_mul_of_pos_left (by omega) (by omega)
    have m1 : mulOk (b : Int) ((i : Int) + 1) = true := mulOk_bd (bd_lit 10 100 (by omega) (by decide)) (bd_lit 10 100 (by omega) (by decide)) (by decide)
    have d1 : divOk ((b : Int) * ((i : Int) + 1)) ((n : Int) + 1) = true := divOk_bd (bd_lit 10 100 (by omega) (by decide)) (by omega) (by decide)
    walk_at "ev"
    rw [hat]
    walk_at "ev"
    refine wru ((draw_ok (k := k + 2 * (n - i) + 8) g (by omega) (by omega)).imp ?_) rfl rfl
    rintro _ _ ⟨x, u2, rfl, hx0, hx1, g2, rfl⟩
    obtain ⟨xn, rfl⟩ := Int.eq_ofNat_of_zero_le hx0
    refine ⟨_, rfl, ?_⟩
    walk_at "nm"
    walk_at "ev"
    refine ⟨_, _, _, _, _, _, rfl, rfl, rfl, app_small (by rw [List.length_map]; omega), ?_⟩
    walk_at "ev"
    refine wru ((draw_ok (k := k + 2 * (n - (i + 1)) + 9) (g2.mono (by omega)) (by omega) (by omega)).imp ?_) rfl rfl
    rintro _ _ ⟨y, u3, rfl, hy0, hy1, g3, rfl⟩
    refine ⟨_, rfl, ?_⟩
    walk_at "nm"
    obtain ⟨yn, hyn, hyb⟩ : ∃ m : Nat, (at' : Int) + 1 + y = (m : Int) ∧ m ≤ b := ⟨((at' : Int) + 1 + y).toNat, by omega, by omega⟩
    walk_at "ev"
    rw [hyn]
    refine ⟨_, _, _, _, _, _, rfl, rfl, rfl, app_small (by rw [List.length_map]; omega), ?_⟩
    walk_at "ev"
    exact .inl ⟨by first | rfl | trivial, u3, lo ++ [xn], hi ++ [yn], _, _, by rw [List.map_append, List.map_append]; rfl, by simp [ll], by simp [lh], fun z hz => (List.mem_append.mp hz).elim (hl z) (fun q => by rw [List.mem_singleton.mp q]; omega), fun z hz => (List.mem_append.mp hz).elim (hh z) (fun q => by rw [List.mem_singleton.mp q]; exact hyb), g3, nb_fz, nb_fz⟩
  · obtain ⟨u, lo, hi, y5, y6, rfl, ll, lh, hl, hh, g, m5, m6⟩ := hI
    rw [rng_len] at ll lh g
    have fin : ∀ (u : List D) (lo hi : List Nat), lo.length = n → hi.length = n → (∀ x ∈ lo, x ≤ b) → (∀ x ∈ hi, x ≤ b) → GU k u → W (retS (tupO (consA (callN tupleD (consA (nO (lcL 3 (nameG 7) (yesT) (callD d_f_law_ratio (consA (vO 7) (consA (vO 2) (nilA)))) [7])) (nilA))) (consA (callN tupleD (consA (nO (lcL 4 (nameG 7) (yesT) (callD d_f_law_ratio (consA (vO 7) (consA (vO 2) (nilA)))) [7])) (nilA))) (nilA)))))
        [some (.bo u), some (.fz (.int n)), some (.fz (.int b)), some (.ow (lo.map fun (x : Nat) => D.int (x : Int))), some (.ow (hi.map fun (x : Nat) => D.int (x : Int))), y5, y6, none] (fun fl δ' => ∃ r, (fl = .rt r ∨ fl = .nx ∧ r = .non ∨ ∃ ds, fl = .rn ds ∧ r = .lst ds) ∧ ∃ (b : Nat) (lo hi : List Nat) (u' : List D), r = boxR (fracs b lo) (fracs b hi) ∧ 1 ≤ b ∧ b ≤ 12 ∧ lo.length = n ∧ hi.length = n ∧ (∀ x ∈ lo, x ≤ b) ∧ (∀ x ∈ hi, x ≤ b) ∧ GU k u' ∧ outS 2 δ' = [.bo u', .fz (.int n)]) := fun u lo hi ll lh hl hh g => by
      have hF : ∀ l : List Nat, (l.map fun (x : Nat) => D.int (x : Int)).filterMap (fun d => match d with | .int a => some (qR (((a.toNat : Nat) : Rat) / (b : Rat))) | _ => none) = (fracs b l).map qR := fun l => by
        unfold fracs
        rw [List.filterMap_map, List.map_map, ← fm_map]
        refine fm_congr fun x _ => ?_
        show some (qR ((((x : Int).toNat : Nat) : Rat) / (b : Rat))) = _
        rw [Int.toNat_natCast]; rfl
      walk_at "ev"
      refine w_lcL (F := fun d => match d with | .int a => some (qR (((a.toNat : Nat) : Rat) / (b : Rat))) | _ => none) rfl rfl (len_ok (by rw [List.length_map]; omega)) (fun d hd => ?_) ?_
      · obtain ⟨x, hx, rfl⟩ := List.mem_map.mp hd
        have hr := law_ratio_N (a := x) (b := b) (by omega) (by have := hl x hx; omega) (by omega)
        clear hF
        walk_at "ev"
        refine wrp (hr) rfl rfl rfl ?_
        walk_at "ev"
        exact ⟨by show some (qR ((((x : Int).toNat : Nat) : Rat) / (b : Rat))) = _; rw [Int.toNat_natCast], rfl⟩
      · rw [hF]
        walk_at "ev"
        refine w_lcL (F := fun d => match d with | .int a => some (qR (((a.toNat : Nat) : Rat) / (b : Rat))) | _ => none) rfl rfl (len_ok (by rw [List.length_map]; omega)) (fun d hd => ?_) ?_
        · obtain ⟨x, hx, rfl⟩ := List.mem_map.mp hd
          have hr := law_ratio_N (a := x) (b := b) (by omega) (by have := hh x hx; omega) (by omega)
          clear hF
          walk_at "ev"
          refine wrp (hr) rfl rfl rfl ?_
          walk_at "ev"
          exact ⟨by show some (qR ((((x : Int).toNat : Nat) : Rat) / (b : Rat))) = _; rw [Int.toNat_natCast], rfl⟩
        · rw [hF]
          walk_at "ev"
          exact ⟨_, .inl rfl, b, lo, hi, u, rfl, by omega, hb12, ll, lh, hl, hh, g, rfl⟩
    have setN : ∀ (l : List Nat) (j v : Nat), (l.map fun (x : Nat) => D.int (x : Int)).set j (.int (v : Int)) = (l.set j v).map fun (x : Nat) => D.int (x : Int) := fun l j v => by rw [List.map_set]
    have memS : ∀ (l : List Nat) (j v : Nat), (∀ x ∈ l, x ≤ b) → v ≤ b → ∀ x ∈ l.set j v, x ≤ b := fun l j v h hv x hx => by
      rcases List.mem_or_eq_of_mem_set hx with q | rfl
      · exact h x q
      · exact hv
    have sndI : ∀ (u : List D) (lo hi : List Nat), lo.length = n → hi.length = n → (∀ x ∈ lo, x ≤ b) → (∀ x ∈ hi, x ≤ b) → GU (k + 3) u → W (ifS (blT (bin2 eqD (callD d_f_law_draw (consA (vO 0) (consA (cO (.int 4)) (nilA)))) (cO (.int 0)))) (asgS (callD d_f_law_draw (consA (vO 0) (consA (bin2 addD (vO 2) (cO (.int 1))) (nilA)))) (subG 4 (callD d_f_law_draw (consA (vO 0) (consA (vO 1) (nilA)))))) (nxS))
        [some (.bo u), some (.fz (.int n)), some (.fz (.int b)), some (.ow (lo.map fun (x : Nat) => D.int (x : Int))), some (.ow (hi.map fun (x : Nat) => D.int (x : Int))), y5, y6, none] (fun fl δ' => Stop (fl = .nx ∧ ∃ (u : List D) (hi : List Nat), hi.length = n ∧ (∀ x ∈ hi, x ≤ b) ∧ GU k u ∧ δ' = [some (.bo u), some (.fz (.int n)), some (.fz (.int b)), some (.ow (lo.map fun (x : Nat) => D.int (x : Int))), some (.ow (hi.map fun (x : Nat) => D.int (x : Int))), y5, y6, none])) := fun u lo hi ll lh hl hh g => by
      walk_at "ev"
      refine wru ((draw_ok (k := k + 2) g (by decide) (by decide)).imp ?_) rfl rfl
      rintro _ _ ⟨e0, u1, rfl, p0, p1, g1, rfl⟩
      refine ⟨_, rfl, ?_⟩
      walk_at "nm"
      walk_at "ev"
      refine ⟨fun _ => ?_, fun _ => ?_⟩
      · walk_at "ev"
        refine wru ((draw_ok (k := k + 1) g1 (by omega) (by omega)).imp ?_) rfl rfl
        rintro _ _ ⟨v, u2, rfl, q0, q1, g2, rfl⟩
        obtain ⟨v, rfl⟩ := Int.eq_ofNat_of_zero_le q0
        refine ⟨_, rfl, ?_⟩
        walk_at "nm"
        walk_at "ev"
        refine wru ((draw_ok (k := k) g2 (by omega) (by omega)).imp ?_) rfl rfl
        rintro _ _ ⟨j, u3, rfl, r0, r1, g3, rfl⟩
        obtain ⟨j, rfl⟩ := Int.eq_ofNat_of_zero_le r0
        refine ⟨_, rfl, ?_⟩
        walk_at "nm"
        walk_at "ev"
        refine ⟨_, _, _, _, rfl, rfl, rfl, ixn (by rw [List.length_map]; omega), ?_⟩
        refine .mk ⟨by first | rfl | trivial, u3, hi.set j v, by rw [List.length_set, lh], memS _ _ _ hh (by omega), g3, ?_⟩
        rw [setN]
      · walk_at "ev"
        exact .mk ⟨rfl, u1, hi, lh, hh, g1.mono (by omega), rfl⟩
    have fstI : W (ifS (blT (bin2 eqD (callD d_f_law_draw (consA (vO 0) (consA (cO (.int 4)) (nilA)))) (cO (.int 0)))) (asgS (callD d_f_law_draw (consA (vO 0) (consA (bin2 addD (vO 2) (cO (.int 1))) (nilA)))) (subG 3 (callD d_f_law_draw (consA (vO 0) (consA (vO 1) (nilA)))))) (nxS))
        [some (.bo u), some (.fz (.int n)), some (.fz (.int b)), some (.ow (lo.map fun (x : Nat) => D.int (x : Int))), some (.ow (hi.map fun (x : Nat) => D.int (x : Int))), y5, y6, none] (fun fl δ' => Stop (fl = .nx ∧ ∃ (u : List D) (lo : List Nat), lo.length = n ∧ (∀ x ∈ lo, x ≤ b) ∧ GU (k + 3) u ∧ δ' = [some (.bo u), some (.fz (.int n)), some (.fz (.int b)), some (.ow (lo.map fun (x : Nat) => D.int (x : Int))), some (.ow (hi.map fun (x : Nat) => D.int (x : Int))), y5, y6, none])) := by
      walk_at "ev"
      refine wru ((draw_ok (k := k + 5) (g.mono (by omega)) (by decide) (by decide)).imp ?_) rfl rfl
      rintro _ _ ⟨e0, u1, rfl, p0, p1, g1, rfl⟩
      refine ⟨_, rfl, ?_⟩
      walk_at "nm"
      walk_at "ev"
      refine ⟨fun _ => ?_, fun _ => ?_⟩
      · walk_at "ev"
        refine wru ((draw_ok (k := k + 4) g1 (by omega) (by omega)).imp ?_) rfl rfl
        rintro _ _ ⟨v, u2, rfl, q0, q1, g2, rfl⟩
        obtain ⟨v, rfl⟩ := Int.eq_ofNat_of_zero_le q0
        refine ⟨_, rfl, ?_⟩
        walk_at "nm"
        walk_at "ev"
        refine wru ((draw_ok (k := k + 3) g2 (by omega) (by omega)).imp ?_) rfl rfl
        rintro _ _ ⟨j, u3, rfl, r0, r1, g3, rfl⟩
        obtain ⟨j, rfl⟩ := Int.eq_ofNat_of_zero_le r0
        refine ⟨_, rfl, ?_⟩
        walk_at "nm"
        walk_at "ev"
        refine ⟨_, _, _, _, rfl, rfl, rfl, ixn (by rw [List.length_map]; omega), ?_⟩
        refine .mk ⟨by first | rfl | trivial, u3, lo.set j v, by rw [List.length_set, ll], memS _ _ _ hl (by omega), g3, ?_⟩
        rw [setN]
      · walk_at "ev"
        exact .mk ⟨rfl, u1, lo, ll, hl, g1.mono (by omega), rfl⟩
    refine seqP_nx (w_seq (fstI.imp fun fl δ' h => ?_))
    obtain ⟨rfl, u', lo', ll', hl', g', rfl⟩ := h.get
    refine seqP_nx (w_seq ((sndI u' lo' hi ll' lh hl' hh g').imp fun fl δ' h => ?_))
    obtain ⟨rfl, u'', hi', lh', hh', g'', rfl⟩ := h.get
    exact seqP_nx (fin u'' lo' hi' ll' lh' hl' hh' g'')
namespace P14x8
end P14x8
/-! the law's plain form, its entries -/
theorem law_ratio_R {a b : Int} (h0 : 0 < b) (hb : Bd b 8000) (ha : Bd a 8000) : d_f_law_ratio [.fz (.int a), .fz (.int b)] = some (qR ((a : Rat) / (b : Rat)), [.fz (.int a), .fz (.int b)]) := by
  rw [ratio_eq h0 hb ha, redq_R h0]; rfl
theorem law_plus_R {x y : Rat} (hx : Rz 3000 x) (hy : Rz 3000 y) : d_f_law_plus [.fz (qR x), .fz (qR y)] = some (qR (x + y), [.fz (qR x), .fz (qR y)]) := by
  suffices H : Wf d_f_law_plus [.fz (qR x), .fz (qR y)] fun r o => r = qR (x + y) ∧ o = [.fz (qR x), .fz (qR y)] by
    obtain ⟨r, o, e, rfl, rfl⟩ := H; exact e
  have h1 := hx.b1
  have h2 := hx.b2
  have h3 := hy.b1
  have h4 := hy.b2
  have hl := ratio_eq (a := x.num * (y.den : Int) + y.num * (x.den : Int)) (b := (x.den : Int) * (y.den : Int)) (Int.mul_pos (den_pos x) (den_pos y)) (bd_mono (bd_mul h2 h4) (by decide)) (bd_mono (bd_add1 (bd_mul h1 h4) (bd_mul h3 h2)) (by decide))
  rw [red_add] at hl
  walk_at "fn"
  unfold e_f_law_plus
  walk_at "ev"
  refine wrp (hl) rfl rfl rfl ?_
  walk_at "ev"
  walk_at "ev"
  walk_at "rt"
  exact ⟨rfl, rfl⟩
theorem law_below_R {x y : Rat} (hx : Rz 3000 x) (hy : Rz 3000 y) : d_f_law_below [.fz (qR x), .fz (qR y)] = some (.bl (decide (x < y)), [.fz (qR x), .fz (qR y)]) := by
  suffices H : Wf d_f_law_below [.fz (qR x), .fz (qR y)] fun r o => r = .bl (decide (x < y)) ∧ o = [.fz (qR x), .fz (qR y)] by
    obtain ⟨r, o, e, rfl, rfl⟩ := H; exact e
  have h1 := hx.b1
  have h2 := hx.b2
  have h3 := hy.b1
  have h4 := hy.b2
  rw [← lt_R]
  walk_at "fn"
  unfold e_f_law_below
  walk_at "ev"
  walk_at "ev"
  walk_at "rt"
  exact ⟨rfl, rfl⟩
theorem ne_nilR (q : List Rat) : neD (.lst (q.map qR)) (.lst []) = some (.bl (!q.isEmpty)) := by
  rw [ne_nil (shp_lR 58 q)]
  cases q <;> rfl
theorem law_times_R {x y : Rat} (hx : Rz 3000 x) (hy : Rz 3000 y) : d_f_law_times [.fz (qR x), .fz (qR y)] = some (qR (x * y), [.fz (qR x), .fz (qR y)]) := by
  suffices H : Wf d_f_law_times [.fz (qR x), .fz (qR y)] fun r o => r = qR (x * y) ∧ o = [.fz (qR x), .fz (qR y)] by
    obtain ⟨r, o, e, rfl, rfl⟩ := H; exact e
  have h1 := hx.b1
  have h2 := hx.b2
  have h3 := hy.b1
  have h4 := hy.b2
  have hl := ratio_eq (a := x.num * y.num) (b := (x.den : Int) * (y.den : Int)) (Int.mul_pos (den_pos x) (den_pos y)) (bd_mono (bd_mul h2 h4) (by decide)) (bd_mono (bd_mul h1 h3) (by decide))
  rw [red_mul] at hl
  walk_at "fn"
  unfold e_f_law_times
  walk_at "ev"
  refine wrp (hl) rfl rfl rfl ?_
  walk_at "ev"
  walk_at "ev"
  walk_at "rt"
  exact ⟨rfl, rfl⟩
theorem mx_swap (x y : Rat) : mxR x y = if y < x then x else y := by
  unfold mxR
  by_cases h : x < y
  · rw [if_pos h, if_neg (by grind)]
  · rw [if_neg h]
    by_cases h2 : y < x
    · rw [if_pos h2]
    · rw [if_neg h2]; grind
theorem mn_swap (x y : Rat) : mnR x y = if x < y then x else y := by
  unfold mnR
  by_cases h : y < x
  · rw [if_pos h, if_neg (by grind)]
  · rw [if_neg h]
    by_cases h2 : x < y
    · rw [if_pos h2]
    · rw [if_neg h2]; grind
theorem accS_ne {f : Rat → Rat → Rat} {q : List Rat} {x y : Rat} (h : q.getLast? = some y) : accS f q x = q ++ [f y x] := by unfold accS; rw [h]
theorem law_plain_eq {n : Nat} {ls hs : List Rat} (h : Bx n ls hs) : d_f_law_plain [.fz (boxR ls hs)] = some (.tup [rowR (risR ls), rowR (falR hs)], [.fz (boxR ls hs)]) := by
  suffices H : Wf d_f_law_plain [.fz (boxR ls hs)] fun r o => r = .tup [rowR (risR ls), rowR (falR hs)] ∧ o = [.fz (boxR ls hs)] by
    obtain ⟨r, o, e, rfl, rfl⟩ := H; exact e
  have ll := h.ll
  have lh := h.lh
  have n8 := h.n8
  have hbl := h.bl
  have hbh := h.bh
  have hrl : hs.reverse.length = n := by rw [List.length_reverse, lh]
  unfold boxR
  have i0 : ∀ u v : D, ixD (.tup [u, v]) (.int 0) = some u := fun _ _ => rfl
  have i1 : ∀ u v : D, ixD (.tup [u, v]) (.int 1) = some v := fun _ _ => rfl
  have hln : lenD [rowR ls] = some (.int (n : Int)) := by show some (D.int ((ls.map qR).length : Int)) = _; rw [List.length_map, ll]
  walk_at "fn"
  unfold e_f_law_plain
  walk_at "ev"
  rw [List.length_map, ll, Int.toNat_natCast]
  refine ⟨⟨by omega, by omega⟩, ?_⟩
  refine w_loop (Rt := fun _ _ => False) (fun k δ => ∃ (y3 y4 y5 : Option Sl), δ = [some (.fz (.tup [rowR ls, rowR hs])), some (.ow ((accR mxR (ls.take k)).map qR)), some (.ow ((accR mnR (hs.reverse.take k)).map qR)), y3, y4, y5] ∧ NB y3 ∧ NB y4 ∧ NB y5) ⟨none, none, none, rfl, trivial, trivial, trivial⟩ (fun k z δ1 hz hI => ?_) (fun δ1 hI => ?_) (fun _ _ h => h.elim)
  · obtain ⟨y3, y4, y5, rfl, m3, m4, m5⟩ := hI
    obtain ⟨hk, rfl⟩ := rng_get hz
    rw [Int.zero_add]
    have hx := getD_at (L := ls) (c := k) (by omega)
    have hy0 := getD_at (L := hs) (c := n - 1 - k) (by omega)
    have hy : hs.reverse[k]? = some (hs.getD (n - 1 - k) 0) := by rw [List.getElem?_reverse (by omega), lh]; exact hy0
    have bx := hbl _ (List.mem_of_getElem? hx)
    have by' := hbh _ (List.mem_of_getElem? hy0)
    have ix := ix_at qR hx
    have iy := ix_at qR hy0
    rw [show ((n - 1 - k : Nat) : Int) = (n : Int) - 1 - (k : Int) by omega] at iy
    have lA := accR_len mxR k (show k ≤ ls.length by omega)
    have lB := accR_len mnR k (show k ≤ hs.reverse.length by omega)
    have mA := accR_mem mxR_or k (show k ≤ ls.length by omega)
    have mB := accR_mem mnR_or k (show k ≤ hs.reverse.length by omega)
    rw [accR_take mxR hx, accR_take mnR hy]
    have nA := ne_nilR (accR mxR (ls.take k))
    have nB := ne_nilR (accR mnR (hs.reverse.take k))
    rw [accR_nil (by omega)] at nA nB
    generalize hx0 : ls.getD k 0 = x at *
    generalize hy00 : hs.getD (n - 1 - k) 0 = y at *
    have szA : ∀ v, appM ((accR mxR (ls.take k)).map qR) [v] = some (.non, (accR mxR (ls.take k)).map qR ++ [v]) := fun v => app_small (by rw [List.length_map]; omega)
    have szB : ∀ v, appM ((accR mnR (hs.reverse.take k)).map qR) [v] = some (.non, (accR mnR (hs.reverse.take k)).map qR ++ [v]) := fun v => app_small (by rw [List.length_map]; omega)
    generalize accR mxR (ls.take k) = A at *
    generalize accR mnR (hs.reverse.take k) = B at *
    by_cases hk0 : k = 0
    · have eA : A = [] := List.eq_nil_of_length_eq_zero (by omega)
      have eB : B = [] := List.eq_nil_of_length_eq_zero (by omega)
      have fA : accS mxR A x = A ++ [x] := by unfold accS; rw [eA]; rfl
      have fB : accS mnR B y = B ++ [y] := by unfold accS; rw [eB]; rfl
      rw [fA, fB]
      rw [decide_eq_true hk0] at nA nB
      clear hx hy hy0 eA eB fA fB mA mB hbl hbh
      unfold rowR at *
      walk_at "ev"
      refine ex2 rfl rfl ix ?_
      walk_at "ev"
      rw [List.length_map, ll]
      refine ex2 rfl rfl iy ?_
      walk_at "ev"
      refine ex2 rfl rfl nA ?_
      walk_at "ev"
      refine ⟨_, _, _, _, _, _, rfl, rfl, rfl, szA _, ?_⟩
      walk_at "ev"
      refine ex2 rfl rfl nB ?_
      walk_at "ev"
      refine ⟨_, _, _, _, _, _, rfl, rfl, rfl, szB _, ?_⟩
      walk_at "ev"
      exact .inl ⟨rfl, _, _, _, by rw [List.map_append, List.map_append]; rfl, nb_fz, nb_fz, nb_fz⟩
    · obtain ⟨p, hp⟩ : ∃ p, A.getLast? = some p := by
        cases e : A.getLast? with
        | none => rw [List.getLast?_eq_none_iff] at e; rw [e] at lA; simp at lA; omega
        | some p => exact ⟨p, rfl⟩
      obtain ⟨s, hs'⟩ : ∃ s, B.getLast? = some s := by
        cases e : B.getLast? with
        | none => rw [List.getLast?_eq_none_iff] at e; rw [e] at lB; simp at lB; omega
        | some p => exact ⟨p, rfl⟩
      have bp := hbl p (mA p (List.mem_of_getLast? hp))
      have bs := hbh s (List.mem_reverse.mp (mB s (List.mem_of_getLast? hs')))
      have wA := law_below_R (x := x) (y := p) (bx.mono (by decide)) (bp.mono (by decide))
      have wB := law_below_R (x := s) (y := y) (bs.mono (by decide)) (by'.mono (by decide))
      have ilA := last_R hp
      have ilB := last_R hs'
      rw [accS_ne hp, accS_ne hs', mx_swap, mn_swap]
      rw [decide_eq_false hk0] at nA nB
      clear hx hy hy0 mA mB hbl hbh hp hs'
      unfold rowR at *
      cases c1 : decide (x < p) with
      | true =>
        rw [c1] at wA
        rw [if_pos (of_decide_eq_true c1)]
        cases c2 : decide (s < y) with
        | true =>
          rw [c2] at wB
          rw [if_pos (of_decide_eq_true c2)]
          walk_at "ev"
          refine ex2 rfl rfl ix ?_
          walk_at "ev"
          rw [List.length_map, ll]
          refine ex2 rfl rfl iy ?_
          walk_at "ev"
          refine ex2 rfl rfl nA ?_
          walk_at "ev"
          refine ex2 rfl rfl ilA ?_
          walk_at "ev"
          refine wrp (wA) rfl rfl rfl ?_
          walk_at "ev"
          refine ex2 rfl rfl ilA ?_
          walk_at "ev"
          refine ⟨_, _, _, _, _, _, rfl, rfl, rfl, szA _, ?_⟩
          walk_at "ev"
          refine ex2 rfl rfl nB ?_
          walk_at "ev"
          refine ex2 rfl rfl ilB ?_
          walk_at "ev"
          refine wrp (wB) rfl rfl rfl ?_
          walk_at "ev"
          refine ex2 rfl rfl ilB ?_
          walk_at "ev"
          refine ⟨_, _, _, _, _, _, rfl, rfl, rfl, szB _, ?_⟩
          walk_at "ev"
          exact .inl ⟨rfl, _, _, _, by rw [List.map_append, List.map_append]; rfl, nb_fz, nb_fz, nb_fz⟩
        | false =>
          rw [c2] at wB
          rw [if_neg (of_decide_eq_false c2)]
          walk_at "ev"
          refine ex2 rfl rfl ix ?_
          walk_at "ev"
          rw [List.length_map, ll]
          refine ex2 rfl rfl iy ?_
          walk_at "ev"
          refine ex2 rfl rfl nA ?_
          walk_at "ev"
          refine ex2 rfl rfl ilA ?_
          walk_at "ev"
          refine wrp (wA) rfl rfl rfl ?_
          walk_at "ev"
          refine ex2 rfl rfl ilA ?_
          walk_at "ev"
          refine ⟨_, _, _, _, _, _, rfl, rfl, rfl, szA _, ?_⟩
          walk_at "ev"
          refine ex2 rfl rfl nB ?_
          walk_at "ev"
          refine ex2 rfl rfl ilB ?_
          walk_at "ev"
          refine wrp (wB) rfl rfl rfl ?_
          walk_at "ev"
          refine ⟨_, _, _, _, _, _, rfl, rfl, rfl, szB _, ?_⟩
          walk_at "ev"
          exact .inl ⟨rfl, _, _, _, by rw [List.map_append, List.map_append]; rfl, nb_fz, nb_fz, nb_fz⟩
      | false =>
        rw [c1] at wA
        rw [if_neg (of_decide_eq_false c1)]
        cases c2 : decide (s < y) with
        | true =>
          rw [c2] at wB
          rw [if_pos (of_decide_eq_true c2)]
          walk_at "ev"
          refine ex2 rfl rfl ix ?_
          walk_at "ev"
          rw [List.length_map, ll]
          refine ex2 rfl rfl iy ?_
          walk_at "ev"
          refine ex2 rfl rfl nA ?_
          walk_at "ev"
          refine ex2 rfl rfl ilA ?_
          walk_at "ev"
          refine wrp (wA) rfl rfl rfl ?_
          walk_at "ev"
          refine ⟨_, _, _, _, _, _, rfl, rfl, rfl, szA _, ?_⟩
          walk_at "ev"
          refine ex2 rfl rfl nB ?_
          walk_at "ev"
          refine ex2 rfl rfl ilB ?_
          walk_at "ev"
          refine wrp (wB) rfl rfl rfl ?_
          walk_at "ev"
          refine ex2 rfl rfl ilB ?_
          walk_at "ev"
          refine ⟨_, _, _, _, _, _, rfl, rfl, rfl, szB _, ?_⟩
          walk_at "ev"
          exact .inl ⟨rfl, _, _, _, by rw [List.map_append, List.map_append]; rfl, nb_fz, nb_fz, nb_fz⟩
        | false =>
          rw [c2] at wB
          rw [if_neg (of_decide_eq_false c2)]
          walk_at "ev"
          refine ex2 rfl rfl ix ?_
          walk_at "ev"
          rw [List.length_map, ll]
          refine ex2 rfl rfl iy ?_
          walk_at "ev"
          refine ex2 rfl rfl nA ?_
          walk_at "ev"
          refine ex2 rfl rfl ilA ?_
          walk_at "ev"
          refine wrp (wA) rfl rfl rfl ?_
          walk_at "ev"
          refine ⟨_, _, _, _, _, _, rfl, rfl, rfl, szA _, ?_⟩
          walk_at "ev"
          refine ex2 rfl rfl nB ?_
          walk_at "ev"
          refine ex2 rfl rfl ilB ?_
          walk_at "ev"
          refine wrp (wB) rfl rfl rfl ?_
          walk_at "ev"
          refine ⟨_, _, _, _, _, _, rfl, rfl, rfl, szB _, ?_⟩
          walk_at "ev"
          exact .inl ⟨rfl, _, _, _, by rw [List.map_append, List.map_append]; rfl, nb_fz, nb_fz, nb_fz⟩
  · obtain ⟨y3, y4, y5, rfl, m3, m4, m5⟩ := hI
    rw [rng_len]
    have e1 : ls.take n = ls := List.take_of_length_le (by omega)
    have e2 : hs.reverse.take n = hs.reverse := List.take_of_length_le (by omega)
    rw [e1, e2]
    walk_at "ev"
    exact ⟨_, .inl rfl, by unfold risR falR rowR; rw [List.map_reverse], rfl⟩
namespace P14x9
end P14x9
/-! an entry, the table -/
theorem rz_0 : Rz 60 0 := rz_int (i := 0) (bd_lit 60 0 (by decide) (by decide)) (by decide)
theorem rz_1 : Rz 60 1 := rz_int (i := 1) (bd_lit 60 1 (by decide) (by decide)) (by decide)
theorem entp_succ {x : Rat} (k : Nat) : x ^ k / ((fct k : Int) : Rat) * (((DL.qp x).1 : Rat) / (((DL.qp x).2 * ((k : Int) + 1) : Int) : Rat)) = x ^ (k + 1) / ((fct (k + 1) : Int) : Rat) := by
  have e := num_eq x
  have h1 : (((DL.qp x).1 : Int) : Rat) = x * (((DL.qp x).2 : Int) : Rat) := e
  have hd : (((DL.qp x).2 : Int) : Rat) ≠ 0 := ratI_ne (den_pos x)
  have hk : (((k : Int) + 1 : Int) : Rat) ≠ 0 := ratI_ne (by omega)
  have hf := ratI_ne (fct_posI k)
  have hf1 : ((fct (k + 1) : Int) : Rat) = (((k : Int) + 1 : Int) : Rat) * ((fct k : Int) : Rat) := by
    rw [← Rat.intCast_mul]
    congr 1
  rw [Rat.pow_succ, hf1, h1, Rat.intCast_mul]
  exact frac_eq hf (rne hd hk) (rne hk hf) (by grind)
theorem rz_ent {x : Rat} (hx : Rz 121 x) {k : Nat} (hk : k ≤ 8) : Rz 1200 (x ^ k / ((fct k : Int) : Rat)) := by
  have hf : Rz 100 ((fct k : Int) : Rat) := rz_int (bd_mono (bd_fct hk) (by decide)) (by decide)
  have h0 : (0 : Rat) < ((fct k : Int) : Rat) := by exact_mod_cast fct_posI k
  refine (rz_div ((rz_pow hx k).mono (show 121 * k + 1 ≤ 1000 by omega)) hf h0).mono (by decide)
theorem law_entry {h l : Rat} {k : Nat} (hh : Rz 60 h) (hl : Rz 60 l) (hk : k ≤ 8) : d_f_law_entry [.fz (qR h), .fz (qR l), .fz (.int (k : Int))] = some (qR (entR l h k), [.fz (qR h), .fz (qR l), .fz (.int (k : Int))]) := by
  suffices H : Wf d_f_law_entry [.fz (qR h), .fz (qR l), .fz (.int (k : Int))] fun r o => r = qR (entR l h k) ∧ o = [.fz (qR h), .fz (qR l), .fz (.int (k : Int))] by
    obtain ⟨r, o, e, rfl, rfl⟩ := H; exact e
  have rg : Rz 121 (h - l) := hh.sub hl
  have h1 := hh.b1
  have h2 := hh.b2
  have h3 := hl.b1
  have h4 := hl.b2
  have hr := ratio_eq (a := h.num * (l.den : Int) - l.num * (h.den : Int)) (b := (h.den : Int) * (l.den : Int)) (Int.mul_pos (den_pos h) (den_pos l)) (bd_mono (bd_mul h2 h4) (by decide)) (bd_mono (by rw [Int.sub_eq_add_neg]; exact bd_add1 (bd_mul h1 h4) (bd_neg (bd_mul h3 h2))) (by decide : max (60 + 60) (60 + 60) + 1 ≤ 8000))
  rw [red_sub] at hr
  have i0 : ∀ x : Rat, ixD (qR x) (.int 0) = some (.int (DL.qp x).1) := fun _ => rfl
  have i1 : ∀ x : Rat, ixD (qR x) (.int 1) = some (.int (DL.qp x).2) := fun _ => rfl
  have a0 := i0 h
  have a1 := i1 h
  have c0 := i0 l
  have c1 := i1 l
  have hm1 : mulOk (DL.qp h).1 (DL.qp l).2 = true := mulOk_bd h1 h4 (by decide)
  have hm2 : mulOk (DL.qp l).1 (DL.qp h).2 = true := mulOk_bd h3 h2 (by decide)
  have hm3 : mulOk (DL.qp h).2 (DL.qp l).2 = true := mulOk_bd h2 h4 (by decide)
  have hrX : d_f_law_ratio [.fz (.int ((DL.qp h).1 * (DL.qp l).2 - (DL.qp l).1 * (DL.qp h).2)), .fz (.int ((DL.qp h).2 * (DL.qp l).2))] = some (qR (h - l), [.fz (.int ((DL.qp h).1 * (DL.qp l).2 - (DL.qp l).1 * (DL.qp h).2)), .fz (.int ((DL.qp h).2 * (DL.qp l).2))]) := hr
  have gt := gt_R0 (x := h - l)
  unfold entR
  generalize h - l = x at *
  have b0 := i0 x
  have b1 := i1 x
  clear i0 i1
  have bx1 : Bd (DL.qp x).1 121 := rg.b1
  have bx2 : Bd (DL.qp x).2 121 := rg.b2
  have hp0 : 0 < (DL.qp x).2 := den_pos x
  have ent0 := fun (t : Nat) (ht : t ≤ 8) => rz_ent rg ht
  have es := fun t => entp_succ (x := x) t
  clear hr hh hl h1 h2 h3 h4
  generalize hH : qR h = H at *
  generalize hL : qR l = L at *
  walk_at "fn"
  unfold e_f_law_entry
  walk_at "ev"
  refine ex2 rfl rfl a0 ?_
  walk_at "ev"
  refine ex2 rfl rfl c1 ?_
  walk_at "ev"
  refine ex2 rfl rfl c0 ?_
  walk_at "ev"
  refine ex2 rfl rfl a1 ?_
  walk_at "ev"
  refine ex2 rfl rfl a1 ?_
  walk_at "ev"
  refine ex2 rfl rfl c1 ?_
  walk_at "ev"
  refine wrp (hrX) rfl rfl rfl ?_
  walk_at "ev"
  rw [Int.toNat_natCast]
  refine w_loop (Rt := fun _ _ => False) (fun t δ => ∃ y, δ = [some (.fz H), some (.fz L), some (.fz (.int (k : Int))), some (.fz (qR x)), some (.fz (qR (x ^ t / ((fct t : Int) : Rat)))), y] ∧ NB y) ⟨none, by rw [Rat.pow_zero, show ((fct 0 : Int) : Rat) = 1 from rfl, show (1 : Rat) / 1 = 1 by grind, qR_one], trivial⟩ (fun t z δ1 hz hI => ?_) (fun δ1 hI => ?_) (fun _ _ h => h.elim)
  · obtain ⟨y, rfl, ny⟩ := hI
    obtain ⟨ht, rfl⟩ := rng_get hz
    rw [Int.zero_add]
    have bt : Bd ((t : Int) + 1) 20 := bd_lit 20 100 (by omega) (by decide)
    have hmt : mulOk (DL.qp x).2 ((t : Int) + 1) = true := mulOk_bd bx2 bt (by decide)
    have hrt := law_ratio_R (a := (DL.qp x).1) (b := (DL.qp x).2 * ((t : Int) + 1)) (Int.mul_pos hp0 (by omega)) (bd_mono (bd_mul bx2 bt) (by decide)) (bd_mono bx1 (by decide))
    have hrz : Rz 200 (((DL.qp x).1 : Rat) / (((DL.qp x).2 * ((t : Int) + 1) : Int) : Rat)) := rz_frac (Int.mul_pos hp0 (by omega)) (bd_mono bx1 (by decide)) (bd_mono (bd_mul bx2 bt) (by decide))
    have htm := law_times_R (x := x ^ t / ((fct t : Int) : Rat)) (y := ((DL.qp x).1 : Rat) / (((DL.qp x).2 * ((t : Int) + 1) : Int) : Rat)) ((ent0 t (by omega)).mono (by decide)) (hrz.mono (by decide))
    rw [es] at htm
    clear hrz bt ent0 es hrX
    generalize qR (x ^ (t + 1) / ((fct (t + 1) : Int) : Rat)) = w2 at *
    generalize qR (x ^ t / ((fct t : Int) : Rat)) = w1 at *
    generalize qR (((DL.qp x).1 : Rat) / (((DL.qp x).2 * ((t : Int) + 1) : Int) : Rat)) = w3 at *
    generalize qR x = X at *
    walk_at "ev"
    refine ex2 rfl rfl b0 ?_
    walk_at "ev"
    refine ex2 rfl rfl b1 ?_
    walk_at "ev"
    refine wrp (hrt) rfl rfl rfl ?_
    walk_at "ev"
    refine wrp (htm) rfl rfl rfl ?_
    walk_at "ev"
    exact .inl ⟨rfl, _, rfl, nb_fz⟩
  · obtain ⟨y, rfl, ny⟩ := hI
    rw [rng_len]
    generalize hv : x ^ k / ((fct k : Int) : Rat) = v at *
    walk_at "ev"
    rw [show decide (0 < (DL.qp x).1) = decide (0 < x) from gt]
    refine ⟨fun h3 => ?_, fun h3 => ?_⟩
    · rw [if_pos (of_decide_eq_true h3)]
      walk_at "ev"
      exact ⟨_, .inl rfl, rfl, rfl⟩
    · rw [if_neg (of_decide_eq_false h3), qR_zero]
      walk_at "ev"
      exact ⟨_, .inl rfl, rfl, rfl⟩
namespace P14x10
end P14x10
/-! the table, its determinant -/
def tblN (L H : List Rat) (n : Nat) : List (List Rat) := (List.range n).map fun r => (List.range n).map fun c => tabR L H r c
theorem law_table_eq {n : Nat} {L H : List Rat} (lL : L.length = n) (lH : H.length = n) (n8 : n ≤ 8) (bL : ∀ x ∈ L, Rz 60 x) (bH : ∀ x ∈ H, Rz 60 x) : d_f_law_table [.fz (rowR L), .fz (rowR H)] = some (.tup ((tblN L H n).map rowR), [.fz (rowR L), .fz (rowR H)]) := by
  suffices Hh : Wf d_f_law_table [.fz (rowR L), .fz (rowR H)] fun r o => r = .tup ((tblN L H n).map rowR) ∧ o = [.fz (rowR L), .fz (rowR H)] by
    obtain ⟨r, o, e, rfl, rfl⟩ := Hh; exact e
  unfold rowR
  walk_at "fn"
  unfold e_f_law_table
  walk_at "ev"
  refine w_loop (Rt := fun _ _ => False) (fun i δ => ∃ (y3 y4 y5 y6 y7 : Option Sl), δ = [some (.fz (.tup (L.map qR))), some (.fz (.tup (H.map qR))), some (.ow (((List.range i).map fun r => (List.range n).map fun c => tabR L H r c).map rowR)), y3, y4, y5, y6, y7] ∧ NB y3 ∧ NB y4 ∧ NB y5 ∧ NB y6 ∧ NB y7) ⟨none, none, none, none, none, rfl, trivial, trivial, trivial, trivial, trivial⟩ (fun i z δ1 hz hI => ?_) (fun δ1 hI => ?_) (fun _ _ h => h.elim)
  · obtain ⟨y3, y4, y5, y6, y7, rfl, m3, m4, m5, m6, m7⟩ := hI
    obtain ⟨d, hd, rfl⟩ := enumD_get hz
    rw [List.getElem?_map] at hd
    obtain ⟨h, hh, rfl⟩ := Option.map_eq_some_iff.mp hd
    have hi := (List.getElem?_eq_some_iff.mp hh).1
    have bh := bH h (List.mem_of_getElem? hh)
    have hsz : ∀ v, appM (((List.range i).map fun r => (List.range n).map fun c => tabR L H r c).map rowR) [v] = some (.non, (((List.range i).map fun r => (List.range n).map fun c => tabR L H r c).map rowR) ++ [v]) := fun v => app_small (by rw [List.length_map, List.length_map, List.length_range]; omega)
    rw [List.range_succ, List.map_append, List.map_append]
    generalize (((List.range i).map fun r => (List.range n).map fun c => tabR L H r c).map rowR) = TT at *
    walk_at "ev"
    refine w_loop (Rt := fun _ _ => False) (fun j δ => ∃ (y6 y7 : Option Sl), δ = [some (.fz (.tup (L.map qR))), some (.fz (.tup (H.map qR))), some (.ow TT), some (.fz (.int i)), some (.fz (qR h)), some (.ow (((List.range j).map fun c => tabR L H i c).map qR)), y6, y7] ∧ NB y6 ∧ NB y7) ⟨y6, y7, rfl, m6, m7⟩ (fun j z δ1 hz hI => ?_) (fun δ1 hI => ?_) (fun _ _ h => h.elim)
    · obtain ⟨y6, y7, rfl, m6, m7⟩ := hI
      obtain ⟨d, hd, rfl⟩ := enumD_get hz
      rw [List.getElem?_map] at hd
      obtain ⟨l, hl, rfl⟩ := Option.map_eq_some_iff.mp hd
      have hj := (List.getElem?_eq_some_iff.mp hl).1
      have bl := bL l (List.mem_of_getElem? hl)
      have sz2 : ∀ v, appM (((List.range j).map fun c => tabR L H i c).map qR) [v] = some (.non, (((List.range j).map fun c => tabR L H i c).map qR) ++ [v]) := fun v => app_small (by rw [List.length_map, List.length_map, List.length_range]; omega)
      have eh : H.getD i 0 = h := by rw [List.getD_eq_getElem?_getD, hh]; rfl
      have el : L.getD j 0 = l := by rw [List.getD_eq_getElem?_getD, hl]; rfl
      have et : tabR L H i j = if j + 1 < i then 0 else if j + 1 = i then 1 else entR l h (j + 1 - i) := by unfold tabR; rw [eh, el]
      have hent := fun (hk : i ≤ j) => law_entry (h := h) (l := l) (k := j + 1 - i) bh bl (by omega)
      rw [List.range_succ, List.map_append, List.map_append, show ([j].map fun c => tabR L H i c).map qR = [qR (tabR L H i j)] from rfl, et]
      generalize (((List.range j).map fun c => tabR L H i c).map qR) = RR at *
      clear hz hd hl hh et eh el bl bh hsz bL bH
      by_cases z1 : i ≤ j
      · have he := hent z1
        rw [if_neg (by omega), if_neg (by omega)]
        rw [show ((j + 1 - i : Nat) : Int) = (j : Int) - (i : Int) + 1 by omega] at he
        generalize qR (entR l h (j + 1 - i)) = w at *
        generalize qR h = wh at *
        generalize qR l = wl at *
        walk_at "ev"
        refine ⟨fun _ => ?_, fun z => absurd (of_decide_eq_false z) (by omega)⟩
        walk_at "ev"
        refine wrp (he) rfl rfl rfl ?_
        walk_at "ev"
        refine ⟨_, _, _, _, _, _, rfl, rfl, rfl, sz2 _, ?_⟩
        walk_at "ev"
        exact .inl ⟨rfl, _, _, rfl, nb_fz, nb_fz⟩
      · by_cases z2 : j + 1 = i
        · rw [if_neg (by omega), if_pos z2, qR_one]
          generalize qR h = wh at *
          generalize qR l = wl at *
          walk_at "ev"
          refine ⟨fun z => absurd (of_decide_eq_true z) (by omega), fun _ => ?_⟩
          walk_at "ev"
          refine ⟨fun _ => ?_, fun z => absurd (of_decide_eq_false z) (by omega)⟩
          walk_at "ev"
          refine ⟨_, _, _, _, _, _, rfl, rfl, rfl, sz2 _, ?_⟩
          walk_at "ev"
          exact .inl ⟨rfl, _, _, rfl, nb_fz, nb_fz⟩
        · rw [if_pos (by omega), qR_zero]
          generalize qR h = wh at *
          generalize qR l = wl at *
          walk_at "ev"
          refine ⟨fun z => absurd (of_decide_eq_true z) (by omega), fun _ => ?_⟩
          walk_at "ev"
          refine ⟨fun z => absurd (of_decide_eq_true z) (by omega), fun _ => ?_⟩
          walk_at "ev"
          refine ⟨_, _, _, _, _, _, rfl, rfl, rfl, sz2 _, ?_⟩
          walk_at "ev"
          exact .inl ⟨rfl, _, _, rfl, nb_fz, nb_fz⟩
    · obtain ⟨y6, y7, rfl, m6, m7⟩ := hI
      rw [enumD_len, List.length_map, lL]
      walk_at "ev"
      refine ⟨_, _, _, _, _, _, rfl, rfl, rfl, hsz _, ?_⟩
      walk_at "ev"
      exact .inl ⟨rfl, _, _, _, _, _, rfl, nb_fz, nb_fz, trivial, m6, m7⟩
  · obtain ⟨y3, y4, y5, y6, y7, rfl, m3, m4, m5, m6, m7⟩ := hI
    rw [enumD_len, List.length_map, lH]
    walk_at "ev"
    exact ⟨_, .inl rfl, rfl, rfl⟩
theorem bd_sumR {f : Nat → Int} {b : Nat} : ∀ n, (∀ i, i < n → Bd (f i) b) → Bd (sumR f n) (b + n)
  | 0, _ => show Bd 0 (b + 0) from bd_lit (b + 0) 0 (by decide) (Nat.pow_pos (by decide))
  | n + 1, h => by
    have ih := bd_sumR n fun i hi => h i (by omega)
    exact bd_mono (bd_add1 ih (h n (by omega))) (by omega)
def dtI (N : Int) (L H : List Rat) (j i : Nat) : Int := sg (j - i) * chs (j + 1) i * pz (gI N H i - gI N L j) ^ (j + 1 - i) * DB (gI N H) (gI N L) i
def dtR (N : Int) (L H : List Rat) (j t : Nat) : Rat := ((sumR (dtI N L H j) t : Int) : Rat) / (((fct (j + 1) : Int) * N ^ (j + 1) : Int) : Rat)
section
variable {n : Nat} {L H : List Rat} {N : Int}
theorem bd_sg (k : Nat) : Bd (sg k) 2 := by
  unfold sg
  have h : ∀ k : Nat, ((-1 : Int) ^ k = 1 ∨ (-1 : Int) ^ k = -1) := fun k => by
    induction k with
    | zero => exact .inl rfl
    | succ k ih => rcases ih with e | e <;> rw [Int.pow_succ, e] <;> simp
  rcases h k with e | e <;> rw [e]
  · exact bd_lit 2 1 (by decide) (by decide)
  · exact bd_lit 2 1 (by decide) (by decide)
theorem Bz.bdt (b : Bz n L H N) {j i : Nat} (hj : j < n) (hi : i ≤ j) : Bd (dtI N L H j i) 760 := by
  have hn := b.n8
  have h1 : Bd (chs (j + 1) i : Int) 9 := by
    have := chs_le (j + 1) i
    have : 2 ^ (j + 1) ≤ 2 ^ 8 := Nat.pow_le_pow_right (by decide) (by omega)
    unfold Bd; simp; omega
  exact bd_mono (bd_mul (bd_mul (bd_mul (bd_sg (j - i)) h1) (bd_pow (b.gap (show i < n by omega) hj) (j + 1 - i))) (b.bdD (show i ≤ n by omega))) (by omega)
theorem Bz.rzd (b : Bz n L H N) {j t : Nat} (hj : j < n) (ht : t ≤ j + 1) : Rz 800 (dtR N L H j t) := by
  have hn := b.n8
  refine rz_frac (Int.mul_pos (fct_posI _) (b.np _)) (bd_mono (bd_sumR t fun i hi => b.bdt hj (by omega)) (by omega)) (bd_mono (bd_mul (bd_fct (by omega)) (b.bN (j + 1))) (by omega))
theorem Bz.dt_end (b : Bz n L H N) {j : Nat} (hj : j < n) : dtR N L H j (j + 1) = fdR N (gI N H) (gI N L) (j + 1) := by
  unfold dtR fdR
  rw [show DB (gI N H) (gI N L) (j + 1) = EE (gI N H) (gI N L) j j from rfl, EE_sum _ _ j j (Nat.le_refl j)]
  rfl
theorem dt_zero (j : Nat) : dtR N L H j 0 = 0 := by
  unfold dtR
  show ((0 : Int) : Rat) / _ = 0
  rw [Rat.div_def, Rat.intCast_zero, Rat.zero_mul]
theorem Bz.dt_step (b : Bz n L H N) {j t : Nat} (hj : j < n) (ht : t ≤ j) : dtR N L H j t + ((sg (j - t) : Int) : Rat) * (tabR L H t j * fdR N (gI N H) (gI N L) t) = dtR N L H j (t + 1) := by
  have hn := b.n8
  rw [b.tab (show t < n by omega) hj ht]
  unfold dtR fdR
  rw [show sumR (dtI N L H j) (t + 1) = sumR (dtI N L H j) t + dtI N L H j t from rfl]
  unfold dtI
  have hch := chs_fct t (j + 1 - t)
  rw [show t + (j + 1 - t) = j + 1 by omega] at hch
  have hN1 : N ^ (j + 1) = N ^ t * N ^ (j + 1 - t) := by rw [← Int.pow_add]; congr 1; omega
  have p1 := ratI_ne (fct_posI t)
  have p2 := ratI_ne (fct_posI (j + 1 - t))
  have p3 := ratI_ne (fct_posI (j + 1))
  have p4 := ratI_ne (b.np t)
  have p5 := ratI_ne (b.np (j + 1 - t))
  have p6 := ratI_ne (b.np (j + 1))
  have eF : ((fct (j + 1) : Int) : Rat) = ((chs (j + 1) t : Int) : Rat) * (((fct t : Int) : Rat) * ((fct (j + 1 - t) : Int) : Rat)) := by
    rw [← Rat.intCast_mul, ← Rat.intCast_mul]; congr 1; exact_mod_cast hch.symm
  have eN : ((N ^ (j + 1) : Int) : Rat) = ((N ^ t : Int) : Rat) * ((N ^ (j + 1 - t) : Int) : Rat) := by rw [← Rat.intCast_mul, hN1]
  generalize pz (gI N H t - gI N L j) ^ (j + 1 - t) = P at *
  generalize DB (gI N H) (gI N L) t = Dt at *
  generalize sumR (dtI N L H j) t = S at *
  generalize sg (j - t) = s at *
  simp only [Rat.intCast_mul, Rat.intCast_add]
  have q1 := rne p3 p6
  have q2 := rne p2 p5
  have q3 := rne p1 p4
  have hf := frac_eq (a := (P : Rat)) (b := ((fct (j + 1 - t) : Int) : Rat) * ((N ^ (j + 1 - t) : Int) : Rat)) (c := (Dt : Rat)) (d := ((fct t : Int) : Rat) * ((N ^ t : Int) : Rat)) (e := ((chs (j + 1) t : Int) : Rat) * P * Dt) (f := ((fct (j + 1) : Int) : Rat) * ((N ^ (j + 1) : Int) : Rat)) q2 q3 q1 (by rw [eF, eN]; grind)
  rw [hf]
  grind
end
namespace P14x11
end P14x11
/-! the law's determinant -/
theorem sgR (k : Nat) : (if Int.fmod (k : Int) 2 = 0 then D.int 1 else D.int (-1)) = D.int (sg k) ∧ D.tup [D.int (sg k), .int 1] = qR ((sg k : Int) : Rat) := ⟨by
  have h : ∀ k : Nat, ((k % 2 = 0 → sg k = 1) ∧ (k % 2 = 1 → sg k = -1)) := fun k => by
    induction k with
    | zero => exact ⟨fun _ => rfl, fun h => by omega⟩
    | succ k ih =>
      have e : sg (k + 1) = -(sg k) := by rw [sg_add, show sg 1 = -1 from rfl]; omega
      constructor
      · intro h; rw [e, ih.2 (by omega)]; rfl
      · intro h; rw [e, ih.1 (by omega)]
  have hm : Int.fmod (k : Int) 2 = ((k % 2 : Nat) : Int) := by rw [Int.fmod_eq_emod_of_nonneg _ (by decide)]; omega
  rw [hm]
  rcases Nat.mod_two_eq_zero_or_one k with q | q
  · rw [if_pos (by omega), (h k).1 q]
  · rw [if_neg (by omega), (h k).2 q], (qR_int _).symm⟩
theorem rz_sg (k : Nat) : Rz 2 ((sg k : Int) : Rat) := rz_int (bd_sg k) (by decide)
theorem law_det_eq {n : Nat} {L H : List Rat} {N : Int} (b : Bz n L H N) : d_f_law_determinant [.fz (.tup ((tblN L H n).map rowR))] = some (qR (fdR N (gI N H) (gI N L) n), [.fz (.tup ((tblN L H n).map rowR))]) := by
  suffices Hh : Wf d_f_law_determinant [.fz (.tup ((tblN L H n).map rowR))] fun r o => r = qR (fdR N (gI N H) (gI N L) n) ∧ o = [.fz (.tup ((tblN L H n).map rowR))] by
    obtain ⟨r, o, e, rfl, rfl⟩ := Hh; exact e
  have n8 := b.n8
  have n1 := b.n1
  have hT : (tblN L H n).length = n := by unfold tblN; rw [List.length_map, List.length_range]
  have hrow : ∀ i, i < n → ixD (.tup ((tblN L H n).map rowR)) (.int (i : Int)) = some (rowR ((List.range n).map fun c => tabR L H i c)) := fun i hi => ix_at rowR (by unfold tblN; rw [List.getElem?_map, List.getElem?_range hi]; rfl)
  have hent : ∀ i j, j < n → ixD (rowR ((List.range n).map fun c => tabR L H i c)) (.int (j : Int)) = some (qR (tabR L H i j)) := fun i j hj => ix_at qR (by rw [List.getElem?_map, List.getElem?_range hj]; rfl)
  have hf0 : fdR N (gI N H) (gI N L) 0 = 1 := by
    show ((1 : Int) : Rat) / ((((1 : Nat) : Int) * N ^ 0 : Int) : Rat) = 1
    rw [show (((1 : Nat) : Int) * N ^ 0) = 1 by simp]
    grind
  generalize hTT : tblN L H n = T at *
  walk_at "fn"
  unfold e_f_law_determinant
  walk_at "ev"
  rw [List.length_map, hT]
  refine ⟨⟨by omega, by omega⟩, ?_⟩
  rw [Int.toNat_natCast]
  refine w_loop (Rt := fun _ _ => False) (fun j δ => ∃ (y2 y3 y4 y5 : Option Sl), δ = [some (.fz (.tup (T.map rowR))), some (.ow (((List.range (j + 1)).map fun k => fdR N (gI N H) (gI N L) k).map qR)), y2, y3, y4, y5] ∧ NB y2 ∧ NB y3 ∧ NB y4 ∧ NB y5) ⟨none, none, none, none, by rw [show ((List.range (0 + 1)).map fun k => fdR N (gI N H) (gI N L) k).map qR = [qR (fdR N (gI N H) (gI N L) 0)] from rfl, hf0, qR_one], trivial, trivial, trivial, trivial⟩ (fun j z δ1 hz hI => ?_) (fun δ1 hI => ?_) (fun _ _ h => h.elim)
  · obtain ⟨y2, y3, y4, y5, rfl, m2, m3, m4, m5⟩ := hI
    obtain ⟨hj, rfl⟩ := rng_get hz
    rw [Int.zero_add]
    have hfd : ∀ i, i ≤ j → ixD (.lst (((List.range (j + 1)).map fun k => fdR N (gI N H) (gI N L) k).map qR)) (.int (i : Int)) = some (qR (fdR N (gI N H) (gI N L) i)) := fun i hi => ixl_at qR (by rw [List.getElem?_map, List.getElem?_range (by omega)]; rfl)
    have hsz : ∀ v, appM (((List.range (j + 1)).map fun k => fdR N (gI N H) (gI N L) k).map qR) [v] = some (.non, (((List.range (j + 1)).map fun k => fdR N (gI N H) (gI N L) k).map qR) ++ [v]) := fun v => app_small (by rw [List.length_map, List.length_map, List.length_range]; omega)
    rw [List.range_succ (n := j + 1), List.map_append, List.map_append, show ([j + 1].map fun k => fdR N (gI N H) (gI N L) k).map qR = [qR (fdR N (gI N H) (gI N L) (j + 1))] from rfl, ← b.dt_end hj]
    generalize (((List.range (j + 1)).map fun k => fdR N (gI N H) (gI N L) k).map qR) = FF at *
    walk_at "ev"
    rw [show ((j : Int) + 1).toNat = j + 1 by omega]
    refine w_loop (Rt := fun _ _ => False) (fun t δ => ∃ (y4 y5 : Option Sl), δ = [some (.fz (.tup (T.map rowR))), some (.ow FF), some (.fz (.int j)), some (.fz (qR (dtR N L H j t))), y4, y5] ∧ NB y4 ∧ NB y5) ⟨y4, y5, by rw [dt_zero, qR_zero], m4, m5⟩ (fun t z δ1 hz hI => ?_) (fun δ1 hI => ?_) (fun _ _ h => h.elim)
    · obtain ⟨y4, y5, rfl, m4, m5⟩ := hI
      obtain ⟨ht, rfl⟩ := rng_get hz
      rw [Int.zero_add]
      have hstep := b.dt_step hj (show t ≤ j by omega)
      have e1 := hrow t (by omega)
      have e2 := hent t j hj
      have e3 := hfd t (by omega)
      obtain ⟨s1, s2⟩ := sgR (j - t)
      rw [show ((j - t : Nat) : Int) = (j : Int) - (t : Int) by omega] at s1
      have rt : Rz 900 (tabR L H t j) := by
        rw [b.tab (show t < n by omega) hj (by omega)]
        exact rz_frac (Int.mul_pos (fct_posI _) (b.np _)) (bd_mono (bd_pow (b.gap (by omega) hj) _) (by omega)) (bd_mono (bd_mul (bd_fct (by omega)) (b.bN _)) (by omega))
      have rf := b.rzf (k := t) (by omega)
      have L1 := law_times_R (x := tabR L H t j) (y := fdR N (gI N H) (gI N L) t) (rt.mono (by decide)) (rf.mono (by decide))
      have L2 := law_times_R (x := ((sg (j - t) : Int) : Rat)) (y := tabR L H t j * fdR N (gI N H) (gI N L) t) ((rz_sg _).mono (by decide)) ((rt.mul rf).mono (by decide))
      have L3 := law_plus_R (x := dtR N L H j t) (y := ((sg (j - t) : Int) : Rat) * (tabR L H t j * fdR N (gI N H) (gI N L) t)) ((b.rzd hj (by omega)).mono (by decide)) (((rz_sg _).mul (rt.mul rf)).mono (by decide))
      rw [hstep] at L3
      rw [← s2] at L2
      clear hrow hent hfd hsz hz rt rf hstep s2
      generalize rowR ((List.range n).map fun c => tabR L H t c) = row at *
      generalize qR (tabR L H t j * fdR N (gI N H) (gI N L) t) = w1 at *
      generalize qR (((sg (j - t) : Int) : Rat) * (tabR L H t j * fdR N (gI N H) (gI N L) t)) = w2 at *
      generalize qR (tabR L H t j) = w3 at *
      generalize qR (fdR N (gI N H) (gI N L) t) = w4 at *
      generalize qR (dtR N L H j (t + 1)) = w5 at *
      generalize qR (dtR N L H j t) = w6 at *
      generalize sg (j - t) = s at *
      walk_at "ev"
      refine ⟨fun hz => ?_, fun hz => ?_⟩
      · rw [if_pos (of_decide_eq_true hz)] at s1
        injection s1 with s1
        subst s1
        walk_at "ev"
        refine ex2 rfl rfl e1 ?_
        walk_at "ev"
        refine ex2 rfl rfl e2 ?_
        walk_at "ev"
        refine ex2 rfl rfl e3 ?_
        walk_at "ev"
        refine wrp (L1) rfl rfl rfl ?_
        walk_at "ev"
        refine wrp (L2) rfl rfl rfl ?_
        walk_at "ev"
        refine wrp (L3) rfl rfl rfl ?_
        walk_at "ev"
        exact .inl ⟨rfl, _, _, rfl, nb_fz, nb_fz⟩
      · rw [if_neg (of_decide_eq_false hz)] at s1
        injection s1 with s1
        subst s1
        walk_at "ev"
        refine ex2 rfl rfl e1 ?_
        walk_at "ev"
        refine ex2 rfl rfl e2 ?_
        walk_at "ev"
        refine ex2 rfl rfl e3 ?_
        walk_at "ev"
        refine wrp (L1) rfl rfl rfl ?_
        walk_at "ev"
        refine wrp (L2) rfl rfl rfl ?_
        walk_at "ev"
        refine wrp (L3) rfl rfl rfl ?_
        walk_at "ev"
        exact .inl ⟨rfl, _, _, rfl, nb_fz, nb_fz⟩
    · obtain ⟨y4, y5, rfl, m4, m5⟩ := hI
      rw [rng_len]
      walk_at "ev"
      refine ⟨_, _, _, _, _, _, rfl, rfl, rfl, hsz _, ?_⟩
      walk_at "ev"
      exact .inl ⟨rfl, _, _, _, _, rfl, nb_fz, nb_fz, m4, m5⟩
  · obtain ⟨y2, y3, y4, y5, rfl, m2, m3, m4, m5⟩ := hI
    rw [rng_len]
    have hla : ixD (.lst (((List.range (n + 1)).map fun k => fdR N (gI N H) (gI N L) k).map qR)) (.int (-1)) = some (qR (fdR N (gI N H) (gI N L) n)) := last_R (by rw [List.range_succ, List.map_append, List.getLast?_append]; rfl)
    generalize (((List.range (n + 1)).map fun k => fdR N (gI N H) (gI N L) k).map qR) = FF at *
    walk_at "ev"
    refine ex2 rfl rfl hla ?_
    walk_at "ev"
    exact ⟨_, .inl rfl, rfl, rfl⟩
namespace P14x12
end P14x12
/-! right -/
theorem bx_of {n b : Nat} {ls hs : List Rat} (n1 : 1 ≤ n) (n8 : n ≤ 8) (ll : ls.length = n) (lh : hs.length = n) (B0 : 0 < b) (hB : b < 2 ^ 40) (h1 : ∀ x ∈ ls, Sx b x) (h2 : ∀ x ∈ hs, Sx b x) : Bx n ls hs :=
  ⟨n1, n8, ll, lh, fun x hx => ⟨(h1 x hx).s0, (h1 x hx).s1⟩, fun x hx => ⟨(h2 x hx).s0, (h2 x hx).s1⟩, fun x hx => (h1 x hx).rz B0 hB, fun x hx => (h2 x hx).rz B0 hB⟩
theorem fracs_sx {b : Nat} {l : List Nat} (hb : 0 < b) (h : ∀ x ∈ l, x ≤ b) : ∀ x ∈ fracs b l, Sx b x := fun x hx => by
  obtain ⟨a, ha, rfl⟩ := List.mem_map.mp hx
  exact sx_frac hb (h a ha)
theorem fracs_len (b : Nat) (l : List Nat) : (fracs b l).length = l.length := List.length_map _
theorem AW_le {n : Nat} {l h : Nat → Int} : ∀ (j k : Nat), k ≤ n → 0 ≤ AW l h j k ∧ AW l h j k ≤ (j : Int) ^ k
  | 0, k, _ => by
    show 0 ≤ (if k = 0 then (1 : Int) else 0) ∧ (if k = 0 then (1 : Int) else 0) ≤ ((0 : Nat) : Int) ^ k
    by_cases z : k = 0
    · rw [if_pos z, z, Int.pow_zero]; omega
    · rw [if_neg z, show ((0 : Nat) : Int) = 0 from rfl, Int.zero_pow z]; omega
  | j + 1, k, hk => stW_le (l := l) (h := h) (n := n) (by omega) (by omega) (fun k hk => AW_le j k hk) hk
theorem Bz.db_le {n : Nat} {L H : List Rat} {N : Int} (b : Bz n L H N) : 0 ≤ DB (gI N H) (gI N L) n ∧ DB (gI N H) (gI N L) n ≤ N ^ n := by
  have p := plain_self (n := n) (l := gI N L) (h := gI N H) (fun i k h1 h2 => b.ml h1 h2) (fun i k h1 h2 => b.mh h1 h2)
  have hI := AW_inv p (D := DB (gI N H) (gI N L)) rfl (fun k _ => DB_rec _ _ k) (fun k hk => (b.l0 hk).1) N.toNat
  have hN : ((N.toNat : Nat) : Int) = N := by have := b.N0; omega
  rw [hN] at hI
  have e := (inv_end hI (fun k hk => (b.l0 hk).2) (fun k hk => (b.h0 hk).2)).1
  have h := AW_le (n := n) (l := gI N L) (h := gI N H) N.toNat n (Nat.le_refl n)
  rw [hN, e] at h
  exact h
theorem rz_val {n : Nat} {L H : List Rat} {N : Int} (b : Bz n L H N) (hN : Bd N 4) (n6 : n ≤ 6) : Rz 42 (boxVal N L H n) := by
  unfold boxVal
  have hp : Bd (N ^ n) 42 := bd_mono (bd_pow hN n) (by omega)
  split
  · exact rz_frac (b.np n) (bd_le b.db_le.1 b.db_le.2 hp) hp
  · exact rz_int (i := 0) (bd_lit 42 0 (by decide) (by decide)) (by decide)
theorem rz_tab {n : Nat} {L H : List Rat} {N : Int} (b : Bz n L H N) (hN : Bd N 4) (n6 : n ≤ 6) {r c : Nat} (hr : r < n) (hc : c < n) : Rz 42 (tabR L H r c) := by
  by_cases z : r ≤ c
  · rw [b.tab hr hc z]
    have h1 := b.h0 hr
    have h2 := b.l0 hc
    have hg : Bd (pz (gI N H r - gI N L c)) 4 := bd_pz (by unfold Bd at *; omega)
    exact rz_frac (Int.mul_pos (fct_posI _) (b.np _)) (bd_mono (bd_pow hg _) (by omega)) (bd_mono (bd_mul (bd_fct (by omega)) (bd_pow hN (c + 1 - r))) (by omega))
  · unfold tabR
    by_cases z2 : c + 1 < r
    · rw [if_pos z2]; exact rz_int (i := 0) (bd_lit 42 0 (by decide) (by decide)) (by decide)
    · rw [if_neg z2, if_pos (by omega)]; exact rz_int (i := 1) (bd_lit 42 1 (by decide) (by decide)) (by decide)
theorem row42 {r : List Rat} (h : ∀ x ∈ r, Rz 60 x) (hl : r.length ≤ 8) : Sw 61 2 (8 * (2 * (60 + 2) + 1 + 1) + 1) (rowR r) := sw_tup (k := 8) (fun d hd => by
  obtain ⟨x, hx, rfl⟩ := List.mem_map.mp hd
  exact sw_q (h x hx).b1 (h x hx).b2 (by decide) (by decide)) (by rw [List.length_map]; exact hl)
theorem tab_shw {n : Nat} {L H : List Rat} {N : Int} {x : Rat} (b : Bz n L H N) (hN : Bd N 4) (n6 : n ≤ 6) (hx : Rz 60 x) : shwOk (.lst [qR x, .tup ((tblN L H n).map rowR)]) = true := by
  have ht : Sw 61 3 (8 * (8 * (2 * (60 + 2) + 1 + 1) + 1 + 1) + 1) (.tup ((tblN L H n).map rowR)) := sw_tup (k := 8) (fun d hd => by
    obtain ⟨r, hr, rfl⟩ := List.mem_map.mp hd
    obtain ⟨i, hi, rfl⟩ := List.mem_map.mp hr
    refine row42 (fun y hy => ?_) (by rw [List.length_map, List.length_range]; omega)
    obtain ⟨c, hc, rfl⟩ := List.mem_map.mp hy
    exact (rz_tab b hN n6 (List.mem_range.mp hi) (List.mem_range.mp hc)).mono (by decide)) (by unfold tblN; rw [List.length_map, List.length_map, List.length_range]; omega)
  exact sw_shw (sw_two ((sw_q hx.b1 hx.b2 (by decide) (by decide)).mono (by decide) (by decide)) ht) (by decide) (by decide) (by decide)
theorem two_row_shw {ls hs : List Rat} (h1 : ∀ x ∈ ls, Rz 60 x) (h2 : ∀ x ∈ hs, Rz 60 x) (l1 : ls.length ≤ 8) (l2 : hs.length ≤ 8) : shwOk (.tup [rowR ls, rowR hs]) = true :=
  sw_shw (sw_tup (k := 2) (fun d hd => by
    rcases List.mem_cons.mp hd with rfl | hd
    · exact row42 h1 l1
    · rw [List.mem_singleton.mp hd]; exact row42 h2 l2) (Nat.le_refl 2)) (by decide) (by decide) (by decide)
theorem right_ok {k : Nat} {u0 : List D} (g : GU (k + 60) u0) : Wf d_f_law_right [.bo u0] fun r o => r = .bl true := by
  walk_at "fn"
  unfold e_f_law_right
  walk_at "ev"
  refine wru ((draw_ok (k := k + 59) g (by decide) (by decide)).imp ?_) rfl rfl
  rintro _ _ ⟨nn, u1, rfl, hn0, hn1, g1, rfl⟩
  refine ⟨_, rfl, ?_⟩
  walk_at "nm"
  obtain ⟨n, hn, n1, n6⟩ : ∃ n : Nat, 1 + nn = (n : Int) ∧ 1 ≤ n ∧ n ≤ 6 := ⟨(1 + nn).toNat, by omega, by omega, by omega⟩
  walk_at "ev"
  rw [hn]
  refine wru ((box_ok (k := k + 30) (n := n) (g1.mono (by omega)) n1 (by omega)).imp ?_) rfl rfl
  rintro _ _ ⟨b, lo, hi, u2, rfl, hb1, hb12, ll, lh, hl, hh, g2, rfl⟩
  refine ⟨_, rfl, ?_⟩
  walk_at "nm"
  have s1 := fracs_sx (b := b) (by omega) hl
  have s2 := fracs_sx (b := b) (by omega) hh
  have l1 : (fracs b lo).length = n := by rw [fracs_len, ll]
  have l2 : (fracs b hi).length = n := by rw [fracs_len, lh]
  have bx := bx_of n1 (by omega) l1 l2 (by omega) (by omega) s1 s2
  generalize fracs b lo = ls at *
  generalize fracs b hi = hs at *
  have hN : Bd (b : Int) 4 := by unfold Bd; simp; omega
  have bz := bz_of bx (N := (b : Int)) (by omega) (bd_mono hN (by decide)) (fun x hx => by exact_mod_cast (s1 x hx).d) (fun x hx => by exact_mod_cast (s2 x hx).d)
  have E1 := law_plain_eq bx
  have E2 := plain_box_eq bx
  have E3 := box_chance bx bz
  have E4 := box_table_eq bx
  have lL : (risR ls).length = n := bz.lL
  have lH : (falR hs).length = n := bz.lH
  have bL : ∀ x ∈ risR ls, Rz 60 x := fun x hx => bx.bl x (risR_mem x hx)
  have bH : ∀ x ∈ falR hs, Rz 60 x := fun x hx => bx.bh x (falR_mem x hx)
  have hsp := two_row_shw bL bH (by omega) (by omega)
  have hiff := lts_iff bz
  have hval := rz_val bz hN n6
  have hT : tblR (risR ls) (falR hs) = tblN (risR ls) (falR hs) n := by unfold tblR tblN; rw [lL]
  rw [hT] at E4
  have E5 := law_table_eq lL lH (by omega) bL bH
  have E6 := law_det_eq bz
  have hts := fun x hx => tab_shw (x := x) bz hN n6 hx
  generalize risR ls = L at *
  generalize falR hs = H at *
  generalize hB : boxR ls hs = B at *
  have all_ev := all_bl (fun p : Rat × Rat => decide (p.1 < p.2)) (L.zip H)
  rw [show (L.zip H).all (fun p : Rat × Rat => decide (p.1 < p.2)) = ltsB L H from rfl] at all_ev
  have hpl : ∀ p ∈ L.zip H, d_f_law_below [.fz (qR p.1), .fz (qR p.2)] = some (.bl (decide (p.1 < p.2)), [.fz (qR p.1), .fz (qR p.2)]) := fun p hp => by
    have hz := List.of_mem_zip (show (p.1, p.2) ∈ _ from hp)
    exact law_below_R ((bL p.1 hz.1).mono (by decide)) ((bH p.2 hz.2).mono (by decide))
  have hzl : (L.zip H).length ≤ sizeLine := len_ok (by rw [List.length_zip]; omega)
  have i0 : ixD (.tup [rowR L, rowR H]) (.int 0) = some (rowR L) := rfl
  have i1 : ixD (.tup [rowR L, rowR H]) (.int 1) = some (rowR H) := rfl
  have fac : ∀ t : Nat, t ≤ 8 → Bd (fct t : Int) 16 := fun t ht => bd_fct ht
  have hfin : ltsB L H = true → d_f_law_times [.fz (.tup [.int (fct n : Int), .int 1]), .fz (qR (fdR (b : Int) (gI b H) (gI b L) n))] = some (qR (boxVal (b : Int) L H n), [.fz (.tup [.int (fct n : Int), .int 1]), .fz (qR (fdR (b : Int) (gI b H) (gI b L) n))]) := fun hlt => by
    have h := law_times_R (x := ((fct n : Int) : Rat)) (y := fdR (b : Int) (gI b H) (gI b L) n) ((rz_int (bd_mono (bd_fct (by omega)) (by decide : 16 ≤ 100)) (by decide)).mono (by decide)) ((bz.rzf (Nat.le_refl n)).mono (by decide))
    rw [qR_int] at h
    have ev : ((fct n : Int) : Rat) * fdR (b : Int) (gI b H) (gI b L) n = boxVal (b : Int) L H n := by
      unfold boxVal fdR
      rw [if_pos hlt]
      have p1 := ratI_ne (fct_posI n)
      have p2 := ratI_ne (bz.np n)
      rw [Rat.intCast_mul]
      have := frac_eq (a := ((fct n : Int) : Rat)) (b := 1) (c := ((DB (gI (b : Int) H) (gI (b : Int) L) n : Int) : Rat)) (d := ((fct n : Int) : Rat) * ((((b : Int)) ^ n : Int) : Rat)) (e := ((DB (gI (b : Int) H) (gI (b : Int) L) n : Int) : Rat)) (f := ((((b : Int)) ^ n : Int) : Rat)) (by decide) (rne p1 p2) p2 (by grind)
      rw [← this]; grind
    rw [ev] at h
    exact h
  have hv0 : ltsB L H = false → boxVal (b : Int) L H n = 0 := fun hlt => by unfold boxVal; rw [hlt]; rfl
  have s0 : shwOk (.lst [.tup [.int 0, .int 1], .non]) = true := by decide +kernel
  clear hiff hT
  cases hlt : ltsB L H with
  | false =>
    rw [hlt] at E4 all_ev
    rw [hv0 hlt, qR_zero] at E3
    simp only [Bool.false_eq_true, if_false] at E4
    clear hv0 hfin hts
    unfold rowR at *
    walk_at "ev"
    refine wrp (E1) rfl rfl rfl ?_
    walk_at "ev"
    refine wrp (E2) rfl rfl rfl ?_
    walk_at "ev"
    refine wrp (E3) rfl rfl rfl ?_
    walk_at "ev"
    refine wrp (E4) rfl rfl rfl ?_
    walk_at "ev"
    rw [zipD_map]
    refine w_lcm (fun p => D.bl (decide (p.1 < p.2))) hzl (fun p hp => ?_) ?_
    · have hb := hpl p hp
      clear E1 E2 E3 E4 E5 E6 hpl all_ev bL bH bz bx
      walk_at "ev"
      refine ⟨rfl, ?_⟩
      walk_at "ev"
      refine wrp (hb) rfl rfl rfl ?_
      walk_at "ev"
      rfl
    · walk_at "ev"
      refine exN rfl all_ev ?_
      walk_at "ev"
      exact ⟨_, .inl rfl, rfl⟩
  | true =>
    rw [hlt] at E4 all_ev
    simp only [if_true] at E4
    have hfin := hfin hlt
    have hts := hts _ (hval.mono (by decide))
    clear hv0
    generalize qR (boxVal (b : Int) L H n) = v at *
    generalize qR (fdR (b : Int) (gI b H) (gI b L) n) = dv at *
    generalize (tblN L H n).map rowR = T at *
    unfold rowR at *
    walk_at "ev"
    refine wrp (E1) rfl rfl rfl ?_
    walk_at "ev"
    refine wrp (E2) rfl rfl rfl ?_
    walk_at "ev"
    refine wrp (E3) rfl rfl rfl ?_
    walk_at "ev"
    refine wrp (E4) rfl rfl rfl ?_
    walk_at "ev"
    rw [zipD_map]
    refine w_lcm (fun p => D.bl (decide (p.1 < p.2))) hzl (fun p hp => ?_) ?_
    · have hb := hpl p hp
      clear E1 E2 E3 E4 E5 E6 hpl all_ev bL bH bz bx
      walk_at "ev"
      refine ⟨rfl, ?_⟩
      walk_at "ev"
      refine wrp (hb) rfl rfl rfl ?_
      walk_at "ev"
      rfl
    · walk_at "ev"
      refine exN rfl all_ev ?_
      walk_at "ev"
      refine wrp (E5) rfl rfl rfl ?_
      walk_at "ev"
      rw [Int.toNat_natCast]
      clear E1 E2 E3 E4 E5 hpl all_ev
      refine w_loop (Rt := fun _ _ => False) (fun t δ => ∃ y9 : Option Sl, δ = [some (.bo u2), some (.fz (.int n)), some (.fz B), some (.fz (.tup [.tup (L.map qR), .tup (H.map qR)])), some (.fz (.lst [v, .tup T])), none, none, some (.fz (.tup T)), some (.fz (.int (fct t : Int))), y9, none] ∧ NB y9) ⟨none, rfl, trivial⟩ (fun t z δ1 hz hI => ?_) (fun δ1 hI => ?_) (fun _ _ h => h.elim)
      · obtain ⟨y9, rfl, m9⟩ := hI
        obtain ⟨ht, rfl⟩ := rng_get hz
        rw [Int.zero_add]
        have hm : mulOk (fct t : Int) ((t : Int) + 1) = true := mulOk_bd (fac t (by omega)) (bd_lit 10 100 (by omega) (by decide)) (by decide)
        have e : ((fct (t + 1) : Nat) : Int) = (fct t : Int) * ((t : Int) + 1) := by
          show (((t + 1) * fct t : Nat) : Int) = _
          push_cast; grind
        rw [e]
        generalize ((fct t : Nat) : Int) = F at *
        walk_at "ev"
        exact .inl ⟨rfl, _, rfl, nb_fz⟩
      · obtain ⟨y9, rfl, m9⟩ := hI
        rw [rng_len]
        generalize ((fct n : Nat) : Int) = F at *
        walk_at "ev"
        refine wrp (E6) rfl rfl rfl ?_
        walk_at "ev"
        refine wrp (hfin) rfl rfl rfl ?_
        walk_at "ev"
        exact ⟨_, .inl rfl, rfl⟩
namespace P14x13
end P14x13
theorem source_ok {ns : List Int} {t : Nat} (h : ns.length ≤ 63) (ht : t ≤ 3) : Wf d_f_law_source [.fz (.fls (ns.map D.int)), .fz (.int t)] fun r o => GU 1000 r ∧ o = [.fz (.fls (ns.map D.int)), .fz (.int t)] := by
  walk_at "fnN"
  unfold e_f_law_source
  refine w_seq (w_set (W.imp (P := fun a δ' => ∃ own : Int, a = .d (.int own) ∧ δ' = [some (.fz (.fls (ns.map D.int))), some (.fz (.int t)), none, none, none]) ?_ ?_))
  · walk_at "ev"
    refine ⟨fun hlt => ?_, fun _ => ?_⟩
    · have ht' : t < ns.length := by
        have := of_decide_eq_true hlt
        rw [List.length_map] at this
        omega
      have hat : atI (ns.map D.int) (t : Int) = some (.int ns[t]) := L2.atI_nat (by rw [List.getElem?_map, List.getElem?_eq_getElem ht']; rfl)
      walk_at "ev"
      refine ⟨_, _, _, rfl, rfl, hat, ?_⟩
      walk_at "ev"
      first | done | exact ⟨_, rfl, rfl⟩ | rfl
    · walk_at "ev"
      first | done | exact ⟨_, rfl, rfl⟩ | rfl
  · rintro _ _ ⟨own, rfl, rfl⟩
    walk_at "ev"
    refine w_loop (Rt := fun _ _ => False) (fun i δ => ∃ (m : Int) (a : Option Sl), δ = [some (.fz (.fls (ns.map D.int))), some (.fz (.int t)), some (.fz (.int own)), some (.fz (.int m)), a] ∧ Bd m 64 ∧ NB a) ⟨_, _, rfl, bd_lit 64 100000000 (by omega) (by decide), trivial⟩ (fun i x δ1 hx hI => ?_) (fun δ1 hI => ?_) (fun _ _ h => h.elim)
    · obtain ⟨m, a, rfl, hm0, na⟩ := hI
      have hx' : x ∈ cutD (ns.map D.int) none (some ((7 : Nat) : Int)) := List.mem_of_getElem? hx
      rw [cut_to] at hx'
      obtain ⟨z, _, rfl⟩ := List.mem_map.mp (List.mem_of_mem_take hx')
      walk_at "ev"
      exact .inl ⟨by first | rfl | trivial, _, _, rfl, bd_fmod 64 (by decide) (by decide), nb_fz⟩
    · obtain ⟨m, a, rfl, hm0, na⟩ := hI
      walk_at "ev"
      have f0 : ∀ x : Int, 0 ≤ x.fmod 2147483549 := fun x => Int.fmod_nonneg_of_pos x (by decide)
      have f1 : ∀ x : Int, x.fmod 2147483549 < 2147483587 := fun x => Int.lt_of_lt_of_le (Int.fmod_lt_of_pos x (b := 2147483549) (by decide)) (by decide)
      refine ⟨fun h1 => ?_, fun h1 => ?_⟩
      · walk_at "ev"
        exact ⟨⟨_, _, _, rfl, by split <;> omega, f0 _, f1 _, by omega, by omega⟩, rfl⟩
      · walk_at "ev"
        exact ⟨⟨_, _, _, rfl, by omega, f0 _, f1 _, by omega, by omega⟩, rfl⟩
theorem all_true (n : Nat) (lo : Int) : allD [.lst ((rngD lo n).filterMap fun _ => some (D.bl true))] = some (.bl true) := by
  have e : ((rngD lo n).filterMap fun _ => some (D.bl true)) = (List.replicate n true).map D.bl := by
    rw [fm_map]
    unfold rngD
    rw [List.map_map, List.map_replicate]
    refine List.ext_getElem (by simp) fun i h1 h2 => ?_
    simp
  rw [e]
  unfold allD
  simp only [blsD_map, Option.bind_some]
  simp
theorem law_ok {ns : List Int} (h : ns.length ≤ 63) : ∃ o, d_law [.fz (.fls (ns.map D.int))] = some (.bl true, o) := by
  suffices H : Wf d_law [.fz (.fls (ns.map D.int))] fun r o => r = .bl true by
    obtain ⟨r, o, e, rfl⟩ := H; exact ⟨o, e⟩
  walk_at "fn"
  unfold e_law
  walk_at "ev"
  have hN : ∀ L : Int, 0 ≤ L → ((if (if 3 < L then 3 else L) > 2 then (if 3 < L then 3 else L) else 2 : Int)).toNat ≤ 3 := fun L hL => by
    split <;> (try split) <;> omega
  have key := hN ((ns.map D.int).length : Int) (by omega)
  revert key
  generalize Int.toNat _ = N
  intro key
  refine w_lcp (F := fun _ => some (D.bl true)) (len_ok (by rw [rng_len]; omega)) (fun x hx => ?_) ?_
  · obtain ⟨i, hi, rfl⟩ := rng_mem0 hx
    walk_at "ev"
    refine wrn ((source_ok h (t := i) (by omega)).imp ?_) rfl rfl
    rintro r _ ⟨g, rfl⟩
    refine ⟨rfl, ?_⟩
    refine (right_ok (k := 700) (g.mono (by omega))).imp ?_
    rintro _ _ rfl
    walk_at "ev"
    exact ⟨rfl, rfl⟩
  · refine w_nil ?_
    refine ⟨_, _, rfl, all_true _ _, ?_⟩
    walk_at "ev"
    walk_at "rt"
    rfl
end LK
open PySem PySem.W PyProof.Rows
set_option maxHeartbeats 0 in
theorem PySem.Challenge.cw_anydraws_k14_whole_tables_of_boxes_holds : PySem.Challenge.rw_anydraws_k14_whole_tables_of_boxes.Holds := by
  w_on; o_law; k_head; (case hw => w_witness2)
  k_fill
  refine DL.walkG (l := PySem.Challenge.rw_anydraws_k14_whole_tables_of_boxes) (n := 63) (k := 12) (x := "script") (F := LK.d_law) rfl (by decide) rfl ⟨rfl, by decide, by decide⟩ (fun w h Y => PySem.W.kIn_of Y) ?G ?L
  case G =>
    intro w mg fa h KX M hmg
    refine' LK.all_mk KX M hmg ?af_law_draw ?lf_law_draw ?cf_law_draw ?kf_law_draw ?af_law_ratio ?lf_law_ratio ?cf_law_ratio ?kf_law_ratio ?af_law_box ?lf_law_box ?cf_law_box ?kf_law_box ?af_law_below ?lf_law_below ?cf_law_below ?kf_law_below ?af_law_plain ?lf_law_plain ?cf_law_plain ?kf_law_plain ?af_law_times ?lf_law_times ?cf_law_times ?kf_law_times ?ais_whole ?lis_whole ?cis_whole ?kis_whole ?aare_wholes ?lare_wholes ?care_wholes ?kare_wholes ?aare_coprime ?lare_coprime ?care_coprime ?kare_coprime ?ais_ratio ?lis_ratio ?cis_ratio ?kis_ratio ?ais_from_nought ?lis_from_nought ?cis_from_nought ?kis_from_nought ?ais_share ?lis_share ?cis_share ?kis_share ?aare_shares_all ?lare_shares_all ?care_shares_all ?kare_shares_all ?awrong_in_pair ?lwrong_in_pair ?cwrong_in_pair ?kwrong_in_pair ?awrong_in_box ?lwrong_in_box ?cwrong_in_box ?kwrong_in_box ?acheck_box ?lcheck_box ?ccheck_box ?kcheck_box ?ais_below ?lis_below ?cis_below ?kis_below ?agreater_of ?lgreater_of ?cgreater_of ?kgreater_of ?arising ?lrising ?crising ?krising ?alesser_of ?llesser_of ?clesser_of ?klesser_of ?afalling_back ?lfalling_back ?cfalling_back ?kfalling_back ?aplain_of ?lplain_of ?cplain_of ?kplain_of ?alowest ?llowest ?clowest ?klowest ?aminus ?lminus ?cminus ?kminus ?aover ?lover ?cover ?kover ?apowered ?lpowered ?cpowered ?kpowered ?awhole ?lwhole ?cwhole ?kwhole ?aproduct_up_to ?lproduct_up_to ?cproduct_up_to ?kproduct_up_to ?aentry_of ?lentry_of ?centry_of ?kentry_of ?atable_of ?ltable_of ?ctable_of ?ktable_of ?atimes ?ltimes ?ctimes ?ktimes ?arow_less ?lrow_less ?crow_less ?krow_less ?arow_scaled ?lrow_scaled ?crow_scaled ?krow_scaled ?adeterminant ?ldeterminant ?cdeterminant ?kdeterminant ?achance_of ?lchance_of ?cchance_of ?kchance_of ?abox_chance ?lbox_chance ?cbox_chance ?kbox_chance ?abox_table ?lbox_table ?cbox_table ?kbox_table ?af_law_entry ?lf_law_entry ?cf_law_entry ?kf_law_entry ?af_law_table ?lf_law_table ?cf_law_table ?kf_law_table ?af_law_plus ?lf_law_plus ?cf_law_plus ?kf_law_plus ?af_law_determinant ?lf_law_determinant ?cf_law_determinant ?kf_law_determinant ?aplain_box ?lplain_box ?cplain_box ?kplain_box ?af_law_right ?lf_law_right ?cf_law_right ?kf_law_right ?af_law_source ?lf_law_source ?cf_law_source ?kf_law_source ?alaw ?llaw ?claw ?klaw ?y_divmod ?y_int ?y_abs ?y_range ?y_tuple ?y_len ?y_isinstance ?y_bool ?y_all ?y_zip ?y_enumerate ?y_repr ?y_max ?y_min ?y_MOST_DRAWS ?y_ONE ?o_ONE ?y_ZERO ?o_ZERO ?y_gcd
    (case af_law_draw => k_is); (case lf_law_draw => k_is); (case cf_law_draw => k_is); (case kf_law_draw => k_is); (case af_law_ratio => k_is); (case lf_law_ratio => k_is); (case cf_law_ratio => k_is); (case kf_law_ratio => k_is); (case af_law_box => k_is); (case lf_law_box => k_is); (case cf_law_box => k_is); (case kf_law_box => k_is); (case af_law_below => k_is); (case lf_law_below => k_is); (case cf_law_below => k_is); (case kf_law_below => k_is); (case af_law_plain => k_is); (case lf_law_plain => k_is); (case cf_law_plain => k_is); (case kf_law_plain => k_is); (case af_law_times => k_is); (case lf_law_times => k_is); (case cf_law_times => k_is); (case kf_law_times => k_is); (case ais_whole => k_is); (case lis_whole => k_is); (case cis_whole => k_is); (case kis_whole => k_is); (case aare_wholes => k_is); (case lare_wholes => k_is); (case care_wholes => k_is); (case kare_wholes => k_is); (case aare_coprime => k_is); (case lare_coprime => k_is); (case care_coprime => k_is); (case kare_coprime => k_is); (case ais_ratio => k_is); (case lis_ratio => k_is); (case cis_ratio => k_is); (case kis_ratio => k_is); (case ais_from_nought => k_is); (case lis_from_nought => k_is); (case cis_from_nought => k_is); (case kis_from_nought => k_is); (case ais_share => k_is); (case lis_share => k_is); (case cis_share => k_is); (case kis_share => k_is); (case aare_shares_all => k_is); (case lare_shares_all => k_is); (case care_shares_all => k_is); (case kare_shares_all => k_is); (case awrong_in_pair => k_is); (case lwrong_in_pair => k_is); (case cwrong_in_pair => k_is); (case kwrong_in_pair => k_is); (case awrong_in_box => k_is); (case lwrong_in_box => k_is); (case cwrong_in_box => k_is); (case kwrong_in_box => k_is); (case acheck_box => k_is); (case lcheck_box => k_is); (case ccheck_box => k_is); (case kcheck_box => k_is); (case ais_below => k_is); (case lis_below => k_is); (case cis_below => k_is); (case kis_below => k_is); (case agreater_of => k_is); (case lgreater_of => k_is); (case cgreater_of => k_is); (case kgreater_of => k_is); (case arising => k_is); (case lrising => k_is); (case crising => k_is); (case krising => k_is); (case alesser_of => k_is); (case llesser_of => k_is); (case clesser_of => k_is); (case klesser_of => k_is); (case afalling_back => k_is); (case lfalling_back => k_is); (case cfalling_back => k_is); (case kfalling_back => k_is); (case aplain_of => k_is); (case lplain_of => k_is); (case cplain_of => k_is); (case kplain_of => k_is); (case alowest => k_is); (case llowest => k_is); (case clowest => k_is); (case klowest => k_is); (case aminus => k_is); (case lminus => k_is); (case cminus => k_is); (case kminus => k_is); (case aover => k_is); (case lover => k_is); (case cover => k_is); (case kover => k_is); (case apowered => k_is); (case lpowered => k_is); (case cpowered => k_is); (case kpowered => k_is); (case awhole => k_is); (case lwhole => k_is); (case cwhole => k_is); (case kwhole => k_is); (case aproduct_up_to => k_is); (case lproduct_up_to => k_is); (case cproduct_up_to => k_is); (case kproduct_up_to => k_is); (case aentry_of => k_is); (case lentry_of => k_is); (case centry_of => k_is); (case kentry_of => k_is); (case atable_of => k_is); (case ltable_of => k_is); (case ctable_of => k_is); (case ktable_of => k_is); (case atimes => k_is); (case ltimes => k_is); (case ctimes => k_is); (case ktimes => k_is); (case arow_less => k_is); (case lrow_less => k_is); (case crow_less => k_is); (case krow_less => k_is); (case arow_scaled => k_is); (case lrow_scaled => k_is); (case crow_scaled => k_is); (case krow_scaled => k_is); (case adeterminant => k_is); (case ldeterminant => k_is); (case cdeterminant => k_is); (case kdeterminant => k_is); (case achance_of => k_is); (case lchance_of => k_is); (case cchance_of => k_is); (case kchance_of => k_is); (case abox_chance => k_is); (case lbox_chance => k_is); (case cbox_chance => k_is); (case kbox_chance => k_is); (case abox_table => k_is); (case lbox_table => k_is); (case cbox_table => k_is); (case kbox_table => k_is); (case af_law_entry => k_is); (case lf_law_entry => k_is); (case cf_law_entry => k_is); (case kf_law_entry => k_is); (case af_law_table => k_is); (case lf_law_table => k_is); (case cf_law_table => k_is); (case kf_law_table => k_is); (case af_law_plus => k_is); (case lf_law_plus => k_is); (case cf_law_plus => k_is); (case kf_law_plus => k_is); (case af_law_determinant => k_is); (case lf_law_determinant => k_is); (case cf_law_determinant => k_is); (case kf_law_determinant => k_is); (case aplain_box => k_is); (case lplain_box => k_is); (case cplain_box => k_is); (case kplain_box => k_is); (case af_law_right => k_is); (case lf_law_right => k_is); (case cf_law_right => k_is); (case kf_law_right => k_is); (case af_law_source => k_is); (case lf_law_source => k_is); (case cf_law_source => k_is); (case kf_law_source => k_is); (case alaw => k_is); (case llaw => k_is); (case claw => k_is); (case klaw => k_is); (case y_divmod => k_is); (case y_int => k_is); (case y_abs => k_is); (case y_range => k_is); (case y_tuple => k_is); (case y_len => k_is); (case y_isinstance => k_is); (case y_bool => k_is); (case y_all => k_is); (case y_zip => k_is); (case y_enumerate => k_is); (case y_repr => k_is); (case y_max => k_is); (case y_min => k_is); (case y_MOST_DRAWS => k_is); (case y_ONE => k_is); (case o_ONE => k_is); (case y_ZERO => k_is); (case o_ZERO => k_is); (case y_gcd => k_is)
  case L => exact fun ns h => LK.law_ok h
