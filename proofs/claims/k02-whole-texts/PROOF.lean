import PyProof.Rows.All
import Wide.All
import OpenK.AllK
import Wide.FinOn
import HandS.ForMost
import HandS.ForExc
import HandS.TupAny
import HandS.TupMul
import HandS.Wide
import HandS.IsInst
import HandS.Rev
import HandS.Zip
import HandS.Walk
import HandS.Deep
import HandS.Strs
import HandS.Flow
import HandS.Style
import HandS.Sort
import HandS.TryOnly
import HandS.ExcIs
import KE.GoesMore
import KE.GoesNew
import KE.DataMinMax
import HandS.OwnIter
import KE.GoesComp
import KE.GoesRaise
import HandS.WordsExc
import HandS.Ends
import HandS.Codes
import HandS.Text
import PySem.Challenge.RW_pactkeep_k02_whole_texts
set_option Elab.async false
set_option linter.all false
set_option maxRecDepth 100000
set_option maxHeartbeats 4000000
/-! plain data over the layer: tuples whose object is known to bear no dict -/
namespace Pu
open PySem PySem.Spec PyProof.Rows L2

/-- a tuple whose object is known and has no dict -/
def PTup (H : Hp) (a : Addr) (xs : List V) : Prop := ∃ o : Obj, H a = some (.frz o (.tup xs)) ∧ o.cls = .type "tuple" ∧ o.dict = none
theorem PTup.sq {K : PySem.W.Frag} {H : Hp} {a : Addr} {xs : List V} (h : PTup H a xs) : SqT K H a xs := by
  obtain ⟨o, e, _, _⟩ := h
  exact .inl (.inr ⟨o, e⟩)
theorem PTup.mono {H H' : Hp} {a : Addr} {xs : List V} (s : Same H H') (h : PTup H a xs) : PTup H' a xs := by
  obtain ⟨o, e, r⟩ := h
  exact ⟨o, s _ _ e, r⟩

mutual
inductive Dq (K : PySem.W.Frag) (H : Hp) : V → PyData → Prop
  | non : Dq K H .non .none
  | bl (b : Bool) : Dq K H (.bl b) (.bool b)
  | int (i : Int) : Dq K H (.int i) (.int i)
  | str (x : Str) : Dq K H (.str x) (.str x)
  | lst {a : Addr} {xs : List V} {ds : List PyData} : SqL K H a xs → DqAll K H xs ds → Dq K H (.ref a) (.list ds)
  | tup {a : Addr} {xs : List V} {ds : List PyData} : PTup H a xs → DqAll K H xs ds → Dq K H (.ref a) (.tuple ds)
inductive DqAll (K : PySem.W.Frag) (H : Hp) : List V → List PyData → Prop
  | nil : DqAll K H [] []
  | cons {v : V} {vs : List V} {d : PyData} {ds : List PyData} : Dq K H v d → DqAll K H vs ds → DqAll K H (v :: vs) (d :: ds)
end
section
variable {K : PySem.W.Frag} {H H' : Hp}
mutual
theorem Dq.mono (s : Same H H') : ∀ (d : PyData) (v : V), Dq K H v d → Dq K H' v d
  | .none, _, h => by cases h; exact .non
  | .bool b, _, h => by cases h; exact .bl b
  | .int i, _, h => by cases h; exact .int i
  | .str x, _, h => by cases h; exact .str x
  | .list ds, _, h => by
    cases h with
    | lst hs ha => exact .lst (s.seq hs) (DqAll.mono s ds _ ha)
  | .tuple ds, _, h => by
    cases h with
    | tup hs ha => exact .tup (hs.mono s) (DqAll.mono s ds _ ha)
  | .dict _, _, h => by cases h
theorem DqAll.mono (s : Same H H') : ∀ (ds : List PyData) (vs : List V), DqAll K H vs ds → DqAll K H' vs ds
  | [], _, h => by cases h; exact .nil
  | d :: ds, _, h => by
    cases h with
    | cons h1 h2 => exact .cons (Dq.mono s d _ h1) (DqAll.mono s ds _ h2)
end
mutual
theorem Dq.dp : ∀ (d : PyData) (v : V), Dq K H v d → Dp K H v d
  | .none, _, h => by cases h; exact .non
  | .bool b, _, h => by cases h; exact .bl b
  | .int i, _, h => by cases h; exact .int i
  | .str x, _, h => by cases h; exact .str x
  | .list ds, _, h => by
    cases h with
    | lst hs ha => exact .lst hs (DqAll.dp ds _ ha)
  | .tuple ds, _, h => by
    cases h with
    | tup hs ha => exact .tup hs.sq (DqAll.dp ds _ ha)
  | .dict _, _, h => by cases h
theorem DqAll.dp : ∀ (ds : List PyData) (vs : List V), DqAll K H vs ds → DpAll K H vs ds
  | [], _, h => by cases h; exact .nil
  | d :: ds, _, h => by
    cases h with
    | cons h1 h2 => exact .cons (Dq.dp d _ h1) (DqAll.dp ds _ h2)
end
theorem DqAll.length : ∀ {vs : List V} {ds : List PyData}, DqAll K H vs ds → vs.length = ds.length
  | _, _, .nil => rfl
  | _, _, .cons _ t => congrArg (· + 1) (DqAll.length t)
theorem DqAll.get : ∀ {vs : List V} {ds : List PyData} {i : Nat} {v : V}, DqAll K H vs ds → vs[i]? = some v → ∃ d, ds[i]? = some d ∧ Dq K H v d
  | _, _, _, _, .nil, e => by simp at e
  | _, _, 0, _, .cons r _, e => by
    have e' := Option.some.inj e
    subst e'
    exact ⟨_, rfl, r⟩
  | _, _, i + 1, v, .cons _ t, e => by
    obtain ⟨d, h1, h2⟩ := DqAll.get (i := i) (v := v) t (by simpa using e)
    exact ⟨d, by simpa using h1, h2⟩
theorem DqAll.get' : ∀ {vs : List V} {ds : List PyData} {i : Nat} {d : PyData}, DqAll K H vs ds → ds[i]? = some d → ∃ v, vs[i]? = some v ∧ Dq K H v d
  | _, _, _, _, .nil, e => by simp at e
  | _, _, 0, _, .cons r _, e => by
    have e' := Option.some.inj e
    subst e'
    exact ⟨_, rfl, r⟩
  | _, _, i + 1, d, .cons _ t, e => by
    obtain ⟨v, h1, h2⟩ := DqAll.get' (i := i) (d := d) t (by simpa using e)
    exact ⟨v, by simpa using h1, h2⟩
theorem DqAll.append : ∀ {vs ws : List V} {ds es : List PyData}, DqAll K H vs ds → DqAll K H ws es → DqAll K H (vs ++ ws) (ds ++ es)
  | _, _, _, _, .nil, s => s
  | _, _, _, _, .cons r t, s => .cons r (DqAll.append t s)
theorem DqAll.take : ∀ {vs : List V} {ds : List PyData} (n : Nat), DqAll K H vs ds → DqAll K H (vs.take n) (ds.take n)
  | _, _, 0, _ => .nil
  | _, _, _ + 1, .nil => .nil
  | _, _, n + 1, .cons r t => .cons r (DqAll.take n t)
theorem DqAll.drop : ∀ {vs : List V} {ds : List PyData} (n : Nat), DqAll K H vs ds → DqAll K H (vs.drop n) (ds.drop n)
  | _, _, 0, r => r
  | _, _, _ + 1, .nil => .nil
  | _, _, n + 1, .cons _ t => DqAll.drop n t
theorem DqAll.set {v : V} {d : PyData} (r : Dq K H v d) : ∀ {vs : List V} {ds : List PyData} (i : Nat), DqAll K H vs ds → DqAll K H (vs.set i v) (ds.set i d)
  | _, _, _, .nil => .nil
  | _, _, 0, .cons _ t => .cons r t
  | _, _, i + 1, .cons q t => .cons q (DqAll.set r i t)
theorem DqAll.dropLast : ∀ {vs : List V} {ds : List PyData}, DqAll K H vs ds → DqAll K H vs.dropLast ds.dropLast
  | _, _, .nil => .nil
  | _, _, .cons _ .nil => .nil
  | _, _, .cons r (.cons q t) => .cons r (DqAll.dropLast (.cons q t))
theorem DqAll.rep {vs : List V} {ds : List PyData} (h : DqAll K H vs ds) : ∀ k : Nat, DqAll K H (List.replicate k vs).flatten (List.replicate k ds).flatten
  | 0 => .nil
  | k + 1 => by
    rw [List.replicate_succ, List.replicate_succ, List.flatten_cons, List.flatten_cons]
    exact DqAll.append h (DqAll.rep h k)
theorem DqAll.ints : ∀ {vs : List V} {ns : List Int}, DqAll K H vs (ns.map PyData.int) → vs = ns.map V.int
  | _, [], h => by cases h; rfl
  | _, n :: ns, h => by
    cases h with
    | cons r t =>
      cases r
      rw [DqAll.ints t, List.map_cons]
theorem DqAll.of_ints : ∀ (ns : List Int), DqAll K H (ns.map V.int) (ns.map PyData.int)
  | [] => .nil
  | n :: ns => .cons (.int n) (DqAll.of_ints ns)
theorem DqAll.bls : ∀ {vs : List V} {ns : List Bool}, DqAll K H vs (ns.map PyData.bool) → vs = ns.map V.bl
  | _, [], h => by cases h; rfl
  | _, n :: ns, h => by
    cases h with
    | cons r t =>
      cases r
      rw [DqAll.bls t, List.map_cons]
theorem DqAll.strs : ∀ {vs : List V} {ns : List Str}, DqAll K H vs (ns.map PyData.str) → vs = ns.map V.str
  | _, [], h => by cases h; rfl
  | _, n :: ns, h => by
    cases h with
    | cons r t =>
      cases r
      rw [DqAll.strs t, List.map_cons]
end

/-! ### tuples are made -/
abbrev tupO (us : List Value) : Obj := { cls := .type "tuple", data := .seq us.toArray }
/-- what is wanted of a new tuple of xs -/
def NewT (xs : List V) (H : Hp) (Q : VK) : Prop := ∀ p o, H p = none → o.cls = .type "tuple" → o.dict = none → Q (.ref p) (upd H p (.frz o (.tup xs)))
section
variable {X : Cx} {pins : List (Addr × Obj)} {σ : L2.St} {H : Hp} {s : Shared}
theorem newT_of {E : Shared → Prop} {xs : List V} {us : List Value} {Q : VK} {h' : Heap} {t' : Nat} (I : Inv X pins σ H s) (kp : ∀ b o, s.heap.get? b = some o → h'.get? b = some o) (r : Vals xs us) (hz : xs.length ≤ sizeLine) (q : NewT xs H Q) :
    EP X pins σ Q (.ref h'.objs.size) { s with heap := h'.push (tupO us), toks := t' } := by
  have hf : H h'.objs.size = none := (I.kept (t' := s.toks) kp).hok.fresh (Nat.le_refl _)
  have I1 : Inv X pins σ H { s with heap := h', toks := t' } := I.kept kp
  have I2 : Inv X pins σ (upd H h'.objs.size (.frz (tupO us) (.tup xs))) { s with heap := h'.push (tupO us), toks := t' } :=
    I1.laid (t' := t') (fun b o e => Heap.get?_push_of_some _ e) (Nat.le_refl _) (show ObjOk X.prog X.w _ _ _ (.frz (tupO us) (.tup xs)) from ⟨Heap.get?_push_size _ rfl, hz, us, r, IsTup.new _ _⟩)
  exact ⟨.ref h'.objs.size, _, I2, rfl, q _ (tupO us) hf rfl rfl⟩
end
section
variable {X : Cx} {e : Expr} {es : List Expr} {te : TE} {t : TA} {pos : Pos}
def tTupP (t : TA) : TE := fun σ H Q => t σ H fun xs H1 => xs.length ≤ sizeLine ∧ NewT xs H1 Q
theorem pe_tupP {x1} (h : PA X es t) : PE X (.Tuple es x1 pos) (tTupP t) := by
  refine ⟨fun pins s σ H Q I hq => ?_⟩
  refine wpAny_Tuple_spliced (thn (h.run pos pins s σ H _ I hq) fun us s1 ⟨xs, H1, I1, r, z, q⟩ => ⟨by rw [← r.length]; exact z, ?_⟩)
  exact newT_of (E := fun _ => True) (h' := s1.heap) (t' := s1.toks) I1 (fun _ _ e => e) r z q
/-- tuple(list), tuple(tuple) -/
def rTupOf (K : PySem.W.Frag) : List V → Hp → VK → Prop := fun xs H Q => ∃ p ys, xs = [.ref p] ∧ ((SqL K H p ys ∧ NewT ys H Q) ∨ (SqT K H p ys ∧ Q (.ref p) H))
theorem call_tupleP : CallR X (.type "tuple") (rTupOf X.K) := by
  intro pins s σ H xs us Q I r h
  obtain ⟨p, ys, rfl, h⟩ := h
  obtain ⟨u, rfl, rx⟩ := vals1 r
  cases rx
  rcases h with ⟨hq, q⟩ | ⟨hq, q⟩
  · obtain ⟨its, r', pl, hz⟩ := I.list hq
    have hlen := r'.length
    refine call_tuple_list pl.isList (fun h' kp => ?_) (by simp only [List.size_toArray] <;> omega)
    exact newT_of (E := fun _ => True) (h' := h') (t' := s.toks) I kp r' hz q
  · obtain ⟨its, r', pl, hz⟩ := I.tuple hq
    exact call_tuple_same pl ⟨.ref p, H, I, rfl, q⟩
/-- t + u -/
def rCatP (K : PySem.W.Frag) : R2 := fun x y H Q => ∃ a b xs ys, x = .ref a ∧ y = .ref b ∧ SqT K H a xs ∧ SqT K H b ys ∧ xs.length + ys.length ≤ sizeLine ∧
  (xs = [] → Q (.ref b) H) ∧ (xs ≠ [] → ys = [] → Q (.ref a) H) ∧ (xs ≠ [] → ys ≠ [] → NewT (xs ++ ys) H Q)
theorem op_catP : OpR X (binaryOp .Add) (rCatP X.K) := by
  intro pins s σ H x y v u Q I rx ry h
  obtain ⟨a, b, xs, ys, rfl, rfl, ha, hb, hz, q0, q1, q2⟩ := h
  cases rx
  cases ry
  obtain ⟨its, r1, p1, _⟩ := I.tuple ha
  obtain ⟨its2, r2, p2, _⟩ := I.tuple hb
  by_cases hx : xs = []
  · subst hx
    cases r1
    exact cat_tup0 p1 p2 ⟨.ref b, H, I, rfl, q0 rfl⟩
  · refine HT.cat_tup p1 p2 (fun z => hx (r1.nil_iff.mp z)) (fun z => ⟨.ref a, H, I, rfl, q1 hx (r2.nil_iff.mp z)⟩) (fun z => ?_) (by rw [← r1.length, ← r2.length]; exact hz)
    exact newT_of (E := fun _ => True) (h' := s.heap) (t' := s.toks) I (fun _ _ e => e) (r1.append r2) (by rw [List.length_append]; exact hz) (q2 hx fun w => z (r2.nil_iff.mpr w))
/-- t[lo:hi] -/
def Whole (n : Nat) (lo hi : Option Int) : Prop := HT.sIx n 0 lo = 0 ∧ HT.sIx n n hi = n
def rSlP (K : PySem.W.Frag) : V → Option Int → Option Int → Hp → VK → Prop := fun x lo hi H Q => ∃ a xs, x = .ref a ∧ SqT K H a xs ∧ (Whole xs.length lo hi → Q (.ref a) H) ∧ (¬ Whole xs.length lo hi → NewT (cutV xs lo hi) H Q)
theorem sl_tupP : SlR X (rSlP X.K) := by
  intro pins s σ H x v vl vu lo hi sl Q I rx hs pl pu h
  obtain ⟨a, xs, rfl, hx, q1, q2⟩ := h
  cases rx
  obtain ⟨its, r, ht, hz⟩ := I.tuple hx
  have hlen : its.toArray.size = xs.length := by rw [List.size_toArray]; exact r.length.symm
  refine ⟨"tuple", _, PyProof.Rows.slot_tuple_getitem.lookup, ht.typeIs, ?_⟩
  by_cases hw : Whole xs.length lo hi
  · exact getItem_tuple_whole ht hs pl pu (by rw [hlen]; exact hw) ⟨.ref a, H, I, rfl, q1 hw⟩
  · refine HT.getItem_tuple_cut ht hs pl pu (by rw [hlen]; exact hw) ?_ (by rw [hlen]; exact hz)
    rw [hlen]
    exact newT_of (E := fun _ => True) (h' := s.heap) (t' := s.toks) I (fun _ _ e => e) ((r.drop (HT.sIx xs.length 0 lo)).take (HT.sIx xs.length xs.length hi - HT.sIx xs.length 0 lo)) (Nat.le_trans (cutV_length xs lo hi) hz) (q2 hw)
/-- t * n -/
def rRepP (K : PySem.W.Frag) : R2 := fun x y H Q => ∃ l k xs, x = .ref l ∧ y = .int k ∧ SqT K H l xs ∧ xs ≠ [] ∧ 2 ≤ k ∧ k ≤ 1000 ∧ xs.length ≤ 1000 ∧ NewT (List.replicate k.toNat xs).flatten H Q
theorem op_repP : OpR X (binaryOp .Mult) (rRepP X.K) := by
  intro pins s σ H x y v u Q I rx ry h
  obtain ⟨l, k, xs, rfl, rfl, hT, hne, h1, h2, hz, q⟩ := h
  cases rx
  obtain ⟨t, rfl⟩ := ry
  obtain ⟨its, r, ⟨⟨cls, dd, data, sl⟩, ho, hc, n, hd⟩, hs⟩ := I.tuple hT
  simp only at hc hd
  subst hc hd
  have hle : its.length = xs.length := r.length.symm
  have hn : its ≠ [] := fun e => hne (by
    rw [e] at hle
    exact List.eq_nil_of_length_eq_zero hle.symm)
  have hi : its.toArray.isEmpty = false := by
    cases its with
    | nil => exact absurd rfl hn
    | cons a b => rfl
  have hsz0 : its.toArray.size = xs.length := by rw [List.size_toArray, hle]
  have hm : ((its.toArray.size : Nat) : Int) * k ≤ 1000000 := by
    rw [hsz0]
    have a1 : ((xs.length : Nat) : Int) * k ≤ 1000 * k := Int.mul_le_mul_of_nonneg_right (by omega) (by omega)
    omega
  have flen : (List.replicate k.toNat its).flatten.length ≤ sizeLine := by
    rw [PyProof.Rows.lm_len_rep_flat, hle, sizeLine_eq]
    have a1 : k.toNat * xs.length ≤ 1000 * 1000 := Nat.mul_le_mul (by omega) hz
    omega
  have c0 : (decide (k < -(2 ^ 63)) || decide (k ≥ 2 ^ 63)) = false := by
    rw [decide_eq_false (by omega), decide_eq_false (by omega)] <;> rfl
  have c1 : (its.toArray.isEmpty || k == 1) = false := by
    rw [hi, Bool.false_or]
    exact beq_eq_false_iff_ne.mpr (by omega)
  have c2 : (decide (k ≤ 0) || its.toArray.isEmpty) = false := by
    rw [hi, Bool.or_false]
    exact decide_eq_false (by omega)
  have c4 : Builtin.Tuple.tupleTooMany (((its.toArray.size : Nat) : Int) * k) = false := by
    unfold Builtin.Tuple.tupleTooMany
    rw [sizeLine_eq]
    exact decide_eq_false (by omega)
  refine wpAny_binaryOp_repeat_ref (T := "tuple") (U := "int") (by decide) ⟨_, ho, rfl⟩ (fun s' => typeIs_int s' k t) noFill_tuple_mul F.fills_int_mul F.slot_int_rmul repeat_tuple F.slot_int_index.lookup
    (call_meets F.slot_int_rmul (typeIs_int s k t) F.entry_int_rmul (F.args_int_rmul_2 _ _) (int_rmul_tuple k t l its.toArray n dd sl)
      ⟨ho, rfl, ⟨_, ho, rfl⟩, call_meets F.slot_tuple_mul ⟨_, ho, rfl⟩ F.entry_tuple_mul (F.args_tuple_mul_2 _ _) (tuple_mulW l its.toArray n dd sl k t c0 c1 c2 (by omega) c4 (by rw [size_rep, List.size_toArray]; exact flen)) ⟨ho, ?_⟩⟩)
  rw [size_rep]
  exact newT_of (E := fun _ => True) (h' := s.heap) (t' := s.toks) I (fun _ _ e => e) (r.rep k.toNat) (by rw [PyProof.Rows.lm_len_rep_flat, sizeLine_eq]; have a1 : k.toNat * xs.length ≤ 1000 * 1000 := Nat.mul_le_mul (by omega) hz; omega) q
end

/-! ### t.index(x), x in t, by data -/
section
variable {X : Cx}
def rIndexT (K : PySem.W.Frag) : V → List V → Hp → VK → Prop := fun x xs H Q => ∃ (a : Addr) (y : V) (d : PyData) (ys : List V) (ds : List PyData) (j : Nat) (z : PyData), x = V.ref a ∧ xs = [y] ∧ PTup H a ys ∧ DpAll K H ys ds ∧ Dp K H y d ∧
  SeqAt.shaped (.list ds) = true ∧ SeqAt.shaped d = true ∧ ds[j]? = some z ∧ PyData.eqv z d = true ∧ (∀ (m : Nat) (z' : PyData), m < j → ds[m]? = some z' → PyData.eqv z' d = false) ∧ Q (.int (j : Nat)) H
theorem mt_indexT (hu : X.A.units + 65 < cLine) : MtR X "tuple.index" (rIndexT X.K) := by
  intro pins s σ H x xs v us Q I rx rxs h
  obtain ⟨a, y, d, ys, ds, j, z, rfl, rfl, hl, ha, hy, sl, sd, hz, hzj, hno, q⟩ := h
  cases rx
  cases rxs with
  | cons ry rt =>
    rename_i uy ut
    cases rt
    obtain ⟨bs, r1⟩ := Dp.reads I d y uy hy ry
    have hxs : PyData.canLayAll0 ds = true := by
      have := SeqAt.canLay_of_shaped sl
      simpa [PyData.canLay0] using this
    have hroom : X.A.units + 1 + min (PyData.depthAll ds) d.depth < cLine := room_in_shaped sd hu
    obtain ⟨its, rv, ⟨⟨cls, dd, data, sls⟩, ho, hc, n, hdt⟩, hlen⟩ := I.tuple (show SqT X.K H a ys from hl.sq)
    simp only at hc hdt
    subst hc hdt
    obtain ⟨as, h4⟩ := Dp.readsAll I ds _ its ha rv
    have hn : its.length = ds.length := SeqAt.ReadsAll.length ds its as h4
    have hmap : its.map (SeqAt.readOf s.heap) = ds := SeqAt.readsAll_map ds its as hxs h4
    have hsl := sizeLine_eq
    obtain ⟨hjd, _⟩ := List.getElem?_eq_some_iff.mp hz
    have hjl : j < its.length := by omega
    have hj : j < its.toArray.size := by simpa using hjl
    have at_ : ∀ (m : Nat) (hm : m < its.toArray.size) (z' : PyData), ds[m]? = some z' → SeqAt.readOf s.heap its.toArray[m] = z' := by
      intro m hm z' hz'
      have hml : m < its.length := by simpa using hm
      rw [← hmap, List.getElem?_map, List.getElem?_eq_getElem hml] at hz'
      have e1 : SeqAt.readOf s.heap its[m] = z' := Option.some.inj (show some (SeqAt.readOf s.heap its[m]) = some z' from hz')
      simpa using e1
    have eqs := SeqAt.items_eqAt (vs := its.toArray) (show ReadsAll s.heap its.toArray.toList ds as from h4) r1 hxs (SeqAt.canLay_of_shaped sd) hroom
    refine call_meets PySem.F.slot_tuple_index ⟨_, ho, rfl⟩ PySem.F.entry_tuple_index (PySem.F.args_tuple_index_2 _ _)
      (TI.tuple_indexAt a its.toArray n dd sls uy (fun u => PyData.eqv (SeqAt.readOf s.heap u) d) j hj ?_ ?_) ⟨ho, fun y hy => eqs y hy, ?_⟩
    · show PyData.eqv (SeqAt.readOf s.heap its.toArray[j]) d = true
      rw [at_ j hj z hz]
      exact hzj
    · intro m hm hmj
      have hmd : m < ds.length := by
        have hml : m < its.length := by simpa using hm
        omega
      have hz' : ds[m]? = some ds[m] := List.getElem?_eq_getElem hmd
      show PyData.eqv (SeqAt.readOf s.heap its.toArray[m]) d = false
      rw [at_ m hm _ hz']
      exact hno m _ hmj hz'
    · exact ⟨.int (j : Nat), H, I.tok _, ⟨_, rfl⟩, q⟩
end
end Pu

/-! further rules: enumerate of tuples, walks of a list or a tuple, in, index -/
namespace Pu
open PySem PySem.Spec L2
open PyProof.Rows (room_in_shaped)
open PySem.W (AlikeAll maxD max_list_data)

set_option maxHeartbeats 1000000 in
theorem meets_enum1 {v : Value} {o : Obj} {H : Heap → Prop} (B : Begins v o H) :
    Meets (Builtin.«enumerate.__new__» ⟨[.type "enumerate", v], []⟩) (fun _ R s => H s.heap ∧
      R (.ok (.ret (.ref (s.heap.push o).objs.size))) { s with heap := (s.heap.push o).push { cls := .type "enumerate", data := .fields #[.none, .bool false, .ref s.heap.objs.size, rawInt 0, .none, .none] } }) :=
  .of_wp fun prog w A R s h => by
    obtain ⟨hp, g, d, tk, os⟩ := s; obtain ⟨h1, h⟩ := h
    have hsub := sub_enumerate
    have q1 : ∀ {A' : Around} {E : Value → Shared → Prop} {Q : Value → Shared → Prop}, Q (.ref hp.objs.size) ⟨hp.push o, g, d, tk, os⟩ → wpAny (model prog w) A' (pyIter v) Q E ⟨hp, g, d, tk, os⟩ :=
      fun q => B.iter prog w _ _ ⟨hp, g, d, tk, os⟩ _ h1 q
    wp_walk using q1
    refine wpAny_stack_any fun st => wpAny_pure ?_
    split
    · rename_i c _ _ _ _ _
      cases (c == Value.type "enumerate")
      · wp_walk using q1
        exact ⟨_, rfl, h⟩
      · wp_walk using q1
        exact ⟨_, rfl, h⟩
    · wp_walk using q1
      exact ⟨_, rfl, h⟩
section
variable {prog : Program} {w : World} {A : Around} {E : Value → Shared → Prop} {s : Shared}
theorem call_enum1 {v : Value} {o : Obj} {H : Heap → Prop} {Q : Value → Shared → Prop} (B : Begins v o H) (h1 : H s.heap)
    (h : ∀ h', IsEnum h' (s.heap.objs.size + 1) s.heap.objs.size 0 .none → h'.get? s.heap.objs.size = some o → h'.objs.size = s.heap.objs.size + 2 →
      (∀ b o, s.heap.get? b = some o → h'.get? b = some o) → Q (.ref (s.heap.objs.size + 1)) { s with heap := h' }) :
    wpAny (model prog w) A (call (.type "enumerate") [v]) Q E s := by
  refine callType_new F.called_enumerate (by decide) (F.typeCall_enumerate_1 _) (F.newCall_enumerate_1 _) (fun obj => F.args_object_init_2 obj _) F.entry_enumerate_new
    (meets_enum1 B) ⟨h1, ?_⟩
  have hz : (s.heap.push o).objs.size = s.heap.objs.size + 1 := Heap.size_push ..
  show _ ∧ _
  rw [hz]
  have he : IsEnum ((s.heap.push o).push { cls := .type "enumerate", data := .fields #[.none, .bool false, .ref s.heap.objs.size, rawInt 0, .none, .none] }) (s.heap.objs.size + 1) s.heap.objs.size 0 .none := by
    have := Heap.get?_push_size (s.heap.push o) (o := { cls := .type "enumerate", data := .fields #[.none, .bool false, .ref s.heap.objs.size, rawInt 0, .none, .none] }) rfl
    rw [hz] at this; exact this
  refine ⟨⟨_, he, rfl⟩, h _ he (Heap.get?_push_of_some _ (Heap.get?_push_size _ B.free)) (by rw [Heap.size_push, hz]) fun b o x => Heap.get?_push_of_some _ (Heap.get?_push_of_some _ x)⟩
end

/-- the tuple at a as it stands at each turn, each item in a new pair -/
def IteT (K : PySem.W.Frag) (a : Addr) : It :=
  ⟨fun i H => ∃ (xs : List V) (x : V), SqT K H a xs ∧ xs[i]? = some x, fun i H v H' => ∃ T x, v = .ref T ∧ H T = none ∧ H' = upd H T (.tup [.int (i : Nat), x]) ∧ ∀ xs, SqT K H a xs → xs[i]? = some x, fun i H => ∃ xs : List V, SqT K H a xs ∧ xs.length = i⟩
theorem turn_enumT {P : Program} {w : World} {K : PySem.W.Frag} {elts : List Expr} {kk : Nat} {tpos : Pos} (a e it : Addr) (hae : a ≠ e) (hai : a ≠ it) :
    Turn P w K (.Tuple elts kk tpos) (IteT K a) [e, it] e (fun i h => (∃ old, IsEnum h e it ((i : Nat) : Int) old) ∧ h.IsTupleIter it a i ∧ e ≠ it) where
  mem := by simp
  obj := fun i h st b hb => by
    obtain ⟨⟨old, he⟩, ⟨o, ho, hc, hd⟩, _⟩ := st
    have e' : b = e ∨ b = it := by simpa using hb
    rcases e' with z | z
    · rw [z]; exact ⟨_, he, fun v q => nomatch q⟩
    · rw [z]; exact ⟨o, ho, fun v q => by rw [hd] at q; cases q⟩
  keep := fun i h h' st k => let ⟨⟨old, he⟩, hi, hne⟩ := st; ⟨⟨old, k e (by simp) _ he⟩, hi.at fun o q => k it (by simp) o q, hne⟩
  item := by
    intro X hP hw hK hc i pins s σ H E I hf st hg
    subst hP hw hK
    obtain ⟨⟨old, he⟩, hit, hne⟩ := st
    obtain ⟨xs, x, hq, hx⟩ := hg
    obtain ⟨its, rv, p, hz⟩ := I.tuple hq
    obtain ⟨u, hu, ru⟩ := rv.get hx
    have hel : e < s.heap.objs.size := Heap.lt_size he
    have hil : it < s.heap.objs.size := by obtain ⟨_, q, _⟩ := hit; exact Heap.lt_size q
    have hp : s.heap.IsTuple a its.toArray := p
    have hi : i < its.toArray.size := by
      have := (List.getElem?_eq_some_iff.mp hu).1
      simpa using this
    refine wpAny_pyNext_enum_itemD (Draws.tuple (prog := X.prog) (w := X.w) (A := X.A.in1) (I.ok.hd hc) it a hai its.toArray) he ⟨hit, hp⟩ hi hne (by simp; exact ⟨hne, Ne.symm hae⟩) fun y h' tk hy ho hst' hT hsz hk => ?_
    have hyu : y = u := by
      have hy' : its.toArray[i]? = some y := hy
      have : its.toArray[i]? = some u := by simpa using hu
      rw [this] at hy'
      exact (Option.some.inj hy').symm
    subst hyu
    refine ⟨_, rfl, wpAny_letOwnedTupleGo_enum (s := { s with heap := h', toks := tk + 1 }) ho fun h'' he' sb => ?_⟩
    have hT2 : h''.get? s.heap.objs.size = some { cls := .type "tuple", data := .seq #[.int i tk, y] } := (sb.2 _ (Nat.ne_of_gt hel)).trans hT
    have new : ObjOk X.prog X.w (upd H s.heap.objs.size (.tup [.int (i : Nat), x])) h'' s.heap.objs.size (.tup [.int (i : Nat), x]) :=
      ⟨by show 2 ≤ sizeLine; decide, [.int i tk, y], .cons ⟨_, rfl⟩ (.cons ru .nil), ⟨_, hT2, rfl, _, rfl⟩⟩
    have I1 : L2.Inv X pins σ (upd H s.heap.objs.size (.tup [.int (i : Nat), x])) { s with heap := h'', toks := tk + 1 } :=
      I.turnedNew (ch := [e, it]) (fun b ob hb q => (sb.2 b (fun z => hb (by simp [z]))).trans (hk b ob (fun z => hb (by simp [z])) (fun z => hb (by simp [z])) q)) hf (Nat.le_refl _) new
    refine ⟨.ref s.heap.objs.size, _, I1, rfl, ⟨_, x, rfl, I.hok.fresh (Nat.le_refl _), rfl, fun ys hy => by rw [I.tuple_inj hy hq]; exact hx⟩, ⟨⟨y, ?_⟩, hst'.1.at fun o q => (sb.2 it (Ne.symm hne)).trans q, hne⟩, fun b hb => ?_⟩
    · have e1 : ((i + 1 : Nat) : Int) = (i : Int) + 1 := by omega
      rw [e1]; exact he'
    · have hb' : b < s.heap.objs.size := by
        have e' : b = e ∨ b = it := by simpa using hb
        rcases e' with z | z
        · rw [z]; exact hel
        · rw [z]; exact hil
      rw [upd_ne (Nat.ne_of_lt hb')]
      exact (hf b hb).1
  done := by
    intro X hP hw hK hc i pins s σ H E I hf st hg
    subst hP hw hK
    obtain ⟨⟨old, he⟩, hit, hne⟩ := st
    obtain ⟨xs, hq, hx⟩ := hg
    obtain ⟨its, rv, p, hz⟩ := I.tuple hq
    obtain ⟨f0, f1, f2, f3, f4, f5⟩ := hf it (by simp)
    have hl := rv.length
    have hp : s.heap.IsTuple a its.toArray := p
    subst hx
    have hl2 : its.toArray.size = xs.length := by rw [List.size_toArray]; exact hl.symm
    exact wpAny_pyNext_enum_endD (Draws.tuple (prog := X.prog) (w := X.w) (A := X.A.in1) (I.ok.hd hc) it a hai its.toArray) he (show (fun i h => h.IsTupleIter it a i ∧ h.IsTuple a its.toArray) its.toArray.size s.heap by rw [hl2]; exact ⟨hit, hp⟩) fun h' eb => ⟨rfl, I.turned (t' := s.toks) (fun b o hb q => eb b o hb q) f0 f1 f3 f4 f5⟩
  self := fun A i s Q E st h => let ⟨⟨_, he⟩, _⟩ := st; wpAny_pyIter_enum he h
theorem walk_enumT {K : PySem.W.Frag} {a : Addr} {xs : List V} : Walk (IteT K a) xs.length (fun H => SqT K H a xs) (YPair (fun i => some (.int (i : Nat))) (fun i => xs[i]?)) :=
  ⟨fun i H hi h => ⟨xs, xs[i], h, List.getElem?_eq_getElem hi⟩, fun H h => ⟨xs, h, rfl⟩, fun i H x H' hi h y => by
    obtain ⟨T, z, e1, e2, e3, e4⟩ := y
    exact ⟨T, _, z, e1, e2, e3, rfl, e4 xs h⟩⟩
/-- enumerate of a list or a tuple -/
def iEnumA (K : PySem.W.Frag) (te : TE) : TI := fun σ H R => te σ H fun v H1 => ∃ (a : Addr) (xs : List V), [v] = [V.ref a] ∧ ((SqL K H1 a xs ∧ R (Ite K a) H1) ∨ (SqT K H1 a xs ∧ R (IteT K a) H1))
theorem pi_enumA {X : Cx} {e : Expr} {te : TE} {p pos tpos : Pos} {elts : List Expr} {kk : Nat} (hg : Gl X "enumerate") (hm : X.mg "enumerate" = none) (he : PE X e te) (hs : starEach [e] X.env = [(false, eval e X.env)]) :
    PI X (.Tuple elts kk tpos) (.Call (.Name "enumerate" p) [e] [] pos) (iEnumA X.K te) := by
  have ha : PA X [e] (tCons te tNil) := pa_cons he pa_nil (by rw [hs]; rfl)
  refine ⟨fun pins s σ H R I h => ?_⟩
  have h' : (tCons te tNil) σ H (fun vs H1 => ∃ (a : Addr) (xs : List V), vs = [.ref a] ∧ ((SqL X.K H1 a xs ∧ R (Ite X.K a) H1) ∨ (SqT X.K H1 a xs ∧ R (IteT X.K a) H1))) := h
  refine PyProof.Rows.Call_ (ld_blt I hg hm PyProof.Rows.boot_enumerate (PyProof.Rows.callWith_type1 (thn (ha.run pos pins s σ H _ I h') fun us s1 ⟨vs, H1, I1, r1, q1⟩ => ?_) hs rfl))
  obtain ⟨a, xs, ex, q1⟩ := q1
  subst ex
  cases r1 with
  | cons r rr =>
    cases rr
    cases r
    have fr2 : ∀ b ∈ [s1.heap.objs.size + 1, s1.heap.objs.size], FpOk X pins H1 b := fun b hb => by
      have e' : b = s1.heap.objs.size + 1 ∨ b = s1.heap.objs.size := by simpa using hb
      have hle : s1.heap.objs.size ≤ b := by
        rcases e' with z | z
        · rw [z]; exact Nat.le_add_right _ _
        · rw [z]; exact Nat.le_refl _
      exact I1.fpOk hle (I1.hok.fresh hle)
    rcases q1 with ⟨hq, q⟩ | ⟨hq, q⟩
    · obtain ⟨its, rv, p', hz⟩ := I1.list hq
      refine call_enumerate_list p'.isList fun h' he hit hsz hk => wpAny_pyIter_enum he ?_
      have I2 : L2.Inv X pins σ H1 { s1 with heap := h' } := I1.kept (t' := s1.toks) hk
      exact ⟨s1.heap.objs.size + 1, [s1.heap.objs.size + 1, s1.heap.objs.size], _, _, H1, rfl, I2, turn_enum a (s1.heap.objs.size + 1) s1.heap.objs.size, ⟨⟨.none, he⟩, hit, Nat.succ_ne_self _⟩, fr2, q⟩
    · obtain ⟨its, rv, p', hz⟩ := I1.tuple hq
      have hp : s1.heap.IsTuple a its.toArray := p'
      have hlt : a < s1.heap.objs.size := by
        obtain ⟨o, ho, _⟩ := p'
        exact Heap.lt_size ho
      refine call_enum1 (begins_tuple a its.toArray) hp fun h' he hit hsz hk => wpAny_pyIter_enum he ?_
      have I2 : L2.Inv X pins σ H1 { s1 with heap := h' } := I1.kept (t' := s1.toks) hk
      exact ⟨s1.heap.objs.size + 1, [s1.heap.objs.size + 1, s1.heap.objs.size], _, _, H1, rfl, I2, turn_enumT a (s1.heap.objs.size + 1) s1.heap.objs.size (Nat.ne_of_lt (Nat.lt_succ_of_lt hlt)) (Nat.ne_of_lt hlt), ⟨⟨.none, he⟩, ⟨_, hit, rfl, rfl⟩, Nat.succ_ne_self _⟩, fr2, q⟩

/-! ### a walk of a list or a tuple -/
section
variable {X : Cx} {tg l : Expr} {tl : TE}
def iSeq (K : PySem.W.Frag) (tl : TE) : TI := fun σ H R => tl σ H fun x H1 => ∃ (a : Addr), x = .ref a ∧ (((∃ xs, SqL K H1 a xs) ∧ R (Itl K a) H1) ∨ ((∃ xs, SqT K H1 a xs) ∧ R (Itt K a) H1))
theorem pi_seq (hl : PE X l tl) : PI X tg l (iSeq X.K tl) := by
  refine ⟨fun pins s σ H R I h => ?_⟩
  refine thn (hl.run pins s σ H _ I h) fun v s1 ⟨x, H1, I1, r1, q1⟩ => ?_
  obtain ⟨a, e, q⟩ := q1
  subst e
  cases r1
  rcases q with ⟨⟨xs, hq⟩, q⟩ | ⟨⟨xs, hq⟩, q⟩
  · obtain ⟨its, rv, p, hz⟩ := I1.list hq
    refine wpAny_pyIter_list p.isList ?_
    refine ⟨s1.heap.objs.size, [s1.heap.objs.size], _, _, H1, rfl, I1.kept (t' := s1.toks) fun b o e => Heap.get?_push_of_some _ e, turn_list a _, ⟨_, Heap.get?_push_size _ rfl, rfl, rfl⟩, fun b hb => ?_, q⟩
    have e : b = s1.heap.objs.size := by simpa using hb
    subst e
    exact I1.fpOk (Nat.le_refl _) (I1.hok.fresh (Nat.le_refl _))
  · obtain ⟨its, rv, p, hz⟩ := I1.tuple hq
    refine wpAny_pyIter_tuple (show s1.heap.IsTuple a its.toArray from p) ?_
    refine ⟨s1.heap.objs.size, [s1.heap.objs.size], _, _, H1, rfl, I1.kept (t' := s1.toks) fun b o e => Heap.get?_push_of_some _ e, turn_tuple a _, ⟨_, Heap.get?_push_size _ rfl, rfl, rfl⟩, fun b hb => ?_, q⟩
    have e : b = s1.heap.objs.size := by simpa using hb
    subst e
    exact I1.fpOk (Nat.le_refl _) (I1.hok.fresh (Nat.le_refl _))
end

/-! ### in, by data, lists and tuples -/
section
variable {X : Cx}
def seqV : PyData → Option (List PyData)
  | .list ds => some ds
  | .tuple ds => some ds
  | _ => none
def rInQ (K : PySem.W.Frag) (ne : Bool) : R2 := fun x y H Q => ∃ d e ds, Dp K H x d ∧ Dp K H y e ∧ seqV e = some ds ∧ SeqAt.shaped d = true ∧ SeqAt.shaped e = true ∧ Q (.bl (ne ^^ ds.any fun z => PyData.eqv z d)) H
theorem canAll_list {ds : List PyData} (h : SeqAt.shaped (.list ds) = true) : PyData.canLayAll0 ds = true := by
  have := SeqAt.canLay_of_shaped h
  simpa [PyData.canLay0] using this
theorem canAll_tup {ds : List PyData} (h : SeqAt.shaped (.tuple ds) = true) : PyData.canLayAll0 ds = true := by
  have := SeqAt.canLay_of_shaped h
  simpa [PyData.canLay0] using this
theorem op_inQ (hu : X.A.units + 65 < cLine) : OpR X (compareOp .In) (rInQ X.K false) := by
  intro pins s σ H x y v u Q I rx ry h
  obtain ⟨d, e, ds, hd, he, hs, sd, se, q⟩ := h
  obtain ⟨as, r1⟩ := Dp.reads I d x v hd rx
  obtain ⟨bs, r2⟩ := Dp.reads I e y u he ry
  rw [Bool.false_xor] at q
  cases e with
  | list es =>
    cases hs
    exact SeqAt.in_list_reads r2 r1 (canAll_list se) (SeqAt.canLay_of_shaped sd) (room_in_shaped sd hu) ⟨.bl _, H, I, rfl, q⟩
  | tuple es =>
    cases hs
    exact SeqAt.in_tuple_reads r2 r1 (canAll_tup se) (SeqAt.canLay_of_shaped sd) (room_in_shaped sd hu) ⟨.bl _, H, I, rfl, q⟩
  | _ => cases hs
theorem op_notInQ (hu : X.A.units + 65 < cLine) : OpR X (compareOp .NotIn) (rInQ X.K true) := by
  intro pins s σ H x y v u Q I rx ry h
  obtain ⟨d, e, ds, hd, he, hs, sd, se, q⟩ := h
  obtain ⟨as, r1⟩ := Dp.reads I d x v hd rx
  obtain ⟨bs, r2⟩ := Dp.reads I e y u he ry
  rw [Bool.true_xor] at q
  cases e with
  | list es =>
    cases hs
    exact SeqAt.notIn_list_reads r2 r1 (canAll_list se) (SeqAt.canLay_of_shaped sd) (room_in_shaped sd hu) ⟨.bl _, H, I, rfl, q⟩
  | tuple es =>
    cases hs
    exact SeqAt.notIn_tuple_reads r2 r1 (canAll_tup se) (SeqAt.canLay_of_shaped sd) (room_in_shaped sd hu) ⟨.bl _, H, I, rfl, q⟩
  | _ => cases hs

/-! ### x.index(y), a list or a tuple -/
def tIdx (K : PySem.W.Frag) (to te : TE) : TE := fun σ H Q => to σ H fun x H1 => (∃ a xs, x = .ref a ∧ SqL K H1 a xs ∧ te σ H1 fun y H2 => rIndexD K (.ref a) [y] H2 Q) ∨ (∃ a xs, x = .ref a ∧ PTup H1 a xs ∧ te σ H1 fun y H2 => rIndexT K (.ref a) [y] H2 Q)
theorem pe_idx {o e : Expr} {to te : TE} {apos cpos : Pos} (hu : X.A.units + 65 < cLine) (ho : PE X o to) (he : PE X e te)
    (hbase : attributeBase o "index" X.env (eval o X.env) = eval o X.env) (hline : (apos.endLine == cpos.line) = true) (hs : starEach [e] X.env = [(false, eval e X.env)]) :
    PE X (.Call (.Attribute o "index" apos) [e] [] cpos) (tIdx X.K to te) := by
  refine ⟨fun pins s σ H Q I h => ?_⟩
  refine wpAny_Call_method1_late hbase hline (by rw [hs]; rfl) (thn (ho.run pins s σ H _ I h) fun v s1 ⟨x, H1, I1, r1, q1⟩ => ?_)
  rcases q1 with ⟨a, xs, ex, hl, q1⟩ | ⟨a, xs, ex, ht, q1⟩
  · subst ex
    have ev : v = Value.ref a := r1
    subst ev
    obtain ⟨its, rv, pl, hz⟩ := I1.list hl
    refine ⟨"list", "list.index", PySem.F.plainAttrs_list, PySem.F.slot_list_index, PySem.F.type_list_index, pl.isList.typeIs, fun b e => ?_, ?_⟩
    · cases e
      obtain ⟨o, n, e, c, hd, _⟩ := pl
      exact ⟨o, e, hd⟩
    · refine Calls.callWith_builtin rfl (Calls.evalArgs_plain ?_)
      refine Calls.spliced_cons (thn (he.run pins s1 σ H1 _ I1 q1) fun u s2 ⟨y, H2, I2, r2, q2⟩ => Calls.spliced_nil ?_)
      exact mt_indexD hu pins s2 σ H2 (.ref a) [y] (.ref a) [u] Q I2 rfl (.cons r2 .nil) q2
  · subst ex
    have ev : v = Value.ref a := r1
    subst ev
    obtain ⟨o, hH, hc, hd⟩ := ht
    obtain ⟨hg, _⟩ := I1.hok a _ hH
    refine ⟨"tuple", "tuple.index", PySem.F.plainAttrs_tuple, PySem.F.slot_tuple_index, PySem.F.type_tuple_index, ⟨o, hg, hc⟩, fun b e => ?_, ?_⟩
    · cases e
      exact ⟨o, hg, hd⟩
    · refine Calls.callWith_builtin rfl (Calls.evalArgs_plain ?_)
      refine Calls.spliced_cons (thn (he.run pins s1 σ H1 _ I1 q1) fun u s2 ⟨y, H2, I2, r2, q2⟩ => Calls.spliced_nil ?_)
      exact mt_indexT hu pins s2 σ H2 (.ref a) [y] (.ref a) [u] Q I2 rfl (.cons r2 .nil) q2
end

/-! ### max of a list of alike data -/
section
variable {X : Cx}
theorem dpAll_get {K : PySem.W.Frag} {H : Hp} : ∀ {vs : List V} {es : List PyData} {i : Nat} {v : V}, DpAll K H vs es → vs[i]? = some v → ∃ y, es[i]? = some y ∧ Dp K H v y
  | _, _, _, _, .nil, e => by simp at e
  | _, _, 0, _, .cons r _, e => by
    have e' := Option.some.inj e
    subst e'
    exact ⟨_, rfl, r⟩
  | _, _, i + 1, v, .cons _ t, e => by
    obtain ⟨d, h1, h2⟩ := dpAll_get (i := i) (v := v) t (by simpa using e)
    exact ⟨d, by simpa using h1, h2⟩
def rMaxD (K : PySem.W.Frag) : List V → Hp → VK → Prop := fun vs H Q => ∃ (a : Addr) (xs : List V) (d : PyData) (ds : List PyData), vs = [.ref a] ∧ SqL K H a xs ∧ DpAll K H xs (d :: ds) ∧ AlikeAll (d :: ds) ∧ PyData.canLayAll0 (d :: ds) = true ∧ PyData.depthAll (d :: ds) ≤ 60 ∧
  ∀ (i : Nat) (v : V), xs[i]? = some v → (d :: ds)[i]? = some (maxD d ds) → Q v H
theorem cr_maxD (hc : X.calm = true) (hu : X.A.units + 65 < cLine) : CallR X (.builtin "max") (rMaxD X.K) := by
  intro pins s σ H vs us Q I r h
  obtain ⟨a, xs, d, ds, rfl, hs, ha, hal, hcl, hdp, q⟩ := h
  obtain ⟨its, rv, hl, _⟩ := I.list hs
  rw [Vals.ref1 r]
  obtain ⟨as, hr⟩ := Dp.readsAll I (d :: ds) xs its ha rv
  refine max_list_data (I.ok.hd hc) hl.isList (show ReadsAll s.heap its.toArray.toList (d :: ds) as from hr) hal (by omega) fun i v h' tk bs hv hrd hk => ?_
  have hv' : its[i]? = some v := by simpa using hv
  have hil : i < xs.length := by
    rw [rv.length]
    exact (List.getElem?_eq_some_iff.mp hv').1
  obtain ⟨u, hu1, hu2⟩ := rv.get (List.getElem?_eq_getElem hil)
  rw [hv'] at hu1
  cases hu1
  have I1 : L2.Inv X pins σ H { s with heap := h', toks := tk } := I.kept hk
  have hlen : xs.length = (d :: ds).length := by
    have := SeqAt.ReadsAll.length (d :: ds) its as hr
    rw [rv.length, this]
  have hid : i < (d :: ds).length := by omega
  obtain ⟨y, ey, dy⟩ : ∃ y, (d :: ds)[i]? = some y ∧ Dp X.K H xs[i] y := by
    exact dpAll_get ha (List.getElem?_eq_getElem hil)
  obtain ⟨cs, hy⟩ := Dp.reads I1 y _ v dy hu2
  have e1 := (Reads.unique hy _ _ hrd).1
  subst e1
  exact ⟨xs[i], H, I1, hu2, q i _ (List.getElem?_eq_getElem hil) ey⟩
end
end Pu

/-! zip whose pairs are kept: its turns with a name, and in list(..) -/
namespace Pu
open PySem PySem.Spec PyProof.Rows L2
/-- the zip object, whatever it has handed out -/
abbrev ZO (h : Heap) (z ti to : Addr) (f0 : Value) (f1 : Bool) : Prop := h.get? z = some { cls := .type "zip", dict := none, data := .fields #[f0, .bool f1, .bool false, .ref ti, .ref to], slots := #[] }
inductive Out : Value → Prop where
  | n : Out .none
  | t (T : Nat) : Out (rawInt T)
structure ZSt (h : Heap) (z ti to i1 i2 a b : Addr) (i : Nat) : Prop where
  zo : ∃ f0 f1, ZO h z ti to f0 f1 ∧ Out f0
  pi : IsPair h ti (.ref i1) (.ref i2)
  po : ∃ x y, IsPair h to x y
  s1 : h.IsTupleIter i1 a i
  s2 : h.IsTupleIter i2 b i
section
variable {prog : Program} {w : World} {A : Around} {E : Value → Shared → Prop} {s : Shared} {z ti to i1 i2 a b : Addr} {f0 : Value} {f1 : Bool}
theorem z_alive {T : Addr} {Q : Option Obj → Shared → Prop} (h : Q (s.heap.get? T) s) : wpAny (model prog w) A (loadIfAlive T) Q E s := fun _ _ _ => h
theorem z_owned (hz : ZO s.heap z ti to f0 f1) (ho : Out f0) {Q : Bool → Shared → Prop} (hT : Q true s)
    (hF : ∀ h', ZO h' z ti to f0 true → Heap.SameBut z s.heap h' → Q false { s with heap := h' }) : wpAny (model prog w) A (Builtin.SmallTypes.ownedTupleIsFree (.ref z)) Q E s := by
  unfold Builtin.SmallTypes.ownedTupleIsFree
  refine wpAny_bind (wpAny_field hz rfl (x := f0) rfl ?_)
  cases ho with
  | n => exact wpAny_pure hT
  | t T =>
    show wpAny _ _ (loadIfAlive (T : Int).toNat >>= _) _ _ _
    refine wpAny_bind ?_
    have go : ∀ o : Option Obj, wpAny (model prog w) A (do if o.isNone = true then return true else do
        if ((← field (.ref z) 1) != Value.bool true) = true then setField (.ref z) 1 (.bool true)
        return false) Q E s := by
      intro o
      cases o with
      | none => exact wpAny_pure hT
      | some o =>
        show wpAny _ _ (field (.ref z) 1 >>= _) _ _ _
        refine wpAny_bind (wpAny_field hz rfl (x := .bool f1) rfl ?_)
        cases f1 with
        | true =>
          have e : ((Value.bool true) != Value.bool true) = false := by decide
          rw [if_neg (by rw [e]; decide)]
          exact wpAny_pure (hF s.heap hz (Heap.SameBut.refl _ _))
        | false =>
          have e : ((Value.bool false) != Value.bool true) = true := by decide
          rw [if_pos e]
          refine wpAny_bind (wpAny_setField_rec hz (by simp) fun h' hz' hs' => wpAny_pure (hF h' hz' hs'))
    exact z_alive (go _)
/-- what a turn leaves -/
structure ZTurn (h h' : Heap) (n : Nat) (z ti to i1 i2 a b : Addr) (i : Nat) (x y : Value) : Prop where
  st : ZSt h' z ti to i1 i2 a b (i + 1)
  new : IsPair h' n x y
  size : h'.objs.size = n + 1
  keep : ∀ c o, c ≠ z → c ≠ to → c ≠ i1 → c ≠ i2 → h.get? c = some o → h'.get? c = some o
theorem z_next {k : Nat} {xs ys : Array Value} {x y : Value} {Q : Value → Shared → Prop} (D : ZipApart z ti to i1 i2 a b) (st : ZSt s.heap z ti to i1 i2 a b k)
    (ha : s.heap.IsTuple a xs) (hb : s.heap.IsTuple b ys) (hx : xs[k]? = some x) (hy : ys[k]? = some y)
    (hQ : ∀ h', ZTurn s.heap h' s.heap.objs.size z ti to i1 i2 a b k x y → Q (.ref s.heap.objs.size) { s with heap := h' }) :
    wpAny (model prog w) A (Builtin.«zip.__next__» ⟨[.ref z], []⟩) (fun fin s' => ∃ v, fin = .done (.ret v) ∧ Q v s') E s := by
  obtain ⟨⟨f0, f1, hz, ho⟩, hpi, ⟨p, q, hpo⟩, t1, t2⟩ := st
  show wpAny _ _ (field (.ref z) 2 >>= _) _ _ _
  refine wpAny_bind (wpAny_field hz rfl (x := .bool false) rfl ?_)
  show wpAny _ _ (field (.ref z) 3 >>= _) _ _ _
  refine wpAny_bind (wpAny_field hz rfl (x := .ref ti) rfl ?_)
  refine wpAny_bind (wpAny_seqItems hpi rfl ?_)
  show wpAny _ _ (Builtin.SmallTypes.ownedTupleIsFree (.ref z) >>= _) _ _ _
  refine wpAny_bind (z_owned hz ho ?_ fun g0 hz0 hs0 => ?_)
  · -- the owned pair again
    simp only [if_true]
    refine wpAny_bind (wpAny_rule ?_)
    refine wpAny_bind (wpAny_field hz rfl (x := .ref to) rfl ?_)
    refine wpAny_bind (wpAny_setField_rec hz (by simp) fun g1 hz1 hs1 => ?_)
    replace hz1 : ZO g1 z ti to .ellipsis f1 := hz1
    refine wpAny_bind ?_
    simp only [List.zipIdx_cons, List.zipIdx_nil, List.forIn_cons, List.forIn_nil]
    refine wpAny_bind (wpAny_bind (wpAny_onRaise ?_))
    show wpAny _ _ (Builtin.SmallTypes.nextOf (.ref i1) >>= _) _ _ _
    refine wpAny_bind (RZ.nextOf_tuple_item (t1.extBut hs1.extBut D.i1z) (ha.extBut hs1.extBut D.l1z) hx fun g2 t1a hs2 => wpAny_pure ?_)
    have hpo2 : IsPair g2 to p q := hs2.extBut _ _ D.TOi1 (hs1.extBut _ _ D.TOz hpo)
    refine wpAny_bind (wpAny_seqItems hpo2 rfl ?_)
    refine wpAny_bind (wpAny_updateSeq_pair hpo2 fun g3 hpo3 hs3 => ?_)
    replace hpo3 : IsPair g3 to x q := hpo3
    refine wpAny_bind (wpAny_letGo (wpAny_pure ?_))
    refine wpAny_bind (wpAny_bind (wpAny_onRaise ?_))
    show wpAny _ _ (Builtin.SmallTypes.nextOf (.ref i2) >>= _) _ _ _
    refine wpAny_bind (RZ.nextOf_tuple_item (((t2.extBut hs1.extBut D.i2z).extBut hs2.extBut D.i12.symm).extBut hs3.extBut D.TOi2.symm)
      (((hb.extBut hs1.extBut D.l2z).extBut hs2.extBut D.l2i1).extBut hs3.extBut D.l2TO) hy fun g4 t2a hs4 => wpAny_pure ?_)
    have hpo4 : IsPair g4 to x q := hs4.extBut _ _ D.TOi2 hpo3
    refine wpAny_bind (wpAny_seqItems hpo4 rfl ?_)
    refine wpAny_bind (wpAny_updateSeq_pair hpo4 fun g5 hpo5 hs5 => ?_)
    replace hpo5 : IsPair g5 to x y := hpo5
    refine wpAny_bind (wpAny_letGo (wpAny_pure (wpAny_pure ?_)))
    refine wpAny_bind (wpAny_seqItems hpo5 rfl ?_)
    refine wpAny_bind (wpAny_newTuple ?_)
    have hsz : g5.objs.size = s.heap.objs.size := by rw [hs5.1, hs4.1, hs3.1, hs2.1, hs1.1]
    have hz5 : ZO g5 z ti to .ellipsis f1 := hs5.extBut _ _ D.TOz.symm (hs4.extBut _ _ D.i2z.symm (hs3.extBut _ _ D.TOz.symm (hs2.extBut _ _ D.i1z.symm hz1)))
    have hk5 : ∀ c o, c ≠ z → c ≠ to → c ≠ i1 → c ≠ i2 → s.heap.get? c = some o → g5.get? c = some o := fun c o c1 c2 c3 c4 e =>
      hs5.extBut _ _ c2 (hs4.extBut _ _ c4 (hs3.extBut _ _ c2 (hs2.extBut _ _ c3 (hs1.extBut _ _ c1 e))))
    have u1 : g5.IsTupleIter i1 a (k + 1) := ((t1a.extBut hs3.extBut D.TOi1.symm).extBut hs4.extBut D.i12).extBut hs5.extBut D.TOi1.symm
    have u2 : g5.IsTupleIter i2 b (k + 1) := t2a.extBut hs5.extBut D.TOi2.symm
    have hlz : z < g5.objs.size := Heap.lt_size hz5
    show wpAny _ _ (Builtin.SmallTypes.ownedTupleHandOut (.ref z) (.ref g5.objs.size) >>= _) _ _ _
    refine wpAny_bind ?_
    unfold Builtin.SmallTypes.ownedTupleHandOut
    have hz6 : ZO (g5.push { cls := .type "tuple", data := .seq #[x, y] }) z ti to .ellipsis f1 := Heap.get?_push_of_some _ hz5
    refine wpAny_bind (wpAny_setField_rec hz6 (by simp) fun g7 hz7 hs7 => ?_)
    replace hz7 : ZO g7 z ti to (rawInt g5.objs.size) f1 := hz7
    refine wpAny_setField_rec hz7 (by simp) fun g8 hz8 hs8 => ?_
    replace hz8 : ZO g8 z ti to (rawInt g5.objs.size) false := hz8
    have up : ∀ c o, c ≠ z → g5.get? c = some o → g8.get? c = some o := fun c o c1 e => hs8.extBut _ _ c1 (hs7.extBut _ _ c1 (Heap.get?_push_of_some _ e))
    have hT8 : IsPair g8 g5.objs.size x y := hs8.extBut _ _ (Nat.ne_of_gt hlz) (hs7.extBut _ _ (Nat.ne_of_gt hlz) (Heap.get?_push_size _ rfl))
    have hl8 : g8.objs.size = g5.objs.size + 1 := by rw [hs8.1, hs7.1, Heap.size_push]
    refine wpAny_pure ⟨_, rfl, ?_⟩
    show Q (.ref g5.objs.size) _
    rw [hsz] at hT8 hl8 ⊢
    have hpi5 : IsPair g5 ti (.ref i1) (.ref i2) := hk5 _ _ D.TIz D.TITO D.TIi1 D.TIi2 hpi
    exact hQ g8 ⟨⟨⟨_, _, hz8, .t _⟩, up _ _ D.TIz hpi5, ⟨x, y, up _ _ D.TOz hpo5⟩, u1.at fun o e => up _ o D.i1z e, u2.at fun o e => up _ o D.i2z e⟩, hT8, hl8, fun c o c1 c2 c3 c4 e => up c o c1 (hk5 c o c1 c2 c3 c4 e)⟩
  · -- it is not free: a pair of its own
    have t1' : g0.IsTupleIter i1 a k := t1.extBut hs0.extBut D.i1z
    have t2' : g0.IsTupleIter i2 b k := t2.extBut hs0.extBut D.i2z
    have ha' : g0.IsTuple a xs := ha.extBut hs0.extBut D.l1z
    have hb' : g0.IsTuple b ys := hb.extBut hs0.extBut D.l2z
    have hpi' : IsPair g0 ti (.ref i1) (.ref i2) := hs0.extBut _ _ D.TIz hpi
    have hpo' : IsPair g0 to p q := hs0.extBut _ _ D.TOz hpo
    simp only [if_false, Bool.false_eq_true]
    refine wpAny_bind ?_
    simp only [List.forIn_cons, List.forIn_nil, List.forIn_toArray, ← Array.forIn_toList]
    refine wpAny_bind (wpAny_bind (wpAny_holding ?_))
    show wpAny _ _ (Builtin.SmallTypes.nextOf (.ref i1) >>= _) _ _ _
    refine wpAny_bind (RZ.nextOf_tuple_item t1' ha' hx fun g2 t1a hs2 => wpAny_pure (wpAny_pure ?_))
    refine wpAny_bind (wpAny_bind (wpAny_holding ?_))
    show wpAny _ _ (Builtin.SmallTypes.nextOf (.ref i2) >>= _) _ _ _
    refine wpAny_bind (RZ.nextOf_tuple_item (t2'.extBut hs2.extBut D.i12.symm) (hb'.extBut hs2.extBut D.l2i1) hy fun g4 t2a hs4 => wpAny_pure (wpAny_pure (wpAny_pure ?_)))
    refine wpAny_bind (wpAny_newTuple ?_ (by show 2 ≤ sizeLine; decide))
    have hsz : g4.objs.size = s.heap.objs.size := by rw [hs4.1, hs2.1, hs0.1]
    refine wpAny_pure ⟨_, rfl, ?_⟩
    show Q (.ref g4.objs.size) _
    have up : ∀ c o, c ≠ i1 → c ≠ i2 → g0.get? c = some o → (g4.push { cls := .type "tuple", data := .seq #[x, y] }).get? c = some o := fun c o c1 c2 e => Heap.get?_push_of_some _ (hs4.extBut _ _ c2 (hs2.extBut _ _ c1 e))
    have hT8 : IsPair (g4.push { cls := .type "tuple", data := .seq #[x, y] }) g4.objs.size x y := Heap.get?_push_size _ rfl
    have hl8 : (g4.push { cls := .type "tuple", data := .seq #[x, y] }).objs.size = g4.objs.size + 1 := Heap.size_push ..
    rw [hsz] at hT8 hl8 ⊢
    refine hQ (g4.push { cls := .type "tuple", data := .seq #[x, y] }) ⟨⟨⟨_, _, up _ _ D.i1z.symm D.i2z.symm hz0, ho⟩, up _ _ D.TIi1 D.TIi2 hpi', ⟨p, q, up _ _ D.TOi1 D.TOi2 hpo'⟩, ?_, ?_⟩, hT8, hl8, fun c o c1 c2 c3 c4 e => up c o c3 c4 (hs0.extBut _ _ c1 e)⟩
    · exact t1a.at fun o e => Heap.get?_push_of_some _ (hs4.extBut _ _ D.i12 e)
    · exact t2a.at fun o e => Heap.get?_push_of_some _ e
theorem z_end {k : Nat} {xs ys : Array Value} {Q : Fin → Shared → Prop} (hh : A.handled = none) (D : ZipApart z ti to i1 i2 a b) (st : ZSt s.heap z ti to i1 i2 a b k)
    (ha : s.heap.IsTuple a xs) (hb : s.heap.IsTuple b ys) (hend : xs[k]? = none ∨ ys[k]? = none)
    (hE : ∀ h' e, (∀ c o, c ≠ z → c ≠ to → c ≠ i1 → c ≠ i2 → s.heap.get? c = some o → h'.get? c = some o) → (∃ o, h'.get? e = some o ∧ o.cls = .type "StopIteration") → E (.ref e) { s with heap := h' }) :
    wpAny (model prog w) A (Builtin.«zip.__next__» ⟨[.ref z], []⟩) Q E s := by
  obtain ⟨⟨f0, f1, hz, ho⟩, hpi, ⟨p, q, hpo⟩, t1, t2⟩ := st
  show wpAny _ _ (field (.ref z) 2 >>= _) _ _ _
  refine wpAny_bind (wpAny_field hz rfl (x := .bool false) rfl ?_)
  show wpAny _ _ (field (.ref z) 3 >>= _) _ _ _
  refine wpAny_bind (wpAny_field hz rfl (x := .ref ti) rfl ?_)
  refine wpAny_bind (wpAny_seqItems hpi rfl ?_)
  show wpAny _ _ (Builtin.SmallTypes.ownedTupleIsFree (.ref z) >>= _) _ _ _
  refine wpAny_bind (z_owned hz ho ?_ fun g0 hz0 hs0 => ?_)
  · simp only [if_true]
    refine wpAny_bind (wpAny_rule ?_)
    refine wpAny_bind (wpAny_field hz rfl (x := .ref to) rfl ?_)
    refine wpAny_bind (wpAny_setField_rec hz (by simp) fun g1 hz1 hs1 => ?_)
    replace hz1 : ZO g1 z ti to .ellipsis f1 := hz1
    refine wpAny_bind ?_
    simp only [List.zipIdx_cons, List.zipIdx_nil, List.forIn_cons, List.forIn_nil]
    refine wpAny_bind (wpAny_bind (wpAny_onRaise ?_))
    show wpAny _ _ (Builtin.SmallTypes.nextOf (.ref i1) >>= _) _ _ _
    cases hx : xs[k]? with
    | none =>
      refine wpAny_bind (RZ.nextOf_tuple_end hh (t1.extBut hs1.extBut D.i1z) (ha.extBut hs1.extBut D.l1z) hx fun g2 e hs2 he => ?_)
      obtain ⟨oe, hoe, hce⟩ := he
      have hz2 : ZO g2 z ti to .ellipsis f1 := hs2 _ _ D.i1z.symm hz1
      have hez : e ≠ z := fun x => by
        rw [x, hz2] at hoe
        cases hoe
        simp at hce
      refine wpAny_setField_rec hz2 (by simp) fun g3 _ hs3 => hE g3 e (fun c o c1 _ c3 _ x => hs3.extBut _ _ c1 (hs2 _ _ c3 (hs1.extBut _ _ c1 x))) ⟨oe, hs3.extBut _ _ hez hoe, hce⟩
    | some x =>
      have hy : ys[k]? = none := by
        rcases hend with h | h
        · rw [hx] at h
          cases h
        · exact h
      refine wpAny_bind (RZ.nextOf_tuple_item (t1.extBut hs1.extBut D.i1z) (ha.extBut hs1.extBut D.l1z) hx fun g2 t1a hs2 => wpAny_pure ?_)
      have hpo2 : IsPair g2 to p q := hs2.extBut _ _ D.TOi1 (hs1.extBut _ _ D.TOz hpo)
      refine wpAny_bind (wpAny_seqItems hpo2 rfl ?_)
      refine wpAny_bind (wpAny_updateSeq_pair hpo2 fun g3 hpo3 hs3 => ?_)
      refine wpAny_bind (wpAny_letGo (wpAny_pure ?_))
      refine wpAny_bind (wpAny_bind (wpAny_onRaise ?_))
      show wpAny _ _ (Builtin.SmallTypes.nextOf (.ref i2) >>= _) _ _ _
      refine wpAny_bind (RZ.nextOf_tuple_end hh (((t2.extBut hs1.extBut D.i2z).extBut hs2.extBut D.i12.symm).extBut hs3.extBut D.TOi2.symm)
        (((hb.extBut hs1.extBut D.l2z).extBut hs2.extBut D.l2i1).extBut hs3.extBut D.l2TO) hy fun g4 e hs4 he => ?_)
      obtain ⟨oe, hoe, hce⟩ := he
      have hz4 : ZO g4 z ti to .ellipsis f1 := hs4 _ _ D.i2z.symm (hs3.extBut _ _ D.TOz.symm (hs2.extBut _ _ D.i1z.symm hz1))
      have hez : e ≠ z := fun x => by
        rw [x, hz4] at hoe
        cases hoe
        simp at hce
      refine wpAny_setField_rec hz4 (by simp) fun g5 _ hs5 => hE g5 e (fun c o c1 c2 c3 c4 x => hs5.extBut _ _ c1 (hs4 _ _ c4 (hs3.extBut _ _ c2 (hs2.extBut _ _ c3 (hs1.extBut _ _ c1 x))))) ⟨oe, hs5.extBut _ _ hez hoe, hce⟩
  · have t1' : g0.IsTupleIter i1 a k := t1.extBut hs0.extBut D.i1z
    have t2' : g0.IsTupleIter i2 b k := t2.extBut hs0.extBut D.i2z
    have ha' : g0.IsTuple a xs := ha.extBut hs0.extBut D.l1z
    have hb' : g0.IsTuple b ys := hb.extBut hs0.extBut D.l2z
    simp only [if_false, Bool.false_eq_true]
    refine wpAny_bind ?_
    simp only [List.forIn_cons, List.forIn_nil, List.forIn_toArray, ← Array.forIn_toList]
    refine wpAny_bind (wpAny_bind (wpAny_holding ?_))
    show wpAny _ _ (Builtin.SmallTypes.nextOf (.ref i1) >>= _) _ _ _
    cases hx : xs[k]? with
    | none =>
      exact wpAny_bind (RZ.nextOf_tuple_end hh t1' ha' hx fun g2 e hs2 he => hE g2 e (fun c o c1 _ c3 _ x => hs2 _ _ c3 (hs0.extBut _ _ c1 x)) he)
    | some x =>
      have hy : ys[k]? = none := by
        rcases hend with h | h
        · rw [hx] at h
          cases h
        · exact h
      refine wpAny_bind (RZ.nextOf_tuple_item t1' ha' hx fun g2 t1a hs2 => wpAny_pure (wpAny_pure ?_))
      refine wpAny_bind (wpAny_bind (wpAny_holding ?_))
      show wpAny _ _ (Builtin.SmallTypes.nextOf (.ref i2) >>= _) _ _ _
      exact wpAny_bind (RZ.nextOf_tuple_end hh (t2'.extBut hs2.extBut D.i12.symm) (hb'.extBut hs2.extBut D.l2i1) hy fun g4 e hs4 he => hE g4 e (fun c o c1 _ c3 c4 x => hs4 _ _ c4 (hs2.extBut _ _ c3 (hs0.extBut _ _ c1 x))) he)
theorem z_item {k : Nat} {xs ys : Array Value} {x y : Value} {Q : Option Value → Shared → Prop} (D : ZipApart z ti to i1 i2 a b) (st : ZSt s.heap z ti to i1 i2 a b k)
    (ha : s.heap.IsTuple a xs) (hb : s.heap.IsTuple b ys) (hx : xs[k]? = some x) (hy : ys[k]? = some y)
    (hQ : ∀ h', ZTurn s.heap h' s.heap.objs.size z ti to i1 i2 a b k x y → Q (some (.ref s.heap.objs.size)) { s with heap := h' }) : wpAny (model prog w) A (pyNext (.ref z)) Q E s := by
  obtain ⟨f0, f1, hz, _⟩ := st.zo
  have hT : s.TypeIs (.ref z) "zip" := ⟨_, hz, rfl⟩
  unfold pyNext
  exact wpAny_bind (wpAny_attempt (wpAny_callSpecial?_slot (name := Str.ofString "__next__") hT PySem.F.slot_zip_next
    (wpAny_call_entry PySem.F.slot_zip_next hT PySem.F.entry_zip_next (z_next D st ha hb hx hy fun h' t => wpAny_pure (hQ h' t)) (PySem.F.args_zip_next_1 _))))
theorem z_stop {k : Nat} {xs ys : Array Value} {Q : Option Value → Shared → Prop} (hh : A.handled = none) (D : ZipApart z ti to i1 i2 a b) (st : ZSt s.heap z ti to i1 i2 a b k)
    (ha : s.heap.IsTuple a xs) (hb : s.heap.IsTuple b ys) (hend : xs[k]? = none ∨ ys[k]? = none)
    (hQ : ∀ h', (∀ c o, c ≠ z → c ≠ to → c ≠ i1 → c ≠ i2 → s.heap.get? c = some o → h'.get? c = some o) → Q none { s with heap := h' }) : wpAny (model prog w) A (pyNext (.ref z)) Q E s := by
  obtain ⟨f0, f1, hz, _⟩ := st.zo
  have hT : s.TypeIs (.ref z) "zip" := ⟨_, hz, rfl⟩
  unfold pyNext
  refine wpAny_bind (wpAny_attempt (wpAny_callSpecial?_slot (name := Str.ofString "__next__") hT PySem.F.slot_zip_next
    (wpAny_call_entry PySem.F.slot_zip_next hT PySem.F.entry_zip_next (z_end hh D st ha hb hend fun h' e hk he => ?_) (PySem.F.args_zip_next_1 _))))
  obtain ⟨o, h1, h2⟩ := he
  refine wpAny_bind (wpAny_isInstance (T := "StopIteration") (b := true) ⟨o, h1, h2⟩ isSubtype_stop ?_)
  exact wpAny_pure (hQ _ hk)
theorem z_iter {f0 : Value} {f1 : Bool} {Q : Value → Shared → Prop} (hz : ZO s.heap z ti to f0 f1) (h : Q (.ref z) s) : wpAny (model prog w) A (pyIter (.ref z)) Q E s := by
  have hT : s.TypeIs (.ref z) "zip" := ⟨_, hz, rfl⟩
  refine wpAny_pyIter_slot hT PySem.F.slot_zip_iter (wpAny_call_entry PySem.F.slot_zip_iter hT PySem.F.entry_zip_iter ?_ (PySem.F.args_zip_iter_1 _))
  show wpAny _ _ (ret (.ref z)) _ _ s
  exact wpAny_pure ⟨_, rfl, "zip", _, hT, PySem.F.slot_zip_next.lookup, h⟩
end
/-- the tuples at a and b, the items in new pairs that stay -/
def ItK (K : PySem.W.Frag) (a b : Addr) : It :=
  ⟨fun i H => ∃ (xs ys : List V) (x y : V), SqT K H a xs ∧ SqT K H b ys ∧ xs[i]? = some x ∧ ys[i]? = some y,
    fun i H v H' => ∃ T o x y, v = .ref T ∧ H T = none ∧ H' = upd H T (.frz o (.tup [x, y])) ∧ o.cls = .type "tuple" ∧ o.dict = none ∧ (∀ xs, SqT K H a xs → xs[i]? = some x) ∧ ∀ ys, SqT K H b ys → ys[i]? = some y,
    fun i H => ∃ xs ys : List V, SqT K H a xs ∧ SqT K H b ys ∧ (xs.length ≤ i ∨ ys.length ≤ i)⟩
theorem mem5 {c z ti to i1 i2 : Addr} : c ∈ [z, ti, to, i1, i2] ↔ c = z ∨ c = ti ∨ c = to ∨ c = i1 ∨ c = i2 := by simp
section
variable {X : Cx} {pins : List (Addr × Obj)} {σ : L2.St} {H : Hp} {s : Shared} {z ti to i1 i2 a b : Addr} {i : Nat}
/-- a turn, with what is tracked -/
theorem k_item {A : Around} {Q : Option Value → Shared → Prop} {E : Value → Shared → Prop} (D : ZipApart z ti to i1 i2 a b) (I : Inv X pins σ H s) (hf : ∀ c ∈ [z, ti, to, i1, i2], FpOk X pins H c) (st : ZSt s.heap z ti to i1 i2 a b i)
    {xs ys : List V} {x y : V} (qa : SqT X.K H a xs) (qb : SqT X.K H b ys) (hx : xs[i]? = some x) (hy : ys[i]? = some y)
    (hQ : ∀ h' o, Inv X pins σ (upd H s.heap.objs.size (.frz o (.tup [x, y]))) { s with heap := h' } → H s.heap.objs.size = none → o.cls = .type "tuple" → o.dict = none → ZSt h' z ti to i1 i2 a b (i + 1) → (∀ c ∈ [z, ti, to, i1, i2], c ≠ s.heap.objs.size) →
      Q (some (.ref s.heap.objs.size)) { s with heap := h' }) : wpAny (model X.prog X.w) A (pyNext (.ref z)) Q E s := by
  obtain ⟨its, rv, p, _⟩ := I.tuple qa
  obtain ⟨its2, rv2, p2, _⟩ := I.tuple qb
  obtain ⟨u, hu, ru⟩ := rv.get hx
  obtain ⟨u2, hu2, ru2⟩ := rv2.get hy
  have lt : ∀ c ∈ [z, ti, to, i1, i2], c < s.heap.objs.size := fun c hc => by
    obtain ⟨f0, f1, hz, _⟩ := st.zo
    obtain ⟨q1, q2, hpo⟩ := st.po
    rcases mem5.mp hc with e | e | e | e | e <;> rw [e]
    · exact Heap.lt_size hz
    · exact Heap.lt_size st.pi
    · exact Heap.lt_size hpo
    · obtain ⟨_, e1, _⟩ := st.s1
      exact Heap.lt_size e1
    · obtain ⟨_, e1, _⟩ := st.s2
      exact Heap.lt_size e1
  refine z_item D st p p2 (x := u) (y := u2) (by simpa using hu) (by simpa using hu2) fun h' t => ?_
  have fresh : H s.heap.objs.size = none := I.hok.fresh (Nat.le_refl _)
  have new : ObjOk X.prog X.w (upd H s.heap.objs.size (.frz (tupO [u, u2]) (.tup [x, y]))) h' s.heap.objs.size (.frz (tupO [u, u2]) (.tup [x, y])) :=
    ⟨t.new, by show 2 ≤ sizeLine; decide, [u, u2], .cons ru (.cons ru2 .nil), ⟨_, t.new, rfl, _, rfl⟩⟩
  exact hQ h' (tupO [u, u2]) (I.turnedNew (t' := s.toks) (ch := [z, ti, to, i1, i2]) (fun c o hb q => t.keep c o (fun e => hb (mem5.mpr (by simp [e]))) (fun e => hb (mem5.mpr (by simp [e]))) (fun e => hb (mem5.mpr (by simp [e]))) (fun e => hb (mem5.mpr (by simp [e]))) q) hf (Nat.le_refl _) new)
    fresh rfl rfl t.st fun c hc => Nat.ne_of_lt (lt c hc)
theorem k_stop {A : Around} {Q : Option Value → Shared → Prop} {E : Value → Shared → Prop} (hc : A.handled = none) (D : ZipApart z ti to i1 i2 a b) (I : Inv X pins σ H s) (hf : ∀ c ∈ [z, ti, to, i1, i2], FpOk X pins H c) (st : ZSt s.heap z ti to i1 i2 a b i)
    {xs ys : List V} (qa : SqT X.K H a xs) (qb : SqT X.K H b ys) (hend : xs.length ≤ i ∨ ys.length ≤ i) (hQ : ∀ h', Inv X pins σ H { s with heap := h' } → Q none { s with heap := h' }) : wpAny (model X.prog X.w) A (pyNext (.ref z)) Q E s := by
  obtain ⟨its, rv, p, _⟩ := I.tuple qa
  obtain ⟨its2, rv2, p2, _⟩ := I.tuple qb
  have l1 := rv.length
  have l2 := rv2.length
  have he : its.toArray[i]? = none ∨ its2.toArray[i]? = none := by
    rcases hend with q | q
    · exact .inl (by simp; omega)
    · exact .inr (by simp; omega)
  exact z_stop hc D st p p2 he fun h' hk => hQ h' (I.turnedL (t' := s.toks) (ch := [z, ti, to, i1, i2]) (fun c o hb q => hk c o (fun e => hb (mem5.mpr (by simp [e]))) (fun e => hb (mem5.mpr (by simp [e]))) (fun e => hb (mem5.mpr (by simp [e]))) (fun e => hb (mem5.mpr (by simp [e]))) q) hf)
theorem z_keep {h h' : Heap} (st : ZSt h z ti to i1 i2 a b i) (k : ∀ c ∈ [z, ti, to, i1, i2], ∀ o, h.get? c = some o → h'.get? c = some o) : ZSt h' z ti to i1 i2 a b i := by
  obtain ⟨⟨f0, f1, hz, ho⟩, hpi, ⟨p, q, hpo⟩, t1, t2⟩ := st
  exact ⟨⟨f0, f1, k z (by simp) _ hz, ho⟩, k ti (by simp) _ hpi, ⟨p, q, k to (by simp) _ hpo⟩, t1.at fun o e => k i1 (by simp) o e, t2.at fun o e => k i2 (by simp) o e⟩
end
theorem turn_k {P : Program} {w : World} {K : PySem.W.Frag} {nx : Str} {tpos : Pos} {a b z ti to i1 i2 : Addr} (D : ZipApart z ti to i1 i2 a b) :
    Turn P w K (.Name nx tpos) (ItK K a b) [z, ti, to, i1, i2] z (fun i h => ZSt h z ti to i1 i2 a b i) where
  mem := by simp
  obj := fun i h st c hc => by
    obtain ⟨f0, f1, hz, _⟩ := st.zo
    obtain ⟨q1, q2, hpo⟩ := st.po
    obtain ⟨o1, e1, _, d1⟩ := st.s1
    obtain ⟨o2, e2, _, d2⟩ := st.s2
    rcases mem5.mp hc with q | q | q | q | q <;> rw [q]
    · exact ⟨_, hz, fun v q => nomatch q⟩
    · exact ⟨_, st.pi, fun v q => nomatch q⟩
    · exact ⟨_, hpo, fun v q => nomatch q⟩
    · exact ⟨o1, e1, fun v q => by rw [d1] at q; cases q⟩
    · exact ⟨o2, e2, fun v q => by rw [d2] at q; cases q⟩
  keep := fun i h h' st k => z_keep st k
  item := by
    intro X hP hw hK hc i pins s σ H E I hf st hg
    subst hP hw hK
    obtain ⟨xs, ys, x, y, qa, qb, hx, hy⟩ := hg
    refine k_item D I hf st qa qb hx hy fun h' o I' fr ho1 ho2 st' hne => ⟨_, rfl, ?_⟩
    show wpAny _ _ (pure ()) _ _ _
    refine wpAny_pure ⟨.ref s.heap.objs.size, _, I', rfl, ⟨_, o, x, y, rfl, fr, rfl, ho1, ho2, fun l hl => by rw [I.tuple_inj hl qa]; exact hx, fun l hl => by rw [I.tuple_inj hl qb]; exact hy⟩, st', fun c hcm => ?_⟩
    rw [upd_ne (hne c hcm)]
    exact (hf c hcm).1
  done := by
    intro X hP hw hK hc i pins s σ H E I hf st hg
    subst hP hw hK
    obtain ⟨xs, ys, qa, qb, hend⟩ := hg
    exact k_stop (I.ok.hd hc) D I hf st qa qb hend fun h' I' => ⟨rfl, I'⟩
  self := fun A i s Q E st h => by
    obtain ⟨f0, f1, hz, _⟩ := st.zo
    exact z_iter hz h
/-! ### list(zip(a, b)) -/
/-- what stands in the list -/
def Prs (q : Addr) (H1 H : Hp) (xs ys acc : List V) : Prop := ∀ j, j < acc.length → ∃ T o x y, acc[j]? = some (.ref T) ∧ xs[j]? = some x ∧ ys[j]? = some y ∧ H1 T = none ∧ T ≠ q ∧ H T = some (.frz o (.tup [x, y])) ∧ o.cls = .type "tuple" ∧ o.dict = none
section
variable {X : Cx} {pins : List (Addr × Obj)} {σ : L2.St} {z ti to i1 i2 a b q : Addr} {A1 : Around} {H1 : Hp} {xs ys : List V} {res : Value} {Rs : Result → Shared → Prop}
theorem lz_loop (hh : A1.in1.handled = none) (D : ZipApart z ti to i1 i2 a b) (hq0 : H1 q = none) (qa : ∀ H', Same H1 H' → SqT X.K H' a xs) (qb : ∀ H', Same H1 H' → SqT X.K H' b ys) (hn : min xs.length ys.length ≤ sizeLine)
    (hdone : ∀ acc H s, Inv X pins σ H s → H q = some (.lst acc) → acc.length = min xs.length ys.length → Same H1 H → Prs q H1 H xs ys acc → Rs (.ok (.ret res)) s) :
    ∀ (k i : Nat) (acc : List V) (H : Hp) (s : Shared), min xs.length ys.length - i = k → i ≤ min xs.length ys.length → Inv X pins σ H s → H q = some (.lst acc) → acc.length = i → Same H1 H → Prs q H1 H xs ys acc →
      (∀ c ∈ [z, ti, to, i1, i2], FpOk X pins H c) → (∀ c ∈ [z, ti, to, i1, i2], c ≠ q) → ZSt s.heap z ti to i1 i2 a b i → codeAny (model X.prog X.w) A1 (.builtin "list.extend.loop" ⟨[.ref q, .ref z, res], []⟩) Rs s := by
  intro k
  induction k with
  | zero =>
    intro i acc H s hk hi I hq hl sm pr hf hcq st
    refine codeAny_builtin PySem.F.entry_extend_loop ?_
    rw [Around.under_plainId PySem.F.plain_extend_loop _]
    show wpAny _ A1.in1 (pyNext (.ref z) >>= _) _ _ s
    refine wpAny_bind (k_stop hh D I hf st (qa H sm) (qb H sm) (by omega) fun h' I' => ?_)
    exact wpAny_pure (hdone acc H _ I' hq (by omega) sm pr)
  | succ k ih =>
    intro i acc H s hk hi I hq hl sm pr hf hcq st
    have hx : i < xs.length := by omega
    have hy : i < ys.length := by omega
    refine codeAny_builtin PySem.F.entry_extend_loop ?_
    rw [Around.under_plainId PySem.F.plain_extend_loop _]
    show wpAny _ A1.in1 (pyNext (.ref z) >>= _) _ _ s
    refine wpAny_bind (k_item D I hf st (qa H sm) (qb H sm) (x := xs[i]) (y := ys[i]) (by simp [hx]) (by simp [hy]) fun h' o I' fr ho1 ho2 st' hne => ?_)
    show wpAny _ A1.in1 (updateSeq q (·.push (.ref s.heap.objs.size)) >>= _) _ _ _
    have hTq : s.heap.objs.size ≠ q := fun e => by rw [e, hq] at fr; cases fr
    have hq' : upd H s.heap.objs.size (.frz o (.tup [xs[i], ys[i]])) q = some (.lst acc) := by rw [upd_ne hTq.symm]; exact hq
    obtain ⟨zl, its, kn, r2, hl2, e⟩ := I'.lstM hq'
    refine wpAny_bind (wpAny_updateSeq e rfl (wpAny_pure ⟨plainId_quiet PySem.F.plain_extend_loop _, ?_⟩) (by rw [List.size_toArray]; omega) (by show (its.toArray.push (.ref s.heap.objs.size)).size ≤ sizeLine + 1; rw [Array.size_push, List.size_toArray]; omega))
    have I2 := I'.lset (its' := its ++ [Value.ref s.heap.objs.size]) (ys := acc ++ [V.ref s.heap.objs.size]) (t' := s.toks) (f := (·.push (Value.ref s.heap.objs.size))) hq' e (by simp) (r2.append (.cons (show RelV (V.ref s.heap.objs.size) (Value.ref s.heap.objs.size) from rfl) .nil)) (by rw [List.length_append, List.length_singleton]; omega)
    have sm2 : Same H1 (upd (upd H s.heap.objs.size (.frz o (.tup [xs[i], ys[i]]))) q (.lst (acc ++ [.ref s.heap.objs.size]))) := fun c u hc => by
      have h1 : c ≠ q := fun e => by rw [e, hq0] at hc; cases hc
      have h2 : c ≠ s.heap.objs.size := fun e => by
        have := sm _ _ hc
        rw [e, fr] at this
        cases this
      rw [upd_ne h1, upd_ne h2]
      exact sm _ _ hc
    have hH1 : H1 s.heap.objs.size = none := by
      cases hc : H1 s.heap.objs.size with
      | none => rfl
      | some u => rw [sm _ _ hc] at fr; cases fr
    refine ih (i + 1) (acc ++ [.ref s.heap.objs.size]) _ _ (by omega) (by omega) I2 upd_same (by simp [hl]) sm2 (fun j hj => ?_) (fun c hc => ?_) hcq (z_keep st' fun c hc o' e' => (Heap.get?_update_other _ _ (hcq c hc).symm).trans e')
    · rw [List.length_append, List.length_singleton] at hj
      by_cases hjl : j < acc.length
      · obtain ⟨T, o', x, y, g1, g2, g3, g4, g5, g6, g7, g8⟩ := pr j hjl
        have h2 : T ≠ s.heap.objs.size := fun e => by rw [e, fr] at g6; cases g6
        exact ⟨T, o', x, y, by rw [List.getElem?_append_left hjl]; exact g1, g2, g3, g4, g5, by rw [upd_ne g5, upd_ne h2]; exact g6, g7, g8⟩
      · have : j = i := by omega
        subst this
        exact ⟨s.heap.objs.size, o, xs[j], ys[j], by rw [List.getElem?_append_right (by omega), hl]; simp, by simp [hx], by simp [hy], hH1, hTq, by rw [upd_ne hTq, upd_same], ho1, ho2⟩
    · obtain ⟨f1, f2⟩ := hf c hc
      exact ⟨by rw [upd_ne (hcq c hc), upd_ne (hne c hc)]; exact f1, f2⟩
theorem zip_no_len : typeLookup (.type "zip") "__len__" = pure none := by
  rw [typeLookup_type, builtinLookup_eq_fast]
  kernel_rfl
theorem zip_no_hint : typeLookup (.type "zip") "__length_hint__" = pure none := by
  rw [typeLookup_type, builtinLookup_eq_fast]
  kernel_rfl
theorem z_hint {prog : Program} {w : World} {A : Around} {E : Value → Shared → Prop} {s : Shared} {Q : Bool → Shared → Prop} (hT : s.TypeIs (.ref z) "zip") (h : Q true s) : wpAny (model prog w) A (Builtin.List.listLengthHint (.ref z)) Q E s := by
  unfold Builtin.List.listLengthHint
  refine wpAny_bind (wpAny_specialOf hT zip_no_len ?_)
  show wpAny _ _ (specialOf (Value.ref z) (Str.ofString "__length_hint__") >>= _) _ _ _
  refine wpAny_bind (wpAny_specialOf hT zip_no_hint ?_)
  exact wpAny_pure h
theorem lz_call {s : Shared} {Q : VK} (hc : X.calm = true) (D : ZipApart z ti to i1 i2 a b) (I : Inv X pins σ H1 s) (qa : ∀ H', Same H1 H' → SqT X.K H' a xs) (qb : ∀ H', Same H1 H' → SqT X.K H' b ys) (hn : min xs.length ys.length ≤ sizeLine)
    (hf : ∀ c ∈ [z, ti, to, i1, i2], FpOk X pins H1 c) (st : ZSt s.heap z ti to i1 i2 a b 0)
    (hQ : ∀ q acc H, H1 q = none → H q = some (.lst acc) → acc.length = min xs.length ys.length → Same H1 H → Prs q H1 H xs ys acc → Q (.ref q) H) :
    wpAny (model X.prog X.w) X.A (call (.type "list") [.ref z]) (EP X pins σ Q) X.xe s := by
  have lt : ∀ c ∈ [z, ti, to, i1, i2], c < s.heap.objs.size := fun c hc => by
    obtain ⟨f0, f1, hz, _⟩ := st.zo
    obtain ⟨q1, q2, hpo⟩ := st.po
    rcases mem5.mp hc with e | e | e | e | e <;> rw [e]
    · exact Heap.lt_size hz
    · exact Heap.lt_size st.pi
    · exact Heap.lt_size hpo
    · obtain ⟨_, e1, _⟩ := st.s1
      exact Heap.lt_size e1
    · obtain ⟨_, e1, _⟩ := st.s2
      exact Heap.lt_size e1
  have hcq : ∀ c ∈ [z, ti, to, i1, i2], c ≠ s.heap.objs.size := fun c hc => Nat.ne_of_lt (lt c hc)
  refine callType_codes (Q₁ := fun obj s₁ => obj = .ref s.heap.objs.size ∧ s₁ = { s with heap := s.heap.push { cls := .type "list", data := .seq #[] } }) PySem.F.called_list (PySem.F.typeCall_list_1 _) PySem.F.entry_list_init
    (code_list_new _ ⟨rfl, rfl⟩) fun obj s₁ h₁ => ?_
  obtain ⟨rfl, rfl⟩ := h₁
  have hS : (s.heap.push { cls := .type "list", data := .seq #[] }).get? s.heap.objs.size = some { cls := .type "list", data := .seq #[] } := Heap.get?_push_size _ rfl
  refine ⟨⟨_, hS, rfl⟩, PySem.F.args_list_init_2 _ _, ?_⟩
  have fr : H1 s.heap.objs.size = none := I.hok.fresh (Nat.le_refl _)
  have I1 : Inv X pins σ (upd H1 s.heap.objs.size (.lst [])) { s with heap := s.heap.push { cls := .type "list", data := .seq #[] } } := I.lnew (its := []) (t' := s.toks) .nil (Nat.zero_le _)
  show wpAny _ _ (do let old ← Builtin.List.listItems (.ref s.heap.objs.size); Builtin.List.listUpdate (.ref s.heap.objs.size) (fun _ => #[]); letGo old.toList.reverse; Builtin.List.listExtendWith (.ref s.heap.objs.size) (.ref z) .none) _ _ _
  refine wpAny_bind ?_
  unfold Builtin.List.listItems
  refine wpAny_bind (wpAny_seqItems hS rfl (wpAny_pure ?_))
  show wpAny _ _ (updateSeq s.heap.objs.size (fun _ => #[]) >>= fun _ => letGo (#[] : Array Value).toList.reverse >>= fun _ => Builtin.List.listExtendWith (.ref s.heap.objs.size) (.ref z) .none) _ _ _
  refine wpAny_bind (wpAny_updateSeq hS rfl ?_)
  have I2 := I1.lset (f := fun _ => #[]) (its := []) (its' := []) (ys := []) (t' := s.toks) upd_same hS rfl .nil (Nat.zero_le _)
  rw [upd_upd] at I2
  have st1 : ZSt (s.heap.push { cls := .type "list", data := .seq #[] }) z ti to i1 i2 a b 0 := z_keep st fun c _ o e => Heap.get?_push_of_some _ e
  have st2 := z_keep (h' := (s.heap.push { cls := .type "list", data := .seq #[] }).update s.heap.objs.size (Obj.mapSeq fun _ => (#[] : Array Value))) st1 fun c hc o e => (Heap.get?_update_other _ _ (hcq c hc).symm).trans e
  refine wpAny_bind (wpAny_letGo ?_)
  unfold Builtin.List.listExtendWith
  obtain ⟨f0, f1, hz, _⟩ := id st2.zo
  have hT : Shared.TypeIs { s with heap := (s.heap.push { cls := .type "list", data := .seq #[] }).update s.heap.objs.size (Obj.mapSeq fun _ => (#[] : Array Value)) } (.ref z) "zip" := ⟨_, hz, rfl⟩
  refine wpAny_bind (wpAny_typeOf hT ?_)
  have g1 : Builtin.List.listSameRef (.ref s.heap.objs.size) (.ref z) = false := by simp [Builtin.List.listSameRef, (hcq z (by simp)).symm]
  have g2 : (Value.type "zip" == Value.type "list") = false := by decide
  have g3 : (Value.type "zip" == Value.type "tuple") = false := by decide
  simp only [g1, g2, g3, Bool.or_false, Bool.false_eq_true, if_false]
  refine wpAny_bind (z_iter hz ?_)
  refine wpAny_bind (wpAny_holding (z_hint hT ?_))
  show wpAny _ _ (rule "list.extend.makes-room" >>= fun _ => Builtin.List.listTouch (.ref s.heap.objs.size) >>= fun _ =>
    again (.builtin "list.extend.loop" ⟨[.ref s.heap.objs.size, .ref z, .none], []⟩)) _ _ _
  refine wpAny_bind (wpAny_rule ?_)
  refine wpAny_bind ?_
  show wpAny _ _ (updateSeq s.heap.objs.size (·.push .none) >>= fun _ => updateSeq s.heap.objs.size (·.pop)) _ _ _
  obtain ⟨z3, its3, k3, r3, hl3, e3⟩ := I2.lstM upd_same
  cases r3
  refine wpAny_bind (wpAny_updateSeq e3 rfl ?_)
  have I3 := I2.lset (f := (·.push Value.none)) (its' := [Value.none]) (ys := [.non]) (t' := s.toks) upd_same e3 (by simp) (.cons rfl .nil) (by rw [List.length_singleton, sizeLine_eq]; decide)
  rw [upd_upd] at I3
  obtain ⟨z4, its4, k4, r4, hl4, e4⟩ := I3.lstM upd_same
  obtain ⟨u4, rfl, ru4⟩ := r4.one
  refine wpAny_updateSeq e4 rfl ?_ (by show 1 ≤ sizeLine; rw [sizeLine_eq]; decide) (by show 0 ≤ sizeLine + 1; exact Nat.zero_le _)
  have I4 := I3.lset (f := (·.pop)) (its := [u4]) (its' := []) (ys := []) (t' := s.toks) upd_same e4 (by rfl) .nil (Nat.zero_le _)
  rw [upd_upd] at I4
  have st3 := z_keep (h' := ((s.heap.push { cls := .type "list", data := .seq #[] }).update s.heap.objs.size (Obj.mapSeq fun _ => (#[] : Array Value))).update s.heap.objs.size (Obj.mapSeq (·.push Value.none))) st2 fun c hc o e => (Heap.get?_update_other _ _ (hcq c hc).symm).trans e
  have st4 := z_keep (h' := (((s.heap.push { cls := .type "list", data := .seq #[] }).update s.heap.objs.size (Obj.mapSeq fun _ => (#[] : Array Value))).update s.heap.objs.size (Obj.mapSeq (·.push Value.none))).update s.heap.objs.size (Obj.mapSeq (·.pop))) st3 fun c hc o e => (Heap.get?_update_other _ _ (hcq c hc).symm).trans e
  have sm : Same H1 (upd H1 s.heap.objs.size (.lst [])) := fun c u hc => by
    rw [upd_ne (ne_of_none hc fr)]
    exact hc
  refine wpAny_pure ⟨plainId_quiet PySem.F.plain_extend_loop _, lz_loop (A1 := X.A.in1) (I.ok.hd hc) D fr qa qb hn (Rs := wants (fun r s₂ => r = .none ∧ EP X pins σ Q (.ref s.heap.objs.size) s₂) X.xe)
    (fun acc H' s' I' hq hl sm' pr => ⟨rfl, .ref s.heap.objs.size, H', I', rfl, hQ _ acc H' fr hq hl sm' pr⟩) _ 0 [] _ _ rfl (Nat.zero_le _) I4 upd_same rfl sm (fun j hj => by cases hj) (fun c hc => ?_) hcq st4⟩
  obtain ⟨w1, w2⟩ := hf c hc
  exact ⟨by rw [upd_ne (hcq c hc)]; exact w1, w2⟩
end
/-! ### the rules -/
section
variable {X : Cx} {e e2 : Expr} {ta : TA}
/-- zip(a, b) of two tuples, called -/
theorem zip_made {pins : List (Addr × Obj)} {σ : L2.St} {H1 : Hp} {s1 : Shared} {us : List Value} {a b : Addr} {xs ys : List V} {R : Value → Shared → Prop} (I1 : Inv X pins σ H1 s1) (r1 : Vals [V.ref a, V.ref b] us) (hqx : SqT X.K H1 a xs) (hqy : SqT X.K H1 b ys)
    (q1 : ∀ s2 z ti to i1 i2, ZipApart z ti to i1 i2 a b → Inv X pins σ H1 s2 → (∀ c ∈ [z, ti, to, i1, i2], FpOk X pins H1 c) → ZSt s2.heap z ti to i1 i2 a b 0 → R (.ref z) s2) :
    wpAny (model X.prog X.w) X.A (call (.type "zip") us) R X.xe s1 := by
  cases r1 with
  | cons r rr =>
    cases rr with
    | cons r' rr =>
      cases rr
      cases r
      cases r'
      obtain ⟨its, rv, p1, _⟩ := I1.tuple hqx
      obtain ⟨its2, rv2, p2, _⟩ := I1.tuple hqy
      obtain ⟨o1, ho1, _⟩ := id p1
      obtain ⟨o2, ho2, _⟩ := id p2
      refine RZ.call_zipT (show s1.heap.IsTuple a its.toArray from p1) (show s1.heap.IsTuple b its2.toArray from p2) fun h' hz hti hto h1 h2 hsz hk => ?_
      refine q1 _ (s1.heap.objs.size + 4) (s1.heap.objs.size + 2) (s1.heap.objs.size + 3) s1.heap.objs.size (s1.heap.objs.size + 1) (PySem.W.ktu_apart s1.heap.objs.size a b (Heap.lt_size ho1) (Heap.lt_size ho2)) (I1.kept (t' := s1.toks) hk) (fun c hcm => ?_) ⟨⟨_, _, hz, .n⟩, hti, ⟨_, _, hto⟩, h1, h2⟩
      have hle : s1.heap.objs.size ≤ c := by
        rcases mem5.mp hcm with z | z | z | z | z <;> rw [z] <;> omega
      exact I1.fpOk hle (I1.hok.fresh hle)
def iZipK (K : PySem.W.Frag) (ta : TA) : TI := fun σ H R => ta σ H fun vs H1 => ∃ a b xs ys, vs = [.ref a, .ref b] ∧ SqT K H1 a xs ∧ SqT K H1 b ys ∧ R (ItK K a b) H1
theorem pi_zipK {nx : Str} {p pos tpos : Pos} (hg : Gl X "zip") (hm : X.mg "zip" = none) (ha : PA X [e, e2] ta)
    (hs : starEach [e, e2] X.env = (false, eval e X.env) :: starEach [e2] X.env) (hpl : (backTo pos (starEach [e2] X.env)).any (·.1) = false) :
    PI X (.Name nx tpos) (.Call (.Name "zip" p) [e, e2] [] pos) (iZipK X.K ta) := by
  refine ⟨fun pins s σ H R I h => ?_⟩
  refine Call_ (ld_blt I hg hm PyProof.Rows.boot_zip (PyProof.Rows.callWith_type1 (thn (ha.run pos pins s σ H _ I h) fun us s1 ⟨vs, H1, I1, r1, q1⟩ => ?_) hs hpl))
  obtain ⟨a, b, xs, ys, ex, hqx, hqy, q1⟩ := q1
  subst ex
  refine zip_made I1 r1 hqx hqy fun s2 z ti to i1 i2 D I2 hf st => ?_
  obtain ⟨f0, f1, hz, _⟩ := id st.zo
  exact z_iter hz ⟨z, [z, ti, to, i1, i2], _, _, H1, rfl, I2, turn_k D, st, hf, q1⟩
/-- list(zip(a, b)) of two tuples -/
def tLz (K : PySem.W.Frag) (ta : TA) : TE := fun σ H Q => ta σ H fun vs H1 => ∃ a b xs ys, vs = [.ref a, .ref b] ∧ (∀ H', Same H1 H' → SqT K H' a xs) ∧ (∀ H', Same H1 H' → SqT K H' b ys) ∧
  (min xs.length ys.length ≤ sizeLine → ∀ q acc H', H1 q = none → H' q = some (.lst acc) → acc.length = min xs.length ys.length → Same H1 H' → Prs q H1 H' xs ys acc → Q (.ref q) H')
theorem pe_lz {p p2 pos pos2 : Pos} (hc : X.calm = true) (hg : Gl X "list") (hm : X.mg "list" = none) (hg2 : Gl X "zip") (hm2 : X.mg "zip" = none) (ha : PA X [e, e2] ta)
    (hs : starEach [e, e2] X.env = (false, eval e X.env) :: starEach [e2] X.env) (hpl : (backTo pos2 (starEach [e2] X.env)).any (·.1) = false) :
    PE X (.Call (.Name "list" p) [.Call (.Name "zip" p2) [e, e2] [] pos2] [] pos) (tLz X.K ta) := by
  refine ⟨fun pins s σ H Q I h => ?_⟩
  refine Call_ (ld_blt I hg hm PyProof.Rows.boot_list ?_)
  refine PyProof.Rows.callWith_type1 (PyProof.Rows.args_cons ?_ rfl) rfl rfl
  refine Call_ (ld_blt I hg2 hm2 PyProof.Rows.boot_zip (PyProof.Rows.callWith_type1 (thn (ha.run pos2 pins s σ H _ I h) fun us s1 ⟨vs, H1, I1, r1, q1⟩ => ?_) hs hpl))
  obtain ⟨a, b, xs, ys, ex, hqx, hqy, q1⟩ := q1
  subst ex
  have hsz : min xs.length ys.length ≤ sizeLine := by
    obtain ⟨_, _, _, z⟩ := I1.tuple (hqx H1 (Same.refl _))
    exact Nat.le_trans (Nat.min_le_left _ _) z
  refine zip_made I1 r1 (hqx H1 (Same.refl _)) (hqy H1 (Same.refl _)) fun s2 z ti to i1 i2 D I2 hf st => ?_
  refine PyProof.Rows.args_nil ?_
  exact lz_call hc D I2 hqx hqy hsz hf st (q1 hsz)
end
end Pu

/-! an exception that leaves a comprehension's element -/
namespace Pu
open PySem PySem.Spec PyProof.Rows L2
theorem traced_but {h h' B B' : Heap} {a C : Addr} {Z : Obj → Prop} {fl : Value} {m : Str → Option Value} (hs : Heap.SameBut C h h') (hn : h.Ns C m) (hB : ∀ b o, B'.get? b = some o → B.get? b = some o)
    (t : HandSPX.TracedZ h B a Z fl) : HandSPX.TracedZ h' B' a Z fl := by
  obtain ⟨oe, vs, T, oT, ts, he, hz, hd, h1, hnT, hTe, hT, hdT, h3⟩ := t
  obtain ⟨oC, es, ep, hC, hdC, _⟩ := hn
  have ne1 : a ≠ C := fun e => by
    rw [e, hC] at he
    cases he
    rw [hdC] at hd
    cases hd
  have ne2 : T ≠ C := fun e => by
    rw [e, hC] at hT
    cases hT
    rw [hdC] at hdT
    cases hdT
  refine ⟨oe, vs, T, oT, ts, (hs.2 a ne1).trans he, hz, hd, h1, ?_, hTe, (hs.2 T ne2).trans hT, hdT, h3⟩
  cases q : B'.get? T with
  | none => rfl
  | some o =>
    have := hB T o q
    rw [hnT] at this
    cases this
theorem hide_ne {B : Heap} {C b : Addr} {o : Obj} (e : (PySem.W.hideAll B [C]).get? b = some o) : b ≠ C := fun z => by
  rw [PySem.W.hideAll_none [C] (by simp [z])] at e
  cases e
/-- a comprehension's block, in a def's own frame: what its element lets out is noted and goes on in the def -/
abbrev blkE (X : Cx) (s : Shared) (H : Hp) (scope : Scope) (cenv : Env) (fp : List Addr) : Cx :=
  { X.blk s H scope cenv fp with xe := notedBy (model X.prog X.w) X.A cenv (CompFails (model X.prog X.w) X.A X.xe cenv) }
section
variable {X : Cx} {pins : List (Addr × Obj)} {σ : L2.St} {H : Hp} {s : Shared} {W : WX}
theorem inv_xe (I : Inv X pins σ H s) (f : Value → Shared → Prop) : Inv { X with xe := f } pins σ H s := by
  obtain ⟨ok, h1, h2, h3, h4, h5, h6, h7, h8, h9, h10⟩ := I
  exact ⟨⟨ok.mod, ok.kind, ok.glob, ok.blt, ok.above, ok.inj, ok.has, ok.cab, ok.hd, ok.frames, ok.stk, ok.exf, ok.bs, ok.bsz, ok.noex, ok.exfs, ok.funs, ok.frf⟩, h1, h2, h3, h4, h5, h6, h7, h8, h9, h10⟩
theorem blk_passes (I3 : Inv X pins σ H s) (tk : Takes X W) (hst : X.stack = X.env :: X.outer) (hf : X.env.frame = some X.env.locals) {scope : Scope} {cl : List (Str × Addr)} {C : Addr} {fp : List Addr} (hC : C = s.heap.objs.size)
    (f3 : ∀ b ∈ fp, FpOk X pins H b) (σ' : L2.St) : PassesAt (L2.CX X.prog X.w) (blkE X s H scope (compEnvC scope cl C X.env) fp) σ' (fun c d H' => W c d σ H') := by
  intro pins' H' s' u s'' I c
  have c0 := c
  obtain ⟨a, B0, Hx, cls0, d0, rfl, fl0, _⟩ := c0
  obtain ⟨a', B, sI, pins'', σ'', H2, cls, d, e, I', nb, up, sky, na, os, ag, w⟩ := XE.of_call (W := fun c d _ H' => W c d σ H') I (fun _ _ _ h => h) c
  cases e
  have fl : HandSPX.FlyingZ B X.stack a (Zc cls d) s''.heap := by
    obtain ⟨_, _, _, oe', vs', T', oT', ts', he', hz', hd', h1', _, _, hT', hdT', h3'⟩ := fl0
    rcases sky with ⟨_, _, _, oe, vs, he, _, hd, h1⟩ | fl | hd
    · rw [he'] at he
      cases he
      rw [hd'] at hd
      cases hd
      rw [h1'] at h1
      cases h1
    · exact fl
    · obtain ⟨_, _, _, oe, vs, T, oT, ts, he, hz, hd, h1, _, _, hT, hdT, h3⟩ := hd
      rw [he'] at he
      cases he
      rw [hd'] at hd
      cases hd
      rw [h1'] at h1
      cases h1
      rw [hT'] at hT
      cases hT
      rw [hdT'] at hdT
      cases hdT
      rw [h3'] at h3
      cases h3
  rw [hst] at fl
  have hfr : X.A.frames = some (X.env :: X.outer) := by rw [I3.ok.frames, hst]
  show wpAny _ _ (noteFrame (.ref a) (compEnvC scope cl C X.env)) _ _ _
  rw [noteFrame_env (cenv := compEnvC scope cl C X.env) (env := X.env) (.ref a) rfl]
  refine HandSPX.looks_onZ Zc.steady hfr hf fl fun h1 hh up1 => ?_
  obtain ⟨m, hn, _⟩ := I'.loc
  have hn : sI.heap.Ns C m := hn
  have nC : H2 C = none := I'.free
  have hn1 : h1.Ns C m := (up.trans up1).ns hn
  refine ⟨m, hn1, fun h2 m2 hn2 sb => ?_⟩
  have sb : Heap.SameBut C h1 h2 := sb
  have hn2 : h2.Ns C m2 := hn2
  obtain ⟨b1, b0, f1, t1⟩ := hh
  have hB1 : ∀ b o, (PySem.W.hideAll B [C]).get? b = some o → B.get? b = some o := fun b o e => PySem.W.of_hideAll [C] e
  have hnone : ∀ b, B.get? b = none → (PySem.W.hideAll B [C]).get? b = none := fun b e => by
    cases q : (PySem.W.hideAll B [C]).get? b with
    | none => rfl
    | some o =>
      have := hB1 b o q
      rw [e] at this
      cases this
  have hh2 : HandSPX.HeldZ (PySem.W.hideAll B [C]) (X.env :: X.outer) a (Zc cls d) X.env.locals h2 :=
    ⟨fun b o e => (sb.2 b (hide_ne e)).trans (b1 b o (hB1 b o e)), hnone a b0, funFrames_none (Heap.FunFrames.sameBut sb hn2 f1) fun L hL => hnone L (f1.mem hL).1, traced_but sb hn1 hB1 t1⟩
  have hh2' := hh2
  obtain ⟨_, _, _, oe, vs, T, oT, ts, he, hz, hd, h1', _⟩ := hh2'
  unfold PySem.passOn
  refine wpAny_bind (wpAny_field he hd h1' ?_)
  rw [if_neg (show ¬ ((Value.ref T == Value.none) = true) from by simp)]
  show wpAny _ _ (setFlight (.ref a) X.env.frame >>= _) _ _ _
  rw [hf]
  refine wpAny_bind (HandSPX.setFlight_onZ hh2 fun h3 hh3 up3 => wpAny_throw ?_)
  have I7 : Inv X pins σ H2 sI := I3.call' (ch := fp) I'.os I'.base I'.hok I'.bare fun b hb => ⟨(f3 b hb).2.2.2.1, (f3 b hb).2.1, (f3 b hb).2.2.2.2.1, (f3 b hb).2.2.2.2.2⟩
  obtain ⟨g0, g1, g2, g3, g4, g5⟩ := I3.fpOk (Nat.le_of_eq hC.symm) nC
  have I8 := I7.turned (t' := sI.toks) (h' := PySem.W.hideAll sI.heap [C]) (fun b o hb e => PySem.W.hideAll_get [C] e (by simpa using hb)) g0 g1 g3 g4 g5
  refine tk _ _ ⟨a, PySem.W.hideAll B [C], { sI with heap := PySem.W.hideAll sI.heap [C] }, pins, σ, H2, cls, d, rfl, I8, fun b o e hb => ?_, fun b o e hd => ?_, .inr (.inr (hst ▸ hh3)), na, os, ag, w⟩
  · exact PySem.W.hideAll_get [C] (nb b o (PySem.W.of_hideAll [C] e) hb) (by simpa using hide_ne e)
  · obtain ⟨sl, e1⟩ := (up.trans up1) b o (PySem.W.of_hideAll [C] e) hd
    obtain ⟨sl2, e2⟩ := up3 b _ ((sb.2 b (hide_ne e)).trans e1) hd
    exact ⟨sl2, e2⟩
end
/-! ### the rounds -/
/-- where the rounds stand: n is left to spend -/
def Stage (Y : Cx) (τ : L2.St) (fp : List Addr) (tn : Nat → Heap → Prop) (M : Nat → Nat → Hp → Prop) (n : Nat) (t : Shared) : Prop :=
  ∃ (i : Nat) (G : Hp), Inv Y [] τ G t ∧ tn i t.heap ∧ (∀ b ∈ fp, G b = none) ∧ M i n G
section
variable {Y : Cx} {τ : L2.St} {fp : List Addr} {tn : Nat → Heap → Prop} {M : Nat → Nat → Hp → Prop} {n i : Nat} {t : Shared} {G : Hp} {it D : Addr} {J : It} {tg elt : Expr} {g : TG} {te : TE} {vs : List Nat}
theorem stage_fp (hx : Y.ex = fp) (hp : Y.pn = []) (I : Inv Y [] τ G t) (fr : ∀ b ∈ fp, G b = none) : ∀ b ∈ fp, FpOk Y [] G b := by
  intro b hb
  have hb' : b ∈ Y.ex := hx ▸ hb
  have k := I.ok.exf b hb'
  refine ⟨fr b hb, k.1, I.ok.exfs b hb', Or.inl hb', k.2, ?_⟩
  rw [hp]
  intro p z
  cases z
/-- what a round leaves, its pins taken out -/
theorem stage_back {h0 : Heap} {σ₂ : L2.St} {m : Nat} (T : Turn Y.prog Y.w Y.K tg J fp it tn) (tk : tn (i + 1) h0) (hw : wipe σ₂ vs = τ) (hm : m < n) (hM : M (i + 1) m G) (I : Inv Y ([] ++ pinsAt fp h0) σ₂ G t) : ∃ m, m < n ∧ Stage Y τ fp tn M m t := by
  have pinned : ∀ b ∈ fp, ∃ o, h0.get? b = some o ∧ t.heap.get? b = some o ∧ G b = none := by
    intro b hb
    obtain ⟨o, e, _⟩ := T.obj _ _ tk b hb
    have hin : ((b, o) : Addr × Obj) ∈ Y.pn ++ ([] ++ pinsAt fp h0) := List.mem_append.mpr (.inr (List.mem_append.mpr (.inr (mem_pinsAt hb e))))
    have k := I.pin _ hin
    exact ⟨o, e, k.1, k.2.1⟩
  have J1 : Inv Y [] τ G t := by
    have J0 : Inv Y [] σ₂ G t := Inv.unpinned (pins := []) I
    refine J0.weak (by rw [← hw, wipe_length]) ?_
    intro j v e
    rw [← hw] at e
    exact (wipe_some e).1
  refine ⟨m, hm, i + 1, G, J1, ?_, fun b hb => ?_, hM⟩
  · refine T.keep _ _ _ tk ?_
    intro b hb o e
    obtain ⟨o', e', k, _⟩ := pinned b hb
    rw [e] at e'
    cases e'
    exact k
  · obtain ⟨_, _, _, k⟩ := pinned b hb
    exact k
theorem stage_turn (calm : Y.calm = true) (hx : Y.ex = fp) (hp : Y.pn = []) (T : Turn Y.prog Y.w Y.K tg J fp it tn) (pg : PG Y tg g) (pe : PE Y elt te) {Nx : Hp → Prop} (hN : ∀ G', Nx G' → ∃ m, m < n ∧ M (i + 1) m G')
    (I : Inv Y [] τ G t) (ti : tn i t.heap) (fr : ∀ b ∈ fp, G b = none) (go : J.go i G)
    (step : ∀ x G', J.yld i G x G' → g x τ G' fun σ₂ H₂ => wipe σ₂ vs = τ ∧ tYes σ₂ H₂ fun k H₃ => if k = true then te σ₂ H₃ fun y H₄ => ∃ ys, H₄ D = some (.lst ys) ∧ ys.length < sizeLine ∧ Nx (upd H₄ D (.lst (ys ++ [y]))) else Nx H₃) :
    wpAny (model Y.prog Y.w) Y.A (pyNext (.ref it)) (fun r t₁ => ∃ v, r = some v ∧ wpAny (model Y.prog Y.w) Y.A (letOwnedTupleGo tg (.ref it) v) (fun _ t₂ => wpAny (model Y.prog Y.w) Y.A (assign tg Y.env v) (fun _ t₃ =>
      wpAny (model Y.prog Y.w) Y.A (eval elt Y.env) (fun u t₄ => wpAny (model Y.prog Y.w) Y.A (call (.builtin "list.append") [.ref D, u]) (fun _ t₅ => ∃ m, m < n ∧ Stage Y τ fp tn M m t₅) Y.xe t₄) Y.xe t₃) Y.xe t₂) Y.xe t₁) Y.xe t := by
  have next := T.item Y rfl rfl rfl calm i [] t τ G Y.xe I (stage_fp hx hp I fr) ti go
  refine thn next ?_
  rintro r t₁ ⟨v, rfl, gone⟩
  refine ⟨v, rfl, thn gone ?_⟩
  rintro _ t₂ ⟨x, G₂, I₂, rx, yx, tk, fr₂⟩
  have P₂ := I₂.pinned (stage_fp hx hp I₂ fr₂) (T.obj _ _ tk)
  refine thn (pg.run _ t₂ τ G₂ x v _ P₂ rx (step x G₂ yx)) ?_
  rintro _ t₃ ⟨σ₂, G₃, I₃, hw, q₃⟩
  have q₃ : te σ₂ G₃ fun y H₄ => ∃ ys, H₄ D = some (.lst ys) ∧ ys.length < sizeLine ∧ Nx (upd H₄ D (.lst (ys ++ [y]))) := q₃
  refine thn (pe.run _ t₃ σ₂ G₃ _ I₃ q₃) ?_
  rintro u t₄ ⟨y, G₄, I₄, ry, ys, hD, hz, nx⟩
  refine app_ok I₄ hD hz ry ?_
  intro t₅ I₅
  obtain ⟨m, hm, hM⟩ := hN _ nx
  exact stage_back T tk hw hm hM I₅
end
/-- the turns' wish, the element's reading by the slots outside -/
def tLcX (wi : TI) (g : TG) (te : L2.St → TE) (vs : List Nat) : TE := fun σ H Q => tLc wi g tYes (te σ) vs σ H Q
section
variable {X : Cx} {W : WX} {elt tg iter : Expr} {scope : Scope} {own : List (Str × Nat)} {pos : Pos} {wi : TI} {g : TG}
/-- what the block's target and element are to be, where a call lets out what the def takes outside (at the slots σ there) -/
def Bk (X : Cx) (W : WX) (tg elt : Expr) (scope : Scope) (g : TG) (te : TE) (σ : L2.St) : Prop :=
  ∀ (s : Shared) (H : Hp) (C : Addr) (cl : List (Str × Addr)) (fp : List Addr), (∀ σ', PassesAt (L2.CX X.prog X.w) (blkE X s H scope (compEnvC scope cl C X.env) fp) σ' (fun c d H' => W c d σ H')) →
    PG (blkE X s H scope (compEnvC scope cl C X.env) fp) tg g ∧ PE (blkE X s H scope (compEnvC scope cl C X.env) fp) elt te
/-- from where the iterator stands -/
theorem lcX_from {pins : List (Addr × Obj)} {σ : L2.St} {te : TE} {J : It} {H : Hp} {s : Shared} {it : Addr} {fp : List Addr} {tn : Nat → Heap → Prop} {Q : VK} {Qf : Value → Shared → Prop}
    (calm : X.calm = true) (nd : X.N.Nodup) (ok : BlkOk X.N X.env.scope scope own) (tk : Takes X W) (hst : X.stack = X.env :: X.outer) (hf : X.env.frame = some X.env.locals) (hb : Bk X W tg elt scope g te σ)
    (I : Inv X pins σ H s) (T : Turn X.prog X.w X.K tg J fp it tn) (st : tn 0 s.heap) (hfp : ∀ b ∈ fp, FpOk X pins H b)
    (rounds : ∀ D, H D = none → ∃ M : Nat → Nat → Hp → Prop, (∃ m, M 0 m (upd H D (.lst []))) ∧ ∀ i m G, M i m G → (J.stop i G ∧ Q (.ref D) G) ∨ (J.go i G ∧ ∃ Nx : Hp → Prop, (∀ G', Nx G' → ∃ m', m' < m ∧ M (i + 1) m' G') ∧
      ∀ x G', J.yld i G x G' → g x (wipe σ (own.map (·.2))) G' fun σ₂ H₂ => wipe σ₂ (own.map (·.2)) = wipe σ (own.map (·.2)) ∧ tYes σ₂ H₂ fun k H₃ => if k = true then te σ₂ H₃ fun y H₄ => ∃ ys, H₄ D = some (.lst ys) ∧ ys.length < sizeLine ∧ Nx (upd H₄ D (.lst (ys ++ [y]))) else Nx H₃))
    (out : ∀ D C s' m H', Inv X pins σ H' s' → Q (.ref D) H' → s'.heap.Ns C m → FpOk X pins H' C → ∀ h', Heap.SameBut C s'.heap h' → Qf (.ref D) { s' with heap := h' }) :
    wpAny (model X.prog X.w) X.A (newList []) (fun acc s₃ => wpAny (model X.prog X.w) X.A (newFunctionEnv scope X.env.globals (cloFrom X.env.cells scope.names []) [] X.env.qual none .none (some X.env)) (fun cenv s₄ =>
      codeAny (model X.prog X.w) X.A (.compStart (.ListComp elt [⟨tg, iter, [], 0⟩] scope pos) 0 (.ref it) acc { cenv with scope := relabel scope X.env }) (compEnds (model X.prog X.w) X.A X.xe none Qf acc { cenv with scope := relabel scope X.env }) s₄) X.xe s₃) X.xe s := by
  refine wpAny_newObj_type (newEnv_comp ?_) (Nat.zero_le _)
  -- the list is laid, then the block
  let sD : Shared := { s with heap := s.heap.push { cls := .type "list", data := .seq ([] : List Value).toArray } }
  let HD : Hp := upd H s.heap.objs.size (.lst [])
  have grown : ∀ b o, s.heap.get? b = some o → sD.heap.get? b = some o := fun b o e => Heap.get?_push_of_some _ e
  have ID : Inv X pins σ HD sD := I.laid (t' := s.toks) grown (Nat.le_refl _) ⟨Nat.zero_le _, [], 0, .nil, Heap.get?_push_size _ rfl⟩
  have small : ∀ b ∈ fp, b < s.heap.objs.size := fun b hb => by
    obtain ⟨o, e, _⟩ := T.obj _ _ st b hb
    exact Heap.lt_size e
  have fpD : ∀ b ∈ fp, FpOk X pins HD b ∧ b < sD.heap.objs.size := fun b hb => by
    have lt := small b hb
    have up : s.heap.objs.size ≤ sD.heap.objs.size := by
      show _ ≤ (s.heap.push _).objs.size
      rw [Heap.size_push]
      exact Nat.le_succ _
    obtain ⟨k0, k1⟩ := hfp b hb
    exact ⟨⟨(upd_ne (Nat.ne_of_lt lt)).trans k0, k1⟩, Nat.lt_of_lt_of_le lt up⟩
  have IB := inv_xe (block_start ID ok nd fpD)
  have two := hb sD HD sD.heap.objs.size (cellsFrom (sD.heap.objs.size + 1) scope.names (cloFrom X.env.cells scope.names [])) fp (blk_passes ID tk hst hf rfl fun b hb => (fpD b hb).1)
  have fpN : ∀ b ∈ fp, HD b = none := fun b hb => (fpD b hb).1.1
  obtain ⟨M, ⟨m₀, w₀⟩, each⟩ := rounds s.heap.objs.size (I.hok.fresh (Nat.le_refl _))
  have tD : tn 0 sD.heap := T.keep _ _ _ st fun b _ o e => grown b o e
  have tB : tn 0 (pushCells (sD.heap.push { cls := .type "dict", data := .dict #[] }) scope.names) := T.keep _ _ _ tD fun b _ o e => pushCells_keeps _ _ _ _ (Heap.get?_push_of_some _ e)
  generalize eC : compEnvC scope (cellsFrom (sD.heap.objs.size + 1) scope.names (cloFrom X.env.cells scope.names [])) sD.heap.objs.size X.env = ce at IB two
  have locC : ce.locals = sD.heap.objs.size := by rw [← eC]; rfl
  obtain ⟨pg, pe⟩ := two
  have whole : codeAny (model X.prog X.w) X.A (.compLoop (.ListComp elt [⟨tg, iter, [], 0⟩] scope pos) 0 (.ref it) (.ref s.heap.objs.size) ce) (compEnds (model X.prog X.w) X.A X.xe none Qf (.ref s.heap.objs.size) ce)
      { sD with heap := pushCells (sD.heap.push { cls := .type "dict", data := .dict #[] }) scope.names } := by
    refine compLoop_any (Stage (blkE X sD HD scope ce fp) (wipe σ (own.map (·.2))) fp tn M) ?_ m₀ ⟨0, HD, IB _, tB, fpN, w₀⟩
    rintro n t ⟨i, G, IG, ti, fr, w⟩
    rcases each i n G w with ⟨stop, q⟩ | ⟨go, Nx, hN, step⟩
    · -- the rounds are over: the def's own state again
      refine thnF (T.done (blkE X sD HD scope ce fp) rfl rfl rfl calm i [] t _ G (fun _ _ => False) IG (stage_fp rfl rfl IG fr) ti stop) ?_
      rintro r t' ⟨rfl, IT⟩
      have IX : Inv X pins σ G t' := ID.call' (ch := fp) IT.os IT.base IT.hok IT.bare fun b hb => by
        obtain ⟨_, a1, _, a3, a4, a5⟩ := (fpD b hb).1
        exact ⟨a3, a1, a4, a5⟩
      have fC : G sD.heap.objs.size = none := locC ▸ (show G ce.locals = none from IT.free)
      obtain ⟨mC, nC, _⟩ := IT.loc
      have nC : t'.heap.Ns ce.locals mC := nC
      exact ⟨mC, nC, fun h' sb => out _ _ t' mC G IX q (locC ▸ nC) (ID.fpOk (Nat.le_refl _) fC) h' (locC ▸ sb)⟩
    · refine thn (stage_turn (Y := blkE X sD HD scope ce fp) calm rfl rfl T pg pe hN IG ti fr go step) ?_
      rintro r t₁ ⟨v, rfl, k₁⟩
      refine thn k₁ fun _ t₂ k₂ => thn k₂ fun _ t₃ k₃ => wpAny_tests_nil ?_
      rw [if_pos rfl]
      exact k₃
  rw [← eC] at whole
  exact codeAny_compStart_list whole (T.self X.A 0 _ _ _ tB whole)
/-- as a value -/
theorem pe_lcX {te : L2.St → TE} (calm : X.calm = true) (nd : X.N.Nodup) (hi : PI X tg iter wi) (ok : BlkOk X.N X.env.scope scope own) (tk : Takes X W) (hst : X.stack = X.env :: X.outer) (hf : X.env.frame = some X.env.locals)
    (hb : ∀ σ, Bk X W tg elt scope g (te σ) σ) (hs : ∀ x, foldedSetIterable iter X.env x = pure x) : PE X (.ListComp elt [⟨tg, iter, [], 0⟩] scope pos) (tLcX wi g te (own.map (·.2))) := by
  constructor
  intro pins s σ H Q I h
  rw [eval_ListComp]
  have captured : ∀ y ∈ scope.names, y.2 = .free → ∃ c, X.env.cells.lookup y.1 = some c := fun y hy e => I.ok.has _ (ok.free y hy e)
  have iterated := hi.run pins s σ H _ I h
  refine comprehension_at (use := none) rfl hs (closure_ok captured) ok.kind (fun y hy e => (ok.uniq y hy).trans (congrArg some e)) (thn iterated fun xv s₁ k => thn k ?_)
  rintro _ s₂ ⟨it, fp, tn, J, H₂, rfl, I₂, T, st, hfp, rounds⟩
  refine lcX_from calm nd ok tk hst hf (hb σ) I₂ T st hfp rounds ?_
  intro D C s' m H' I' q hn k h' sb
  obtain ⟨k0, k1, _, k3, k4, k5⟩ := k
  exact ⟨.ref D, H', I'.turned (t' := s'.toks) (fun b o ne e => (sb.2 b ne).trans e) k0 k1 k3 k4 k5, rfl, q⟩
end
end Pu

/-! the small language of plain data: syntax and weakest preconditions -/
namespace Pu
open PySem PySem.Spec PyProof.Rows L2
open PySem.W (AlikeAll maxD)

abbrev D := PyData
inductive Slot where
  | un | val (d : D) | own (ds : List D) | dic (kvs : List (Int × D))
abbrev Ev := List Slot
/-- what a call wants: the callee, its arguments, the wish, the wish of an exception (by its class) -/
abbrev Spc := String → List D → (D → Prop) → (String → Prop) → Prop

inductive Cm where | lt | le | gt | ge
  deriving DecidableEq
inductive Ty where | int | bool | tup | lst | str
  deriving DecidableEq
inductive Bi where | len | tup | all | any | max | min | sum | abs | int | str | maxT
  deriving DecidableEq
inductive Tg where | one (i : Nat) | many (is : List Nat)
  deriving DecidableEq

mutual
inductive PX where
  | v (i : Nat) | i (z : Int) | b (x : Bool) | n | s (x : String)
  | add (x y : PX) | sub (x y : PX) | mul (x y : PX) | md (x y : PX) | fd (x y : PX) | neg (x : PX)
  | bool (an : Bool) (es : PXs) | not (x : PX) | notL (x : PB)
  | cmp (o : Cm) (x y : PX) | chain (o p : Cm) (x y z : PX)
  | eq (ne : Bool) (x y : PB) | isN (ne : Bool) (x : PX) | isB (ne : Bool) (c : Bool) (x : PX)
  | mem (ne : Bool) (x : PX) (y : PB) | memD (ne : Bool) (x : PX) (i : Nat) | getD (i : Nat) (x : PX)
  | call (f : String) (es : PXs) | bi (f : Bi) (x : PB) | isi (t : Ty) (x : PX)
  | ix (x : PB) (y : PX) | sl (x : PX) (lo hi : POp) | tup (es : PXs) | fr (l : PF)
  | idx (x : PB) (y : PX) | join (x : PX) (y : PB) | tcx (own : List Nat) (tg : Tg) (src : PIt) (e : PX)
inductive PXs where | nil | cons (x : PX) (r : PXs)
inductive PB where | x (e : PX) | l (p : PL)
inductive PL where | b (i : Nat) | f (p : PF)
inductive POp where | no | so (e : PX)
inductive PF where
  | lst (es : PXs)
  | comp (own : List Nat) (tg : Tg) (src : PIt) (c : PQs) (e : PX)
  | cat (x y : PL) | sl (x : PB) (lo hi : POp) | list (x : PB) | sorted (x : PB) | rep (x : PL) (y : PX) | split (x y : PX)
  | lz (x y : PB)
inductive PIt where
  | r1 (x : PX) | r2 (x y : PX) | sq (x : PB) | en (x : PB) | zp (x y : PB) | rv (x : PB) | z1 (x y : PB)
inductive PQ where | e (x : PX) | tr (x : PB) | not (t : PQ) | bool (an : Bool) (ts : PQs)
inductive PQs where | nil | cons (t : PQ) (r : PQs)
end
mutual
inductive PSt where
  | set (i : Nat) (x : PX) | own (i : Nat) (f : PF) | dic (i : Nat) | tgt (is : List Nat) (x : PX) | par (i j : Nat) (x y : PX)
  | app (i : Nat) (x : PX) | ext (i : Nat) (x : PL) | put (i : Nat) (k x : PX) | dput (i : Nat) (k x : PX) | pop (j i : Nat)
  | ex (x : PX) | ret (x : PX) | ite (t : PQ) (a c : PSs) | for_ (tg : Tg) (s : PIt) (b : PSs) | whl (t : PQ) (b : PSs)
  | raise (c m : String) | frz (i : Nat) (s : PSt)
  | try_ (b : PSs) (cn : String) (nm : Option Nat) (ts : List (Bool × String)) (i : Nat) (z : Option String)
inductive PSs where | nil | cons (s : PSt) (r : PSs)
end

/-! ### what operators do to data -/
def addW : D → D → (D → Prop) → Prop
  | .int i, .int j, Q => Q (.int (i + j))
  | .str x, .str y, Q => x.length + y.length ≤ sizeLine ∧ Q (.str (x ++ y))
  | .tuple a, .tuple b, Q => a.length + b.length ≤ sizeLine ∧ Q (.tuple (a ++ b))
  | _, _, _ => False
def subW : D → D → (D → Prop) → Prop
  | .int i, .int j, Q => Q (.int (i - j))
  | _, _, _ => False
def mulW : D → D → (D → Prop) → Prop
  | .int i, .int j, Q => (CMul i j ∨ CMulW i j) ∧ Q (.int (i * j))
  | .tuple a, .int k, Q => a ≠ [] ∧ 2 ≤ k ∧ k ≤ 1000 ∧ a.length ≤ 1000 ∧ Q (.tuple (List.replicate k.toNat a).flatten)
  | _, _, _ => False
def mdW : D → D → (D → Prop) → Prop
  | .int i, .int j, Q => 0 < j ∧ Q (.int (i % j))
  | _, _, _ => False
def fdW : D → D → (D → Prop) → Prop
  | .int i, .int j, Q => CDivW i j ∧ Q (.int (i / j))
  | _, _, _ => False
@[simp] def cmI : Cm → Int → Int → Bool
  | .lt, i, j => decide (i < j)
  | .le, i, j => decide (i ≤ j)
  | .gt, i, j => decide (j < i)
  | .ge, i, j => decide (j ≤ i)
def cmpW (o : Cm) : D → D → (Bool → Prop) → Prop
  | .int i, .int j, Q => Q (cmI o i j)
  | _, _, _ => False
@[simp] def eqW (ne : Bool) (x y : D) (Q : D → Prop) : Prop := SeqAt.shaped x = true ∧ SeqAt.shaped y = true ∧ Q (.bool (ne ^^ PyData.eqv x y))
def isNo : D → Bool
  | .none => true
  | _ => false
def memW (ne : Bool) (x : D) : D → (D → Prop) → Prop
  | .list ds, Q => SeqAt.shaped x = true ∧ SeqAt.shaped (.list ds) = true ∧ Q (.bool (ne ^^ ds.any fun z => PyData.eqv z x))
  | .tuple ds, Q => SeqAt.shaped x = true ∧ SeqAt.shaped (.tuple ds) = true ∧ Q (.bool (ne ^^ ds.any fun z => PyData.eqv z x))
  | _, _ => False
def ixW : D → D → (D → Prop) → Prop
  | .list ds, .int z, Q => ∃ d, atI ds z = some d ∧ Q d
  | .tuple ds, .int z, Q => ∃ d, atI ds z = some d ∧ Q d
  | .str x, .int z, Q => x.length ≤ sizeLine ∧ ∃ c, atI x.cps.toList z = some c ∧ Q (.str ⟨#[c]⟩)
  | _, _, _ => False
def cutD {α : Type} (xs : List α) (lo hi : Option Int) : List α := (xs.drop (HT.sIx xs.length 0 lo)).take (HT.sIx xs.length xs.length hi - HT.sIx xs.length 0 lo)
def slW : D → Option Int → Option Int → (D → Prop) → Prop
  | .tuple ds, lo, hi, Q => Q (.tuple (cutD ds lo hi))
  | .str x, lo, hi, Q => x.length ≤ sizeLine ∧ Q (.str (cutS x lo hi))
  | _, _, _, _ => False
def seqD : D → Option (List D)
  | .list ds => some ds
  | .tuple ds => some ds
  | _ => none
/-- x.index(y): the first place of an equal one -/
def idxW (x : D) (ds : List D) (y : D) (Q : D → Prop) : Prop := ∃ (j : Nat) (z : D), SeqAt.shaped x = true ∧ SeqAt.shaped y = true ∧ ds[j]? = some z ∧ PyData.eqv z y = true ∧
  (∀ (m : Nat) (z' : D), m < j → ds[m]? = some z' → PyData.eqv z' y = false) ∧ Q (.int (j : Nat))
@[simp] def biW : Bi → D → (D → Prop) → Prop
  | .len, x, Q => (∃ ds, seqD x = some ds ∧ Q (.int ds.length)) ∨ (∃ z, x = .str z ∧ z.length ≤ sizeLine ∧ Q (.int z.length))
  | .tup, x, Q => ∃ ds, seqD x = some ds ∧ Q (.tuple ds)
  | .all, x, Q => ∃ bs : List Bool, x = .list (bs.map .bool) ∧ Q (.bool (bs.all id))
  | .any, x, Q => ∃ bs : List Bool, x = .list (bs.map .bool) ∧ Q (.bool (bs.any id))
  | .max, x, Q => ∃ ns : List Int, x = .list (ns.map .int) ∧ 0 < ns.length ∧ ∀ m, m ∈ ns → (∀ y, y ∈ ns → y ≤ m) → Q (.int m)
  | .min, x, Q => ∃ ns : List Int, x = .list (ns.map .int) ∧ 0 < ns.length ∧ ∀ m, m ∈ ns → (∀ y, y ∈ ns → m ≤ y) → Q (.int m)
  | .sum, x, Q => ∃ ns : List Int, x = .list (ns.map .int) ∧ Q (.int ns.sum)
  | .abs, x, Q => ∃ i : Int, x = .int i ∧ Q (.int (if i < 0 then -i else i))
  | .int, x, Q => (∃ i, x = .int i ∧ Q (.int i)) ∨ ∃ k, x = .bool k ∧ Q (.int (if k then 1 else 0))
  | .str, x, Q => ∃ i, x = .int i ∧ i.natAbs.log2 < 1920 ∧ Q (.str (toString i : String))
  | .maxT, x, Q => ∃ d ds, x = .list (d :: ds) ∧ AlikeAll (d :: ds) ∧ PyData.canLayAll0 (d :: ds) = true ∧ PyData.depthAll (d :: ds) ≤ 60 ∧ Q (maxD d ds)
def isTy : Ty → D → Bool
  | .int, .int _ => true
  | .int, .bool _ => true
  | .bool, .bool _ => true
  | .tup, .tuple _ => true
  | .lst, .list _ => true
  | .str, .str _ => true
  | _, _ => false
def noDict : D → Bool
  | .dict _ => false
  | _ => true
def truW : D → (Bool → Prop) → Prop
  | .list ds, Q => Q (!ds.isEmpty)
  | .tuple ds, Q => Q (!ds.isEmpty)
  | .bool b, Q => Q b
  | _, _ => False
def joinW (a : Str) (y : D) (Q : D → Prop) : Prop := ∃ (ys : List Str) (ds : List D), seqD y = some ds ∧ ds = ys.map .str ∧ (ys.map (·.length)).sum + ys.length * a.length ≤ 16777216 ∧ Q (.str (Txt.join a ys))

@[simp] def setAll : Ev → List Nat → List D → Ev
  | ρ, i :: is, d :: ds => setAll (ρ.set i (.val d)) is ds
  | ρ, _, _ => ρ
@[simp] def wTg (tg : Tg) (d : D) (ρ : Ev) (Q : Ev → Prop) : Prop := match tg with
  | .one i => Q (ρ.set i (.val d))
  | .many is => ∃ ds, d = .tuple ds ∧ ds.length = is.length ∧ Q (setAll ρ is ds)
@[simp] def wipeE (ρ : Ev) : List Nat → Ev
  | [] => ρ
  | v :: vs => (wipeE ρ vs).set v .un
/-- the turns of a comprehension -/
def wCo (f : D → (Option D → Prop) → Prop) : List D → List D → (List D → Prop) → Prop
  | [], acc, Q => Q acc
  | d :: r, acc, Q => f d fun o => wCo f r (acc ++ o.toList) Q
def enumFrom (n : Nat) : List D → List D
  | [] => []
  | d :: r => .tuple [.int n, d] :: enumFrom (n + 1) r
def zipD : List D → List D → List D
  | x :: xs, y :: ys => .tuple [x, y] :: zipD xs ys
  | _, _ => []
def rangeD (lo : Int) (n : Nat) : List D := (List.range n).map fun k : Nat => .int (lo + (k : Int))

mutual
@[simp] def wE (S : Spc) : PX → Ev → (D → Prop) → (String → Prop) → Prop
  | .v i, ρ, Q, _ => ∃ d, ρ[i]? = some (.val d) ∧ Q d
  | .i z, _, Q, _ => Q (.int z)
  | .b x, _, Q, _ => Q (.bool x)
  | .n, _, Q, _ => Q .none
  | .s x, _, Q, _ => Q (.str (Str.ofString x))
  | .add x y, ρ, Q, E => wE S x ρ (fun a => wE S y ρ (fun c => addW a c Q) E) E
  | .sub x y, ρ, Q, E => wE S x ρ (fun a => wE S y ρ (fun c => subW a c Q) E) E
  | .mul x y, ρ, Q, E => wE S x ρ (fun a => wE S y ρ (fun c => mulW a c Q) E) E
  | .md x y, ρ, Q, E => wE S x ρ (fun a => wE S y ρ (fun c => mdW a c Q) E) E
  | .fd x y, ρ, Q, E => wE S x ρ (fun a => wE S y ρ (fun c => fdW a c Q) E) E
  | .neg x, ρ, Q, E => wE S x ρ (fun a => ∃ z, a = .int z ∧ Q (.int (-z))) E
  | .bool an es, ρ, Q, E => wBo S an es ρ Q E
  | .not x, ρ, Q, E => wE S x ρ (fun a => ∃ k, a = .bool k ∧ Q (.bool (!k))) E
  | .notL x, ρ, Q, E => wB S x ρ (fun a => truW a fun k => Q (.bool (!k))) E
  | .cmp o x y, ρ, Q, E => wE S x ρ (fun a => wE S y ρ (fun c => cmpW o a c fun k => Q (.bool k)) E) E
  | .chain o p x y z, ρ, Q, E => wE S x ρ (fun a => wE S y ρ (fun c => cmpW o a c fun k => if k = true then wE S z ρ (fun e => cmpW p c e fun l => Q (.bool l)) E else Q (.bool false)) E) E
  | .eq ne x y, ρ, Q, E => wB S x ρ (fun a => wB S y ρ (fun c => eqW ne a c Q) E) E
  | .isN ne x, ρ, Q, E => wE S x ρ (fun a => Q (.bool (ne ^^ isNo a))) E
  | .isB ne c x, ρ, Q, E => wE S x ρ (fun a => ∃ k, a = .bool k ∧ Q (.bool (ne ^^ (k == c)))) E
  | .mem ne x y, ρ, Q, E => wE S x ρ (fun a => wB S y ρ (fun c => memW ne a c Q) E) E
  | .memD ne x i, ρ, Q, E => wE S x ρ (fun a => ∃ z kvs, a = .int z ∧ ρ[i]? = some (.dic kvs) ∧ Q (.bool (ne ^^ (kvs.lookup z).isSome))) E
  | .getD i x, ρ, Q, E => ∃ kvs, ρ[i]? = some (.dic kvs) ∧ wE S x ρ (fun a => ∃ z d, a = .int z ∧ kvs.lookup z = some d ∧ Q d) E
  | .call f es, ρ, Q, E => wEs S es ρ (fun ds => S f ds Q E) E
  | .bi f x, ρ, Q, E => wB S x ρ (fun a => biW f a Q) E
  | .isi t x, ρ, Q, E => wE S x ρ (fun a => Q (.bool (isTy t a))) E
  | .ix x y, ρ, Q, E => wB S x ρ (fun a => wE S y ρ (fun c => ixW a c Q) E) E
  | .sl x lo hi, ρ, Q, E => wE S x ρ (fun a => wO S lo ρ (fun l => wO S hi ρ (fun h => slW a l h Q) E) E) E
  | .tup es, ρ, Q, E => wEs S es ρ (fun ds => Q (.tuple ds)) E
  | .fr l, ρ, Q, E => wF S l ρ (fun ds => Q (.list ds)) E
  | .idx x y, ρ, Q, E => wB S x ρ (fun a => ∃ ds, seqD a = some ds ∧ wE S y ρ (fun c => idxW a ds c Q) E) E
  | .join x y, ρ, Q, E => wE S x ρ (fun a => ∃ s, a = .str s ∧ wB S y ρ (fun c => joinW s c Q) E) E
  | .tcx own tg src e, ρ, Q, E => wI S src ρ (fun items => wCo (fun d K => wTg tg d (wipeE ρ own) fun ρ' => wE S e ρ' (fun y => K (some y)) E) items [] (fun ds => Q (.tuple ds))) E
@[simp] def wEs (S : Spc) : PXs → Ev → (List D → Prop) → (String → Prop) → Prop
  | .nil, _, Q, _ => Q []
  | .cons x r, ρ, Q, E => wE S x ρ (fun a => wEs S r ρ (fun ds => Q (a :: ds)) E) E
@[simp] def wBo (S : Spc) (an : Bool) : PXs → Ev → (D → Prop) → (String → Prop) → Prop
  | .nil, _, _, _ => False
  | .cons x .nil, ρ, Q, E => wE S x ρ Q E
  | .cons x r, ρ, Q, E => wE S x ρ (fun a => ∃ k, a = .bool k ∧ if k = an then wBo S an r ρ Q E else Q (.bool k)) E
@[simp] def wB (S : Spc) : PB → Ev → (D → Prop) → (String → Prop) → Prop
  | .x e, ρ, Q, E => wE S e ρ Q E
  | .l p, ρ, Q, E => wL S p ρ (fun ds => Q (.list ds)) E
@[simp] def wL (S : Spc) : PL → Ev → (List D → Prop) → (String → Prop) → Prop
  | .b i, ρ, Q, _ => ∃ ds, ρ[i]? = some (.own ds) ∧ Q ds
  | .f p, ρ, Q, E => wF S p ρ Q E
@[simp] def wO (S : Spc) : POp → Ev → (Option Int → Prop) → (String → Prop) → Prop
  | .no, _, Q, _ => Q none
  | .so e, ρ, Q, E => wE S e ρ (fun a => ∃ z, a = .int z ∧ Q (some z)) E
@[simp] def wF (S : Spc) : PF → Ev → (List D → Prop) → (String → Prop) → Prop
  | .lst es, ρ, Q, E => wEs S es ρ Q E
  | .comp own tg src c e, ρ, Q, E => wI S src ρ (fun items => wCo (fun d K => wTg tg d (wipeE ρ own) fun ρ' => wTs S true c ρ' (fun k => if k = true then wE S e ρ' (fun y => K (some y)) (fun _ => False) else K none) (fun _ => False)) items [] Q) E
  | .cat x y, ρ, Q, E => wL S x ρ (fun a => wL S y ρ (fun c => a.length + c.length ≤ sizeLine ∧ Q (a ++ c)) E) E
  | .sl x lo hi, ρ, Q, E => wB S x ρ (fun a => wO S lo ρ (fun l => wO S hi ρ (fun h => ∃ ds, a = .list ds ∧ Q (cutD ds l h)) E) E) E
  | .list x, ρ, Q, E => wB S x ρ (fun a => ∃ ds, seqD a = some ds ∧ Q ds) E
  | .sorted x, ρ, Q, E => wB S x ρ (fun a => ∃ ns : List Int, a = .list (ns.map .int) ∧ ns.length < 64 ∧ ∀ ms : List Int, ms.Perm ns → ms.Pairwise (· ≤ ·) → Q (ms.map .int)) E
  | .rep x y, ρ, Q, E => wL S x ρ (fun a => wE S y ρ (fun c => ∃ k, c = .int k ∧ -(2 ^ 63) ≤ k ∧ k < 2 ^ 63 ∧ a.length * k.toNat ≤ sizeLine ∧ Q (List.replicate k.toNat a).flatten) E) E
  | .split x y, ρ, Q, E => wE S x ρ (fun a => ∃ z, a = .str z ∧ wE S y ρ (fun c => ∃ w, c = .str w ∧ (w.length == 0) = false ∧ z.length + 2 ≤ sizeLine ∧ Q ((Txt.split z w).map .str)) E) E
  | .lz x y, ρ, Q, E => wB S x ρ (fun a => wB S y ρ (fun c => ∃ xs ys, a = .tuple xs ∧ c = .tuple ys ∧ Q (zipD xs ys)) E) E
@[simp] def wI (S : Spc) : PIt → Ev → (List D → Prop) → (String → Prop) → Prop
  | .r1 x, ρ, Q, E => wE S x ρ (fun a => ∃ j : Int, a = .int j ∧ j ≤ sizeLine ∧ -(2 ^ 62) ≤ j ∧ Q (rangeD 0 j.toNat)) E
  | .r2 x y, ρ, Q, E => wE S x ρ (fun a => wE S y ρ (fun c => ∃ i j : Int, a = .int i ∧ c = .int j ∧ (-(2 ^ 62) ≤ i ∧ i < 2 ^ 62 ∧ -(2 ^ 62) ≤ j ∧ j < 2 ^ 62 ∧ j - i ≤ sizeLine) ∧ Q (rangeD i (j - i).toNat)) E) E
  | .sq x, ρ, Q, E => wB S x ρ (fun a => ∃ ds, seqD a = some ds ∧ Q ds) E
  | .en x, ρ, Q, E => wB S x ρ (fun a => ∃ ds, seqD a = some ds ∧ Q (enumFrom 0 ds)) E
  | .zp x y, ρ, Q, E => wB S x ρ (fun a => wB S y ρ (fun c => ∃ xs ys, ((a = .list xs ∧ c = .list ys) ∨ (a = .tuple xs ∧ c = .tuple ys)) ∧ Q (zipD xs ys)) E) E
  | .rv x, ρ, Q, E => wB S x ρ (fun a => ∃ ds, seqD a = some ds ∧ Q ds.reverse) E
  | .z1 x y, ρ, Q, E => wB S x ρ (fun a => wB S y ρ (fun c => ∃ xs ys, a = .tuple xs ∧ c = .tuple ys ∧ Q (zipD xs ys)) E) E
@[simp] def wT (S : Spc) : PQ → Ev → (Bool → Prop) → (String → Prop) → Prop
  | .e x, ρ, Q, E => wE S x ρ (fun a => ∃ k, a = .bool k ∧ Q k) E
  | .tr x, ρ, Q, E => wB S x ρ (fun a => truW a Q) E
  | .not t, ρ, Q, E => wT S t ρ (fun k => Q (!k)) E
  | .bool an ts, ρ, Q, E => wTs S an ts ρ Q E
@[simp] def wTs (S : Spc) (an : Bool) : PQs → Ev → (Bool → Prop) → (String → Prop) → Prop
  | .nil, _, Q, _ => Q an
  | .cons t .nil, ρ, Q, E => wT S t ρ Q E
  | .cons t r, ρ, Q, E => wT S t ρ (fun k => if k = an then wTs S an r ρ Q E else Q k) E
end

structure Dn where
  nx : Ev → Prop
  rt : D → Prop
  bk : Ev → Prop := fun _ => False
  ct : Ev → Prop := fun _ => False
  ex : String → Ev → Prop := fun _ _ => False
def wFor (f : D → Dn → Ev → Prop) (D₀ : Dn) : List D → Ev → Prop
  | [], ρ => D₀.nx ρ
  | d :: r, ρ => f d { D₀ with nx := wFor f D₀ r, ct := wFor f D₀ r, bk := D₀.nx } ρ
def wWh (t : Ev → (Bool → Prop) → Prop) (b : Dn → Ev → Prop) (D₀ : Dn) : Nat → Ev → Prop
  | 0, _ => False
  | n + 1, ρ => t ρ fun k => if k = true then b { D₀ with nx := wWh t b D₀ n, ct := wWh t b D₀ n, bk := D₀.nx } ρ else D₀.nx ρ
def putD (kvs : List (Int × D)) (k : Int) (d : D) : List (Int × D) := if (kvs.any fun kv => decide (kv.1 = k)) = true then kvs.map (fun kv => if kv.1 = k then (kv.1, d) else kv) else kvs ++ [(k, d)]
/-- the classes of refusals: what a clause catches -/
@[simp] def subC (a b : String) : Bool := a == b || b == "PactError" || b == "ValueError"
@[simp] def unN : Option Nat → Ev → Ev
  | none, ρ => ρ
  | some j, ρ => ρ.set j .un
@[simp] def cstD : Option String → D
  | none => .none
  | some x => .str (Str.ofString x)
/-- what a clause does -/
@[simp] def hndE (nm : Option Nat) (ts : List (Bool × String)) (i : Nat) (z : Option String) (c : String) (ρ : Ev) : Ev :=
  unN nm (if ts.all (fun t => t.1 ^^ subC c t.2) = true then (unN nm ρ).set i (.val (cstD z)) else unN nm ρ)
mutual
@[simp] def wS (S : Spc) : PSt → Dn → Ev → Prop
  | .set i x, D₀, ρ => wE S x ρ (fun d => D₀.nx (ρ.set i (.val d))) (fun c => D₀.ex c ρ)
  | .own i f, D₀, ρ => wF S f ρ (fun ds => D₀.nx (ρ.set i (.own ds))) (fun c => D₀.ex c ρ)
  | .dic i, D₀, ρ => D₀.nx (ρ.set i (.dic []))
  | .tgt is x, D₀, ρ => wE S x ρ (fun d => wTg (.many is) d ρ D₀.nx) (fun c => D₀.ex c ρ)
  | .par i j x y, D₀, ρ => wE S x ρ (fun a => wE S y ρ (fun c => D₀.nx ((ρ.set i (.val a)).set j (.val c))) (fun c => D₀.ex c ρ)) (fun c => D₀.ex c ρ)
  | .app i x, D₀, ρ => ∃ ds, ρ[i]? = some (.own ds) ∧ wE S x ρ (fun d => ds.length < sizeLine ∧ D₀.nx (ρ.set i (.own (ds ++ [d])))) (fun c => D₀.ex c ρ)
  | .ext i x, D₀, ρ => ∃ ds, ρ[i]? = some (.own ds) ∧ wL S x ρ (fun es => ds.length + es.length ≤ sizeLine ∧ D₀.nx (ρ.set i (.own (ds ++ es)))) (fun c => D₀.ex c ρ)
  | .put i k x, D₀, ρ => wE S x ρ (fun d => ∃ ds, ρ[i]? = some (.own ds) ∧ wE S k ρ (fun a => ∃ z j, a = .int z ∧ ixN ds.length z = some j ∧ D₀.nx (ρ.set i (.own (ds.set j d)))) (fun c => D₀.ex c ρ)) (fun c => D₀.ex c ρ)
  | .dput i k x, D₀, ρ => wE S x ρ (fun d => ∃ kvs, ρ[i]? = some (.dic kvs) ∧ wE S k ρ (fun a => ∃ z, a = .int z ∧ kvs.length < sizeLine ∧ D₀.nx (ρ.set i (.dic (putD kvs z d)))) (fun c => D₀.ex c ρ)) (fun c => D₀.ex c ρ)
  | .pop j i, D₀, ρ => ∃ ds d, ρ[i]? = some (.own ds) ∧ ds[ds.length - 1]? = some d ∧ D₀.nx ((ρ.set i (.own ds.dropLast)).set j (.val d))
  | .ex x, D₀, ρ => wE S x ρ (fun _ => D₀.nx ρ) (fun c => D₀.ex c ρ)
  | .ret x, D₀, ρ => wE S x ρ D₀.rt (fun c => D₀.ex c ρ)
  | .ite t a c, D₀, ρ => wT S t ρ (fun k => if k = true then wSs S a D₀ ρ else wSs S c D₀ ρ) (fun c => D₀.ex c ρ)
  | .for_ tg s b, D₀, ρ => wI S s ρ (fun items => wFor (fun d D₁ ρ' => wTg tg d ρ' fun ρ'' => wSs S b D₁ ρ'') D₀ items ρ) (fun c => D₀.ex c ρ)
  | .whl t b, D₀, ρ => ∃ n, wWh (fun ρ' Q => wT S t ρ' Q (fun c => D₀.ex c ρ')) (fun D₁ ρ' => wSs S b D₁ ρ') D₀ n ρ
  | .raise c _, D₀, ρ => D₀.ex c ρ
  | .frz i s, D₀, ρ => ∃ ds, ρ[i]? = some (.own ds) ∧ wS S s D₀ (ρ.set i (.val (.list ds)))
  | .try_ b cn nm ts i z, D₀, ρ => wSs S b { D₀ with ex := fun c ρ' => if subC c cn = true then D₀.nx (hndE nm ts i z c ρ') else D₀.ex c ρ' } ρ
def wSs (S : Spc) : PSs → Dn → Ev → Prop
  | .nil, D₀, ρ => D₀.nx ρ
  | .cons s r, D₀, ρ => wS S s { D₀ with nx := fun ρ' => wSs S r D₀ ρ' } ρ
end
/-- a def: its parameters' number, its slots, its body -/
structure Df where
  np : Nat
  ns : Nat
  body : PSs
@[simp] def wD (S : Spc) (f : Df) (ds : List D) (Q : D → Prop) (E : String → Prop) : Prop :=
  ds.length = f.np ∧ wSs S f.body { nx := fun _ => Q .none, rt := Q, ex := fun c _ => E c } (ds.map .val ++ List.replicate (f.ns - f.np) .un)
end Pu

/-! states of the small language; the checker -/
namespace Pu
open PySem PySem.Spec L2

/-! ### heaps that grow -/
structure Ext (F H F' H' : Hp) : Prop where
  f : Same F F'
  h : Same H H'
  fh : Same F' H'
  o : ∀ a, H a ≠ none → F a = none → F' a = none
theorem Ext.refl {F H : Hp} (s : Same F H) : Ext F H F H := ⟨Same.refl _, Same.refl _, s, fun _ _ h => h⟩
theorem Same.ne {H H' : Hp} (s : Same H H') {a : Addr} (h : H a ≠ none) : H' a ≠ none := fun e => h (s.free e)
theorem Ext.trans {F H F1 H1 F2 H2 : Hp} (x : Ext F H F1 H1) (y : Ext F1 H1 F2 H2) : Ext F H F2 H2 :=
  ⟨x.f.trans y.f, x.h.trans y.h, y.fh, fun a h1 h2 => y.o a (Same.ne x.h h1) (x.o a h1 h2)⟩
theorem same_upd {H : Hp} {p : Addr} {o : HO} (h : H p = none) : Same H (upd H p o) := fun b x e => by
  rw [upd_ne (ne_of_none e h)]
  exact e
theorem same_upd2 {F H : Hp} {p : Addr} {o : HO} (s : Same F H) (h : F p = none) : Same F (upd H p o) := fun b x e => by
  rw [upd_ne (ne_of_none e h)]
  exact s _ _ e
/-- a new object, told -/
theorem Ext.new {F H : Hp} (s : Same F H) {p : Addr} {o : HO} (h : H p = none) : Ext F H (upd F p o) (upd H p o) where
  f := same_upd (s.free h)
  h := same_upd h
  fh := fun b x e => by
    by_cases hb : b = p
    · subst hb
      rw [upd_same] at e ⊢
      exact e
    · rw [upd_ne hb] at e ⊢
      exact s _ _ e
  o := fun a h1 h2 => by
    have hb : a ≠ p := fun e => h1 (e ▸ h)
    rw [upd_ne hb]
    exact h2
/-- a new object, not told -/
theorem Ext.hid {F H : Hp} (s : Same F H) {p : Addr} {o : HO} (h : H p = none) : Ext F H F (upd H p o) where
  f := Same.refl _
  h := same_upd h
  fh := same_upd2 s (s.free h)
  o := fun _ _ h2 => h2

/-! ### what is bounded -/
def Bnd (K : PySem.W.Frag) (H : Hp) : Prop := (∀ a xs, SqL K H a xs → xs.length ≤ sizeLine) ∧ ∀ a xs, SqT K H a xs → xs.length ≤ sizeLine
section
variable {X : Cx} {pins : List (Addr × Obj)} {σ : L2.St} {H : Hp} {s : Shared}
theorem bnd_of (I : L2.Inv X pins σ H s) : Bnd X.K H := ⟨fun a xs h => by
  obtain ⟨_, _, _, z⟩ := I.list h
  exact z, fun a xs h => by
  obtain ⟨_, _, _, z⟩ := I.tuple h
  exact z⟩
end
section
variable {X : Cx} {e tg it : Expr} {t t' : TE} {wi wi' : TI}
theorem pe_weak (h : PE X e t) (w : ∀ σ H Q, t' σ H Q → t σ H Q) : PE X e t' := ⟨fun pins s σ H Q I q => h.run pins s σ H Q I (w σ H Q q)⟩
theorem pt_weak {u u' : TT} (h : PT X e u) (w : ∀ σ H Q, u' σ H Q → u σ H Q) : PT X e u' := ⟨fun pins s σ H Q I q => h.run pins s σ H Q I (w σ H Q q)⟩
theorem ps_weak {st : Stmt} {u u' : TS} (h : PS X st u) (w : ∀ D σ H, u' D σ H → u D σ H) : PS X st u' := ⟨fun pins s σ H D I q => h.run pins s σ H D I (w D σ H q)⟩
theorem pe_bnd (h : PE X e t) : PE X e (fun σ H Q => t σ H fun v H' => Bnd X.K H' → Q v H') := ⟨fun pins s σ H Q I q =>
  thn (h.run pins s σ H _ I q) fun u s1 ⟨v, H1, I1, r, q1⟩ => ⟨v, H1, I1, r, q1 (bnd_of I1)⟩⟩
theorem pi_weak (h : PI X tg it wi) (w : ∀ σ H R, wi' σ H R → wi σ H R) : PI X tg it wi' := ⟨fun pins s σ H R I q => h.run pins s σ H R I (w σ H R q)⟩
theorem pi_bnd (h : PI X tg it wi) : PI X tg it (fun σ H R => wi σ H fun J H' => Bnd X.K H' → R J H') := ⟨fun pins s σ H R I q =>
  thn (h.run pins s σ H _ I q) fun v s1 h1 => thn h1 fun itv s2 h2 => by
    obtain ⟨it', fp, tn, J, H', e, I', T, t0, f, r⟩ := h2
    exact ⟨it', fp, tn, J, H', e, I', T, t0, f, r (bnd_of I')⟩⟩
end

/-! ### states -/
structure Bs where
  F : Hp
  H : Hp
def DqK (K : PySem.W.Frag) (F : Hp) : List (Key × V) → List (Int × D) → Prop := Paired fun p q => p.1 = Sum.inl q.1 ∧ Dq K F p.2 q.2
def Sl (K : PySem.W.Frag) (B : Bs) (F H : Hp) (o : Option (Option V)) : Slot → Prop
  | .un => True
  | .val d => ∃ v, o = some (some v) ∧ Dq K F v d
  | .own ds => ∃ a xs, o = some (some (.ref a)) ∧ H a = some (.lst xs) ∧ F a = none ∧ B.H a = none ∧ DqAll K F xs ds
  | .dic kvs => ∃ a ks, o = some (some (.ref a)) ∧ H a = some (.dK ks) ∧ F a = none ∧ B.H a = none ∧ DqK K F ks kvs
def Slot.ow : Slot → Bool
  | .own _ => true
  | .dic _ => true
  | _ => false
def Ow (ρ : Ev) (i : Nat) : Prop := ∃ s, ρ[i]? = some s ∧ s.ow = true
structure Rep (K : PySem.W.Frag) (B : Bs) (F H : Hp) (σ : L2.St) (ρ : Ev) : Prop where
  len : σ.length = ρ.length
  x : Ext B.F B.H F H
  at_ : ∀ (i : Nat) (s : Slot), ρ[i]? = some s → Sl K B F H (σ[i]?) s
  inj : ∀ (i j : Nat) (a : Addr), i ≠ j → Ow ρ i → Ow ρ j → σ[i]? = some (some (.ref a)) → σ[j]? = some (some (.ref a)) → False
section
variable {K : PySem.W.Frag} {B : Bs} {F H F' H' : Hp} {σ : L2.St} {ρ : Ev}
theorem DqK.mono (s : Same F F') {ks : List (Key × V)} {kvs : List (Int × D)} (h : DqK K F ks kvs) : DqK K F' ks kvs := Paired.mapP h fun _ _ q => ⟨q.1, Dq.mono s _ _ q.2⟩
theorem Rep.fh (r : Rep K B F H σ ρ) : Same F H := r.x.fh
theorem Sl.ext {o : Option (Option V)} {s : Slot} (x : Ext F H F' H') (h : Sl K B F H o s) : Sl K B F' H' o s := by
  cases s with
  | un => trivial
  | val d =>
    obtain ⟨v, e, q⟩ := h
    exact ⟨v, e, Dq.mono x.f _ _ q⟩
  | own ds =>
    obtain ⟨a, xs, e, hh, hf, hb, q⟩ := h
    exact ⟨a, xs, e, x.h _ _ hh, x.o a (by rw [hh]; simp) hf, hb, DqAll.mono x.f _ _ q⟩
  | dic kvs =>
    obtain ⟨a, ks, e, hh, hf, hb, q⟩ := h
    exact ⟨a, ks, e, x.h _ _ hh, x.o a (by rw [hh]; simp) hf, hb, q.mono x.f⟩
theorem Rep.ext (r : Rep K B F H σ ρ) (x : Ext F H F' H') : Rep K B F' H' σ ρ :=
  ⟨r.len, r.x.trans x, fun i s e => (r.at_ i s e).ext x, r.inj⟩
/-- a slot is stored with plain data -/
theorem Rep.setv (r : Rep K B F H σ ρ) {i : Nat} {v : V} {d : D} (q : Dq K F v d) : Rep K B F H (σ.set i (some v)) (ρ.set i (.val d)) where
  len := by rw [List.length_set, List.length_set]; exact r.len
  x := r.x
  at_ := fun j s e => by
    by_cases hj : i = j
    · subst hj
      by_cases hl : i < ρ.length
      · rw [List.getElem?_set_self hl] at e
        have e' := Option.some.inj e
        subst e'
        rw [List.getElem?_set_self (by rw [r.len]; exact hl)]
        exact ⟨v, rfl, q⟩
      · rw [List.getElem?_eq_none (by rw [List.length_set]; omega)] at e
        cases e
    · rw [List.getElem?_set_ne hj] at e
      rw [List.getElem?_set_ne hj]
      exact r.at_ j s e
  inj := fun j k a hjk oj ok ej ek => by
    have nj : ∀ m, Ow (ρ.set i (.val d)) m → i ≠ m ∧ Ow ρ m := fun m ⟨s, e, w⟩ => by
      by_cases hm : i = m
      · subst hm
        by_cases hl : i < ρ.length
        · rw [List.getElem?_set_self hl] at e
          have e' := Option.some.inj e
          subst e'
          cases w
        · rw [List.getElem?_eq_none (by rw [List.length_set]; omega)] at e
          cases e
      · rw [List.getElem?_set_ne hm] at e
        exact ⟨hm, s, e, w⟩
    obtain ⟨h1, o1⟩ := nj j oj
    obtain ⟨h2, o2⟩ := nj k ok
    rw [List.getElem?_set_ne h1] at ej
    rw [List.getElem?_set_ne h2] at ek
    exact r.inj j k a hjk o1 o2 ej ek
/-- .. is forgotten -/
theorem Rep.setu (r : Rep K B F H σ ρ) {i : Nat} {o : Option V} : Rep K B F H (σ.set i o) (ρ.set i .un) where
  len := by rw [List.length_set, List.length_set]; exact r.len
  x := r.x
  at_ := fun j s e => by
    by_cases hj : i = j
    · subst hj
      by_cases hl : i < ρ.length
      · rw [List.getElem?_set_self hl] at e
        have e' := Option.some.inj e
        subst e'
        trivial
      · rw [List.getElem?_eq_none (by rw [List.length_set]; omega)] at e
        cases e
    · rw [List.getElem?_set_ne hj] at e
      rw [List.getElem?_set_ne hj]
      exact r.at_ j s e
  inj := fun j k a hjk oj ok ej ek => by
    have nj : ∀ m, Ow (ρ.set i .un) m → i ≠ m ∧ Ow ρ m := fun m ⟨s, e, w⟩ => by
      by_cases hm : i = m
      · subst hm
        by_cases hl : i < ρ.length
        · rw [List.getElem?_set_self hl] at e
          have e' := Option.some.inj e
          subst e'
          cases w
        · rw [List.getElem?_eq_none (by rw [List.length_set]; omega)] at e
          cases e
      · rw [List.getElem?_set_ne hm] at e
        exact ⟨hm, s, e, w⟩
    obtain ⟨h1, o1⟩ := nj j oj
    obtain ⟨h2, o2⟩ := nj k ok
    rw [List.getElem?_set_ne h1] at ej
    rw [List.getElem?_set_ne h2] at ek
    exact r.inj j k a hjk o1 o2 ej ek
theorem Rep.wipe (r : Rep K B F H σ ρ) : ∀ vs : List Nat, Rep K B F H (L2.wipe σ vs) (wipeE ρ vs)
  | [] => r
  | v :: vs => (r.wipe vs).setu
/-- a slot is stored with an owned thing that was new -/
theorem Rep.setw (r : Rep K B F H σ ρ) {i : Nat} {a : Addr} {s : Slot} (hs : Sl K B F H (some (some (.ref a))) s) (na : ∀ j, Ow ρ j → σ[j]? ≠ some (some (.ref a))) : Rep K B F H (σ.set i (some (.ref a))) (ρ.set i s) where
  len := by rw [List.length_set, List.length_set]; exact r.len
  x := r.x
  at_ := fun j t e => by
    by_cases hj : i = j
    · subst hj
      by_cases hl : i < ρ.length
      · rw [List.getElem?_set_self hl] at e
        have e' := Option.some.inj e
        subst e'
        rw [List.getElem?_set_self (by rw [r.len]; exact hl)]
        exact hs
      · rw [List.getElem?_eq_none (by rw [List.length_set]; omega)] at e
        cases e
    · rw [List.getElem?_set_ne hj] at e
      rw [List.getElem?_set_ne hj]
      exact r.at_ j t e
  inj := fun j k b hjk oj ok ej ek => by
    have old : ∀ m, i ≠ m → Ow (ρ.set i s) m → Ow ρ m := fun m hm ⟨t, e, w⟩ => by
      rw [List.getElem?_set_ne hm] at e
      exact ⟨t, e, w⟩
    have ln : ∀ m, Ow (ρ.set i s) m → m < ρ.length := fun m ⟨t, e, w⟩ => by
      have := (List.getElem?_eq_some_iff.mp e).1
      rw [List.length_set] at this
      exact this
    by_cases h1 : i = j
    · subst h1
      have h2 : i ≠ k := hjk
      rw [List.getElem?_set_self (by rw [r.len]; exact ln i oj)] at ej
      rw [List.getElem?_set_ne h2] at ek
      have ej' : a = b := V.ref.inj (Option.some.inj (Option.some.inj ej))
      subst ej'
      exact na k (old k h2 ok) ek
    · by_cases h2 : i = k
      · subst h2
        rw [List.getElem?_set_self (by rw [r.len]; exact ln i ok)] at ek
        rw [List.getElem?_set_ne h1] at ej
        have ek' : a = b := V.ref.inj (Option.some.inj (Option.some.inj ek))
        subst ek'
        exact na j (old j h1 oj) ej
      · rw [List.getElem?_set_ne h1] at ej
        rw [List.getElem?_set_ne h2] at ek
        exact r.inj j k b hjk (old j h1 oj) (old k h2 ok) ej ek
/-- the owned thing in slot i is rewritten -/
theorem Rep.upd (r : Rep K B F H σ ρ) {i : Nat} {a : Addr} {s : Slot} {o : HO} (hi : σ[i]? = some (some (.ref a))) (ow : Ow ρ i) (hf : F a = none) (hb : B.H a = none) (hs : Sl K B F (L2.upd H a o) (some (some (.ref a))) s) :
    Rep K B F (L2.upd H a o) σ (ρ.set i s) where
  len := by rw [List.length_set]; exact r.len
  x := ⟨r.x.f, same_upd2 r.x.h hb, same_upd2 r.x.fh hf, r.x.o⟩
  at_ := fun j t e => by
    by_cases hj : i = j
    · subst hj
      by_cases hl : i < ρ.length
      · rw [List.getElem?_set_self hl] at e
        have e' := Option.some.inj e
        subst e'
        rw [hi]
        exact hs
      · rw [List.getElem?_eq_none (by rw [List.length_set]; omega)] at e
        cases e
    · rw [List.getElem?_set_ne hj] at e
      have q := r.at_ j t e
      cases t with
      | un => trivial
      | val d => exact q
      | own ds =>
        obtain ⟨b, xs, e1, hh, r1⟩ := q
        have hab : b ≠ a := fun z => r.inj i j a hj ow ⟨_, e, rfl⟩ hi (z ▸ e1)
        exact ⟨b, xs, e1, by rw [upd_ne hab]; exact hh, r1⟩
      | dic kvs =>
        obtain ⟨b, ks, e1, hh, r1⟩ := q
        have hab : b ≠ a := fun z => r.inj i j a hj ow ⟨_, e, rfl⟩ hi (z ▸ e1)
        exact ⟨b, ks, e1, by rw [upd_ne hab]; exact hh, r1⟩
  inj := fun j k b hjk oj ok ej ek => by
    have old : ∀ m, Ow (ρ.set i s) m → Ow ρ m := fun m ⟨t, e, w⟩ => by
      by_cases hm : i = m
      · exact hm ▸ ow
      · rw [List.getElem?_set_ne hm] at e
        exact ⟨t, e, w⟩
    exact r.inj j k b hjk (old j oj) (old k ok) ej ek
/-- an owned list becomes plain data -/
theorem Rep.frz' (r : Rep K B F H σ ρ) {i : Nat} {ds : List D} (e : ρ[i]? = some (.own ds)) : ∃ F', Rep K B F' H σ (ρ.set i (.val (.list ds))) ∧ Same F F' := by
  obtain ⟨a, xs, e1, hh, hf, hb, q⟩ := r.at_ i _ e
  have x : Same F (L2.upd F a (.lst xs)) := same_upd hf
  have hl : i < ρ.length := (List.getElem?_eq_some_iff.mp e).1
  refine ⟨L2.upd F a (.lst xs), ⟨by rw [List.length_set]; exact r.len, ⟨r.x.f.trans x, r.x.h, fun b o hb' => ?_, fun b h1 h2 => ?_⟩, fun j s ej => ?_, fun j k b hjk oj ok ej ek => ?_⟩, x⟩
  · by_cases hba : b = a
    · subst hba
      rw [upd_same] at hb'
      rw [← hb']
      exact hh
    · rw [upd_ne hba] at hb'
      exact r.x.fh _ _ hb'
  · have hba : b ≠ a := fun z => h1 (z ▸ hb)
    rw [upd_ne hba]
    exact r.x.o b h1 h2
  · by_cases hj : i = j
    · subst hj
      rw [List.getElem?_set_self hl] at ej
      have e' := Option.some.inj ej
      subst e'
      exact ⟨.ref a, e1, .lst (.inl (.inl upd_same)) (DqAll.mono x _ _ q)⟩
    · rw [List.getElem?_set_ne hj] at ej
      have w := r.at_ j s ej
      cases s with
      | un => trivial
      | val d =>
        obtain ⟨v, e2, q2⟩ := w
        exact ⟨v, e2, Dq.mono x _ _ q2⟩
      | own es =>
        obtain ⟨b, ys, e2, hh2, hf2, hb2, q2⟩ := w
        have hab : b ≠ a := fun z => r.inj i j a hj ⟨_, e, rfl⟩ ⟨_, ej, rfl⟩ e1 (z ▸ e2)
        exact ⟨b, ys, e2, hh2, by rw [upd_ne hab]; exact hf2, hb2, DqAll.mono x _ _ q2⟩
      | dic kvs =>
        obtain ⟨b, ys, e2, hh2, hf2, hb2, q2⟩ := w
        have hab : b ≠ a := fun z => r.inj i j a hj ⟨_, e, rfl⟩ ⟨_, ej, rfl⟩ e1 (z ▸ e2)
        exact ⟨b, ys, e2, hh2, by rw [upd_ne hab]; exact hf2, hb2, q2.mono x⟩
  · have old : ∀ m, Ow (ρ.set i (.val (.list ds))) m → Ow ρ m := fun m ⟨t, e3, w⟩ => by
      by_cases hm : i = m
      · subst hm
        rw [List.getElem?_set_self hl] at e3
        have e' := Option.some.inj e3
        subst e'
        cases w
      · rw [List.getElem?_set_ne hm] at e3
        exact ⟨t, e3, w⟩
    exact r.inj j k b hjk (old j oj) (old k ok) ej ek
end

/-! ### the checker -/
structure CC where
  N : List Str
  sc : Scope
  raw : Option Scope
structure Kn where
  fs : List String
  bs : List String
  es : List String
  hs : List String
def visB (c : CC) (i : Nat) (x : Str) : Bool :=
  decide (c.N[i]? = some x) && (match c.sc.names.lookup x with | some .local => true | some .cell => true | some .free => true | _ => false) && !(x == Str.ofString "__debug__") && !(x == Str.ofString "__classdict__")
def locB (c : CC) (i : Nat) (x : Str) : Bool :=
  decide (c.N[i]? = some x) && (match c.sc.names.lookup x with
    | some .local => true
    | some .cell => (match c.raw with | none => true | some r => decide (r.names.lookup x = some .cell))
    | _ => false)
def gloB (c : CC) (x : Str) : Bool := decide (c.sc.names.lookup x = some .globalImplicit) && !(x == Str.ofString "__debug__")
def noStar : Expr → Bool
  | .Starred .. => false
  | _ => true
def noSet : Expr → Bool
  | .Set .. => false
  | _ => true
def noSlice : Expr → Bool
  | .Slice .. => false
  | _ => true
def noSuper : Expr → Bool
  | .Call (.Name ..) [] [] _ => false
  | _ => true
def plainT : Expr → Bool
  | .UnaryOp .Not _ _ => false
  | .BoolOp .. => false
  | .IfExp .. => false
  | .Compare .. => false
  | _ => true
def cmO : Cm → CmpOp
  | .lt => .Lt | .le => .LtE | .gt => .Gt | .ge => .GtE
def biN : Bi → String
  | .len => "len" | .tup => "tuple" | .all => "all" | .any => "any" | .max => "max" | .min => "min" | .sum => "sum" | .abs => "abs" | .int => "int" | .str => "str" | .maxT => "max"
def tyN : Ty → String
  | .int => "int" | .bool => "bool" | .tup => "tuple" | .lst => "list" | .str => "str"
def bltB (c : CC) (k : Kn) (x : Str) (n : String) : Bool := decide (x = Str.ofString n) && gloB c x && k.bs.contains n
def locsB (c : CC) : List Nat → List Expr → Bool
  | [], [] => true
  | i :: is, .Name x _ :: es => locB c i x && locsB c is es
  | _, _ => false
def tgB (c : CC) : Tg → Expr → Bool
  | .one i, .Name x _ => locB c i x
  | .many is, .Tuple es _ _ => locsB c is es
  | _, _ => false
def tgS : Tg → List Nat
  | .one i => [i]
  | .many is => is
def isPair : Tg → Bool
  | .many [_, _] => true
  | _ => false
def ownN (c : CC) (own : List Nat) : List (Str × Nat) := own.map fun i => ((c.N[i]?).getD (Str.ofString ""), i)
def isOne : Tg → Bool
  | .one _ => true
  | _ => false
def nz1 : PIt → Bool
  | .z1 _ _ => false
  | _ => true
theorem ownN_2 (c : CC) (own : List Nat) : (ownN c own).map (·.2) = own := by simp [ownN, List.map_map, Function.comp_def]
def blk (c : CC) (s : Scope) : CC := ⟨c.N, relS s c.sc, some s⟩

mutual
def cE (k : Kn) (c : CC) : PX → Expr → Bool
  | .v i, e => match e with | .Name x _ => visB c i x | _ => false
  | .i z, e => match e with | .Constant (.int j) _ _ => decide (z = j) | _ => false
  | .b x, e => match e with | .Constant (.bool j) _ _ => decide (x = j) | _ => false
  | .n, e => match e with | .Constant .none _ _ => true | _ => false
  | .s x, e => match e with | .Constant (.str y) _ _ => decide (y = Str.ofString x) | _ => false
  | .add x y, e => match e with | .BinOp l .Add r _ => cE k c x l && cE k c y r | _ => false
  | .sub x y, e => match e with | .BinOp l .Sub r _ => cE k c x l && cE k c y r | _ => false
  | .mul x y, e => match e with | .BinOp l .Mult r _ => cE k c x l && cE k c y r | _ => false
  | .md x y, e => match e with | .BinOp l .Mod r _ => cE k c x l && cE k c y r | _ => false
  | .fd x y, e => match e with | .BinOp l .FloorDiv r _ => cE k c x l && cE k c y r | _ => false
  | .neg x, e => match e with | .UnaryOp .USub a _ => cE k c x a | _ => false
  | .bool an es, e => match e with | .BoolOp op vs _ => decide (op = if an then .And else .Or) && cEs k c es vs | _ => false
  | .not x, e => match e with | .UnaryOp .Not a _ => cE k c x a | _ => false
  | .notL x, e => match e with | .UnaryOp .Not a _ => cB k c x a | _ => false
  | .cmp o x y, e => match e with | .Compare l [op] [r] _ => decide (op = cmO o) && cE k c x l && cE k c y r | _ => false
  | .chain o p x y z, e => match e with | .Compare l [op, op'] [m, r] _ => decide (op = cmO o) && decide (op' = cmO p) && cE k c x l && cE k c y m && cE k c z r | _ => false
  | .eq ne x y, e => match e with | .Compare l [op] [r] _ => decide (op = if ne then .NotEq else .Eq) && cB k c x l && cB k c y r | _ => false
  | .isN ne x, e => match e with | .Compare l [op] [.Constant .none _ _] _ => decide (op = if ne then .IsNot else .Is) && cE k c x l | _ => false
  | .isB ne d x, e => match e with | .Compare l [op] [.Constant (.bool d') _ _] _ => decide (d = d') && decide (op = if ne then .IsNot else .Is) && cE k c x l | _ => false
  | .mem ne x y, e => match e with | .Compare l [op] [r] _ => decide (op = if ne then .NotIn else .In) && noSet r && cE k c x l && cB k c y r | _ => false
  | .memD ne x i, e => match e with | .Compare l [op] [.Name d _] _ => decide (op = if ne then .NotIn else .In) && cE k c x l && visB c i d | _ => false
  | .getD i x, e => match e with | .Subscript (.Name d _) a _ => visB c i d && noSlice a && cE k c x a | _ => false
  | .call f es, e => match e with | .Call (.Name x _) (a :: as) [] _ => decide (x = Str.ofString f) && gloB c x && k.fs.contains f && noStar a && as.all noStar && cEs k c es (a :: as) | _ => false
  | .bi f x, e => match e with | .Call (.Name n _) [a] [] _ => bltB c k n (biN f) && noStar a && cB k c x a | _ => false
  | .isi t x, e => match e with | .Call (.Name n _) [a, .Name m _] [] _ => bltB c k n "isinstance" && bltB c k m (tyN t) && noStar a && cE k c x a | _ => false
  | .ix x y, e => match e with | .Subscript a b _ => noSlice b && cB k c x a && cE k c y b | _ => false
  | .sl x lo hi, e => match e with | .Subscript a (.Slice l h none _) _ => cE k c x a && cO k c lo l && cO k c hi h | _ => false
  | .tup es, e => match e with | .Tuple xs _ _ => decide (xs.length ≤ 1000) && xs.all noStar && cEs k c es xs | _ => false
  | .fr l, e => cF k c l e
  | .idx x y, e => match e with | .Call (.Attribute o n ap) [a] [] p => decide (n = Str.ofString "index") && noSuper o && (ap.endLine == p.line) && noStar a && cB k c x o && cE k c y a | _ => false
  | .join x y, e => match e with | .Call (.Attribute o n ap) [a] [] p => decide (n = Str.ofString "join") && noSuper o && (ap.endLine == p.line) && noStar a && cE k c x o && cB k c y a | _ => false
  | .tcx own tg src x, e => match e with
    | .Call (.Name n _) [.ListComp elt [⟨t, it, [], z⟩] scope _] [] _ => decide (z = 0) && bltB c k n "tuple" && c.raw.isNone && blkC c.N c.sc scope (ownN c own) && noSet it && nz1 src && cI k c src (isPair tg) it && tgB (blk c scope) tg t && (tgS tg).all (fun i => own.contains i) && cE k (blk c scope) x elt
    | _ => false
def cEs (k : Kn) (c : CC) : PXs → List Expr → Bool
  | .nil, es => match es with | [] => true | _ => false
  | .cons x r, es => match es with | e :: es => cE k c x e && cEs k c r es | _ => false
def cB (k : Kn) (c : CC) : PB → Expr → Bool
  | .x x, e => cE k c x e
  | .l p, e => cL k c p e
def cL (k : Kn) (c : CC) : PL → Expr → Bool
  | .b i, e => match e with | .Name x _ => visB c i x | _ => false
  | .f p, e => cF k c p e
def cO (k : Kn) (c : CC) : POp → Option Expr → Bool
  | .no, o => match o with | none => true | _ => false
  | .so x, o => match o with | some e => cE k c x e | _ => false
def cF (k : Kn) (c : CC) : PF → Expr → Bool
  | .lst es, e => match e with | .List xs _ => decide (xs.length ≤ 1000) && xs.all noStar && cEs k c es xs | _ => false
  | .comp own tg src cs x, e => match e with
    | .ListComp elt [⟨t, it, ifs, z⟩] scope _ => decide (z = 0) && blkC c.N c.sc scope (ownN c own) && noSet it && nz1 src && cI k c src (isPair tg) it && tgB (blk c scope) tg t && (tgS tg).all (fun i => own.contains i) &&
        decide (ifs.length ≤ 1) && cTs k (blk c scope) cs ifs && cE k (blk c scope) x elt
    | _ => false
  | .cat x y, e => match e with | .BinOp l .Add r _ => cL k c x l && cL k c y r | _ => false
  | .sl x lo hi, e => match e with | .Subscript a (.Slice l h none _) _ => cB k c x a && cO k c lo l && cO k c hi h | _ => false
  | .list x, e => match e with | .Call (.Name n _) [a] [] _ => bltB c k n "list" && noStar a && cB k c x a | _ => false
  | .sorted x, e => match e with | .Call (.Name n _) [a] [] _ => bltB c k n "sorted" && noStar a && cB k c x a | _ => false
  | .rep x y, e => match e with | .BinOp l .Mult r _ => cL k c x l && cE k c y r | _ => false
  | .split x y, e => match e with | .Call (.Attribute o n ap) [a] [] p => decide (n = Str.ofString "split") && noSuper o && (ap.endLine == p.line) && noStar a && cE k c x o && cE k c y a | _ => false
  | .lz x y, e => match e with | .Call (.Name n _) [.Call (.Name m _) [a, b] [] _] [] _ => bltB c k n "list" && bltB c k m "zip" && noStar a && noStar b && cB k c x a && cB k c y b | _ => false
/-- pr: the target is a written pair -/
def cI (k : Kn) (c : CC) : PIt → Bool → Expr → Bool
  | .r1 x, _, e => match e with | .Call (.Name n _) [a] [] _ => bltB c k n "range" && noStar a && cE k c x a | _ => false
  | .r2 x y, _, e => match e with | .Call (.Name n _) [a, b] [] _ => bltB c k n "range" && noStar a && noStar b && cE k c x a && cE k c y b | _ => false
  | .sq x, _, e => cB k c x e
  | .en x, pr, e => match e with | .Call (.Name n _) [a] [] _ => pr && bltB c k n "enumerate" && noStar a && cB k c x a | _ => false
  | .zp x y, pr, e => match e with | .Call (.Name n _) [a, b] [] _ => pr && bltB c k n "zip" && noStar a && noStar b && cB k c x a && cB k c y b | _ => false
  | .rv x, _, e => match e with | .Call (.Name n _) [a] [] _ => bltB c k n "reversed" && noStar a && cB k c x a | _ => false
  | .z1 x y, _, e => match e with | .Call (.Name n _) [a, b] [] _ => bltB c k n "zip" && noStar a && noStar b && cB k c x a && cB k c y b | _ => false
def cT (k : Kn) (c : CC) : PQ → Expr → Bool
  | .e x, e => cE k c x e && (plainT e || (match x with | .cmp .. => true | .chain .. => true | .eq .. => true | .isN .. => true | .isB .. => true | .mem .. => true | .memD .. => true | _ => false))
  | .tr x, e => cB k c x e && plainT e
  | .not t, e => match e with | .UnaryOp .Not a _ => cT k c t a | _ => false
  | .bool an ts, e => match e with | .BoolOp op (v :: vs) _ => decide (op = if an then .And else .Or) && cTs k c ts (v :: vs) | _ => false
def cTs (k : Kn) (c : CC) : PQs → List Expr → Bool
  | .nil, es => match es with | [] => true | _ => false
  | .cons t r, es => match es with | e :: es => cT k c t e && cTs k c r es | _ => false
end
def sB : PB → Bool
  | .x _ => true
  | _ => false
/-- nothing borrowed is walked -/
def sI : PIt → Bool
  | .r1 _ => true | .r2 _ _ => true | .sq x => sB x | .en x => sB x | .zp x y => sB x && sB y | .rv x => sB x | .z1 x y => sB x && sB y
def isComp : Expr → Bool
  | .ListComp .. => true | .SetComp .. => true | .DictComp .. => true | _ => false
/-- a, b = x, y goes without a tuple -/
def parB (c : CC) (xa xb : Str) (pa pb : Pos) (e1 e2 : Expr) : Bool :=
  decide (c.sc.names.lookup xa = some .local) && decide (c.sc.names.lookup xb = some .local) && (pb.line == pa.line) && !(xa == xb) && noStar e1 && noStar e2 &&
    !([e1, e2].all (foldedForSure 8)) && !([e1, e2].all (constantsAlone 8))
def cstB : Option String → Expr → Bool
  | none, .Constant .none _ _ => true
  | some x, .Constant (.str y) _ _ => decide (y = Str.ofString x)
  | _, _ => false
/-- isinstance(e, C), not isinstance(e, C) -/
def isxB (k : Kn) (c : CC) (j : Nat) (n : String) : Expr → Bool
  | .Call (.Name f _) [.Name e _, .Name m _] [] _ => bltB c k f "isinstance" && visB c j e && decide (m = Str.ofString n) && gloB c m && k.hs.contains n
  | _ => false
def tstB (k : Kn) (c : CC) (j : Nat) (t : Bool × String) : Expr → Bool
  | .UnaryOp .Not e _ => t.1 && isxB k c j t.2 e
  | e => !t.1 && isxB k c j t.2 e
def tstsB (k : Kn) (c : CC) (j : Nat) : List (Bool × String) → List Expr → Bool
  | [], [] => true
  | t :: ts, e :: es => tstB k c j t e && tstsB k c j ts es
  | _, _ => false
def asgB (c : CC) (i : Nat) (z : Option String) : Stmt → Bool
  | .Assign [.Name y _] e _ => locB c i y && cstB z e
  | _ => false
def suiB (k : Kn) (c : CC) (nm : Option Nat) (ts : List (Bool × String)) (i : Nat) (z : Option String) : List Stmt → Bool
  | [.If (.BoolOp .And (e :: es) _) [a] [] _] => match nm with | some j => tstsB k c j ts (e :: es) && asgB c i z a | none => false
  | [a] => ts.isEmpty && asgB c i z a
  | _ => false
def nmB (c : CC) (i : Nat) : Option Nat → Option Str → Bool
  | none, none => true
  | some j, some x => decide (c.N[j]? = some x) && decide (c.sc.names.lookup x = some .local) && !(x == Str.ofString "__debug__") && !(x == Str.ofString "__classdict__") && decide (i ≠ j)
  | _, _ => false
mutual
def cS (k : Kn) (c : CC) : PSt → Stmt → Bool
  | .set i x, s => match s with | .Assign [.Name y _] e _ => locB c i y && cE k c x e | _ => false
  | .own i f, s => match s with | .Assign [.Name y _] e _ => locB c i y && cF k c f e | _ => false
  | .dic i, s => match s with | .Assign [.Name y _] (.Dict [] [] _) _ => locB c i y | _ => false
  | .tgt is x, s => match s with | .Assign [.Tuple ts _ _] e _ => locsB c is ts && (match e with | .Tuple .. => false | _ => true) && cE k c x e | _ => false
  | .par i j x y, s => match s with | .Assign [.Tuple [.Name a pa, .Name b pb] _ _] (.Tuple [e1, e2] _ _) _ => decide (i ≠ j) && locB c i a && locB c j b && parB c a b pa pb e1 e2 && cE k c x e1 && cE k c y e2 | _ => false
  | .app i x, s => match s with | .Expr (.Call (.Attribute (.Name o _) n ap) [a] [] p) _ => decide (n = Str.ofString "append") && visB c i o && (ap.endLine == p.line) && noStar a && cE k c x a | _ => false
  | .ext i x, s => match s with | .Expr (.Call (.Attribute (.Name o _) n ap) [a] [] p) _ => decide (n = Str.ofString "extend") && visB c i o && (ap.endLine == p.line) && noStar a && cL k c x a | _ => false
  | .put i q x, s => match s with | .Assign [.Subscript (.Name o _) a _] e _ => visB c i o && noSlice a && cE k c q a && cE k c x e | _ => false
  | .dput i q x, s => match s with | .Assign [.Subscript (.Name o _) a _] e _ => visB c i o && noSlice a && cE k c q a && cE k c x e | _ => false
  | .pop j i, s => match s with | .Assign [.Name y _] (.Call (.Attribute (.Name o _) n ap) [] [] p) _ => decide (i ≠ j) && locB c j y && decide (n = Str.ofString "pop") && visB c i o && (ap.endLine == p.line) | _ => false
  | .ex x, s => match s with | .Expr e _ => !isComp e && cE k c x e | _ => false
  | .ret x, s => match s with | .Return (some e) _ => cE k c x e | _ => false
  | .ite t a b, s => match s with | .If e p q _ => cT k c t e && cSs k c a p && cSs k c b q | _ => false
  | .for_ tg it b, s => match s with | .For t e body [] _ => c.raw.isNone && tgB c tg t && noSet e && sI it && (nz1 it || isOne tg) && cI k c it (isPair tg) e && cSs k c b body | _ => false
  | .whl t b, s => match s with | .While e body [] _ => c.raw.isNone && cT k c t e && cSs k c b body | _ => false
  | .raise x m, s => match s with | .Raise (some (.Call (.Name n _) [.Constant (.str y) _ _] [] _)) none _ => c.raw.isNone && decide (n = Str.ofString x) && gloB c n && k.es.contains x | _ => false
  | .frz i st, s => cS k c st s
  | .try_ b cn nm ts i z, s => match s with
    | .Try body [.ExceptHandler (some (.Name x _)) n suite _] [] [] _ => decide (x = Str.ofString cn) && gloB c x && k.hs.contains cn && nmB c i nm n && c.raw.isNone && suiB k c nm ts i z suite && cSs k c b body
    | _ => false
def cSs (k : Kn) (c : CC) : PSs → List Stmt → Bool
  | .nil, ss => match ss with | [] => true | _ => false
  | .cons s r, ss => match ss with | x :: xs => cS k c s x && cSs k c r xs | _ => false
end
end Pu

/-! soundness, the parts -/
namespace Pu
open PySem PySem.Spec L2

/-! ### what is handed on -/
def ExO (cls : String → Option Addr) (W : WX) (σ : L2.St) (H : Hp) (E : String → Prop) : Prop := ∀ c a H', cls c = some a → Same H H' → E c → W (.ref a) none σ H'
theorem ExO.mono {cls : String → Option Addr} {W : WX} {σ : L2.St} {H H1 : Hp} {E : String → Prop} (x : ExO cls W σ H E) (s : Same H H1) : ExO cls W σ H1 E := fun c a H' h1 h2 h3 => x c a H' h1 (s.trans h2) h3
abbrev Rl (δ : Type) := Hp → Hp → Hp → V → δ → Prop
def den (K : PySem.W.Frag) (cls : String → Option Addr) (W : WX) {δ : Type} (R : Rl δ) (w : Ev → (δ → Prop) → (String → Prop) → Prop) : TE := fun σ H Q =>
  ∃ B F ρ Qd Ed, Rep K B F H σ ρ ∧ w ρ Qd Ed ∧ (∀ v F' H' d, Ext F H F' H' → R H F' H' v d → Qd d → Q v H') ∧ ExO cls W σ H Ed
def denT (K : PySem.W.Frag) (cls : String → Option Addr) (W : WX) (w : Ev → (Bool → Prop) → (String → Prop) → Prop) : TT := fun σ H Q =>
  ∃ B F ρ Qd Ed, Rep K B F H σ ρ ∧ w ρ Qd Ed ∧ (∀ b F' H', Ext F H F' H' → Qd b → Q b H') ∧ ExO cls W σ H Ed
def denA (K : PySem.W.Frag) (cls : String → Option Addr) (W : WX) (n : Nat) (w : Ev → (List D → Prop) → (String → Prop) → Prop) : TA := fun σ H Q =>
  ∃ B F ρ Qd Ed, Rep K B F H σ ρ ∧ w ρ Qd Ed ∧ (∀ vs F' H' ds, Ext F H F' H' → DqAll K F' vs ds → vs.length = n → Qd ds → Q vs H') ∧ ExO cls W σ H Ed
def denO (K : PySem.W.Frag) (cls : String → Option Addr) (W : WX) (w : Ev → (Option Int → Prop) → (String → Prop) → Prop) : TO := fun σ H Q =>
  ∃ B F ρ Qd Ed, Rep K B F H σ ρ ∧ w ρ Qd Ed ∧ (∀ z F' H', Ext F H F' H' → Qd z → Q z H') ∧ ExO cls W σ H Ed
def RE (K : PySem.W.Frag) : Rl D := fun _ F _ v d => Dq K F v d
def LsAt (K : PySem.W.Frag) (F H : Hp) (a : Addr) (ds : List D) : Prop := ∃ xs, H a = some (.lst xs) ∧ F a = none ∧ DqAll K F xs ds
/-- strict: told things alone -/
def RBs (K : PySem.W.Frag) (s : Bool) : Rl D := fun _ F H v d => Dq K F v d ∨ s = false ∧ ∃ a ds, v = .ref a ∧ d = .list ds ∧ LsAt K F H a ds
def RB (K : PySem.W.Frag) : Rl D := fun _ F H v d => Dq K F v d ∨ ∃ a ds, v = .ref a ∧ d = .list ds ∧ LsAt K F H a ds
def RL (K : PySem.W.Frag) : Rl (List D) := fun _ F H v ds => ∃ a, v = .ref a ∧ LsAt K F H a ds
def RF (K : PySem.W.Frag) : Rl (List D) := fun H₀ F H v ds => ∃ a, v = .ref a ∧ H₀ a = none ∧ LsAt K F H a ds
theorem LsAt.ext {K : PySem.W.Frag} {F H F' H' : Hp} {a : Addr} {ds : List D} (x : Ext F H F' H') (h : LsAt K F H a ds) : LsAt K F' H' a ds := by
  obtain ⟨xs, hh, hf, q⟩ := h
  exact ⟨xs, x.h _ _ hh, x.o a (by rw [hh]; simp) hf, DqAll.mono x.f _ _ q⟩
class Stb {δ : Type} (R : Rl δ) : Prop where
  st : ∀ {H₀ F H F' H' : Hp} {v : V} {d : δ}, Ext F H F' H' → R H₀ F H v d → R H₀ F' H' v d
  dn : ∀ {H₀ H₁ F H : Hp} {v : V} {d : δ}, Same H₀ H₁ → R H₁ F H v d → R H₀ F H v d
section
variable {K : PySem.W.Frag}
instance : Stb (RE K) := ⟨fun x h => Dq.mono x.f _ _ h, fun _ h => h⟩
instance : Stb (RB K) := ⟨fun x h => h.elim (fun h => .inl (Dq.mono x.f _ _ h)) fun ⟨a, ds, e1, e2, h⟩ => .inr ⟨a, ds, e1, e2, h.ext x⟩, fun _ h => h⟩
instance {s : Bool} : Stb (RBs K s) := ⟨fun x h => h.elim (fun h => .inl (Dq.mono x.f _ _ h)) fun ⟨z, a, ds, e1, e2, h⟩ => .inr ⟨z, a, ds, e1, e2, h.ext x⟩, fun _ h => h⟩
instance : Stb (RL K) := ⟨fun x ⟨a, e1, h⟩ => ⟨a, e1, h.ext x⟩, fun _ h => h⟩
instance : Stb (RF K) := ⟨fun x ⟨a, e1, h0, h⟩ => ⟨a, e1, h0, h.ext x⟩, fun s ⟨a, e1, h0, h⟩ => ⟨a, e1, s.free h0, h⟩⟩
end

section
variable {K : PySem.W.Frag} {cls : String → Option Addr} {W : WX}
/-- one operand -/
theorem den_un {δ ε : Type} {R1 : Rl δ} {R3 : Rl ε} [Stb R1] [Stb R3] {w : Ev → (ε → Prop) → (String → Prop) → Prop} {wx : Ev → (δ → Prop) → (String → Prop) → Prop} {G : δ → (ε → Prop) → Prop} {r : V → Hp → VK → Prop}
    (hw : ∀ ρ Q E, w ρ Q E → wx ρ (fun a => G a Q) E)
    (hr : ∀ v a F H₀ H (Q : VK) (Qd : ε → Prop), Same F H → R1 H₀ F H v a → G a Qd → (∀ z F' H' d, Ext F H F' H' → R3 H F' H' z d → Qd d → Q z H') → r v H Q) :
    ∀ σ H Q, den K cls W R3 w σ H Q → den K cls W R1 wx σ H (fun v H1 => r v H1 Q) := by
  rintro σ H Q ⟨B, F, ρ, Qd, Ed, hR, h, hq, he⟩
  refine ⟨B, F, ρ, _, Ed, hR, hw ρ Qd Ed h, fun v F1 H1 a x1 r1 g => ?_, he⟩
  exact hr v a F1 H H1 Q Qd x1.fh r1 g fun z F' H' d x3 r3 qd => hq z F' H' d (x1.trans x3) (Stb.dn x1.h r3) qd
/-- two operands -/
theorem den_bin {δ δ' ε : Type} {R1 : Rl δ} {R2 : Rl δ'} {R3 : Rl ε} [Stb R1] [Stb R2] [Stb R3] {w : Ev → (ε → Prop) → (String → Prop) → Prop} {wx : Ev → (δ → Prop) → (String → Prop) → Prop} {wy : Ev → (δ' → Prop) → (String → Prop) → Prop}
    {G : δ → δ' → (ε → Prop) → Prop} {r : V → V → Hp → VK → Prop}
    (hw : ∀ ρ Q E, w ρ Q E → wx ρ (fun a => wy ρ (fun c => G a c Q) E) E)
    (hr : ∀ v u a c F H₀ H₁ H (Q : VK) (Qd : ε → Prop), Same F H → R1 H₀ F H v a → R2 H₁ F H u c → G a c Qd → (∀ z F' H' d, Ext F H F' H' → R3 H F' H' z d → Qd d → Q z H') → r v u H Q) :
    ∀ σ H Q, den K cls W R3 w σ H Q → tOp r (den K cls W R1 wx) (den K cls W R2 wy) σ H Q := by
  rintro σ H Q ⟨B, F, ρ, Qd, Ed, hR, h, hq, he⟩
  refine ⟨B, F, ρ, _, Ed, hR, hw ρ Qd Ed h, fun v F1 H1 a x1 r1 g => ?_, he⟩
  refine ⟨B, F1, ρ, _, Ed, hR.ext x1, g, fun u F2 H2 c x2 r2 g2 => ?_, he.mono x1.h⟩
  exact hr v u a c F2 H H1 H2 Q Qd x2.fh (Stb.st x2 r1) r2 g2 fun z F' H' d x3 r3 qd => hq z F' H' d ((x1.trans x2).trans x3) (Stb.dn (x1.h.trans x2.h) r3) qd
end

/-! ### the context -/
def spS (S : Spc) (cls : String → Option Addr) (K : PySem.W.Frag) (f : String) : Sp := fun vs H Q E => ∃ F ds Qd Ed, Same F H ∧ DqAll K F vs ds ∧ S f ds Qd Ed ∧
  (∀ v F' H' d, Ext F H F' H' → Dq K F' v d → Qd d → Q v H') ∧ ∀ c a H', cls c = some a → Same H H' → Ed c → E (.ref a) none H'
def FnF (S : Spc) (cls : String → Option Addr) (k : Nat) (X : Cx) (f : String) : Prop := ∃ fa fd ps, X.mg (Str.ofString f) = some (.ref fa) ∧ PySem.W.keepIn X.K (.ref fa) = true ∧ Binds X.K fd ps [] ∧
  FnOk X.prog X.w X.K X.mg X.base (L2.CX X.prog X.w) k fa fd ps (spS S cls X.K f)
/-- an own exception class -/
def ExF (cls : String → Option Addr) (X : Cx) (c : String) : Prop := ∃ C, cls c = some C ∧ X.mg (Str.ofString c) = some (.ref C) ∧ PySem.W.keepIn X.K (.ref C) = true ∧ Raises X (.ref C) ∧
  PySem.W.excIn X.K C [.type "ValueError", .type "Exception", .type "BaseException", .type "object"] "ValueError.__new__" = true
/-- a class that a clause names -/
def NmV (mg : Str → Option Value) (n : String) (v : V) (u : Value) : Prop :=
  (∃ C, mg (Str.ofString n) = some (.ref C) ∧ v = .ref C ∧ u = .ref C) ∨ (mg (Str.ofString n) = none ∧ ∃ t, bootBuiltins (Str.ofString n) = some (.type t) ∧ Str.ofString n ≠ "__name__" ∧ v = .ty t ∧ u = .type t)
def HnF (K : PySem.W.Frag) (mg : Str → Option Value) (cls : String → Option Addr) (n : String) : Prop :=
  ∃ v u, NmV mg n v u ∧ ∀ c a, cls c = some a → PySem.W.exmOne K (.ref a) u = some (subC c n) ∧ PySem.W.kitOne K (.ref a) u = some (subC c n) ∧ ExcC K a
structure Ok (S : Spc) (cls : String → Option Addr) (W : WX) (k : Nat) (kn : Kn) (c : CC) (X : Cx) : Prop where
  N : X.N = c.N
  sc : X.env.scope = c.sc
  calm : X.calm = true
  room : Room k X.A
  nd : c.N.Nodup
  fk : c.sc.kind = .function
  fn : ∀ x, X.fn x = (match c.raw with | none => true | some r => r.names.lookup x == some .cell)
  fns : ∀ f, kn.fs.contains f = true → FnF S cls k X f
  blt : ∀ b, kn.bs.contains b = true → X.mg (Str.ofString b) = none
  exc : ∀ b, kn.es.contains b = true → ExF cls X b
  hnd : ∀ n, kn.hs.contains n = true → HnF X.K X.mg cls n
  stk : c.raw = none → X.stack = X.env :: X.outer ∧ X.env.frame = some X.env.locals
  tk : c.raw = none → Takes X W
  po : c.raw = none → PassesOwn (model X.prog X.w) X.A X.env X.xe
  pa : ∀ σ, PassesAt (L2.CX X.prog X.w) X σ (WE W σ)
section
variable {S : Spc} {cls : String → Option Addr} {W : WX} {k : Nat} {kn : Kn} {c : CC} {X : Cx}
theorem Ok.vis (o : Ok S cls W k kn c X) {i : Nat} {x : Str} (h : visB c i x = true) : X.N[i]? = some x ∧ Vis X.env.scope x ∧ (x == ("__debug__" : Str)) = false ∧ (x == ("__classdict__" : Str)) = false := by
  unfold visB at h
  simp only [Bool.and_eq_true, decide_eq_true_eq, Bool.not_eq_true'] at h
  obtain ⟨⟨⟨h1, h2⟩, h3⟩, h4⟩ := h
  refine ⟨by rw [o.N]; exact h1, ?_, h3, h4⟩
  rw [o.sc]
  unfold Vis
  split at h2
  · exact .inl (by assumption)
  · exact .inr (.inl (by assumption))
  · exact .inr (.inr (by assumption))
  · cases h2
theorem Ok.loc (o : Ok S cls W k kn c X) {i : Nat} {x : Str} (h : locB c i x = true) : X.N[i]? = some x ∧ L2.Loc X.env.scope x ∧ (X.fn x = true ∨ X.env.scope.names.lookup x = some .local) := by
  unfold locB at h
  simp only [Bool.and_eq_true, decide_eq_true_eq] at h
  obtain ⟨h1, h2⟩ := h
  refine ⟨by rw [o.N]; exact h1, ?_⟩
  rw [o.sc, o.fn x]
  unfold L2.Loc
  split at h2
  · rename_i hl
    exact ⟨.inl hl, .inr hl⟩
  · rename_i hl
    refine ⟨.inr hl, .inl ?_⟩
    split at h2
    · rename_i hr
      first | rfl | rw [hr]
    · rename_i r hr
      have h2' := of_decide_eq_true h2
      first
        | (rw [hr]; show (r.names.lookup x == some .cell) = true; rw [h2']; rfl)
        | (show (r.names.lookup x == some .cell) = true; rw [h2']; rfl)
  · cases h2
theorem Ok.glo (o : Ok S cls W k kn c X) {x : Str} (h : gloB c x = true) : Gl X x ∧ (x == ("__debug__" : Str)) = false := by
  unfold gloB at h
  simp only [Bool.and_eq_true, decide_eq_true_eq, Bool.not_eq_true'] at h
  refine ⟨?_, h.2⟩
  show X.env.scope.names.lookup x = some .globalImplicit
  rw [o.sc]
  exact h.1
theorem Ok.bltn (o : Ok S cls W k kn c X) {x : Str} {n : String} (h : bltB c kn x n = true) : x = Str.ofString n ∧ Gl X x ∧ (x == ("__debug__" : Str)) = false ∧ X.mg x = none := by
  unfold bltB at h
  simp only [Bool.and_eq_true, decide_eq_true_eq] at h
  obtain ⟨⟨h1, h2⟩, h3⟩ := h
  obtain ⟨g1, g2⟩ := o.glo h2
  exact ⟨h1, g1, g2, by rw [h1]; exact o.blt n h3⟩
end
theorem star1 {e : Expr} (h : noStar e = true) (env : Env) (es : List Expr) : starEach (e :: es) env = (false, eval e env) :: starEach es env := by
  cases e <;> first | rfl | cases h
theorem stars (env : Env) (pos : Pos) : ∀ {es : List Expr}, es.all noStar = true → (backTo pos (starEach es env)).any (·.1) = false
  | [], _ => rfl
  | e :: es, h => by
    rw [List.all_cons, Bool.and_eq_true] at h
    rw [star1 h.1]
    show (false || (backTo pos (starEach es env)).any (·.1)) = false
    rw [stars env pos h.2]
    rfl
theorem plainTest {e : Expr} (h : plainT e = true) (env : Env) : ∀ whole, isTrue e env whole = (do let v ← whole; standAt e.pos; holding [v] (truthy v)) := by
  intro whole
  cases e with
  | UnaryOp op x p => cases op <;> first | rfl | cases h
  | BoolOp _ _ _ => cases h
  | IfExp _ _ _ _ => cases h
  | Compare _ _ _ _ => cases h
  | _ => rfl
theorem plainIx {b : Expr} (h : noSlice b = true) : PlainIx b := fun o i => by
  cases b <;> first | rfl | cases h
theorem noSl {b : Expr} (h : noSlice b = true) : NoSl b := fun o i => by
  cases b <;> first | rfl | cases h
theorem noSup {o : Expr} (h : noSuper o = true) (n : Str) (env : Env) (w : Sem Value) : attributeBase o n env w = w := by
  unfold attributeBase
  cases o with
  | Call f as ks p =>
    cases f with
    | Name id p2 =>
      cases as with
      | nil =>
        cases ks with
        | nil => cases h
        | cons _ _ => rfl
      | cons _ _ => rfl
    | _ => rfl
  | _ => rfl
theorem noMark {r : Expr} (h : noSet r = true) (op : CmpOp) : behindInMarks op r = false := by
  cases r <;> first | rfl | cases h
theorem noFold {e : Expr} (h : noSet e = true) (env : Env) : ∀ x, foldedSetIterable e env x = pure x := by
  intro x
  cases e <;> first | rfl | cases h
end Pu

/-! soundness, expressions: one lemma a construct -/
namespace Pu
open PySem PySem.Spec L2

section
variable {K : PySem.W.Frag} {F H H₀ H₁ : Hp}
theorem dq_int {v : V} {i : Int} (h : Dq K F v (.int i)) : v = .int i := by cases h; rfl
theorem dq_bool {v : V} {b : Bool} (h : Dq K F v (.bool b)) : v = .bl b := by cases h; rfl
theorem dq_str {v : V} {x : Str} (h : Dq K F v (.str x)) : v = .str x := by cases h; rfl
theorem dq_none {v : V} (h : Dq K F v .none) : v = .non := by cases h; rfl
theorem dq_tup {v : V} {ds : List D} (h : Dq K F v (.tuple ds)) : ∃ a xs, v = .ref a ∧ PTup F a xs ∧ DqAll K F xs ds := by
  cases h with
  | tup h1 h2 => exact ⟨_, _, rfl, h1, h2⟩
theorem dq_list {v : V} {ds : List D} (h : Dq K F v (.list ds)) : ∃ a xs, v = .ref a ∧ SqL K F a xs ∧ DqAll K F xs ds := by
  cases h with
  | lst h1 h2 => exact ⟨_, _, rfl, h1, h2⟩
/-- a new tuple of told things -/
theorem newT_den {xs : List V} {ds : List D} {Q : VK} {Qd : D → Prop} (s : Same F H) (q : DqAll K F xs ds) (g : Qd (.tuple ds)) (hq : ∀ z F' H' d, Ext F H F' H' → Dq K F' z d → Qd d → Q z H') : NewT xs H Q := by
  intro p o hp hc hd
  exact hq _ _ _ _ (Ext.new (o := .frz o (.tup xs)) s hp) (.tup ⟨o, upd_same, hc, hd⟩ (DqAll.mono (same_upd (s.free hp)) _ _ q)) g
/-- what a borrowed or told list is -/
theorem rb_list {v : V} {ds : List D} (s : Same F H) (h : RB K H₀ F H v (.list ds)) : ∃ a xs, v = .ref a ∧ SqL K H a xs ∧ DqAll K F xs ds := by
  rcases h with h | ⟨a, es, e1, e2, xs, hh, hf, q⟩
  · obtain ⟨a, xs, e, hl, q⟩ := dq_list h
    exact ⟨a, xs, e, s.seq hl, q⟩
  · cases e2
    exact ⟨a, xs, e1, .inl (.inl hh), q⟩
theorem rb_tup {v : V} {ds : List D} (s : Same F H) (h : RB K H₀ F H v (.tuple ds)) : ∃ a xs, v = .ref a ∧ PTup F a xs ∧ DqAll K F xs ds := by
  rcases h with h | ⟨a, es, e1, e2, _⟩
  · exact dq_tup h
  · cases e2
theorem rb_seq {v : V} {d : D} {ds : List D} (s : Same F H) (h : RB K H₀ F H v d) (e : seqD d = some ds) : ∃ a xs, v = .ref a ∧ DqAll K F xs ds ∧ ((d = .list ds ∧ SqL K H a xs) ∨ (d = .tuple ds ∧ PTup H a xs)) := by
  cases d with
  | list es =>
    cases e
    obtain ⟨a, xs, e1, hl, q⟩ := rb_list s h
    exact ⟨a, xs, e1, q, .inl ⟨rfl, hl⟩⟩
  | tuple es =>
    cases e
    obtain ⟨a, xs, e1, hl, q⟩ := rb_tup s h
    exact ⟨a, xs, e1, q, .inr ⟨rfl, hl.mono s⟩⟩
  | _ => cases e
theorem rb_flat {v : V} {d : D} (h : RB K H₀ F H v d) (e : seqD d = none) : Dq K F v d := by
  rcases h with h | ⟨a, es, e1, e2, _⟩
  · exact h
  · subst e2
    cases e
theorem rb_dp {v : V} {d : D} (s : Same F H) (h : RB K H₀ F H v d) : Dp K H v d := by
  rcases h with h | ⟨a, es, e1, e2, xs, hh, hf, q⟩
  · exact Dq.dp _ _ (Dq.mono s _ _ h)
  · subst e1 e2
    exact .lst (.inl (.inl hh)) (DqAll.dp _ _ (DqAll.mono s _ _ q))
theorem at_den {xs : List V} {ds : List D} {z : Int} {d : D} (q : DqAll K F xs ds) (h : atI ds z = some d) : ∃ v, atI xs z = some v ∧ Dq K F v d := by
  unfold atI at h ⊢
  rw [q.length]
  cases e : ixN ds.length z with
  | none => rw [e] at h; cases h
  | some j =>
    rw [e] at h
    obtain ⟨v, h1, h2⟩ := q.get' (i := j) h
    exact ⟨v, h1, h2⟩
end


abbrev dE (S : Spc) (cls : String → Option Addr) (W : WX) (X : Cx) (p : PX) : TE := den X.K cls W (RE X.K) (wE S p)
abbrev dB (S : Spc) (cls : String → Option Addr) (W : WX) (X : Cx) (p : PB) : TE := den X.K cls W (RB X.K) (wB S p)
abbrev dL (S : Spc) (cls : String → Option Addr) (W : WX) (X : Cx) (p : PL) : TE := den X.K cls W (RL X.K) (wL S p)
abbrev dF (S : Spc) (cls : String → Option Addr) (W : WX) (X : Cx) (p : PF) : TE := den X.K cls W (RF X.K) (wF S p)
abbrev dA (S : Spc) (cls : String → Option Addr) (W : WX) (X : Cx) (n : Nat) (p : PXs) : TA := denA X.K cls W n (wEs S p)
abbrev dO (S : Spc) (cls : String → Option Addr) (W : WX) (X : Cx) (p : POp) : TO := denO X.K cls W (wO S p)
abbrev dT (S : Spc) (cls : String → Option Addr) (W : WX) (X : Cx) (p : PQ) : TT := denT X.K cls W (wT S p)
/-- as a value and as a test -/
structure PEC (X : Cx) (ex : Expr) (tr : TE) : Prop where
  e : PE X ex tr
  t : PT X ex (tTest tr)
theorem PEC.weak {X : Cx} {e : Expr} {t t' : TE} (h : PEC X e t) (w : ∀ σ H Q, t' σ H Q → t σ H Q) : PEC X e t' := ⟨pe_weak h.e w, pt_weak h.t fun σ H Q q => w σ H _ q⟩

section
variable {S : Spc} {cls : String → Option Addr} {W : WX} {k : Nat} {kn : Kn} {c : CC} {X : Cx} {l r m : Expr} {pos : Pos} {x y z : PX}
theorem Ok.hu (o : Ok S cls W k kn c X) : X.A.units + 1 < cLine := hu_of o.room
theorem Ok.hu64 (o : Ok S cls W k kn c X) : X.A.units + 64 < cLine := o.room.units
/-! names, constants -/
theorem s_v (o : Ok S cls W k kn c X) {i : Nat} {a : Str} (h : visB c i a = true) : PE X (.Name a pos) (dE S cls W X (.v i)) := by
  obtain ⟨h1, h2, h3, h4⟩ := o.vis h
  refine pe_weak (pe_var h1 h2 h3 h4) fun σ H Q hh => ?_
  obtain ⟨B, F, ρ, Qd, Ed, hR, hw, hq, he⟩ := hh
  obtain ⟨d, e, q⟩ := hw
  obtain ⟨v, e1, dv⟩ := hR.at_ i _ e
  exact ⟨v, e1, hq v F H d (Ext.refl hR.fh) dv q⟩
theorem s_i {j : Int} {u} : PE X (.Constant (.int j) u pos) (dE S cls W X (.i j)) := pe_weak pe_int fun σ H Q hh => by
  obtain ⟨B, F, ρ, Qd, Ed, hR, hw, hq, he⟩ := hh
  exact hq _ F H _ (Ext.refl hR.fh) (.int j) hw
theorem s_b {j : Bool} {u} : PE X (.Constant (.bool j) u pos) (dE S cls W X (.b j)) := pe_weak pe_bl fun σ H Q hh => by
  obtain ⟨B, F, ρ, Qd, Ed, hR, hw, hq, he⟩ := hh
  exact hq _ F H _ (Ext.refl hR.fh) (.bl j) hw
theorem s_n {u} : PE X (.Constant .none u pos) (dE S cls W X .n) := pe_weak pe_non fun σ H Q hh => by
  obtain ⟨B, F, ρ, Qd, Ed, hR, hw, hq, he⟩ := hh
  exact hq _ F H _ (Ext.refl hR.fh) .non hw
theorem s_s {a : String} {u} : PE X (.Constant (.str (Str.ofString a)) u pos) (dE S cls W X (.s a)) := pe_weak pe_str fun σ H Q hh => by
  obtain ⟨B, F, ρ, Qd, Ed, hR, hw, hq, he⟩ := hh
  exact hq _ F H _ (Ext.refl hR.fh) (.str _) hw

/-! operators -/
theorem s_add (o : Ok S cls W k kn c X) (hx : PE X l (dE S cls W X x)) (hy : PE X r (dE S cls W X y)) : PE X (.BinOp l .Add r pos) (dE S cls W X (.add x y)) := by
  refine pe_weak (pe_op (op_add.or (op_add_str.or op_catP)) hx hy) (den_bin (G := addW) (fun _ _ _ h => h) fun v u a b F H₀ H₁ H Q Qd s r1 r2 g q => ?_)
  cases a with
  | int i =>
    cases b with
    | int j =>
      cases dq_int r1
      cases dq_int r2
      exact .inl ⟨i, j, rfl, rfl, q _ F H _ (Ext.refl s) (.int _) g⟩
    | _ => exact g.elim
  | str i =>
    cases b with
    | str j =>
      cases dq_str r1
      cases dq_str r2
      exact .inr (.inl ⟨i, j, rfl, rfl, g.1, q _ F H _ (Ext.refl s) (.str _) g.2⟩)
    | _ => exact g.elim
  | tuple i =>
    cases b with
    | tuple j =>
      obtain ⟨p, xs, rfl, h1, d1⟩ := dq_tup r1
      obtain ⟨p2, ys, rfl, h2, d2⟩ := dq_tup r2
      refine .inr (.inr ⟨p, p2, xs, ys, rfl, rfl, (h1.mono s).sq, (h2.mono s).sq, by rw [d1.length, d2.length]; exact g.1, fun e => ?_, fun _ e => ?_, fun _ _ => newT_den s (d1.append d2) g.2 q⟩)
      · subst e
        cases d1
        exact q _ F H _ (Ext.refl s) (.tup h2 d2) g.2
      · subst e
        cases d2
        have g2 := g.2
        rw [List.append_nil] at g2
        exact q _ F H _ (Ext.refl s) (.tup h1 d1) g2
    | _ => exact g.elim
  | _ => exact g.elim
theorem s_sub (o : Ok S cls W k kn c X) (hx : PE X l (dE S cls W X x)) (hy : PE X r (dE S cls W X y)) : PE X (.BinOp l .Sub r pos) (dE S cls W X (.sub x y)) := by
  refine pe_weak (pe_op op_sub hx hy) (den_bin (G := subW) (fun _ _ _ h => h) fun v u a b F H₀ H₁ H Q Qd s r1 r2 g q => ?_)
  cases a with
  | int i =>
    cases b with
    | int j =>
      cases dq_int r1
      cases dq_int r2
      exact ⟨i, j, rfl, rfl, q _ F H _ (Ext.refl s) (.int _) g⟩
    | _ => exact g.elim
  | _ => exact g.elim
theorem s_mul (o : Ok S cls W k kn c X) (hx : PE X l (dE S cls W X x)) (hy : PE X r (dE S cls W X y)) : PE X (.BinOp l .Mult r pos) (dE S cls W X (.mul x y)) := by
  refine pe_weak (pe_op (op_mul.or (op_mulW.or op_repP)) hx hy) (den_bin (G := mulW) (fun _ _ _ h => h) fun v u a b F H₀ H₁ H Q Qd s r1 r2 g q => ?_)
  cases a with
  | int i =>
    cases b with
    | int j =>
      cases dq_int r1
      cases dq_int r2
      rcases g.1 with g1 | g1
      · exact .inl ⟨i, j, rfl, rfl, g1, q _ F H _ (Ext.refl s) (.int _) g.2⟩
      · exact .inr (.inl ⟨i, j, rfl, rfl, g1, q _ F H _ (Ext.refl s) (.int _) g.2⟩)
    | _ => exact g.elim
  | tuple i =>
    cases b with
    | int j =>
      obtain ⟨p, xs, rfl, h1, d1⟩ := dq_tup r1
      cases dq_int r2
      obtain ⟨g0, g1, g2, g3, g4⟩ := g
      refine .inr (.inr ⟨p, j, xs, rfl, rfl, (h1.mono s).sq, fun e => ?_, g1, g2, by rw [d1.length]; exact g3, newT_den s (d1.rep _) g4 q⟩)
      subst e
      cases d1
      exact g0 rfl
    | _ => exact g.elim
  | _ => exact g.elim
theorem s_md (o : Ok S cls W k kn c X) (hx : PE X l (dE S cls W X x)) (hy : PE X r (dE S cls W X y)) : PE X (.BinOp l .Mod r pos) (dE S cls W X (.md x y)) := by
  refine pe_weak (pe_op op_mod hx hy) (den_bin (G := mdW) (fun _ _ _ h => h) fun v u a b F H₀ H₁ H Q Qd s r1 r2 g q => ?_)
  cases a with
  | int i =>
    cases b with
    | int j =>
      cases dq_int r1
      cases dq_int r2
      exact ⟨i, j, rfl, rfl, g.1, q _ F H _ (Ext.refl s) (.int _) g.2⟩
    | _ => exact g.elim
  | _ => exact g.elim
theorem s_fd (o : Ok S cls W k kn c X) (hx : PE X l (dE S cls W X x)) (hy : PE X r (dE S cls W X y)) : PE X (.BinOp l .FloorDiv r pos) (dE S cls W X (.fd x y)) := by
  refine pe_weak (pe_op op_fdivW hx hy) (den_bin (G := fdW) (fun _ _ _ h => h) fun v u a b F H₀ H₁ H Q Qd s r1 r2 g q => ?_)
  cases a with
  | int i =>
    cases b with
    | int j =>
      cases dq_int r1
      cases dq_int r2
      exact ⟨i, j, rfl, rfl, g.1, q _ F H _ (Ext.refl s) (.int _) g.2⟩
    | _ => exact g.elim
  | _ => exact g.elim
theorem s_neg (o : Ok S cls W k kn c X) (hx : PE X l (dE S cls W X x)) : PE X (.UnaryOp .USub l pos) (dE S cls W X (.neg x)) := by
  refine pe_weak (pe_un un_neg hx) (den_un (G := fun (a : D) (Q : D → Prop) => ∃ z, a = .int z ∧ Q (.int (-z))) (fun _ _ _ h => h) fun v a F H₀ H Q Qd s r1 g q => ?_)
  obtain ⟨z, rfl, g⟩ := g
  cases dq_int r1
  exact ⟨z, rfl, q _ F H _ (Ext.refl s) (.int _) g⟩
theorem s_not (o : Ok S cls W k kn c X) (hx : PE X l (dE S cls W X x)) : PE X (.UnaryOp .Not l pos) (dE S cls W X (.not x)) := by
  refine pe_weak (pe_not hx) (den_un (G := fun (a : D) (Q : D → Prop) => ∃ z, a = .bool z ∧ Q (.bool (!z))) (r := fun v H Q => ∃ c, v = .bl c ∧ Q (.bl (!c)) H) (fun _ _ _ h => h) fun v a F H₀ H Q Qd s r1 g q => ?_)
  obtain ⟨z, rfl, g⟩ := g
  cases dq_bool r1
  exact ⟨z, rfl, q _ F H _ (Ext.refl s) (.bl _) g⟩
theorem tru_den {K : PySem.W.Frag} {F H H₀ : Hp} {v : V} {a : D} {G : Bool → Prop} (s : Same F H) (r1 : RB K H₀ F H v a) (g : truW a G) : ∃ k, TruV K v H k ∧ G k := by
  have em : ∀ {xs : List V} {ds : List D}, DqAll K F xs ds → xs.isEmpty = ds.isEmpty := fun q => by cases q <;> rfl
  cases a with
  | list ds =>
    obtain ⟨a, xs, rfl, hl, q⟩ := rb_list s r1
    exact ⟨!ds.isEmpty, .inl ⟨xs, hl, by rw [em q]⟩, g⟩
  | tuple ds =>
    obtain ⟨a, xs, rfl, hl, q⟩ := rb_tup s r1
    exact ⟨!ds.isEmpty, .inr (.inl ⟨xs, (hl.mono s).sq, by rw [em q]⟩), g⟩
  | bool b =>
    have := dq_bool (rb_flat r1 rfl)
    subst this
    exact ⟨b, rfl, g⟩
  | _ => exact g.elim
theorem s_notL (o : Ok S cls W k kn c X) {x : PB} (hx : PE X l (dB S cls W X x)) : PE X (.UnaryOp .Not l pos) (dE S cls W X (.notL x)) := by
  refine pe_weak (pe_notT hx) (den_un (G := fun (a : D) (Q : D → Prop) => truW a fun k => Q (.bool (!k))) (r := fun v H Q => ∃ k, TruV X.K v H k ∧ Q (.bl (!k)) H) (fun _ _ _ h => h) fun v a F H₀ H Q Qd s r1 g q => ?_)
  obtain ⟨k, t, g⟩ := tru_den s r1 g
  exact ⟨k, t, q _ F H _ (Ext.refl s) (.bl _) g⟩
theorem op_cm (o : Cm) : OpR X (compareOp (cmO o)) (rI0 fun i j => .bl (cmI o i j)) := by
  cases o
  · exact op_lt
  · exact op_le
  · exact op_gt
  · exact op_ge
theorem nm (o : Cm) (b : Expr) : behindInMarks (cmO o) b = false := nobehind b (by cases o <;> decide) (by cases o <;> decide)
theorem s_cmp {cm : Cm} (o : Ok S cls W k kn c X) (hx : PE X l (dE S cls W X x)) (hy : PE X r (dE S cls W X y)) : PEC X (.Compare l [cmO cm] [r] pos) (dE S cls W X (.cmp cm x y)) := by
  refine PEC.weak ⟨pe_cmpR (op_cm cm) hx hy (nm cm r), pt_cmpR (op_cm cm) hx hy (nm cm r)⟩ (den_bin (G := fun (a b : D) (Q : D → Prop) => cmpW cm a b fun k => Q (.bool k)) (fun _ _ _ h => h) fun v u a b F H₀ H₁ H Q Qd s r1 r2 g q => ?_)
  cases a with
  | int i =>
    cases b with
    | int j =>
      cases dq_int r1
      cases dq_int r2
      exact ⟨i, j, rfl, rfl, q _ F H _ (Ext.refl s) (.bl _) g⟩
    | _ => exact g.elim
  | _ => exact g.elim
theorem s_chain {cm cm' : Cm} (o : Ok S cls W k kn c X) (hx : PE X l (dE S cls W X x)) (hy : PE X m (dE S cls W X y)) (hz : PE X r (dE S cls W X z)) : PEC X (.Compare l [cmO cm, cmO cm'] [m, r] pos) (dE S cls W X (.chain cm cm' x y z)) := by
  have hm : lastMarks [cmO cm, cmO cm'] [m, r] = false := nm cm' r
  refine PEC.weak ⟨pe_chain (op_cm cm) (op_cm cm') hx hy hz hm, pt_chain (op_cm cm) (op_cm cm') hx hy hz hm⟩ fun σ H Q hh => ?_
  obtain ⟨B, F, ρ, Qd, Ed, hR, h, hq, he⟩ := hh
  have h' : wE S x ρ (fun a => wE S y ρ (fun c => cmpW cm a c fun k => if k = true then wE S z ρ (fun e => cmpW cm' c e fun l => Qd (.bool l)) Ed else Qd (.bool false)) Ed) Ed := h
  refine ⟨B, F, ρ, _, Ed, hR, h', fun v F1 H1 a x1 r1 g1 => ?_, he⟩
  refine ⟨B, F1, ρ, _, Ed, hR.ext x1, g1, fun u F2 H2 b x2 r2 g2 => ?_, he.mono x1.h⟩
  have r1' : Dq X.K F2 v a := Dq.mono x2.f _ _ r1
  cases a with
  | int i =>
    cases b with
    | int j =>
      cases dq_int r1'
      cases dq_int r2
      refine ⟨i, j, rfl, rfl, _, rfl, ?_⟩
      have g2' : (if cmI cm i j = true then wE S z ρ (fun e => cmpW cm' (.int j) e fun l => Qd (.bool l)) Ed else Qd (.bool false)) := g2
      cases hc : cmI cm i j with
      | false =>
        rw [hc] at g2'
        exact hq _ F2 H2 _ (x1.trans x2) (.bl false) g2'
      | true =>
        rw [hc] at g2'
        refine ⟨B, F2, ρ, _, Ed, hR.ext (x1.trans x2), g2', fun w F3 H3 e x3 r3 g3 => ?_, he.mono (x1.trans x2).h⟩
        cases e with
        | int n =>
          cases dq_int r3
          exact ⟨j, n, rfl, rfl, hq _ F3 H3 _ ((x1.trans x2).trans x3) (.bl _) g3⟩
        | _ => exact g3.elim
    | _ => exact g2.elim
  | _ => exact g2.elim
theorem op_eqN (hu : X.A.units + 64 < cLine) (ne : Bool) : OpR X (compareOp (if ne then .NotEq else .Eq)) (fun x y H Q => ∃ d e, Dp X.K H x d ∧ Dp X.K H y e ∧ SeqAt.shaped d = true ∧ SeqAt.shaped e = true ∧ Q (.bl (ne ^^ PyData.eqv d e)) H) := by
  cases ne
  · intro pins s σ H x y v u Q I rx ry ⟨d, e, h1, h2, h3, h4, h5⟩
    rw [Bool.false_xor] at h5
    exact op_eqD hu pins s σ H x y v u Q I rx ry ⟨d, e, h1, h2, h3, h4, h5⟩
  · intro pins s σ H x y v u Q I rx ry ⟨d, e, h1, h2, h3, h4, h5⟩
    rw [Bool.true_xor] at h5
    exact op_neD hu pins s σ H x y v u Q I rx ry ⟨d, e, h1, h2, h3, h4, h5⟩
theorem s_eq {ne : Bool} {x y : PB} (o : Ok S cls W k kn c X) (hx : PE X l (dB S cls W X x)) (hy : PE X r (dB S cls W X y)) : PEC X (.Compare l [if ne then .NotEq else .Eq] [r] pos) (dE S cls W X (.eq ne x y)) := by
  have hm : behindInMarks (if ne then .NotEq else .Eq) r = false := nobehind r (by cases ne <;> decide) (by cases ne <;> decide)
  refine PEC.weak ⟨pe_cmpR (op_eqN o.hu64 ne) hx hy hm, pt_cmpR (op_eqN o.hu64 ne) hx hy hm⟩ (den_bin (G := eqW ne) (fun _ _ _ h => h) fun v u a b F H₀ H₁ H Q Qd s r1 r2 g q => ?_)
  obtain ⟨g1, g2, g3⟩ := g
  exact ⟨a, b, rb_dp s r1, rb_dp s r2, g1, g2, q _ F H _ (Ext.refl s) (.bl _) g3⟩
theorem isno_den {K : PySem.W.Frag} {F : Hp} {v : V} {a : D} (h : Dq K F v a) : decide (v = .non) = isNo a := by
  cases h <;> rfl
theorem s_isN {ne : Bool} {u} {p2 : Pos} (o : Ok S cls W k kn c X) (hx : PE X l (dE S cls W X x)) : PEC X (.Compare l [if ne then .IsNot else .Is] [.Constant .none u p2] pos) (dE S cls W X (.isN ne x)) := by
  cases ne with
  | false =>
    refine PEC.weak ⟨pe_cmp (pc_isN hx) rfl, pt_cmp (pc_isN hx) rfl⟩ (den_un (G := fun (a : D) (Q : D → Prop) => Q (.bool (false ^^ isNo a))) (r := fun v H Q => Q (.bl (decide (v = .non))) H) (fun _ _ _ h => h) fun v a F H₀ H Q Qd s r1 g q => ?_)
    rw [isno_den r1]
    rw [Bool.false_xor] at g
    exact q _ F H _ (Ext.refl s) (.bl _) g
  | true =>
    refine PEC.weak ⟨pe_cmp (pc_notN hx) rfl, pt_cmp (pc_notN hx) rfl⟩ (den_un (G := fun (a : D) (Q : D → Prop) => Q (.bool (true ^^ isNo a))) (r := fun v H Q => Q (.bl (!decide (v = .non))) H) (fun _ _ _ h => h) fun v a F H₀ H Q Qd s r1 g q => ?_)
    rw [isno_den r1]
    rw [Bool.true_xor] at g
    exact q _ F H _ (Ext.refl s) (.bl _) g
theorem op_isBN (ne : Bool) : OpR X (compareOp (if ne then .IsNot else .Is)) (fun x y H Q => ∃ a b : Bool, x = .bl a ∧ y = .bl b ∧ Q (.bl (ne ^^ (a == b))) H) := by
  have e : ∀ a b : Bool, decide (a = b) = (a == b) := fun a b => by cases a <;> cases b <;> rfl
  cases ne
  · intro pins s σ H x y v u Q I rx ry ⟨a, b, h1, h2, h5⟩
    rw [Bool.false_xor, ← e] at h5
    exact op_isBl pins s σ H x y v u Q I rx ry ⟨a, b, h1, h2, h5⟩
  · intro pins s σ H x y v u Q I rx ry ⟨a, b, h1, h2, h5⟩
    rw [Bool.true_xor, ← e] at h5
    exact op_notBl pins s σ H x y v u Q I rx ry ⟨a, b, h1, h2, h5⟩
theorem s_isB {ne d : Bool} {u} {p2 : Pos} (o : Ok S cls W k kn c X) (hx : PE X l (dE S cls W X x)) : PEC X (.Compare l [if ne then .IsNot else .Is] [.Constant (.bool d) u p2] pos) (dE S cls W X (.isB ne d x)) := by
  have hm : behindInMarks (if ne then .IsNot else .Is) (.Constant (.bool d) u p2) = false := rfl
  have hy : PE X (.Constant (.bool d) u p2) (dE S cls W X (.b d)) := s_b
  refine PEC.weak ⟨pe_cmpR (op_isBN ne) hx hy hm, pt_cmpR (op_isBN ne) hx hy hm⟩ (den_bin (G := fun (a b : D) (Q : D → Prop) => ∃ k e, a = .bool k ∧ b = .bool e ∧ Q (.bool (ne ^^ (k == e)))) (fun ρ Q E h => ?_) fun v u a b F H₀ H₁ H Q Qd s r1 r2 g q => ?_)
  · have h' : wE S x ρ (fun a => ∃ k, a = .bool k ∧ Q (.bool (ne ^^ (k == d)))) E := h
    show wE S x ρ (fun a => ∃ k e, a = PyData.bool k ∧ PyData.bool d = .bool e ∧ Q (.bool (ne ^^ (k == e)))) E
    have e : (fun (a : D) => ∃ k e, a = PyData.bool k ∧ PyData.bool d = .bool e ∧ Q (.bool (ne ^^ (k == e)))) = (fun (a : D) => ∃ k, a = PyData.bool k ∧ Q (.bool (ne ^^ (k == d)))) := by
      funext a
      refine propext ⟨fun ⟨k, e, h1, h2, h3⟩ => ?_, fun ⟨k, h1, h2⟩ => ⟨k, d, h1, rfl, h2⟩⟩
      cases h2
      exact ⟨k, h1, h3⟩
    rw [e]
    exact h'
  · obtain ⟨k, e, rfl, rfl, g⟩ := g
    cases dq_bool r1
    cases dq_bool r2
    exact ⟨k, e, rfl, rfl, q _ F H _ (Ext.refl s) (.bl _) g⟩
theorem op_inN (hu : X.A.units + 65 < cLine) (ne : Bool) : OpR X (compareOp (if ne then .NotIn else .In)) (rInQ X.K ne) := by
  cases ne
  · exact op_inQ hu
  · exact op_notInQ hu
theorem Ok.hu65 (o : Ok S cls W k kn c X) (h0 : 1 ≤ k) : X.A.units + 65 < cLine := by
  have := o.room.un
  omega
theorem s_mem {ne : Bool} {y : PB} (o : Ok S cls W k kn c X) (h0 : 1 ≤ k) (ns : noSet r = true) (hx : PE X l (dE S cls W X x)) (hy : PE X r (dB S cls W X y)) : PEC X (.Compare l [if ne then .NotIn else .In] [r] pos) (dE S cls W X (.mem ne x y)) := by
  have hm : behindInMarks (if ne then .NotIn else .In) r = false := noMark ns _
  refine PEC.weak ⟨pe_cmpR (op_inN (o.hu65 h0) ne) hx hy hm, pt_cmpR (op_inN (o.hu65 h0) ne) hx hy hm⟩ (den_bin (G := memW ne) (fun _ _ _ h => h) fun v u a b F H₀ H₁ H Q Qd s r1 r2 g q => ?_)
  have d1 : Dp X.K H v a := Dq.dp _ _ (Dq.mono s _ _ r1)
  cases b with
  | list ds => exact ⟨a, _, ds, d1, rb_dp s r2, rfl, g.1, g.2.1, q _ F H _ (Ext.refl s) (.bl _) g.2.2⟩
  | tuple ds => exact ⟨a, _, ds, d1, rb_dp s r2, rfl, g.1, g.2.1, q _ F H _ (Ext.refl s) (.bl _) g.2.2⟩
  | _ => exact g.elim
end
end Pu

/-! soundness, expressions: calls, lists, tuples -/
namespace Pu
open PySem PySem.Spec L2

section
variable {K : PySem.W.Frag} {F : Hp}
theorem dqk_lookup : ∀ {ks : List (Key × V)} {kvs : List (Int × D)} (h : DqK K F ks kvs) (z : Int),
    (valV ks (Sum.inl z) = none ∧ kvs.lookup z = none) ∨ ∃ v d, valV ks (Sum.inl z) = some v ∧ kvs.lookup z = some d ∧ Dq K F v d
  | _, _, .nil, z => .inl ⟨rfl, rfl⟩
  | _, _, .cons (a := p) (b := q) r t, z => by
    obtain ⟨r1, r2⟩ := r
    by_cases e : q.1 = z
    · refine .inr ⟨p.2, q.2, valV_pos (by rw [r1, e]), ?_, r2⟩
      obtain ⟨q1, q2⟩ := q
      dsimp only at e
      subst e
      simp [List.lookup]
    · rw [valV_neg (by rw [r1]; exact fun w => e (Sum.inl.inj w))]
      obtain ⟨q1, q2⟩ := q
      dsimp only at e
      rw [List.lookup_cons]
      have e3 : (z == q1) = false := beq_eq_false_iff_ne.mpr fun w => e w.symm
      rw [e3]
      exact dqk_lookup t z
end

section
variable {S : Spc} {cls : String → Option Addr} {W : WX} {k : Nat} {kn : Kn} {c : CC} {X : Cx} {l r m : Expr} {pos : Pos} {x y z : PX}
/-! dicts with ints as keys, in a slot -/
theorem pe_slot (o : Ok S cls W k kn c X) {i : Nat} {a : Str} (h : visB c i a = true) : PE X (.Name a pos) (tVar i) := by
  obtain ⟨h1, h2, h3, h4⟩ := o.vis h
  exact pe_var h1 h2 h3 h4
theorem s_memD {ne : Bool} {i : Nat} {a : Str} {p2 : Pos} (o : Ok S cls W k kn c X) (hx : PE X l (dE S cls W X x)) (h : visB c i a = true) : PEC X (.Compare l [if ne then .NotIn else .In] [.Name a p2] pos) (dE S cls W X (.memD ne x i)) := by
  have hv := pe_slot (pos := p2) o h
  have fin : ∀ (σ : L2.St) (H : Hp) (Q : VK), dE S cls W X (.memD ne x i) σ H Q → dE S cls W X x σ H fun y H1 => tVar i σ H1 fun x H2 => ∃ a o, x = .ref a ∧ DGet H2 a y o ∧ Q (.bl (ne ^^ o.isSome)) H2 := by
    rintro σ H Q ⟨B, F, ρ, Qd, Ed, hR, h, hq, he⟩
    have h' : wE S x ρ (fun a => ∃ z kvs, a = .int z ∧ ρ[i]? = some (.dic kvs) ∧ Qd (.bool (ne ^^ (kvs.lookup z).isSome))) Ed := h
    refine ⟨B, F, ρ, _, Ed, hR, h', fun v F1 H1 b x1 r1 g => ?_, he⟩
    obtain ⟨z, kvs, rfl, e, g⟩ := g
    cases dq_int r1
    obtain ⟨p, ks, e1, hh, hf, hb, dk⟩ := (hR.ext x1).at_ i _ e
    refine ⟨.ref p, e1, p, _, rfl, DGet.k (k := Sum.inl z) hh, ?_⟩
    rcases dqk_lookup dk z with ⟨h1, h2⟩ | ⟨v, d, h1, h2, h3⟩
    · rw [h1]
      rw [h2] at g
      exact hq _ F1 H1 _ x1 (.bl _) g
    · rw [h1]
      rw [h2] at g
      exact hq _ F1 H1 _ x1 (.bl _) g
  cases ne with
  | false =>
    refine PEC.weak ⟨pe_cmp (pc_din o.hu hx hv) rfl, pt_cmp (pc_din o.hu hx hv) rfl⟩ fun σ H Q hh => ?_
    have q := fin σ H Q hh
    simp only [Bool.false_xor] at q
    exact q
  | true =>
    refine PEC.weak ⟨pe_cmp (pc_dnotin o.hu hx hv) rfl, pt_cmp (pc_dnotin o.hu hx hv) rfl⟩ fun σ H Q hh => ?_
    have q := fin σ H Q hh
    simp only [Bool.true_xor] at q
    exact q
theorem s_getD {i : Nat} {a : Str} {p2 : Pos} (o : Ok S cls W k kn c X) (ns : noSlice l = true) (h : visB c i a = true) (hx : PE X l (dE S cls W X x)) : PE X (.Subscript (.Name a p2) l pos) (dE S cls W X (.getD i x)) := by
  refine pe_weak (pe_dget o.hu (pe_slot o h) hx (noSl ns)) fun σ H Q hh => ?_
  obtain ⟨B, F, ρ, Qd, Ed, hR, h, hq, he⟩ := hh
  obtain ⟨kvs, e, h'⟩ : ∃ kvs, ρ[i]? = some (.dic kvs) ∧ wE S x ρ (fun a => ∃ z d, a = .int z ∧ kvs.lookup z = some d ∧ Qd d) Ed := h
  obtain ⟨p, ks, e1, _⟩ := hR.at_ i _ e
  refine ⟨.ref p, e1, B, F, ρ, _, Ed, hR, h', fun v F1 H1 b x1 r1 g => ?_, he⟩
  obtain ⟨z, d, rfl, hl, g⟩ := g
  cases dq_int r1
  obtain ⟨p', ks', e1', hh, hf, hb, dk⟩ := (hR.ext x1).at_ i _ e
  rw [e1] at e1'
  cases e1'
  rcases dqk_lookup dk z with ⟨h1, h2⟩ | ⟨v, d', h1, h2, h3⟩
  · rw [hl] at h2
    cases h2
  · rw [hl] at h2
    cases h2
    refine ⟨p, v, rfl, ?_, hq _ F1 H1 _ x1 h3 g⟩
    rw [← h1]
    exact DGet.k (k := Sum.inl z) hh

/-! arguments -/
theorem s_nil : PA X [] (dA S cls W X 0 .nil) := ⟨fun pos pins s σ H Q I hh => pa_nil.run pos pins s σ H Q I (by
  obtain ⟨B, F, ρ, Qd, Ed, hR, h, hq, he⟩ := hh
  exact hq _ F H _ (Ext.refl hR.fh) .nil rfl h)⟩
theorem pa_weak {es : List Expr} {t t' : TA} (h : PA X es t) (w : ∀ σ H Q, t' σ H Q → t σ H Q) : PA X es t' := ⟨fun pos pins s σ H Q I q => h.run pos pins s σ H Q I (w σ H Q q)⟩
theorem s_cons {es : List Expr} {ps : PXs} {n : Nat} (ns : noStar l = true) (hx : PE X l (dE S cls W X x)) (hs : PA X es (dA S cls W X n ps)) : PA X (l :: es) (dA S cls W X (n + 1) (.cons x ps)) := by
  refine pa_weak (pa_cons hx hs (star1 ns _ _)) fun σ H Q hh => ?_
  obtain ⟨B, F, ρ, Qd, Ed, hR, h, hq, he⟩ := hh
  have h' : wE S x ρ (fun a => wEs S ps ρ (fun ds => Qd (a :: ds)) Ed) Ed := h
  refine ⟨B, F, ρ, _, Ed, hR, h', fun v F1 H1 b x1 r1 g => ?_, he⟩
  exact ⟨B, F1, ρ, _, Ed, hR.ext x1, g, fun vs F2 H2 ds x2 r2 hn g2 => hq _ F2 H2 _ (x1.trans x2) (.cons (Dq.mono x2.f _ _ r1) r2) (by rw [List.length_cons, hn]) g2, he.mono x1.h⟩
/-! calls -/
theorem s_call {f : String} {ps : PXs} {es : List Expr} {p2 : Pos} (o : Ok S cls W k kn c X) (g : gloB c (Str.ofString f) = true) (hf : kn.fs.contains f = true) (n1 : noStar l = true) (n2 : es.all noStar = true)
    {n : Nat} (ha : PA X (l :: es) (dA S cls W X n ps)) : PE X (.Call (.Name (Str.ofString f) p2) (l :: es) [] pos) (dE S cls W X (.call f ps)) := by
  obtain ⟨fa, fd, prs, hm, hk, hb, F⟩ := o.fns f hf
  obtain ⟨g1, g2⟩ := o.glo g
  refine pe_weak (pe_callS (E := WE W) F o.room g1 hm hk hb o.pa ha g2 (star1 n1 _ _) (stars _ _ n2)) fun σ H Q hh => ?_
  obtain ⟨B, F, ρ, Qd, Ed, hR, h, hq, he⟩ := hh
  have h' : wEs S ps ρ (fun ds => S f ds Qd Ed) Ed := h
  refine ⟨B, F, ρ, _, Ed, hR, h', fun vs F1 H1 ds x1 r1 _ g => ?_, he⟩
  exact ⟨F1, ds, Qd, Ed, x1.fh, r1, g, fun v F2 H2 d x2 r2 g2 => hq v F2 H2 d (x1.trans x2) r2 g2, fun c a H' hc sm ec => he c a H' hc (x1.h.trans sm) ec⟩

/-! displays -/
theorem s_tup {ps : PXs} {es : List Expr} {u} {n : Nat} (hl : n ≤ 1000) (ha : PA X es (dA S cls W X n ps)) : PE X (.Tuple es u pos) (dE S cls W X (.tup ps)) := by
  refine pe_weak (pe_tupP ha) fun σ H Q hh => ?_
  obtain ⟨B, F, ρ, Qd, Ed, hR, h, hq, he⟩ := hh
  have h' : wEs S ps ρ (fun ds => Qd (.tuple ds)) Ed := h
  refine ⟨B, F, ρ, _, Ed, hR, h', fun vs F1 H1 ds x1 r1 hn g => ⟨?_, newT_den x1.fh r1 g fun z F' H' d x2 => hq z F' H' d (x1.trans x2)⟩, he⟩
  rw [hn]
  exact Nat.le_of_lt (small1000 hl)
theorem s_lst {ps : PXs} {es : List Expr} {n : Nat} (hl : n ≤ 1000) (ha : PA X es (dA S cls W X n ps)) : PE X (.List es pos) (dF S cls W X (.lst ps)) := by
  refine pe_weak (pe_lst ha) fun σ H Q hh => ?_
  obtain ⟨B, F, ρ, Qd, Ed, hR, h, hq, he⟩ := hh
  have h' : wEs S ps ρ Qd Ed := h
  refine ⟨B, F, ρ, _, Ed, hR, h', fun vs F1 H1 ds x1 r1 hn g => ⟨?_, fun p hp => ?_⟩, he⟩
  · rw [hn]
    exact Nat.le_of_lt (small1000 hl)
  · exact hq _ F1 _ ds (x1.trans (Ext.hid x1.fh hp)) ⟨p, rfl, x1.h.free hp, _, upd_same, x1.fh.free hp, r1⟩ g
/-- a new list is told -/
theorem s_fr {f : PF} (h : PE X l (dF S cls W X f)) : PE X l (dE S cls W X (.fr f)) := by
  refine pe_weak h fun σ H Q hh => ?_
  obtain ⟨B, F, ρ, Qd, Ed, hR, h, hq, he⟩ := hh
  have h' : wF S f ρ (fun ds => Qd (.list ds)) Ed := h
  refine ⟨B, F, ρ, _, Ed, hR, h', fun v F1 H1 ds x1 r1 g => ?_, he⟩
  obtain ⟨a, rfl, h0, xs, hh, hf, q⟩ := r1
  have s1 : Same F1 (upd F1 a (.lst xs)) := same_upd hf
  refine hq _ (upd F1 a (.lst xs)) H1 _ ⟨x1.f.trans s1, x1.h, fun b o hb => ?_, fun b h1 h2 => ?_⟩ (.lst (.inl (.inl upd_same)) (DqAll.mono s1 _ _ q)) g
  · by_cases hba : b = a
    · subst hba
      rw [upd_same] at hb
      rw [← hb]
      exact hh
    · rw [upd_ne hba] at hb
      exact x1.fh _ _ hb
  · have hba : b ≠ a := fun e => h1 (e ▸ h0)
    rw [upd_ne hba]
    exact x1.o b h1 h2
/-! borrowed things -/
theorem s_bx (h : PE X l (dE S cls W X x)) : PE X l (dB S cls W X (.x x)) := by
  refine pe_weak h fun σ H Q hh => ?_
  obtain ⟨B, F, ρ, Qd, Ed, hR, h, hq, he⟩ := hh
  exact ⟨B, F, ρ, Qd, Ed, hR, h, fun v F1 H1 d x1 r1 g => hq v F1 H1 d x1 (.inl r1) g, he⟩
theorem s_bl {p : PL} (h : PE X l (dL S cls W X p)) : PE X l (dB S cls W X (.l p)) := by
  refine pe_weak h fun σ H Q hh => ?_
  obtain ⟨B, F, ρ, Qd, Ed, hR, h, hq, he⟩ := hh
  have h' : wL S p ρ (fun ds => Qd (.list ds)) Ed := h
  refine ⟨B, F, ρ, _, Ed, hR, h', fun v F1 H1 d x1 r1 g => ?_, he⟩
  obtain ⟨a, e, q⟩ := r1
  exact hq v F1 H1 _ x1 (.inr ⟨a, d, e, rfl, q⟩) g
theorem s_lb (o : Ok S cls W k kn c X) {i : Nat} {a : Str} (h : visB c i a = true) : PE X (.Name a pos) (dL S cls W X (.b i)) := by
  refine pe_weak (pe_slot o h) fun σ H Q hh => ?_
  obtain ⟨B, F, ρ, Qd, Ed, hR, h, hq, he⟩ := hh
  obtain ⟨ds, e, g⟩ := h
  obtain ⟨p, xs, e1, hh, hf, hb, q⟩ := hR.at_ i _ e
  exact ⟨.ref p, e1, hq _ F H _ (Ext.refl hR.fh) ⟨p, rfl, xs, hh, hf, q⟩ g⟩
theorem s_lf {f : PF} (h : PE X l (dF S cls W X f)) : PE X l (dL S cls W X (.f f)) := by
  refine pe_weak h fun σ H Q hh => ?_
  obtain ⟨B, F, ρ, Qd, Ed, hR, h, hq, he⟩ := hh
  exact ⟨B, F, ρ, Qd, Ed, hR, h, fun v F1 H1 d x1 r1 g => hq v F1 H1 d x1 (by
    obtain ⟨a, e, _, q⟩ := r1
    exact ⟨a, e, q⟩) g, he⟩
/-! an item, a part -/
theorem s_ix {x : PB} (o : Ok S cls W k kn c X) (ns : noSlice r = true) (hx : PE X l (dB S cls W X x)) (hy : PE X r (dE S cls W X y)) : PE X (.Subscript l r pos) (dE S cls W X (.ix x y)) := by
  refine pe_weak (pe_ix ix_seq hx hy (plainIx ns)) (den_bin (G := ixW) (fun _ _ _ h => h) fun v u a b F H₀ H₁ H Q Qd s r1 r2 g q => ?_)
  cases a with
  | list ds =>
    cases b with
    | int j =>
      cases dq_int r2
      obtain ⟨d, e, g⟩ := g
      obtain ⟨p, xs, rfl, hl, dq⟩ := rb_list s r1
      obtain ⟨v, e1, d1⟩ := at_den dq e
      exact .inl ⟨p, xs, j, v, rfl, rfl, hl, e1, q _ F H _ (Ext.refl s) d1 g⟩
    | _ => exact g.elim
  | tuple ds =>
    cases b with
    | int j =>
      cases dq_int r2
      obtain ⟨d, e, g⟩ := g
      obtain ⟨p, xs, rfl, hl, dq⟩ := rb_tup s r1
      obtain ⟨v, e1, d1⟩ := at_den dq e
      exact .inr (.inl ⟨p, xs, j, v, rfl, rfl, (hl.mono s).sq, e1, q _ F H _ (Ext.refl s) d1 g⟩)
    | _ => exact g.elim
  | str z =>
    cases b with
    | int j =>
      cases dq_int r2
      cases dq_str (rb_flat r1 rfl)
      obtain ⟨g0, d, e, g⟩ := g
      exact .inr (.inr ⟨z, j, d, rfl, rfl, g0, e, q _ F H _ (Ext.refl s) (.str _) g⟩)
    | _ => exact g.elim
  | _ => exact g.elim
theorem s_no : PO X none (dO S cls W X .no) := ⟨fun pins s σ H Q I hh => po_none.run pins s σ H Q I (by
  obtain ⟨B, F, ρ, Qd, Ed, hR, h, hq, he⟩ := hh
  exact hq _ F H (Ext.refl hR.fh) h)⟩
theorem s_so (hx : PE X l (dE S cls W X x)) : PO X (some l) (dO S cls W X (.so x)) := ⟨fun pins s σ H Q I hh => (po_some hx).run pins s σ H Q I (by
  obtain ⟨B, F, ρ, Qd, Ed, hR, h, hq, he⟩ := hh
  have h' : wE S x ρ (fun a => ∃ z, a = .int z ∧ Qd (some z)) Ed := h
  refine ⟨B, F, ρ, _, Ed, hR, h', fun v F1 H1 d x1 r1 g => ?_, he⟩
  obtain ⟨z, rfl, g⟩ := g
  cases dq_int r1
  exact ⟨z, rfl, hq _ F1 H1 x1 g⟩)⟩
theorem cut_den {F : Hp} {xs : List V} {ds : List D} (q : DqAll X.K F xs ds) (lo hi : Option Int) : DqAll X.K F (cutV xs lo hi) (cutD ds lo hi) := by
  unfold cutV cutD
  rw [q.length]
  exact (q.drop _).take _
theorem s_sl {lo hi : POp} {l1 l2 : Option Expr} {p2 : Pos} (o : Ok S cls W k kn c X) (hx : PE X l (dE S cls W X x)) (h1 : PO X l1 (dO S cls W X lo)) (h2 : PO X l2 (dO S cls W X hi)) : PE X (.Subscript l (.Slice l1 l2 none p2) pos) (dE S cls W X (.sl x lo hi)) := by
  refine pe_weak (pe_slice (sl_tupP.or sl_str) hx h1 h2) fun σ H Q hh => ?_
  obtain ⟨B, F, ρ, Qd, Ed, hR, h, hq, he⟩ := hh
  have h' : wE S x ρ (fun a => wO S lo ρ (fun l => wO S hi ρ (fun h => slW a l h Qd) Ed) Ed) Ed := h
  refine ⟨B, F, ρ, _, Ed, hR, h', fun v F1 H1 a x1 r1 g => ?_, he⟩
  refine ⟨B, F1, ρ, _, Ed, hR.ext x1, g, fun i F2 H2 x2 g => ?_, he.mono x1.h⟩
  refine ⟨B, F2, ρ, _, Ed, hR.ext (x1.trans x2), g, fun j F3 H3 x3 g => ?_, he.mono (x1.trans x2).h⟩
  have x13 := (x1.trans x2).trans x3
  have r3 : Dq X.K F3 v a := Dq.mono (x2.trans x3).f _ _ r1
  cases a with
  | tuple ds =>
    obtain ⟨p, xs, rfl, ht, dq⟩ := dq_tup r3
    refine .inl ⟨p, xs, rfl, (ht.mono x13.fh).sq, fun w => ?_, fun _ => newT_den x13.fh (cut_den dq i j) g fun z F' H' d x4 => hq z F' H' d (x13.trans x4)⟩
    have e : cutD ds i j = ds := by
      unfold Whole at w
      unfold cutD
      rw [dq.length] at w
      rw [w.1, w.2]
      simp
    have g' : Qd (.tuple (cutD ds i j)) := g
    rw [e] at g'
    exact hq _ F3 H3 _ x13 r3 g'
  | str z =>
    cases dq_str r3
    exact .inr ⟨z, rfl, g.1, hq _ F3 H3 _ x13 (.str _) g.2⟩
  | _ => exact g.elim
end
end Pu

/-! soundness, expressions: built-ins, lists, tests -/
namespace Pu
open PySem PySem.Spec L2

theorem nname (n : String) (h : decide (Str.ofString n = Str.ofString "__name__") = false := by decide +kernel) : Str.ofString n ≠ ("__name__" : Str) := of_decide_eq_false h
section
variable {S : Spc} {cls : String → Option Addr} {W : WX} {k : Nat} {kn : Kn} {c : CC} {X : Cx} {l r m : Expr} {pos p2 : Pos} {x y z : PX} {n : Str}
theorem arg1 {l : Expr} {t : TE} (ns : noStar l = true) (h : PE X l t) : PA X [l] (tCons t tNil) := pa_cons h pa_nil (star1 ns _ _)
theorem s_blt {id : String} {rr : List V → Hp → VK → Prop} {t : TE} (hc : CallR X (.builtin id) rr) (f : Bi) (o : Ok S cls W k kn c X) (hb : bltB c kn n (biN f) = true) (hv : bootBuiltins (Str.ofString (biN f)) = some (.builtin id)) (hn : decide (Str.ofString (biN f) = Str.ofString "__name__") = false)
    (ns : noStar l = true) (h : PE X l t) : PE X (.Call (.Name n p2) [l] [] pos) (fun σ H Q => t σ H fun v H1 => rr [v] H1 Q) := by
  obtain ⟨e, g, g2, m⟩ := o.bltn hb
  subst e
  exact pe_callB hc g m hv (arg1 ns h) (nname _ hn) g2 (star1 ns _ _) rfl
theorem s_bltT {T : String} {rr : List V → Hp → VK → Prop} {t : TE} (hc : CallR X (.type T) rr) (nm : String) (o : Ok S cls W k kn c X) (hb : bltB c kn n nm = true) (hv : bootBuiltins (Str.ofString nm) = some (.type T)) (hn : decide (Str.ofString nm = Str.ofString "__name__") = false)
    (ns : noStar l = true) (h : PE X l t) : PE X (.Call (.Name n p2) [l] [] pos) (fun σ H Q => t σ H fun v H1 => rr [v] H1 Q) := by
  obtain ⟨e, g, g2, m⟩ := o.bltn hb
  subst e
  exact pe_callTy hc g m hv (arg1 ns h) (nname _ hn) g2 (star1 ns _ _) rfl
theorem s_bi {f : Bi} {x : PB} (o : Ok S cls W k kn c X) (h0 : 1 ≤ k) (hb : bltB c kn n (biN f) = true) (ns : noStar l = true) (hx : PE X l (dB S cls W X x)) : PE X (.Call (.Name n p2) [l] [] pos) (dE S cls W X (.bi f x)) := by
  cases f with
  | len =>
    refine pe_weak (s_blt call_len .len o hb (by decide +kernel) (by decide +kernel) ns hx) (den_un (G := biW .len) (r := fun v H Q => ∃ x n, [v] = [x] ∧ LenV X.K x H n ∧ Q (.int n) H) (fun _ _ _ h => h) fun v a F H₀ H Q Qd s r1 g q => ?_)
    rcases g with ⟨ds, e, g⟩ | ⟨z, rfl, g0, g⟩
    · obtain ⟨p, xs, rfl, dq, hs⟩ := rb_seq s r1 e
      refine ⟨_, ds.length, rfl, ?_, q _ F H _ (Ext.refl s) (.int _) g⟩
      rcases hs with ⟨_, hs⟩ | ⟨_, hs⟩
      · exact .inl ⟨xs, hs, dq.length.symm⟩
      · exact .inr ⟨xs, hs.sq, dq.length.symm⟩
    · cases dq_str (rb_flat r1 rfl)
      exact ⟨_, z.length, rfl, ⟨g0, rfl⟩, q _ F H _ (Ext.refl s) (.int _) g⟩
  | tup =>
    refine pe_weak (s_bltT call_tupleP (biN .tup) o hb (by decide +kernel) (by decide +kernel) ns hx) (den_un (G := biW .tup) (r := fun v H Q => rTupOf X.K [v] H Q) (fun _ _ _ h => h) fun v a F H₀ H Q Qd s r1 g q => ?_)
    obtain ⟨ds, e, g⟩ := g
    obtain ⟨p, xs, rfl, dq, hs⟩ := rb_seq s r1 e
    rcases hs with ⟨e2, hs⟩ | ⟨e2, hs⟩
    · exact ⟨p, xs, rfl, .inl ⟨hs, newT_den s dq g q⟩⟩
    · subst e2
      have r2 : Dq X.K F (.ref p) (.tuple ds) := by
        rcases r1 with r1 | ⟨_, _, _, e3, _⟩
        · exact r1
        · cases e3
      exact ⟨p, xs, rfl, .inr ⟨hs.sq, q _ F H _ (Ext.refl s) r2 g⟩⟩
  | all =>
    refine pe_weak (s_blt (cr_all o.calm) .all o hb (by decide +kernel) (by decide +kernel) ns hx) (den_un (G := biW .all) (r := fun v H Q => rAll X.K [v] H Q) (fun _ _ _ h => h) fun v a F H₀ H Q Qd s r1 g q => ?_)
    obtain ⟨bs, rfl, g⟩ := g
    obtain ⟨p, xs, rfl, hs, dq⟩ := rb_list s r1
    cases dq.bls
    exact ⟨p, bs, rfl, hs, q _ F H _ (Ext.refl s) (.bl _) g⟩
  | any =>
    refine pe_weak (s_blt (cr_any o.calm) .any o hb (by decide +kernel) (by decide +kernel) ns hx) (den_un (G := biW .any) (r := fun v H Q => rAny X.K [v] H Q) (fun _ _ _ h => h) fun v a F H₀ H Q Qd s r1 g q => ?_)
    obtain ⟨bs, rfl, g⟩ := g
    obtain ⟨p, xs, rfl, hs, dq⟩ := rb_list s r1
    cases dq.bls
    exact ⟨p, bs, rfl, hs, q _ F H _ (Ext.refl s) (.bl _) g⟩
  | max =>
    refine pe_weak (s_blt (cr_max o.calm) .max o hb (by decide +kernel) (by decide +kernel) ns hx) (den_un (G := biW .max) (r := fun v H Q => rMax X.K [v] H Q) (fun _ _ _ h => h) fun v a F H₀ H Q Qd s r1 g q => ?_)
    obtain ⟨bs, rfl, g0, g⟩ := g
    obtain ⟨p, xs, rfl, hs, dq⟩ := rb_list s r1
    cases dq.ints
    exact ⟨p, bs, rfl, hs, g0, fun m h1 h2 => q _ F H _ (Ext.refl s) (.int _) (g m h1 h2)⟩
  | min =>
    refine pe_weak (s_blt (cr_min o.calm) .min o hb (by decide +kernel) (by decide +kernel) ns hx) (den_un (G := biW .min) (r := fun v H Q => rMin X.K [v] H Q) (fun _ _ _ h => h) fun v a F H₀ H Q Qd s r1 g q => ?_)
    obtain ⟨bs, rfl, g0, g⟩ := g
    obtain ⟨p, xs, rfl, hs, dq⟩ := rb_list s r1
    cases dq.ints
    exact ⟨p, bs, rfl, hs, g0, fun m h1 h2 => q _ F H _ (Ext.refl s) (.int _) (g m h1 h2)⟩
  | sum =>
    refine pe_weak (s_blt (cr_sum o.calm) .sum o hb (by decide +kernel) (by decide +kernel) ns hx) (den_un (G := biW .sum) (r := fun v H Q => rSum X.K [v] H Q) (fun _ _ _ h => h) fun v a F H₀ H Q Qd s r1 g q => ?_)
    obtain ⟨bs, rfl, g⟩ := g
    obtain ⟨p, xs, rfl, hs, dq⟩ := rb_list s r1
    cases dq.ints
    exact ⟨p, bs, rfl, hs, q _ F H _ (Ext.refl s) (.int _) g⟩
  | abs =>
    refine pe_weak (s_blt call_abs .abs o hb (by decide +kernel) (by decide +kernel) ns hx) (den_un (G := biW .abs) (r := fun v H Q => ∃ i, [v] = [V.int i] ∧ Q (.int (if i < 0 then -i else i)) H) (fun _ _ _ h => h) fun v a F H₀ H Q Qd s r1 g q => ?_)
    obtain ⟨i, rfl, g⟩ := g
    cases dq_int (rb_flat r1 rfl)
    exact ⟨i, rfl, q _ F H _ (Ext.refl s) (.int _) g⟩
  | int =>
    refine pe_weak (s_bltT call_int1 (biN .int) o hb (by decide +kernel) (by decide +kernel) ns hx) (den_un (G := biW .int) (r := fun v H Q => (∃ i, [v] = [V.int i] ∧ Q (.int i) H) ∨ ∃ k, [v] = [V.bl k] ∧ Q (.int (if k then 1 else 0)) H) (fun _ _ _ h => h) fun v a F H₀ H Q Qd s r1 g q => ?_)
    rcases g with ⟨i, rfl, g⟩ | ⟨i, rfl, g⟩
    · cases dq_int (rb_flat r1 rfl)
      exact .inl ⟨i, rfl, q _ F H _ (Ext.refl s) (.int _) g⟩
    · cases dq_bool (rb_flat r1 rfl)
      exact .inr ⟨i, rfl, q _ F H _ (Ext.refl s) (.int _) g⟩
  | str =>
    refine pe_weak (s_bltT call_str_int (biN .str) o hb (by decide +kernel) (by decide +kernel) ns hx) (den_un (G := biW .str) (r := fun v H Q => ∃ i, [v] = [V.int i] ∧ i.natAbs.log2 < 1920 ∧ Q (.str (toString i : String)) H) (fun _ _ _ h => h) fun v a F H₀ H Q Qd s r1 g q => ?_)
    obtain ⟨i, rfl, g0, g⟩ := g
    cases dq_int (rb_flat r1 rfl)
    exact ⟨i, rfl, g0, q _ F H _ (Ext.refl s) (.str _) g⟩
  | maxT =>
    refine pe_weak (s_blt (cr_maxD o.calm (o.hu65 h0)) .maxT o hb (by decide +kernel) (by decide +kernel) ns hx) (den_un (G := biW .maxT) (r := fun v H Q => rMaxD X.K [v] H Q) (fun _ _ _ h => h) fun v a F H₀ H Q Qd s r1 g q => ?_)
    obtain ⟨d, ds, rfl, g1, g2, g3, g⟩ := g
    obtain ⟨p, xs, rfl, hs, dq⟩ := rb_list s r1
    refine ⟨p, xs, d, ds, rfl, hs, DqAll.dp _ _ (DqAll.mono s _ _ dq), g1, g2, g3, fun i v e1 e2 => ?_⟩
    obtain ⟨d', e3, dv⟩ := dq.get e1
    rw [e2] at e3
    cases e3
    exact q _ F H _ (Ext.refl s) dv g

/-! isinstance -/
def kN : D → String
  | .none => "NoneType" | .bool _ => "bool" | .int _ => "int" | .str _ => "str" | .list _ => "list" | .tuple _ => "tuple" | .dict _ => "dict"
theorem kit_n (t : Ty) : kitB "NoneType" (tyN t) = some false := by cases t <;> decide +kernel
theorem kit_b (t : Ty) : kitB "bool" (tyN t) = some (isTy t (.bool true)) := by cases t <;> decide +kernel
theorem kit_i (t : Ty) : kitB "int" (tyN t) = some (isTy t (.int 0)) := by cases t <;> decide +kernel
theorem kit_s (t : Ty) : kitB "str" (tyN t) = some (isTy t (.str ⟨#[]⟩)) := by cases t <;> decide +kernel
theorem kit_l (t : Ty) : kitB "list" (tyN t) = some (isTy t (.list [])) := by cases t <;> decide +kernel
theorem kit_t (t : Ty) : kitB "tuple" (tyN t) = some (isTy t (.tuple [])) := by cases t <;> decide +kernel
theorem kit_all (t : Ty) (a : D) (h : noDict a = true) : kitB (kN a) (tyN t) = some (isTy t a) := by
  cases a with
  | none => rw [show kN .none = "NoneType" from rfl, kit_n]; cases t <;> rfl
  | bool b => rw [show kN (.bool b) = "bool" from rfl, kit_b]; cases t <;> rfl
  | int b => rw [show kN (.int b) = "int" from rfl, kit_i]; cases t <;> rfl
  | str b => rw [show kN (.str b) = "str" from rfl, kit_s]; cases t <;> rfl
  | list b => rw [show kN (.list b) = "list" from rfl, kit_l]; cases t <;> rfl
  | tuple b => rw [show kN (.tuple b) = "tuple" from rfl, kit_t]; cases t <;> rfl
  | dict b => cases h
theorem ty_den {K : PySem.W.Frag} {F H : Hp} {v : V} {a : D} (s : Same F H) (h : Dq K F v a) : noDict a = true ∧ TyX K H v (.type (kN a)) := by
  cases h with
  | non => exact ⟨rfl, .base .non⟩
  | bl b => exact ⟨rfl, .base (.bl b)⟩
  | int i => exact ⟨rfl, .base (.int i)⟩
  | str i => exact ⟨rfl, .base (.str i)⟩
  | lst h1 h2 =>
    refine ⟨rfl, ?_⟩
    rcases s.seq h1 with (h1 | ⟨o, h1⟩) | ⟨o, its, n, h1, h3, _⟩
    · exact .base (.lst h1)
    · exact .base (.frz h1)
    · exact .kList h1 h3
  | tup h1 h2 =>
    obtain ⟨o, h1, _⟩ := h1.mono s
    exact ⟨rfl, .fTuple h1⟩
theorem s_isi {t : Ty} {n' : Str} {p3 : Pos} (o : Ok S cls W k kn c X) (hb : bltB c kn n "isinstance" = true) (hb2 : bltB c kn n' (tyN t) = true) (ns : noStar l = true) (hx : PE X l (dE S cls W X x)) : PE X (.Call (.Name n p2) [l, .Name n' p3] [] pos) (dE S cls W X (.isi t x)) := by
  obtain ⟨e, g, g2, m⟩ := o.bltn hb
  obtain ⟨e', g', g2', m'⟩ := o.bltn hb2
  subst e e'
  have hv : bootBuiltins (Str.ofString (tyN t)) = some (.type (tyN t)) := by cases t <;> decide +kernel
  have hn : decide (Str.ofString (tyN t) = Str.ofString "__name__") = false := by cases t <;> decide +kernel
  have ht : PE X (.Name (Str.ofString (tyN t)) p3) (tC (.ty (tyN t))) := pe_bltn g' m' hv rfl (nname _ hn) g2'
  refine pe_weak (pe_callB call_isi g m (by decide +kernel) (pa_cons hx (pa_cons ht pa_nil (star1 rfl _ _)) (star1 ns _ _)) (nname _) g2 (star1 ns _ _) rfl) (den_un (G := fun (a : D) (Q : D → Prop) => Q (.bool (isTy t a))) (r := fun v H Q => rIsi X.K [v, .ty (tyN t)] H Q) (fun _ _ _ h => h) fun v a F H₀ H Q Qd s r1 g q => ?_)
  obtain ⟨h1, h2⟩ := ty_den s r1
  exact ⟨v, .ty (tyN t), _, .type (tyN t), isTy t a, rfl, .ty _, h2, kit_ty (kit_all t a h1), q _ F H _ (Ext.refl s) (.bl _) g⟩

/-! index, join -/
theorem s_idx {x : PB} {p3 ap : Pos} (o : Ok S cls W k kn c X) (h0 : 1 ≤ k) (nsu : noSuper l = true) (hl : (ap.endLine == pos.line) = true) (ns : noStar r = true) (hx : PE X l (dB S cls W X x)) (hy : PE X r (dE S cls W X y)) :
    PE X (.Call (.Attribute l (Str.ofString "index") ap) [r] [] pos) (dE S cls W X (.idx x y)) := by
  refine pe_weak (pe_idx (o.hu65 h0) hx hy (noSup nsu _ _ _) hl (by rw [star1 ns]; rfl)) fun σ H Q hh => ?_
  obtain ⟨B, F, ρ, Qd, Ed, hR, h, hq, he⟩ := hh
  have h' : wB S x ρ (fun a => ∃ ds, seqD a = some ds ∧ wE S y ρ (fun c => idxW a ds c Qd) Ed) Ed := h
  refine ⟨B, F, ρ, _, Ed, hR, h', fun v F1 H1 a x1 r1 g => ?_, he⟩
  obtain ⟨ds, e, g⟩ := g
  obtain ⟨p, xs, rfl, dq, hs⟩ := rb_seq x1.fh r1 e
  rcases hs with ⟨e2, hs⟩ | ⟨e2, hs⟩
  · subst e2
    refine .inl ⟨p, xs, rfl, hs, B, F1, ρ, _, Ed, hR.ext x1, g, fun u F2 H2 b x2 r2 g2 => ?_, he.mono x1.h⟩
    obtain ⟨j, z, g1, g2, g3, g4, g5, g6⟩ := g2
    have dp : Dp X.K H2 (.ref p) (.list ds) := .lst (x2.h.seq hs) (DqAll.dp _ _ (DqAll.mono (x2.f.trans x2.fh) _ _ dq))
    exact ⟨p, u, b, ds, j, z, rfl, rfl, dp, Dq.dp _ _ (Dq.mono x2.fh _ _ r2), g1, g2, g3, g4, g5, hq _ F2 H2 _ (x1.trans x2) (.int _) g6⟩
  · subst e2
    refine .inr ⟨p, xs, rfl, hs, B, F1, ρ, _, Ed, hR.ext x1, g, fun u F2 H2 b x2 r2 g2 => ?_, he.mono x1.h⟩
    obtain ⟨j, z, g1, g2, g3, g4, g5, g6⟩ := g2
    have g1' : SeqAt.shaped (.list ds) = true := by
      unfold SeqAt.shaped at g1 ⊢
      simp only [PyData.canLay0, PyData.depth] at g1 ⊢
      exact g1
    exact ⟨p, u, b, xs, ds, j, z, rfl, rfl, hs.mono x2.h, DqAll.dp _ _ (DqAll.mono (x2.f.trans x2.fh) _ _ dq), Dq.dp _ _ (Dq.mono x2.fh _ _ r2), g1', g2, g3, g4, g5, hq _ F2 H2 _ (x1.trans x2) (.int _) g6⟩
theorem s_join {y : PB} {ap : Pos} (o : Ok S cls W k kn c X) (nsu : noSuper l = true) (hl : (ap.endLine == pos.line) = true) (ns : noStar r = true) (hx : PE X l (dE S cls W X x)) (hy : PE X r (dB S cls W X y)) :
    PE X (.Call (.Attribute l (Str.ofString "join") ap) [r] [] pos) (dE S cls W X (.join x y)) := by
  refine pe_weak (pe_join hx hy (by rw [star1 ns]; rfl) (noSup nsu _ _ _) hl) fun σ H Q hh => ?_
  obtain ⟨B, F, ρ, Qd, Ed, hR, h, hq, he⟩ := hh
  have h' : wE S x ρ (fun a => ∃ s, a = .str s ∧ wB S y ρ (fun c => joinW s c Qd) Ed) Ed := h
  refine ⟨B, F, ρ, _, Ed, hR, h', fun v F1 H1 a x1 r1 g => ?_, he⟩
  obtain ⟨s, rfl, g⟩ := g
  cases dq_str r1
  refine ⟨⟨s, rfl⟩, B, F1, ρ, _, Ed, hR.ext x1, g, fun u F2 H2 b x2 r2 g2 => ?_, he.mono x1.h⟩
  obtain ⟨ys, ds, e, rfl, g3, g4⟩ := g2
  obtain ⟨p, xs, rfl, dq, hs⟩ := rb_seq x2.fh r2 e
  cases dq.strs
  refine ⟨s, p, ys, rfl, rfl, ?_, g3, hq _ F2 H2 _ (x1.trans x2) (.str _) g4⟩
  rcases hs with ⟨_, hs⟩ | ⟨_, hs⟩
  · exact .inl hs
  · exact .inr hs.sq

/-! new lists -/
theorem newL_den {F H : Hp} {xs : List V} {ds : List D} {Q : VK} {Qd : List D → Prop} (s : Same F H) (q : DqAll X.K F xs ds) (g : Qd ds) (hq : ∀ z F' H' d, Ext F H F' H' → RF X.K H F' H' z d → Qd d → Q z H') : ∀ p, H p = none → Q (.ref p) (upd H p (.lst xs)) := fun p hp =>
  hq _ F _ ds (Ext.hid s hp) ⟨p, rfl, hp, xs, upd_same, s.free hp, q⟩ g
theorem s_cat {x y : PL} (o : Ok S cls W k kn c X) (hx : PE X l (dL S cls W X x)) (hy : PE X r (dL S cls W X y)) : PE X (.BinOp l .Add r pos) (dF S cls W X (.cat x y)) := by
  refine pe_weak (pe_op op_cat hx hy) (den_bin (R3 := RF X.K) (G := fun (a b : List D) (Q : List D → Prop) => a.length + b.length ≤ sizeLine ∧ Q (a ++ b)) (fun _ _ _ h => h) fun v u a b F H₀ H₁ H Q Qd s r1 r2 g q => ?_)
  obtain ⟨p, rfl, xs, hh, hf, d1⟩ := r1
  obtain ⟨p', rfl, ys, hh', hf', d2⟩ := r2
  exact ⟨p, p', xs, ys, rfl, rfl, hh, hh', by rw [d1.length, d2.length]; exact g.1, newL_den s (d1.append d2) g.2 q⟩
theorem s_rep {x : PL} (o : Ok S cls W k kn c X) (hx : PE X l (dL S cls W X x)) (hy : PE X r (dE S cls W X y)) : PE X (.BinOp l .Mult r pos) (dF S cls W X (.rep x y)) := by
  refine pe_weak (pe_op op_rep hx hy) (den_bin (R3 := RF X.K) (G := fun (a : List D) (b : D) (Q : List D → Prop) => ∃ k, b = .int k ∧ -(2 ^ 63) ≤ k ∧ k < 2 ^ 63 ∧ a.length * k.toNat ≤ sizeLine ∧ Q (List.replicate k.toNat a).flatten) (fun _ _ _ h => h) fun v u a b F H₀ H₁ H Q Qd s r1 r2 g q => ?_)
  obtain ⟨p, rfl, xs, hh, hf, d1⟩ := r1
  obtain ⟨k, rfl, g1, g2, g3, g4⟩ := g
  cases dq_int r2
  exact ⟨p, k, xs, rfl, rfl, hh, g1, g2, by rw [d1.length]; exact g3, newL_den s (d1.rep _) g4 q⟩
theorem s_slL {x : PB} {lo hi : POp} {l1 l2 : Option Expr} {p2 : Pos} (o : Ok S cls W k kn c X) (hx : PE X l (dB S cls W X x)) (h1 : PO X l1 (dO S cls W X lo)) (h2 : PO X l2 (dO S cls W X hi)) : PE X (.Subscript l (.Slice l1 l2 none p2) pos) (dF S cls W X (.sl x lo hi)) := by
  refine pe_weak (pe_slice sl_list hx h1 h2) fun σ H Q hh => ?_
  obtain ⟨B, F, ρ, Qd, Ed, hR, h, hq, he⟩ := hh
  have h' : wB S x ρ (fun a => wO S lo ρ (fun l => wO S hi ρ (fun h => ∃ ds, a = .list ds ∧ Qd (cutD ds l h)) Ed) Ed) Ed := h
  refine ⟨B, F, ρ, _, Ed, hR, h', fun v F1 H1 a x1 r1 g => ?_, he⟩
  refine ⟨B, F1, ρ, _, Ed, hR.ext x1, g, fun i F2 H2 x2 g2 => ?_, he.mono x1.h⟩
  refine ⟨B, F2, ρ, _, Ed, hR.ext (x1.trans x2), g2, fun j F3 H3 x3 g3 => ?_, he.mono (x1.trans x2).h⟩
  have x13 := (x1.trans x2).trans x3
  have r3 : RB X.K H F3 H3 v a := Stb.st (R := RB X.K) (x2.trans x3) r1
  obtain ⟨ds, e, g4⟩ := g3
  subst e
  obtain ⟨p, xs, rfl, hl, dq⟩ := rb_list x13.fh r3
  exact ⟨p, xs, rfl, hl, newL_den x13.fh (cut_den dq i j) g4 fun z F' H' d x4 r4 => hq z F' H' d (x13.trans x4) (Stb.dn (R := RF X.K) x13.h r4)⟩
theorem s_list {x : PB} (o : Ok S cls W k kn c X) (hb : bltB c kn n "list" = true) (ns : noStar l = true) (hx : PE X l (dB S cls W X x)) : PE X (.Call (.Name n p2) [l] [] pos) (dF S cls W X (.list x)) := by
  refine pe_weak (s_bltT call_list_of "list" o hb (by decide +kernel) (by decide +kernel) ns hx) (den_un (R3 := RF X.K) (G := fun (a : D) (Q : List D → Prop) => ∃ ds, seqD a = some ds ∧ Q ds) (r := fun v H Q => ∃ p ys, [v] = [V.ref p] ∧ (SqL X.K H p ys ∨ SqT X.K H p ys) ∧ ∀ l, H l = none → Q (.ref l) (upd H l (.lst ys))) (fun _ _ _ h => h) fun v a F H₀ H Q Qd s r1 g q => ?_)
  obtain ⟨ds, e, g⟩ := g
  obtain ⟨p, xs, rfl, dq, hs⟩ := rb_seq s r1 e
  refine ⟨p, xs, rfl, ?_, newL_den s dq g q⟩
  rcases hs with ⟨_, hs⟩ | ⟨_, hs⟩
  · exact .inl hs
  · exact .inr hs.sq
theorem s_sorted {x : PB} (o : Ok S cls W k kn c X) (hb : bltB c kn n "sorted" = true) (ns : noStar l = true) (hx : PE X l (dB S cls W X x)) : PE X (.Call (.Name n p2) [l] [] pos) (dF S cls W X (.sorted x)) := by
  obtain ⟨e, g, g2, m⟩ := o.bltn hb
  subst e
  refine pe_weak (pe_callB cr_sorted g m (by decide +kernel) (arg1 ns hx) (nname _) g2 (star1 ns _ _) rfl) (den_un (R3 := RF X.K) (G := fun (a : D) (Q : List D → Prop) => ∃ ns : List Int, a = .list (ns.map .int) ∧ ns.length < 64 ∧ ∀ ms : List Int, ms.Perm ns → ms.Pairwise (· ≤ ·) → Q (ms.map .int)) (r := fun v H Q => rSorted X.K [v] H Q) (fun _ _ _ h => h) fun v a F H₀ H Q Qd s r1 g q => ?_)
  obtain ⟨ns, rfl, g0, g⟩ := g
  obtain ⟨p, xs, rfl, hs, dq⟩ := rb_list s r1
  cases dq.ints
  exact ⟨p, ns, rfl, hs, g0, fun ms p' h1 h2 hp => newL_den s (DqAll.of_ints ms) (g ms h1 h2) q p' hp⟩
theorem s_split {ap : Pos} (o : Ok S cls W k kn c X) (nsu : noSuper l = true) (hl : (ap.endLine == pos.line) = true) (ns : noStar r = true) (hx : PE X l (dE S cls W X x)) (hy : PE X r (dE S cls W X y)) :
    PE X (.Call (.Attribute l (Str.ofString "split") ap) [r] [] pos) (dF S cls W X (.split x y)) := by
  refine pe_weak (pe_split hx hy (by rw [star1 ns]; rfl) (noSup nsu _ _ _) hl) fun σ H Q hh => ?_
  obtain ⟨B, F, ρ, Qd, Ed, hR, h, hq, he⟩ := hh
  have h' : wE S x ρ (fun a => ∃ z, a = .str z ∧ wE S y ρ (fun c => ∃ w, c = .str w ∧ (w.length == 0) = false ∧ z.length + 2 ≤ sizeLine ∧ Qd ((Txt.split z w).map .str)) Ed) Ed := h
  refine ⟨B, F, ρ, _, Ed, hR, h', fun v F1 H1 a x1 r1 g => ?_, he⟩
  obtain ⟨s, rfl, g⟩ := g
  cases dq_str r1
  refine ⟨⟨s, rfl⟩, B, F1, ρ, _, Ed, hR.ext x1, g, fun u F2 H2 b x2 r2 g2 => ?_, he.mono x1.h⟩
  obtain ⟨w, rfl, g3, g4, g5⟩ := g2
  cases dq_str r2
  have dqs : ∀ ys : List Str, DqAll X.K F2 (ys.map V.str) (ys.map PyData.str) := fun ys => by
    induction ys with
    | nil => exact .nil
    | cons y ys ih => exact .cons (.str y) ih
  exact ⟨s, w, rfl, rfl, g3, g4, newL_den (x1.trans x2).fh (dqs _) g5 fun z F' H' d x4 r4 => hq z F' H' d ((x1.trans x2).trans x4) (Stb.dn (R := RF X.K) (x1.trans x2).h r4)⟩
end
end Pu

/-! soundness: walks, targets, comprehensions, tests -/
namespace Pu
open PySem PySem.Spec L2
open RZ (ItzT pi_zipA)
open RT (ItvT pi_revA)

/-! ### walks -/
def ItR (K : PySem.W.Frag) (pr : Bool) (F H : Hp) (x : V) (H' : Hp) (d : D) : Prop :=
  (H' = H ∧ Dq K F x d) ∨ (pr = true ∧ ∃ T x1 x2 d1 d2, x = .ref T ∧ H T = none ∧ H' = upd H T (.tup [x1, x2]) ∧ d = .tuple [d1, d2] ∧ Dq K F x1 d1 ∧ Dq K F x2 d2) ∨
  ∃ T o x1 x2 d1 d2, x = .ref T ∧ H T = none ∧ H' = upd H T (.frz o (.tup [x1, x2])) ∧ o.cls = .type "tuple" ∧ o.dict = none ∧ d = .tuple [d1, d2] ∧ Dq K F x1 d1 ∧ Dq K F x2 d2
structure WkD (K : PySem.W.Frag) (s pr : Bool) (J : It) (F₀ H₀ : Hp) (items : List D) (G : Hp → Prop) (Y : Nat → Hp → V → Hp → Prop) : Prop where
  w : Walk J items.length G Y
  g : ∀ F H, Same F₀ F → Same F H → (s = true ∨ Same H₀ H) → G H
  y : ∀ i F H x H', i < items.length → Same F₀ F → Same F H → (s = true ∨ Same H₀ H) → Y i H x H' → ∃ d, items[i]? = some d ∧ ItR K pr F H x H' d
def denI (K : PySem.W.Frag) (cls : String → Option Addr) (W : WX) (s pr : Bool) (w : Ev → (List D → Prop) → (String → Prop) → Prop) : TI := fun σ H R =>
  ∃ B F ρ Qd Ed, Rep K B F H σ ρ ∧ w ρ Qd Ed ∧ (∀ J F' H' items G Y, Ext F H F' H' → WkD K s pr J F' H' items G Y → items.length ≤ sizeLine → Qd items → R J H') ∧ ExO cls W σ H Ed
abbrev dBs (S : Spc) (cls : String → Option Addr) (W : WX) (X : Cx) (s : Bool) (p : PB) : TE := den X.K cls W (RBs X.K s) (wB S p)
abbrev dI (S : Spc) (cls : String → Option Addr) (W : WX) (X : Cx) (s pr : Bool) (p : PIt) : TI := denI X.K cls W s pr (wI S p)
section
variable {K : PySem.W.Frag} {F H H₀ F₀ : Hp} {s : Bool}
theorem rbs_seq {v : V} {d : D} {ds : List D} (sm : Same F H) (h : RBs K s H₀ F H v d) (e : seqD d = some ds) :
    ∃ a xs, v = .ref a ∧ DqAll K F xs ds ∧ ((d = .list ds ∧ ∀ F' H', Same F F' → Same F' H' → (s = true ∨ Same H H') → SqL K H' a xs) ∨ (d = .tuple ds ∧ ∀ F' H', Same F F' → Same F' H' → SqT K H' a xs)) := by
  rcases h with h | ⟨hs, a, es, e1, e2, xs, hh, hf, q⟩
  · cases d with
    | list es =>
      cases e
      obtain ⟨a, xs, e1, hl, q⟩ := dq_list h
      exact ⟨a, xs, e1, q, .inl ⟨rfl, fun F' H' h1 h2 _ => h2.seq (h1.seq hl)⟩⟩
    | tuple es =>
      cases e
      obtain ⟨a, xs, e1, hl, q⟩ := dq_tup h
      exact ⟨a, xs, e1, q, .inr ⟨rfl, fun F' H' h1 h2 => ((hl.mono h1).mono h2).sq⟩⟩
    | _ => cases e
  · subst e2
    cases e
    refine ⟨a, xs, e1, q, .inl ⟨rfl, fun F' H' h1 h2 h3 => ?_⟩⟩
    rcases h3 with h3 | h3
    · rw [hs] at h3
      cases h3
    · exact .inl (.inl (h3 _ _ hh))
end
theorem enumFrom_length : ∀ (ds : List D) (n : Nat), (enumFrom n ds).length = ds.length
  | [], _ => rfl
  | _ :: r, n => congrArg (· + 1) (enumFrom_length r (n + 1))
theorem enumFrom_get : ∀ (ds : List D) (n i : Nat), (enumFrom n ds)[i]? = (ds[i]?).map fun d => PyData.tuple [.int ((n + i : Nat) : Int), d]
  | [], _, _ => by simp [enumFrom]
  | d :: r, n, 0 => by simp [enumFrom]
  | d :: r, n, i + 1 => by
    show (enumFrom (n + 1) r)[i]? = _
    rw [enumFrom_get r (n + 1) i]
    have : n + 1 + i = n + (i + 1) := by omega
    rw [this]
    simp
theorem zipD_length : ∀ (xs ys : List D), (zipD xs ys).length = min xs.length ys.length
  | [], ys => by simp [zipD]
  | _ :: _, [] => by simp [zipD]
  | _ :: xs, _ :: ys => by
    show (zipD xs ys).length + 1 = min (xs.length + 1) (ys.length + 1)
    rw [zipD_length xs ys]
    omega
theorem zipD_get : ∀ (xs ys : List D) (i : Nat) (x y : D), xs[i]? = some x → ys[i]? = some y → (zipD xs ys)[i]? = some (.tuple [x, y])
  | [], _, _, _, _, h, _ => by simp at h
  | _ :: _, [], _, _, _, _, h => by simp at h
  | a :: xs, b :: ys, 0, x, y, h1, h2 => by
    cases h1
    cases h2
    rfl
  | a :: xs, b :: ys, i + 1, x, y, h1, h2 => zipD_get xs ys i x y (by simpa using h1) (by simpa using h2)
theorem rangeD_length (lo : Int) (n : Nat) : (rangeD lo n).length = n := by simp [rangeD]
theorem rangeD_get (lo : Int) (n i : Nat) (h : i < n) : (rangeD lo n)[i]? = some (.int (lo + (i : Int))) := by
  simp [rangeD, h]
section
variable {K : PySem.W.Frag} {a b : Addr} {xs ys : List V}
theorem walk_zipT {n : Nat} (hn : n = min xs.length ys.length) : Walk (ItzT K a b) n (fun H => SqT K H a xs ∧ SqT K H b ys) (YPair (fun i => xs[i]?) (fun i => ys[i]?)) := by
  subst hn
  refine ⟨fun i _ hi q => ?_, fun _ q => ⟨xs, ys, q.1, q.2, by omega⟩, fun i H v H' _ q y => ?_⟩
  · have h1 : i < xs.length := by omega
    have h2 : i < ys.length := by omega
    exact ⟨xs, ys, xs[i], ys[i], q.1, q.2, by simp [h1], by simp [h2]⟩
  · obtain ⟨T, x, z, h1, h2, h3, h4, h5⟩ := y
    exact ⟨T, x, z, h1, h2, h3, h4 xs q.1, h5 ys q.2⟩
/-- a pair that stays -/
def YKp (f g : Nat → Option V) (i : Nat) (H : Hp) (v : V) (H' : Hp) : Prop := ∃ T o x y, v = .ref T ∧ H T = none ∧ H' = upd H T (.frz o (.tup [x, y])) ∧ o.cls = .type "tuple" ∧ o.dict = none ∧ f i = some x ∧ g i = some y
theorem walk_zipK {n : Nat} (hn : n = min xs.length ys.length) : Walk (ItK K a b) n (fun H => SqT K H a xs ∧ SqT K H b ys) (YKp (fun i => xs[i]?) (fun i => ys[i]?)) := by
  subst hn
  refine ⟨fun i _ hi q => ?_, fun _ q => ⟨xs, ys, q.1, q.2, by omega⟩, fun i H v H' _ q y => ?_⟩
  · have h1 : i < xs.length := by omega
    have h2 : i < ys.length := by omega
    exact ⟨xs, ys, xs[i], ys[i], q.1, q.2, by simp [h1], by simp [h2]⟩
  · obtain ⟨T, o, x, z, h1, h2, h3, h4, h5, h6, h7⟩ := y
    exact ⟨T, o, x, z, h1, h2, h3, h4, h5, h6 xs q.1, h7 ys q.2⟩
theorem walk_revT : Walk (ItvT K a xs.length) xs.length (fun H => SqT K H a xs) (fun i H x H' => H' = H ∧ xs[xs.length - 1 - i]? = some x) :=
  ⟨fun i _ hi q => ⟨hi, xs, xs[xs.length - 1 - i]'(by omega), q, by simp [show xs.length - 1 - i < xs.length by omega]⟩, fun _ _ => Nat.le_refl _, fun _ _ _ _ _ q y => ⟨y.1, y.2 xs q⟩⟩
end

section
variable {S : Spc} {cls : String → Option Addr} {W : WX} {k : Nat} {kn : Kn} {c : CC} {X : Cx} {l r tg : Expr} {pos p2 : Pos} {x y z : PX} {n : Str} {s pr : Bool}
theorem s_bsx {s : Bool} (h : PE X l (dE S cls W X x)) : PE X l (dBs S cls W X s (.x x)) := by
  refine pe_weak h fun σ H Q hh => ?_
  obtain ⟨B, F, ρ, Qd, Ed, hR, h, hq, he⟩ := hh
  exact ⟨B, F, ρ, Qd, Ed, hR, h, fun v F1 H1 d x1 r1 g => hq v F1 H1 d x1 (.inl r1) g, he⟩
theorem s_bsl {p : PL} (h : PE X l (dL S cls W X p)) : PE X l (dBs S cls W X false (.l p)) := by
  refine pe_weak h fun σ H Q hh => ?_
  obtain ⟨B, F, ρ, Qd, Ed, hR, h, hq, he⟩ := hh
  have h' : wL S p ρ (fun ds => Qd (.list ds)) Ed := h
  refine ⟨B, F, ρ, _, Ed, hR, h', fun v F1 H1 d x1 r1 g => ?_, he⟩
  obtain ⟨a, e, q⟩ := r1
  exact hq v F1 H1 _ x1 (.inr ⟨rfl, a, d, e, rfl, q⟩) g
theorem s_r1 (o : Ok S cls W k kn c X) (hb : bltB c kn n "range" = true) (ns : noStar l = true) (hx : PE X l (dE S cls W X x)) : PI X tg (.Call (.Name n p2) [l] [] pos) (dI S cls W X s pr (.r1 x)) := by
  obtain ⟨e, g, g2, m⟩ := o.bltn hb
  subst e
  refine pi_weak (pi_range1 g m (arg1 ns hx) (by rw [star1 ns]; rfl)) fun σ H R hh => ?_
  obtain ⟨B, F, ρ, Qd, Ed, hR, h, hq, he⟩ := hh
  have h' : wE S x ρ (fun a => ∃ j : Int, a = .int j ∧ j ≤ sizeLine ∧ -(2 ^ 62) ≤ j ∧ Qd (rangeD 0 j.toNat)) Ed := h
  refine ⟨B, F, ρ, _, Ed, hR, h', fun v F1 H1 d x1 r1 g => ?_, he⟩
  obtain ⟨j, rfl, g1, g2, g3⟩ := g
  cases dq_int r1
  have hsz := sizeLine_eq
  refine ⟨j, rfl, g2, by rw [hsz] at g1; omega, hq _ F1 H1 _ (fun _ => True) (YFn fun i => .int (0 + (i : Int))) x1 ⟨by rw [rangeD_length]; exact walk_range, fun _ _ _ _ _ => trivial, fun i F H x H' hi _ _ _ hy => ?_⟩ (by rw [rangeD_length]; omega) g3⟩
  rw [rangeD_length] at hi
  obtain ⟨h1, h2⟩ := hy
  subst h2
  exact ⟨_, rangeD_get 0 _ i hi, .inl ⟨h1, .int _⟩⟩
theorem s_r2 (o : Ok S cls W k kn c X) (hb : bltB c kn n "range" = true) (ns : noStar l = true) (ns2 : noStar r = true) (hx : PE X l (dE S cls W X x)) (hy : PE X r (dE S cls W X y)) : PI X tg (.Call (.Name n p2) [l, r] [] pos) (dI S cls W X s pr (.r2 x y)) := by
  obtain ⟨e, g, g2, m⟩ := o.bltn hb
  subst e
  refine pi_weak (pi_range2 g m (pa_cons hx (arg1 ns2 hy) (star1 ns _ _)) (by rw [star1 ns, star1 ns2]; rfl) (by rw [star1 ns2]; rfl)) fun σ H R hh => ?_
  obtain ⟨B, F, ρ, Qd, Ed, hR, h, hq, he⟩ := hh
  have h' : wE S x ρ (fun a => wE S y ρ (fun c => ∃ i j : Int, a = .int i ∧ c = .int j ∧ (-(2 ^ 62) ≤ i ∧ i < 2 ^ 62 ∧ -(2 ^ 62) ≤ j ∧ j < 2 ^ 62 ∧ j - i ≤ sizeLine) ∧ Qd (rangeD i (j - i).toNat)) Ed) Ed := h
  refine ⟨B, F, ρ, _, Ed, hR, h', fun v F1 H1 d x1 r1 g => ?_, he⟩
  refine ⟨B, F1, ρ, _, Ed, hR.ext x1, g, fun u F2 H2 b x2 r2 g => ?_, he.mono x1.h⟩
  obtain ⟨i, j, rfl, rfl, ⟨g1, g2, g3, g4, g5⟩, g6⟩ := g
  cases dq_int r1
  cases dq_int r2
  refine ⟨i, j, rfl, ⟨g1, g2, g3, g4⟩, hq _ F2 H2 _ (fun _ => True) (YFn fun m => .int (i + (m : Int))) (x1.trans x2) ⟨by rw [rangeD_length]; exact walk_range, fun _ _ _ _ _ => trivial, fun m F H x H' hi _ _ _ hy => ?_⟩ (by rw [rangeD_length]; omega) g6⟩
  rw [rangeD_length] at hi
  obtain ⟨h1, h2⟩ := hy
  subst h2
  exact ⟨_, rangeD_get i _ m hi, .inl ⟨h1, .int _⟩⟩
theorem s_sq {x : PB} (hx : PE X l (dBs S cls W X s x)) : PI X tg l (dI S cls W X s pr (.sq x)) := by
  refine pi_weak (pi_bnd (pi_seq hx)) fun σ H R hh => ?_
  obtain ⟨B, F, ρ, Qd, Ed, hR, h, hq, he⟩ := hh
  have h' : wB S x ρ (fun a => ∃ ds, seqD a = some ds ∧ Qd ds) Ed := h
  refine ⟨B, F, ρ, _, Ed, hR, h', fun v F1 H1 d x1 r1 g => ?_, he⟩
  obtain ⟨ds, e, g⟩ := g
  obtain ⟨a, xs, rfl, dq, hs⟩ := rbs_seq x1.fh r1 e
  have it : ∀ i F H x H', i < ds.length → Same F1 F → YAt xs i H x H' → ∃ d, ds[i]? = some d ∧ ItR X.K pr F H x H' d := fun i F H x H' hi s1 hy => by
    obtain ⟨h1, h2⟩ := hy
    obtain ⟨d, h3, h4⟩ := dq.get h2
    exact ⟨d, h3, .inl ⟨h1, Dq.mono s1 _ _ h4⟩⟩
  have len := dq.length
  rcases hs with ⟨_, hs⟩ | ⟨_, hs⟩
  · have h0 := hs F1 H1 (Same.refl _) x1.fh (.inr (Same.refl _))
    refine ⟨a, rfl, .inl ⟨⟨xs, h0⟩, fun bd => hq _ F1 H1 _ _ _ x1 ⟨by rw [← len]; exact walk_list, fun F H s1 s2 s3 => hs F H s1 s2 s3, fun i F H x H' hi s1 _ _ hy => it i F H x H' hi s1 hy⟩ (by rw [← len]; exact bd.1 _ _ h0) g⟩⟩
  · have h0 := hs F1 H1 (Same.refl _) x1.fh
    refine ⟨a, rfl, .inr ⟨⟨xs, h0⟩, fun bd => hq _ F1 H1 _ _ _ x1 ⟨by rw [← len]; exact walk_tup, fun F H s1 s2 _ => hs F H s1 s2, fun i F H x H' hi s1 _ _ hy => it i F H x H' hi s1 hy⟩ (by rw [← len]; exact bd.2 _ _ h0) g⟩⟩
theorem s_rv {x : PB} (o : Ok S cls W k kn c X) (hb : bltB c kn n "reversed" = true) (ns : noStar l = true) (hx : PE X l (dBs S cls W X s x)) : PI X tg (.Call (.Name n p2) [l] [] pos) (dI S cls W X s pr (.rv x)) := by
  obtain ⟨e, g, g2, m⟩ := o.bltn hb
  subst e
  refine pi_weak (pi_bnd (pi_revA g m hx (star1 ns _ _))) fun σ H R hh => ?_
  obtain ⟨B, F, ρ, Qd, Ed, hR, h, hq, he⟩ := hh
  have h' : wB S x ρ (fun a => ∃ ds, seqD a = some ds ∧ Qd ds.reverse) Ed := h
  refine ⟨B, F, ρ, _, Ed, hR, h', fun v F1 H1 d x1 r1 g => ?_, he⟩
  obtain ⟨ds, e, g⟩ := g
  obtain ⟨a, xs, rfl, dq, hs⟩ := rbs_seq x1.fh r1 e
  have len := dq.length
  have it : ∀ i F H x H', i < ds.reverse.length → Same F1 F → (H' = H ∧ xs[xs.length - 1 - i]? = some x) → ∃ d, ds.reverse[i]? = some d ∧ ItR X.K pr F H x H' d := fun i F H x H' hi s1 hy => by
    obtain ⟨h1, h2⟩ := hy
    obtain ⟨d, h3, h4⟩ := dq.get h2
    refine ⟨d, ?_, .inl ⟨h1, Dq.mono s1 _ _ h4⟩⟩
    rw [List.length_reverse] at hi
    rw [List.getElem?_reverse hi, ← len]
    exact h3
  have lr : ds.reverse.length = xs.length := by rw [List.length_reverse, len]
  rcases hs with ⟨_, hs⟩ | ⟨_, hs⟩
  · have h0 := hs F1 H1 (Same.refl _) x1.fh (.inr (Same.refl _))
    refine ⟨a, xs, rfl, .inl ⟨h0, fun bd => hq _ F1 H1 _ _ _ x1 ⟨by rw [lr]; exact walk_rev, fun F H s1 s2 s3 => hs F H s1 s2 s3, fun i F H x H' hi s1 _ _ hy => it i F H x H' hi s1 hy⟩ (by rw [lr]; exact bd.1 _ _ h0) g⟩⟩
  · have h0 := hs F1 H1 (Same.refl _) x1.fh
    refine ⟨a, xs, rfl, .inr ⟨h0, fun bd => hq _ F1 H1 _ _ _ x1 ⟨by rw [lr]; exact walk_revT, fun F H s1 s2 _ => hs F H s1 s2, fun i F H x H' hi s1 _ _ hy => it i F H x H' hi s1 hy⟩ (by rw [lr]; exact bd.2 _ _ h0) g⟩⟩
theorem s_en {x : PB} {es : List Expr} {u} {tp : Pos} (o : Ok S cls W k kn c X) (hb : bltB c kn n "enumerate" = true) (ns : noStar l = true) (hx : PE X l (dBs S cls W X s x)) : PI X (.Tuple es u tp) (.Call (.Name n p2) [l] [] pos) (dI S cls W X s true (.en x)) := by
  obtain ⟨e, g, g2, m⟩ := o.bltn hb
  subst e
  refine pi_weak (pi_bnd (pi_enumA g m hx (by rw [star1 ns]; rfl))) fun σ H R hh => ?_
  obtain ⟨B, F, ρ, Qd, Ed, hR, h, hq, he⟩ := hh
  have h' : wB S x ρ (fun a => ∃ ds, seqD a = some ds ∧ Qd (enumFrom 0 ds)) Ed := h
  refine ⟨B, F, ρ, _, Ed, hR, h', fun v F1 H1 d x1 r1 g => ?_, he⟩
  obtain ⟨ds, e, g⟩ := g
  obtain ⟨a, xs, rfl, dq, hs⟩ := rbs_seq x1.fh r1 e
  have len := dq.length
  have it : ∀ i F H x H', i < (enumFrom 0 ds).length → Same F1 F → YPair (fun i => some (.int (i : Nat))) (fun i => xs[i]?) i H x H' → ∃ d, (enumFrom 0 ds)[i]? = some d ∧ ItR X.K true F H x H' d := fun i F H x H' hi s1 hy => by
    obtain ⟨T, y1, y2, h1, h2, h3, h4, h5⟩ := hy
    cases h4
    obtain ⟨d, h6, h7⟩ := dq.get h5
    rw [enumFrom_get, h6]
    refine ⟨_, rfl, .inr (.inl ⟨rfl, T, _, y2, _, d, h1, h2, h3, rfl, ?_, Dq.mono s1 _ _ h7⟩)⟩
    rw [Nat.zero_add]
    exact .int _
  have lr : (enumFrom 0 ds).length = xs.length := by rw [enumFrom_length, len]
  rcases hs with ⟨_, hs⟩ | ⟨_, hs⟩
  · have h0 := hs F1 H1 (Same.refl _) x1.fh (.inr (Same.refl _))
    refine ⟨a, xs, rfl, .inl ⟨h0, fun bd => hq _ F1 H1 _ _ _ x1 ⟨by rw [lr]; exact walk_enum, fun F H s1 s2 s3 => hs F H s1 s2 s3, fun i F H x H' hi s1 _ _ hy => it i F H x H' hi s1 hy⟩ (by rw [lr]; exact bd.1 _ _ h0) g⟩⟩
  · have h0 := hs F1 H1 (Same.refl _) x1.fh
    refine ⟨a, xs, rfl, .inr ⟨h0, fun bd => hq _ F1 H1 _ _ _ x1 ⟨by rw [lr]; exact walk_enumT, fun F H s1 s2 _ => hs F H s1 s2, fun i F H x H' hi s1 _ _ hy => it i F H x H' hi s1 hy⟩ (by rw [lr]; exact bd.2 _ _ h0) g⟩⟩
theorem s_zp {x y : PB} {s' : Bool} {es : List Expr} {u} {tp : Pos} (o : Ok S cls W k kn c X) (hb : bltB c kn n "zip" = true) (ns : noStar l = true) (ns2 : noStar r = true) (hx : PE X l (dBs S cls W X s x)) (hy : PE X r (dBs S cls W X s' y)) :
    PI X (.Tuple es u tp) (.Call (.Name n p2) [l, r] [] pos) (dI S cls W X (s && s') true (.zp x y)) := by
  obtain ⟨e, g, g2, m⟩ := o.bltn hb
  subst e
  refine pi_weak (pi_bnd (pi_zipA g m (pa_cons hx (arg1 ns2 hy) (star1 ns _ _)) (star1 ns _ _) (by rw [star1 ns2]; rfl))) fun σ H R hh => ?_
  obtain ⟨B, F, ρ, Qd, Ed, hR, h, hq, he⟩ := hh
  have h' : wB S x ρ (fun a => wB S y ρ (fun c => ∃ xs ys, ((a = .list xs ∧ c = .list ys) ∨ (a = .tuple xs ∧ c = .tuple ys)) ∧ Qd (zipD xs ys)) Ed) Ed := h
  refine ⟨B, F, ρ, _, Ed, hR, h', fun v F1 H1 d x1 r1 g => ?_, he⟩
  refine ⟨B, F1, ρ, _, Ed, hR.ext x1, g, fun u F2 H2 b x2 r2 g => ?_, he.mono x1.h⟩
  obtain ⟨ds, es, g1, g⟩ := g
  have r1' : RBs X.K s H F2 H2 v d := Stb.st x2 r1
  have e1 : seqD d = some ds := by rcases g1 with ⟨rfl, _⟩ | ⟨rfl, _⟩ <;> rfl
  have e2 : seqD b = some es := by rcases g1 with ⟨_, rfl⟩ | ⟨_, rfl⟩ <;> rfl
  obtain ⟨a, xs, rfl, dq, hs⟩ := rbs_seq (x1.trans x2).fh r1' e1
  obtain ⟨a', ys, rfl, dq', hs'⟩ := rbs_seq (x1.trans x2).fh r2 e2
  have len := dq.length
  have len' := dq'.length
  have it : ∀ i F H x H', i < (zipD ds es).length → Same F2 F → YPair (fun i => xs[i]?) (fun i => ys[i]?) i H x H' → ∃ d, (zipD ds es)[i]? = some d ∧ ItR X.K true F H x H' d := fun i F H x H' hi s1 hy => by
    obtain ⟨T, y1, y2, h1, h2, h3, h4, h5⟩ := hy
    obtain ⟨d, h6, h7⟩ := dq.get h4
    obtain ⟨d', h8, h9⟩ := dq'.get h5
    exact ⟨_, zipD_get ds es i d d' h6 h8, .inr (.inl ⟨rfl, T, y1, y2, d, d', h1, h2, h3, rfl, Dq.mono s1 _ _ h7, Dq.mono s1 _ _ h9⟩)⟩
  have lr : (zipD ds es).length = min xs.length ys.length := by rw [zipD_length, len, len']
  have sp : ∀ {P : Prop}, ((s && s') = true ∨ P) → (s = true ∨ P) ∧ (s' = true ∨ P) := fun h => by
    rcases h with h | h
    · rw [Bool.and_eq_true] at h
      exact ⟨.inl h.1, .inl h.2⟩
    · exact ⟨.inr h, .inr h⟩
  refine ⟨a, a', xs, ys, rfl, ?_⟩
  rcases hs with ⟨z1, hs⟩ | ⟨z1, hs⟩
  · rcases hs' with ⟨z2, hs'⟩ | ⟨z2, hs'⟩
    · have h0 := hs F2 H2 (Same.refl _) (x1.trans x2).fh (.inr (Same.refl _))
      have h0' := hs' F2 H2 (Same.refl _) (x1.trans x2).fh (.inr (Same.refl _))
      exact .inl ⟨h0, h0', fun bd => hq _ F2 H2 _ (fun H => SqL X.K H a xs ∧ SqL X.K H a' ys) _ (x1.trans x2) ⟨by rw [lr]; exact walk_zip rfl, fun F H s1 s2 s3 => ⟨hs F H s1 s2 (sp s3).1, hs' F H s1 s2 (sp s3).2⟩, fun i F H x H' hi s1 _ _ hy => it i F H x H' hi s1 hy⟩ (by rw [lr]; exact Nat.le_trans (Nat.min_le_left _ _) (bd.1 _ _ h0)) g⟩
    · subst z1 z2
      rcases g1 with ⟨_, z⟩ | ⟨z, _⟩ <;> cases z
  · rcases hs' with ⟨z2, hs'⟩ | ⟨z2, hs'⟩
    · subst z1 z2
      rcases g1 with ⟨z, _⟩ | ⟨_, z⟩ <;> cases z
    · have h0 := hs F2 H2 (Same.refl _) (x1.trans x2).fh
      have h0' := hs' F2 H2 (Same.refl _) (x1.trans x2).fh
      exact .inr ⟨h0, h0', fun bd => hq _ F2 H2 _ (fun H => SqT X.K H a xs ∧ SqT X.K H a' ys) _ (x1.trans x2) ⟨by rw [lr]; exact walk_zipT rfl, fun F H s1 s2 s3 => ⟨hs F H s1 s2, hs' F H s1 s2⟩, fun i F H x H' hi s1 _ _ hy => it i F H x H' hi s1 hy⟩ (by rw [lr]; exact Nat.le_trans (Nat.min_le_left _ _) (bd.2 _ _ h0)) g⟩

theorem s_z1 {x y : PB} {s' : Bool} {nx : Str} {tp : Pos} (o : Ok S cls W k kn c X) (hb : bltB c kn n "zip" = true) (ns : noStar l = true) (ns2 : noStar r = true) (hx : PE X l (dBs S cls W X s x)) (hy : PE X r (dBs S cls W X s' y)) :
    PI X (.Name nx tp) (.Call (.Name n p2) [l, r] [] pos) (dI S cls W X (s && s') pr (.z1 x y)) := by
  obtain ⟨e, g, g2, m⟩ := o.bltn hb
  subst e
  refine pi_weak (pi_bnd (pi_zipK g m (pa_cons hx (arg1 ns2 hy) (star1 ns _ _)) (star1 ns _ _) (by rw [star1 ns2]; rfl))) fun σ H R hh => ?_
  obtain ⟨B, F, ρ, Qd, Ed, hR, h, hq, he⟩ := hh
  have h' : wB S x ρ (fun a => wB S y ρ (fun c => ∃ xs ys, a = .tuple xs ∧ c = .tuple ys ∧ Qd (zipD xs ys)) Ed) Ed := h
  refine ⟨B, F, ρ, _, Ed, hR, h', fun v F1 H1 d x1 r1 g => ?_, he⟩
  refine ⟨B, F1, ρ, _, Ed, hR.ext x1, g, fun u F2 H2 b x2 r2 g => ?_, he.mono x1.h⟩
  obtain ⟨ds, es, rfl, rfl, g⟩ := g
  have r1' : RBs X.K s H F2 H2 v (.tuple ds) := Stb.st x2 r1
  obtain ⟨a, xs, rfl, dq, hs⟩ := rbs_seq (x1.trans x2).fh r1' rfl
  obtain ⟨a', ys, rfl, dq', hs'⟩ := rbs_seq (x1.trans x2).fh r2 rfl
  have len := dq.length
  have len' := dq'.length
  have it : ∀ i F H x H', i < (zipD ds es).length → Same F2 F → YKp (fun i => xs[i]?) (fun i => ys[i]?) i H x H' → ∃ d, (zipD ds es)[i]? = some d ∧ ItR X.K pr F H x H' d := fun i F H x H' hi s1 hy => by
    obtain ⟨T, o', y1, y2, h1, h2, h3, ho1, ho2, h4, h5⟩ := hy
    obtain ⟨d, h6, h7⟩ := dq.get h4
    obtain ⟨d', h8, h9⟩ := dq'.get h5
    exact ⟨_, zipD_get ds es i d d' h6 h8, .inr (.inr ⟨T, o', y1, y2, d, d', h1, h2, h3, ho1, ho2, rfl, Dq.mono s1 _ _ h7, Dq.mono s1 _ _ h9⟩)⟩
  have lr : (zipD ds es).length = min xs.length ys.length := by rw [zipD_length, len, len']
  refine ⟨a, a', xs, ys, rfl, ?_⟩
  rcases hs with ⟨z1, hs⟩ | ⟨_, hs⟩
  · cases z1
  · rcases hs' with ⟨z2, hs'⟩ | ⟨_, hs'⟩
    · cases z2
    · have h0 := hs F2 H2 (Same.refl _) (x1.trans x2).fh
      have h0' := hs' F2 H2 (Same.refl _) (x1.trans x2).fh
      exact ⟨h0, h0', fun bd => hq _ F2 H2 _ (fun H => SqT X.K H a xs ∧ SqT X.K H a' ys) _ (x1.trans x2) ⟨by rw [lr]; exact walk_zipK rfl, fun F H s1 s2 s3 => ⟨hs F H s1 s2, hs' F H s1 s2⟩, fun i F H x H' hi s1 _ _ hy => it i F H x H' hi s1 hy⟩ (by rw [lr]; exact Nat.le_trans (Nat.min_le_left _ _) (bd.2 _ _ h0)) g⟩
open Classical in
/-- list(zip(a, b)) -/
theorem s_lz {x y : PB} {m : Str} {p3 pos3 : Pos} (o : Ok S cls W k kn c X) (hb : bltB c kn n "list" = true) (hb2 : bltB c kn m "zip" = true) (ns : noStar l = true) (ns2 : noStar r = true) (hx : PE X l (dB S cls W X x)) (hy : PE X r (dB S cls W X y)) :
    PE X (.Call (.Name n p2) [.Call (.Name m p3) [l, r] [] pos3] [] pos) (dF S cls W X (.lz x y)) := by
  obtain ⟨e, g, g2, m1⟩ := o.bltn hb
  subst e
  obtain ⟨e, g', g2', m2⟩ := o.bltn hb2
  subst e
  refine pe_weak (pe_lz o.calm g m1 g' m2 (pa_cons hx (arg1 ns2 hy) (star1 ns _ _)) (star1 ns _ _) (by rw [star1 ns2]; rfl)) fun σ H Q hh => ?_
  obtain ⟨B, F, ρ, Qd, Ed, hR, h, hq, he⟩ := hh
  have h' : wB S x ρ (fun a => wB S y ρ (fun c => ∃ xs ys, a = .tuple xs ∧ c = .tuple ys ∧ Qd (zipD xs ys)) Ed) Ed := h
  refine ⟨B, F, ρ, _, Ed, hR, h', fun v F1 H1 d x1 r1 g => ?_, he⟩
  refine ⟨B, F1, ρ, _, Ed, hR.ext x1, g, fun u F2 H2 b x2 r2 g => ?_, he.mono x1.h⟩
  obtain ⟨ds, es, rfl, rfl, g⟩ := g
  have tp : ∀ {v : V} {ds : List D} {H₀ H : Hp} {F : Hp}, RB X.K H₀ F H v (.tuple ds) → ∃ a xs, v = .ref a ∧ PTup F a xs ∧ DqAll X.K F xs ds := fun h => by
    rcases h with h | ⟨a, es, _, e2, _⟩
    · exact dq_tup h
    · cases e2
  obtain ⟨a, xs, rfl, ha, dq⟩ := tp r1
  obtain ⟨a', ys, rfl, ha', dq'⟩ := tp r2
  have ha2 := ha.mono x2.f
  have dq2 := DqAll.mono x2.f _ _ dq
  have len := dq2.length
  have len' := dq'.length
  have x12 := x1.trans x2
  refine ⟨a, a', xs, ys, rfl, fun H' sm => ((ha2.mono x12.fh).mono sm).sq, fun H' sm => ((ha'.mono x12.fh).mono sm).sq, fun _ q acc H3 hq0 hq3 hl3 sm pr => ?_⟩
  have fF : ∀ c, H2 c = none → F2 c = none := fun c hc => x12.fh.free hc
  let F3 : Hp := fun c => if H2 c = none ∧ c ≠ q then H3 c else F2 c
  have x3 : Ext F2 H2 F3 H3 := by
    refine ⟨fun c u hc => ?_, sm, fun c u hc => ?_, fun c h1 h2 => ?_⟩
    · show (if H2 c = none ∧ c ≠ q then H3 c else F2 c) = some u
      rw [if_neg fun z => by rw [fF c z.1] at hc; cases hc]
      exact hc
    · have hc' : (if H2 c = none ∧ c ≠ q then H3 c else F2 c) = some u := hc
      by_cases z : H2 c = none ∧ c ≠ q
      · rw [if_pos z] at hc'
        exact hc'
      · rw [if_neg z] at hc'
        exact sm _ _ (x12.fh _ _ hc')
    · show (if H2 c = none ∧ c ≠ q then H3 c else F2 c) = none
      rw [if_neg fun z => h1 z.1]
      exact h2
  have hFq : F3 q = none := by
    show (if H2 q = none ∧ q ≠ q then H3 q else F2 q) = none
    rw [if_neg fun z => z.2 rfl]
    exact fF q hq0
  have key : ∀ (n : Nat) (acc : List V) (off : Nat), acc.length = n → off + n = min xs.length ys.length → (∀ j, j < acc.length → ∃ T o x y, acc[j]? = some (.ref T) ∧ xs[off + j]? = some x ∧ ys[off + j]? = some y ∧ H2 T = none ∧ T ≠ q ∧ H3 T = some (.frz o (.tup [x, y])) ∧ o.cls = .type "tuple" ∧ o.dict = none) →
      DqAll X.K F3 acc ((zipD ds es).drop off) := by
    intro n
    have lr : (zipD ds es).length = min xs.length ys.length := by rw [zipD_length, len, len']
    induction n with
    | zero =>
      intro acc off hl ho _
      have : acc = [] := List.eq_nil_of_length_eq_zero hl
      subst this
      rw [List.drop_of_length_le (by rw [lr]; omega)]
      exact .nil
    | succ n ih =>
      intro acc off hl ho hp
      cases acc with
      | nil => cases hl
      | cons v acc =>
        obtain ⟨T, o', x', y', g1, g2, g3, g4, g5, g6, g7, g8⟩ := hp 0 (by simp)
        have g1' : v = .ref T := by simpa using g1
        subst g1'
        rw [Nat.add_zero] at g2 g3
        obtain ⟨d, h6, h7⟩ := dq2.get g2
        obtain ⟨d', h8, h9⟩ := dq'.get g3
        have hz := zipD_get ds es off d d' h6 h8
        have hlt := (List.getElem?_eq_some_iff.mp hz).1
        rw [List.drop_eq_getElem_cons hlt, (List.getElem?_eq_some_iff.mp hz).2]
        refine .cons (.tup ⟨o', ?_, g7, g8⟩ (.cons (Dq.mono x3.f _ _ h7) (.cons (Dq.mono x3.f _ _ h9) .nil))) (ih acc (off + 1) (by simpa using hl) (by omega) fun j hj => ?_)
        · show (if H2 T = none ∧ T ≠ q then H3 T else F2 T) = _
          rw [if_pos ⟨g4, g5⟩]
          exact g6
        · obtain ⟨T, o, x, y, k1, k2⟩ := hp (j + 1) (by simpa using hj)
          rw [show off + (j + 1) = off + 1 + j by omega] at k2
          exact ⟨T, o, x, y, by simpa using k1, k2⟩
  have hall := key acc.length acc 0 rfl (by omega) fun j hj => by
    obtain ⟨T, o, x, y, k1⟩ := pr j hj
    rw [Nat.zero_add]
    exact ⟨T, o, x, y, k1⟩
  rw [List.drop_zero] at hall
  exact hq (.ref q) F3 H3 _ (x12.trans x3) ⟨q, rfl, x12.h.free hq0, acc, hq3, hFq, hall⟩ g
/-! ### targets -/
def gNs : List Nat → TGs
  | [] => gNil
  | i :: is => gCons (gName i) (gNs is)
def gTg (K : PySem.W.Frag) : Tg → TG
  | .one i => gName i
  | .many is => gTup K is.length (gNs is)
theorem s_locs (o : Ok S cls W k kn c X) : ∀ {is : List Nat} {es : List Expr}, locsB c is es = true → PGs X es (gNs is) ∧ (assignEach es X.env).length = is.length ∧ (assignEach es X.env).findIdx? (·.1) = none
  | [], [], _ => ⟨pgs_nil, rfl, rfl⟩
  | [], _ :: _, h => by unfold locsB at h; cases h
  | i :: is, e :: es, h => by
    cases e with
    | Name x p =>
      unfold locsB at h
      rw [Bool.and_eq_true] at h
      obtain ⟨h1, h2, h3⟩ := o.loc h.1
      obtain ⟨q1, q2, q3⟩ := s_locs o h.2
      refine ⟨pgs_cons (pg_name (by rw [o.N]; exact o.nd) h1 h2 h3) q1 rfl, ?_, ?_⟩
      · show (assignEach es X.env).length + 1 = _
        rw [q2]
        rfl
      · show List.findIdx? (·.1) ((false, assign (.Name x p) X.env) :: assignEach es X.env) = none
        rw [List.findIdx?_cons, q3]
        rfl
    | _ => unfold locsB at h; cases h
  | _ :: _, [], h => by unfold locsB at h; cases h
theorem s_tg (o : Ok S cls W k kn c X) {t : Tg} (h : tgB c t tg = true) : PG X tg (gTg X.K t) := by
  cases t with
  | one i =>
    cases tg with
    | Name x p =>
      unfold tgB at h
      obtain ⟨h1, h2, h3⟩ := o.loc h
      exact pg_name (by rw [o.N]; exact o.nd) h1 h2 h3
    | _ => unfold tgB at h; cases h
  | many is =>
    cases tg with
    | Tuple es u p =>
      unfold tgB at h
      obtain ⟨q1, q2, q3⟩ := s_locs o h
      exact pg_tup o.calm q1 q2 q3
    | _ => unfold tgB at h; cases h
section
variable {K : PySem.W.Frag} {B : Bs}
theorem gNs_run : ∀ {is : List Nat} {ds : List D} {vs : List V} {F H : Hp} {σ : L2.St} {ρ : Ev} {Q : L2.St → Hp → Prop}, Rep K B F H σ ρ → DqAll K F vs ds → ds.length = is.length →
    (∀ σ', Rep K B F H σ' (setAll ρ is ds) → (∀ j, j ∉ is → σ'[j]? = σ[j]?) → σ'.length = σ.length → Q σ' H) → gNs is vs σ H Q
  | [], ds, vs, F, H, σ, ρ, Q, hR, dq, hl, q => by
    cases ds with
    | nil =>
      cases dq
      exact ⟨rfl, q σ hR (fun _ _ => rfl) rfl⟩
    | cons _ _ => cases hl
  | i :: is, ds, vs, F, H, σ, ρ, Q, hR, dq, hl, q => by
    cases dq with
    | nil => cases hl
    | @cons v vs d ds h1 h2 =>
      refine ⟨v, vs, rfl, ?_⟩
      show gNs is vs (σ.set i (some v)) H Q
      refine gNs_run (ρ := ρ.set i (.val d)) (hR.setv h1) h2 (by simpa using hl) fun σ' hR' hk hl' => q σ' hR' (fun j hj => ?_) (by rw [hl', List.length_set])
      rw [hk j (fun z => hj (List.mem_cons_of_mem _ z)), List.getElem?_set_ne (fun z => hj (by rw [z]; exact List.mem_cons_self))]
/-- an item of a walk is stored -/
theorem gTg_run {t : Tg} {d : D} {x : V} {F H H' : Hp} {σ : L2.St} {ρ : Ev} {Q : L2.St → Hp → Prop} {G : Ev → Prop} (hR : Rep K B F H σ ρ) (ir : ItR K (isPair t) F H x H' d) (hw : wTg t d ρ G)
    (q : ∀ F' σ' ρ', Rep K B F' H' σ' ρ' → Ext F H F' H' → G ρ' → (∀ j, j ∉ tgS t → σ'[j]? = σ[j]?) → σ'.length = σ.length → Q σ' H') : gTg K t x σ H' Q := by
  have stay : (∃ T o x1 x2 d1 d2, x = .ref T ∧ H T = none ∧ H' = upd H T (.frz o (.tup [x1, x2])) ∧ o.cls = .type "tuple" ∧ o.dict = none ∧ d = .tuple [d1, d2] ∧ Dq K F x1 d1 ∧ Dq K F x2 d2) → ∃ F', Ext F H F' H' ∧ Dq K F' x d := by
    rintro ⟨T, o, x1, x2, d1, d2, rfl, hT, rfl, h1, h2, rfl, q1, q2⟩
    have e : Ext F H (upd F T (.frz o (.tup [x1, x2]))) (upd H T (.frz o (.tup [x1, x2]))) := Ext.new hR.fh hT
    exact ⟨_, e, .tup ⟨o, upd_same, h1, h2⟩ (.cons (Dq.mono e.f _ _ q1) (.cons (Dq.mono e.f _ _ q2) .nil))⟩
  cases t with
  | one i =>
    have one : ∀ F', Ext F H F' H' → Dq K F' x d → gTg K (.one i) x σ H' Q := fun F' e dq => q F' _ _ ((hR.ext e).setv dq) e hw (fun j hj => List.getElem?_set_ne (fun z => hj (by rw [← z]; exact List.mem_singleton.mpr rfl))) (List.length_set ..)
    rcases ir with ⟨rfl, dq⟩ | ⟨hp, _⟩ | st
    · exact one F (Ext.refl hR.fh) dq
    · cases hp
    · obtain ⟨F', e, dq⟩ := stay st
      exact one F' e dq
  | many is =>
    obtain ⟨ds, rfl, hl, hw⟩ := hw
    have many : ∀ F', Ext F H F' H' → Dq K F' x (.tuple ds) → gTg K (.many is) x σ H' Q := fun F' e dq => by
      obtain ⟨a, xs, rfl, ht, dq⟩ := dq_tup dq
      refine ⟨a, xs, rfl, (ht.mono e.fh).sq, by rw [dq.length]; exact hl, ?_⟩
      exact gNs_run (hR.ext e) dq hl fun σ' hR' hk hl' => q F' σ' _ hR' e hw hk hl'
    rcases ir with ⟨rfl, dq⟩ | ⟨hp, T, x1, x2, d1, d2, rfl, hT, rfl, e, q1, q2⟩ | st
    · exact many F (Ext.refl hR.fh) dq
    · cases e
      have x : Ext F H F (upd H T (.tup [x1, x2])) := Ext.hid hR.fh hT
      refine ⟨T, [x1, x2], rfl, .inl (.inl upd_same), hl, ?_⟩
      exact gNs_run (hR.ext x) (.cons q1 (.cons q2 .nil)) hl fun σ' hR' hk hl' => q F σ' _ hR' x hw hk hl'
    · obtain ⟨F', e, dq⟩ := stay st
      exact many F' e dq
end

/-! ### tests -/
theorem s_te (h : PT X l (tTest (dE S cls W X x))) : PT X l (dT S cls W X (.e x)) := by
  refine pt_weak h fun σ H Q hh => ?_
  obtain ⟨B, F, ρ, Qd, Ed, hR, h, hq, he⟩ := hh
  have h' : wE S x ρ (fun a => ∃ k, a = .bool k ∧ Qd k) Ed := h
  refine ⟨B, F, ρ, _, Ed, hR, h', fun v F1 H1 d x1 r1 g => ?_, he⟩
  obtain ⟨k, rfl, g⟩ := g
  cases dq_bool r1
  exact ⟨k, rfl, hq k F1 H1 x1 g⟩
theorem s_tr {x : PB} (pt : plainT l = true) (h : PE X l (dB S cls W X x)) : PT X l (dT S cls W X (.tr x)) := by
  refine pt_weak (pt_truth h (plainTest pt _)) fun σ H Q hh => ?_
  obtain ⟨B, F, ρ, Qd, Ed, hR, h, hq, he⟩ := hh
  have h' : wB S x ρ (fun a => truW a Qd) Ed := h
  refine ⟨B, F, ρ, _, Ed, hR, h', fun v F1 H1 d x1 r1 g => ?_, he⟩
  obtain ⟨k, t, g⟩ := tru_den x1.fh r1 g
  exact ⟨k, t, hq k F1 H1 x1 g⟩
theorem s_tnot {t : PQ} (h : PT X l (dT S cls W X t)) : PT X (.UnaryOp .Not l pos) (dT S cls W X (.not t)) := by
  refine pt_weak (pt_not h) fun σ H Q hh => ?_
  obtain ⟨B, F, ρ, Qd, Ed, hR, h, hq, he⟩ := hh
  have h' : wT S t ρ (fun k => Qd (!k)) Ed := h
  exact ⟨B, F, ρ, _, Ed, hR, h', fun k F1 H1 x1 g => hq _ F1 H1 x1 g, he⟩
abbrev dTs (S : Spc) (cls : String → Option Addr) (W : WX) (X : Cx) (an : Bool) (p : PQs) : TT := denT X.K cls W (wTs S an p)
theorem pw_weak {e : Expr} {u u' : TT} (h : PW X e u) (w : ∀ σ H Q, u' σ H Q → u σ H Q) : PW X e u' := ⟨fun wh pins s σ H Q I q => h.run wh pins s σ H Q I (w σ H Q q)⟩
theorem s_t1 {t : PQ} {an : Bool} (h : PT X l (dT S cls W X t)) : PW X (.BoolOp (if an then .And else .Or) [l] pos) (dTs S cls W X an (.cons t .nil)) := by
  have w : ∀ σ H Q, dTs S cls W X an (.cons t .nil) σ H Q → dT S cls W X t σ H Q := fun σ H Q hh => by
    obtain ⟨B, F, ρ, Qd, Ed, hR, h, hq, he⟩ := hh
    exact ⟨B, F, ρ, Qd, Ed, hR, h, hq, he⟩
  cases an
  · exact pw_weak (pw_or1 h) w
  · exact pw_weak (pw_and1 h) w
theorem s_t2 {t t' : PQ} {ts : PQs} {an : Bool} {es : List Expr} (h : PT X l (dT S cls W X t)) (h2 : PW X (.BoolOp (if an then .And else .Or) (r :: es) pos) (dTs S cls W X an (.cons t' ts))) :
    PW X (.BoolOp (if an then .And else .Or) (l :: r :: es) pos) (dTs S cls W X an (.cons t (.cons t' ts))) := by
  cases an with
  | true =>
    refine pw_weak (pw_and h h2) fun σ H Q hh => ?_
    obtain ⟨B, F, ρ, Qd, Ed, hR, h, hq, he⟩ := hh
    have h' : wT S t ρ (fun k => if k = true then wTs S true (.cons t' ts) ρ Qd Ed else Qd k) Ed := h
    refine ⟨B, F, ρ, _, Ed, hR, h', fun k F1 H1 x1 g => ?_, he⟩
    cases k with
    | true => exact ⟨B, F1, ρ, Qd, Ed, hR.ext x1, g, fun k F2 H2 x2 g => hq k F2 H2 (x1.trans x2) g, he.mono x1.h⟩
    | false => exact hq false F1 H1 x1 g
  | false =>
    refine pw_weak (pw_or h h2) fun σ H Q hh => ?_
    obtain ⟨B, F, ρ, Qd, Ed, hR, h, hq, he⟩ := hh
    have h' : wT S t ρ (fun k => if k = false then wTs S false (.cons t' ts) ρ Qd Ed else Qd k) Ed := h
    refine ⟨B, F, ρ, _, Ed, hR, h', fun k F1 H1 x1 g => ?_, he⟩
    cases k with
    | false => exact ⟨B, F1, ρ, Qd, Ed, hR.ext x1, g, fun k F2 H2 x2 g => hq k F2 H2 (x1.trans x2) g, he.mono x1.h⟩
    | true => exact hq true F1 H1 x1 g
/-! ### and, or as values -/
abbrev dBo (S : Spc) (cls : String → Option Addr) (W : WX) (X : Cx) (an : Bool) (p : PXs) : TE := den X.K cls W (RE X.K) (wBo S an p)
theorem s_o1 {an : Bool} (h : PE X l (dE S cls W X x)) : PE X (.BoolOp (if an then .And else .Or) [l] pos) (dBo S cls W X an (.cons x .nil)) :=
  pe_weak (pe_one h) fun σ H Q hh => by
    obtain ⟨B, F, ρ, Qd, Ed, hR, h, hq, he⟩ := hh
    exact ⟨B, F, ρ, Qd, Ed, hR, h, hq, he⟩
theorem s_o2 {xs : PXs} {an : Bool} {es : List Expr} (h : PE X l (dE S cls W X x)) (h2 : PE X (.BoolOp (if an then .And else .Or) (r :: es) pos) (dBo S cls W X an (.cons y xs))) :
    PE X (.BoolOp (if an then .And else .Or) (l :: r :: es) pos) (dBo S cls W X an (.cons x (.cons y xs))) := by
  have go : ∀ σ H Q, dBo S cls W X an (.cons x (.cons y xs)) σ H Q → dE S cls W X x σ H fun v H1 => ∃ k, v = .bl k ∧ if k = an then dBo S cls W X an (.cons y xs) σ H1 Q else Q (.bl k) H1 := fun σ H Q hh => by
    obtain ⟨B, F, ρ, Qd, Ed, hR, h, hq, he⟩ := hh
    have h' : wE S x ρ (fun a => ∃ k, a = .bool k ∧ if k = an then wBo S an (.cons y xs) ρ Qd Ed else Qd (.bool k)) Ed := h
    refine ⟨B, F, ρ, _, Ed, hR, h', fun v F1 H1 d x1 r1 g => ?_, he⟩
    obtain ⟨k, rfl, g⟩ := g
    cases dq_bool r1
    refine ⟨k, rfl, ?_⟩
    by_cases hk : k = an
    · rw [if_pos hk] at g ⊢
      exact ⟨B, F1, ρ, Qd, Ed, hR.ext x1, g, fun z F2 H2 d x2 r2 g => hq z F2 H2 d (x1.trans x2) r2 g, he.mono x1.h⟩
    · rw [if_neg hk] at g ⊢
      exact hq _ F1 H1 _ x1 (.bl _) g
  cases an with
  | true =>
    refine pe_weak (pe_and h h2) fun σ H Q hh => ?_
    obtain ⟨B, F, ρ, Qd, Ed, hR, h, hq, he⟩ := go σ H Q hh
    refine ⟨B, F, ρ, Qd, Ed, hR, h, fun v F1 H1 d x1 r1 g => ?_, he⟩
    obtain ⟨k, e, q⟩ := hq v F1 H1 d x1 r1 g
    refine ⟨k, e, ?_⟩
    cases k <;> exact q
  | false =>
    refine pe_weak (pe_or h h2) fun σ H Q hh => ?_
    obtain ⟨B, F, ρ, Qd, Ed, hR, h, hq, he⟩ := go σ H Q hh
    refine ⟨B, F, ρ, Qd, Ed, hR, h, fun v F1 H1 d x1 r1 g => ?_, he⟩
    obtain ⟨k, e, q⟩ := hq v F1 H1 d x1 r1 g
    refine ⟨k, e, ?_⟩
    cases k <;> exact q
end
end Pu

/-! soundness: comprehensions -/
namespace Pu
open PySem PySem.Spec L2

/-- as a value, and stored to a name -/
structure PEA (X : Cx) (ex : Expr) (tr : TE) : Prop where
  pe : PE X ex tr
  as : ∀ (i : Nat) (y : Str) (py spos : Pos), X.N.Nodup → X.N[i]? = some y → L2.Loc X.env.scope y → (X.fn y = true ∨ X.env.scope.names.lookup y = some .local) → PS X (.Assign [.Name y py] ex spos) (tAsg tr (gName i))
theorem PEA.weak {X : Cx} {e : Expr} {t t' : TE} (h : PEA X e t) (w : ∀ σ H Q, t' σ H Q → t σ H Q) : PEA X e t' :=
  ⟨pe_weak h.pe w, fun i y py spos h1 h2 h3 h4 => ps_weak (h.as i y py spos h1 h2 h3 h4) fun D σ H q => w σ H _ q⟩
theorem swaps0 {e : Expr} (h : isComp e = false) (t : Option Expr) (l : Nat) (env : Env) : swapsWith e t l env = pure false := by
  unfold swapsWith
  cases e <;> first | rfl | cases h
theorem PEA.of {X : Cx} {e : Expr} {t : TE} (h : PE X e t) (nc : isComp e = false) : PEA X e t :=
  ⟨h, fun i y py spos h1 h2 h3 h4 => ps_set h1 h2 h3 h (swaps0 nc _ _ _) h4⟩
theorem swaps1 (elt : Expr) (gs : List Comprehension) (scope : Scope) (pos : Pos) (y : Str) (py : Pos) (l : Nat) (env : Env) :
    ∃ b, swapsWith (.ListComp elt gs scope pos) (some (.Name y py)) l env = pure b ∧ (b = true → env.scope.names.lookup y = some .local) := by
  refine ⟨_, rfl, fun h => ?_⟩
  simp only [Bool.and_eq_true] at h
  obtain ⟨⟨⟨_, h⟩, _⟩, _⟩ := h
  exact eq_of_beq h

abbrev W0 : WX := fun _ _ _ _ => False
section
variable {S : Spc} {cls : String → Option Addr} {W : WX} {k : Nat} {kn : Kn} {c : CC} {X : Cx}
theorem Ok.blk (o : Ok S cls W k kn c X) {scope : Scope} (hk : scope.kind = .function) (s : Shared) (H : Hp) (C : Addr) (cl : List (Str × Addr)) (fp : List Addr) :
    Ok S cls W0 k kn (blk c scope) (X.blk s H scope (compEnvC scope cl C X.env) fp) where
  N := o.N
  sc := by
    show relS scope X.env.scope = relS scope c.sc
    rw [o.sc]
  calm := o.calm
  room := o.room
  nd := o.nd
  fk := hk
  fn := fun x => rfl
  fns := o.fns
  blt := o.blt
  exc := o.exc
  hnd := o.hnd
  stk := fun z => by cases z
  tk := fun z => by cases z
  po := fun z => by cases z
  pa := passAt takes0
theorem Ok.blkE (o : Ok S cls W k kn c X) {scope : Scope} (hk : scope.kind = .function) (σ : L2.St) (s : Shared) (H : Hp) (C : Addr) (cl : List (Str × Addr)) (fp : List Addr)
    (pa : ∀ σ', PassesAt (L2.CX X.prog X.w) (Pu.blkE X s H scope (compEnvC scope cl C X.env) fp) σ' (fun c d H' => W c d σ H')) :
    Ok S cls (fun c d _ H' => W c d σ H') k kn (Pu.blk c scope) (Pu.blkE X s H scope (compEnvC scope cl C X.env) fp) where
  N := o.N
  sc := by
    show relS scope X.env.scope = relS scope c.sc
    rw [o.sc]
  calm := o.calm
  room := o.room
  nd := o.nd
  fk := hk
  fn := fun x => rfl
  fns := o.fns
  blt := o.blt
  exc := o.exc
  hnd := o.hnd
  stk := fun z => by cases z
  tk := fun z => by cases z
  po := fun z => by cases z
  pa := pa
theorem wipe_in {σ : L2.St} {i : Nat} : ∀ {vs : List Nat}, i ∈ vs → i < σ.length → (wipe σ vs)[i]? = some none
  | [], h, _ => by cases h
  | v :: vs, h, hl => by
    unfold wipe
    by_cases e : v = i
    · subst e
      rw [List.getElem?_set_self (by rw [wipe_length]; exact hl)]
    · rw [List.getElem?_set_ne e]
      rcases List.mem_cons.mp h with h | h
      · exact absurd h.symm e
      · exact wipe_in h hl
theorem wipe_eq {σ σ' : L2.St} {vs : List Nat} (h : ∀ j, j ∉ vs → σ'[j]? = (wipe σ vs)[j]?) (hl : σ'.length = (wipe σ vs).length) : wipe σ' vs = wipe σ vs := by
  apply List.ext_getElem?
  intro j
  have l1 : (wipe σ vs).length = σ.length := wipe_length σ vs
  have l2 : (wipe σ' vs).length = σ.length := by rw [wipe_length σ' vs, hl, l1]
  by_cases hj : j ∈ vs
  · by_cases hlt : j < σ.length
    · rw [wipe_in hj hlt, wipe_in hj (by rw [hl, wipe_length]; exact hlt)]
    · rw [List.getElem?_eq_none (Nat.le_trans (Nat.le_of_eq l2) (Nat.le_of_not_lt hlt)), List.getElem?_eq_none (Nat.le_trans (Nat.le_of_eq l1) (Nat.le_of_not_lt hlt))]
  · rw [wipe_out hj, h j hj]
/-- the turns of the loop -/
theorem s_comp {own : List Nat} {t : Tg} {src : PIt} {cs : PQs} {x : PX} {elt tg it : Expr} {ifs : List Expr} {scope : Scope} {pos : Pos} {s : Bool} (o : Ok S cls W k kn c X) (hb : blkC c.N c.sc scope (ownN c own) = true) (ns : noSet it = true)
    (hI : PI X tg it (dI S cls W X s (isPair t) src)) (ht : ∀ X', Ok S cls W0 k kn (blk c scope) X' → PG X' tg (gTg X'.K t)) (hv : (tgS t).all (fun i => own.contains i) = true)
    (hc : ∀ X', Ok S cls W0 k kn (blk c scope) X' → PTs X' ifs (dTs S cls W0 X' true cs)) (he : ∀ X', Ok S cls W0 k kn (blk c scope) X' → PE X' elt (dE S cls W0 X' x)) :
    PEA X (.ListComp elt [⟨tg, it, ifs, 0⟩] scope pos) (dF S cls W X (.comp own t src cs x)) := by
  have ok : BlkOk X.N X.env.scope scope (ownN c own) := by
    rw [o.N, o.sc]
    exact blkOk_by hb
  have hk := ok.kind
  have nd : X.N.Nodup := by rw [o.N]; exact o.nd
  have hg : ∀ (s : Shared) (H : Hp) (C : Addr) (cl : List (Str × Addr)) (fp : List Addr), PG (X.blk s H scope (compEnvC scope cl C X.env) fp) tg (gTg X.K t) := fun s H C cl fp => ht _ (o.blk hk s H C cl fp)
  have ht' : ∀ (s : Shared) (H : Hp) (C : Addr) (cl : List (Str × Addr)) (fp : List Addr), PTs (X.blk s H scope (compEnvC scope cl C X.env) fp) ifs (dTs S cls W0 X true cs) := fun s H C cl fp => hc _ (o.blk hk s H C cl fp)
  have he' : ∀ (s : Shared) (H : Hp) (C : Addr) (cl : List (Str × Addr)) (fp : List Addr), PE (X.blk s H scope (compEnvC scope cl C X.env) fp) elt (dE S cls W0 X x) := fun s H C cl fp => he _ (o.blk hk s H C cl fp)
  have key : PEA X (.ListComp elt [⟨tg, it, ifs, 0⟩] scope pos) (tLc (dI S cls W X s (isPair t) src) (gTg X.K t) (dTs S cls W0 X true cs) (dE S cls W0 X x) own) := by
    rw [← ownN_2 c own]
    refine ⟨pe_lc o.calm nd hI ok hg ht' he' (noFold ns _), fun i y py spos h1 h2 h3 h4 => ?_⟩
    obtain ⟨b, e, hl⟩ := swaps1 elt [⟨tg, it, ifs, 0⟩] scope pos y py spos.line X.env
    cases b with
    | true => exact ps_setLc o.calm nd h2 (hl rfl) e hI ok hg ht' he' (noFold ns _)
    | false => exact ps_set h1 h2 h3 (pe_lc o.calm nd hI ok hg ht' he' (noFold ns _)) e h4
  refine key.weak fun σ H Q hh => ?_
  obtain ⟨B, F, ρ, Qd, Ed, hR, h, hq, hex⟩ := hh
  generalize hf : (fun (d : D) (K : Option D → Prop) => wTg t d (wipeE ρ own) fun ρ' => wTs S true cs ρ' (fun k => if k = true then wE S x ρ' (fun y => K (some y)) (fun _ => False) else K none) (fun _ => False)) = f
  have h' : wI S src ρ (fun items => wCo f items [] Qd) Ed := by
    rw [← hf]
    exact h
  refine ⟨B, F, ρ, _, Ed, hR, h', fun J F1 H1 items G Y x1 wk hlen g D hD => ?_, hex⟩
  refine lc_it wk.w (fun i H' => ∃ F2 vs acc, Ext F1 H1 F2 H' ∧ H' D = some (.lst vs) ∧ F2 D = none ∧ DqAll X.K F2 vs acc ∧ vs.length ≤ i ∧ wCo f (items.drop i) acc Qd) ?_ ?_ ?_ ?_
  · exact ⟨F1, [], [], Ext.hid x1.fh hD, upd_same, x1.fh.free hD, .nil, Nat.le_refl _, g⟩
  · rintro i H' _ ⟨F2, vs, acc, x2, _⟩
    exact wk.g F2 H' x2.f x2.fh (.inr x2.h)
  · rintro i v H2 H3 hi ⟨F2, vs, acc, x2, hDv, hFD, dq, hvl, hw⟩ hy
    obtain ⟨d, hd, ir⟩ := wk.y i F2 H2 v H3 hi x2.f x2.fh (.inr x2.h) hy
    have hdrop : items.drop i = d :: items.drop (i + 1) := by
      rw [List.drop_eq_getElem_cons hi]
      rw [List.getElem?_eq_getElem hi] at hd
      rw [Option.some.inj hd]
    rw [hdrop] at hw
    have hw' : f d (fun o => wCo f (items.drop (i + 1)) (acc ++ o.toList) Qd) := hw
    rw [← hf] at hw'
    refine gTg_run (((hR.ext x1).wipe own).ext x2) ir hw' fun F3 σ' ρ' hR' x3 g3 hkeep hlen' => ?_
    refine ⟨wipe_eq (fun j hj => hkeep j fun z => ?_) hlen', ?_⟩
    · have := List.all_eq_true.mp hv j z
      exact hj (by simpa using this)
    · refine ⟨B, F3, ρ', _, _, hR', g3, fun b F4 H4 x4 g4 => ?_, fun _ _ _ _ _ z => z.elim⟩
      have x24 : Ext F2 H2 F4 H4 := x3.trans x4
      cases b with
      | true =>
        rw [if_pos rfl] at g4
        refine iteT ?_
        refine ⟨B, F4, ρ', _, _, hR'.ext x4, g4, fun y F5 H5 dy x5 r5 g5 => ?_, fun _ _ _ _ _ z => z.elim⟩
        have x25 := x24.trans x5
        have hD5 := x25.h _ _ hDv
        have hF5 := x25.o D (by rw [hDv]; simp) hFD
        refine ⟨vs, hD5, by omega, F5, vs ++ [y], acc ++ [dy], ⟨(x2.trans x25).f, same_upd2 (x2.trans x25).h hD, same_upd2 x25.fh hF5, (x2.trans x25).o⟩, upd_same, hF5, (DqAll.mono x25.f _ _ dq).append (.cons r5 .nil), by rw [List.length_append]; simp; omega, ?_⟩
        rw [← hf]
        exact g5
      | false =>
        rw [if_neg Bool.false_ne_true] at g4
        refine iteF ?_
        refine ⟨F4, vs, acc, x2.trans x24, x24.h _ _ hDv, x24.o D (by rw [hDv]; simp) hFD, DqAll.mono x24.f _ _ dq, by omega, ?_⟩
        rw [← hf]
        have g4' := g4
        simp only [Option.toList_none, List.append_nil] at g4'
        exact g4'
  · rintro H2 ⟨F2, vs, acc, x2, hDv, hFD, dq, hvl, hw⟩
    rw [List.drop_length] at hw
    exact hq (.ref D) F2 H2 acc (x1.trans x2) ⟨D, rfl, x1.h.free hD, vs, hDv, hFD, dq⟩ hw
/-- tuple([x for t in src]): what x lets out is let out -/
theorem s_tcx {own : List Nat} {t : Tg} {src : PIt} {x : PX} {elt tg it : Expr} {scope : Scope} {pos p2 pos' : Pos} {n : Str} (o : Ok S cls W k kn c X) (hr : c.raw.isNone = true) (hbl : bltB c kn n "tuple" = true)
    (hb : blkC c.N c.sc scope (ownN c own) = true) (ns : noSet it = true)
    (hI : PI X tg it (dI S cls W X false (isPair t) src)) (ht : ∀ W' X', Ok S cls W' k kn (blk c scope) X' → PG X' tg (gTg X'.K t)) (hv : (tgS t).all (fun i => own.contains i) = true)
    (he : ∀ W' X', Ok S cls W' k kn (blk c scope) X' → PE X' elt (dE S cls W' X' x)) :
    PE X (.Call (.Name n p2) [.ListComp elt [⟨tg, it, [], 0⟩] scope pos] [] pos') (dE S cls W X (.tcx own t src x)) := by
  have hr' := Option.isNone_iff_eq_none.mp hr
  obtain ⟨st1, st2⟩ := o.stk hr'
  have ok : BlkOk X.N X.env.scope scope (ownN c own) := by
    rw [o.N, o.sc]
    exact blkOk_by hb
  have hk := ok.kind
  have nd : X.N.Nodup := by rw [o.N]; exact o.nd
  have key : PE X (.ListComp elt [⟨tg, it, [], 0⟩] scope pos) (tLcX (dI S cls W X false (isPair t) src) (gTg X.K t) (fun σ => dE S cls (fun c d _ H' => W c d σ H') X x) own) := by
    rw [← ownN_2 c own]
    exact pe_lcX o.calm nd hI ok (o.tk hr') st1 st2 (fun σ s H C cl fp pa => ⟨ht _ _ (o.blkE hk σ s H C cl fp pa), he _ _ (o.blkE hk σ s H C cl fp pa)⟩) (noFold ns _)
  have key2 : PE X (.ListComp elt [⟨tg, it, [], 0⟩] scope pos) (den X.K cls W (RF X.K) fun ρ Q E => wI S src ρ (fun items => wCo (fun d K => wTg t d (wipeE ρ own) fun ρ' => wE S x ρ' (fun y => K (some y)) E) items [] Q) E) := by
    refine pe_weak key fun σ H Q hh => ?_
    obtain ⟨B, F, ρ, Qd, Ed, hR, h, hq, hex⟩ := hh
    generalize hf : (fun (d : D) (K : Option D → Prop) => wTg t d (wipeE ρ own) fun ρ' => wE S x ρ' (fun y => K (some y)) Ed) = f
    have h' : wI S src ρ (fun items => wCo f items [] Qd) Ed := by
      rw [← hf]
      exact h
    refine ⟨B, F, ρ, _, Ed, hR, h', fun J F1 H1 items G Y x1 wk hlen g D hD => ?_, hex⟩
    refine lc_it wk.w (fun i H' => ∃ F2 vs acc, Ext F1 H1 F2 H' ∧ H' D = some (.lst vs) ∧ F2 D = none ∧ DqAll X.K F2 vs acc ∧ vs.length ≤ i ∧ wCo f (items.drop i) acc Qd) ?_ ?_ ?_ ?_
    · exact ⟨F1, [], [], Ext.hid x1.fh hD, upd_same, x1.fh.free hD, .nil, Nat.le_refl _, g⟩
    · rintro i H' _ ⟨F2, vs, acc, x2, _⟩
      exact wk.g F2 H' x2.f x2.fh (.inr x2.h)
    · rintro i v H2 H3 hi ⟨F2, vs, acc, x2, hDv, hFD, dq, hvl, hw⟩ hy
      obtain ⟨d, hd, ir⟩ := wk.y i F2 H2 v H3 hi x2.f x2.fh (.inr x2.h) hy
      have hdrop : items.drop i = d :: items.drop (i + 1) := by
        rw [List.drop_eq_getElem_cons hi]
        rw [List.getElem?_eq_getElem hi] at hd
        rw [Option.some.inj hd]
      rw [hdrop] at hw
      have hw' : f d (fun o => wCo f (items.drop (i + 1)) (acc ++ o.toList) Qd) := hw
      rw [← hf] at hw'
      refine gTg_run (((hR.ext x1).wipe own).ext x2) ir hw' fun F3 σ' ρ' hR' x3 g3 hkeep hlen' => ?_
      refine ⟨wipe_eq (fun j hj => hkeep j fun z => ?_) hlen', ?_⟩
      · have := List.all_eq_true.mp hv j z
        exact hj (by simpa using this)
      · simp only [tYes, eq_self, if_true]
        refine ⟨B, F3, ρ', _, Ed, hR', g3, fun y F5 H5 dy x5 r5 g5 => ?_, fun c a H' hc sm ec => hex c a H' hc (((x1.trans x2).trans x3).h.trans sm) ec⟩
        have x25 := x3.trans x5
        have hD5 := x25.h _ _ hDv
        have hF5 := x25.o D (by rw [hDv]; simp) hFD
        refine ⟨vs, hD5, by omega, F5, vs ++ [y], acc ++ [dy], ⟨(x2.trans x25).f, same_upd2 (x2.trans x25).h hD, same_upd2 x25.fh hF5, (x2.trans x25).o⟩, upd_same, hF5, (DqAll.mono x25.f _ _ dq).append (.cons r5 .nil), by rw [List.length_append]; simp; omega, ?_⟩
        rw [← hf]
        exact g5
    · rintro H2 ⟨F2, vs, acc, x2, hDv, hFD, dq, hvl, hw⟩
      rw [List.drop_length] at hw
      exact hq (.ref D) F2 H2 acc (x1.trans x2) ⟨D, rfl, x1.h.free hD, vs, hDv, hFD, dq⟩ hw
  refine pe_weak (s_bltT call_tupleP "tuple" o hbl (by decide +kernel) (by decide +kernel) rfl key2) (den_un (R1 := RF X.K) (R3 := RE X.K) (G := fun ds (Q : D → Prop) => Q (.tuple ds)) (r := fun v H Q => rTupOf X.K [v] H Q) (fun _ _ _ h => h) fun v a F H₀ H Q Qd s r1 g q => ?_)
  obtain ⟨b, e1, _, lsat⟩ := r1
  have r2 : RB X.K H₀ F H v (.list a) := .inr ⟨b, a, e1, rfl, lsat⟩
  obtain ⟨p, xs, rfl, dq, hs⟩ := rb_seq s r2 rfl
  rcases hs with ⟨e2, hs⟩ | ⟨e2, hs⟩
  · exact ⟨p, xs, rfl, .inl ⟨hs, newT_den s dq g q⟩⟩
  · cases e2
end
end Pu

/-! soundness: statements -/
namespace Pu
open PySem PySem.Spec L2

structure EndsOk (K : PySem.W.Frag) (cls : String → Option Addr) (W : WX) (B : Bs) (F : Hp) (Dd : Dn) (D : Ends) : Prop where
  nx : ∀ σ' H' F' ρ', Same F F' → Rep K B F' H' σ' ρ' → Dd.nx ρ' → D.nx σ' H'
  rt : ∀ v H' F' d, Ext B.F B.H F' H' → Dq K F' v d → Dd.rt d → D.rt v H'
  bk : ∀ σ' H' F' ρ', Same F F' → Rep K B F' H' σ' ρ' → Dd.bk ρ' → D.bk σ' H'
  ct : ∀ σ' H' F' ρ', Same F F' → Rep K B F' H' σ' ρ' → Dd.ct ρ' → D.ct σ' H'
  ex : ∀ c a σ' H' F' ρ', cls c = some a → Same F F' → Rep K B F' H' σ' ρ' → Dd.ex c ρ' → W (.ref a) none σ' H'
def denS (K : PySem.W.Frag) (cls : String → Option Addr) (W : WX) (w : Dn → Ev → Prop) : TS := fun D σ H => ∃ B F ρ Dd, Rep K B F H σ ρ ∧ w Dd ρ ∧ EndsOk K cls W B F Dd D
abbrev dS (S : Spc) (cls : String → Option Addr) (W : WX) (X : Cx) (p : PSt) : TS := denS X.K cls W (wS S p)
abbrev dSs (S : Spc) (cls : String → Option Addr) (W : WX) (X : Cx) (p : PSs) : TS := denS X.K cls W (wSs S p)
section
variable {K : PySem.W.Frag} {cls : String → Option Addr} {W : WX} {B : Bs} {Dd : Dn} {D : Ends} {F H : Hp} {σ : L2.St} {ρ : Ev}
theorem EndsOk.later (e : EndsOk K cls W B F Dd D) {F1 : Hp} (s : Same F F1) : EndsOk K cls W B F1 Dd D :=
  ⟨fun _ _ _ _ h => e.nx _ _ _ _ (s.trans h), e.rt, fun _ _ _ _ h => e.bk _ _ _ _ (s.trans h), fun _ _ _ _ h => e.ct _ _ _ _ (s.trans h), fun _ _ _ _ _ _ h1 h => e.ex _ _ _ _ _ _ h1 (s.trans h)⟩
theorem EndsOk.exo {F1 : Hp} (e : EndsOk K cls W B F1 Dd D) (hR : Rep K B F H σ ρ) (sf : Same F1 F := by exact Same.refl _) : ExO cls W σ H (fun c => Dd.ex c ρ) := fun c a H' h1 sm h2 =>
  e.ex c a σ H' F ρ h1 sf (hR.ext ⟨Same.refl _, sm, hR.fh.trans sm, fun _ _ h => h⟩) h2
theorem dqk_any : ∀ {ks : List (Key × V)} {kvs : List (Int × PyData)} (q : DqK K F ks kvs) (z : Int), (ks.any fun kv => decide (kv.1 = Sum.inl z)) = (kvs.any fun kv => decide (kv.1 = z))
  | _, _, .nil, _ => rfl
  | _, _, .cons r t, z => by
    rw [List.any_cons, List.any_cons, dqk_any t z, r.1]
    congr 1
    exact decide_eq_decide.mpr ⟨fun h => Sum.inl.inj h, fun h => by rw [h]⟩
theorem dqk_map {z : Int} {v : V} {d : PyData} (dv : Dq K F v d) : ∀ {ks : List (Key × V)} {kvs : List (Int × PyData)} (q : DqK K F ks kvs), DqK K F (ks.map fun kv => if kv.1 = Sum.inl z then (kv.1, v) else kv) (kvs.map fun kv => if kv.1 = z then (kv.1, d) else kv)
  | _, _, .nil => .nil
  | _, _, .cons (a := p) (b := q') r t => by
    rw [List.map_cons, List.map_cons]
    refine .cons ?_ (dqk_map dv t)
    by_cases e : q'.1 = z
    · have e2 : p.1 = Sum.inl z := by rw [r.1, e]
      rw [if_pos e2, if_pos e]
      exact ⟨r.1, dv⟩
    · have e2 : ¬ p.1 = Sum.inl z := by rw [r.1]; exact fun w => e (Sum.inl.inj w)
      rw [if_neg e2, if_neg e]
      exact r
theorem dqk_app {z : Int} {v : V} {d : PyData} (dv : Dq K F v d) : ∀ {ks : List (Key × V)} {kvs : List (Int × PyData)} (q : DqK K F ks kvs), DqK K F (ks ++ [(Sum.inl z, v)]) (kvs ++ [(z, d)])
  | _, _, .nil => .cons ⟨rfl, dv⟩ .nil
  | _, _, .cons r t => .cons r (dqk_app dv t)
theorem dqk_put {ks : List (Key × V)} {kvs : List (Int × PyData)} (q : DqK K F ks kvs) (z : Int) {v : V} {d : PyData} (dv : Dq K F v d) : DqK K F (putK ks (Sum.inl z) v) (putD kvs z d) := by
  unfold putK putD
  rw [dqk_any q z]
  split
  · exact dqk_map dv q
  · exact dqk_app dv q
theorem dqk_len {ks : List (Key × V)} {kvs : List (Int × PyData)} (q : DqK K F ks kvs) : ks.length = kvs.length := Paired.length q
end
theorem swapsT {es : List Expr} {u p} (e : Expr) (l : Nat) (env : Env) : swapsWith e (some (.Tuple es u p)) l env = pure false := by
  unfold swapsWith
  cases e <;> rfl
theorem swapsSub {a b : Expr} {p} (e : Expr) (l : Nat) (env : Env) : swapsWith e (some (.Subscript a b p)) l env = pure false := by
  unfold swapsWith
  cases e <;> rfl
theorem swapsNN {t : Expr} (h : ∀ x p, t ≠ .Name x p) (e : Expr) (l : Nat) (env : Env) : swapsWith e (some t) l env = pure false := by
  unfold swapsWith
  cases e <;> first | rfl | (cases t <;> first | rfl | exact absurd rfl (h _ _))
theorem stores0 {t : Expr} (ht : ∀ es u p, t ≠ .Tuple es u p) (ht2 : ∀ es p, t ≠ .List es p) (e : Expr) (env : Env) : swappedStores [t] e env = pure none := by
  unfold swappedStores
  cases t <;> first | exact absurd rfl (ht _ _ _) | exact absurd rfl (ht2 _ _) | (cases e <;> rfl)
theorem stores1 {es : List Expr} {u p} {e : Expr} (he : ∀ es u p, e ≠ .Tuple es u p) (env : Env) : swappedStores [.Tuple es u p] e env = pure none := by
  unfold swappedStores
  cases e <;> first | exact absurd rfl (he _ _ _) | rfl
section
variable {S : Spc} {cls : String → Option Addr} {W : WX} {k : Nat} {kn : Kn} {c : CC} {X : Cx} {l r tg : Expr} {pos p2 : Pos} {x y z : PX} {n : Str} {i j : Nat} {a b : Str}
theorem s_set (o : Ok S cls W k kn c X) (h : locB c i a = true) (hx : PEA X l (dE S cls W X x)) : PS X (.Assign [.Name a p2] l pos) (dS S cls W X (.set i x)) := by
  obtain ⟨h1, h2, h3⟩ := o.loc h
  refine ps_weak (hx.as i a p2 pos (by rw [o.N]; exact o.nd) h1 h2 h3) fun D σ H hh => ?_
  obtain ⟨B, F, ρ, Dd, hR, hw, en⟩ := hh
  have hw' : wE S x ρ (fun d => Dd.nx (ρ.set i (.val d))) (fun c => Dd.ex c ρ) := hw
  exact ⟨B, F, ρ, _, _, hR, hw', fun v F1 H1 d x1 r1 g => en.nx _ _ F1 _ x1.f ((hR.ext x1).setv r1) g, en.exo hR⟩
theorem s_own {f : PF} (o : Ok S cls W k kn c X) (h : locB c i a = true) (hx : PEA X l (dF S cls W X f)) : PS X (.Assign [.Name a p2] l pos) (dS S cls W X (.own i f)) := by
  obtain ⟨h1, h2, h3⟩ := o.loc h
  refine ps_weak (hx.as i a p2 pos (by rw [o.N]; exact o.nd) h1 h2 h3) fun D σ H hh => ?_
  obtain ⟨B, F, ρ, Dd, hR, hw, en⟩ := hh
  have hw' : wF S f ρ (fun ds => Dd.nx (ρ.set i (.own ds))) (fun c => Dd.ex c ρ) := hw
  refine ⟨B, F, ρ, _, _, hR, hw', fun v F1 H1 d x1 r1 g => ?_, en.exo hR⟩
  obtain ⟨p, rfl, h0, xs, hh, hf, dq⟩ := r1
  refine en.nx _ _ F1 _ x1.f ((hR.ext x1).setw (s := .own d) ⟨p, xs, rfl, hh, hf, hR.x.h.free h0, dq⟩ fun j oj ej => ?_) g
  obtain ⟨s, es, ow⟩ := oj
  have q := hR.at_ j s es
  cases s with
  | un => cases ow
  | val d => cases ow
  | own ds =>
    obtain ⟨b, ys, e1, hb, _⟩ := q
    rw [ej] at e1
    cases e1
    rw [h0] at hb
    cases hb
  | dic ds =>
    obtain ⟨b, ys, e1, hb, _⟩ := q
    rw [ej] at e1
    cases e1
    rw [h0] at hb
    cases hb
theorem s_dic (o : Ok S cls W k kn c X) (h : locB c i a = true) {p3 : Pos} : PS X (.Assign [.Name a p2] (.Dict [] [] p3) pos) (dS S cls W X (.dic i)) := by
  obtain ⟨h1, h2, h3⟩ := o.loc h
  refine ps_weak (ps_set (by rw [o.N]; exact o.nd) h1 h2 (pe_dnewK (X := X)) (swaps0 rfl _ _ _) h3) fun D σ H hh => ?_
  obtain ⟨B, F, ρ, Dd, hR, hw, en⟩ := hh
  have hw' : Dd.nx (ρ.set i (.dic [])) := hw
  intro p hp
  have x1 : Ext F H F (upd H p (.dK [])) := Ext.hid hR.fh hp
  refine en.nx _ _ F _ (Same.refl _) ((hR.ext x1).setw (s := .dic []) ⟨p, [], rfl, upd_same, hR.fh.free hp, hR.x.h.free hp, .nil⟩ fun j oj ej => ?_) hw'
  obtain ⟨s, es, ow⟩ := oj
  have q := hR.at_ j s es
  cases s with
  | un => cases ow
  | val d => cases ow
  | own ds =>
    obtain ⟨b, ys, e1, hb, _⟩ := q
    rw [ej] at e1
    cases e1
    rw [hp] at hb
    cases hb
  | dic ds =>
    obtain ⟨b, ys, e1, hb, _⟩ := q
    rw [ej] at e1
    cases e1
    rw [hp] at hb
    cases hb
theorem s_tgt {is : List Nat} {es : List Expr} {u} (o : Ok S cls W k kn c X) (h : locsB c is es = true) (nt : ∀ es u p, l ≠ .Tuple es u p) (hx : PE X l (dE S cls W X x)) : PS X (.Assign [.Tuple es u p2] l pos) (dS S cls W X (.tgt is x)) := by
  have hg : PG X (.Tuple es u p2) (gTg X.K (.many is)) := s_tg o (t := .many is) h
  refine ps_weak (ps_asg hx hg (show swapsWithSole [.Tuple es u p2] l pos.line X.env = pure false from swapsT (es := es) (u := u) (p := p2) l pos.line X.env) (stores1 nt _) rfl) fun D σ H hh => ?_
  obtain ⟨B, F, ρ, Dd, hR, hw, en⟩ := hh
  have hw' : wE S x ρ (fun d => wTg (.many is) d ρ Dd.nx) (fun c => Dd.ex c ρ) := hw
  exact ⟨B, F, ρ, _, _, hR, hw', fun v F1 H1 d x1 r1 g => gTg_run (hR.ext x1) (.inl ⟨rfl, r1⟩) g fun F3 σ' ρ' hR' x3 g' _ _ => en.nx _ _ F3 _ (x1.f.trans x3.f) hR' g', en.exo hR⟩
theorem par_stores {c : CC} {xa xb : Str} {pa pb : Pos} {e1 e2 : Expr} {kt pt k2 pt2} {env : Env} (hs : env.scope = c.sc) (hk : c.sc.kind = .function) (h : parB c xa xb pa pb e1 e2 = true) :
    swappedStores [.Tuple [.Name xa pa, .Name xb pb] kt pt] (.Tuple [e1, e2] k2 pt2) env = pure (some [xa, xb]) := by
  unfold parB at h
  simp only [Bool.and_eq_true, decide_eq_true_eq, Bool.not_eq_true'] at h
  obtain ⟨⟨⟨⟨⟨⟨⟨h1, h2⟩, h3⟩, h4⟩, h5⟩, h6⟩, h7⟩, h8⟩ := h
  have b : env.blockKind = .function := by unfold Env.blockKind; rw [hs, hk]; rfl
  have ka : (env.kindOf xa == some .local) = true := by unfold Env.kindOf; rw [hs, h1]; rfl
  have kb : (env.kindOf xb == some .local) = true := by unfold Env.kindOf; rw [hs, h2]; rfl
  have hne : xa ≠ xb := fun e => by rw [e] at h4; simp at h4
  have ka' : env.kindOf xa = some .local := eq_of_beq ka
  have kb' : env.kindOf xb = some .local := eq_of_beq kb
  have h3' : pb.line = pa.line := eq_of_beq h3
  unfold swappedStores
  have hd : ([xa, xb] : List Str).eraseDups = [xa, xb] := by
    simp [List.eraseDups_cons, Ne.symm hne]
  simp only [List.length_cons, List.length_nil, b, bne_self_eq_false, Bool.or_false, Nat.reduceAdd, beq_self_eq_true, Bool.true_or, Bool.not_true, Bool.false_eq_true, if_false]
  rw [if_neg (by
    intro h
    simp only [List.any_cons, List.any_nil, Bool.or_false, Bool.or_eq_true] at h
    rcases h with h | h
    · cases e1 <;> first | exact Bool.noConfusion h | exact Bool.noConfusion h5
    · cases e2 <;> first | exact Bool.noConfusion h | exact Bool.noConfusion h6)]
  simp [List.filterMap_cons, ka', kb', h3', h7, h8, Expr.pos, hd]
theorem s_par {e1 e2 : Expr} {pa pb pt pt2 : Pos} {kt k2} (o : Ok S cls W k kn c X) (hij : i ≠ j) (ha : locB c i a = true) (hb : locB c j b = true) (hp : parB c a b pa pb e1 e2 = true) (hx : PE X e1 (dE S cls W X x)) (hy : PE X e2 (dE S cls W X y)) :
    PS X (.Assign [.Tuple [.Name a pa, .Name b pb] kt pt] (.Tuple [e1, e2] k2 pt2) pos) (dS S cls W X (.par i j x y)) := by
  have hp' := hp
  unfold parB at hp'
  simp only [Bool.and_eq_true, decide_eq_true_eq, Bool.not_eq_true'] at hp'
  obtain ⟨⟨⟨⟨⟨⟨⟨q1, q2⟩, _⟩, _⟩, n1⟩, n2⟩, _⟩, _⟩ := hp'
  obtain ⟨h1, _, _⟩ := o.loc ha
  obtain ⟨h2, _, _⟩ := o.loc hb
  refine ps_weak (ps_par o.calm (by rw [o.N]; exact o.nd) h1 h2 hij (by rw [o.sc]; exact q1) (by rw [o.sc]; exact q2) (pa_cons hx (arg1 n2 hy) (star1 n1 _ _)) (par_stores o.sc o.fk hp) (show swapsWithSole [.Tuple [.Name a pa, .Name b pb] kt pt] (.Tuple [e1, e2] k2 pt2) pos.line X.env = pure false from swapsT (es := [.Name a pa, .Name b pb]) (u := kt) (p := pt) (.Tuple [e1, e2] k2 pt2) pos.line X.env)) fun D σ H hh => ?_
  obtain ⟨B, F, ρ, Dd, hR, hw, en⟩ := hh
  have hw' : wE S x ρ (fun a => wE S y ρ (fun c => Dd.nx ((ρ.set i (.val a)).set j (.val c))) (fun c => Dd.ex c ρ)) (fun c => Dd.ex c ρ) := hw
  refine ⟨B, F, ρ, _, _, hR, hw', fun v F1 H1 d x1 r1 g => ?_, en.exo hR⟩
  refine ⟨B, F1, ρ, _, _, hR.ext x1, g, fun w F2 H2 e x2 r2 g2 => ?_, en.exo (hR.ext x1) x1.f⟩
  exact ⟨v, w, rfl, en.nx _ _ F2 _ (x1.trans x2).f (((hR.ext (x1.trans x2)).setv (Dq.mono x2.f _ _ r1)).setv r2) g2⟩
theorem few1 {e : Expr} (ns : noStar e = true) (env : Env) (p : Pos) : ((backTo p (starEach [e] env)).all (fun x => !x.1) && (backToKw p (keywordEach [] env)).all (fun x => x.1.isSome)
      && decide (([e] : List Expr).length + ([] : List Keyword).length + (if ([] : List Keyword).isEmpty then 0 else 1) < 30)) = true := by
  rw [star1 ns]
  rfl
theorem s_app {ap p3 : Pos} (o : Ok S cls W k kn c X) (h : visB c i a = true) (hl : (ap.endLine == p3.line) = true) (ns : noStar l = true) (hx : PE X l (dE S cls W X x)) :
    PS X (.Expr (.Call (.Attribute (.Name a p2) (Str.ofString "append") ap) [l] [] p3) pos) (dS S cls W X (.app i x)) := by
  refine ps_weak (ps_expr (pe_bm PySem.F.plainAttrs_list PySem.F.slot_list_append PySem.F.type_list_append mt_append (pe_slot o h) (arg1 ns hx) (noSup rfl _ _ _) (few1 ns _ _) hl (star1 ns _ _) rfl) (swaps0 rfl _ _ _)) fun D σ H hh => ?_
  obtain ⟨B, F, ρ, Dd, hR, hw, en⟩ := hh
  obtain ⟨ds, e, hw'⟩ : ∃ ds, ρ[i]? = some (.own ds) ∧ wE S x ρ (fun d => ds.length < sizeLine ∧ Dd.nx (ρ.set i (.own (ds ++ [d])))) (fun c => Dd.ex c ρ) := hw
  obtain ⟨p, xs, e1, hh, hf, hb, dq⟩ := hR.at_ i _ e
  refine ⟨.ref p, e1, .inl ⟨rfl, xs, .inl (.inl hh)⟩, B, F, ρ, _, _, hR, hw', fun v F1 H1 d x1 r1 g => ?_, en.exo hR⟩
  have hh1 := x1.h _ _ hh
  have hf1 := x1.o p (by rw [hh]; simp) hf
  have dq1 := DqAll.mono x1.f _ _ dq
  refine ⟨p, xs, v, rfl, rfl, hh1, by rw [dq.length]; exact g.1, en.nx _ _ F1 _ x1.f ((hR.ext x1).upd (s := .own (ds ++ [d])) e1 ⟨_, e, rfl⟩ hf1 hb ⟨p, xs ++ [v], rfl, upd_same, hf1, hb, dq1.append (.cons r1 .nil)⟩) g.2⟩
theorem s_ext {q : PL} {ap p3 : Pos} (o : Ok S cls W k kn c X) (h : visB c i a = true) (hl : (ap.endLine == p3.line) = true) (ns : noStar l = true) (hx : PE X l (dL S cls W X q)) :
    PS X (.Expr (.Call (.Attribute (.Name a p2) (Str.ofString "extend") ap) [l] [] p3) pos) (dS S cls W X (.ext i q)) := by
  refine ps_weak (ps_expr (pe_bm PySem.F.plainAttrs_list PySem.F.slot_list_extend PySem.F.type_list_extend mt_extend (pe_slot o h) (arg1 ns hx) (noSup rfl _ _ _) (few1 ns _ _) hl (star1 ns _ _) rfl) (swaps0 rfl _ _ _)) fun D σ H hh => ?_
  obtain ⟨B, F, ρ, Dd, hR, hw, en⟩ := hh
  obtain ⟨ds, e, hw'⟩ : ∃ ds, ρ[i]? = some (.own ds) ∧ wL S q ρ (fun es => ds.length + es.length ≤ sizeLine ∧ Dd.nx (ρ.set i (.own (ds ++ es)))) (fun c => Dd.ex c ρ) := hw
  obtain ⟨p, xs, e1, hh, hf, hb, dq⟩ := hR.at_ i _ e
  refine ⟨.ref p, e1, .inl ⟨rfl, xs, .inl (.inl hh)⟩, B, F, ρ, _, _, hR, hw', fun v F1 H1 es x1 r1 g => ?_, en.exo hR⟩
  have hh1 := x1.h _ _ hh
  have hf1 := x1.o p (by rw [hh]; simp) hf
  have dq1 := DqAll.mono x1.f _ _ dq
  obtain ⟨p', rfl, ys, hh2, hf2, dq2⟩ := r1
  refine ⟨p, p', xs, ys, rfl, rfl, hh1, hh2, by rw [dq.length, dq2.length]; exact g.1, en.nx _ _ F1 _ x1.f ((hR.ext x1).upd (s := .own (ds ++ es)) e1 ⟨_, e, rfl⟩ hf1 hb ⟨p, xs ++ ys, rfl, upd_same, hf1, hb, dq1.append dq2⟩) g.2⟩
theorem s_put {p3 : Pos} (o : Ok S cls W k kn c X) (h : visB c i a = true) (ns : noSlice r = true) (hk : PE X r (dE S cls W X y)) (hx : PE X l (dE S cls W X x)) :
    PS X (.Assign [.Subscript (.Name a p2) r p3] l pos) (dS S cls W X (.put i y x)) := by
  refine ps_weak (ps_asg hx (pg_sub (pe_slot o h) hk set_list (fun v => by cases r <;> first | rfl | cases ns)) (show swapsWithSole [.Subscript (.Name a p2) r p3] l pos.line X.env = pure false from swapsSub (a := .Name a p2) (b := r) (p := p3) l pos.line X.env) (stores0 (fun _ _ _ z => by cases z) (fun _ _ z => by cases z) _ _) rfl) fun D σ H hh => ?_
  obtain ⟨B, F, ρ, Dd, hR, hw, en⟩ := hh
  have hw' : wE S x ρ (fun d => ∃ ds, ρ[i]? = some (.own ds) ∧ wE S y ρ (fun a => ∃ z j, a = .int z ∧ ixN ds.length z = some j ∧ Dd.nx (ρ.set i (.own (ds.set j d)))) (fun c => Dd.ex c ρ)) (fun c => Dd.ex c ρ) := hw
  refine ⟨B, F, ρ, _, _, hR, hw', fun v F1 H1 d x1 r1 g => ?_, en.exo hR⟩
  obtain ⟨ds, e, g⟩ := g
  obtain ⟨p, xs, e1, hh, hf, hb, dq⟩ := (hR.ext x1).at_ i _ e
  refine ⟨.ref p, e1, B, F1, ρ, _, _, hR.ext x1, g, fun u F2 H2 b x2 r2 g2 => ?_, en.exo (hR.ext x1) x1.f⟩
  obtain ⟨z, j, rfl, hj, g3⟩ := g2
  cases dq_int r2
  have hh1 := x2.h _ _ hh
  have hf1 := x2.o p (by rw [hh]; simp) hf
  have dq1 := DqAll.mono x2.f _ _ dq
  refine ⟨p, xs, z, j, rfl, rfl, hh1, by rw [dq.length]; exact hj, en.nx _ _ F2 _ (x1.trans x2).f ((hR.ext (x1.trans x2)).upd (s := .own (ds.set j d)) e1 ⟨_, e, rfl⟩ hf1 hb ⟨p, xs.set j v, rfl, upd_same, hf1, hb, dq1.set (Dq.mono x2.f _ _ r1) j⟩) g3⟩
theorem s_dput {p3 : Pos} (o : Ok S cls W k kn c X) (h : visB c i a = true) (ns : noSlice r = true) (hk : PE X r (dE S cls W X y)) (hx : PE X l (dE S cls W X x)) :
    PS X (.Assign [.Subscript (.Name a p2) r p3] l pos) (dS S cls W X (.dput i y x)) := by
  refine ps_weak (ps_dput o.hu (pe_slot o h) hk hx (swapsSub _ _ _)) fun D σ H hh => ?_
  obtain ⟨B, F, ρ, Dd, hR, hw, en⟩ := hh
  have hw' : wE S x ρ (fun d => ∃ kvs, ρ[i]? = some (.dic kvs) ∧ wE S y ρ (fun a => ∃ z, a = .int z ∧ kvs.length < sizeLine ∧ Dd.nx (ρ.set i (.dic (putD kvs z d)))) (fun c => Dd.ex c ρ)) (fun c => Dd.ex c ρ) := hw
  refine ⟨B, F, ρ, _, _, hR, hw', fun v F1 H1 d x1 r1 g => ?_, en.exo hR⟩
  obtain ⟨kvs, e, g⟩ := g
  obtain ⟨p, ks, e1, hh, hf, hb, dq⟩ := (hR.ext x1).at_ i _ e
  refine ⟨.ref p, e1, B, F1, ρ, _, _, hR.ext x1, g, fun u F2 H2 b x2 r2 g2 => ?_, en.exo (hR.ext x1) x1.f⟩
  obtain ⟨z, rfl, hl, g3⟩ := g2
  cases dq_int r2
  have hh1 := x2.h _ _ hh
  have hf1 := x2.o p (by rw [hh]; simp) hf
  have dq1 := dq.mono x2.f
  exact ⟨p, _, rfl, DPut.k (k := Sum.inl z) hh1 (by rw [dqk_len dq]; exact hl), en.nx _ _ F2 _ (x1.trans x2).f ((hR.ext (x1.trans x2)).upd (s := .dic (putD kvs z d)) e1 ⟨_, e, rfl⟩ hf1 hb ⟨p, _, rfl, upd_same, hf1, hb, dqk_put dq1 z (Dq.mono x2.f _ _ r1)⟩) g3⟩
theorem s_pop {ap p3 p4 : Pos} (o : Ok S cls W k kn c X) (hij : i ≠ j) (hb : locB c j b = true) (h : visB c i a = true) (hl : (ap.endLine == p3.line) = true) :
    PS X (.Assign [.Name b p4] (.Call (.Attribute (.Name a p2) (Str.ofString "pop") ap) [] [] p3) pos) (dS S cls W X (.pop j i)) := by
  obtain ⟨h1, h2, h3⟩ := o.loc hb
  refine ps_weak (ps_set (by rw [o.N]; exact o.nd) h1 h2 (pe_bm0 PySem.F.plainAttrs_list PySem.F.slot_list_pop PySem.F.type_list_pop mt_pop (pe_slot o h) (noSup rfl _ _ _) hl) (swaps0 rfl _ _ _) h3) fun D σ H hh => ?_
  obtain ⟨B, F, ρ, Dd, hR, hw, en⟩ := hh
  obtain ⟨ds, d, e, ed, hw'⟩ : ∃ ds d, ρ[i]? = some (.own ds) ∧ ds[ds.length - 1]? = some d ∧ Dd.nx ((ρ.set i (.own ds.dropLast)).set j (.val d)) := hw
  obtain ⟨p, xs, e1, hh, hf, hb, dq⟩ := hR.at_ i _ e
  obtain ⟨v, ev, dv⟩ := dq.get' ed
  refine ⟨.ref p, e1, .inl ⟨rfl, xs, .inl (.inl hh)⟩, p, xs, v, rfl, rfl, hh, by rw [dq.length]; exact ev, ?_⟩
  exact en.nx _ _ F _ (Same.refl _) ((hR.upd (s := .own ds.dropLast) e1 ⟨_, e, rfl⟩ hf hb ⟨p, xs.dropLast, rfl, upd_same, hf, hb, dq.dropLast⟩).setv dv) hw'
theorem s_ex (o : Ok S cls W k kn c X) (nc : isComp l = false) (hx : PE X l (dE S cls W X x)) : PS X (.Expr l pos) (dS S cls W X (.ex x)) := by
  refine ps_weak (ps_expr hx (swaps0 nc _ _ _)) fun D σ H hh => ?_
  obtain ⟨B, F, ρ, Dd, hR, hw, en⟩ := hh
  have hw' : wE S x ρ (fun _ => Dd.nx ρ) (fun c => Dd.ex c ρ) := hw
  exact ⟨B, F, ρ, _, _, hR, hw', fun v F1 H1 d x1 r1 g => en.nx _ _ F1 _ x1.f (hR.ext x1) g, en.exo hR⟩
theorem s_ret (o : Ok S cls W k kn c X) (hx : PE X l (dE S cls W X x)) : PS X (.Return (some l) pos) (dS S cls W X (.ret x)) := by
  refine ps_weak (ps_ret hx) fun D σ H hh => ?_
  obtain ⟨B, F, ρ, Dd, hR, hw, en⟩ := hh
  have hw' : wE S x ρ Dd.rt (fun c => Dd.ex c ρ) := hw
  exact ⟨B, F, ρ, _, _, hR, hw', fun v F1 H1 d x1 r1 g => en.rt v H1 F1 d (hR.x.trans x1) r1 g, en.exo hR⟩
theorem s_ite {t : PQ} {p q : PSs} {b1 b2 : List Stmt} (o : Ok S cls W k kn c X) (ht : PT X l (dT S cls W X t)) (hp : L2.PSs X b1 (dSs S cls W X p)) (hq : L2.PSs X b2 (dSs S cls W X q)) : PS X (.If l b1 b2 pos) (dS S cls W X (.ite t p q)) := by
  refine ps_weak (ps_if ht hp hq) fun D σ H hh => ?_
  obtain ⟨B, F, ρ, Dd, hR, hw, en⟩ := hh
  have hw' : wT S t ρ (fun k => if k = true then wSs S p Dd ρ else wSs S q Dd ρ) (fun c => Dd.ex c ρ) := hw
  refine ⟨B, F, ρ, _, _, hR, hw', fun k F1 H1 x1 g => ?_, en.exo hR⟩
  cases k with
  | true => exact ⟨B, F1, ρ, Dd, hR.ext x1, g, en.later x1.f⟩
  | false => exact ⟨B, F1, ρ, Dd, hR.ext x1, g, en.later x1.f⟩
theorem s_for {t : Tg} {it : PIt} {q : PSs} {body : List Stmt} (o : Ok S cls W k kn c X) (hr : c.raw.isNone = true) (ns : noSet l = true) (hI : PI X tg l (dI S cls W X true (isPair t) it)) (hg : PG X tg (gTg X.K t)) (hb : L2.PSs X body (dSs S cls W X q)) : PS X (.For tg l body [] pos) (dS S cls W X (.for_ t it q)) := by
  refine ps_weak (ps_for (o.po (Option.isNone_iff_eq_none.mp hr)) o.calm hI hg hb (noFold ns _)) fun D σ H hh => ?_
  obtain ⟨B, F, ρ, Dd, hR, hw, en⟩ := hh
  have hw' : wI S it ρ (fun items => wFor (fun d D₁ ρ' => wTg t d ρ' fun ρ'' => wSs S q D₁ ρ'') Dd items ρ) (fun c => Dd.ex c ρ) := hw
  generalize hf : (fun (d : PyData) (D₁ : Dn) (ρ' : Ev) => wTg t d ρ' fun ρ'' => wSs S q D₁ ρ'') = f at hw'
  refine ⟨B, F, ρ, _, _, hR, hw', fun J F1 H1 items G Y x1 wk hlen g => ?_, en.exo hR⟩
  refine for_it wk.w (fun i σ H => ∃ F2 ρ2, Rep X.K B F2 H σ ρ2 ∧ Same F1 F2 ∧ wFor f Dd (items.drop i) ρ2) ⟨F1, ρ, hR.ext x1, Same.refl _, g⟩ ?_ ?_ ?_
  · rintro i σ2 H2 _ ⟨F2, ρ2, hR2, s2, _⟩
    exact wk.g F2 H2 s2 hR2.fh (.inl rfl)
  · rintro i v σ2 H2 H3 hi ⟨F2, ρ2, hR2, s2, hw2⟩ hy
    obtain ⟨d, hd, ir⟩ := wk.y i F2 H2 v H3 hi s2 hR2.fh (.inl rfl) hy
    have hdrop : items.drop i = d :: items.drop (i + 1) := by
      rw [List.drop_eq_getElem_cons hi]
      rw [List.getElem?_eq_getElem hi] at hd
      rw [Option.some.inj hd]
    rw [hdrop] at hw2
    have hw3 : f d { Dd with nx := wFor f Dd (items.drop (i + 1)), ct := wFor f Dd (items.drop (i + 1)), bk := Dd.nx } ρ2 := hw2
    rw [← hf] at hw3
    refine gTg_run hR2 ir hw3 fun F3 σ' ρ' hR' x3 g3 _ _ => ?_
    refine ⟨B, F3, ρ', _, hR', g3, ?_, en.rt, fun σ4 H4 F4 ρ4 s4 hR4 h4 => en.nx _ _ F4 _ (x1.f.trans (s2.trans (x3.f.trans s4))) hR4 h4, ?_, fun c a σ4 H4 F4 ρ4 e4 s4 hR4 h4 => en.ex c a _ _ F4 _ e4 (x1.f.trans (s2.trans (x3.f.trans s4))) hR4 h4⟩
    · exact fun σ4 H4 F4 ρ4 s4 hR4 h4 => ⟨F4, ρ4, hR4, s2.trans (x3.f.trans s4), by rw [← hf]; exact h4⟩
    · exact fun σ4 H4 F4 ρ4 s4 hR4 h4 => ⟨F4, ρ4, hR4, s2.trans (x3.f.trans s4), by rw [← hf]; exact h4⟩
  · rintro σ2 H2 ⟨F2, ρ2, hR2, s2, hw2⟩
    rw [List.drop_length] at hw2
    exact en.nx _ _ F2 _ (x1.f.trans s2) hR2 hw2
end
end Pu

/-! soundness: more statements, and the trees whole -/
namespace Pu
open PySem PySem.Spec L2
section
variable {S : Spc} {cls : String → Option Addr} {W : WX} {k : Nat} {kn : Kn} {c : CC} {X : Cx} {l r tg : Expr} {pos p2 : Pos} {x y z : PX} {n : Str} {i j : Nat} {a b : Str}
theorem s_whl {t : PQ} {q : PSs} {body : List Stmt} (o : Ok S cls W k kn c X) (hr : c.raw.isNone = true) (ht : PT X l (dT S cls W X t)) (hb : L2.PSs X body (dSs S cls W X q)) : PS X (.While l body [] pos) (dS S cls W X (.whl t q)) := by
  refine ps_weak (ps_while (o.po (Option.isNone_iff_eq_none.mp hr)) ht hb) fun D σ H hh => ?_
  obtain ⟨B, F, ρ, Dd, hR, hw, en⟩ := hh
  obtain ⟨n, hw'⟩ : ∃ n, wWh (fun ρ' Q => wT S t ρ' Q (fun c => Dd.ex c ρ')) (fun D₁ ρ' => wSs S q D₁ ρ') Dd n ρ := hw
  refine ⟨fun m σ H => ∃ F2 ρ2, Rep X.K B F2 H σ ρ2 ∧ Same F F2 ∧ wWh (fun ρ' Q => wT S t ρ' Q (fun c => Dd.ex c ρ')) (fun D₁ ρ' => wSs S q D₁ ρ') Dd m ρ2, ⟨n, F, ρ, hR, Same.refl _, hw'⟩, ?_⟩
  rintro m σ2 H2 ⟨F2, ρ2, hR2, s2, hw2⟩
  cases m with
  | zero => exact hw2.elim
  | succ m =>
    have hw3 : wT S t ρ2 (fun k => if k = true then wSs S q { Dd with nx := wWh (fun ρ' Q => wT S t ρ' Q (fun c => Dd.ex c ρ')) (fun D₁ ρ' => wSs S q D₁ ρ') Dd m, ct := wWh (fun ρ' Q => wT S t ρ' Q (fun c => Dd.ex c ρ')) (fun D₁ ρ' => wSs S q D₁ ρ') Dd m, bk := Dd.nx } ρ2 else Dd.nx ρ2) (fun c => Dd.ex c ρ2) := hw2
    refine ⟨B, F2, ρ2, _, _, hR2, hw3, fun b F3 H3 x3 g => ?_, en.exo hR2 s2⟩
    cases b with
    | false => exact en.nx _ _ F3 _ (s2.trans x3.f) (hR2.ext x3) g
    | true =>
      have s3 := s2.trans x3.f
      refine ⟨fun σ' H' => ∃ F4 ρ4, Rep X.K B F4 H' σ' ρ4 ∧ Same F F4 ∧ wWh (fun ρ' Q => wT S t ρ' Q (fun c => Dd.ex c ρ')) (fun D₁ ρ' => wSs S q D₁ ρ') Dd m ρ4, fun σ' H' h => ⟨m, Nat.lt_succ_self m, h⟩, ?_⟩
      refine ⟨B, F3, ρ2, _, hR2.ext x3, g, ?_, en.rt, fun σ4 H4 F4 ρ4 s4 hR4 h4 => en.nx _ _ F4 _ (s3.trans s4) hR4 h4, ?_, fun c a σ4 H4 F4 ρ4 e4 s4 hR4 h4 => en.ex c a _ _ F4 _ e4 (s3.trans s4) hR4 h4⟩
      · exact fun σ4 H4 F4 ρ4 s4 hR4 h4 => ⟨F4, ρ4, hR4, s3.trans s4, h4⟩
      · exact fun σ4 H4 F4 ρ4 s4 hR4 h4 => ⟨F4, ρ4, hR4, s3.trans s4, h4⟩
theorem s_raise {e m : String} {y : Str} {u} {p3 p4 : Pos} (o : Ok S cls W k kn c X) (hr0 : c.raw.isNone = true) (h : gloB c (Str.ofString e) = true) (hb : kn.es.contains e = true) : PS X (.Raise (some (.Call (.Name (Str.ofString e) p2) [.Constant (.str y) u p3] [] p4)) none pos) (dS S cls W X (.raise e m)) := by
  obtain ⟨g1, g2⟩ := o.glo h
  obtain ⟨C, hc, hm, hk, hr, he⟩ := o.exc e hb
  refine ps_weak (ps_raise o.calm (o.tk (Option.isNone_iff_eq_none.mp hr0)) (pmk_own PySem.F.excBase_ValueError he hm hk hr g1 g2)) fun D σ H hh => ?_
  obtain ⟨B, F, ρ, Dd, hR, hw, en⟩ := hh
  have hw' : Dd.ex e ρ := hw
  exact (en.exo hR (Same.refl _)) e C H hc (Same.refl _) hw'
theorem s_frz {st : Stmt} {q : PSt} (h : PS X st (dS S cls W X q)) : PS X st (dS S cls W X (.frz i q)) := by
  refine ps_weak h fun D σ H hh => ?_
  obtain ⟨B, F, ρ, Dd, hR, hw, en⟩ := hh
  obtain ⟨ds, e, hw'⟩ : ∃ ds, ρ[i]? = some (.own ds) ∧ wS S q Dd (ρ.set i (.val (.list ds))) := hw
  obtain ⟨F', hR', s'⟩ := hR.frz' e
  exact ⟨B, F', _, Dd, hR', hw', en.later s'⟩
theorem s_snil : L2.PSs X [] (dSs S cls W X .nil) := ⟨fun pins s σ H D I hh => pss_nil.run pins s σ H D I (by
  obtain ⟨B, F, ρ, Dd, hR, hw, en⟩ := hh
  exact en.nx _ _ F _ (Same.refl _) hR hw)⟩
theorem s_scons {st : Stmt} {rest : List Stmt} {p : PSt} {q : PSs} (h1 : PS X st (dS S cls W X p)) (h2 : L2.PSs X rest (dSs S cls W X q)) : L2.PSs X (st :: rest) (dSs S cls W X (.cons p q)) := ⟨fun pins s σ H D I hh => (pss_cons h1 h2).run pins s σ H D I (by
  obtain ⟨B, F, ρ, Dd, hR, hw, en⟩ := hh
  have hw' : wS S p { Dd with nx := fun ρ' => wSs S q Dd ρ' } ρ := hw
  refine ⟨B, F, ρ, _, hR, hw', fun σ4 H4 F4 ρ4 s4 hR4 h4 => ?_, en.rt, en.bk, en.ct, en.ex⟩
  exact ⟨B, F4, ρ4, Dd, hR4, h4, en.later s4⟩)⟩
end
/-! try .. except -/
theorem Rep.setn {K : PySem.W.Frag} {B : Bs} {F H : Hp} {σ : L2.St} {ρ : Ev} (r : Rep K B F H σ ρ) {j : Nat} {v : Option V} : Rep K B F H (σ.set j v) (ρ.set j .un) where
  len := by rw [List.length_set, List.length_set]; exact r.len
  x := r.x
  at_ := fun m t e => by
    by_cases hm : j = m
    · subst hm
      by_cases hl : j < ρ.length
      · rw [List.getElem?_set_self hl] at e
        have e' := Option.some.inj e
        subst e'
        trivial
      · rw [List.getElem?_eq_none (by rw [List.length_set]; omega)] at e
        cases e
    · rw [List.getElem?_set_ne hm] at e
      rw [List.getElem?_set_ne hm]
      exact r.at_ m t e
  inj := fun m n b hmn om on em en => by
    have hj : ∀ q, Ow (ρ.set j .un) q → j ≠ q ∧ Ow ρ q := fun q oq => by
      obtain ⟨t, e, w⟩ := oq
      by_cases hq : j = q
      · subst hq
        by_cases hl : j < ρ.length
        · rw [List.getElem?_set_self hl] at e
          have e' := Option.some.inj e
          subst e'
          cases w
        · rw [List.getElem?_eq_none (by rw [List.length_set]; omega)] at e
          cases e
      · rw [List.getElem?_set_ne hq] at e
        exact ⟨hq, t, e, w⟩
    obtain ⟨h1, h2⟩ := hj m om
    obtain ⟨h3, h4⟩ := hj n on
    rw [List.getElem?_set_ne h1] at em
    rw [List.getElem?_set_ne h3] at en
    exact r.inj m n b hmn h2 h4 em en
def cstV : Option String → V
  | none => .non
  | some x => .str (Str.ofString x)
theorem cst_dq {K : PySem.W.Frag} {F : Hp} : ∀ z, Dq K F (cstV z) (cstD z)
  | none => .non
  | some x => .str _
section
variable {S : Spc} {cls : String → Option Addr} {W : WX} {k : Nat} {kn : Kn} {c : CC} {X : Cx} {pos p2 : Pos} {n : Str} {i j : Nat} {z : Option String} {nm : Option Nat} {ts : List (Bool × String)}
theorem s_cst {e : Expr} (h : cstB z e = true) : PE X e (tC (cstV z)) := by
  unfold cstB at h
  split at h
  · exact pe_non
  · have e := of_decide_eq_true h
    subst e
    exact pe_str
  · cases h
theorem s_asg {st : Stmt} (o : Ok S cls W k kn c X) (h : asgB c i z st = true) (a : Addr) (pn : List (Addr × Obj)) : PS (X.suite a pn) st (fun D σ H => D.nx (σ.set i (some (cstV z))) H) := by
  unfold asgB at h
  split at h
  · rw [Bool.and_eq_true] at h
    obtain ⟨h1, h2, h3⟩ := o.loc h.1
    have nc : ∀ e : Expr, cstB z e = true → isComp e = false := fun e he => by
      unfold cstB at he
      split at he <;> first | rfl | cases he
    exact ps_weak (ps_set (X := X.suite a pn) (by show X.N.Nodup; rw [o.N]; exact o.nd) h1 h2 (s_cst h.2) (swaps0 (nc _ h.2) _ _ _) h3) fun D σ H q => q
  · cases h
def tIsx (b : Bool) (j : Nat) (a : Addr) : TT := fun σ H Q => σ[j]? = some (some (.ref a)) ∧ Q b H
theorem s_isx {e : Expr} {m : String} (o : Ok S cls W k kn c X) (h : isxB kn c j m e = true) {a D0 : Addr} {c0 : String} {oe : Obj} {pn : List (Addr × Obj)} (hc : cls c0 = some D0) (hz : Zc (.ref D0) none oe) (hf : ∃ vs, oe.data = .fields vs) :
    PT (X.suite a ((a, oe) :: pn)) e (tIsx (subC c0 m) j a) := by
  unfold isxB at h
  split at h
  · simp only [Bool.and_eq_true, decide_eq_true_eq] at h
    obtain ⟨⟨⟨⟨h1, h2⟩, h3⟩, h4⟩, h5⟩ := h
    subst h3
    obtain ⟨e1, g, g2, mg⟩ := o.bltn h1
    subst e1
    obtain ⟨gl, gd⟩ := o.glo h4
    obtain ⟨v1, v2, v3, v4⟩ := o.vis h2
    obtain ⟨v, u, hv, hk⟩ := o.hnd m h5
    obtain ⟨_, k2, k3⟩ := hk c0 D0 hc
    have hu : ∀ u', RelV v u' → u' = u := fun u' r => by
      rcases hv with ⟨C, _, e1, e2⟩ | ⟨_, t, _, _, e1, e2⟩ <;> (subst e1 e2; cases r; rfl)
    have hr : RelV v u := by
      rcases hv with ⟨C, _, e1, e2⟩ | ⟨_, t, _, _, e1, e2⟩ <;> (subst e1 e2; rfl)
    have hcl : ∀ p, PE (X.suite a ((a, oe) :: pn)) (.Name (Str.ofString m) p) (tC v) := fun p => by
      rcases hv with ⟨C, q1, q2, q3⟩ | ⟨q0, t, q1, qn, q2, q3⟩
      · exact pe_glob (X := X.suite a ((a, oe) :: pn)) gl (by rw [← q3] at q1; exact q1) hr gd
      · exact pe_bltn (X := X.suite a ((a, oe) :: pn)) gl q0 (by rw [← q3] at q1; exact q1) hr qn gd
    refine pt_weak (pt_val (pe_callB (X := X.suite a ((a, oe) :: pn)) (call_isE k3 hz hf) g mg (by decide +kernel) (pa_cons (pe_var (X := X.suite a ((a, oe) :: pn)) v1 v2 v3 v4) (pa_cons (hcl _) pa_nil (star1 rfl _ _)) (star1 rfl _ _)) (nname _) g2 (star1 rfl _ _) rfl) (plainTest rfl _)) fun σ H Q hh => ?_
    obtain ⟨q1, q2⟩ := hh
    exact ⟨.ref a, q1, v, u, _, rfl, hu, k2, _, rfl, q2⟩
  · cases h
theorem s_tst {e : Expr} {t : Bool × String} (o : Ok S cls W k kn c X) (h : tstB kn c j t e = true) {a D0 : Addr} {c0 : String} {oe : Obj} {pn : List (Addr × Obj)} (hc : cls c0 = some D0) (hz : Zc (.ref D0) none oe) (hf : ∃ vs, oe.data = .fields vs) :
    PT (X.suite a ((a, oe) :: pn)) e (tIsx (t.1 ^^ subC c0 t.2) j a) := by
  obtain ⟨b, m⟩ := t
  unfold tstB at h
  split at h
  · rw [Bool.and_eq_true] at h
    obtain ⟨h1, h2⟩ := h
    have h1' : b = true := h1
    subst h1'
    refine pt_weak (pt_not (s_isx o h2 hc hz hf)) fun σ H Q hh => ?_
    obtain ⟨q1, q2⟩ := hh
    exact ⟨q1, by rw [Bool.true_xor] at q2; exact q2⟩
  · rw [Bool.and_eq_true] at h
    obtain ⟨h1, h2⟩ := h
    have h1' : b = false := by simpa using h1
    subst h1'
    refine pt_weak (s_isx o h2 hc hz hf) fun σ H Q hh => ?_
    obtain ⟨q1, q2⟩ := hh
    exact ⟨q1, by rw [Bool.false_xor] at q2; exact q2⟩
theorem s_tsts (o : Ok S cls W k kn c X) {a D0 : Addr} {c0 : String} {oe : Obj} {pn : List (Addr × Obj)} (hc : cls c0 = some D0) (hz : Zc (.ref D0) none oe) (hf : ∃ vs, oe.data = .fields vs) :
    ∀ (ts : List (Bool × String)) (e : Expr) (es : List Expr), tstsB kn c j ts (e :: es) = true → PW (X.suite a ((a, oe) :: pn)) (.BoolOp .And (e :: es) pos) (tIsx (ts.all (fun t => t.1 ^^ subC c0 t.2)) j a)
  | [], e, es, h => by cases h
  | [t], e, [], h => by
    unfold tstsB at h
    rw [Bool.and_eq_true] at h
    refine pw_weak (pw_and1 (s_tst o h.1 hc hz hf)) fun σ H Q hh => ?_
    obtain ⟨q1, q2⟩ := hh
    exact ⟨q1, by rw [List.all_cons, List.all_nil, Bool.and_true] at q2; exact q2⟩
  | [t], e, e2 :: es, h => by
    unfold tstsB at h
    rw [Bool.and_eq_true] at h
    cases h.2
  | t :: t2 :: ts, e, [], h => by
    unfold tstsB at h
    rw [Bool.and_eq_true] at h
    cases h.2
  | t :: t2 :: ts, e, e2 :: es, h => by
    unfold tstsB at h
    rw [Bool.and_eq_true] at h
    refine pw_weak (pw_and (s_tst o h.1 hc hz hf) (s_tsts o hc hz hf (t2 :: ts) e2 es h.2)) fun σ H Q hh => ?_
    obtain ⟨q1, q2⟩ := hh
    refine ⟨q1, ?_⟩
    rw [List.all_cons] at q2
    cases hb : (t.1 ^^ subC c0 t.2) with
    | true =>
      rw [hb, Bool.true_and] at q2
      exact ⟨q1, q2⟩
    | false =>
      rw [hb, Bool.false_and] at q2
      exact q2
/-- what a suite does -/
def denH (K : PySem.W.Frag) (cls : String → Option Addr) (nm : Option Nat) (ts : List (Bool × String)) (i : Nat) (z : Option String) (a : Addr) (cv : Value) (d : Option Addr) : TS := fun D σ H =>
  ∃ B F ρ c0 D0, cls c0 = some D0 ∧ cv = .ref D0 ∧ d = none ∧ Rep K B F H σ ρ ∧ (∀ j, nm = some j → ∃ σ0 : L2.St, σ = σ0.set j (some (.ref a))) ∧
    ∀ σ', Rep K B F H σ' (if ts.all (fun t => t.1 ^^ subC c0 t.2) = true then ρ.set i (.val (cstD z)) else ρ) → D.nx σ' H
theorem s_suite {b₀ : Stmt} {suite : List Stmt} (o : Ok S cls W k kn c X) (h : suiB kn c nm ts i z (b₀ :: suite) = true) (a : Addr) (oe : Obj) (cv : Value) (d : Option Addr) (pn : List (Addr × Obj)) (hz : Zc cv d oe) (hf : ∃ vs, oe.data = .fields vs) (hjn : ∀ j, nm = some j → j < X.N.length) :
    L2.PSs (X.suite a ((a, oe) :: pn)) (b₀ :: suite) (denH X.K cls nm ts i z a cv d) := by
  by_cases hd : ∃ c0 D0, cls c0 = some D0 ∧ cv = .ref D0 ∧ d = none
  · obtain ⟨c1, D1, hc1, rfl, rfl⟩ := hd
    refine ⟨fun pins s σ H D I hh => ?_⟩
    obtain ⟨B, F, ρ, c0, D0, hc, e1, _, hR, hj, q⟩ := hh
    cases e1
    unfold suiB at h
    split at h
    · rename_i e es p2 a' p3 heq
      injection heq with hq1 hq2
      subst hq1 hq2
      cases nm with
      | none => cases h
      | some j =>
        rw [Bool.and_eq_true] at h
        refine (pss_one (ps_if (s_tsts o hc hz hf ts e es h.1).pt (pss_one (s_asg o h.2 a ((a, oe) :: pn))) pss_nil)).run pins s σ H D I ?_
        obtain ⟨σ0, e0⟩ := hj j rfl
        have hl : σ.length = X.N.length := I.len
        have hj' : σ[j]? = some (some (.ref a)) := by
          have := hjn j rfl
          rw [e0]
          rw [e0, List.length_set] at hl
          exact List.getElem?_set_self (by omega)
        refine ⟨hj', ?_⟩
        cases hb : ts.all (fun t => t.1 ^^ subC c0 t.2) with
        | true =>
          rw [hb, if_pos rfl] at q
          rw [if_pos rfl]
          exact q _ (hR.setv (cst_dq z))
        | false =>
          rw [hb, if_neg (by decide)] at q
          rw [if_neg (by decide)]
          exact q _ hR
    · rename_i a' _ heq
      injection heq with hq1 hq2
      subst hq1 hq2
      rw [Bool.and_eq_true] at h
      have e0 : ts = [] := List.isEmpty_iff.mp h.1
      subst e0
      refine (pss_one (s_asg o h.2 a ((a, oe) :: pn))).run pins s σ H D I ?_
      rw [List.all_nil, if_pos rfl] at q
      exact q _ (hR.setv (cst_dq z))
    · cases h
  · refine ⟨fun pins s σ H D I hh => ?_⟩
    obtain ⟨B, F, ρ, c0, D0, hc, e1, e2, _⟩ := hh
    exact absurd ⟨c0, D0, hc, e1, e2⟩ hd
theorem Ok.tr (o : Ok S cls W k kn c X) {W' : WX} {pn : List (Addr × Obj)} {xe : Value → Shared → Prop} (tk : Takes (X.tr pn xe) W') (po : PassesOwn (model X.prog X.w) X.A X.env xe) : Ok S cls W' k kn c (X.tr pn xe) where
  N := o.N
  sc := o.sc
  calm := o.calm
  room := o.room
  nd := o.nd
  fk := o.fk
  fn := o.fn
  fns := o.fns
  blt := o.blt
  exc := o.exc
  hnd := o.hnd
  stk := o.stk
  tk := fun _ => tk
  po := fun _ => po
  pa := passAt tk
theorem s_try {q : PSs} {cn : String} {body suite : List Stmt} {nx : Option Str} {np pos' : Pos} (o : Ok S cls W k kn c X) (hg : gloB c (Str.ofString cn) = true) (hh : kn.hs.contains cn = true) (hnm : nmB c i nm nx = true) (hr : c.raw.isNone = true)
    (hs : suiB kn c nm ts i z suite = true) (hb : ∀ {W' : WX} {X' : Cx}, Ok S cls W' k kn c X' → L2.PSs X' body (dSs S cls W' X' q)) :
    PS X (.Try body [.ExceptHandler (some (.Name (Str.ofString cn) np)) nx suite pos'] [] [] pos) (dS S cls W X (.try_ q cn nm ts i z)) := by
  obtain ⟨st1, st2⟩ := o.stk (Option.isNone_iff_eq_none.mp hr)
  obtain ⟨gl, gd⟩ := o.glo hg
  obtain ⟨v, u, hv, hk⟩ := o.hnd cn hh
  have hN : Names X (Str.ofString cn) u := ⟨gl, gd, by
    rcases hv with ⟨C, q1, _, q3⟩ | ⟨q0, t, q1, qn, _, q3⟩
    · exact .inl (by rw [q3]; exact q1)
    · exact .inr ⟨q0, by rw [q3]; exact q1, qn⟩⟩
  cases suite with
  | nil => unfold suiB at hs; split at hs <;> first | cases hs | (rename_i heq; cases heq)
  | cons b₀ suite =>
    cases nm with
    | none =>
      cases nx with
      | some y => cases hnm
      | none =>
        refine ps_weak (ps_try_only st1 st2 hN (o.tk (Option.isNone_iff_eq_none.mp hr)) (tb := fun W' => dSs S cls W' X q) (fun W' pn xe tk po => hb (o.tr tk po)) (fun a oe cv d pn hz hf => s_suite o hs a oe cv d pn hz hf fun j e => by cases e)) fun D σ H hh => ?_
        obtain ⟨B, F, ρ, Dd, hR, hw, en⟩ := hh
        have hw' : wSs S q { Dd with ex := fun c ρ' => if subC c cn = true then Dd.nx (hndE none ts i z c ρ') else Dd.ex c ρ' } ρ := hw
        refine ⟨B, F, ρ, _, hR, hw', en.nx, en.rt, en.bk, en.ct, fun c0 a σ' H' F' ρ' hc s' hR' g => ?_⟩
        obtain ⟨k1, _, _⟩ := hk c0 a hc
        refine ⟨_, k1, fun hb' a' ha' => ?_, fun hb' => ?_⟩
        · have g' : Dd.nx (hndE none ts i z c0 ρ') := by
            have := g
            simp only [hb', if_true] at this
            exact this
          exact ⟨B, F', ρ', c0, a, hc, rfl, rfl, hR', (fun j e => by cases e), fun σ2 hR2 => en.nx _ _ F' _ s' hR2 g'⟩
        · have g' : Dd.ex c0 ρ' := by
            have := g
            simp only [hb'] at this
            exact this
          exact en.ex c0 a _ _ F' _ hc s' hR' g'
    | some j =>
      cases nx with
      | none => cases hnm
      | some y =>
        unfold nmB at hnm
        simp only [Bool.and_eq_true, decide_eq_true_eq, Bool.not_eq_true'] at hnm
        obtain ⟨⟨⟨⟨n1, n2⟩, n3⟩, n4⟩, n5⟩ := hnm
        refine ps_weak (ps_try_as (i := j) st1 st2 (by rw [o.N]; exact o.nd) (by rw [o.N]; exact n1) (by show X.env.scope.names.lookup y = some .local; rw [o.sc]; exact n2) hN (o.tk (Option.isNone_iff_eq_none.mp hr)) (tb := fun W' => dSs S cls W' X q) (fun W' pn xe tk po => hb (o.tr tk po)) (fun a oe cv d pn hz hf => s_suite o hs a oe cv d pn hz hf fun j' e => by cases e; rw [o.N]; exact (List.getElem?_eq_some_iff.mp n1).1)) fun D σ H hh => ?_
        obtain ⟨B, F, ρ, Dd, hR, hw, en⟩ := hh
        have hw' : wSs S q { Dd with ex := fun c ρ' => if subC c cn = true then Dd.nx (hndE (some j) ts i z c ρ') else Dd.ex c ρ' } ρ := hw
        refine ⟨B, F, ρ, _, hR, hw', en.nx, en.rt, en.bk, en.ct, fun c0 a σ' H' F' ρ' hc s' hR' g => ?_⟩
        obtain ⟨k1, _, _⟩ := hk c0 a hc
        refine ⟨_, k1, fun hb' a' ha' => ?_, fun hb' => ?_⟩
        · have g' : Dd.nx (hndE (some j) ts i z c0 ρ') := by
            have := g
            simp only [hb', if_true] at this
            exact this
          exact ⟨B, F', ρ'.set j .un, c0, a, hc, rfl, rfl, hR'.setn, (fun j' e => by cases e; exact ⟨_, rfl⟩), fun σ2 hR2 => en.nx _ _ F' _ s' hR2.setn g'⟩
        · have g' : Dd.ex c0 ρ' := by
            have := g
            simp only [hb'] at this
            exact this
          exact en.ex c0 a _ _ F' _ hc s' hR' g'
end
end Pu

/-! soundness of the trees -/
namespace Pu
open PySem PySem.Spec L2
variable {S : Spc} {cls : String → Option Addr} {k : Nat} {kn : Kn}
def isCm : PX → Bool
  | .cmp .. => true | .chain .. => true | .eq .. => true | .isN .. => true | .isB .. => true | .mem .. => true | .memD .. => true | _ => false
/-- a value, a store, a test -/
structure PR (X : Cx) (e : Expr) (t : TE) (cm : Bool) : Prop where
  a : PEA X e t
  ns : noStar e = true
  t : cm = true → PT X e (tTest t)
theorem PR.of {X : Cx} {e : Expr} {t : TE} (h : PE X e t) (nc : isComp e = false := by rfl) (ns : noStar e = true := by rfl) : PR X e t false := ⟨PEA.of h nc, ns, fun z => by cases z⟩
theorem PR.c {X : Cx} {e : Expr} {t : TE} (h : PEC X e t) (nc : isComp e = false := by rfl) (ns : noStar e = true := by rfl) : PR X e t true := ⟨PEA.of h.e nc, ns, fun _ => h.t⟩
structure PF' (X : Cx) (e : Expr) (t : TE) : Prop where
  a : PEA X e t
  ns : noStar e = true
theorem PF'.of {X : Cx} {e : Expr} {t : TE} (h : PE X e t) (nc : isComp e = false := by rfl) (ns : noStar e = true := by rfl) : PF' X e t := ⟨PEA.of h nc, ns⟩
theorem fr_w {W : WX} {X : Cx} {f : PF} (σ : L2.St) (H : Hp) (Q : VK) (hh : dE S cls W X (.fr f) σ H Q) : dF S cls W X f σ H Q := by
  obtain ⟨B, F, ρ, Qd, Ed, hR, h, hq, he⟩ := hh
  have h' : wF S f ρ (fun ds => Qd (.list ds)) Ed := h
  refine ⟨B, F, ρ, _, Ed, hR, h', fun v F1 H1 ds x1 r1 g => ?_, he⟩
  obtain ⟨a, rfl, h0, xs, hh, hf, q⟩ := r1
  have s1 : Same F1 (upd F1 a (.lst xs)) := same_upd hf
  refine hq _ (upd F1 a (.lst xs)) H1 _ ⟨x1.f.trans s1, x1.h, fun b o hb => ?_, fun b h1 h2 => ?_⟩ (.lst (.inl (.inl upd_same)) (DqAll.mono s1 _ _ q)) g
  · by_cases hba : b = a
    · subst hba
      rw [upd_same] at hb
      rw [← hb]
      exact hh
    · rw [upd_ne hba] at hb
      exact x1.fh _ _ hb
  · have hba : b ≠ a := fun e => h1 (e ▸ h0)
    rw [upd_ne hba]
    exact x1.o b h1 h2
theorem notComp {e : Expr} (h : (!isComp e) = true) : isComp e = false := by simpa using h
structure PAr (X : Cx) (S : Spc) (cls : String → Option Addr) (W : WX) (es : List Expr) (p : PXs) : Prop where
  a : PA X es (dA S cls W X es.length p)
  o : ∀ an pos, PE X (.BoolOp (if an then .And else .Or) es pos) (dBo S cls W X an p)
structure PTr (X : Cx) (S : Spc) (cls : String → Option Addr) (W : WX) (es : List Expr) (p : PQs) : Prop where
  w : ∀ an pos, es ≠ [] → PW X (.BoolOp (if an then .And else .Or) es pos) (dTs S cls W X an p)
  t : es.length ≤ 1 → L2.PTs X es (dTs S cls W X true p)
theorem s_bo0 {W : WX} {X : Cx} {es : List Expr} {an : Bool} {pos : Pos} : PE X (.BoolOp (if an then .And else .Or) es pos) (dBo S cls W X an .nil) := ⟨fun pins s σ H Q I q => by
  obtain ⟨B, F, ρ, Qd, Ed, hR, h, _⟩ := q
  have h' : False := h
  exact h'.elim⟩
theorem s_ts0 {W : WX} {X : Cx} : L2.PTs X [] (dTs S cls W X true .nil) := ⟨fun pins s σ H Q I hh => pts_nil.run pins s σ H Q I (by
  obtain ⟨B, F, ρ, Qd, Ed, hR, h, hq, _⟩ := hh
  have h' : Qd true := h
  exact hq true F H (Ext.refl hR.fh) h')⟩
theorem s_ts1 {W : WX} {X : Cx} {e : Expr} {t : PQ} (h : PT X e (dT S cls W X t)) : L2.PTs X [e] (dTs S cls W X true (.cons t .nil)) := ⟨fun pins s σ H Q I hh => (pts_one h).run pins s σ H Q I (by
  obtain ⟨B, F, ρ, Qd, Ed, hR, h, hq, he⟩ := hh
  exact ⟨B, F, ρ, Qd, Ed, hR, h, hq, he⟩)⟩
theorem tgTup {c : CC} {t : Tg} {tg : Expr} (h : tgB c t tg = true) (hp : isPair t = true) : ∃ es u tp, tg = .Tuple es u tp := by
  cases t with
  | one i => cases hp
  | many is =>
    unfold tgB at h
    split at h
    · cases ‹Tg.many _ = _›
    · exact ⟨_, _, _, rfl⟩
    · cases h

mutual
theorem qE (h0 : 1 ≤ k) : ∀ (x : PX) {W : WX} {c : CC} {X : Cx} (o : Ok S cls W k kn c X) (e : Expr), cE kn c x e = true → PR X e (dE S cls W X x) (isCm x)
  | .v i, W, c, X, o, e, h => by
    simp only [cE] at h
    split at h
    · exact .of (s_v o h)
    · cases h
  | .i z, W, c, X, o, e, h => by
    simp only [cE] at h
    split at h
    · cases of_decide_eq_true h
      exact .of s_i
    · cases h
  | .b x, W, c, X, o, e, h => by
    simp only [cE] at h
    split at h
    · cases of_decide_eq_true h
      exact .of s_b
    · cases h
  | .n, W, c, X, o, e, h => by
    simp only [cE] at h
    split at h
    · exact .of s_n
    · cases h
  | .s x, W, c, X, o, e, h => by
    simp only [cE] at h
    split at h
    · cases of_decide_eq_true h
      exact .of s_s
    · cases h
  | .add x y, W, c, X, o, e, h => by
    simp only [cE] at h
    split at h
    · simp only [Bool.and_eq_true, decide_eq_true_eq, Bool.not_eq_true'] at h
      exact .of (s_add o (qE h0 x o _ h.1).a.pe (qE h0 y o _ h.2).a.pe)
    · cases h
  | .sub x y, W, c, X, o, e, h => by
    simp only [cE] at h
    split at h
    · simp only [Bool.and_eq_true, decide_eq_true_eq, Bool.not_eq_true'] at h
      exact .of (s_sub o (qE h0 x o _ h.1).a.pe (qE h0 y o _ h.2).a.pe)
    · cases h
  | .mul x y, W, c, X, o, e, h => by
    simp only [cE] at h
    split at h
    · simp only [Bool.and_eq_true, decide_eq_true_eq, Bool.not_eq_true'] at h
      exact .of (s_mul o (qE h0 x o _ h.1).a.pe (qE h0 y o _ h.2).a.pe)
    · cases h
  | .md x y, W, c, X, o, e, h => by
    simp only [cE] at h
    split at h
    · simp only [Bool.and_eq_true, decide_eq_true_eq, Bool.not_eq_true'] at h
      exact .of (s_md o (qE h0 x o _ h.1).a.pe (qE h0 y o _ h.2).a.pe)
    · cases h
  | .fd x y, W, c, X, o, e, h => by
    simp only [cE] at h
    split at h
    · simp only [Bool.and_eq_true, decide_eq_true_eq, Bool.not_eq_true'] at h
      exact .of (s_fd o (qE h0 x o _ h.1).a.pe (qE h0 y o _ h.2).a.pe)
    · cases h
  | .neg x, W, c, X, o, e, h => by
    simp only [cE] at h
    split at h
    · exact .of (s_neg o (qE h0 x o _ h).a.pe)
    · cases h
  | .bool an es, W, c, X, o, e, h => by
    simp only [cE] at h
    split at h
    · simp only [Bool.and_eq_true, decide_eq_true_eq, Bool.not_eq_true'] at h
      obtain ⟨h1, h2⟩ := h
      subst h1
      exact .of (pe_weak ((qEs h0 es o _ h2).o an _) fun σ H Q q => q)
    · cases h
  | .not x, W, c, X, o, e, h => by
    simp only [cE] at h
    split at h
    · exact .of (s_not o (qE h0 x o _ h).a.pe)
    · cases h
  | .notL x, W, c, X, o, e, h => by
    simp only [cE] at h
    split at h
    · exact .of (s_notL o (qB h0 x o _ h))
    · cases h
  | .cmp cm x y, W, c, X, o, e, h => by
    simp only [cE] at h
    split at h
    · simp only [Bool.and_eq_true, decide_eq_true_eq, Bool.not_eq_true'] at h
      obtain ⟨⟨h1, h2⟩, h3⟩ := h
      subst h1
      exact .c (s_cmp o (qE h0 x o _ h2).a.pe (qE h0 y o _ h3).a.pe)
    · cases h
  | .chain c1 c2 x y z, W, c, X, o, e, h => by
    simp only [cE] at h
    split at h
    · simp only [Bool.and_eq_true, decide_eq_true_eq, Bool.not_eq_true'] at h
      obtain ⟨⟨⟨⟨h1, h2⟩, h3⟩, h4⟩, h5⟩ := h
      subst h1
      subst h2
      exact .c (s_chain o (qE h0 x o _ h3).a.pe (qE h0 y o _ h4).a.pe (qE h0 z o _ h5).a.pe)
    · cases h
  | .eq ne x y, W, c, X, o, e, h => by
    simp only [cE] at h
    split at h
    · simp only [Bool.and_eq_true, decide_eq_true_eq, Bool.not_eq_true'] at h
      obtain ⟨⟨h1, h2⟩, h3⟩ := h
      subst h1
      exact .c (s_eq o (qB h0 x o _ h2) (qB h0 y o _ h3))
    · cases h
  | .isN ne x, W, c, X, o, e, h => by
    simp only [cE] at h
    split at h
    · simp only [Bool.and_eq_true, decide_eq_true_eq, Bool.not_eq_true'] at h
      obtain ⟨h1, h2⟩ := h
      subst h1
      exact .c (s_isN o (qE h0 x o _ h2).a.pe)
    · cases h
  | .isB ne d x, W, c, X, o, e, h => by
    simp only [cE] at h
    split at h
    · simp only [Bool.and_eq_true, decide_eq_true_eq, Bool.not_eq_true'] at h
      obtain ⟨⟨h1, h2⟩, h3⟩ := h
      subst h1
      subst h2
      exact .c (s_isB o (qE h0 x o _ h3).a.pe)
    · cases h
  | .mem ne x y, W, c, X, o, e, h => by
    simp only [cE] at h
    split at h
    · simp only [Bool.and_eq_true, decide_eq_true_eq, Bool.not_eq_true'] at h
      obtain ⟨⟨⟨h1, h2⟩, h3⟩, h4⟩ := h
      subst h1
      exact .c (s_mem o h0 h2 (qE h0 x o _ h3).a.pe (qB h0 y o _ h4))
    · cases h
  | .memD ne x i, W, c, X, o, e, h => by
    simp only [cE] at h
    split at h
    · simp only [Bool.and_eq_true, decide_eq_true_eq, Bool.not_eq_true'] at h
      obtain ⟨⟨h1, h2⟩, h3⟩ := h
      subst h1
      exact .c (s_memD o (qE h0 x o _ h2).a.pe h3)
    · cases h
  | .getD i x, W, c, X, o, e, h => by
    simp only [cE] at h
    split at h
    · simp only [Bool.and_eq_true, decide_eq_true_eq, Bool.not_eq_true'] at h
      obtain ⟨⟨h1, h2⟩, h3⟩ := h
      exact .of (s_getD o h2 h1 (qE h0 x o _ h3).a.pe)
    · cases h
  | .call f es, W, c, X, o, e, h => by
    simp only [cE] at h
    split at h
    · simp only [Bool.and_eq_true, decide_eq_true_eq, Bool.not_eq_true'] at h
      obtain ⟨⟨⟨⟨⟨h1, h2⟩, h3⟩, h4⟩, h5⟩, h6⟩ := h
      subst h1
      exact .of (s_call o h2 h3 h4 h5 (qEs h0 es o _ h6).a)
    · cases h
  | .bi f x, W, c, X, o, e, h => by
    simp only [cE] at h
    split at h
    · simp only [Bool.and_eq_true, decide_eq_true_eq, Bool.not_eq_true'] at h
      obtain ⟨⟨h1, h2⟩, h3⟩ := h
      exact .of (s_bi o h0 h1 h2 (qB h0 x o _ h3))
    · cases h
  | .isi t x, W, c, X, o, e, h => by
    simp only [cE] at h
    split at h
    · simp only [Bool.and_eq_true, decide_eq_true_eq, Bool.not_eq_true'] at h
      obtain ⟨⟨⟨h1, h2⟩, h3⟩, h4⟩ := h
      exact .of (s_isi o h1 h2 h3 (qE h0 x o _ h4).a.pe)
    · cases h
  | .ix x y, W, c, X, o, e, h => by
    simp only [cE] at h
    split at h
    · simp only [Bool.and_eq_true, decide_eq_true_eq, Bool.not_eq_true'] at h
      obtain ⟨⟨h1, h2⟩, h3⟩ := h
      exact .of (s_ix o h1 (qB h0 x o _ h2) (qE h0 y o _ h3).a.pe)
    · cases h
  | .sl x lo hi, W, c, X, o, e, h => by
    simp only [cE] at h
    split at h
    · simp only [Bool.and_eq_true, decide_eq_true_eq, Bool.not_eq_true'] at h
      obtain ⟨⟨h1, h2⟩, h3⟩ := h
      exact .of (s_sl o (qE h0 x o _ h1).a.pe (qO h0 lo o _ h2) (qO h0 hi o _ h3))
    · cases h
  | .tup es, W, c, X, o, e, h => by
    simp only [cE] at h
    split at h
    · simp only [Bool.and_eq_true, decide_eq_true_eq, Bool.not_eq_true'] at h
      obtain ⟨⟨h1, h2⟩, h3⟩ := h
      exact .of (s_tup h1 (qEs h0 es o _ h3).a)
    · cases h
  | .fr l, W, c, X, o, e, h => by
    simp only [cE] at h
    have hf := qF h0 l o _ h
    exact ⟨hf.a.weak fr_w, hf.ns, fun z => by cases z⟩
  | .idx x y, W, c, X, o, e, h => by
    simp only [cE] at h
    split at h
    · simp only [Bool.and_eq_true, decide_eq_true_eq, Bool.not_eq_true'] at h
      obtain ⟨⟨⟨⟨⟨h1, h2⟩, h3⟩, h4⟩, h5⟩, h6⟩ := h
      subst h1
      exact .of (s_idx (p3 := ‹Pos›) o h0 h2 h3 h4 (qB h0 x o _ h5) (qE h0 y o _ h6).a.pe)
    · cases h
  | .join x y, W, c, X, o, e, h => by
    simp only [cE] at h
    split at h
    · simp only [Bool.and_eq_true, decide_eq_true_eq, Bool.not_eq_true'] at h
      obtain ⟨⟨⟨⟨⟨h1, h2⟩, h3⟩, h4⟩, h5⟩, h6⟩ := h
      subst h1
      exact .of (s_join o h2 h3 h4 (qE h0 x o _ h5).a.pe (qB h0 y o _ h6))
    · cases h
  | .tcx own tg src x, W, c, X, o, e, h => by
    simp only [cE] at h
    split at h
    · simp only [Bool.and_eq_true, decide_eq_true_eq, Bool.not_eq_true'] at h
      obtain ⟨⟨⟨⟨⟨⟨⟨⟨⟨h1, hb⟩, hr⟩, h2⟩, h3⟩, hz1⟩, h4⟩, h5⟩, h6⟩, h9⟩ := h
      subst h1
      exact .of (s_tcx o hr hb h2 h3 (qI h0 src o _ _ false (isPair tg) (fun z => by cases z) (fun z => tgTup h5 z) (.inl hz1) h4) (fun W' X' o' => s_tg o' h5) h6 (fun W' X' o' => (qE h0 x o' _ h9).a.pe))
    · cases h
theorem qEs (h0 : 1 ≤ k) : ∀ (p : PXs) {W : WX} {c : CC} {X : Cx} (o : Ok S cls W k kn c X) (es : List Expr), cEs kn c p es = true → PAr X S cls W es p
  | .nil, W, c, X, o, es, h => by
    simp only [cEs] at h
    split at h
    · exact ⟨s_nil, fun an pos => s_bo0⟩
    · cases h
  | .cons x .nil, W, c, X, o, es, h => by
    simp only [cEs] at h
    split at h
    · rename_i e es
      simp only [cEs, Bool.and_eq_true] at h
      obtain ⟨h1, h2⟩ := h
      split at h2
      · have hx := qE h0 x o _ h1
        refine ⟨?_, fun an pos => s_o1 hx.a.pe⟩
        exact s_cons hx.ns hx.a.pe s_nil
      · cases h2
    · cases h
  | .cons x (.cons y r), W, c, X, o, es, h => by
    have hh : ∃ e es', es = e :: es' ∧ cE kn c x e = true ∧ cEs kn c (.cons y r) es' = true := by
      cases es with
      | nil => simp [cEs] at h
      | cons e es' =>
        refine ⟨e, es', rfl, ?_⟩
        have h' : (cE kn c x e && cEs kn c (.cons y r) es') = true := h
        rw [Bool.and_eq_true] at h'
        exact h'
    obtain ⟨e, es', rfl, h1, h2⟩ := hh
    have hx := qE h0 x o _ h1
    have hr := qEs h0 (.cons y r) o _ h2
    have hne : ∃ e2 es2, es' = e2 :: es2 := by
      cases es' with
      | nil => simp [cEs] at h2
      | cons e2 es2 => exact ⟨_, _, rfl⟩
    obtain ⟨e2, es2, rfl⟩ := hne
    exact ⟨s_cons hx.ns hx.a.pe hr.a, fun an pos => s_o2 hx.a.pe (hr.o an pos)⟩
theorem qB (h0 : 1 ≤ k) : ∀ (p : PB) {W : WX} {c : CC} {X : Cx} (o : Ok S cls W k kn c X) (e : Expr), cB kn c p e = true → PE X e (dB S cls W X p)
  | .x x, W, c, X, o, e, h => s_bx (qE h0 x o e (by simpa only [cB] using h)).a.pe
  | .l p, W, c, X, o, e, h => s_bl (qL h0 p o e (by simpa only [cB] using h))
theorem qBs (h0 : 1 ≤ k) : ∀ (p : PB) {W : WX} {c : CC} {X : Cx} (o : Ok S cls W k kn c X) (e : Expr) (s : Bool), (s = true → Pu.sB p = true) → cB kn c p e = true → PE X e (dBs S cls W X s p)
  | .x x, W, c, X, o, e, s, hs, h => s_bsx (qE h0 x o e (by simpa only [cB] using h)).a.pe
  | .l p, W, c, X, o, e, s, hs, h => by
    cases s with
    | true => exact absurd (hs rfl) Bool.false_ne_true
    | false => exact s_bsl (qL h0 p o e (by simpa only [cB] using h))
theorem qL (h0 : 1 ≤ k) : ∀ (p : PL) {W : WX} {c : CC} {X : Cx} (o : Ok S cls W k kn c X) (e : Expr), cL kn c p e = true → PE X e (dL S cls W X p)
  | .b i, W, c, X, o, e, h => by
    simp only [cL] at h
    split at h
    · exact s_lb o h
    · cases h
  | .f p, W, c, X, o, e, h => s_lf (qF h0 p o e (by simpa only [cL] using h)).a.pe
theorem qO (h0 : 1 ≤ k) : ∀ (p : POp) {W : WX} {c : CC} {X : Cx} (o : Ok S cls W k kn c X) (e : Option Expr), cO kn c p e = true → PO X e (dO S cls W X p)
  | .no, W, c, X, o, e, h => by
    simp only [cO] at h
    split at h
    · exact s_no
    · cases h
  | .so x, W, c, X, o, e, h => by
    simp only [cO] at h
    split at h
    · exact s_so (qE h0 x o _ h).a.pe
    · cases h
theorem qF (h0 : 1 ≤ k) : ∀ (p : PF) {W : WX} {c : CC} {X : Cx} (o : Ok S cls W k kn c X) (e : Expr), cF kn c p e = true → PF' X e (dF S cls W X p)
  | .lst es, W, c, X, o, e, h => by
    simp only [cF] at h
    split at h
    · simp only [Bool.and_eq_true, decide_eq_true_eq, Bool.not_eq_true'] at h
      obtain ⟨⟨h1, h2⟩, h3⟩ := h
      exact .of (s_lst h1 (qEs h0 es o _ h3).a)
    · cases h
  | .comp own tg src cs x, W, c, X, o, e, h => by
    simp only [cF] at h
    split at h
    · simp only [Bool.and_eq_true, decide_eq_true_eq, Bool.not_eq_true'] at h
      obtain ⟨⟨⟨⟨⟨⟨⟨⟨⟨h1, h2⟩, h3⟩, hz1⟩, h4⟩, h5⟩, h6⟩, h7⟩, h8⟩, h9⟩ := h
      subst h1
      refine ⟨s_comp (s := false) o h2 h3 (qI h0 src o _ _ false (isPair tg) (fun z => by cases z) (fun z => tgTup h5 z) (.inl hz1) h4) (fun X' o' => s_tg o' h5) h6 (fun X' o' => (qTs h0 cs o' _ h8).t h7) (fun X' o' => (qE h0 x o' _ h9).a.pe), rfl⟩
    · cases h
  | .cat x y, W, c, X, o, e, h => by
    simp only [cF] at h
    split at h
    · simp only [Bool.and_eq_true, decide_eq_true_eq, Bool.not_eq_true'] at h
      exact .of (s_cat o (qL h0 x o _ h.1) (qL h0 y o _ h.2))
    · cases h
  | .sl x lo hi, W, c, X, o, e, h => by
    simp only [cF] at h
    split at h
    · simp only [Bool.and_eq_true, decide_eq_true_eq, Bool.not_eq_true'] at h
      obtain ⟨⟨h1, h2⟩, h3⟩ := h
      exact .of (s_slL o (qB h0 x o _ h1) (qO h0 lo o _ h2) (qO h0 hi o _ h3))
    · cases h
  | .list x, W, c, X, o, e, h => by
    simp only [cF] at h
    split at h
    · simp only [Bool.and_eq_true, decide_eq_true_eq, Bool.not_eq_true'] at h
      obtain ⟨⟨h1, h2⟩, h3⟩ := h
      exact .of (s_list o h1 h2 (qB h0 x o _ h3))
    · cases h
  | .lz x y, W, c, X, o, e, h => by
    simp only [cF] at h
    split at h
    · simp only [Bool.and_eq_true, decide_eq_true_eq, Bool.not_eq_true'] at h
      obtain ⟨⟨⟨⟨⟨h1, h2⟩, h3⟩, h4⟩, h5⟩, h6⟩ := h
      exact .of (s_lz o h1 h2 h3 h4 (qB h0 x o _ h5) (qB h0 y o _ h6))
    · cases h
  | .sorted x, W, c, X, o, e, h => by
    simp only [cF] at h
    split at h
    · simp only [Bool.and_eq_true, decide_eq_true_eq, Bool.not_eq_true'] at h
      obtain ⟨⟨h1, h2⟩, h3⟩ := h
      exact .of (s_sorted o h1 h2 (qB h0 x o _ h3))
    · cases h
  | .rep x y, W, c, X, o, e, h => by
    simp only [cF] at h
    split at h
    · simp only [Bool.and_eq_true, decide_eq_true_eq, Bool.not_eq_true'] at h
      exact .of (s_rep o (qL h0 x o _ h.1) (qE h0 y o _ h.2).a.pe)
    · cases h
  | .split x y, W, c, X, o, e, h => by
    simp only [cF] at h
    split at h
    · simp only [Bool.and_eq_true, decide_eq_true_eq, Bool.not_eq_true'] at h
      obtain ⟨⟨⟨⟨⟨h1, h2⟩, h3⟩, h4⟩, h5⟩, h6⟩ := h
      subst h1
      exact .of (s_split o h2 h3 h4 (qE h0 x o _ h5).a.pe (qE h0 y o _ h6).a.pe)
    · cases h
theorem qI (h0 : 1 ≤ k) : ∀ (p : PIt) {W : WX} {c : CC} {X : Cx} (o : Ok S cls W k kn c X) (tg e : Expr) (s pr : Bool), (s = true → Pu.sI p = true) → (pr = true → ∃ es u tp, tg = .Tuple es u tp) → (nz1 p = true ∨ ∃ nx tp, tg = .Name nx tp) → cI kn c p pr e = true → PI X tg e (dI S cls W X s pr p)
  | .r1 x, W, c, X, o, tg, e, s, pr, hs, hp, hz, h => by
    simp only [cI] at h
    split at h
    · simp only [Bool.and_eq_true, decide_eq_true_eq, Bool.not_eq_true'] at h
      exact s_r1 o h.1.1 h.1.2 (qE h0 x o _ h.2).a.pe
    · cases h
  | .r2 x y, W, c, X, o, tg, e, s, pr, hs, hp, hz, h => by
    simp only [cI] at h
    split at h
    · simp only [Bool.and_eq_true, decide_eq_true_eq, Bool.not_eq_true'] at h
      obtain ⟨⟨⟨⟨h1, h2⟩, h3⟩, h4⟩, h5⟩ := h
      exact s_r2 o h1 h2 h3 (qE h0 x o _ h4).a.pe (qE h0 y o _ h5).a.pe
    · cases h
  | .sq x, W, c, X, o, tg, e, s, pr, hs, hp, hz, h => s_sq (qBs h0 x o e s hs (by simpa only [cI] using h))
  | .en x, W, c, X, o, tg, e, s, pr, hs, hp, hz, h => by
    simp only [cI] at h
    split at h
    · simp only [Bool.and_eq_true, decide_eq_true_eq, Bool.not_eq_true'] at h
      obtain ⟨⟨⟨h1, h2⟩, h3⟩, h4⟩ := h
      subst h1
      obtain ⟨es, u, tp, rfl⟩ := hp rfl
      exact s_en o h2 h3 (qBs h0 x o _ s hs h4)
    · cases h
  | .zp x y, W, c, X, o, tg, e, s, pr, hs, hp, hz, h => by
    simp only [cI] at h
    split at h
    · simp only [Bool.and_eq_true, decide_eq_true_eq, Bool.not_eq_true'] at h
      obtain ⟨⟨⟨⟨⟨h1, h2⟩, h3⟩, h4⟩, h5⟩, h6⟩ := h
      subst h1
      obtain ⟨es, u, tp, rfl⟩ := hp rfl
      have hs' : (s = true → Pu.sB x = true) ∧ (s = true → Pu.sB y = true) := ⟨fun z => by have := hs z; simp only [Pu.sI, Bool.and_eq_true] at this; exact this.1, fun z => by have := hs z; simp only [Pu.sI, Bool.and_eq_true] at this; exact this.2⟩
      have := fun pos p2 => s_zp (pos := pos) (p2 := p2) (tp := tp) (es := es) (u := u) o h2 h3 h4 (qBs h0 x o _ s hs'.1 h5) (qBs h0 y o _ s hs'.2 h6)
      rw [Bool.and_self] at this
      exact this _ _
    · cases h
  | .rv x, W, c, X, o, tg, e, s, pr, hs, hp, hz, h => by
    simp only [cI] at h
    split at h
    · simp only [Bool.and_eq_true, decide_eq_true_eq, Bool.not_eq_true'] at h
      exact s_rv o h.1.1 h.1.2 (qBs h0 x o _ s hs h.2)
    · cases h
  | .z1 x y, W, c, X, o, tg, e, s, pr, hs, hp, hz, h => by
    simp only [cI] at h
    split at h
    · simp only [Bool.and_eq_true, decide_eq_true_eq, Bool.not_eq_true'] at h
      obtain ⟨⟨⟨⟨h2, h3⟩, h4⟩, h5⟩, h6⟩ := h
      obtain ⟨nx, tp, rfl⟩ : ∃ nx tp, tg = .Name nx tp := hz.resolve_left (by simp [nz1])
      have hs' : (s = true → Pu.sB x = true) ∧ (s = true → Pu.sB y = true) := ⟨fun z => by have := hs z; simp only [Pu.sI, Bool.and_eq_true] at this; exact this.1, fun z => by have := hs z; simp only [Pu.sI, Bool.and_eq_true] at this; exact this.2⟩
      have := fun pos p2 => s_z1 (pos := pos) (p2 := p2) (tp := tp) (nx := nx) (pr := pr) o h2 h3 h4 (qBs h0 x o _ s hs'.1 h5) (qBs h0 y o _ s hs'.2 h6)
      rw [Bool.and_self] at this
      exact this _ _
    · cases h
theorem qT (h0 : 1 ≤ k) : ∀ (p : PQ) {W : WX} {c : CC} {X : Cx} (o : Ok S cls W k kn c X) (e : Expr), cT kn c p e = true → PT X e (dT S cls W X p)
  | .e x, W, c, X, o, e, h => by
    simp only [cT, Bool.and_eq_true, Bool.or_eq_true] at h
    obtain ⟨h1, h2⟩ := h
    have hx := qE h0 x o e h1
    rcases h2 with h2 | h2
    · exact s_te (pt_val hx.a.pe (plainTest h2 _))
    · exact s_te (hx.t (by cases x <;> first | rfl | exact h2))
  | .tr x, W, c, X, o, e, h => by
    simp only [cT, Bool.and_eq_true] at h
    exact s_tr h.2 (qB h0 x o e h.1)
  | .not t, W, c, X, o, e, h => by
    simp only [cT] at h
    split at h
    · exact s_tnot (qT h0 t o _ h)
    · cases h
  | .bool an ts, W, c, X, o, e, h => by
    simp only [cT] at h
    split at h
    · simp only [Bool.and_eq_true, decide_eq_true_eq] at h
      obtain ⟨h1, h2⟩ := h
      subst h1
      exact pt_weak ((qTs h0 ts o _ h2).w an _ (by simp)).pt fun σ H Q q => q
    · cases h
theorem qTs (h0 : 1 ≤ k) : ∀ (p : PQs) {W : WX} {c : CC} {X : Cx} (o : Ok S cls W k kn c X) (es : List Expr), cTs kn c p es = true → PTr X S cls W es p
  | .nil, W, c, X, o, es, h => by
    simp only [cTs] at h
    split at h
    · exact ⟨fun an pos z => absurd rfl z, fun _ => s_ts0⟩
    · cases h
  | .cons t .nil, W, c, X, o, es, h => by
    simp only [cTs] at h
    split at h
    · rename_i e es
      simp only [cTs, Bool.and_eq_true] at h
      obtain ⟨h1, h2⟩ := h
      split at h2
      · have ht := qT h0 t o _ h1
        exact ⟨fun an pos _ => s_t1 ht, fun _ => s_ts1 ht⟩
      · cases h2
    · cases h
  | .cons t (.cons u r), W, c, X, o, es, h => by
    have hh : ∃ e es', es = e :: es' ∧ cT kn c t e = true ∧ cTs kn c (.cons u r) es' = true := by
      cases es with
      | nil => simp [cTs] at h
      | cons e es' =>
        refine ⟨e, es', rfl, ?_⟩
        have h' : (cT kn c t e && cTs kn c (.cons u r) es') = true := h
        rw [Bool.and_eq_true] at h'
        exact h'
    obtain ⟨e, es', rfl, h1, h2⟩ := hh
    have ht := qT h0 t o _ h1
    have hr := qTs h0 (.cons u r) o _ h2
    have hne : ∃ e2 es2, es' = e2 :: es2 := by
      cases es' with
      | nil => simp [cTs] at h2
      | cons e2 es2 => exact ⟨_, _, rfl⟩
    obtain ⟨e2, es2, rfl⟩ := hne
    exact ⟨fun an pos _ => s_t2 ht (hr.w an pos (by simp)), fun z => absurd z (by simp)⟩
end
mutual
theorem qS (h0 : 1 ≤ k) : ∀ (p : PSt) {W : WX} {c : CC} {X : Cx} (o : Ok S cls W k kn c X) (st : Stmt), cS kn c p st = true → PS X st (dS S cls W X p)
  | .set i x, W, c, X, o, st, h => by
    simp only [cS] at h
    split at h
    · simp only [Bool.and_eq_true, decide_eq_true_eq, Bool.not_eq_true'] at h
      exact s_set o h.1 (qE h0 x o _ h.2).a
    · cases h
  | .own i f, W, c, X, o, st, h => by
    simp only [cS] at h
    split at h
    · simp only [Bool.and_eq_true, decide_eq_true_eq, Bool.not_eq_true'] at h
      exact s_own o h.1 (qF h0 f o _ h.2).a
    · cases h
  | .dic i, W, c, X, o, st, h => by
    simp only [cS] at h
    split at h
    · exact s_dic o h
    · cases h
  | .tgt is x, W, c, X, o, st, h => by
    simp only [cS] at h
    split at h
    · simp only [Bool.and_eq_true, decide_eq_true_eq, Bool.not_eq_true'] at h
      obtain ⟨⟨h1, h2⟩, h3⟩ := h
      exact s_tgt o h1 (fun es u p z => by rw [z] at h2; cases h2) (qE h0 x o _ h3).a.pe
    · cases h
  | .par i j x y, W, c, X, o, st, h => by
    simp only [cS] at h
    split at h
    · simp only [Bool.and_eq_true, decide_eq_true_eq, Bool.not_eq_true'] at h
      obtain ⟨⟨⟨⟨⟨h1, h2⟩, h3⟩, h4⟩, h5⟩, h6⟩ := h
      exact s_par o h1 h2 h3 h4 (qE h0 x o _ h5).a.pe (qE h0 y o _ h6).a.pe
    · cases h
  | .app i x, W, c, X, o, st, h => by
    simp only [cS] at h
    split at h
    · simp only [Bool.and_eq_true, decide_eq_true_eq, Bool.not_eq_true'] at h
      obtain ⟨⟨⟨⟨h1, h2⟩, h3⟩, h4⟩, h5⟩ := h
      subst h1
      exact s_app o h2 h3 h4 (qE h0 x o _ h5).a.pe
    · cases h
  | .ext i x, W, c, X, o, st, h => by
    simp only [cS] at h
    split at h
    · simp only [Bool.and_eq_true, decide_eq_true_eq, Bool.not_eq_true'] at h
      obtain ⟨⟨⟨⟨h1, h2⟩, h3⟩, h4⟩, h5⟩ := h
      subst h1
      exact s_ext o h2 h3 h4 (qL h0 x o _ h5)
    · cases h
  | .put i q x, W, c, X, o, st, h => by
    simp only [cS] at h
    split at h
    · simp only [Bool.and_eq_true, decide_eq_true_eq, Bool.not_eq_true'] at h
      obtain ⟨⟨⟨h1, h2⟩, h3⟩, h4⟩ := h
      exact s_put o h1 h2 (qE h0 q o _ h3).a.pe (qE h0 x o _ h4).a.pe
    · cases h
  | .dput i q x, W, c, X, o, st, h => by
    simp only [cS] at h
    split at h
    · simp only [Bool.and_eq_true, decide_eq_true_eq, Bool.not_eq_true'] at h
      obtain ⟨⟨⟨h1, h2⟩, h3⟩, h4⟩ := h
      exact s_dput o h1 h2 (qE h0 q o _ h3).a.pe (qE h0 x o _ h4).a.pe
    · cases h
  | .pop j i, W, c, X, o, st, h => by
    simp only [cS] at h
    split at h
    · simp only [Bool.and_eq_true, decide_eq_true_eq, Bool.not_eq_true'] at h
      obtain ⟨⟨⟨⟨h1, h2⟩, h3⟩, h4⟩, h5⟩ := h
      subst h3
      exact s_pop o h1 h2 h4 h5
    · cases h
  | .ex x, W, c, X, o, st, h => by
    simp only [cS] at h
    split at h
    · simp only [Bool.and_eq_true, decide_eq_true_eq, Bool.not_eq_true'] at h
      exact s_ex o h.1 (qE h0 x o _ h.2).a.pe
    · cases h
  | .ret x, W, c, X, o, st, h => by
    simp only [cS] at h
    split at h
    · exact s_ret o (qE h0 x o _ h).a.pe
    · cases h
  | .ite t a b, W, c, X, o, st, h => by
    simp only [cS] at h
    split at h
    · simp only [Bool.and_eq_true, decide_eq_true_eq, Bool.not_eq_true'] at h
      obtain ⟨⟨h1, h2⟩, h3⟩ := h
      exact s_ite o (qT h0 t o _ h1) (qSs h0 a o _ h2) (qSs h0 b o _ h3)
    · cases h
  | .for_ tg it b, W, c, X, o, st, h => by
    simp only [cS] at h
    split at h
    · simp only [Bool.and_eq_true, decide_eq_true_eq, Bool.not_eq_true'] at h
      obtain ⟨⟨⟨⟨⟨⟨hr, h1⟩, h2⟩, h3⟩, hz⟩, h4⟩, h5⟩ := h
      have hz' : ∀ t : Expr, tgB c tg t = true → nz1 it = true ∨ ∃ nx tp, t = .Name nx tp := fun t ht => by
        rw [Bool.or_eq_true] at hz
        rcases hz with z | z
        · exact .inl z
        · cases tg with
          | one i =>
            unfold tgB at ht
            split at ht
            · exact .inr ⟨_, _, rfl⟩
            · cases ‹Tg.one _ = _›
            · cases ht
          | many is => cases z
      exact s_for o hr h2 (qI h0 it o _ _ true (isPair tg) (fun _ => h3) (fun z => tgTup h1 z) (hz' _ h1) h4) (s_tg o h1) (qSs h0 b o _ h5)
    · cases h
  | .whl t b, W, c, X, o, st, h => by
    simp only [cS] at h
    split at h
    · simp only [Bool.and_eq_true, decide_eq_true_eq, Bool.not_eq_true'] at h
      exact s_whl o h.1.1 (qT h0 t o _ h.1.2) (qSs h0 b o _ h.2)
    · cases h
  | .raise x m, W, c, X, o, st, h => by
    simp only [cS] at h
    split at h
    · simp only [Bool.and_eq_true, decide_eq_true_eq, Bool.not_eq_true'] at h
      obtain ⟨⟨⟨hr, h1⟩, h2⟩, h3⟩ := h
      subst h1
      exact s_raise o hr h2 h3
    · cases h
  | .try_ b cn nm ts i z, W, c, X, o, st, h => by
    simp only [cS] at h
    split at h
    · simp only [Bool.and_eq_true, decide_eq_true_eq, Bool.not_eq_true'] at h
      obtain ⟨⟨⟨⟨⟨⟨h1, h2⟩, h3⟩, h4⟩, h5⟩, h6⟩, h7⟩ := h
      subst h1
      exact s_try o h2 h3 h4 h5 h6 fun o' => qSs h0 b o' _ h7
    · cases h
  | .frz i p, W, c, X, o, st, h => s_frz (qS h0 p o st (by simpa only [cS] using h))
theorem qSs (h0 : 1 ≤ k) : ∀ (p : PSs) {W : WX} {c : CC} {X : Cx} (o : Ok S cls W k kn c X) (ss : List Stmt), cSs kn c p ss = true → L2.PSs X ss (dSs S cls W X p)
  | .nil, W, c, X, o, ss, h => by
    simp only [cSs] at h
    split at h
    · exact s_snil
    · cases h
  | .cons s r, W, c, X, o, ss, h => by
    simp only [cSs] at h
    split at h
    · rw [Bool.and_eq_true] at h
      exact s_scons (qS h0 s o _ h.1) (qSs h0 r o _ h.2)
    · cases h
end
end Pu

/-! the defs -/
namespace Pu
open PySem PySem.Spec L2

/-- a def of the table -/
structure TD where
  name : String
  st : Stmt
  ps : List Str
  N : List Str
  lv : Nat
  fs : List String
  df : Df
structure Ent where
  fa : Addr
  fd : FuncData
  td : TD
def lvOf (tab : List TD) (f : String) : Option Nat := (tab.find? fun t => t.name == f).map (·.lv)
/-- what is known of all -/
structure Gn where
  bs : List String
  es : List String
  hs : List String
def TD.ok (g : Gn) (t : TD) : Bool :=
  C8.scC t.N t.ps (defScope t.st) && decide (t.ps.length = t.df.np) && decide (t.N.length = t.df.ns) && decide (t.df.np ≤ t.df.ns) && decide (2 ≤ t.lv) &&
    cSs ⟨t.fs, g.bs, g.es, g.hs⟩ ⟨t.N, defScope t.st, none⟩ t.df.body (defBody t.st)
def TD.lvs (lv : String → Option Nat) (t : TD) : Bool := t.fs.all fun f => match lv f with | some n => decide (n + 1 ≤ t.lv) | none => false
def tabOk (g : Gn) (tab : List TD) : Bool := tab.all fun t => t.ok g && t.lvs (lvOf tab)
/-- the entry of a name -/
def entOf (es : List Ent) (f : String) : Option Ent := es.find? fun e => e.td.name == f
theorem ent_lv : ∀ (es : List Ent) (f : String), ((entOf es f).map (·.td.lv)) = lvOf (es.map (·.td)) f
  | [], _ => rfl
  | e :: r, f => by
    unfold entOf lvOf
    rw [List.map_cons, List.find?_cons, List.find?_cons]
    cases h : e.td.name == f with
    | true => rfl
    | false => exact ent_lv r f
structure EntOk (K : PySem.W.Frag) (mg : Str → Option Value) (e : Ent) : Prop where
  mg : mg (Str.ofString e.td.name) = some (.ref e.fa)
  fn : Fun K (Str.ofString e.td.name) (Str.ofString e.td.name) e.td.st e.fa e.fd
  b : Binds K e.fd e.td.ps []
structure ExcOk (K : PySem.W.Frag) (mg : Str → Option Value) (cls : String → Option Addr) (c : String) : Prop where
  ex : ∃ C, cls c = some C ∧ mg (Str.ofString c) = some (.ref C) ∧ PySem.W.keepIn K (.ref C) = true ∧ PySem.W.subIn K (.ref C) (.type "BaseException") = some true ∧ PySem.W.typeIn K (.ref C) = some (.type "type") ∧
    PySem.W.excIn K C [.type "ValueError", .type "Exception", .type "BaseException", .type "object"] "ValueError.__new__" = true
section
variable {P : Program} {w : World} {K : PySem.W.Frag} {mg : Str → Option Value} {cls : String → Option Addr} {G : String → Option Ent} {es : List Ent}
def spI (K : PySem.W.Frag) (cls : String → Option Addr) (ds : List PyData) (Qd : PyData → Prop) (Ed : String → Prop) : Sp := fun vs H Q E => ∃ F, Same F H ∧ DqAll K F vs ds ∧
  (∀ v F' H' d, Ext F H F' H' → Dq K F' v d → Qd d → Q v H') ∧ ∀ c a H', cls c = some a → Same H H' → Ed c → E (.ref a) none H'
/-- what the program keeps -/
def SV (P : Program) (w : World) (K : PySem.W.Frag) (mg : Str → Option Value) (cls : String → Option Addr) (G : String → Option Ent) : Spc := fun f ds Qd Ed =>
  ∃ e, G f = some e ∧ ∀ base : Heap, K.In base → base.Ns mainGlobals mg → FnOk P w K mg base (L2.CX P w) e.td.lv e.fa e.fd e.td.ps (spI K cls ds Qd Ed)
theorem sv_fn {f : String} {e : Ent} {base : Heap} (hb : K.In base) (hn : base.Ns mainGlobals mg) (g : G f = some e) : FnOk P w K mg base (L2.CX P w) e.td.lv e.fa e.fd e.td.ps (spS (SV P w K mg cls G) cls K f) := by
  refine ⟨fun vs H Q E h => ?_, fun A outer s H args us vs Q E hr e0 hbd hv h => ?_⟩
  · obtain ⟨F, ds, Qd, Ed, sm, dq, ⟨e', g', k⟩, h1, h2⟩ := h
    rw [g] at g'
    cases g'
    exact (k base hb hn).len vs H Q E ⟨F, sm, dq, h1, h2⟩
  · obtain ⟨F, ds, Qd, Ed, sm, dq, ⟨e', g', k⟩, h1, h2⟩ := h
    rw [g] at g'
    cases g'
    exact (k base hb hn).run A outer s H args us vs Q E hr e0 hbd hv ⟨F, sm, dq, h1, h2⟩
theorem rep_start {F H : Hp} {vs : List V} {ds : List PyData} {N : List Str} (sm : Same F H) (dq : DqAll K F vs ds) (hl : ds.length ≤ N.length) :
    Rep K ⟨F, H⟩ F H (L2.start N vs) (ds.map .val ++ List.replicate (N.length - ds.length) .un) := by
  have hlen := dq.length
  refine ⟨?_, Ext.refl sm, fun i s e => ?_, fun i j a hij oi oj ei ej => ?_⟩
  · simp only [L2.start, List.length_append, List.length_map, List.length_replicate]
    omega
  · by_cases hi : i < ds.length
    · rw [List.getElem?_append_left (by simpa using hi), List.getElem?_map] at e
      unfold L2.start
      rw [List.getElem?_append_left (by simpa [hlen] using hi), List.getElem?_map]
      obtain ⟨d, hd⟩ : ∃ d, ds[i]? = some d := ⟨_, List.getElem?_eq_getElem hi⟩
      rw [hd] at e
      cases e
      obtain ⟨v, hv, q⟩ := dq.get' hd
      rw [hv]
      exact ⟨v, rfl, q⟩
    · rw [List.getElem?_append_right (by simpa using Nat.le_of_not_lt hi)] at e
      rw [List.getElem?_replicate] at e
      split at e
      · cases e
        trivial
      · cases e
  · obtain ⟨s, e, ow⟩ := oi
    by_cases hi : i < ds.length
    · rw [List.getElem?_append_left (by simpa using hi), List.getElem?_map, List.getElem?_eq_getElem hi] at e
      cases e
      cases ow
    · rw [List.getElem?_append_right (by simpa using Nat.le_of_not_lt hi), List.getElem?_replicate] at e
      split at e
      · cases e
        cases ow
      · cases e
/-- THE CLOSURE: what a body shows, its def keeps -/
theorem sv_closed {g : Gn} {tab : List TD} (hT : es.map (·.td) = tab) (hOk : tabOk g tab = true) (hEn : ∀ e, e ∈ es → EntOk K mg e)
    (hB : ∀ b, g.bs.contains b = true → mg (Str.ofString b) = none) (hE : ∀ b, g.es.contains b = true → ExcOk K mg cls b) (hH : ∀ n, g.hs.contains n = true → HnF K mg cls n) {f : String} {e : Ent} (ge : entOf es f = some e) (ds : List PyData) (Qd : PyData → Prop) (Ed : String → Prop)
    (h : wD (SV P w K mg cls (entOf es)) e.td.df ds Qd Ed) : SV P w K mg cls (entOf es) f ds Qd Ed := by
  refine ⟨e, ge, fun base hb hn => ?_⟩
  have hG : ∀ f e, entOf es f = some e → EntOk K mg e ∧ e.td.name = f ∧ e.td.ok g = true ∧ e.td.lvs (lvOf tab) = true := fun f e ge => by
    have hm := List.mem_of_find?_eq_some ge
    have hn := List.find?_some ge
    have := List.all_eq_true.mp hOk e.td (by rw [← hT]; exact List.mem_map_of_mem hm)
    rw [Bool.and_eq_true] at this
    exact ⟨hEn e hm, eq_of_beq hn, this⟩
  obtain ⟨eo, hname, hok, hlv⟩ := hG f e ge
  unfold TD.ok at hok
  simp only [Bool.and_eq_true, decide_eq_true_eq] at hok
  obtain ⟨⟨⟨⟨⟨k1, k2⟩, k3⟩, k4⟩, k5⟩, k6⟩ := hok
  have sc := C8.fnScope_by k1
  obtain ⟨hlen, hw⟩ := h
  obtain ⟨j, hj⟩ : ∃ j, e.td.lv = j + 1 := ⟨e.td.lv - 1, by omega⟩
  rw [hj]
  refine Fun.okX eo.fn sc (fun vs H Q E hs => ?_) (fun cdv A outer s H vs Q E hr hs => ?_)
  · obtain ⟨F, sm, dq, _⟩ := hs
    rw [dq.length, hlen, k2]
  · obtain ⟨F, sm, dq, h1, h2⟩ := hs
    have o : Ok (SV P w K mg cls (entOf es)) cls (fun c d _ H => E c d H) j ⟨e.td.fs, g.bs, g.es, g.hs⟩ ⟨e.td.N, defScope e.td.st, none⟩ (cxOf (L2.CX P w) P w K mg base e.td.N (Str.ofString e.td.name) (defScope e.td.st) e.fa cdv A outer s H E) := by
      refine ⟨rfl, rfl, rfl, hr, sc.nd, sc.kind, fun x => rfl, fun f' hf => ?_, fun b hb' => hB b hb', fun b hb' => ?_, fun n hn' => hH n hn', fun _ => ⟨rfl, rfl⟩, fun _ => takes_of rfl rfl rfl rfl, fun _ => passes_of rfl, passAt (takes_of rfl rfl rfl rfl)⟩
      · unfold TD.lvs at hlv
        have := List.all_eq_true.mp hlv f' (by simpa using hf)
        rw [← hT, ← ent_lv] at this
        cases ge' : entOf es f' with
        | none => rw [ge'] at this; cases this
        | some e' =>
          rw [ge'] at this
          have hle : e'.td.lv + 1 ≤ e.td.lv := of_decide_eq_true this
          obtain ⟨eo', hname', _, _⟩ := hG f' e' ge'
          refine ⟨e'.fa, e'.fd, e'.td.ps, ?_, eo'.fn.kp, eo'.b, (sv_fn hb hn ge').mono (by omega)⟩
          rw [← hname']
          exact eo'.mg
      · obtain ⟨C, q1, q2, q3, q4, q5, q6⟩ := (hE b hb').ex
        exact ⟨C, q1, q2, q3, raises_own q4 q5, q6⟩
    refine ⟨_, qSs (by omega) e.td.df.body o _ k6, ?_⟩
    refine ⟨⟨F, H⟩, F, _, _, ?_, hw, ?_⟩
    · rw [← k3, ← hlen]
      exact rep_start sm dq (by omega)
    · refine ⟨fun σ' H' F' ρ' s' hR hq => ?_, fun v H' F' d x q hq => h1 v F' H' d x q hq, fun _ _ _ _ _ _ z => z.elim, fun _ _ _ _ _ _ z => z.elim, fun c a σ' H' F' ρ' hc s' hR hq => ?_⟩
      · exact h1 .non F' H' .none hR.x .non hq
      · exact h2 c a H' hc hR.x.h hq
end
end Pu

/-! the law's end -/
namespace Pu
open PySem PySem.Spec L2
/-- what a body shows is kept under its name -/
def Has (S : Spc) (f : String) (d : Df) : Prop := ∀ ds Q E, wD S d ds Q E → S f ds Q E
def spLaw (K : PySem.W.Frag) : Sp := fun vs H Q _ => ∃ (a : Addr) (ns : List Int), vs = [.ref a] ∧ SqL K H a (ns.map V.int) ∧ ns.length ≤ 63 ∧ ∀ H', Q (.bl true) H'
section
variable {w : World} {K : PySem.W.Frag} {mg : Str → Option Value} {h : Heap}
theorem ent {t : TD} {f : Addr} {oc : Value} {od an : Option Addr} {osl : Array (Option Value)} {kV doc pm cdv ct : Value} (X : K.In h) (G : h.Ns mainGlobals mg) (a : PySem.W.nsIn K mainGlobals (Str.ofString t.name) = some (some (.ref f)))
    (l : K.lookup f = some ⟨oc, od, .func (PySem.W.fnOf (Str.ofString t.name) (Str.ofString t.name) (defArgs t.st) (defBody t.st) (defScope t.st) .none kV doc pm an cdv ct), osl⟩)
    (c : PySem.W.codeIn K cdv (Str.ofString t.name) = true) (k : PySem.W.keepIn K (.ref f) = true)
    (b : ∀ (kV doc pm : Value) (an : Option Addr) (cdv ct : Value) (us : List Value), us.length = t.ps.length → bindArgs (PySem.W.fnOf (Str.ofString t.name) (Str.ofString t.name) (defArgs t.st) (defBody t.st) (defScope t.st) .none kV doc pm an cdv ct) ⟨us, []⟩ = pure (t.ps.zip us)) :
    ∃ e : Ent, e.td = t ∧ EntOk K mg e ∧ ∀ us : List Value, us.length = t.ps.length → bindArgs e.fd ⟨us, []⟩ = pure (t.ps.zip us) := by
  have F := fun_mk (st := t.st) l c k
  exact ⟨⟨f, _, t⟩, rfl, ⟨PySem.W.mg_of X G a, F, F.binds b⟩, fun us hl => b kV doc pm an cdv ct us hl⟩
abbrev EO {K : PySem.W.Frag} {h : Heap} (_ : K.In h) (mg : Str → Option Value) (t : TD) : Prop := ∃ e : Ent, e.td = t ∧ EntOk K mg e ∧ ∀ us : List Value, us.length = t.ps.length → bindArgs e.fd ⟨us, []⟩ = pure (t.ps.zip us)
abbrev NO {K : PySem.W.Frag} {h : Heap} (_ : K.In h) (b : String) : Prop := PySem.W.nsIn K mainGlobals (Str.ofString b) = some none
theorem cls0 (hb : ([] : List String).contains b = true) : ExcOk K mg cls b := by cases hb
theorem hnd0 (hb : ([] : List String).contains n = true) : HnF K mg cls n := by cases hb
theorem ents_nil : ∃ es : List Ent, es.map (·.td) = [] ∧ ∀ e, e ∈ es → EntOk K mg e := ⟨[], rfl, fun _ h => by cases h⟩
theorem ents_cons {t : TD} {ts : List TD} {P : Ent → Prop} (h : ∃ e : Ent, e.td = t ∧ EntOk K mg e ∧ P e) (r : ∃ es : List Ent, es.map (·.td) = ts ∧ ∀ e, e ∈ es → EntOk K mg e) : ∃ es : List Ent, es.map (·.td) = t :: ts ∧ ∀ e, e ∈ es → EntOk K mg e := by
  obtain ⟨e, h1, h2, _⟩ := h
  obtain ⟨es, h3, h4⟩ := r
  refine ⟨e :: es, by rw [List.map_cons, h1, h3], fun e' he => ?_⟩
  rcases List.mem_cons.mp he with rfl | he
  · exact h2
  · exact h4 e' he
theorem ent_of {tab : List TD} {es : List Ent} (hT : es.map (·.td) = tab) {f : String} {t : TD} (ht : tab.find? (fun t => t.name == f) = some t) : ∃ e, entOf es f = some e ∧ e.td = t := by
  subst hT
  induction es with
  | nil => cases ht
  | cons e r ih =>
    rw [List.map_cons, List.find?_cons] at ht
    unfold entOf
    rw [List.find?_cons]
    cases hh : e.td.name == f with
    | true =>
      rw [hh] at ht
      exact ⟨e, rfl, Option.some.inj ht⟩
    | false =>
      rw [hh] at ht
      exact ih ht
/-- THE END: the law's contract, the table -/
theorem fin {P : Program} {cls : String → Option Addr} {g : Gn} {tab : List TD} {tL : TD} {fa : Addr} (X : K.In h) (G : h.Ns mainGlobals mg) (hmg : mg (Str.ofString "law") = some (.ref fa))
    (hOk : tabOk g tab = true) (hL : tab.find? (fun t => t.name == "law") = some tL) (hps : tL.ps = [Str.ofString "_law_script"])
    (hB : ∀ b, g.bs.contains b = true → PySem.W.nsIn K mainGlobals (Str.ofString b) = some none) (hE : ∀ b, g.es.contains b = true → ExcOk K mg cls b) (hH : ∀ n, g.hs.contains n = true → HnF K mg cls n)
    (hes : ∃ es : List Ent, es.map (·.td) = tab ∧ ∀ e, e ∈ es → EntOk K mg e)
    (hl : ∃ e : Ent, e.td = tL ∧ EntOk K mg e ∧ ∀ us : List Value, us.length = tL.ps.length → bindArgs e.fd ⟨us, []⟩ = pure (tL.ps.zip us))
    (law : ∀ S : Spc, (∀ f t, tab.find? (fun t => t.name == f) = some t → Has S f t.df) → ∀ ns : List Int, ns.length ≤ 63 → S "law" [.list (ns.map .int)] (fun d => d = .bool true) (fun _ => False)) :
    ∃ fd : FuncData, (∀ (s : Shared) (u : Value), BindsTo s fd ⟨[u], []⟩ [(Str.ofString "_law_script", u)]) ∧ ∀ base : Heap, K.In base → base.Ns mainGlobals mg → FnOk P w K mg base (L2.CX P w) tL.lv fa fd [Str.ofString "_law_script"] (spLaw K) := by
  obtain ⟨es, hT, hEn⟩ := hes
  obtain ⟨e, he, het⟩ := ent_of hT hL
  obtain ⟨eL, ht, hok, hbind⟩ := hl
  have hem := List.mem_of_find?_eq_some he
  have ho := hEn e hem
  have hname : e.td.name = "law" := by
    have := List.find?_some he
    exact eq_of_beq this
  have hnameL : eL.td.name = "law" := by rw [ht, ← het]; exact hname
  have hfa : e.fa = fa := by
    have h1 := ho.mg
    rw [hname, hmg] at h1
    cases h1
    rfl
  have hfaL : eL.fa = fa := by
    have h1 := hok.mg
    rw [hnameL, hmg] at h1
    cases h1
    rfl
  have hfd : eL.fd = e.fd := by
    obtain ⟨oc, od, kV, doc, pm, an, cdv, ct, osl, e1, l1, c1⟩ := hok.fn.ex
    obtain ⟨oc', od', kV', doc', pm', an', cdv', ct', osl', e2, l2, c2⟩ := ho.fn.ex
    rw [hfaL] at l1
    rw [hfa, l1] at l2
    injection l2 with l2
    injection l2 with _ _ l2
    injection l2
  have hps' : e.td.ps = [Str.ofString "_law_script"] := by rw [het]; exact hps
  refine ⟨e.fd, fun s u => ?_, fun base hb hn => ?_⟩
  · rw [← hfd]
    have := hbind [u] (by rw [hps]; rfl)
    rw [hps] at this
    exact .of_eq this
  · have F := sv_fn (P := P) (w := w) (K := K) (mg := mg) (cls := cls) (G := entOf es) hb hn he
    rw [hfa, hps', het] at F
    refine F.imp fun vs H Q E hs => ?_
    obtain ⟨a, ns, rfl, hS, hlen, q⟩ := hs
    have hc := law (SV P w K mg cls (entOf es)) (fun f t htf => by
      obtain ⟨e', he', het'⟩ := ent_of hT htf
      intro ds Qd Ed hw
      rw [← het'] at hw
      exact sv_closed hT hOk hEn (fun b hb' => PySem.W.mg_none_of X G (hB b hb')) hE hH he' ds Qd Ed hw) ns hlen
    refine ⟨H, _, _, _, Same.refl _, .cons (.lst hS (DqAll.of_ints ns)) .nil, hc, fun v F' H' d x dq hd => ?_, fun c a H' _ _ z => z.elim⟩
    subst hd
    cases dq
    exact q H'
end
/-! own exceptions -/
/-- a class that a clause names, seen from the class C that is raised -/
structure NmOk (K : PySem.W.Frag) (mg : Str → Option Value) (C : Addr) (n m : String) : Prop where
  ex : ∃ v u, NmV mg m v u ∧ PySem.W.exmOne K (.ref C) u = some (subC n m) ∧ PySem.W.kitOne K (.ref C) u = some (subC n m)
theorem nm_own {K : PySem.W.Frag} {h : Heap} {mg : Str → Option Value} {C D : Addr} {n m : String} (X : K.In h) (G : h.Ns mainGlobals mg) (a : PySem.W.nsIn K mainGlobals (Str.ofString m) = some (some (.ref D)))
    (h1 : PySem.W.subIn K (.ref D) (.type "BaseException") = some true) (h2 : PySem.W.hasDictIn K D = true) (h3 : PySem.W.typeIn K (.ref D) = some (.type "type")) (h4 : PySem.W.subIn K (.ref C) (.ref D) = some (subC n m))
    (h5 : (Value.ref C == Value.ref D) = true → subC n m = true) : NmOk K mg C n m := by
  have e : PySem.W.exmOne K (.ref C) (.ref D) = some (subC n m) := PySem.W.exm_ref h1 h2 h3 h4
  have k : PySem.W.kitOne K (.ref C) (.ref D) = some (subC n m) := by
    unfold PySem.W.exmOne at e
    unfold PySem.W.kitOne
    split at e
    · split
      · rename_i z
        rw [h5 z]
      · exact e
    · cases e
  exact ⟨.ref D, .ref D, .inl ⟨D, PySem.W.mg_of X G a, rfl, rfl⟩, e, k⟩
theorem nm_blt {K : PySem.W.Frag} {h : Heap} {mg : Str → Option Value} {C : Addr} {n m t : String} (X : K.In h) (G : h.Ns mainGlobals mg) (a : PySem.W.nsIn K mainGlobals (Str.ofString m) = some none)
    (b : bootBuiltins (Str.ofString m) = some (.type t)) (hn : decide (Str.ofString m = Str.ofString "__name__") = false)
    (h1 : PySem.W.subIn K (.type t) (.type "BaseException") = some true) (h2 : PySem.W.kitMeta t = true) (h4 : PySem.W.subIn K (.ref C) (.type t) = some (subC n m)) : NmOk K mg C n m := by
  have kc : PySem.W.kitCls K (.ref C) (.type t) = some (subC n m) := by
    show (if PySem.W.kitMeta t = true then PySem.W.subIn K (.ref C) (.type t) else none) = some (subC n m)
    rw [if_pos h2]
    exact h4
  have e : PySem.W.exmOne K (.ref C) (.type t) = some (subC n m) := by
    unfold PySem.W.exmOne
    rw [if_pos (by rw [h1]; rfl)]
    exact kc
  have k : PySem.W.kitOne K (.ref C) (.type t) = some (subC n m) := by
    unfold PySem.W.kitOne
    rw [if_neg (fun z => by cases beq_iff_eq.mp z)]
    exact kc
  exact ⟨.ty t, .type t, .inr ⟨PySem.W.mg_none_of X G a, t, b, of_decide_eq_false hn, rfl, rfl⟩, e, k⟩
structure RaOk (K : PySem.W.Frag) (mg : Str → Option Value) (C : Addr) (n : String) : Prop where
  mg : mg (Str.ofString n) = some (.ref C)
  kp : PySem.W.keepIn K (.ref C) = true
  sb : PySem.W.subIn K (.ref C) (.type "BaseException") = some true
  ty : PySem.W.typeIn K (.ref C) = some (.type "type")
  xi : PySem.W.excIn K C [.type "ValueError", .type "Exception", .type "BaseException", .type "object"] "ValueError.__new__" = true
  xc : ExcC K C
abbrev RO {K : PySem.W.Frag} {h : Heap} (_ : K.In h) (mg : Str → Option Value) (C : Addr) (n : String) : Prop := RaOk K mg C n
abbrev MO {K : PySem.W.Frag} {h : Heap} (_ : K.In h) (mg : Str → Option Value) (C : Addr) (n m : String) : Prop := NmOk K mg C n m
theorem ra_of {K : PySem.W.Frag} {h : Heap} {mg : Str → Option Value} {C : Addr} {n : String} (X : K.In h) (G : h.Ns mainGlobals mg) (a : PySem.W.nsIn K mainGlobals (Str.ofString n) = some (some (.ref C)))
    (kp : PySem.W.keepIn K (.ref C) = true) (sb : PySem.W.subIn K (.ref C) (.type "BaseException") = some true) (ty : PySem.W.typeIn K (.ref C) = some (.type "type"))
    (xi : PySem.W.excIn K C [.type "ValueError", .type "Exception", .type "BaseException", .type "object"] "ValueError.__new__" = true)
    (x1 : PySem.W.findIn K (.ref C) "__getattribute__" = some (some (.builtin "BaseException.__getattribute__"))) (x2 : PySem.W.findIn K (.ref C) "__getattr__" = some none) (x3 : PySem.W.hasDictIn K C = true)
    (x4 : PySem.W.findIn K (.ref C) "__class__" = some (some (.builtin "object.__class__"))) (x5 : PySem.W.specialIn K (.builtin "object.__class__") "__get__" = some (some (.builtin "getset_descriptor.__get__")))
    (x6 : PySem.W.takesIn K (.builtin "object.__class__") = some true) (x7 : PySem.W.mroIn K C (.type "object") = some true) : RaOk K mg C n :=
  ⟨PySem.W.mg_of X G a, kp, sb, ty, xi, ⟨x1, x2, sb, x3, x4, x5, x6, x7⟩⟩
/-- one class is raised -/
theorem cls_one {K : PySem.W.Frag} {mg : Str → Option Value} {n : String} {ns : List String} (h : ∃ C, RaOk K mg C n ∧ ∀ m, m ∈ ns → NmOk K mg C n m) :
    ∃ cls : String → Option Addr, (∀ b, ([n] : List String).contains b = true → ExcOk K mg cls b) ∧ ∀ m, ns.contains m = true → HnF K mg cls m := by
  obtain ⟨C, r, hm⟩ := h
  refine ⟨fun x => if x = n then some C else none, fun b hb => ?_, fun m hm' => ?_⟩
  · have e : b = n := by simpa using hb
    subst e
    exact ⟨C, by simp, r.mg, r.kp, r.sb, r.ty, r.xi⟩
  · obtain ⟨v, u, h1, h2, h3⟩ := (hm m (by simpa using hm')).ex
    refine ⟨v, u, h1, fun c a hc => ?_⟩
    have hc : (if c = n then some C else none) = some a := hc
    by_cases e : c = n
    · subst e
      rw [if_pos rfl] at hc
      cases hc
      exact ⟨h2, h3, r.xc⟩
    · rw [if_neg e] at hc
      cases hc
end Pu

/-! the trees of the defs -/
namespace Pu
open PySem
def b_is_number : PSs := (.cons (.ret (.bool true (.cons (.isi .int (.v 0)) (.cons (.not (.isi .bool (.v 0))) (.cons (.chain .le .le (.v 1) (.v 0) (.v 2)) .nil))))) .nil)
def d_is_number : Df := ⟨3, 3, b_is_number⟩
def b_rows_of : PSs := (.cons (.set 1 (.fr (.lst (.cons (.tup .nil) .nil)))) (.cons (.for_ (.one 2) (.sq (.x (.v 0))) (.cons (.own 3 (.lst .nil)) (.cons (.for_ (.one 4) (.sq (.x (.v 1))) (.cons (.ext 3 (.f (.comp [5] (.one 5) (.r1 (.v 2)) .nil (.add (.v 4) (.tup (.cons (.v 5) .nil)))))) .nil)) (.cons (.frz 3 (.set 1 (.v 3))) .nil)))) (.cons (.ret (.bi .tup (.x (.v 1)))) .nil)))
def d_rows_of : Df := ⟨1, 6, b_rows_of⟩
def b_all_rows : PSs := (.cons (.ret (.call "rows_of" (.cons (.ix (.x (.v 0)) (.i 0)) .nil))) .nil)
def d_all_rows : Df := ⟨1, 1, b_all_rows⟩
def b_is_pay : PSs := (.cons (.ret (.bool true (.cons (.isi .tup (.v 0)) (.cons (.eq false (.x (.bi .len (.x (.v 0)))) (.x (.v 1))) (.cons (.bi .all (.l (.f (.comp [2] (.one 2) (.sq (.x (.v 0))) .nil (.call "is_number" (.cons (.v 2) (.cons (.neg (.i 9)) (.cons (.i 9) .nil)))))))) .nil))))) .nil)
def d_is_pay : Df := ⟨2, 3, b_is_pay⟩
def b_is_meeting : PSs := (.cons (.ite (.bool false (.cons (.not (.tr (.x (.isi .tup (.v 0))))) (.cons (.e (.eq true (.x (.bi .len (.x (.v 0)))) (.x (.i 2)))) .nil))) (.cons (.ret (.b false)) .nil) .nil) (.cons (.tgt [1, 2] (.v 0)) (.cons (.ite (.bool false (.cons (.not (.tr (.x (.isi .tup (.v 1))))) (.cons (.not (.e (.chain .le .le (.i 2) (.bi .len (.x (.v 1))) (.i 3)))) (.cons (.not (.tr (.x (.bi .all (.l (.f (.comp [3] (.one 3) (.sq (.x (.v 1))) .nil (.call "is_number" (.cons (.v 3) (.cons (.i 1) (.cons (.i 3) .nil))))))))))) .nil)))) (.cons (.ret (.b false)) .nil) .nil) (.cons (.ite (.bool false (.cons (.not (.tr (.x (.isi .tup (.v 2))))) (.cons (.e (.eq true (.x (.bi .len (.x (.v 2)))) (.x (.bi .len (.x (.call "rows_of" (.cons (.v 1) .nil))))))) .nil))) (.cons (.ret (.b false)) .nil) .nil) (.cons (.ret (.bi .all (.l (.f (.comp [3] (.one 3) (.sq (.x (.v 2))) .nil (.call "is_pay" (.cons (.v 3) (.cons (.bi .len (.x (.v 1))) .nil)))))))) .nil)))))
def d_is_meeting : Df := ⟨1, 4, b_is_meeting⟩
def b_is_row : PSs := (.cons (.ite (.bool false (.cons (.not (.tr (.x (.isi .tup (.v 0))))) (.cons (.e (.eq true (.x (.bi .len (.x (.v 0)))) (.x (.bi .len (.x (.v 1)))))) .nil))) (.cons (.ret (.b false)) .nil) .nil) (.cons (.ret (.bi .all (.l (.f (.comp [2, 3] (.many [2, 3]) (.zp (.x (.v 0)) (.x (.v 1))) .nil (.call "is_number" (.cons (.v 2) (.cons (.i 0) (.cons (.sub (.v 3) (.i 1)) .nil))))))))) .nil))
def d_is_row : Df := ⟨2, 4, b_is_row⟩
def b_is_state : PSs := (.cons (.ite (.bool false (.cons (.not (.tr (.x (.isi .tup (.v 0))))) (.cons (.e (.eq true (.x (.bi .len (.x (.v 0)))) (.x (.i 2)))) (.cons (.not (.tr (.x (.call "is_row" (.cons (.ix (.x (.v 0)) (.i 0)) (.cons (.v 1) .nil)))))) .nil)))) (.cons (.ret (.b false)) .nil) .nil) (.cons (.ite (.bool false (.cons (.not (.tr (.x (.isi .tup (.ix (.x (.v 0)) (.i 1)))))) (.cons (.e (.eq true (.x (.bi .len (.x (.ix (.x (.v 0)) (.i 1))))) (.x (.bi .len (.x (.call "rows_of" (.cons (.v 1) .nil))))))) .nil))) (.cons (.ret (.b false)) .nil) .nil) (.cons (.ret (.bi .all (.l (.f (.comp [3] (.one 3) (.sq (.x (.ix (.x (.v 0)) (.i 1)))) .nil (.call "is_number" (.cons (.v 3) (.cons (.i 0) (.cons (.sub (.v 2) (.i 1)) .nil))))))))) .nil)))
def d_is_state : Df := ⟨3, 4, b_is_state⟩
def b_is_plan : PSs := (.cons (.ite (.bool false (.cons (.not (.tr (.x (.isi .tup (.v 0))))) (.cons (.not (.e (.chain .le .le (.i 1) (.bi .len (.x (.v 0))) (.i 8)))) .nil))) (.cons (.ret (.b false)) .nil) .nil) (.cons (.ret (.bi .all (.l (.f (.comp [2] (.one 2) (.sq (.x (.v 0))) .nil (.call "is_state" (.cons (.v 2) (.cons (.ix (.x (.v 1)) (.i 0)) (.cons (.bi .len (.x (.v 0))) .nil))))))))) .nil))
def d_is_plan : Df := ⟨2, 3, b_is_plan⟩
def b_is_patience : PSs := (.cons (.ite (.bool false (.cons (.not (.tr (.x (.isi .tup (.v 0))))) (.cons (.e (.eq true (.x (.bi .len (.x (.v 0)))) (.x (.i 2)))) (.cons (.not (.tr (.x (.call "is_number" (.cons (.ix (.x (.v 0)) (.i 1)) (.cons (.i 2) (.cons (.i 30) .nil))))))) .nil)))) (.cons (.ret (.b false)) .nil) .nil) (.cons (.ite (.not (.tr (.x (.call "is_number" (.cons (.ix (.x (.v 0)) (.i 0)) (.cons (.i 1) (.cons (.sub (.ix (.x (.v 0)) (.i 1)) (.i 1)) .nil))))))) (.cons (.ret (.b false)) .nil) .nil) (.cons (.ret (.notL (.l (.f (.comp [1] (.one 1) (.r2 (.i 2) (.i 31)) (.cons (.bool true (.cons (.e (.eq false (.x (.md (.ix (.x (.v 0)) (.i 0)) (.v 1))) (.x (.i 0)))) (.cons (.e (.eq false (.x (.md (.ix (.x (.v 0)) (.i 1)) (.v 1))) (.x (.i 0)))) .nil))) .nil) (.v 1)))))) .nil)))
def d_is_patience : Df := ⟨1, 2, b_is_patience⟩
def b__law_cell : PSs := (.cons (.ite (.e (.cmp .lt (.v 1) (.bi .len (.x (.v 0))))) (.cons (.ret (.ix (.x (.v 0)) (.v 1))) .nil) .nil) (.cons (.ret (.i 0)) .nil))
def d__law_cell : Df := ⟨2, 2, b__law_cell⟩
def b__law_mix : PSs := (.cons (.ret (.md (.md (.mul (.v 0) (.i 48271)) (.v 1)) (.v 2))) .nil)
def d__law_mix : Df := ⟨3, 3, b__law_mix⟩
def b__law_rows : PSs := (.cons (.set 1 (.fr (.lst (.cons (.tup .nil) .nil)))) (.cons (.for_ (.one 2) (.sq (.x (.v 0))) (.cons (.own 3 (.lst .nil)) (.cons (.for_ (.one 4) (.sq (.x (.v 1))) (.cons (.ext 3 (.f (.comp [5] (.one 5) (.r1 (.v 2)) .nil (.add (.v 4) (.tup (.cons (.v 5) .nil)))))) .nil)) (.cons (.frz 3 (.set 1 (.v 3))) .nil)))) (.cons (.ret (.v 1)) .nil)))
def d__law_rows : Df := ⟨1, 6, b__law_rows⟩
def b__law_meeting : PSs := (.cons (.set 2 (.bi .tup (.l (.f (.comp [1] (.one 1) (.r1 (.add (.i 2) (.fd (.call "_law_mix" (.cons (.v 0) (.cons (.i 9967) (.cons (.i 4) .nil)))) (.i 3)))) .nil (.add (.i 1) (.call "_law_mix" (.cons (.add (.v 0) (.mul (.i 7) (.v 1))) (.cons (.i 9973) (.cons (.i 3) .nil)))))))))) (.cons (.ite (.e (.eq false (.x (.md (.v 0) (.i 3))) (.x (.i 0)))) (.cons (.set 2 (.tup (.cons (.i 2) (.cons (.i 2) .nil)))) .nil) .nil) (.cons (.set 3 (.ix (.l (.f (.lst (.cons (.i 2) (.cons (.i 5) (.cons (.i 10) .nil)))))) (.call "_law_mix" (.cons (.v 0) (.cons (.i 9949) (.cons (.i 3) .nil)))))) (.cons (.own 4 (.lst .nil)) (.cons (.for_ (.one 1) (.r1 (.bi .len (.x (.call "_law_rows" (.cons (.v 2) .nil))))) (.cons (.set 5 (.add (.v 0) (.mul (.i 13) (.v 1)))) (.cons (.set 7 (.fr (.comp [6] (.one 6) (.r1 (.bi .len (.x (.v 2)))) .nil (.sub (.add (.call "_law_mix" (.cons (.add (.v 5) (.mul (.i 5) (.v 6))) (.cons (.i 9941) (.cons (.sub (.mul (.i 2) (.v 3)) (.i 1)) .nil)))) (.i 1)) (.v 3))))) (.cons (.app 4 (.bi .tup (.x (.v 7)))) .nil)))) (.cons (.ite (.e (.eq false (.x (.md (.v 0) (.i 9))) (.x (.i 0)))) (.cons (.set 8 (.fr (.sorted (.l (.f (.comp [1] (.one 1) (.r1 (.i 4)) .nil (.sub (.call "_law_mix" (.cons (.add (.v 0) (.v 1)) (.cons (.i 9931) (.cons (.i 19) .nil)))) (.i 9)))))))) (.cons (.own 4 (.lst (.cons (.tup (.cons (.ix (.x (.v 8)) (.i 2)) (.cons (.ix (.x (.v 8)) (.i 2)) .nil))) (.cons (.tup (.cons (.ix (.x (.v 8)) (.i 0)) (.cons (.ix (.x (.v 8)) (.i 3)) .nil))) (.cons (.tup (.cons (.ix (.x (.v 8)) (.i 3)) (.cons (.ix (.x (.v 8)) (.i 0)) .nil))) (.cons (.tup (.cons (.ix (.x (.v 8)) (.i 1)) (.cons (.ix (.x (.v 8)) (.i 1)) .nil))) .nil)))))) .nil)) .nil) (.cons (.ret (.tup (.cons (.v 2) (.cons (.bi .tup (.l (.b 4))) .nil)))) .nil)))))))
def d__law_meeting : Df := ⟨1, 9, b__law_meeting⟩
def b__law_patience : PSs := (.cons (.set 1 (.add (.i 2) (.call "_law_mix" (.cons (.v 0) (.cons (.i 9929) (.cons (.i 29) .nil)))))) (.cons (.set 2 (.add (.i 1) (.call "_law_mix" (.cons (.v 0) (.cons (.i 9923) (.cons (.sub (.v 1) (.i 1)) .nil)))))) (.cons (.ite (.e (.eq false (.x (.md (.v 0) (.i 4))) (.x (.i 0)))) (.cons (.set 2 (.sub (.v 1) (.i 1))) .nil) .nil) (.cons (.for_ (.one 3) (.r2 (.i 2) (.i 30)) (.cons (.whl (.bool true (.cons (.e (.eq false (.x (.md (.v 2) (.v 3))) (.x (.i 0)))) (.cons (.e (.eq false (.x (.md (.v 1) (.v 3))) (.x (.i 0)))) .nil))) (.cons (.set 2 (.fd (.v 2) (.v 3))) (.cons (.set 1 (.fd (.v 1) (.v 3))) .nil))) .nil)) (.cons (.ret (.tup (.cons (.v 2) (.cons (.v 1) .nil)))) .nil)))))
def d__law_patience : Df := ⟨1, 4, b__law_patience⟩
def b__law_row : PSs := (.cons (.set 2 (.call "_law_rows" (.cons (.ix (.x (.v 0)) (.i 0)) .nil))) (.cons (.ret (.ix (.x (.v 2)) (.call "_law_mix" (.cons (.v 1) (.cons (.i 9907) (.cons (.bi .len (.x (.v 2))) .nil)))))) .nil))
def d__law_row : Df := ⟨2, 3, b__law_row⟩
def b__law_plan : PSs := (.cons (.set 3 (.add (.i 1) (.call "_law_mix" (.cons (.ix (.x (.v 1)) (.i 0)) (.cons (.i 9901) (.cons (.v 2) .nil)))))) (.cons (.own 4 (.lst .nil)) (.cons (.for_ (.one 5) (.r1 (.v 3)) (.cons (.set 6 (.add (.ix (.x (.v 1)) (.add (.i 1) (.md (.v 5) (.i 3)))) (.mul (.i 11) (.v 5)))) (.cons (.set 8 (.fr (.comp [7] (.one 7) (.r1 (.bi .len (.x (.call "_law_rows" (.cons (.ix (.x (.v 0)) (.i 0)) .nil))))) .nil (.call "_law_mix" (.cons (.add (.v 6) (.mul (.i 3) (.v 7))) (.cons (.i 9887) (.cons (.v 3) .nil))))))) (.cons (.app 4 (.tup (.cons (.call "_law_row" (.cons (.v 0) (.cons (.v 6) .nil))) (.cons (.bi .tup (.x (.v 8))) .nil)))) .nil)))) (.cons (.ret (.bi .tup (.l (.b 4)))) .nil))))
def d__law_plan : Df := ⟨3, 9, b__law_plan⟩
def b__law_cells : PSs := (.cons (.ret (.fr (.comp [2] (.one 2) (.r1 (.i 4)) .nil (.call "_law_cell" (.cons (.v 0) (.cons (.add (.v 1) (.v 2)) .nil)))))) .nil)
def d__law_cells : Df := ⟨2, 3, b__law_cells⟩
def b__law_bad_meeting : PSs := (.cons (.tgt [2, 3] (.v 0)) (.cons (.own 4 (.lst (.cons (.tup (.cons (.v 2) (.cons (.sl (.v 3) .no (.so (.neg (.i 1)))) .nil))) (.cons (.tup (.cons (.v 2) (.cons (.add (.v 3) (.sl (.v 3) .no (.so (.i 1)))) .nil))) (.cons (.tup (.cons (.sl (.v 2) .no (.so (.i 1))) (.cons (.v 3) .nil))) (.cons (.tup (.cons (.add (.v 2) (.tup (.cons (.i 1) (.cons (.i 1) .nil)))) (.cons (.v 3) .nil))) (.cons (.v 2) .nil))))))) (.cons (.app 4 (.tup (.cons (.v 2) (.cons (.fr (.list (.x (.v 3)))) .nil)))) (.cons (.for_ (.one 5) (.sq (.x (.fr (.lst (.cons (.i 10) (.cons (.neg (.i 10)) (.cons (.b true) (.cons .n (.cons (.s "1") (.cons (.tup (.cons (.i 1) .nil)) .nil)))))))))) (.cons (.app 4 (.tup (.cons (.v 2) (.cons (.add (.tup (.cons (.add (.tup (.cons (.v 5) .nil)) (.sl (.ix (.x (.v 3)) (.i 0)) (.so (.i 1)) .no)) .nil)) (.sl (.v 3) (.so (.i 1)) .no)) .nil)))) .nil)) (.cons (.own 4 (.cat (.b 4) (.f (.lst (.cons (.tup (.cons (.v 2) (.cons (.add (.tup (.cons (.sl (.ix (.x (.v 3)) (.i 0)) .no (.so (.neg (.i 1)))) .nil)) (.sl (.v 3) (.so (.i 1)) .no)) .nil))) (.cons (.tup (.cons (.v 2) (.cons (.add (.tup (.cons (.fr (.list (.x (.ix (.x (.v 3)) (.i 0))))) .nil)) (.sl (.v 3) (.so (.i 1)) .no)) .nil))) (.cons (.fr (.lst (.cons (.v 2) (.cons (.v 3) .nil)))) .nil))))))) (.cons (.own 4 (.cat (.b 4) (.f (.lst (.cons (.tup (.cons (.add (.tup (.cons (.i 0) .nil)) (.sl (.v 2) (.so (.i 1)) .no)) (.cons (.tup .nil) .nil))) (.cons (.tup (.cons (.add (.tup (.cons (.i 4) .nil)) (.sl (.v 2) (.so (.i 1)) .no)) (.cons (.v 3) .nil))) (.cons (.tup (.cons (.add (.tup (.cons (.b true) .nil)) (.sl (.v 2) (.so (.i 1)) .no)) (.cons (.v 3) .nil))) .nil))))))) (.cons (.own 4 (.cat (.b 4) (.f (.lst (.cons (.tup (.cons (.fr (.list (.x (.v 2)))) (.cons (.v 3) .nil))) (.cons (.s "meet") (.cons (.tup (.cons (.v 2) .nil)) (.cons .n (.cons (.i 7) .nil))))))))) (.cons (.ret (.ix (.l (.b 4)) (.md (.v 1) (.bi .len (.l (.b 4)))))) .nil))))))))
def d__law_bad_meeting : Df := ⟨2, 6, b__law_bad_meeting⟩
def b__law_bad_plan : PSs := (.cons (.tgt [2, 3] (.ix (.x (.v 0)) (.i 0))) (.cons (.set 4 (.sl (.v 0) (.so (.i 1)) .no)) (.cons (.own 5 (.lst (.cons (.tup .nil) (.cons (.mul (.v 0) (.i 9)) (.cons (.fr (.list (.x (.v 0)))) (.cons .n (.cons (.add (.tup (.cons (.tup (.cons (.v 2) (.cons (.v 3) (.cons (.i 0) .nil)))) .nil)) (.v 4)) (.cons (.add (.tup (.cons (.tup (.cons (.v 2) .nil)) .nil)) (.v 4)) (.cons (.i 7) (.cons (.s "plan") .nil)))))))))) (.cons (.app 5 (.add (.tup (.cons (.fr (.lst (.cons (.v 2) (.cons (.v 3) .nil)))) .nil)) (.v 4))) (.cons (.for_ (.one 6) (.sq (.x (.fr (.lst (.cons (.sl (.v 2) .no (.so (.neg (.i 1)))) (.cons (.add (.v 2) (.tup (.cons (.i 0) .nil))) (.cons (.add (.tup (.cons (.neg (.i 1)) .nil)) (.sl (.v 2) (.so (.i 1)) .no)) (.cons (.add (.tup (.cons (.i 3) .nil)) (.sl (.v 2) (.so (.i 1)) .no)) (.cons (.add (.tup (.cons (.b true) .nil)) (.sl (.v 2) (.so (.i 1)) .no)) (.cons (.fr (.list (.x (.v 2)))) (.cons .n .nil))))))))))) (.cons (.app 5 (.add (.tup (.cons (.tup (.cons (.v 6) (.cons (.v 3) .nil))) .nil)) (.v 4))) .nil)) (.cons (.set 7 (.sl (.v 3) (.so (.i 1)) .no)) (.cons (.for_ (.one 6) (.sq (.x (.fr (.lst (.cons (.sl (.v 3) .no (.so (.neg (.i 1)))) (.cons (.add (.v 3) (.tup (.cons (.i 0) .nil))) (.cons (.add (.tup (.cons (.neg (.i 1)) .nil)) (.v 7)) (.cons (.add (.tup (.cons (.bi .len (.x (.v 0))) .nil)) (.v 7)) (.cons (.add (.tup (.cons (.b true) .nil)) (.v 7)) (.cons (.fr (.list (.x (.v 3)))) (.cons (.i 0) .nil))))))))))) (.cons (.app 5 (.add (.tup (.cons (.tup (.cons (.v 2) (.cons (.v 6) .nil))) .nil)) (.v 4))) .nil)) (.cons (.ret (.ix (.l (.b 5)) (.md (.v 1) (.bi .len (.l (.b 5)))))) .nil))))))))
def d__law_bad_plan : Df := ⟨2, 8, b__law_bad_plan⟩
def b_written : PSs := (.cons (.own 2 (.cat (.f (.comp [1] (.one 1) (.sq (.x (.ix (.x (.v 0)) (.i 0)))) .nil (.bi .str (.x (.v 1))))) (.f (.lst (.cons (.s ":") .nil))))) (.cons (.ret (.join (.s " ") (.l (.f (.cat (.b 2) (.f (.comp [3] (.one 3) (.sq (.x (.ix (.x (.v 0)) (.i 1)))) .nil (.join (.s ",") (.l (.f (.comp [4] (.one 4) (.sq (.x (.v 3))) .nil (.bi .str (.x (.v 4)))))))))))))) .nil))
def d_written : Df := ⟨1, 5, b_written⟩
def b_number : PSs := (.cons (.for_ (.one 1) (.r2 (.neg (.i 9)) (.i 10)) (.cons (.ite (.e (.eq false (.x (.v 0)) (.x (.bi .str (.x (.v 1)))))) (.cons (.ret (.v 1)) .nil) .nil) .nil)) (.cons (.raise "NoText" "no number") .nil))
def d_number : Df := ⟨1, 2, b_number⟩
def b_read : PSs := (.cons (.set 1 (.fr (.split (.v 0) (.s " ")))) (.cons (.ite (.e (.mem true (.s ":") (.x (.v 1)))) (.cons (.raise "NoText" "no meeting") .nil) .nil) (.cons (.set 2 (.idx (.x (.v 1)) (.s ":"))) (.cons (.set 4 (.tcx [3] (.one 3) (.sq (.l (.f (.sl (.x (.v 1)) .no (.so (.v 2)))))) (.call "number" (.cons (.v 3) .nil)))) (.cons (.own 5 (.lst .nil)) (.cons (.for_ (.one 3) (.sq (.x (.fr (.sl (.x (.v 1)) (.so (.add (.v 2) (.i 1))) .no)))) (.cons (.app 5 (.tcx [6] (.one 6) (.sq (.l (.f (.split (.v 3) (.s ","))))) (.call "number" (.cons (.v 6) .nil)))) .nil)) (.cons (.set 7 (.tup (.cons (.v 4) (.cons (.bi .tup (.l (.b 5))) .nil)))) (.cons (.ite (.bool false (.cons (.not (.tr (.x (.call "is_meeting" (.cons (.v 7) .nil))))) (.cons (.e (.eq true (.x (.call "written" (.cons (.v 7) .nil))) (.x (.v 0)))) .nil))) (.cons (.raise "NoText" "not as it is written") .nil) .nil) (.cons (.ret (.v 7)) .nil)))))))))
def d_read : Df := ⟨1, 8, b_read⟩
def b__law_text : PSs := (.cons (.set 1 (.s "")) (.cons (.for_ (.one 2) (.sq (.x (.ix (.x (.v 0)) (.i 0)))) (.cons (.set 1 (.add (.add (.v 1) (.bi .str (.x (.v 2)))) (.s " "))) .nil)) (.cons (.set 1 (.add (.v 1) (.s ":"))) (.cons (.for_ (.one 3) (.sq (.x (.ix (.x (.v 0)) (.i 1)))) (.cons (.set 1 (.add (.add (.v 1) (.s " ")) (.join (.s ",") (.l (.f (.comp [4] (.one 4) (.sq (.x (.v 3))) .nil (.bi .str (.x (.v 4))))))))) .nil)) (.cons (.ret (.v 1)) .nil)))))
def d__law_text : Df := ⟨1, 5, b__law_text⟩
def b__law_spoilt : PSs := (.cons (.set 2 (.md (.fd (.v 1) (.i 4)) (.add (.bi .len (.x (.v 0))) (.i 1)))) (.cons (.set 3 (.ix (.x (.s "0129:,- +a")) (.md (.fd (.v 1) (.i 512)) (.i 10)))) (.cons (.ite (.e (.eq false (.x (.md (.v 1) (.i 4))) (.x (.i 0)))) (.cons (.ret (.add (.sl (.v 0) .no (.so (.v 2))) (.sl (.v 0) (.so (.add (.v 2) (.i 1))) .no))) .nil) .nil) (.cons (.ite (.e (.eq false (.x (.md (.v 1) (.i 4))) (.x (.i 1)))) (.cons (.ret (.add (.add (.sl (.v 0) .no (.so (.v 2))) (.sl (.v 0) (.so (.v 2)) (.so (.add (.v 2) (.i 1))))) (.sl (.v 0) (.so (.v 2)) .no))) .nil) .nil) (.cons (.ret (.add (.add (.sl (.v 0) .no (.so (.v 2))) (.v 3)) (.sl (.v 0) (.so (.sub (.add (.v 2) (.md (.v 1) (.i 4))) (.i 2))) .no))) .nil)))))
def d__law_spoilt : Df := ⟨2, 4, b__law_spoilt⟩
def b__law_read : PSs := (.cons (.set 1 (.s "other")) (.cons (.try_ (.cons (.set 1 (.call "read" (.cons (.v 0) .nil))) .nil) "PactError" (.some 2) [(false, "NoText"), (true, "NoPact"), (false, "ValueError")] 1 .none) (.cons (.ret (.v 1)) .nil)))
def d__law_read : Df := ⟨1, 3, b__law_read⟩
def b_row_number : PSs := (.cons (.ret (.idx (.x (.call "all_rows" (.cons (.v 0) .nil))) (.v 1))) .nil)
def d_row_number : Df := ⟨2, 2, b_row_number⟩
def b_stray : PSs := (.cons (.ret (.add (.add (.sl (.v 0) .no (.so (.v 1))) (.tup (.cons (.v 2) .nil))) (.sl (.v 0) (.so (.add (.v 1) (.i 1))) .no))) .nil)
def d_stray : Df := ⟨3, 3, b_stray⟩
def b_paid : PSs := (.cons (.ret (.ix (.x (.ix (.x (.v 0)) (.i 1))) (.call "row_number" (.cons (.v 0) (.cons (.v 1) .nil))))) .nil)
def d_paid : Df := ⟨2, 2, b_paid⟩
def b_pays : PSs := (.cons (.ret (.fr (.comp [3] (.one 3) (.r1 (.ix (.x (.ix (.x (.v 0)) (.i 0))) (.v 1))) .nil (.ix (.x (.call "paid" (.cons (.v 0) (.cons (.call "stray" (.cons (.v 2) (.cons (.v 1) (.cons (.v 3) .nil)))) .nil)))) (.v 1))))) .nil)
def d_pays : Df := ⟨3, 4, b_pays⟩
def b_best_deeds : PSs := (.cons (.set 3 (.call "pays" (.cons (.v 0) (.cons (.v 1) (.cons (.v 2) .nil))))) (.cons (.ret (.bi .tup (.l (.f (.comp [4, 5] (.many [4, 5]) (.en (.x (.v 3))) (.cons (.e (.eq false (.x (.v 5)) (.x (.bi .max (.x (.v 3)))))) .nil) (.v 4)))))) .nil))
def d_best_deeds : Df := ⟨3, 6, b_best_deeds⟩
def b_is_calm : PSs := (.cons (.ret (.bi .all (.l (.f (.comp [2] (.one 2) (.r1 (.bi .len (.x (.v 1)))) .nil (.mem false (.ix (.x (.v 1)) (.v 2)) (.x (.call "best_deeds" (.cons (.v 0) (.cons (.v 2) (.cons (.v 1) .nil))))))))))) .nil)
def d_is_calm : Df := ⟨2, 3, b_is_calm⟩
def b_calm : PSs := (.cons (.ret (.bi .tup (.l (.f (.comp [1] (.one 1) (.sq (.x (.call "all_rows" (.cons (.v 0) .nil)))) (.cons (.tr (.x (.call "is_calm" (.cons (.v 0) (.cons (.v 1) .nil))))) .nil) (.v 1)))))) .nil)
def d_calm : Df := ⟨1, 2, b_calm⟩
def b_held_to : PSs := (.cons (.ret (.bi .min (.l (.f (.comp [2] (.one 2) (.sq (.x (.call "all_rows" (.cons (.v 0) .nil)))) .nil (.bi .max (.x (.call "pays" (.cons (.v 0) (.cons (.v 1) (.cons (.v 2) .nil))))))))))) .nil)
def d_held_to : Df := ⟨2, 3, b_held_to⟩
def b_sure : PSs := (.cons (.own 2 (.lst .nil)) (.cons (.for_ (.one 3) (.r1 (.ix (.x (.ix (.x (.v 0)) (.i 0))) (.v 1))) (.cons (.app 2 (.bi .min (.l (.f (.comp [4] (.one 4) (.sq (.x (.call "all_rows" (.cons (.v 0) .nil)))) (.cons (.e (.eq false (.x (.ix (.x (.v 4)) (.v 1))) (.x (.v 3)))) .nil) (.ix (.x (.call "paid" (.cons (.v 0) (.cons (.v 4) .nil)))) (.v 1))))))) .nil)) (.cons (.ret (.bi .max (.l (.b 2)))) .nil)))
def d_sure : Df := ⟨2, 5, b_sure⟩
def b__law_paid : PSs := (.cons (.ret (.ix (.x (.ix (.x (.v 0)) (.i 1))) (.idx (.x (.call "_law_rows" (.cons (.ix (.x (.v 0)) (.i 0)) .nil))) (.v 1)))) .nil)
def d__law_paid : Df := ⟨2, 2, b__law_paid⟩
def b__law_stray : PSs := (.cons (.ret (.add (.add (.sl (.v 0) .no (.so (.v 1))) (.tup (.cons (.v 2) .nil))) (.sl (.v 0) (.so (.add (.v 1) (.i 1))) .no))) .nil)
def d__law_stray : Df := ⟨3, 3, b__law_stray⟩
def b__law_whole : PSs := (.cons (.ret (.bool true (.cons (.isi .int (.v 0)) (.cons (.not (.isi .bool (.v 0))) .nil)))) .nil)
def d__law_whole : Df := ⟨1, 1, b__law_whole⟩
def b__law_best : PSs := (.cons (.set 4 (.fr (.comp [3] (.one 3) (.r1 (.ix (.x (.ix (.x (.v 0)) (.i 0))) (.v 1))) .nil (.tup (.cons (.ix (.x (.call "_law_paid" (.cons (.v 0) (.cons (.call "_law_stray" (.cons (.v 2) (.cons (.v 1) (.cons (.v 3) .nil)))) .nil)))) (.v 1)) (.cons (.v 3) .nil)))))) (.cons (.ret (.fr (.comp [5, 3] (.many [5, 3]) (.sq (.x (.v 4))) (.cons (.e (.eq false (.x (.v 5)) (.x (.ix (.x (.bi .maxT (.x (.v 4)))) (.i 0))))) .nil) (.v 3)))) .nil))
def d__law_best : Df := ⟨3, 6, b__law_best⟩
def b_common : PSs := (.cons (.whl (.e (.eq true (.x (.v 1)) (.x (.i 0)))) (.cons (.par 0 1 (.v 1) (.md (.v 0) (.v 1))) .nil)) (.cons (.ret (.bi .abs (.x (.v 0)))) .nil))
def d_common : Df := ⟨2, 2, b_common⟩
def b_fraction : PSs := (.cons (.ite (.e (.cmp .lt (.v 1) (.i 0))) (.cons (.set 0 (.neg (.v 0))) (.cons (.set 1 (.neg (.v 1))) .nil)) .nil) (.cons (.set 2 (.call "common" (.cons (.v 0) (.cons (.v 1) .nil)))) (.cons (.ret (.tup (.cons (.fd (.v 0) (.v 2)) (.cons (.fd (.v 1) (.v 2)) .nil)))) .nil)))
def d_fraction : Df := ⟨2, 3, b_fraction⟩
def b_plus : PSs := (.cons (.ret (.call "fraction" (.cons (.add (.mul (.ix (.x (.v 0)) (.i 0)) (.ix (.x (.v 1)) (.i 1))) (.mul (.ix (.x (.v 1)) (.i 0)) (.ix (.x (.v 0)) (.i 1)))) (.cons (.mul (.ix (.x (.v 0)) (.i 1)) (.ix (.x (.v 1)) (.i 1))) .nil)))) .nil)
def d_plus : Df := ⟨2, 2, b_plus⟩
def b_times : PSs := (.cons (.ret (.call "fraction" (.cons (.mul (.ix (.x (.v 0)) (.i 0)) (.ix (.x (.v 1)) (.i 0))) (.cons (.mul (.ix (.x (.v 0)) (.i 1)) (.ix (.x (.v 1)) (.i 1))) .nil)))) .nil)
def d_times : Df := ⟨2, 2, b_times⟩
def b_rest_of : PSs := (.cons (.ret (.tup (.cons (.sub (.ix (.x (.v 0)) (.i 1)) (.ix (.x (.v 0)) (.i 0))) (.cons (.ix (.x (.v 0)) (.i 1)) .nil)))) .nil)
def d_rest_of : Df := ⟨1, 1, b_rest_of⟩
def b_now_and_later : PSs := (.cons (.ret (.call "plus" (.cons (.call "times" (.cons (.call "rest_of" (.cons (.v 2) .nil)) (.cons (.tup (.cons (.v 0) (.cons (.i 1) .nil))) .nil))) (.cons (.call "times" (.cons (.v 2) (.cons (.v 1) .nil))) .nil)))) .nil)
def d_now_and_later : Df := ⟨3, 3, b_now_and_later⟩
def b_power : PSs := (.cons (.set 2 (.tup (.cons (.i 1) (.cons (.i 1) .nil)))) (.cons (.for_ (.one 3) (.r1 (.v 1)) (.cons (.set 2 (.call "times" (.cons (.v 2) (.cons (.v 0) .nil)))) .nil)) (.cons (.ret (.v 2)) .nil)))
def d_power : Df := ⟨2, 4, b_power⟩
def b_chain_worths : PSs := (.cons (.dic 2) (.cons (.for_ (.one 3) (.r1 (.bi .len (.x (.v 0)))) (.cons (.own 4 (.lst .nil)) (.cons (.set 5 (.v 3)) (.cons (.whl (.bool true (.cons (.e (.memD true (.v 5) 2)) (.cons (.e (.mem true (.v 5) (.l (.b 4)))) .nil))) (.cons (.app 4 (.v 5)) (.cons (.set 5 (.ix (.x (.ix (.x (.v 0)) (.v 5))) (.i 1))) .nil))) (.cons (.ite (.e (.memD true (.v 5) 2)) (.cons (.dput 2 (.v 5) (.call "round_worth" (.cons (.fr (.comp [6] (.one 6) (.sq (.l (.f (.sl (.l (.b 4)) (.so (.idx (.l (.b 4)) (.v 5))) .no)))) .nil (.ix (.x (.ix (.x (.v 0)) (.v 6))) (.i 0)))) (.cons (.v 1) .nil)))) .nil) .nil) (.cons (.frz 4 (.for_ (.one 6) (.rv (.x (.v 4))) (.cons (.ite (.e (.memD true (.v 6) 2)) (.cons (.dput 2 (.v 6) (.call "now_and_later" (.cons (.ix (.x (.ix (.x (.v 0)) (.v 6))) (.i 0)) (.cons (.getD 2 (.ix (.x (.ix (.x (.v 0)) (.v 6))) (.i 1))) (.cons (.v 1) .nil))))) .nil) .nil) .nil))) .nil)))))) (.cons (.ret (.fr (.comp [6] (.one 6) (.r1 (.bi .len (.x (.v 0)))) .nil (.getD 2 (.v 6))))) .nil)))
def d_chain_worths : Df := ⟨2, 7, b_chain_worths⟩
def b_round_worth : PSs := (.cons (.set 2 (.tup (.cons (.i 0) (.cons (.i 1) .nil)))) (.cons (.for_ (.many [3, 4]) (.en (.x (.v 0))) (.cons (.set 2 (.call "plus" (.cons (.v 2) (.cons (.call "times" (.cons (.call "power" (.cons (.v 1) (.cons (.v 3) .nil))) (.cons (.tup (.cons (.v 4) (.cons (.i 1) .nil))) .nil))) .nil)))) .nil)) (.cons (.set 5 (.call "rest_of" (.cons (.call "power" (.cons (.v 1) (.cons (.bi .len (.x (.v 0))) .nil))) .nil))) (.cons (.ret (.call "times" (.cons (.call "times" (.cons (.call "rest_of" (.cons (.v 1) .nil)) (.cons (.v 2) .nil))) (.cons (.call "fraction" (.cons (.ix (.x (.v 5)) (.i 1)) (.cons (.ix (.x (.v 5)) (.i 0)) .nil))) .nil)))) .nil))))
def d_round_worth : Df := ⟨2, 6, b_round_worth⟩
def b_worths : PSs := (.cons (.own 3 (.lst .nil)) (.cons (.for_ (.one 4) (.r1 (.bi .len (.x (.ix (.x (.v 0)) (.i 0))))) (.cons (.own 5 (.lst .nil)) (.cons (.for_ (.many [6, 7]) (.sq (.x (.v 1))) (.cons (.app 5 (.tup (.cons (.ix (.x (.call "paid" (.cons (.v 0) (.cons (.v 6) .nil)))) (.v 4)) (.cons (.ix (.x (.v 7)) (.call "row_number" (.cons (.v 0) (.cons (.v 6) .nil)))) .nil)))) .nil)) (.cons (.frz 5 (.app 3 (.call "chain_worths" (.cons (.v 5) (.cons (.v 2) .nil))))) .nil)))) (.cons (.ret (.bi .tup (.l (.f (.comp [8] (.one 8) (.r1 (.bi .len (.x (.v 1)))) .nil (.bi .tup (.l (.f (.comp [9] (.one 9) (.sq (.l (.b 3))) .nil (.ix (.x (.v 9)) (.v 8))))))))))) .nil)))
def d_worths : Df := ⟨3, 10, b_worths⟩
def b_played : PSs := (.cons (.set 4 (.i 0)) (.cons (.own 5 (.lst .nil)) (.cons (.for_ (.one 6) (.r1 (.v 2)) (.cons (.set 7 (.ix (.x (.ix (.x (.v 1)) (.v 4))) (.i 0))) (.cons (.for_ (.many [8, 9, 10]) (.sq (.x (.v 3))) (.cons (.ite (.e (.eq false (.x (.v 8)) (.x (.v 6)))) (.cons (.set 7 (.call "stray" (.cons (.v 7) (.cons (.v 9) (.cons (.v 10) .nil))))) .nil) .nil) .nil)) (.cons (.app 5 (.v 7)) (.cons (.set 4 (.ix (.x (.ix (.x (.ix (.x (.v 1)) (.v 4))) (.i 1))) (.call "row_number" (.cons (.v 0) (.cons (.v 7) .nil))))) .nil))))) (.cons (.ret (.bi .tup (.l (.b 5)))) .nil))))
def d_played : Df := ⟨4, 11, b_played⟩
def b_worth_of : PSs := (.cons (.own 4 (.lst .nil)) (.cons (.for_ (.one 5) (.r1 (.bi .len (.x (.ix (.x (.v 0)) (.i 0))))) (.cons (.set 7 (.call "round_worth" (.cons (.fr (.comp [6] (.one 6) (.sq (.x (.v 2))) .nil (.ix (.x (.call "paid" (.cons (.v 0) (.cons (.v 6) .nil)))) (.v 5)))) (.cons (.v 3) .nil)))) (.cons (.for_ (.one 6) (.rv (.x (.v 1))) (.cons (.set 7 (.call "now_and_later" (.cons (.ix (.x (.call "paid" (.cons (.v 0) (.cons (.v 6) .nil)))) (.v 5)) (.cons (.v 7) (.cons (.v 3) .nil))))) .nil)) (.cons (.app 4 (.v 7)) .nil)))) (.cons (.ret (.bi .tup (.l (.b 4)))) .nil)))
def d_worth_of : Df := ⟨4, 8, b_worth_of⟩
def b__law_fraction : PSs := (.cons (.ite (.e (.cmp .lt (.v 1) (.i 0))) (.cons (.set 0 (.neg (.v 0))) (.cons (.set 1 (.neg (.v 1))) .nil)) .nil) (.cons (.set 2 (.bi .abs (.x (.v 0)))) (.cons (.set 3 (.v 1)) (.cons (.whl (.e (.cmp .gt (.v 3) (.i 0))) (.cons (.par 2 3 (.v 3) (.md (.v 2) (.v 3))) .nil)) (.cons (.ret (.tup (.cons (.fd (.v 0) (.v 2)) (.cons (.fd (.v 1) (.v 2)) .nil)))) .nil)))))
def d__law_fraction : Df := ⟨2, 4, b__law_fraction⟩
def b__law_later : PSs := (.cons (.tgt [3, 4] (.v 2)) (.cons (.ret (.call "_law_fraction" (.cons (.add (.mul (.mul (.sub (.v 4) (.v 3)) (.v 0)) (.ix (.x (.v 1)) (.i 1))) (.mul (.v 3) (.ix (.x (.v 1)) (.i 0)))) (.cons (.mul (.v 4) (.ix (.x (.v 1)) (.i 1))) .nil)))) .nil))
def d__law_later : Df := ⟨3, 5, b__law_later⟩
def b__law_more : PSs := (.cons (.ret (.cmp .gt (.mul (.ix (.x (.v 0)) (.i 0)) (.ix (.x (.v 1)) (.i 1))) (.mul (.ix (.x (.v 1)) (.i 0)) (.ix (.x (.v 0)) (.i 1))))) .nil)
def d__law_more : Df := ⟨2, 2, b__law_more⟩
def b__law_after : PSs := (.cons (.ret (.ix (.x (.ix (.x (.ix (.x (.v 1)) (.v 2))) (.i 1))) (.idx (.x (.call "_law_rows" (.cons (.ix (.x (.v 0)) (.i 0)) .nil))) (.v 3)))) .nil)
def d__law_after : Df := ⟨4, 4, b__law_after⟩
def b__law_played : PSs := (.cons (.set 4 (.i 0)) (.cons (.own 5 (.lst .nil)) (.cons (.for_ (.one 6) (.r1 (.v 2)) (.cons (.set 7 (.ix (.x (.ix (.x (.v 1)) (.v 4))) (.i 0))) (.cons (.for_ (.many [8, 9, 10]) (.sq (.x (.v 3))) (.cons (.ite (.e (.eq false (.x (.v 8)) (.x (.v 6)))) (.cons (.set 7 (.call "_law_stray" (.cons (.v 7) (.cons (.v 9) (.cons (.v 10) .nil))))) .nil) .nil) .nil)) (.cons (.app 5 (.v 7)) (.cons (.set 4 (.call "_law_after" (.cons (.v 0) (.cons (.v 1) (.cons (.v 4) (.cons (.v 7) .nil)))))) .nil))))) (.cons (.frz 5 (.ret (.v 5))) .nil))))
def d__law_played : Df := ⟨4, 11, b__law_played⟩
def b__law_round : PSs := (.cons (.own 2 (.lst (.cons (.i 0) .nil))) (.cons (.set 3 (.call "_law_after" (.cons (.v 0) (.cons (.v 1) (.cons (.i 0) (.cons (.ix (.x (.ix (.x (.v 1)) (.i 0))) (.i 0)) .nil)))))) (.cons (.whl (.e (.mem true (.v 3) (.l (.b 2)))) (.cons (.app 2 (.v 3)) (.cons (.set 3 (.call "_law_after" (.cons (.v 0) (.cons (.v 1) (.cons (.v 3) (.cons (.ix (.x (.ix (.x (.v 1)) (.v 3))) (.i 0)) .nil)))))) .nil))) (.cons (.frz 2 (.ret (.tup (.cons (.v 2) (.cons (.idx (.x (.v 2)) (.v 3)) .nil))))) .nil))))
def d__law_round : Df := ⟨2, 4, b__law_round⟩
def b__law_is_fraction : PSs := (.cons (.ret (.bool true (.cons (.isi .tup (.v 0)) (.cons (.eq false (.x (.bi .len (.x (.v 0)))) (.x (.i 2))) (.cons (.cmp .gt (.ix (.x (.v 0)) (.i 1)) (.i 0)) (.cons (.eq false (.x (.call "_law_fraction" (.cons (.ix (.x (.v 0)) (.i 0)) (.cons (.ix (.x (.v 0)) (.i 1)) .nil)))) (.x (.v 0))) .nil)))))) .nil)
def d__law_is_fraction : Df := ⟨1, 1, b__law_is_fraction⟩
def b_is_more : PSs := (.cons (.ret (.cmp .gt (.mul (.ix (.x (.v 0)) (.i 0)) (.ix (.x (.v 1)) (.i 1))) (.mul (.ix (.x (.v 1)) (.i 0)) (.ix (.x (.v 0)) (.i 1))))) .nil)
def d_is_more : Df := ⟨2, 2, b_is_more⟩
def b_move : PSs := (.cons (.set 5 (.call "stray" (.cons (.ix (.x (.ix (.x (.v 1)) (.v 2))) (.i 0)) (.cons (.v 3) (.cons (.v 4) .nil))))) (.cons (.ret (.tup (.cons (.ix (.x (.call "paid" (.cons (.v 0) (.cons (.v 5) .nil)))) (.v 3)) (.cons (.ix (.x (.ix (.x (.ix (.x (.v 1)) (.v 2))) (.i 1))) (.call "row_number" (.cons (.v 0) (.cons (.v 5) .nil)))) .nil)))) .nil))
def d_move : Df := ⟨5, 6, b_move⟩
def b_gain : PSs := (.cons (.set 3 (.call "worths" (.cons (.v 0) (.cons (.v 1) (.cons (.v 2) .nil))))) (.cons (.for_ (.one 4) (.r1 (.bi .len (.x (.v 1)))) (.cons (.for_ (.many [5, 6]) (.en (.x (.ix (.x (.v 0)) (.i 0)))) (.cons (.for_ (.one 7) (.r1 (.v 6)) (.cons (.tgt [8, 9] (.call "move" (.cons (.v 0) (.cons (.v 1) (.cons (.v 4) (.cons (.v 5) (.cons (.v 7) .nil))))))) (.cons (.ite (.tr (.x (.call "is_more" (.cons (.call "now_and_later" (.cons (.v 8) (.cons (.ix (.x (.ix (.x (.v 3)) (.v 9))) (.v 5)) (.cons (.v 2) .nil)))) (.cons (.ix (.x (.ix (.x (.v 3)) (.v 4))) (.v 5)) .nil))))) (.cons (.ret (.tup (.cons (.v 4) (.cons (.v 5) (.cons (.v 7) .nil))))) .nil) .nil) .nil))) .nil)) .nil)) (.cons (.ret .n) .nil)))
def d_gain : Df := ⟨3, 10, b_gain⟩
def b_holds : PSs := (.cons (.ret (.isN false (.call "gain" (.cons (.v 0) (.cons (.v 1) (.cons (.v 2) .nil)))))) .nil)
def d_holds : Df := ⟨3, 3, b_holds⟩
def b_best_of : PSs := (.cons (.own 6 (.comp [4, 5] (.many [4, 5]) (.sq (.x (.v 1))) .nil (.ix (.x (.v 4)) (.v 2)))) (.cons (.set 7 (.b true)) (.cons (.set 8 (.fr (.lst .nil))) (.cons (.whl (.tr (.x (.v 7))) (.cons (.set 7 (.b false)) (.cons (.set 11 (.fr (.comp [9, 10] (.many [9, 10]) (.en (.l (.b 6))) .nil (.call "move" (.cons (.v 0) (.cons (.v 1) (.cons (.v 9) (.cons (.v 2) (.cons (.v 10) .nil))))))))) (.cons (.set 8 (.call "chain_worths" (.cons (.v 11) (.cons (.v 3) .nil)))) (.cons (.for_ (.one 9) (.r1 (.bi .len (.x (.v 1)))) (.cons (.set 12 (.ix (.x (.v 8)) (.v 9))) (.cons (.for_ (.one 10) (.r1 (.ix (.x (.ix (.x (.v 0)) (.i 0))) (.v 2))) (.cons (.tgt [13, 14] (.call "move" (.cons (.v 0) (.cons (.v 1) (.cons (.v 9) (.cons (.v 2) (.cons (.v 10) .nil))))))) (.cons (.set 15 (.call "now_and_later" (.cons (.v 13) (.cons (.ix (.x (.v 8)) (.v 14)) (.cons (.v 3) .nil))))) (.cons (.ite (.tr (.x (.call "is_more" (.cons (.v 15) (.cons (.v 12) .nil))))) (.cons (.set 12 (.v 15)) (.cons (.put 6 (.v 9) (.v 10)) (.cons (.set 7 (.b true)) .nil))) .nil) .nil)))) .nil))) .nil))))) (.cons (.ret (.tup (.cons (.bi .tup (.l (.b 6))) (.cons (.bi .tup (.x (.v 8))) .nil)))) .nil)))))
def d_best_of : Df := ⟨4, 16, b_best_of⟩
def b_best_worths : PSs := (.cons (.ret (.ix (.x (.call "best_of" (.cons (.v 0) (.cons (.v 1) (.cons (.v 2) (.cons (.v 3) .nil)))))) (.i 1))) .nil)
def d_best_worths : Df := ⟨4, 4, b_best_worths⟩
def b_best_strays : PSs := (.cons (.ret (.ix (.x (.call "best_of" (.cons (.v 0) (.cons (.v 1) (.cons (.v 2) (.cons (.v 3) .nil)))))) (.i 0))) .nil)
def d_best_strays : Df := ⟨4, 4, b_best_strays⟩
def b__law_move : PSs := (.cons (.set 5 (.call "_law_stray" (.cons (.ix (.x (.ix (.x (.v 1)) (.v 2))) (.i 0)) (.cons (.v 3) (.cons (.v 4) .nil))))) (.cons (.ret (.tup (.cons (.ix (.x (.call "_law_paid" (.cons (.v 0) (.cons (.v 5) .nil)))) (.v 3)) (.cons (.ix (.x (.ix (.x (.ix (.x (.v 1)) (.v 2))) (.i 1))) (.idx (.x (.call "_law_rows" (.cons (.ix (.x (.v 0)) (.i 0)) .nil))) (.v 5))) .nil)))) .nil))
def d__law_move : Df := ⟨5, 6, b__law_move⟩
def b__law_gains : PSs := (.cons (.own 4 (.lst .nil)) (.cons (.for_ (.one 5) (.r1 (.bi .len (.x (.v 1)))) (.cons (.for_ (.many [6, 7]) (.en (.x (.ix (.x (.v 0)) (.i 0)))) (.cons (.for_ (.one 8) (.r1 (.v 7)) (.cons (.tgt [9, 10] (.call "_law_move" (.cons (.v 0) (.cons (.v 1) (.cons (.v 5) (.cons (.v 6) (.cons (.v 8) .nil))))))) (.cons (.ite (.tr (.x (.call "_law_more" (.cons (.call "_law_later" (.cons (.v 9) (.cons (.ix (.x (.ix (.x (.v 3)) (.v 10))) (.v 6)) (.cons (.v 2) .nil)))) (.cons (.ix (.x (.ix (.x (.v 3)) (.v 5))) (.v 6)) .nil))))) (.cons (.app 4 (.tup (.cons (.v 5) (.cons (.v 6) (.cons (.v 8) .nil))))) .nil) .nil) .nil))) .nil)) .nil)) (.cons (.frz 4 (.ret (.v 4))) .nil)))
def d__law_gains : Df := ⟨4, 11, b__law_gains⟩
def b__law_best_right : PSs := (.cons (.ite (.bool false (.cons (.not (.tr (.x (.isi .tup (.v 4))))) (.cons (.e (.eq true (.x (.bi .len (.x (.v 4)))) (.x (.bi .len (.x (.v 1)))))) (.cons (.e (.eq true (.x (.bi .len (.x (.v 5)))) (.x (.bi .len (.x (.v 1)))))) .nil)))) (.cons (.ret (.b false)) .nil) .nil) (.cons (.for_ (.one 6) (.r1 (.bi .len (.x (.v 1)))) (.cons (.own 7 (.lst .nil)) (.cons (.for_ (.one 8) (.r1 (.ix (.x (.ix (.x (.v 0)) (.i 0))) (.v 2))) (.cons (.tgt [9, 10] (.call "_law_move" (.cons (.v 0) (.cons (.v 1) (.cons (.v 6) (.cons (.v 2) (.cons (.v 8) .nil))))))) (.cons (.app 7 (.call "_law_later" (.cons (.v 9) (.cons (.ix (.x (.v 4)) (.v 10)) (.cons (.v 3) .nil))))) .nil))) (.cons (.ite (.bool false (.cons (.not (.e (.chain .le .lt (.i 0) (.ix (.x (.v 5)) (.v 6)) (.bi .len (.l (.b 7)))))) (.cons (.e (.eq true (.x (.ix (.l (.b 7)) (.ix (.x (.v 5)) (.v 6)))) (.x (.ix (.x (.v 4)) (.v 6))))) .nil))) (.cons (.ret (.b false)) .nil) .nil) (.cons (.ite (.tr (.l (.f (.comp [11] (.one 11) (.sq (.l (.b 7))) (.cons (.tr (.x (.call "_law_more" (.cons (.v 11) (.cons (.ix (.x (.v 4)) (.v 6)) .nil))))) .nil) (.v 11))))) (.cons (.ret (.b false)) .nil) .nil) .nil))))) (.cons (.ret (.b true)) .nil)))
def d__law_best_right : Df := ⟨6, 12, b__law_best_right⟩
def b_nexts_of : PSs := (.cons (.own 4 (.lst .nil)) (.cons (.for_ (.one 5) (.sq (.x (.call "all_rows" (.cons (.v 0) .nil)))) (.cons (.set 7 (.fr (.comp [6] (.one 6) (.r1 (.bi .len (.x (.v 1)))) (.cons (.e (.eq true (.x (.ix (.x (.v 1)) (.v 6))) (.x (.ix (.x (.v 5)) (.v 6))))) .nil) (.v 6)))) (.cons (.ite (.e (.eq false (.x (.bi .len (.x (.v 7)))) (.x (.i 1)))) (.cons (.app 4 (.add (.v 3) (.ix (.x (.v 7)) (.i 0)))) .nil) (.cons (.app 4 (.v 2)) .nil)) .nil))) (.cons (.ret (.bi .tup (.l (.b 4)))) .nil)))
def d_nexts_of : Df := ⟨4, 8, b_nexts_of⟩
def b_steady : PSs := (.cons (.ret (.bi .tup (.l (.f (.comp [3, 4] (.many [3, 4]) (.en (.x (.add (.tup (.cons (.v 1) .nil)) (.v 2)))) .nil (.tup (.cons (.v 4) (.cons (.call "nexts_of" (.cons (.v 0) (.cons (.v 4) (.cons (.v 3) (.cons (.i 1) .nil))))) .nil)))))))) .nil)
def d_steady : Df := ⟨3, 5, b_steady⟩
def b_better_deed : PSs := (.cons (.set 4 (.call "paid" (.cons (.v 0) (.cons (.v 1) .nil)))) (.cons (.for_ (.many [5, 6]) (.en (.x (.ix (.x (.v 0)) (.i 0)))) (.cons (.for_ (.one 7) (.r1 (.v 6)) (.cons (.ite (.e (.eq true (.x (.v 7)) (.x (.ix (.x (.v 1)) (.v 5))))) (.cons (.set 8 (.ix (.x (.call "paid" (.cons (.v 0) (.cons (.call "stray" (.cons (.v 1) (.cons (.v 5) (.cons (.v 7) .nil)))) .nil)))) (.v 5))) (.cons (.ite (.tr (.x (.call "is_more" (.cons (.call "now_and_later" (.cons (.v 8) (.cons (.tup (.cons (.ix (.x (.v 2)) (.v 5)) (.cons (.i 1) .nil))) (.cons (.v 3) .nil)))) (.cons (.tup (.cons (.ix (.x (.v 4)) (.v 5)) (.cons (.i 1) .nil))) .nil))))) (.cons (.ret (.tup (.cons (.v 5) (.cons (.v 7) .nil)))) .nil) .nil) .nil)) .nil) .nil)) .nil)) (.cons (.ret .n) .nil)))
def d_better_deed : Df := ⟨4, 9, b_better_deed⟩
def b_least_pays : PSs := (.cons (.ret (.bi .tup (.l (.f (.comp [2] (.one 2) (.r1 (.bi .len (.x (.ix (.x (.v 0)) (.i 0))))) .nil (.bi .min (.l (.f (.comp [3] (.one 3) (.sq (.x (.v 1))) .nil (.ix (.x (.call "paid" (.cons (.v 0) (.cons (.v 3) .nil)))) (.v 2))))))))))) .nil)
def d_least_pays : Df := ⟨2, 4, b_least_pays⟩
def b_kept : PSs := (.cons (.set 2 (.fr (.list (.x (.call "all_rows" (.cons (.v 0) .nil)))))) (.cons (.set 3 (.neg (.i 1))) (.cons (.whl (.bool true (.cons (.tr (.x (.v 2))) (.cons (.e (.eq true (.x (.v 3)) (.x (.bi .len (.x (.v 2)))))) .nil))) (.cons (.set 3 (.bi .len (.x (.v 2)))) (.cons (.set 4 (.call "least_pays" (.cons (.v 0) (.cons (.v 2) .nil)))) (.cons (.set 2 (.fr (.comp [5] (.one 5) (.sq (.x (.v 2))) (.cons (.e (.isN false (.call "better_deed" (.cons (.v 0) (.cons (.v 5) (.cons (.v 4) (.cons (.v 1) .nil))))))) .nil) (.v 5)))) .nil)))) (.cons (.ret (.bi .tup (.x (.v 2)))) .nil))))
def d_kept : Df := ⟨2, 6, b_kept⟩
def b_must : PSs := (.cons (.ite (.not (.tr (.x (.v 0)))) (.cons (.raise "NoPact" "no agreement is kept") .nil) .nil) .nil)
def d_must : Df := ⟨1, 1, b_must⟩
def b_floors : PSs := (.cons (.set 2 (.call "kept" (.cons (.v 0) (.cons (.v 1) .nil)))) (.cons (.ex (.call "must" (.cons (.v 2) .nil))) (.cons (.ret (.call "least_pays" (.cons (.v 0) (.cons (.v 2) .nil)))) .nil)))
def d_floors : Df := ⟨2, 3, b_floors⟩
def b_hardest : PSs := (.cons (.set 2 (.call "kept" (.cons (.v 0) (.cons (.v 1) .nil)))) (.cons (.set 3 (.call "floors" (.cons (.v 0) (.cons (.v 1) .nil)))) (.cons (.own 4 (.lst .nil)) (.cons (.for_ (.many [5, 6]) (.en (.x (.v 3))) (.cons (.app 4 (.ix (.l (.f (.comp [7] (.one 7) (.sq (.x (.v 2))) (.cons (.e (.eq false (.x (.ix (.x (.call "paid" (.cons (.v 0) (.cons (.v 7) .nil)))) (.v 5))) (.x (.v 6)))) .nil) (.v 7)))) (.i 0))) .nil)) (.cons (.ret (.bi .tup (.l (.b 4)))) .nil)))))
def d_hardest : Df := ⟨2, 8, b_hardest⟩
def b_why_not : PSs := (.cons (.ret (.call "better_deed" (.cons (.v 0) (.cons (.v 1) (.cons (.call "floors" (.cons (.v 0) (.cons (.v 2) .nil))) (.cons (.v 2) .nil)))))) .nil)
def d_why_not : Df := ⟨3, 3, b_why_not⟩
def b__law_steady : PSs := (.cons (.own 3 (.lst .nil)) (.cons (.for_ (.many [4, 5]) (.en (.x (.add (.tup (.cons (.v 1) .nil)) (.v 2)))) (.cons (.own 6 (.lst .nil)) (.cons (.for_ (.one 7) (.sq (.x (.call "_law_rows" (.cons (.ix (.x (.v 0)) (.i 0)) .nil)))) (.cons (.set 9 (.fr (.comp [8] (.one 8) (.r1 (.bi .len (.x (.v 1)))) (.cons (.e (.eq true (.x (.ix (.x (.v 7)) (.v 8))) (.x (.ix (.x (.v 5)) (.v 8))))) .nil) (.v 8)))) (.cons (.app 6 (.ix (.l (.f (.lst (.cons (.v 4) (.cons (.add (.i 1) (.bi .sum (.x (.v 9)))) .nil))))) (.bi .int (.x (.eq false (.x (.bi .len (.x (.v 9)))) (.x (.i 1))))))) .nil))) (.cons (.app 3 (.tup (.cons (.v 5) (.cons (.bi .tup (.l (.b 6))) .nil)))) .nil)))) (.cons (.ret (.bi .tup (.l (.b 3)))) .nil)))
def d__law_steady : Df := ⟨3, 10, b__law_steady⟩
def b__law_deeds : PSs := (.cons (.own 4 (.lst .nil)) (.cons (.for_ (.many [5, 6]) (.en (.x (.ix (.x (.v 0)) (.i 0)))) (.cons (.for_ (.one 7) (.r1 (.v 6)) (.cons (.set 8 (.ix (.x (.call "_law_paid" (.cons (.v 0) (.cons (.call "_law_stray" (.cons (.v 1) (.cons (.v 5) (.cons (.v 7) .nil)))) .nil)))) (.v 5))) (.cons (.set 9 (.tup (.cons (.ix (.x (.call "_law_paid" (.cons (.v 0) (.cons (.v 1) .nil)))) (.v 5)) (.cons (.i 1) .nil)))) (.cons (.ite (.bool true (.cons (.e (.eq true (.x (.v 7)) (.x (.ix (.x (.v 1)) (.v 5))))) (.cons (.tr (.x (.call "_law_more" (.cons (.call "_law_later" (.cons (.v 8) (.cons (.tup (.cons (.ix (.x (.v 2)) (.v 5)) (.cons (.i 1) .nil))) (.cons (.v 3) .nil)))) (.cons (.v 9) .nil))))) .nil))) (.cons (.app 4 (.tup (.cons (.v 5) (.cons (.v 7) .nil)))) .nil) .nil) .nil)))) .nil)) (.cons (.frz 4 (.ret (.v 4))) .nil)))
def d__law_deeds : Df := ⟨4, 10, b__law_deeds⟩
def b__law_kept : PSs := (.cons (.set 2 (.call "_law_rows" (.cons (.ix (.x (.v 0)) (.i 0)) .nil))) (.cons (.own 3 (.lst .nil)) (.cons (.for_ (.one 4) (.sq (.x (.v 2))) (.cons (.set 5 (.b false)) (.cons (.for_ (.one 6) (.sq (.x (.v 2))) (.cons (.for_ (.one 7) (.sq (.x (.v 2))) (.cons (.set 8 (.tup (.cons (.ix (.x (.call "_law_paid" (.cons (.v 0) (.cons (.v 6) .nil)))) (.i 0)) (.cons (.ix (.x (.call "_law_paid" (.cons (.v 0) (.cons (.v 7) .nil)))) (.i 1)) .nil)))) (.cons (.ite (.not (.tr (.l (.f (.comp [9] (.one 9) (.sq (.x (.tup (.cons (.v 4) (.cons (.v 6) (.cons (.v 7) .nil)))))) (.cons (.tr (.x (.call "_law_deeds" (.cons (.v 0) (.cons (.v 9) (.cons (.v 8) (.cons (.v 1) .nil))))))) .nil) (.v 9)))))) (.cons (.set 5 (.b true)) .nil) .nil) .nil))) .nil)) (.cons (.ite (.tr (.x (.v 5))) (.cons (.app 3 (.v 4)) .nil) .nil) .nil)))) (.cons (.frz 3 (.ret (.v 3))) .nil))))
def d__law_kept : Df := ⟨2, 10, b__law_kept⟩
def b__law_told : PSs := (.cons (.set 4 (.s "other")) (.cons (.try_ (.cons (.ite (.e (.eq false (.x (.v 0)) (.x (.i 0)))) (.cons (.set 4 (.call "floors" (.cons (.v 1) (.cons (.v 3) .nil)))) .nil) (.cons (.ite (.e (.eq false (.x (.v 0)) (.x (.i 1)))) (.cons (.set 4 (.call "hardest" (.cons (.v 1) (.cons (.v 3) .nil)))) .nil) (.cons (.set 4 (.call "why_not" (.cons (.v 1) (.cons (.v 2) (.cons (.v 3) .nil))))) .nil)) .nil)) .nil) "PactError" (.some 5) [(false, "NoPact"), (true, "NoText"), (false, "ValueError")] 4 (.some "no pact")) (.cons (.ret (.v 4)) .nil)))
def d__law_told : Df := ⟨4, 6, b__law_told⟩
def b__law_floors : PSs := (.cons (.set 2 .n) (.cons (.try_ (.cons (.set 2 (.call "floors" (.cons (.v 0) (.cons (.v 1) .nil)))) .nil) "NoPact" .none [] 2 .none) (.cons (.ret (.v 2)) .nil)))
def d__law_floors : Df := ⟨2, 3, b__law_floors⟩
def b_least_of_deed : PSs := (.cons (.ite (.e (.cmp .gt (.v 0) (.v 1))) (.cons (.ite (.e (.cmp .ge (.v 2) (.v 1))) (.cons (.ret .n) .nil) .nil) (.cons (.ret (.call "fraction" (.cons (.sub (.v 0) (.v 1)) (.cons (.sub (.v 0) (.v 2)) .nil)))) .nil)) .nil) (.cons (.ite (.e (.cmp .gt (.v 2) (.v 1))) (.cons (.ret .n) .nil) .nil) (.cons (.ret (.tup (.cons (.i 0) (.cons (.i 1) .nil)))) .nil)))
def d_least_of_deed : Df := ⟨3, 3, b_least_of_deed⟩
def b_least_patience : PSs := (.cons (.set 5 (.fr (.comp [3, 4] (.many [3, 4]) (.en (.x (.v 2))) .nil (.ix (.x (.call "paid" (.cons (.v 0) (.cons (.v 4) .nil)))) (.v 3))))) (.cons (.set 6 (.tup (.cons (.i 0) (.cons (.i 1) .nil)))) (.cons (.for_ (.one 7) (.sq (.x (.add (.tup (.cons (.v 1) .nil)) (.v 2)))) (.cons (.for_ (.many [3, 8]) (.en (.x (.ix (.x (.v 0)) (.i 0)))) (.cons (.for_ (.one 9) (.r1 (.v 8)) (.cons (.ite (.e (.eq true (.x (.v 9)) (.x (.ix (.x (.v 7)) (.v 3))))) (.cons (.set 10 (.ix (.x (.call "paid" (.cons (.v 0) (.cons (.call "stray" (.cons (.v 7) (.cons (.v 3) (.cons (.v 9) .nil)))) .nil)))) (.v 3))) (.cons (.set 11 (.call "least_of_deed" (.cons (.v 10) (.cons (.ix (.x (.call "paid" (.cons (.v 0) (.cons (.v 7) .nil)))) (.v 3)) (.cons (.ix (.x (.v 5)) (.v 3)) .nil))))) (.cons (.ite (.e (.isN false (.v 11))) (.cons (.ret .n) .nil) .nil) (.cons (.ite (.tr (.x (.call "is_more" (.cons (.v 11) (.cons (.v 6) .nil))))) (.cons (.set 6 (.v 11)) .nil) .nil) .nil)))) .nil) .nil)) .nil)) .nil)) (.cons (.ret (.v 6)) .nil))))
def d_least_patience : Df := ⟨3, 12, b_least_patience⟩
def b_by_itself : PSs := (.cons (.set 2 .n) (.cons (.for_ (.one 3) (.sq (.x (.call "calm" (.cons (.v 0) .nil)))) (.cons (.set 4 (.call "least_patience" (.cons (.v 0) (.cons (.v 1) (.cons (.mul (.tup (.cons (.v 3) .nil)) (.bi .len (.x (.ix (.x (.v 0)) (.i 0))))) .nil))))) (.cons (.ite (.bool true (.cons (.e (.isN true (.v 4))) (.cons (.bool false (.cons (.e (.isN false (.v 2))) (.cons (.tr (.x (.call "is_more" (.cons (.v 2) (.cons (.v 4) .nil))))) .nil))) .nil))) (.cons (.set 2 (.v 4)) .nil) .nil) .nil))) (.cons (.ret (.v 2)) .nil)))
def d_by_itself : Df := ⟨2, 5, b_by_itself⟩
def b__law_no_less : PSs := (.cons (.ret (.notL (.x (.call "_law_more" (.cons (.v 1) (.cons (.v 0) .nil)))))) .nil)
def d__law_no_less : Df := ⟨2, 2, b__law_no_less⟩
def b__law_least_right : PSs := (.cons (.set 4 (.call "steady" (.cons (.v 0) (.cons (.v 1) (.cons (.v 2) .nil))))) (.cons (.set 5 (.call "least_patience" (.cons (.v 0) (.cons (.v 1) (.cons (.v 2) .nil))))) (.cons (.ite (.e (.isN false (.v 5))) (.cons (.ret (.notL (.x (.call "holds" (.cons (.v 0) (.cons (.v 4) (.cons (.tup (.cons (.i 29) (.cons (.i 30) .nil))) .nil))))))) .nil) .nil) (.cons (.ite (.bool false (.cons (.not (.tr (.x (.isi .tup (.v 5))))) (.cons (.e (.eq true (.x (.call "_law_fraction" (.cons (.ix (.x (.v 5)) (.i 0)) (.cons (.ix (.x (.v 5)) (.i 1)) .nil)))) (.x (.v 5)))) .nil))) (.cons (.ret (.b false)) .nil) .nil) (.cons (.ite (.not (.e (.chain .le .lt (.i 0) (.ix (.x (.v 5)) (.i 0)) (.ix (.x (.v 5)) (.i 1))))) (.cons (.ret (.b false)) .nil) .nil) (.cons (.for_ (.one 7) (.sq (.x (.fr (.cat (.f (.comp [6] (.one 6) (.sq (.x (.v 3))) .nil (.call "_law_patience" (.cons (.v 6) .nil)))) (.f (.lst (.cons (.tup (.cons (.i 1) (.cons (.i 30) .nil))) (.cons (.tup (.cons (.i 29) (.cons (.i 30) .nil))) .nil)))))))) (.cons (.ite (.e (.eq true (.x (.call "holds" (.cons (.v 0) (.cons (.v 4) (.cons (.v 7) .nil))))) (.x (.call "_law_no_less" (.cons (.v 7) (.cons (.v 5) .nil)))))) (.cons (.ret (.b false)) .nil) .nil) .nil)) (.cons (.set 8 (.fd (.i 30) (.ix (.x (.v 5)) (.i 1)))) (.cons (.ite (.e (.cmp .gt (.mul (.ix (.x (.v 5)) (.i 0)) (.v 8)) (.i 1))) (.cons (.set 9 (.call "_law_fraction" (.cons (.sub (.mul (.ix (.x (.v 5)) (.i 0)) (.v 8)) (.i 1)) (.cons (.mul (.ix (.x (.v 5)) (.i 1)) (.v 8)) .nil)))) (.cons (.ite (.bool false (.cons (.tr (.x (.call "holds" (.cons (.v 0) (.cons (.v 4) (.cons (.v 9) .nil)))))) (.cons (.not (.tr (.x (.call "holds" (.cons (.v 0) (.cons (.v 4) (.cons (.v 5) .nil))))))) .nil))) (.cons (.ret (.b false)) .nil) .nil) .nil)) .nil) (.cons (.ret (.b true)) .nil)))))))))
def d__law_least_right : Df := ⟨4, 10, b__law_least_right⟩
def b_on_path : PSs := (.cons (.set 3 (.bi .len (.x (.v 1)))) (.cons (.own 6 (.comp [4, 5] (.many [4, 5]) (.en (.x (.v 1))) .nil (.tup (.cons (.v 5) (.cons (.call "nexts_of" (.cons (.v 0) (.cons (.v 5) (.cons (.md (.add (.v 4) (.i 1)) (.v 3)) (.cons (.v 3) .nil))))) .nil))))) (.cons (.for_ (.many [4, 5]) (.en (.x (.v 2))) (.cons (.app 6 (.tup (.cons (.v 5) (.cons (.call "nexts_of" (.cons (.v 0) (.cons (.v 5) (.cons (.add (.v 3) (.v 4)) (.cons (.v 3) .nil))))) .nil)))) .nil)) (.cons (.ret (.bi .tup (.l (.b 6)))) .nil))))
def d_on_path : Df := ⟨3, 7, b_on_path⟩
def b_keeps_path : PSs := (.cons (.ret (.call "holds" (.cons (.v 0) (.cons (.call "on_path" (.cons (.v 0) (.cons (.v 1) (.cons (.call "hardest" (.cons (.v 0) (.cons (.v 2) .nil))) .nil)))) (.cons (.v 2) .nil))))) .nil)
def d_keeps_path : Df := ⟨3, 3, b_keeps_path⟩
def b__law_on_path : PSs := (.cons (.own 3 (.lst .nil)) (.cons (.for_ (.many [4, 5]) (.en (.x (.add (.v 1) (.v 2)))) (.cons (.set 6 (.v 4)) (.cons (.ite (.e (.cmp .lt (.v 4) (.bi .len (.x (.v 1))))) (.cons (.set 6 (.md (.add (.v 4) (.i 1)) (.bi .len (.x (.v 1))))) .nil) .nil) (.cons (.own 7 (.lst .nil)) (.cons (.for_ (.one 8) (.sq (.x (.call "_law_rows" (.cons (.ix (.x (.v 0)) (.i 0)) .nil)))) (.cons (.set 10 (.fr (.comp [9] (.one 9) (.r1 (.bi .len (.x (.v 5)))) (.cons (.e (.eq true (.x (.ix (.x (.v 8)) (.v 9))) (.x (.ix (.x (.v 5)) (.v 9))))) .nil) (.v 9)))) (.cons (.app 7 (.ix (.l (.f (.lst (.cons (.v 6) (.cons (.add (.bi .len (.x (.v 1))) (.bi .sum (.x (.v 10)))) .nil))))) (.bi .int (.x (.eq false (.x (.bi .len (.x (.v 10)))) (.x (.i 1))))))) .nil))) (.cons (.app 3 (.tup (.cons (.v 5) (.cons (.bi .tup (.l (.b 7))) .nil)))) .nil)))))) (.cons (.ret (.bi .tup (.l (.b 3)))) .nil)))
def d__law_on_path : Df := ⟨3, 11, b__law_on_path⟩
def b__law_keeps : PSs := (.cons (.set 3 (.s "other")) (.cons (.try_ (.cons (.set 3 (.call "keeps_path" (.cons (.v 0) (.cons (.v 1) (.cons (.v 2) .nil))))) .nil) "NoPact" .none [] 3 .none) (.cons (.ret (.v 3)) .nil)))
def d__law_keeps : Df := ⟨3, 4, b__law_keeps⟩
def b__law_due : PSs := (.cons (.set 3 (.call "floors" (.cons (.v 0) (.cons (.v 2) .nil)))) (.cons (.for_ (.many [4, 5]) (.en (.x (.v 1))) (.cons (.set 6 (.call "worth_of" (.cons (.v 0) (.cons (.tup .nil) (.cons (.add (.sl (.v 1) (.so (.v 4)) .no) (.sl (.v 1) .no (.so (.v 4)))) (.cons (.v 2) .nil)))))) (.cons (.for_ (.many [7, 8]) (.en (.x (.ix (.x (.v 0)) (.i 0)))) (.cons (.for_ (.one 9) (.r1 (.v 8)) (.cons (.set 10 (.ix (.x (.call "_law_paid" (.cons (.v 0) (.cons (.call "_law_stray" (.cons (.v 5) (.cons (.v 7) (.cons (.v 9) .nil)))) .nil)))) (.v 7))) (.cons (.set 11 (.call "_law_later" (.cons (.v 10) (.cons (.tup (.cons (.ix (.x (.v 3)) (.v 7)) (.cons (.i 1) .nil))) (.cons (.v 2) .nil))))) (.cons (.ite (.bool true (.cons (.e (.eq true (.x (.v 9)) (.x (.ix (.x (.v 5)) (.v 7))))) (.cons (.tr (.x (.call "_law_more" (.cons (.v 11) (.cons (.ix (.x (.v 6)) (.v 7)) .nil))))) .nil))) (.cons (.ret (.b false)) .nil) .nil) .nil)))) .nil)) .nil))) (.cons (.ret (.b true)) .nil)))
def d__law_due : Df := ⟨3, 12, b__law_due⟩
def b_alike : PSs := (.cons (.own 2 (.lst (.cons (.tup (.cons (.i 0) (.cons (.i 0) .nil))) .nil))) (.cons (.for_ (.one 3) (.r1 (.mul (.bi .len (.x (.v 0))) (.bi .len (.x (.v 1))))) (.cons (.ite (.e (.cmp .lt (.v 3) (.bi .len (.l (.b 2))))) (.cons (.tgt [4, 5] (.ix (.l (.b 2)) (.v 3))) (.cons (.ite (.e (.eq true (.x (.ix (.x (.ix (.x (.v 0)) (.v 4))) (.i 0))) (.x (.ix (.x (.ix (.x (.v 1)) (.v 5))) (.i 0))))) (.cons (.ret (.b false)) .nil) .nil) (.cons (.for_ (.one 6) (.z1 (.x (.ix (.x (.ix (.x (.v 0)) (.v 4))) (.i 1))) (.x (.ix (.x (.ix (.x (.v 1)) (.v 5))) (.i 1)))) (.cons (.ite (.e (.mem true (.v 6) (.l (.b 2)))) (.cons (.app 2 (.v 6)) .nil) .nil) .nil)) .nil))) .nil) .nil)) (.cons (.ret (.b true)) .nil)))
def d_alike : Df := ⟨2, 7, b_alike⟩
def b_classes : PSs := (.cons (.set 2 (.fr (.comp [1] (.one 1) (.sq (.x (.v 0))) .nil (.i 0)))) (.cons (.set 5 (.fr (.comp [1] (.one 1) (.sq (.x (.v 0))) .nil (.idx (.l (.f (.comp [3, 4] (.many [3, 4]) (.sq (.x (.v 0))) .nil (.v 3)))) (.ix (.x (.v 1)) (.i 0)))))) (.cons (.whl (.e (.eq true (.x (.v 5)) (.x (.v 2)))) (.cons (.set 2 (.v 5)) (.cons (.set 8 (.fr (.comp [6, 1] (.many [6, 1]) (.en (.x (.v 0))) .nil (.tup (.cons (.ix (.x (.v 2)) (.v 6)) (.cons (.bi .tup (.l (.f (.comp [7] (.one 7) (.sq (.x (.ix (.x (.v 1)) (.i 1)))) .nil (.ix (.x (.v 2)) (.v 7)))))) .nil)))))) (.cons (.set 5 (.fr (.comp [9] (.one 9) (.sq (.x (.v 8))) .nil (.idx (.x (.v 8)) (.v 9))))) .nil)))) (.cons (.ret (.v 2)) .nil))))
def d_classes : Df := ⟨1, 10, b_classes⟩
def b_lean : PSs := (.cons (.set 1 (.call "classes" (.cons (.v 0) .nil))) (.cons (.own 2 (.lst (.cons (.ix (.x (.v 1)) (.i 0)) .nil))) (.cons (.set 3 (.i 0)) (.cons (.whl (.e (.cmp .lt (.v 3) (.bi .len (.l (.b 2))))) (.cons (.for_ (.one 4) (.sq (.x (.ix (.x (.ix (.x (.v 0)) (.ix (.l (.b 2)) (.v 3)))) (.i 1)))) (.cons (.ite (.e (.mem true (.ix (.x (.v 1)) (.v 4)) (.l (.b 2)))) (.cons (.app 2 (.ix (.x (.v 1)) (.v 4))) .nil) .nil) .nil)) (.cons (.set 3 (.add (.v 3) (.i 1))) .nil))) (.cons (.ret (.bi .tup (.l (.f (.comp [5] (.one 5) (.sq (.l (.b 2))) .nil (.tup (.cons (.ix (.x (.ix (.x (.v 0)) (.v 5))) (.i 0)) (.cons (.bi .tup (.l (.f (.comp [4] (.one 4) (.sq (.x (.ix (.x (.ix (.x (.v 0)) (.v 5))) (.i 1)))) .nil (.idx (.l (.b 2)) (.ix (.x (.v 1)) (.v 4))))))) .nil)))))))) .nil)))))
def d_lean : Df := ⟨1, 6, b_lean⟩
def b__law_alike : PSs := (.cons (.own 2 (.lst (.cons (.tup (.cons (.i 0) (.cons (.i 0) .nil))) .nil))) (.cons (.own 3 (.lst .nil)) (.cons (.whl (.tr (.l (.b 2))) (.cons (.pop 4 2) (.cons (.ite (.e (.mem true (.v 4) (.l (.b 3)))) (.cons (.app 3 (.v 4)) (.cons (.ite (.e (.eq true (.x (.ix (.x (.ix (.x (.v 0)) (.ix (.x (.v 4)) (.i 0)))) (.i 0))) (.x (.ix (.x (.ix (.x (.v 1)) (.ix (.x (.v 4)) (.i 1)))) (.i 0))))) (.cons (.ret (.b false)) .nil) .nil) (.cons (.own 2 (.cat (.b 2) (.f (.lz (.x (.ix (.x (.ix (.x (.v 0)) (.ix (.x (.v 4)) (.i 0)))) (.i 1))) (.x (.ix (.x (.ix (.x (.v 1)) (.ix (.x (.v 4)) (.i 1)))) (.i 1))))))) .nil))) .nil) .nil))) (.cons (.ret (.b true)) .nil))))
def d__law_alike : Df := ⟨2, 5, b__law_alike⟩
def b__law_from : PSs := (.cons (.set 3 (.fr (.cat (.f (.lst (.cons (.v 1) .nil))) (.f (.comp [2] (.one 2) (.r1 (.bi .len (.x (.v 0)))) (.cons (.e (.eq true (.x (.v 2)) (.x (.v 1)))) .nil) (.v 2)))))) (.cons (.ret (.bi .tup (.l (.f (.comp [2] (.one 2) (.sq (.x (.v 3))) .nil (.tup (.cons (.ix (.x (.ix (.x (.v 0)) (.v 2))) (.i 0)) (.cons (.bi .tup (.l (.f (.comp [4] (.one 4) (.sq (.x (.ix (.x (.ix (.x (.v 0)) (.v 2))) (.i 1)))) .nil (.idx (.x (.v 3)) (.v 4)))))) .nil)))))))) .nil))
def d__law_from : Df := ⟨2, 5, b__law_from⟩
def b__law_lean : PSs := (.cons (.own 1 (.lst (.cons (.i 0) .nil))) (.cons (.own 2 (.lst .nil)) (.cons (.whl (.e (.cmp .lt (.bi .len (.l (.b 2))) (.bi .len (.l (.b 1))))) (.cons (.tgt [3, 4] (.ix (.x (.v 0)) (.ix (.l (.b 1)) (.bi .len (.l (.b 2)))))) (.cons (.own 5 (.lst .nil)) (.cons (.for_ (.one 6) (.sq (.x (.v 4))) (.cons (.set 9 (.fr (.comp [7, 8] (.many [7, 8]) (.en (.l (.b 1))) (.cons (.tr (.x (.call "_law_alike" (.cons (.call "_law_from" (.cons (.v 0) (.cons (.v 8) .nil))) (.cons (.call "_law_from" (.cons (.v 0) (.cons (.v 6) .nil))) .nil))))) .nil) (.v 7)))) (.cons (.ite (.not (.tr (.x (.v 9)))) (.cons (.set 9 (.fr (.lst (.cons (.bi .len (.l (.b 1))) .nil)))) (.cons (.app 1 (.v 6)) .nil)) .nil) (.cons (.app 5 (.ix (.x (.v 9)) (.i 0))) .nil)))) (.cons (.app 2 (.tup (.cons (.v 3) (.cons (.bi .tup (.l (.b 5))) .nil)))) .nil))))) (.cons (.ret (.bi .tup (.l (.b 2)))) .nil))))
def d__law_lean : Df := ⟨1, 10, b__law_lean⟩
def b__law_doubled : PSs := (.cons (.own 1 (.lst .nil)) (.cons (.for_ (.many [2, 3]) (.sq (.x (.v 0))) (.cons (.app 1 (.tup (.cons (.v 2) (.cons (.bi .tup (.l (.f (.comp [4, 5] (.many [4, 5]) (.en (.x (.v 3))) .nil (.add (.v 5) (.mul (.bi .len (.x (.v 0))) (.md (.v 4) (.i 2)))))))) .nil)))) .nil)) (.cons (.for_ (.many [2, 3]) (.sq (.x (.v 0))) (.cons (.app 1 (.tup (.cons (.v 2) (.cons (.bi .tup (.l (.f (.comp [5] (.one 5) (.sq (.x (.v 3))) .nil (.add (.v 5) (.mul (.bi .len (.x (.v 0))) (.md (.v 5) (.i 2)))))))) .nil)))) .nil)) (.cons (.ret (.bi .tup (.l (.b 1)))) .nil))))
def d__law_doubled : Df := ⟨1, 6, b__law_doubled⟩
end Pu

/-! loops, comprehensions; the plain data of the laws -/
namespace Pu
open PySem

/-! ### operators at what they are given -/
@[simp] theorem isTy_int_none  : isTy .int (.none) = (false) := rfl
@[simp] theorem isTy_int_bool (b : Bool) : isTy .int (.bool b) = (true) := rfl
@[simp] theorem isTy_int_int (i : Int) : isTy .int (.int i) = (true) := rfl
@[simp] theorem isTy_int_str (x : Str) : isTy .int (.str x) = (false) := rfl
@[simp] theorem isTy_int_list (xs : List D) : isTy .int (.list xs) = (false) := rfl
@[simp] theorem isTy_int_tuple (xs : List D) : isTy .int (.tuple xs) = (false) := rfl
@[simp] theorem isTy_int_dict (kvs : List (D × D)) : isTy .int (.dict kvs) = (false) := rfl
@[simp] theorem isTy_bool_none  : isTy .bool (.none) = (false) := rfl
@[simp] theorem isTy_bool_bool (b : Bool) : isTy .bool (.bool b) = (true) := rfl
@[simp] theorem isTy_bool_int (i : Int) : isTy .bool (.int i) = (false) := rfl
@[simp] theorem isTy_bool_str (x : Str) : isTy .bool (.str x) = (false) := rfl
@[simp] theorem isTy_bool_list (xs : List D) : isTy .bool (.list xs) = (false) := rfl
@[simp] theorem isTy_bool_tuple (xs : List D) : isTy .bool (.tuple xs) = (false) := rfl
@[simp] theorem isTy_bool_dict (kvs : List (D × D)) : isTy .bool (.dict kvs) = (false) := rfl
@[simp] theorem isTy_tup_none  : isTy .tup (.none) = (false) := rfl
@[simp] theorem isTy_tup_bool (b : Bool) : isTy .tup (.bool b) = (false) := rfl
@[simp] theorem isTy_tup_int (i : Int) : isTy .tup (.int i) = (false) := rfl
@[simp] theorem isTy_tup_str (x : Str) : isTy .tup (.str x) = (false) := rfl
@[simp] theorem isTy_tup_list (xs : List D) : isTy .tup (.list xs) = (false) := rfl
@[simp] theorem isTy_tup_tuple (xs : List D) : isTy .tup (.tuple xs) = (true) := rfl
@[simp] theorem isTy_tup_dict (kvs : List (D × D)) : isTy .tup (.dict kvs) = (false) := rfl
@[simp] theorem isTy_lst_none  : isTy .lst (.none) = (false) := rfl
@[simp] theorem isTy_lst_bool (b : Bool) : isTy .lst (.bool b) = (false) := rfl
@[simp] theorem isTy_lst_int (i : Int) : isTy .lst (.int i) = (false) := rfl
@[simp] theorem isTy_lst_str (x : Str) : isTy .lst (.str x) = (false) := rfl
@[simp] theorem isTy_lst_list (xs : List D) : isTy .lst (.list xs) = (true) := rfl
@[simp] theorem isTy_lst_tuple (xs : List D) : isTy .lst (.tuple xs) = (false) := rfl
@[simp] theorem isTy_lst_dict (kvs : List (D × D)) : isTy .lst (.dict kvs) = (false) := rfl
@[simp] theorem isTy_str_none  : isTy .str (.none) = (false) := rfl
@[simp] theorem isTy_str_bool (b : Bool) : isTy .str (.bool b) = (false) := rfl
@[simp] theorem isTy_str_int (i : Int) : isTy .str (.int i) = (false) := rfl
@[simp] theorem isTy_str_str (x : Str) : isTy .str (.str x) = (true) := rfl
@[simp] theorem isTy_str_list (xs : List D) : isTy .str (.list xs) = (false) := rfl
@[simp] theorem isTy_str_tuple (xs : List D) : isTy .str (.tuple xs) = (false) := rfl
@[simp] theorem isTy_str_dict (kvs : List (D × D)) : isTy .str (.dict kvs) = (false) := rfl
@[simp] theorem isNo_none  : isNo (.none) = (true) := rfl
@[simp] theorem seqD_none  : seqD (.none) = (none) := rfl
@[simp] theorem isNo_bool (b : Bool) : isNo (.bool b) = (false) := rfl
@[simp] theorem seqD_bool (b : Bool) : seqD (.bool b) = (none) := rfl
@[simp] theorem isNo_int (i : Int) : isNo (.int i) = (false) := rfl
@[simp] theorem seqD_int (i : Int) : seqD (.int i) = (none) := rfl
@[simp] theorem isNo_str (x : Str) : isNo (.str x) = (false) := rfl
@[simp] theorem seqD_str (x : Str) : seqD (.str x) = (none) := rfl
@[simp] theorem isNo_list (xs : List D) : isNo (.list xs) = (false) := rfl
@[simp] theorem seqD_list (xs : List D) : seqD (.list xs) = (some xs) := rfl
@[simp] theorem isNo_tuple (xs : List D) : isNo (.tuple xs) = (false) := rfl
@[simp] theorem seqD_tuple (xs : List D) : seqD (.tuple xs) = (some xs) := rfl
@[simp] theorem isNo_dict (kvs : List (D × D)) : isNo (.dict kvs) = (false) := rfl
@[simp] theorem seqD_dict (kvs : List (D × D)) : seqD (.dict kvs) = (none) := rfl
@[simp] theorem addW_int (i j : Int) (Q : D → Prop) : addW (.int i) (.int j) Q = (Q (.int (i + j))) := rfl
@[simp] theorem addW_str (x y : Str) (Q : D → Prop) : addW (.str x) (.str y) Q = (x.length + y.length ≤ sizeLine ∧ Q (.str (x ++ y))) := rfl
@[simp] theorem addW_tup (a b : List D) (Q : D → Prop) : addW (.tuple a) (.tuple b) Q = (a.length + b.length ≤ sizeLine ∧ Q (.tuple (a ++ b))) := rfl
@[simp] theorem subW_int (i j : Int) (Q : D → Prop) : subW (.int i) (.int j) Q = (Q (.int (i - j))) := rfl
@[simp] theorem mulW_int (i j : Int) (Q : D → Prop) : mulW (.int i) (.int j) Q = ((L2.CMul i j ∨ L2.CMulW i j) ∧ Q (.int (i * j))) := rfl
@[simp] theorem mulW_tup (a : List D) (k : Int) (Q : D → Prop) : mulW (.tuple a) (.int k) Q = (a ≠ [] ∧ 2 ≤ k ∧ k ≤ 1000 ∧ a.length ≤ 1000 ∧ Q (.tuple (List.replicate k.toNat a).flatten)) := rfl
@[simp] theorem mdW_int (i j : Int) (Q : D → Prop) : mdW (.int i) (.int j) Q = (0 < j ∧ Q (.int (i % j))) := rfl
@[simp] theorem fdW_int (i j : Int) (Q : D → Prop) : fdW (.int i) (.int j) Q = (L2.CDivW i j ∧ Q (.int (i / j))) := rfl
@[simp] theorem cmpW_int (o : Cm) (i j : Int) (Q : Bool → Prop) : cmpW o (.int i) (.int j) Q = (Q (cmI o i j)) := rfl
@[simp] theorem memW_list (ne : Bool) (x : D) (ds : List D) (Q : D → Prop) : memW ne x (.list ds) Q = (SeqAt.shaped x = true ∧ SeqAt.shaped (.list ds) = true ∧ Q (.bool (ne ^^ ds.any fun z => PyData.eqv z x))) := rfl
@[simp] theorem ixW_list (ds : List D) (z : Int) (Q : D → Prop) : ixW (.list ds) (.int z) Q = (∃ d, L2.atI ds z = some d ∧ Q d) := rfl
@[simp] theorem truW_list (ds : List D) (Q : Bool → Prop) : truW (.list ds) Q = (Q (!ds.isEmpty)) := rfl
@[simp] theorem memW_tuple (ne : Bool) (x : D) (ds : List D) (Q : D → Prop) : memW ne x (.tuple ds) Q = (SeqAt.shaped x = true ∧ SeqAt.shaped (.tuple ds) = true ∧ Q (.bool (ne ^^ ds.any fun z => PyData.eqv z x))) := rfl
@[simp] theorem ixW_tuple (ds : List D) (z : Int) (Q : D → Prop) : ixW (.tuple ds) (.int z) Q = (∃ d, L2.atI ds z = some d ∧ Q d) := rfl
@[simp] theorem truW_tuple (ds : List D) (Q : Bool → Prop) : truW (.tuple ds) Q = (Q (!ds.isEmpty)) := rfl
@[simp] theorem ixW_str (x : Str) (z : Int) (Q : D → Prop) : ixW (.str x) (.int z) Q = (x.length ≤ sizeLine ∧ ∃ c, L2.atI x.cps.toList z = some c ∧ Q (.str ⟨#[c]⟩)) := rfl
@[simp] theorem truW_bool (b : Bool) (Q : Bool → Prop) : truW (.bool b) Q = (Q b) := rfl
@[simp] theorem slW_tup (ds : List D) (lo hi : Option Int) (Q : D → Prop) : slW (.tuple ds) lo hi Q = (Q (.tuple (cutD ds lo hi))) := rfl
/-! ### loops -/
theorem wFor_inv {f : D → Dn → Ev → Prop} {D₀ : Dn} (P : Nat → Ev → Prop) : ∀ (items : List D) (ρ : Ev) (n : Nat),
    P n ρ → (∀ i d ρ (D₁ : Dn), items[i]? = some d → P (n + i) ρ → D₁.rt = D₀.rt → D₁.ex = D₀.ex → D₁.bk = D₀.nx → (∀ ρ', P (n + i + 1) ρ' → D₁.nx ρ') → (∀ ρ', P (n + i + 1) ρ' → D₁.ct ρ') → f d D₁ ρ) →
    (∀ ρ, P (n + items.length) ρ → D₀.nx ρ) → wFor f D₀ items ρ
  | [], ρ, n, h, _, e => e ρ h
  | d :: r, ρ, n, h, st, e => by
    have go : ∀ ρ', P (n + 1) ρ' → wFor f D₀ r ρ' := fun ρ' h' => by
      refine wFor_inv P r ρ' (n + 1) h' (fun i d' ρ1 D₁ hi hp h1 h2 h3 h4 h5 => st (i + 1) d' ρ1 D₁ (by simpa using hi) (by rw [show n + (i + 1) = n + 1 + i by omega]; exact hp) h1 h2 h3
        (by rw [show n + (i + 1) + 1 = n + 1 + i + 1 by omega]; exact h4) (by rw [show n + (i + 1) + 1 = n + 1 + i + 1 by omega]; exact h5)) (fun ρ1 hp => e ρ1 (by rw [List.length_cons, show n + (r.length + 1) = n + 1 + r.length by omega]; exact hp))
    exact st 0 d ρ { D₀ with nx := wFor f D₀ r, ct := wFor f D₀ r, bk := D₀.nx } rfl h rfl rfl rfl go go
/-- over the items as they are told -/
theorem wFor_map {α : Type} {f : D → Dn → Ev → Prop} {D₀ : Dn} (enc : α → D) (P : List α → Ev → Prop) : ∀ (xs done : List α) (ρ : Ev),
    P done ρ → (∀ d x r ρ (D₁ : Dn), done ++ xs = d ++ x :: r → P d ρ → D₁.rt = D₀.rt → D₁.ex = D₀.ex → D₁.bk = D₀.nx → (∀ ρ', P (d ++ [x]) ρ' → D₁.nx ρ') → (∀ ρ', P (d ++ [x]) ρ' → D₁.ct ρ') → f (enc x) D₁ ρ) →
    (∀ ρ, P (done ++ xs) ρ → D₀.nx ρ) → wFor f D₀ (xs.map enc) ρ
  | [], done, ρ, h, _, e => e ρ (by simpa using h)
  | x :: r, done, ρ, h, st, e => by
    have go : ∀ ρ', P (done ++ [x]) ρ' → wFor f D₀ (r.map enc) ρ' := fun ρ' h' =>
      wFor_map enc P r (done ++ [x]) ρ' h' (fun d y r' ρ1 D₁ hd => st d y r' ρ1 D₁ (by rw [← hd]; simp)) (fun ρ1 hp => e ρ1 (by simpa using hp))
    exact st done x r ρ { D₀ with nx := wFor f D₀ (r.map enc), ct := wFor f D₀ (r.map enc), bk := D₀.nx } rfl h rfl rfl rfl go go
theorem wWh_inv {t : Ev → (Bool → Prop) → Prop} {b : Dn → Ev → Prop} {D₀ : Dn} (P : Nat → Ev → Prop)
    (st : ∀ m ρ (D₁ : Dn), P m ρ → D₁.rt = D₀.rt → D₁.ex = D₀.ex → D₁.bk = D₀.nx → (∀ m' ρ', m' < m → P m' ρ' → D₁.nx ρ') → (∀ m' ρ', m' < m → P m' ρ' → D₁.ct ρ') → t ρ fun k => if k = true then b D₁ ρ else D₀.nx ρ) {m : Nat} {ρ : Ev} (h : P m ρ) : ∃ n, wWh t b D₀ n ρ := by
  have key : ∀ n m ρ, m < n → P m ρ → wWh t b D₀ n ρ := by
    intro n
    induction n with
    | zero => intro m ρ hm; omega
    | succ n ih =>
      intro m ρ hm hp
      exact st m ρ { D₀ with nx := wWh t b D₀ n, ct := wWh t b D₀ n, bk := D₀.nx } hp rfl rfl rfl (fun m' ρ' hl hp' => ih m' ρ' (by omega) hp') (fun m' ρ' hl hp' => ih m' ρ' (by omega) hp')
  exact ⟨m + 1, key _ m ρ (by omega) h⟩
theorem wCo_map {α : Type} {f : D → (Option D → Prop) → Prop} (enc : α → D) (g : α → D) : ∀ (xs : List α) (acc : List D) (Q : List D → Prop),
    (∀ x, x ∈ xs → ∀ K : Option D → Prop, K (some (g x)) → f (enc x) K) → Q (acc ++ xs.map g) → wCo f (xs.map enc) acc Q
  | [], acc, Q, _, q => by
    show Q acc
    simpa using q
  | x :: r, acc, Q, h, q => h x (by simp) _ (wCo_map enc g r _ Q (fun y hy => h y (by simp [hy])) (by simpa using q))
theorem wCo_filter {α : Type} {f : D → (Option D → Prop) → Prop} (enc : α → D) (p : α → Bool) (g : α → D) : ∀ (xs : List α) (acc : List D) (Q : List D → Prop),
    (∀ x, x ∈ xs → ∀ K : Option D → Prop, (p x = true → K (some (g x))) → (p x = false → K none) → f (enc x) K) → Q (acc ++ (xs.filter p).map g) → wCo f (xs.map enc) acc Q
  | [], acc, Q, _, q => by
    show Q acc
    simpa using q
  | x :: r, acc, Q, h, q => by
    refine h x (by simp) _ (fun e => ?_) (fun e => ?_)
    · refine wCo_filter enc p g r _ Q (fun y hy => h y (by simp [hy])) ?_
      rw [List.filter_cons, if_pos e] at q
      simpa using q
    · refine wCo_filter enc p g r _ Q (fun y hy => h y (by simp [hy])) ?_
      rw [List.filter_cons, if_neg (by rw [e]; simp)] at q
      simpa using q
theorem wSs_cons (S : Spc) (s : PSt) (r : PSs) (D₀ : Dn) (ρ : Ev) : wSs S (.cons s r) D₀ ρ = wS S s { D₀ with nx := fun ρ' => wSs S r D₀ ρ' } ρ := rfl
theorem wSs_nil (S : Spc) (D₀ : Dn) (ρ : Ev) : wSs S .nil D₀ ρ = D₀.nx ρ := rfl
theorem wSs_step {S : Spc} {s : PSt} {r : PSs} {D₀ : Dn} {ρ : Ev} (h : ∀ D₁ : Dn, D₁.rt = D₀.rt → D₁.ex = D₀.ex → D₁.bk = D₀.bk → D₁.ct = D₀.ct → (∀ ρ', wSs S r D₀ ρ' → D₁.nx ρ') → wS S s D₁ ρ) : wSs S (.cons s r) D₀ ρ :=
  h { D₀ with nx := fun ρ' => wSs S r D₀ ρ' } rfl rfl rfl rfl fun _ h => h
theorem wCo_nil (f : D → (Option D → Prop) → Prop) (acc : List D) (Q : List D → Prop) : wCo f [] acc Q = Q acc := rfl
theorem wCo_cons (f : D → (Option D → Prop) → Prop) (d : D) (r acc : List D) (Q : List D → Prop) : wCo f (d :: r) acc Q = f d fun o => wCo f r (acc ++ o.toList) Q := rfl
theorem wFor_nil (f : D → Dn → Ev → Prop) (D₀ : Dn) (ρ : Ev) : wFor f D₀ [] ρ = D₀.nx ρ := rfl
theorem wFor_cons (f : D → Dn → Ev → Prop) (D₀ : Dn) (d : D) (r : List D) (ρ : Ev) : wFor f D₀ (d :: r) ρ = f d { D₀ with nx := wFor f D₀ r, ct := wFor f D₀ r, bk := D₀.nx } ρ := rfl
theorem at_of {α : Type} {xs : List α} {z : Int} {d : α} (h : 0 ≤ z) (e : xs[z.toNat]? = some d) : L2.atI xs z = some d := by
  have := L2.atI_nat (xs := xs) (j := z.toNat) e
  rwa [Int.toNat_of_nonneg h] at this
theorem rangeD_mem {lo : Int} {n : Nat} {x : D} : x ∈ rangeD lo n ↔ ∃ k : Nat, k < n ∧ x = .int (lo + (k : Int)) := by
  simp only [rangeD, List.mem_map, List.mem_range]
  exact ⟨fun ⟨k, h, e⟩ => ⟨k, h, e.symm⟩, fun ⟨k, h, e⟩ => ⟨k, h, e.symm⟩⟩
theorem ite_gen {α : Type} {T : α → Prop} {c : Prop} [Decidable c] {a b : α} (P : α → Prop) (h : ∀ x, P x → T x) (ha : c → P a) (hb : ¬ c → P b) : if c then T a else T b := by
  split
  · exact h _ (ha (by assumption))
  · exact h _ (hb (by assumption))
theorem rangeD_eq (lo : Int) (n : Nat) : rangeD lo n = (List.range n).map fun k : Nat => .int (lo + (k : Int)) := rfl

theorem wCo_mapD {f : D → (Option D → Prop) → Prop} (g : D → D) {xs acc : List D} {Q : List D → Prop} (h : ∀ x, x ∈ xs → ∀ K : Option D → Prop, K (some (g x)) → f x K) (q : Q (acc ++ xs.map g)) : wCo f xs acc Q := by
  have := wCo_map (f := f) (fun d : D => d) g xs acc Q h q
  simpa using this
theorem wFor_D {f : D → Dn → Ev → Prop} {D₀ : Dn} (P : List D → Ev → Prop) (xs : List D) (ρ : Ev)
    (h : P [] ρ) (st : ∀ d x r ρ (D₁ : Dn), xs = d ++ x :: r → P d ρ → D₁.rt = D₀.rt → D₁.ex = D₀.ex → D₁.bk = D₀.nx → (∀ ρ', P (d ++ [x]) ρ' → D₁.nx ρ') → (∀ ρ', P (d ++ [x]) ρ' → D₁.ct ρ') → f x D₁ ρ)
    (e : ∀ ρ, P xs ρ → D₀.nx ρ) : wFor f D₀ xs ρ := by
  have := wFor_map (f := f) (D₀ := D₀) (fun d : D => d) P xs [] ρ h (fun d x r ρ D₁ hd => st d x r ρ D₁ hd) (fun ρ hp => e ρ hp)
  simpa using this

/-! ### equality of plain data -/
def plain : Nat → D → Bool
  | _, .none => true
  | _, .int _ => true
  | _, .str x => PyData.strOk x
  | n + 1, .list xs => xs.all (plain n)
  | n + 1, .tuple xs => xs.all (plain n)
  | _, _ => false
@[simp] theorem plain_none (n : Nat) : plain n .none = true := by cases n <;> rfl
@[simp] theorem plain_int (n : Nat) (i : Int) : plain n (.int i) = true := by cases n <;> rfl
@[simp] theorem plain_str (n : Nat) (x : Str) : plain n (.str x) = PyData.strOk x := by cases n <;> rfl
@[simp] theorem plain_list (n : Nat) (xs : List D) : plain (n + 1) (.list xs) = xs.all (plain n) := rfl
@[simp] theorem plain_tuple (n : Nat) (xs : List D) : plain (n + 1) (.tuple xs) = xs.all (plain n) := rfl
theorem canLayAll0_iff : ∀ xs : List D, PyData.canLayAll0 xs = xs.all PyData.canLay0
  | [] => rfl
  | x :: r => by simp [PyData.canLayAll0, canLayAll0_iff r]
theorem depthAll_le {n : Nat} : ∀ xs : List D, (∀ x, x ∈ xs → PyData.depth x ≤ n) → PyData.depthAll xs ≤ n
  | [], _ => by simp [PyData.depthAll]
  | x :: r, h => by
    have h1 := h x (by simp)
    have h2 := depthAll_le r fun y hy => h y (by simp [hy])
    simp only [PyData.depthAll]
    omega
theorem plain_lay : ∀ (n : Nat) (d : D), plain n d = true → PyData.canLay0 d = true ∧ PyData.depth d ≤ n
  | n, .none, _ => ⟨by simp [PyData.canLay0], by simp [PyData.depth]⟩
  | n, .int i, _ => ⟨by simp [PyData.canLay0], by simp [PyData.depth]⟩
  | n, .str x, h => ⟨by simpa [PyData.canLay0] using h, by simp [PyData.depth]⟩
  | n + 1, .list xs, h => by
    have h' : ∀ x, x ∈ xs → plain n x = true := by simpa using h
    refine ⟨?_, ?_⟩
    · simp only [PyData.canLay0, canLayAll0_iff, List.all_eq_true]
      exact fun x hx => (plain_lay n x (h' x hx)).1
    · simp only [PyData.depth]
      have := depthAll_le (n := n) xs fun x hx => (plain_lay n x (h' x hx)).2
      omega
  | n + 1, .tuple xs, h => by
    have h' : ∀ x, x ∈ xs → plain n x = true := by simpa using h
    refine ⟨?_, ?_⟩
    · simp only [PyData.canLay0, canLayAll0_iff, List.all_eq_true]
      exact fun x hx => (plain_lay n x (h' x hx)).1
    · simp only [PyData.depth]
      have := depthAll_le (n := n) xs fun x hx => (plain_lay n x (h' x hx)).2
      omega
  | 0, .list _, h => by simp [plain] at h
  | 0, .tuple _, h => by simp [plain] at h
  | 0, .bool _, h => by simp [plain] at h
  | n + 1, .bool _, h => by simp [plain] at h
  | 0, .dict _, h => by simp [plain] at h
  | n + 1, .dict _, h => by simp [plain] at h
theorem plain_shaped (n : Nat) {d : D} (h : plain n d = true) (hn : n ≤ 64 := by decide) : SeqAt.shaped d = true := by
  obtain ⟨h1, h2⟩ := plain_lay n d h
  unfold SeqAt.shaped
  rw [h1, Bool.true_and]
  exact decide_eq_true (by omega)
theorem eqvAll_iff {n : Nat} (ih : ∀ d e, plain n d = true → plain n e = true → (PyData.eqv d e = true ↔ d = e)) : ∀ xs ys : List D, (∀ x, x ∈ xs → plain n x = true) → (∀ y, y ∈ ys → plain n y = true) → (PyData.eqvAll xs ys = true ↔ xs = ys)
  | [], [], _, _ => by simp [PyData.eqvAll]
  | [], _ :: _, _, _ => by simp [PyData.eqvAll]
  | _ :: _, [], _, _ => by simp [PyData.eqvAll]
  | x :: xs, y :: ys, h1, h2 => by
    simp only [PyData.eqvAll, Bool.and_eq_true]
    rw [ih x y (h1 x (by simp)) (h2 y (by simp)), eqvAll_iff ih xs ys (fun z hz => h1 z (by simp [hz])) (fun z hz => h2 z (by simp [hz]))]
    simp
theorem plain_eqv : ∀ (n : Nat) (d e : D), plain n d = true → plain n e = true → (PyData.eqv d e = true ↔ d = e) := by
  intro n
  induction n with
  | zero =>
    intro d e h1 h2
    cases d <;> simp [plain] at h1 <;> cases e <;> simp [plain] at h2 <;> simp [PyData.eqv]
  | succ n ih =>
    intro d e h1 h2
    cases d <;> simp [plain] at h1 <;> cases e <;> simp [plain] at h2 <;> simp [PyData.eqv]
    · exact eqvAll_iff ih _ _ h1 h2
    · exact eqvAll_iff ih _ _ h1 h2
theorem plain_ne {n : Nat} {d e : D} (h1 : plain n d = true) (h2 : plain n e = true) : PyData.eqv d e = false ↔ d ≠ e := by
  rw [← Bool.not_eq_true, plain_eqv n d e h1 h2]
@[simp] theorem shaped_int (i : Int) : SeqAt.shaped (.int i) = true := plain_shaped 0 (by simp)
@[simp] theorem shaped_none : SeqAt.shaped .none = true := plain_shaped 0 (by simp)
@[simp] theorem shaped_bool (b : Bool) : SeqAt.shaped (.bool b) = true := by
  unfold SeqAt.shaped
  simp [PyData.canLay0, PyData.depth]
@[simp] theorem eqv_int (i j : Int) : PyData.eqv (.int i) (.int j) = decide (i = j) := by
  rw [Bool.eq_iff_iff, plain_eqv 0 _ _ (by simp) (by simp)]
  simp
@[simp] theorem eqv_bool (i j : Bool) : PyData.eqv (.bool i) (.bool j) = (i == j) := by simp [PyData.eqv]

/-! ### is_number -/
def isNum : D → Int → Int → Bool
  | .int i, a, b => decide (a ≤ i) && decide (i ≤ b)
  | _, _, _ => false
@[simp] theorem isNum_none  (x y : Int) : isNum (.none) x y = false := rfl
@[simp] theorem isNum_bool (b : Bool) (x y : Int) : isNum (.bool b) x y = false := rfl
@[simp] theorem isNum_str (s : Str) (x y : Int) : isNum (.str s) x y = false := rfl
@[simp] theorem isNum_list (xs : List D) (x y : Int) : isNum (.list xs) x y = false := rfl
@[simp] theorem isNum_tuple (xs : List D) (x y : Int) : isNum (.tuple xs) x y = false := rfl
@[simp] theorem isNum_dict (kvs : List (D × D)) (x y : Int) : isNum (.dict kvs) x y = false := rfl
def K_is_number (S : Spc) : Prop := ∀ d a b Q E, Q (.bool (isNum d a b)) → S "is_number" [d, .int a, .int b] Q E
theorem c_is_number {S : Spc} (h : Has S "is_number" d_is_number) : K_is_number S := by
  intro d a b Q E q
  apply h
  cases d <;> simp [d_is_number, b_is_number, wSs] <;> try exact q
  rename_i i
  by_cases h1 : a ≤ i
  · simp only [isNum, h1, decide_true, Bool.true_and] at q ⊢
    simpa using q
  · simp only [isNum, h1, decide_false, Bool.false_and] at q ⊢
    simpa using q
end Pu

/-! rows -/
namespace Pu
open PySem
def ti (xs : List Int) : D := .tuple (xs.map .int)
def exts (found : List (List Int)) (many : Int) : List (List Int) := found.flatMap fun row => (List.range many.toNat).map fun k : Nat => row ++ [(k : Int)]
def rowsL (ds : List Int) : List (List Int) := ds.foldl exts [[]]
theorem rowsL_snoc (ds : List Int) (d : Int) : rowsL (ds ++ [d]) = exts (rowsL ds) d := by simp [rowsL, List.foldl_append]
theorem exts_len (found : List (List Int)) (m : Int) : (exts found m).length = found.length * m.toNat := by
  unfold exts
  induction found with
  | nil => simp
  | cons r f ih => simp only [List.flatMap_cons, List.length_append, ih, List.length_map, List.length_range, List.length_cons]; rw [Nat.succ_mul, Nat.add_comm]
theorem snoc_ind {α : Type} {P : List α → Prop} (h0 : P []) (h1 : ∀ xs x, P xs → P (xs ++ [x])) : ∀ xs, P xs := fun xs => by
  have : ∀ ys : List α, P ys.reverse := fun ys => by
    induction ys with
    | nil => exact h0
    | cons y r ih => rw [List.reverse_cons]; exact h1 _ _ ih
  rw [← List.reverse_reverse xs]
  exact this _
theorem rowsL_mem_len : ∀ (ds : List Int) (r : List Int), r ∈ rowsL ds → r.length = ds.length := by
  intro ds
  induction ds using snoc_ind with
  | h0 => intro r hr; simp [rowsL] at hr; rw [hr]
  | h1 xs x ih =>
    intro r hr
    rw [rowsL_snoc] at hr
    simp only [exts, List.mem_flatMap, List.mem_map] at hr
    obtain ⟨row, h1, k, h2, rfl⟩ := hr
    simp [ih row h1]
theorem rowsL_len : ∀ (ds : List Int), (∀ d, d ∈ ds → d ≤ 3) → (rowsL ds).length ≤ 3 ^ ds.length := by
  intro ds
  induction ds using snoc_ind with
  | h0 => intro _; simp [rowsL]
  | h1 xs x ih =>
    intro h
    rw [rowsL_snoc, exts_len, List.length_append, List.length_singleton, Nat.pow_succ]
    have h1 := ih fun d hd => h d (by simp [hd])
    have h2 := h x (by simp)
    exact Nat.mul_le_mul h1 (by omega)
theorem p3 {n : Nat} (h : n ≤ 3) : 3 ^ n ≤ 27 := Nat.le_trans (Nat.pow_le_pow_right (by omega) h) (by decide)
theorem size_pos : (1000 : Nat) ≤ sizeLine := by decide
theorem sizeI : (sizeLine : Int) = 16777216 := by decide

/-- the body of the two rows functions, up to the return -/
theorem rows_loop {S : Spc} (ds : List Int) (h1 : ds.length ≤ 3) (h2 : ∀ d, d ∈ ds → 0 ≤ d ∧ d ≤ 3) {D₀ : Dn} {E : String → Prop} {s2 s3 s4 s5 : Slot}
    (q : ∀ s2 s3 s4 s5, D₀.nx [.val (ti ds), .val (.list ((rowsL ds).map ti)), s2, s3, s4, s5]) :
    wFor (fun d D₁ ρ' => wTg (.one 2) d ρ' fun ρ'' => wSs S (.cons (.own 3 (.lst .nil)) (.cons (.for_ (.one 4) (.sq (.x (.v 1))) (.cons (.ext 3 (.f (.comp [5] (.one 5) (.r1 (.v 2)) .nil (.add (.v 4) (.tup (.cons (.v 5) .nil)))))) .nil)) (.cons (.frz 3 (.set 1 (.v 3))) .nil))) D₁ ρ'') D₀ (ds.map .int)
      [.val (ti ds), .val (.list [.tuple []]), s2, s3, s4, s5] := by
  refine wFor_map PyData.int (fun done ρ => ∃ s2 s3 s4 s5, ρ = [.val (ti ds), .val (.list ((rowsL done).map ti)), s2, s3, s4, s5]) ds [] _ ⟨_, _, _, _, rfl⟩ ?_ ?_
  · rintro done x r ρ D₁ hd ⟨s2, s3, s4, s5, rfl⟩ hrt hex hbk hnx hct
    have hd' : ds = done ++ x :: r := hd
    obtain ⟨hx0, hx⟩ : 0 ≤ x ∧ x ≤ 3 := h2 x (by rw [hd']; simp)
    have hl : done.length + 1 ≤ 3 := by
      have : ds.length = done.length + (r.length + 1) := by rw [hd']; simp
      omega
    have hlen : (rowsL done).length ≤ 9 := by
      have := rowsL_len done fun d hd2 => (h2 d (by rw [hd']; simp [hd2])).2
      have h9 : 3 ^ done.length ≤ 9 := Nat.le_trans (Nat.pow_le_pow_right (by omega) (show done.length ≤ 2 by omega)) (by decide)
      omega
    simp only [wTg, wSs, wS, wF, wEs, wI, wB, wE, List.set_cons_succ, List.set_cons_zero]
    refine ⟨_, rfl, _, rfl, ?_⟩
    refine wFor_map ti (fun dn ρ => ∃ s4 s5, ρ = [.val (ti ds), .val (.list ((rowsL done).map ti)), .val (.int x), .own ((exts dn x).map ti), s4, s5]) (rowsL done) [] _ ⟨_, _, rfl⟩ ?_ ?_
    · rintro dn row r2 ρ D₂ hd2 ⟨s4, s5, rfl⟩ hrt2 hex2 hbk2 hnx2 hct2
      have hdn : dn.length ≤ 9 := by
        have : (rowsL done).length = dn.length + (r2.length + 1) := by rw [show rowsL done = dn ++ row :: r2 from hd2]; simp
        omega
      have hrow : row.length ≤ 2 := by
        have := rowsL_mem_len done row (by rw [show rowsL done = dn ++ row :: r2 from hd2]; simp)
        omega
      have hx3 : x.toNat ≤ 3 := by omega
      simp only [wTg, wSs, wS, wL, wF, wEs, wI, wB, wE, wipeE, List.set_cons_succ, List.set_cons_zero]
      refine ⟨_, rfl, ?_⟩
      refine ⟨_, rfl, x, rfl, by rw [sizeI]; omega, by omega, ?_⟩
      refine wCo_map (fun k : Nat => PyData.int (0 + (k : Int))) (fun k : Nat => ti (row ++ [(k : Int)])) _ _ _ ?_ ?_
      · intro k hk K hK
        simp [ti] at hK ⊢
        have := size_pos
        exact ⟨by omega, hK⟩
      · refine ⟨?_, ?_⟩
        · have := size_pos
          simp [exts_len]
          have : dn.length * x.toNat ≤ 9 * 3 := Nat.mul_le_mul hdn hx3
          omega
        · refine hnx2 _ ⟨.val (ti row), s5, ?_⟩
          simp [exts, List.flatMap_append]
    · rintro ρ ⟨s4, s5, rfl⟩
      refine ⟨_, rfl, _, rfl, hnx _ ?_⟩
      rw [rowsL_snoc]
      exact ⟨_, _, _, _, rfl⟩
  · rintro ρ ⟨s2, s3, s4, s5, rfl⟩
    exact q _ _ _ _

def okDs (ds : List Int) : Prop := ds.length ≤ 3 ∧ ∀ d, d ∈ ds → 0 ≤ d ∧ d ≤ 3
def K_rows_of (S : Spc) : Prop := ∀ ds Q E, okDs ds → Q (.tuple ((rowsL ds).map ti)) → S "rows_of" [ti ds] Q E
theorem c_rows_of {S : Spc} (h : Has S "rows_of" d_rows_of) : K_rows_of S := by
  intro ds Q E ⟨h1, h2⟩ q
  apply h
  refine ⟨rfl, ?_⟩
  simp only [d_rows_of, b_rows_of, List.map_cons, List.map_nil, List.cons_append, List.nil_append, List.length_cons, List.length_nil, Nat.reduceSub, Nat.reduceAdd, List.replicate, wSs, wS, wE, wF, wEs, wI, wB, List.set_cons_succ, List.set_cons_zero]
  refine ⟨_, rfl, _, rfl, ?_⟩
  refine rows_loop ds h1 h2 (E := E) (D₀ := { nx := _, rt := Q, ex := _ }) fun s2 s3 s4 s5 => ?_
  exact ⟨_, rfl, _, rfl, q⟩
def K_law_rows (S : Spc) : Prop := ∀ ds Q E, okDs ds → Q (.list ((rowsL ds).map ti)) → S "_law_rows" [ti ds] Q E
theorem c__law_rows {S : Spc} (h : Has S "_law_rows" d__law_rows) : K_law_rows S := by
  intro ds Q E ⟨h1, h2⟩ q
  apply h
  refine ⟨rfl, ?_⟩
  simp only [d__law_rows, b__law_rows, List.map_cons, List.map_nil, List.cons_append, List.nil_append, List.length_cons, List.length_nil, Nat.reduceSub, Nat.reduceAdd, List.replicate, wSs, wS, wE, wF, wEs, wI, wB, List.set_cons_succ, List.set_cons_zero]
  refine ⟨_, rfl, _, rfl, ?_⟩
  refine rows_loop ds h1 h2 (E := E) (D₀ := { nx := _, rt := Q, ex := _ }) fun s2 s3 s4 s5 => ?_
  exact ⟨_, rfl, q⟩
def mD (deeds : List Int) (pay : List (List Int)) : D := .tuple [ti deeds, .tuple (pay.map ti)]
def K_all_rows (S : Spc) : Prop := ∀ ds x Q E, okDs ds → Q (.tuple ((rowsL ds).map ti)) → S "all_rows" [.tuple [ti ds, x]] Q E
theorem c_all_rows {S : Spc} (h : Has S "all_rows" d_all_rows) (hr : K_rows_of S) : K_all_rows S := by
  intro ds x Q E hd q
  apply h
  simp [d_all_rows, b_all_rows, wSs]
  refine ⟨_, rfl, hr ds _ _ hd q⟩
def isPay (hands : Int) : D → Bool
  | .tuple xs => decide ((xs.length : Int) = hands) && xs.all (isNum · (-9) 9)
  | _ => false
def K_is_pay (S : Spc) : Prop := ∀ d n Q E, Q (.bool (isPay n d)) → S "is_pay" [d, .int n] Q E
theorem c_is_pay {S : Spc} (h : Has S "is_pay" d_is_pay) (hn : K_is_number S) : K_is_pay S := by
  intro d n Q E q
  apply h
  cases d <;> simp [d_is_pay, b_is_pay, wSs] <;> try exact q
  rename_i xs
  by_cases hl : (xs.length : Int) = n
  · rw [if_pos hl]
    refine wCo_mapD (fun d => .bool (isNum d (-9) 9)) (fun x _ K hK => hn _ _ _ _ _ hK) ⟨xs.map fun d => isNum d (-9) 9, by simp, ?_⟩
    simpa [isPay, hl, List.all_map, Function.comp_def] using q
  · rw [if_neg hl]
    simpa [isPay, hl] using q
def intsOf : List D → Option (List Int)
  | [] => some []
  | .int i :: r => (intsOf r).map (i :: ·)
  | _ => none
theorem isNum_ints {a b : Int} : ∀ ds : List D, ds.all (isNum · a b) = true → ∃ is : List Int, ds = is.map .int ∧ ∀ i, i ∈ is → a ≤ i ∧ i ≤ b
  | [], _ => ⟨[], rfl, fun _ h => by cases h⟩
  | d :: r, h => by
    rw [List.all_cons, Bool.and_eq_true] at h
    obtain ⟨is, e, hi⟩ := isNum_ints r h.2
    cases d <;> simp [isNum] at h
    rename_i i
    refine ⟨i :: is, by rw [e]; rfl, fun j hj => ?_⟩
    rcases List.mem_cons.mp hj with rfl | hj
    · exact h.1
    · exact hi j hj
@[simp] theorem isNum_int (i a b : Int) : isNum (.int i) a b = (decide (a ≤ i) && decide (i ≤ b)) := rfl
/-- the number of rows -/
def prodD : List D → Nat
  | .int i :: r => i.toNat * prodD r
  | _ => 1
def isMeeting : D → Bool
  | .tuple [.tuple ds, .tuple ps] => decide (2 ≤ ds.length) && decide (ds.length ≤ 3) && ds.all (isNum · 1 3) && decide (ps.length = prodD ds) && ps.all (isPay ds.length)
  | _ => false
theorem rowsL_prod : ∀ (ds : List Int), (rowsL ds).length = prodD (ds.map .int) := by
  have gen : ∀ (ds : List Int) (f : List (List Int)), (ds.foldl exts f).length = f.length * prodD (ds.map .int) := by
    intro ds
    induction ds with
    | nil => intro f; simp [prodD]
    | cons d r ih =>
      intro f
      rw [List.foldl_cons, ih, exts_len, List.map_cons]
      simp only [prodD]
      rw [Nat.mul_assoc]
  intro ds
  have := gen ds [[]]
  simpa [rowsL] using this
def K_is_meeting (S : Spc) : Prop := ∀ d Q E, Q (.bool (isMeeting d)) → S "is_meeting" [d] Q E
theorem l3 {n : Nat} : ((n : Int) + 1 + 1 + 1 = 2) = False := by simp; omega
theorem c_is_meeting {S : Spc} (h : Has S "is_meeting" d_is_meeting) (hn : K_is_number S) (hp : K_is_pay S) (hr : K_rows_of S) : K_is_meeting S := by
  intro d Q E q
  apply h
  cases d <;> simp [d_is_meeting, b_is_meeting, wSs] <;> try exact q
  rename_i xs
  rcases xs with _ | ⟨a, _ | ⟨b, _ | ⟨c, r⟩⟩⟩
  · simpa [isMeeting] using q
  · simpa [isMeeting] using q
  · cases a <;> simp <;> try (simpa [isMeeting] using q)
    rename_i ds
    by_cases h2 : 2 ≤ ds.length
    · by_cases h3 : ds.length ≤ 3
      · have h2' : (2 : Int) ≤ ds.length := by omega
        have h3' : (ds.length : Int) ≤ 3 := by omega
        rw [if_pos h2', if_pos h3']
        refine wCo_mapD (fun d => .bool (isNum d 1 3)) (fun x _ K hK => hn _ _ _ _ _ hK) ⟨ds.map fun d => isNum d 1 3, by simp, ?_⟩
        by_cases ha : ds.all (isNum · 1 3) = true
        · obtain ⟨is, rfl, his⟩ := isNum_ints ds ha
          have ha' : (false ∈ (is.map PyData.int).map fun d => isNum d 1 3) = False := by
            simp
            intro x hx
            exact his x hx
          simp only [ha', if_false]
          cases b <;> simp <;> try (simpa [isMeeting] using q)
          rename_i ps
          refine hr is _ _ ⟨by simpa using h3, fun d hd => ⟨by have := his d hd; omega, (his d hd).2⟩⟩ ?_
          simp only [seqD_tuple, reduceCtorEq, false_and, exists_false, or_false, Option.some.injEq, exists_eq_left']
          have e1 := rowsL_prod is
          by_cases hl : ps.length = (rowsL is).length
          · refine .inl ⟨by simp [hl], ?_⟩
            refine wCo_mapD (fun d => .bool (isPay is.length d)) (fun x _ K hK => ?_) ⟨ps.map fun d => isPay is.length d, by simp, ?_⟩
            · exact hp _ _ _ _ (by simpa using hK)
            · have h2i : 2 ≤ is.length := by simpa using h2
              have h3i : is.length ≤ 3 := by simpa using h3
              simp only [isMeeting, ha, List.length_map, h2i, h3i, decide_true, Bool.true_and, ← e1, hl] at q
              simpa [List.all_map, Function.comp_def] using q
          · refine .inr ⟨by simpa using fun z => hl (by omega), ?_⟩
            simp only [isMeeting, ← e1, hl, decide_false, Bool.and_false, Bool.false_and] at q
            exact q
        · have ha' : (false ∈ ds.map fun d => isNum d 1 3) = True := by
            simp only [List.mem_map, eq_iff_iff, iff_true]
            simpa using ha
          simp only [ha', if_true]
          cases b <;> simp [isMeeting, ha] at q <;> exact q
      · have h2' : (2 : Int) ≤ ds.length := by omega
        have h3' : ¬ (ds.length : Int) ≤ 3 := by omega
        simp [h2', h3']
        cases b <;> simp [isMeeting, h3] at q <;> exact q
    · have h2' : ¬ (2 : Int) ≤ ds.length := by omega
      simp [h2']
      cases b <;> simp [isMeeting, h2] at q <;> exact q
  · simp [l3]
    simpa [isMeeting] using q
end Pu

/-! plans, patience -/
namespace Pu
open PySem
theorem zipD_ints : ∀ (xs : List D) (ds : List Int), zipD xs (ds.map .int) = (List.zip xs ds).map fun p => .tuple [p.1, .int p.2]
  | [], _ => by simp [zipD]
  | _ :: _, [] => by simp [zipD]
  | x :: xs, d :: ds => by
    show PyData.tuple [x, .int d] :: zipD xs (ds.map .int) = _
    rw [zipD_ints xs ds]
    rfl
def isRow (ds : List Int) : D → Bool
  | .tuple xs => decide (xs.length = ds.length) && (List.zip xs ds).all fun p => isNum p.1 0 (p.2 - 1)
  | _ => false
def K_is_row (S : Spc) : Prop := ∀ d ds Q E, Q (.bool (isRow ds d)) → S "is_row" [d, ti ds] Q E
theorem c_is_row {S : Spc} (h : Has S "is_row" d_is_row) (hn : K_is_number S) : K_is_row S := by
  intro d ds Q E q
  apply h
  cases d <;> simp [d_is_row, b_is_row, wSs, ti] <;> try exact q
  rename_i xs
  by_cases hl : xs.length = ds.length
  · have hl' : (xs.length : Int) = ds.length := by omega
    simp only [hl', true_and, not_true_eq_false, false_and, or_false]
    refine ⟨_, _, ⟨rfl, rfl⟩, ?_⟩
    rw [zipD_ints]
    refine wCo_map (fun p : D × Int => PyData.tuple [p.1, .int p.2]) (fun p => .bool (isNum p.1 0 (p.2 - 1))) _ _ _ (fun p _ K hK => ?_) ⟨(List.zip xs ds).map fun p => isNum p.1 0 (p.2 - 1), by simp, ?_⟩
    · simp
      exact hn _ _ _ _ _ hK
    · simpa [isRow, hl, List.all_map, Function.comp_def] using q
  · have hl' : ¬ (xs.length : Int) = ds.length := by omega
    simp only [hl', false_and, not_false_eq_true, true_and, false_or]
    simpa [isRow, hl] using q
def isState (ds : List Int) (n : Int) : D → Bool
  | .tuple [a, .tuple bs] => isRow ds a && decide (bs.length = (rowsL ds).length) && bs.all (isNum · 0 (n - 1))
  | _ => false
def K_is_state (S : Spc) : Prop := ∀ d ds n Q E, okDs ds → Q (.bool (isState ds n d)) → S "is_state" [d, ti ds, .int n] Q E
theorem c_is_state {S : Spc} (h : Has S "is_state" d_is_state) (hn : K_is_number S) (hrow : K_is_row S) (hr : K_rows_of S) : K_is_state S := by
  intro d ds n Q E hd q
  apply h
  cases d <;> simp [d_is_state, b_is_state, wSs] <;> try exact q
  rename_i xs
  rcases xs with _ | ⟨a, _ | ⟨b, _ | ⟨c, r⟩⟩⟩
  · simpa [isState] using q
  · simpa [isState] using q
  · simp [L2.atI, L2.ixN]
    refine hrow _ _ _ _ ?_
    cases hra : isRow ds a with
    | false =>
      simp
      cases b <;> simp [isState, hra] at q <;> exact q
    | true =>
      simp
      cases b <;> simp <;> try (simpa [isState] using q)
      rename_i bs
      refine hr ds _ _ hd ?_
      simp
      by_cases hl : bs.length = (rowsL ds).length
      · refine .inl ⟨by omega, ?_⟩
        refine wCo_mapD (fun d => .bool (isNum d 0 (n - 1))) (fun x _ K hK => ?_) ⟨bs.map fun d => isNum d 0 (n - 1), by simp, ?_⟩
        · exact hn _ _ _ _ _ (by simpa using hK)
        · simpa [isState, hra, hl, List.all_map, Function.comp_def] using q
      · refine .inr ⟨by omega, ?_⟩
        simpa [isState, hra, hl] using q
  · simp [l3]
    simpa [isState] using q
def isPlan (ds : List Int) : D → Bool
  | .tuple xs => decide (1 ≤ xs.length) && decide (xs.length ≤ 8) && xs.all (isState ds xs.length)
  | _ => false
def K_is_plan (S : Spc) : Prop := ∀ d ds x Q E, okDs ds → Q (.bool (isPlan ds d)) → S "is_plan" [d, .tuple [ti ds, x]] Q E
theorem c_is_plan {S : Spc} (h : Has S "is_plan" d_is_plan) (hs : K_is_state S) : K_is_plan S := by
  intro d ds x Q E hd q
  apply h
  cases d <;> simp [d_is_plan, b_is_plan, wSs] <;> try exact q
  rename_i xs
  by_cases h1 : 1 ≤ xs.length
  · by_cases h2 : xs.length ≤ 8
    · have h1' : (1 : Int) ≤ xs.length := by omega
      have h2' : (xs.length : Int) ≤ 8 := by omega
      simp [h1', h2', L2.atI, L2.ixN]
      refine wCo_mapD (fun d => .bool (isState ds xs.length d)) (fun x _ K hK => hs _ _ _ _ _ hd hK) ⟨xs.map fun d => isState ds xs.length d, by simp, ?_⟩
      simpa [isPlan, h1, h2, List.all_map, Function.comp_def] using q
    · have h1' : (1 : Int) ≤ xs.length := by omega
      have h2' : ¬ (xs.length : Int) ≤ 8 := by omega
      simp [h1', h2']
      simpa [isPlan, h1, h2] using q
  · have h1' : ¬ (1 : Int) ≤ xs.length := by omega
    simp [h1']
    simpa [isPlan, h1] using q
def isPat : D → Bool
  | .tuple [.int p, .int q] => decide (2 ≤ q) && decide (q ≤ 30) && decide (1 ≤ p) && decide (p ≤ q - 1) && (List.range 29).all fun k => !(decide (p % (2 + (k : Int)) = 0) && decide (q % (2 + (k : Int)) = 0))
  | _ => false
def K_is_patience (S : Spc) : Prop := ∀ d Q E, Q (.bool (isPat d)) → S "is_patience" [d] Q E
theorem c_is_patience {S : Spc} (h : Has S "is_patience" d_is_patience) (hn : K_is_number S) : K_is_patience S := by
  intro d Q E q
  apply h
  cases d <;> simp [d_is_patience, b_is_patience, wSs] <;> try exact q
  rename_i xs
  rcases xs with _ | ⟨a, _ | ⟨b, _ | ⟨c, r⟩⟩⟩
  · simpa [isPat] using q
  · simpa [isPat] using q
  · simp [L2.atI, L2.ixN]
    refine hn _ _ _ _ _ ?_
    have hfalse : isNum b 2 30 = false → isPat (.tuple [a, b]) = false := by
      intro z
      cases a <;> cases b <;> simp [isPat]
      rename_i i j
      simp at z
      intro z1 z2
      have := z z1
      omega
    cases hb : isNum b 2 30 with
    | false =>
      rw [hfalse hb] at q
      simpa using q
    | true =>
      simp
      cases b <;> simp at hb
      rename_i j
      simp
      refine hn _ _ _ _ _ ?_
      cases ha : isNum a 1 (j - 1) with
      | false =>
        simp only [truW_bool, Bool.false_eq_true, if_false]
        cases a <;> simp [isPat] at q <;> try exact q
        rename_i i
        simp at ha
        have : (decide (2 ≤ j) && decide (j ≤ 30) && decide (1 ≤ i) && decide (i ≤ j - 1)) = false := by
          simp
          intro _ _ z
          have := ha z
          omega
        rw [this] at q
        simpa using q
      | true =>
        simp
        cases a <;> simp at ha
        rename_i i
        refine ⟨by rw [sizeI]; decide, ?_⟩
        rw [rangeD_eq]
        refine wCo_filter (fun k : Nat => PyData.int (2 + (k : Int))) (fun k : Nat => decide (i % (2 + (k : Int)) = 0) && decide (j % (2 + (k : Int)) = 0)) (fun k : Nat => PyData.int (2 + (k : Int))) _ _ _ (fun k _ K h1 h2 => ?_) ?_
        · have hp : (0 : Int) < 2 + (k : Int) := by omega
          simp [hp]
          by_cases z1 : i % (2 + (k : Int)) = 0
          · by_cases z2 : j % (2 + (k : Int)) = 0
            · simp [z1, z2]
              exact h1 (by simp [z1, z2])
            · simp [z1, z2]
              exact h2 (by simp [z1, z2])
          · simp [z1]
            exact h2 (by simp [z1])
        · have e : (decide (2 ≤ j) && decide (j ≤ 30) && decide (1 ≤ i) && decide (i ≤ j - 1)) = true := by simp; omega
          simp only [isPat, e, Bool.true_and] at q
          have e2 : (List.map (fun k : Nat => PyData.int (2 + (k : Int))) ((List.range 29).filter fun k : Nat => decide (i % (2 + (k : Int)) = 0) && decide (j % (2 + (k : Int)) = 0))).isEmpty = (List.range 29).all fun k => !(decide (i % (2 + (k : Int)) = 0) && decide (j % (2 + (k : Int)) = 0)) := by
            rw [Bool.eq_iff_iff]
            simp [List.isEmpty_iff, List.filter_eq_nil_iff]
            grind
          rw [List.nil_append, e2]
          exact q
  · simp [l3]
    simpa [isPat] using q

/-! ### the law's own givers -/
def K_law_cell (S : Spc) : Prop := ∀ (ns : List Int) (k : Int) Q E, 0 ≤ k → (∀ c, Q (.int c)) → S "_law_cell" [.list (ns.map .int), .int k] Q E
theorem c__law_cell {S : Spc} (h : Has S "_law_cell" d__law_cell) : K_law_cell S := by
  intro ns k Q E hk q
  apply h
  simp [d__law_cell, b__law_cell, wSs]
  by_cases hl : k < ns.length
  · rw [if_pos hl]
    exact ⟨.int (ns[k.toNat]'(by omega)), at_of hk (by simp), q _⟩
  · rw [if_neg hl]
    exact q 0
def K_law_mix (S : Spc) : Prop := ∀ (c p n : Int) Q E, 0 < p → 0 < n → (∀ v, 0 ≤ v → v < n → Q (.int v)) → S "_law_mix" [.int c, .int p, .int n] Q E
theorem c__law_mix {S : Spc} (h : Has S "_law_mix" d__law_mix) : K_law_mix S := by
  intro c p n Q E hp hn q
  apply h
  simp [d__law_mix, b__law_mix, wSs]
  refine ⟨.inl (.inr ⟨by omega, by omega⟩), hp, hn, q _ (Int.emod_nonneg _ (by omega)) (Int.emod_lt_of_pos _ hn)⟩
def K_law_cells (S : Spc) : Prop := ∀ (ns : List Int) (k : Int) Q E, 0 ≤ k → (∀ a b c d, Q (.list [.int a, .int b, .int c, .int d])) → S "_law_cells" [.list (ns.map .int), .int k] Q E
theorem c__law_cells {S : Spc} (h : Has S "_law_cells" d__law_cells) (hc : K_law_cell S) : K_law_cells S := by
  intro ns k Q E hk q
  apply h
  simp [d__law_cells, b__law_cells, wSs]
  refine ⟨by rw [sizeI]; decide, ?_⟩
  simp [rangeD, List.range_succ, wCo_nil, wCo_cons]
  refine hc _ _ _ _ (by omega) fun a => ?_
  refine hc _ _ _ _ (by omega) fun b => ?_
  refine hc _ _ _ _ (by omega) fun c => ?_
  refine hc _ _ _ _ (by omega) fun d => ?_
  exact q a b c d
end Pu

/-! meetings, patiences, plans as the laws make them -/
namespace Pu
open PySem
structure WfM (ds : List Int) (pay : List (List Int)) : Prop where
  d2 : 2 ≤ ds.length
  d3 : ds.length ≤ 3
  d : ∀ d, d ∈ ds → 1 ≤ d ∧ d ≤ 3
  p : pay.length = (rowsL ds).length
  w : ∀ r, r ∈ pay → r.length = ds.length ∧ ∀ x, x ∈ r → -9 ≤ x ∧ x ≤ 9
theorem WfM.ok {ds : List Int} {pay : List (List Int)} (h : WfM ds pay) : okDs ds := ⟨h.d3, fun x hx => ⟨by have := h.d x hx; omega, (h.d x hx).2⟩⟩
def K_law_meeting (S : Spc) : Prop := ∀ (c : Int) Q E, (∀ ds pay, WfM ds pay → (c % 3 = 0 → ds = [2, 2]) → Q (mD ds pay)) → S "_law_meeting" [.int c] Q E
theorem rows22 : rowsL [2, 2] = [[0, 0], [0, 1], [1, 0], [1, 1]] := by decide
/-- a comprehension whose items are what they are, within bounds -/
theorem wCo_ex {f : D → (Option D → Prop) → Prop} (P : Int → Prop) : ∀ (xs : List D) (acc : List D) (Q : List D → Prop),
    (∀ x, x ∈ xs → ∀ K : Option D → Prop, (∀ i, P i → K (some (.int i))) → f x K) → (∀ is : List Int, is.length = xs.length → (∀ i, i ∈ is → P i) → Q (acc ++ is.map .int)) → wCo f xs acc Q
  | [], acc, Q, _, q => by
    show Q acc
    simpa using q [] rfl (fun _ h => by cases h)
  | x :: r, acc, Q, h, q => h x (by simp) _ fun i hi => wCo_ex P r _ Q (fun y hy => h y (by simp [hy])) fun is hl hp => by
      have := q (i :: is) (by simp [hl]) (fun j hj => by
        rcases List.mem_cons.mp hj with rfl | hj
        · exact hi
        · exact hp j hj)
      simpa using this
theorem c__law_meeting {S : Spc} (h : Has S "_law_meeting" d__law_meeting) (hm : K_law_mix S) (hr : K_law_rows S) : K_law_meeting S := by
  intro c Q E q
  apply h
  refine ⟨rfl, ?_⟩
  simp only [d__law_meeting, b__law_meeting]
  simp only [List.map_cons, List.map_nil, List.cons_append, List.nil_append, List.length_cons, List.length_nil, Nat.reduceSub, Nat.reduceAdd, List.replicate]
  rw [wSs_cons]
  simp
  refine hm _ _ _ _ _ (by decide) (by decide) fun v hv0 hv1 => ?_
  simp only [fdW_int, addW_int]
  refine ⟨⟨by decide, by decide⟩, _, rfl, by rw [sizeI]; omega, by omega, ?_⟩
  refine wCo_ex (fun i => 1 ≤ i ∧ i ≤ 3) _ _ _ (fun x hx K hK => ?_) fun is hl hi => ?_
  · obtain ⟨k, hk, rfl⟩ := rangeD_mem.mp hx
    simp only [mulW_int, addW_int]
    refine ⟨.inl (.inl ⟨by decide, by decide⟩), hm _ _ _ _ _ (by decide) (by decide) fun u hu0 hu1 => ?_⟩
    exact hK _ ⟨by omega, by omega⟩
  simp only [rangeD_length] at hl
  refine wSs_step fun D₁ hrt hex _ _ hn => ?_
  simp [wSs]
  refine ite_gen (T := fun ds : List Int => D₁.nx [.val (.int c), .un, .val (ti ds), .un, .un, .un, .un, .un, .un]) (fun ds => 2 ≤ ds.length ∧ ds.length ≤ 3 ∧ (∀ d, d ∈ ds → 1 ≤ d ∧ d ≤ 3) ∧ (c % 3 = 0 → ds = [2, 2])) (a := [2, 2]) (b := is) ?_ (fun _ => ⟨by decide, by decide, by decide, fun _ => rfl⟩) (fun hc => ⟨by omega, by omega, hi, fun z => absurd z hc⟩)
  rintro ds ⟨d2, d3, hd, h22⟩
  refine hn _ ?_
  have okd : okDs ds := ⟨d3, fun x hx => ⟨by have := hd x hx; omega, (hd x hx).2⟩⟩
  rw [wSs_cons]
  simp
  refine hm _ _ _ _ _ (by decide) (by decide) fun v2 hv20 hv21 => ?_
  simp only [ixW_list]
  obtain ⟨wide, hw1, hw2, hw3⟩ : ∃ wide : Int, L2.atI [PyData.int 2, PyData.int 5, PyData.int 10] v2 = some (.int wide) ∧ 2 ≤ wide ∧ wide ≤ 10 := by
    have : v2 = 0 ∨ v2 = 1 ∨ v2 = 2 := by omega
    rcases this with rfl | rfl | rfl
    · exact ⟨2, rfl, by decide, by decide⟩
    · exact ⟨5, rfl, by decide, by decide⟩
    · exact ⟨10, rfl, by decide, by decide⟩
  refine ⟨_, hw1, ?_⟩
  rw [wSs_cons]
  simp
  refine wSs_step fun D₂ hrt2 hex2 _ _ hn2 => ?_
  simp
  refine hr ds _ _ okd ?_
  have hrl := rowsL_len ds fun d hd' => (hd d hd').2
  have h27 := p3 d3
  have sp := size_pos
  refine .inl ⟨_, rfl, by simp; omega, ?_⟩
  simp only [List.length_map, rangeD_eq]
  refine wFor_map (fun k : Nat => PyData.int (0 + (k : Int))) (fun done ρ => ∃ (pay : List (List Int)) (s1 s5 s6 s7 : Slot), ρ = [.val (.int c), s1, .val (ti ds), .val (.int wide), .own (pay.map ti), s5, s6, s7, .un] ∧ pay.length = done.length ∧ ∀ r, r ∈ pay → r.length = ds.length ∧ ∀ x, x ∈ r → -9 ≤ x ∧ x ≤ 9)
    (List.range (rowsL ds).length) [] _ ⟨[], .un, .un, .un, .un, rfl, rfl, fun _ z => by cases z⟩ ?_ ?_
  · rintro done k r ρ D₃ hd3 ⟨pay, s1, s5, s6, s7, rfl, hpl, hpw⟩ hrt3 hex3 _ hn3 _
    have hk : done.length + (r.length + 1) = (rowsL ds).length := by
      have := congrArg List.length hd3
      simpa using this.symm
    rw [wSs_cons]
    simp
    refine ⟨.inl (.inl ⟨by decide, by decide⟩), ?_⟩
    rw [wSs_cons]
    simp [ti]
    refine ⟨by omega, ?_⟩
    refine wCo_ex (fun i => -9 ≤ i ∧ i ≤ 9) _ _ _ (fun x hx K hK => ?_) fun is2 hl2 hi2 => ?_
    · obtain ⟨j, hj, rfl⟩ := rangeD_mem.mp hx
      simp
      refine ⟨.inl (.inl ⟨by decide, by decide⟩), .inl (.inl ⟨by decide, by decide⟩), hm _ _ _ _ _ (by decide) (by omega) fun u hu0 hu1 => ?_⟩
      simp
      exact hK _ ⟨by omega, by omega⟩
    rw [wSs_cons]
    simp
    refine ⟨by omega, ?_⟩
    have e1 : pay.map ti ++ [PyData.tuple (is2.map .int)] = (pay ++ [is2]).map ti := by simp [ti]
    rw [e1]
    refine hn3 _ ⟨pay ++ [is2], _, _, _, _, rfl, by simp [hpl], ?_⟩
    · intro rr hrr
      rcases List.mem_append.mp hrr with hrr | hrr
      · exact hpw rr hrr
      · have : rr = is2 := by simpa using hrr
        subst this
        exact ⟨by simpa [rangeD_length] using hl2, hi2⟩
  · rintro ρ ⟨pay, s1, s5, s6, s7, rfl, hpl, hpw⟩
    refine hn2 _ ?_
    refine wSs_step fun D₄ hrt4 hex4 _ _ hn4 => ?_
    have fin : ∀ (pay' : List (List Int)) (s1 s5 s6 s7 s8 : Slot), WfM ds pay' → D₄.nx [.val (.int c), s1, .val (ti ds), .val (.int wide), .own (pay'.map ti), s5, s6, s7, s8] := by
      intro pay' s1 s5 s6 s7 s8 wf
      refine hn4 _ ?_
      rw [wSs_cons]
      simp
      exact q ds pay' wf h22
    simp [wSs]
    split
    · rename_i c9
      have hds := h22 (by omega)
      subst hds
      refine ⟨by rw [sizeI]; decide, ?_⟩
      refine wCo_ex (fun i => -9 ≤ i ∧ i ≤ 9) _ _ _ (fun x hx K hK => ?_) fun is3 hl3 hi3 => ?_
      · obtain ⟨j, hj, rfl⟩ := rangeD_mem.mp hx
        simp
        refine hm _ _ _ _ _ (by decide) (by decide) fun u hu0 hu1 => ?_
        simp
        exact hK _ ⟨by omega, by omega⟩
      refine ⟨is3, by simp, by rw [hl3]; decide, fun ms hpm hpw3 => ?_⟩
      have hl4 : ms.length = 4 := by rw [hpm.length_eq, hl3]; rfl
      have hi4 : ∀ i, i ∈ ms → -9 ≤ i ∧ i ≤ 9 := fun i hi => hi3 i (hpm.mem_iff.mp hi)
      obtain ⟨a, b, c', d', rfl⟩ : ∃ a b c' d', ms = [a, b, c', d'] := by
        match ms, hl4 with
        | [a, b, c', d'], _ => exact ⟨a, b, c', d', rfl⟩
      have ha := hi4 a (by simp)
      have hb := hi4 b (by simp)
      have hc := hi4 c' (by simp)
      have hd' := hi4 d' (by simp)
      simp [L2.atI, L2.ixN]
      refine fin [[c', c'], [a, d'], [d', a], [b, b]] _ _ _ _ _ ⟨by decide, by decide, by decide, by rw [rows22]; rfl, ?_⟩
      simp
      omega
    · exact fin _ _ _ _ _ _ ⟨d2, d3, hd, by rw [hpl]; simp, hpw⟩
def coprime30 (p q : Int) : Prop := ∀ k : Nat, k < 29 → ¬ (p % (2 + (k : Int)) = 0 ∧ q % (2 + (k : Int)) = 0)
structure WfP (p q : Int) : Prop where
  q2 : 2 ≤ q
  q30 : q ≤ 30
  p1 : 1 ≤ p
  pq : p < q
  cp : coprime30 p q
def pD (p q : Int) : D := .tuple [.int p, .int q]
def K_law_patience (S : Spc) : Prop := ∀ (c : Int) Q E, (∀ p q, WfP p q → Q (pD p q)) → S "_law_patience" [.int c] Q E
theorem c__law_patience {S : Spc} (h : Has S "_law_patience" d__law_patience) (hm : K_law_mix S) : K_law_patience S := by
  intro c Q E q
  apply h
  refine ⟨rfl, ?_⟩
  simp only [d__law_patience, b__law_patience]
  simp only [List.map_cons, List.map_nil, List.cons_append, List.nil_append, List.length_cons, List.length_nil, Nat.reduceSub, Nat.reduceAdd, List.replicate]
  rw [wSs_cons]
  simp
  refine hm _ _ _ _ _ (by decide) (by decide) fun v hv0 hv1 => ?_
  simp
  rw [wSs_cons]
  simp
  refine hm _ _ _ _ _ (by decide) (by omega) fun u hu0 hu1 => ?_
  simp
  refine wSs_step fun D₁ hrt hex _ _ hn => ?_
  simp [wSs]
  refine ite_gen (T := fun u : Int => D₁.nx [.val (.int c), .val (.int (2 + v)), .val (.int u), .un]) (fun u => 1 ≤ u ∧ u < 2 + v) (a := 2 + v - 1) (b := 1 + u) ?_ (fun _ => ⟨by omega, by omega⟩) (fun hc => ⟨by omega, by omega⟩)
  rintro u ⟨hu, huv⟩
  refine hn _ ?_
  refine wSs_step fun D₂ hrt2 hex2 _ _ hn2 => ?_
  simp
  refine ⟨by rw [sizeI]; decide, ?_⟩
  rw [rangeD_eq]
  refine wFor_map (fun k : Nat => PyData.int (2 + (k : Int))) (fun done ρ => ∃ (p q : Int) (s : Slot), ρ = [.val (.int c), .val (.int q), .val (.int p), s] ∧ 1 ≤ p ∧ p < q ∧ q ≤ 30 ∧ ∀ k, k ∈ done → ¬ (p % (2 + (k : Int)) = 0 ∧ q % (2 + (k : Int)) = 0))
    (List.range 28) [] _ ⟨u, 2 + v, .un, rfl, hu, huv, by omega, fun _ z => by cases z⟩ ?_ ?_
  · rintro done k r ρ D₃ hd3 ⟨p, q', s, rfl, h1, h2, h3, h4⟩ hrt3 hex3 _ hn3 _
    rw [wSs_cons]
    simp
    refine wWh_inv (fun m ρ => ∃ (p q : Int), ρ = [.val (.int c), .val (.int q), .val (.int p), .val (.int (2 + (k : Int)))] ∧ m = q.toNat ∧ 1 ≤ p ∧ p < q ∧ q ≤ 30 ∧ ∀ k, k ∈ done → ¬ (p % (2 + (k : Int)) = 0 ∧ q % (2 + (k : Int)) = 0)) ?_ ⟨p, q', rfl, rfl, h1, h2, h3, h4⟩
    rintro m ρ D₄ ⟨p, q', rfl, rfl, h1, h2, h3, h4⟩ hrt4 hex4 _ hn4 _
    have hk : (0 : Int) < 2 + (k : Int) := by omega
    simp [hk]
    by_cases z1 : p % (2 + (k : Int)) = 0
    · by_cases z2 : q' % (2 + (k : Int)) = 0
      · simp [z1, z2]
        have hkb : L2.CDivW p (2 + (k : Int)) ∧ L2.CDivW q' (2 + (k : Int)) := by
          have hk28 : k < 28 := by
            have : k ∈ List.range 28 := by rw [show List.range 28 = done ++ k :: r from hd3]; simp
            simpa using this
          have : (2 + (k : Int)).natAbs.log2 < 9000 := by
            have : (2 + (k : Int)).natAbs ≤ 30 := by omega
            exact Nat.lt_of_le_of_lt (Nat.log2_le_self _) (by omega)
          exact ⟨⟨hk, this⟩, ⟨hk, this⟩⟩
        rw [wSs_cons]
        simp
        refine ⟨hkb.1, ?_⟩
        rw [wSs_cons]
        simp
        refine ⟨hkb.2, ?_⟩
        obtain ⟨a, rfl⟩ : ∃ a, p = (2 + (k : Int)) * a := ⟨p / (2 + (k : Int)), (Int.mul_ediv_cancel' (Int.dvd_of_emod_eq_zero z1)).symm⟩
        obtain ⟨b, rfl⟩ : ∃ b, q' = (2 + (k : Int)) * b := ⟨q' / (2 + (k : Int)), (Int.mul_ediv_cancel' (Int.dvd_of_emod_eq_zero z2)).symm⟩
        rw [Int.mul_ediv_cancel_left _ (by omega), Int.mul_ediv_cancel_left _ (by omega)]
        have ha : 1 ≤ a := by
          have ha0 : ¬ a ≤ 0 := fun z => by
            have := Int.mul_le_mul_of_nonneg_left (show a ≤ 0 by omega) (show 0 ≤ 2 + (k : Int) by omega)
            omega
          omega
        have hab : a < b := Int.lt_of_mul_lt_mul_left h2 (by omega)
        have hb2 : 2 * b ≤ (2 + (k : Int)) * b := Int.mul_le_mul_of_nonneg_right (by omega) (by omega)
        refine hn4 b.toNat _ (by omega) ⟨a, b, rfl, rfl, ha, hab, by omega, fun j hj hz => h4 j hj ⟨?_, ?_⟩⟩
        · exact Int.emod_eq_zero_of_dvd (Int.dvd_mul_of_dvd_right (Int.dvd_of_emod_eq_zero hz.1))
        · exact Int.emod_eq_zero_of_dvd (Int.dvd_mul_of_dvd_right (Int.dvd_of_emod_eq_zero hz.2))
      · simp [z1, z2]
        refine hn3 _ ⟨p, q', _, rfl, h1, h2, h3, fun j hj => ?_⟩
        rcases List.mem_append.mp hj with hj | hj
        · exact h4 j hj
        · have : j = k := by simpa using hj
          subst this
          exact fun z => z2 z.2
    · simp [z1]
      refine hn3 _ ⟨p, q', _, rfl, h1, h2, h3, fun j hj => ?_⟩
      rcases List.mem_append.mp hj with hj | hj
      · exact h4 j hj
      · have : j = k := by simpa using hj
        subst this
        exact fun z => z1 z.1
  · rintro ρ ⟨p, q', s, rfl, h1, h2, h3, h4⟩
    refine hn2 _ ?_
    rw [wSs_cons]
    simp
    refine q p q' ⟨by omega, h3, h1, h2, fun k hk hz => ?_⟩
    by_cases hk28 : k < 28
    · exact h4 k (by simp [hk28]) hz
    · have : k = 28 := by omega
      subst this
      refine h4 0 (by simp) ⟨?_, ?_⟩
      · have := hz.1
        simp at this ⊢
        omega
      · have := hz.2
        simp at this ⊢
        omega

/-! ### rows and plans -/
def K_law_row (S : Spc) : Prop := ∀ ds x (c : Int) Q E, okDs ds → 0 < (rowsL ds).length → (∀ r, r ∈ rowsL ds → Q (ti r)) → S "_law_row" [.tuple [ti ds, x], .int c] Q E
theorem c__law_row {S : Spc} (h : Has S "_law_row" d__law_row) (hm : K_law_mix S) (hr : K_law_rows S) : K_law_row S := by
  intro ds x c Q E hd hp q
  apply h
  simp [d__law_row, b__law_row, wSs, L2.atI, L2.ixN]
  refine hr ds _ _ hd ?_
  simp
  refine hm _ _ _ _ _ (by decide) (by omega) fun v hv0 hv1 => ?_
  simp
  have hlt : v.toNat < (rowsL ds).length := by omega
  refine ⟨ti ((rowsL ds)[v.toNat]), at_of hv0 (by simp [hlt]), q _ (List.getElem_mem _)⟩
/-- a plan: at each state a row and where the rows lead -/
def plD (pl : List (List Int × List Int)) : D := .tuple (pl.map fun s => .tuple [ti s.1, ti s.2])
structure WfL (ds : List Int) (n : Nat) (pl : List (List Int × List Int)) : Prop where
  l : ∀ s, s ∈ pl → s.1 ∈ rowsL ds ∧ s.2.length = (rowsL ds).length ∧ ∀ x, x ∈ s.2 → 0 ≤ x ∧ x < (n : Int)
def K_law_plan (S : Spc) : Prop := ∀ ds x (a b c d : Int) (most : Int) Q E, okDs ds → 0 < (rowsL ds).length → 0 < most → most ≤ 100 → (∀ pl, 1 ≤ pl.length → (pl.length : Int) ≤ most → WfL ds pl.length pl → Q (plD pl)) → S "_law_plan" [.tuple [ti ds, x], .list [.int a, .int b, .int c, .int d], .int most] Q E
theorem c__law_plan {S : Spc} (h : Has S "_law_plan" d__law_plan) (hm : K_law_mix S) (hr : K_law_rows S) (hrow : K_law_row S) : K_law_plan S := by
  intro ds x a b c d most Q E hd hp hmost hmost2 q
  apply h
  refine ⟨rfl, ?_⟩
  simp only [d__law_plan, b__law_plan]
  simp only [List.map_cons, List.map_nil, List.cons_append, List.nil_append, List.length_cons, List.length_nil, Nat.reduceSub, Nat.reduceAdd, List.replicate]
  rw [wSs_cons]
  simp [L2.atI, L2.ixN]
  refine hm _ _ _ _ _ (by decide) hmost fun v hv0 hv1 => ?_
  simp
  rw [wSs_cons]
  simp
  refine wSs_step fun D₁ hrt hex _ _ hn => ?_
  simp
  have hrl := rowsL_len ds fun d hd' => (hd.2 d hd').2
  have h27 := p3 hd.1
  have sp := size_pos
  refine ⟨by omega, by omega, ?_⟩
  rw [rangeD_eq]
  refine wFor_map (fun k : Nat => PyData.int (0 + (k : Int))) (fun done ρ => ∃ (pl : List (List Int × List Int)) (s5 s6 s7 s8 : Slot), ρ = [.val (.tuple [ti ds, x]), .val (.list [.int a, .int b, .int c, .int d]), .val (.int most), .val (.int (1 + v)), .own (pl.map fun s => .tuple [ti s.1, ti s.2]), s5, s6, s7, s8] ∧ pl.length = done.length ∧ WfL ds (1 + v).toNat pl)
    (List.range (1 + v).toNat) [] _ ⟨[], .un, .un, .un, .un, rfl, rfl, ⟨fun _ z => by cases z⟩⟩ ?_ ?_
  · rintro done k r ρ D₃ hd3 ⟨pl, s5, s6, s7, s8, rfl, hpl, hw⟩ hrt3 hex3 _ hn3 _
    have hk : done.length + (r.length + 1) = (1 + v).toNat := by
      have := congrArg List.length hd3
      simpa using this.symm
    rw [wSs_cons]
    simp
    obtain ⟨e, he⟩ : ∃ e, L2.atI [PyData.int a, .int b, .int c, .int d] (1 + (k : Int) % 3) = some (.int e) := by
      have : (k : Int) % 3 = 0 ∨ (k : Int) % 3 = 1 ∨ (k : Int) % 3 = 2 := by omega
      rcases this with z | z | z <;> rw [z]
      · exact ⟨b, rfl⟩
      · exact ⟨c, rfl⟩
      · exact ⟨d, rfl⟩
    refine ⟨_, he, ?_⟩
    simp
    refine ⟨.inl (.inl ⟨by decide, by decide⟩), ?_⟩
    refine wSs_step fun D₄ hrt4 hex4 _ _ hn4 => ?_
    simp [L2.atI, L2.ixN]
    refine hr ds _ _ hd ?_
    refine .inl ⟨_, rfl, by simp; omega, ?_⟩
    refine wCo_ex (fun i => 0 ≤ i ∧ i < 1 + v) _ _ _ (fun y hy K hK => ?_) fun is hl hi => ?_
    · obtain ⟨j, hj, rfl⟩ := rangeD_mem.mp hy
      simp
      refine ⟨.inl (.inl ⟨by decide, by decide⟩), hm _ _ _ _ _ (by decide) (by omega) fun u hu0 hu1 => ?_⟩
      exact hK _ ⟨by omega, by omega⟩
    simp [rangeD_length] at hl
    refine hn4 _ ?_
    rw [wSs_cons]
    simp
    refine hrow ds x _ _ _ hd hp fun rr hrr => ?_
    refine ⟨by omega, ?_⟩
    have e1 : (pl.map fun s => PyData.tuple [ti s.1, ti s.2]) ++ [PyData.tuple [ti rr, .tuple (is.map .int)]] = (pl ++ [(rr, is)]).map fun s => PyData.tuple [ti s.1, ti s.2] := by simp [ti]
    rw [e1]
    refine hn3 _ ⟨pl ++ [(rr, is)], _, _, _, _, rfl, by simp [hpl], ⟨fun s hs => ?_⟩⟩
    rcases List.mem_append.mp hs with hs | hs
    · exact hw.l s hs
    · have : s = (rr, is) := by simpa using hs
      subst this
      exact ⟨hrr, hl, fun i hi' => ⟨(hi i hi').1, by have := (hi i hi').2; omega⟩⟩
  · rintro ρ ⟨pl, s5, s6, s7, s8, rfl, hpl, hw⟩
    refine hn _ ?_
    rw [wSs_cons]
    simp
    have hl : pl.length = (1 + v).toNat := by simpa using hpl
    exact q pl (by omega) (by omega) (by rw [hl]; exact hw)
theorem rows_pos {ds : List Int} (h : ∀ d, d ∈ ds → 1 ≤ d ∧ d ≤ 3) : 0 < (rowsL ds).length := by
  rw [rowsL_prod]
  induction ds with
  | nil => simp [prodD]
  | cons x r ih =>
    simp only [List.map_cons, prodD]
    exact Nat.mul_pos (by have := h x (by simp); omega) (ih fun d hd => h d (by simp [hd]))
end Pu

/-! rows and what is paid -/
namespace Pu
open PySem
theorem rowsL_mem' : ∀ (ds : List Int) (r : List Int), r ∈ rowsL ds ↔ r.length = ds.length ∧ ∀ (i : Nat) (a d : Int), r[i]? = some a → ds[i]? = some d → 0 ≤ a ∧ a < d := by
  intro ds
  induction ds using snoc_ind with
  | h0 =>
    intro r
    simp [rowsL]
  | h1 xs x ih =>
    intro r
    rw [rowsL_snoc]
    simp only [exts, List.mem_flatMap, List.mem_map, List.mem_range]
    constructor
    · rintro ⟨row, h1, k, h2, rfl⟩
      obtain ⟨hl, hh⟩ := (ih row).mp h1
      refine ⟨by simp [hl], fun i a d ha hd => ?_⟩
      by_cases hi : i < row.length
      · rw [List.getElem?_append_left hi] at ha
        rw [List.getElem?_append_left (by omega)] at hd
        exact hh i a d ha hd
      · rw [List.getElem?_append_right (by omega)] at ha
        rw [List.getElem?_append_right (by omega)] at hd
        have : i - row.length = 0 := by
          have := (List.getElem?_eq_some_iff.mp ha).1
          simp at this
          omega
        rw [this] at ha
        rw [show i - xs.length = 0 by omega] at hd
        simp at ha hd
        omega
    · rintro ⟨hl, hh⟩
      have hl' : r.length = xs.length + 1 := by simpa using hl
      obtain ⟨row, y, rfl⟩ : ∃ row y, r = row ++ [y] := ⟨r.dropLast, r.getLast (by intro e; rw [e] at hl'; simp at hl'), (List.dropLast_concat_getLast _).symm⟩
      have hr : row.length = xs.length := by simpa using hl'
      have hy := hh row.length y x (by simp) (by rw [hr]; simp)
      refine ⟨row, (ih row).mpr ⟨hr, fun i a d ha hd => ?_⟩, y.toNat, by omega, by rw [Int.toNat_of_nonneg hy.1]⟩
      have hi := (List.getElem?_eq_some_iff.mp ha).1
      exact hh i a d (by rw [List.getElem?_append_left hi]; exact ha) (by rw [List.getElem?_append_left (by omega)]; exact hd)
theorem set_mem {ds row : List Int} (h : row ∈ rowsL ds) {i : Nat} {d e : Int} (hd : ds[i]? = some d) (h0 : 0 ≤ e) (h1 : e < d) : row.set i e ∈ rowsL ds := by
  obtain ⟨hl, hh⟩ := (rowsL_mem' ds row).mp h
  refine (rowsL_mem' ds _).mpr ⟨by simpa using hl, fun j a b ha hb => ?_⟩
  by_cases hij : i = j
  · subst hij
    rw [List.getElem?_set_self (by rw [hl]; exact (List.getElem?_eq_some_iff.mp hd).1)] at ha
    cases ha
    rw [hd] at hb
    cases hb
    exact ⟨h0, h1⟩
  · rw [List.getElem?_set_ne hij] at ha
    exact hh j a b ha hb
/-- what is paid for a row, to all and to one hand -/
def payOf (ds : List Int) (pay : List (List Int)) (row : List Int) : List Int := pay.getD ((rowsL ds).idxOf row) []
def payAt (ds : List Int) (pay : List (List Int)) (row : List Int) (i : Nat) : Int := (payOf ds pay row).getD i 0
theorem payOf_mem {ds : List Int} {pay : List (List Int)} (w : WfM ds pay) {row : List Int} (h : row ∈ rowsL ds) : pay[(rowsL ds).idxOf row]? = some (payOf ds pay row) ∧ (payOf ds pay row).length = ds.length ∧ ∀ x, x ∈ payOf ds pay row → -9 ≤ x ∧ x ≤ 9 := by
  have hlt : (rowsL ds).idxOf row < pay.length := by
    rw [w.p]
    exact List.idxOf_lt_length_iff.mpr h
  have e : payOf ds pay row = pay[(rowsL ds).idxOf row] := by
    unfold payOf
    simp [List.getD, List.getElem?_eq_getElem hlt]
  rw [e]
  exact ⟨List.getElem?_eq_getElem hlt, w.w _ (List.getElem_mem _)⟩
theorem payAt_get {ds : List Int} {pay : List (List Int)} (w : WfM ds pay) {row : List Int} (h : row ∈ rowsL ds) {i : Nat} (hi : i < ds.length) : (payOf ds pay row)[i]? = some (payAt ds pay row i) := by
  have := (payOf_mem w h).2.1
  unfold payAt
  rw [List.getElem?_eq_getElem (by omega)]
  simp [List.getD, List.getElem?_eq_getElem (show i < (payOf ds pay row).length by omega)]
theorem payAt_bd {ds : List Int} {pay : List (List Int)} (w : WfM ds pay) {row : List Int} (h : row ∈ rowsL ds) {i : Nat} (hi : i < ds.length) : -9 ≤ payAt ds pay row i ∧ payAt ds pay row i ≤ 9 :=
  (payOf_mem w h).2.2 _ (List.mem_of_getElem? (payAt_get w h hi))
@[simp] theorem plain_ti (n : Nat) (xs : List Int) : plain (n + 1) (ti xs) = true := by simp [ti]
theorem ti_inj {xs ys : List Int} (h : ti xs = ti ys) : xs = ys := by
  unfold ti at h
  injection h with h
  exact List.map_inj_right (f := PyData.int) (fun _ _ e => by injection e) |>.mp h
@[simp] theorem ti_inj_iff (xs ys : List Int) : ti xs = ti ys ↔ xs = ys := ⟨ti_inj, fun h => by rw [h]⟩
/-- where a row stands -/
theorem idxW_rows {ds row : List Int} (h : row ∈ rowsL ds) {x : D} (hx : x = .list ((rowsL ds).map ti) ∨ x = .tuple ((rowsL ds).map ti)) {Q : D → Prop} (q : Q (.int ((rowsL ds).idxOf row : Nat))) : idxW x ((rowsL ds).map ti) (ti row) Q := by
  refine ⟨(rowsL ds).idxOf row, ti row, ?_, plain_shaped 1 (by simp), ?_, ?_, ?_, q⟩
  · rcases hx with rfl | rfl
    · exact plain_shaped 2 (by simp [List.all_map, Function.comp_def])
    · exact plain_shaped 2 (by simp [List.all_map, Function.comp_def])
  · rw [List.getElem?_map, List.getElem?_eq_getElem (List.idxOf_lt_length_iff.mpr h), List.getElem_idxOf]
    rfl
  · exact (plain_eqv 1 _ _ (by simp) (by simp)).mpr rfl
  · intro m z hm hz
    rw [List.getElem?_map] at hz
    have hlt : m < (rowsL ds).length := Nat.lt_trans hm (List.idxOf_lt_length_iff.mpr h)
    rw [List.getElem?_eq_getElem hlt] at hz
    cases hz
    refine (plain_ne (n := 1) (by simp) (by simp)).mpr fun e => ?_
    have e' := ti_inj e
    have := List.not_of_lt_findIdx (show m < (rowsL ds).findIdx (· == row) from hm)
    simp [e'] at this
def K_row_number (S : Spc) : Prop := ∀ ds x row Q E, okDs ds → row ∈ rowsL ds → Q (.int ((rowsL ds).idxOf row : Nat)) → S "row_number" [.tuple [ti ds, x], ti row] Q E
theorem c_row_number {S : Spc} (h : Has S "row_number" d_row_number) (ha : K_all_rows S) : K_row_number S := by
  intro ds x row Q E hd hr q
  apply h
  simp [d_row_number, b_row_number, wSs]
  refine ha ds x _ _ hd ?_
  exact ⟨_, rfl, idxW_rows hr (.inr rfl) q⟩
def K_paid (S : Spc) : Prop := ∀ ds pay row Q E, WfM ds pay → row ∈ rowsL ds → Q (ti (payOf ds pay row)) → S "paid" [mD ds pay, ti row] Q E
theorem at_1 {α : Type} (a b : α) (l : List α) : L2.atI (a :: b :: l) 1 = some b := at_of (by decide) rfl
theorem at_0 {α : Type} (a : α) (l : List α) : L2.atI (a :: l) 0 = some a := at_of (by decide) rfl
theorem c_paid {S : Spc} (h : Has S "paid" d_paid) (hr : K_row_number S) : K_paid S := by
  intro ds pay row Q E w hm q
  apply h
  simp [d_paid, b_paid, wSs, mD, at_1]
  refine hr ds _ row _ _ w.ok hm ?_
  refine ⟨_, ?_, q⟩
  refine at_of (by omega) ?_
  rw [Int.toNat_natCast, List.getElem?_map, (payOf_mem w hm).1]
  rfl
def K_law_paid (S : Spc) : Prop := ∀ ds pay row Q E, WfM ds pay → row ∈ rowsL ds → Q (ti (payOf ds pay row)) → S "_law_paid" [mD ds pay, ti row] Q E
theorem c__law_paid {S : Spc} (h : Has S "_law_paid" d__law_paid) (hr : K_law_rows S) : K_law_paid S := by
  intro ds pay row Q E w hm q
  apply h
  simp [d__law_paid, b__law_paid, wSs, mD, at_1, at_0]
  refine hr ds _ _ w.ok ?_
  refine ⟨_, rfl, idxW_rows hm (.inl rfl) ?_⟩
  refine ⟨_, ?_, q⟩
  refine at_of (by omega) ?_
  rw [Int.toNat_natCast, List.getElem?_map, (payOf_mem w hm).1]
  rfl
/-! ### straying -/
theorem cut_set (row : List Int) (i : Nat) (e : Int) (hi : i < row.length) : cutD (row.map PyData.int) none (some (i : Int)) ++ (.int e :: cutD (row.map PyData.int) (some ((i : Int) + 1)) none) = (row.set i e).map .int := by
  have h1 : HT.sIx row.length 0 (some ((i : Int) + 1)) = i + 1 := by
    rw [show (i : Int) + 1 = ((i + 1 : Nat) : Int) by omega, HT.sIx_nat]
    omega
  have h2 : HT.sIx row.length row.length (some (i : Int)) = i := by
    rw [HT.sIx_nat]
    omega
  simp only [cutD, List.length_map, h1, h2, HT.sIx_none, List.drop_zero, Nat.sub_zero]
  rw [← List.map_take, ← List.map_drop, ← List.map_take, List.take_of_length_le (l := row.drop (i + 1)) (by simp)]
  rw [List.set_eq_take_append_cons_drop, if_pos hi]
  simp
def K_stray (S : Spc) : Prop := ∀ (row : List Int) (i : Nat) (e : Int) Q E, i < row.length → row.length ≤ 3 → Q (ti (row.set i e)) → S "stray" [ti row, .int (i : Int), .int e] Q E
theorem c_stray {S : Spc} (h : Has S "stray" d_stray) : K_stray S := by
  intro row i e Q E hi hl q
  apply h
  have sp := size_pos
  have c1 : (cutD (row.map PyData.int) none (some (i : Int))).length ≤ 3 := by
    simp only [cutD, List.length_take, List.length_drop, List.length_map]
    omega
  have c2 : (cutD (row.map PyData.int) (some ((i : Int) + 1)) none).length ≤ 3 := by
    simp only [cutD, List.length_take, List.length_drop, List.length_map]
    omega
  simp [d_stray, b_stray, wSs, ti]
  refine ⟨by omega, by omega, ?_⟩
  rw [cut_set row i e hi]
  exact q
def K_law_stray (S : Spc) : Prop := ∀ (row : List Int) (i : Nat) (e : Int) Q E, i < row.length → row.length ≤ 3 → Q (ti (row.set i e)) → S "_law_stray" [ti row, .int (i : Int), .int e] Q E
theorem c__law_stray {S : Spc} (h : Has S "_law_stray" d__law_stray) : K_law_stray S := by
  intro row i e Q E hi hl q
  apply h
  have sp := size_pos
  have c1 : (cutD (row.map PyData.int) none (some (i : Int))).length ≤ 3 := by
    simp only [cutD, List.length_take, List.length_drop, List.length_map]
    omega
  have c2 : (cutD (row.map PyData.int) (some ((i : Int) + 1)) none).length ≤ 3 := by
    simp only [cutD, List.length_take, List.length_drop, List.length_map]
    omega
  simp [d__law_stray, b__law_stray, wSs, ti]
  refine ⟨by omega, by omega, ?_⟩
  rw [cut_set row i e hi]
  exact q
section
variable {ds : List Int} {pay : List (List Int)} {row : List Int} {i : Nat}
theorem ds_get (hi : i < ds.length) : ds[i]? = some (ds.getD i 0) := by
  simp [List.getD, List.getElem?_eq_getElem hi]
theorem ds_bd (w : WfM ds pay) (hi : i < ds.length) : 1 ≤ ds.getD i 0 ∧ ds.getD i 0 ≤ 3 := w.d _ (List.mem_of_getElem? (ds_get hi))
theorem at_ti (xs : List Int) (i : Nat) (a : Int) (h : xs[i]? = some a) : L2.atI (xs.map PyData.int) (i : Int) = some (.int a) := at_of (by omega) (by rw [Int.toNat_natCast, List.getElem?_map, h]; rfl)
theorem set_row (w : WfM ds pay) (h : row ∈ rowsL ds) (hi : i < ds.length) {k : Nat} (hk : k < (ds.getD i 0).toNat) : row.set i (k : Int) ∈ rowsL ds := set_mem h (ds_get hi) (by omega) (by omega)
end
theorem enum_ints : ∀ (xs : List Int) (n : Nat), enumFrom n (xs.map .int) = (xs.zipIdx n).map fun p => PyData.tuple [.int (p.2 : Nat), .int p.1]
  | [], _ => rfl
  | x :: r, n => by
    simp only [List.map_cons, enumFrom, List.zipIdx_cons]
    rw [enum_ints r (n + 1)]
theorem row_get {row : List Int} {i : Nat} (hi : i < row.length) : row[i]? = some (row.getD i 0) := by
  simp [List.getD, List.getElem?_eq_getElem hi]
theorem enum_range (xs : List Int) : enumFrom 0 (xs.map .int) = (List.range xs.length).map fun i : Nat => PyData.tuple [.int (i : Nat), .int (xs.getD i 0)] := by
  rw [enum_ints]
  apply List.ext_getElem
  · simp
  · intro i h1 h2
    have : i < xs.length := by simpa using h1
    simp [this]
end Pu

/-! texts of meetings: plain -/
namespace Pu
open PySem
abbrev sp_ : Str := Str.ofString " "
abbrev cm_ : Str := Str.ofString ","
abbrev cl_ : Str := Str.ofString ":"
def strI (i : Int) : Str := Str.ofString i.repr
def ints19 : List Int := (List.range 19).map fun k : Nat => (-9 + (k : Int))
theorem mem19 {i : Int} : i ∈ ints19 ↔ -9 ≤ i ∧ i ≤ 9 := by
  unfold ints19
  simp only [List.mem_map, List.mem_range]
  constructor
  · rintro ⟨k, hk, rfl⟩
    omega
  · rintro ⟨h1, h2⟩
    exact ⟨(i + 9).toNat, by omega, by omega⟩
theorem strI_all : ints19.all (fun i => PyData.strOk (strI i) && decide ((strI i).length ≤ 2) && decide (1 ≤ (strI i).length) && !(strI i).cps.toList.contains 32 && !(strI i).cps.toList.contains 44 && !(strI i).cps.toList.contains 58) = true := by decide +kernel
theorem strI_inj_all : ints19.all (fun i => ints19.all fun j => !(decide (strI i = strI j)) || decide (i = j)) = true := by decide +kernel
structure StrI (w : Str) : Prop where
  ok : PyData.strOk w = true
  l2 : w.length ≤ 2
  l1 : 1 ≤ w.length
  n32 : 32 ∉ w.cps.toList
  n44 : 44 ∉ w.cps.toList
  n58 : 58 ∉ w.cps.toList
theorem strI_ok {i : Int} (h : -9 ≤ i ∧ i ≤ 9) : StrI (strI i) := by
  have := List.all_eq_true.mp strI_all i (mem19.mpr h)
  simp only [Bool.and_eq_true, decide_eq_true_eq, Bool.not_eq_true', List.contains_eq_mem, decide_eq_false_iff_not] at this
  obtain ⟨⟨⟨⟨⟨h1, h2⟩, h3⟩, h4⟩, h5⟩, h6⟩ := this
  exact ⟨h1, h2, h3, h4, h5, h6⟩
theorem strI_inj {i j : Int} (hi : -9 ≤ i ∧ i ≤ 9) (hj : -9 ≤ j ∧ j ≤ 9) (e : strI i = strI j) : i = j := by
  have := List.all_eq_true.mp (List.all_eq_true.mp strI_inj_all i (mem19.mpr hi)) j (mem19.mpr hj)
  simpa [e] using this
def numF (w : Str) : Option Int := ints19.find? fun i => decide (w = strI i)
theorem numF_some {w : Str} {i : Int} (h : numF w = some i) : w = strI i ∧ -9 ≤ i ∧ i ≤ 9 := by
  have h1 := List.find?_some h
  have h2 := List.mem_of_find?_eq_some h
  exact ⟨by simpa using h1, mem19.mp h2⟩
theorem numF_strI {i : Int} (h : -9 ≤ i ∧ i ≤ 9) : numF (strI i) = some i := by
  cases e : numF (strI i) with
  | none =>
    have := List.find?_eq_none.mp e i (mem19.mpr h)
    simp at this
  | some j =>
    obtain ⟨h1, h2⟩ := numF_some e
    rw [strI_inj h h2 h1]
/-- each or none -/
def optM {α β : Type} (g : α → Option β) : List α → Option (List β)
  | [] => some []
  | x :: r => match g x with
    | none => none
    | some y => match optM g r with
      | none => none
      | some ys => some (y :: ys)
theorem optM_map {α β γ : Type} {g : α → Option β} {f : γ → α} {h : γ → β} : ∀ {l : List γ}, (∀ x, x ∈ l → g (f x) = some (h x)) → optM g (l.map f) = some (l.map h)
  | [], _ => rfl
  | x :: r, hh => by
    simp only [List.map_cons, optM]
    rw [hh x (by simp), optM_map fun y hy => hh y (by simp [hy])]
theorem optM_some {α β : Type} {g : α → Option β} {P : β → Prop} (hg : ∀ x y, g x = some y → P y) : ∀ {l : List α} {ys : List β}, optM g l = some ys → ∀ y, y ∈ ys → P y
  | [], ys, h, y, hy => by
    cases h
    cases hy
  | x :: r, ys, h, y, hy => by
    simp only [optM] at h
    split at h
    · cases h
    · rename_i z hz
      split at h
      · cases h
      · rename_i zs hzs
        cases h
        rcases List.mem_cons.mp hy with rfl | hy
        · exact hg _ _ hz
        · exact optM_some hg hzs y hy
/-! ### the text of a meeting -/
def payT (p : List Int) : Str := Txt.join cm_ (p.map strI)
def wsOf (ds : List Int) (pay : List (List Int)) : List Str := ds.map strI ++ cl_ :: pay.map payT
def wrT (ds : List Int) (pay : List (List Int)) : Str := Txt.join sp_ (wsOf ds pay)
def b9 (p : List Int) : Prop := ∀ i, i ∈ p → -9 ≤ i ∧ i ≤ 9
open TL in
theorem join_free {s c : Nat} {S : List Nat} {y : Str} (hy : s ∉ tl y) : ∀ {parts : List Str}, (∀ p, p ∈ parts → s ∉ tl p) → s ∉ tl (Str.join y parts)
  | [], _ => by simp [Str.join, Str.empty]
  | [x], h => h x (by simp)
  | x :: z :: r, h => by
    show s ∉ tl (x ++ y ++ Str.join y (z :: r))
    rw [tl_append, tl_append, List.mem_append, List.mem_append]
    rintro ((k | k) | k)
    · exact h x (by simp) k
    · exact hy k
    · exact join_free (s := s) (c := c) (S := S) hy (fun p hp => h p (by simp [hp])) k
open TL in
theorem split_pay {p : List Int} (hp : b9 p) (hne : p ≠ []) : Txt.split (payT p) cm_ = p.map strI :=
  split_join (s := 44) (S := []) (by decide +kernel) (by decide +kernel) (by simpa using hne) fun w hw => by
    obtain ⟨i, hi, rfl⟩ := List.mem_map.mp hw
    exact (strI_ok (hp i hi)).n44
open TL in
theorem payT_free {p : List Int} (hp : b9 p) : 32 ∉ (payT p).cps.toList := by
  unfold payT
  rw [join_eq]
  exact join_free (c := 0) (S := []) (by decide +kernel) fun w hw => by
    obtain ⟨i, hi, rfl⟩ := List.mem_map.mp hw
    exact (strI_ok (hp i hi)).n32
open TL in
theorem split_ws {ds : List Int} {pay : List (List Int)} (hd : b9 ds) (hp : ∀ p, p ∈ pay → b9 p) : Txt.split (wrT ds pay) sp_ = wsOf ds pay :=
  split_join (s := 32) (S := []) (by decide +kernel) (by decide +kernel) (by simp [wsOf]) fun w hw => by
    unfold wsOf at hw
    rcases List.mem_append.mp hw with h | h
    · obtain ⟨i, hi, rfl⟩ := List.mem_map.mp h
      exact (strI_ok (hd i hi)).n32
    · rcases List.mem_cons.mp h with rfl | h
      · decide +kernel
      · obtain ⟨q, hq, rfl⟩ := List.mem_map.mp h
        exact payT_free (hp q hq)
/-! ### read -/
def colP (ws : List Str) : Nat := ws.idxOf cl_
def payF (w : Str) : Option (List Int) := optM numF (Txt.split w cm_)
def readF (z : Str) : Option (List Int × List (List Int)) :=
  if cl_ ∈ Txt.split z sp_ then
    match optM numF ((Txt.split z sp_).take (colP (Txt.split z sp_))) with
    | none => none
    | some ds => match optM payF ((Txt.split z sp_).drop (colP (Txt.split z sp_) + 1)) with
      | none => none
      | some pay => if isMeeting (mD ds pay) = true ∧ wrT ds pay = z then some (ds, pay) else none
  else none
theorem cl_not {i : Int} (h : -9 ≤ i ∧ i ≤ 9) : strI i ≠ cl_ := fun e => by
  have := (strI_ok h).n58
  rw [e] at this
  exact this (by decide +kernel)
theorem colP_ws {ds : List Int} {pay : List (List Int)} (hd : b9 ds) : colP (wsOf ds pay) = ds.length := by
  unfold colP wsOf
  rw [List.idxOf_append, if_neg (fun h => by
    obtain ⟨i, hi, e⟩ := List.mem_map.mp h
    exact cl_not (hd i hi) e)]
  simp
structure MtOk (ds : List Int) (pay : List (List Int)) : Prop where
  m : isMeeting (mD ds pay) = true
  d : b9 ds
  p : ∀ p, p ∈ pay → b9 p ∧ p ≠ []
theorem read_wr {ds : List Int} {pay : List (List Int)} (h : MtOk ds pay) : readF (wrT ds pay) = some (ds, pay) := by
  have e1 := split_ws h.d fun p hp => (h.p p hp).1
  unfold readF
  rw [e1, colP_ws h.d]
  rw [if_pos (by simp [wsOf])]
  have e2 : (wsOf ds pay).take ds.length = ds.map strI := by simp [wsOf]
  have e3 : (wsOf ds pay).drop (ds.length + 1) = pay.map payT := by simp [wsOf, List.drop_append]
  rw [e2, e3, optM_map (h := fun i => i) fun i hi => numF_strI (h.d i hi)]
  rw [optM_map (h := fun p => p) fun p hp => by
    unfold payF
    rw [split_pay (h.p p hp).1 (h.p p hp).2, optM_map (h := fun i => i) fun i hi => numF_strI ((h.p p hp).1 i hi)]
    simp]
  simp [h.m]
theorem readF_some {z : Str} {ds : List Int} {pay : List (List Int)} (h : readF z = some (ds, pay)) : isMeeting (mD ds pay) = true ∧ wrT ds pay = z ∧ b9 ds ∧ ∀ p, p ∈ pay → b9 p := by
  unfold readF at h
  split at h
  · split at h
    · cases h
    · rename_i ds' hds
      split at h
      · cases h
      · rename_i pay' hpay
        split at h
        · rename_i hc
          cases h
          exact ⟨hc.1, hc.2, fun i hi => optM_some (P := fun i => -9 ≤ i ∧ i ≤ 9) (fun x y e => (numF_some e).2) hds i hi,
            fun p hp => optM_some (P := b9) (fun x y e i hi => optM_some (P := fun i => -9 ≤ i ∧ i ≤ 9) (fun x y e => (numF_some e).2) e i hi) hpay p hp⟩
        · cases h
  · cases h
theorem bad_all : ["", ":", "1 1", "1 1 :", "1 1 0,0", "1 1 : 0,0 ", " 1 1 : 0,0", "1 1 : 0,0 0,0", "1 1 : 0", "1 1 : -0,0"].all (fun s => (readF (Str.ofString s)).isNone) = true := by decide +kernel
theorem good_one : readF (Str.ofString "1 1 : 0,-9") = some ([1, 1], [[0, -9]]) := by decide +kernel
end Pu

/-! number, written, the law's text -/
namespace Pu
open PySem
theorem eqv_str {x y : Str} (hx : PyData.strOk x = true) (hy : PyData.strOk y = true) : PyData.eqv (.str x) (.str y) = decide (x = y) := by
  rw [Bool.eq_iff_iff, plain_eqv 0 _ _ (by simpa using hx) (by simpa using hy), decide_eq_true_iff]
  constructor
  · intro h
    injection h
  · intro h
    rw [h]
theorem shaped_str {x : Str} (hx : PyData.strOk x = true) : SeqAt.shaped (.str x) = true := plain_shaped 0 (by simpa using hx)
def K_number (S : Spc) : Prop := ∀ w Q (E : String → Prop), PyData.strOk w = true → (∀ i, numF w = some i → Q (.int i)) → (numF w = none → E "NoText") → S "number" [.str w] Q E
theorem c_number {S : Spc} (h : Has S "number" d_number) : K_number S := by
  intro w Q E hw q e
  apply h
  have sp := size_pos
  refine ⟨rfl, ?_⟩
  simp only [d_number, b_number]
  simp only [List.map_cons, List.map_nil, List.cons_append, List.nil_append, List.length_cons, List.length_nil, Nat.reduceSub, Nat.reduceAdd, List.replicate]
  refine wSs_step fun D₁ hrt hex _ _ hn => ?_
  simp
  refine ⟨by rw [sizeI]; decide, ?_⟩
  rw [rangeD_eq]
  refine wFor_map (fun k : Nat => PyData.int (-9 + (k : Int))) (fun done ρ => ∃ (s1 : Slot), ρ = [.val (.str w), s1] ∧ ∀ k, k ∈ done → w ≠ strI (-9 + (k : Int))) (List.range 19) [] _ ⟨_, rfl, fun _ h => by cases h⟩ ?_ ?_
  · rintro done k r ρ D₂ hd2 ⟨s1, rfl, hno⟩ hrt2 hex2 _ hn2 _
    have hk : k < 19 := by
      have : k ∈ List.range 19 := by rw [show List.range 19 = done ++ k :: r from hd2]; simp
      simpa using this
    have hb : -9 ≤ -9 + (k : Int) ∧ -9 + (k : Int) ≤ 9 := by omega
    have hlg : (-9 + (k : Int)).natAbs.log2 < 1920 := by
      have : ∀ n, n ≤ 9 → Nat.log2 n < 1920 := by decide
      exact this _ (by omega)
    refine wSs_step fun D₃ hrt3 hex3 _ _ hn3 => ?_
    simp
    refine ⟨hlg, ?_⟩
    have ef : Str.ofString (-9 + (k : Int)).repr = strI (-9 + (k : Int)) := rfl
    rw [ef, eqv_str hw (strI_ok hb).ok]
    refine ⟨shaped_str hw, shaped_str (strI_ok hb).ok, ?_⟩
    by_cases he : w = strI (-9 + (k : Int))
    · rw [if_pos (decide_eq_true he)]
      rw [wSs_cons]
      simp
      rw [hrt3, hrt2, hrt]
      exact q _ (by rw [he]; exact numF_strI hb)
    · rw [if_neg (by simpa using he)]
      rw [wSs_nil]
      refine hn3 _ ?_
      rw [wSs_nil]
      refine hn2 _ ⟨_, rfl, fun j hj => ?_⟩
      rcases List.mem_append.mp hj with hj | hj
      · exact hno j hj
      · have : j = k := by simpa using hj
        rw [this]
        exact he
  · rintro ρ ⟨s1, rfl, hno⟩
    refine hn _ ?_
    rw [wSs_cons]
    simp [wS]
    refine e ?_
    cases e1 : numF w with
    | none => rfl
    | some i =>
      obtain ⟨h1, h2, h3⟩ := numF_some e1
      refine absurd ?_ (hno (i + 9).toNat (by simp; omega))
      rw [h1]
      congr 1
      omega
/-- the dims of a meeting -/
theorem isMeeting_wf {ds : List Int} {pay : List (List Int)} (w : WfM ds pay) : isMeeting (mD ds pay) = true := by
  have h1 := w.d2
  have h2 := w.d3
  have h3 := w.p
  rw [rowsL_prod] at h3
  have h4 := w.d
  have h5 := w.w
  simp only [isMeeting, mD, ti, List.length_map, h1, h2, h3, decide_true, Bool.true_and, Bool.and_eq_true, List.all_eq_true, List.mem_map]
  refine ⟨⟨?_, trivial⟩, ?_⟩
  · rintro _ ⟨x, hx, rfl⟩
    have := h4 x hx
    simp [this]
  · rintro _ ⟨r, hr, rfl⟩
    obtain ⟨e1, e2⟩ := h5 r hr
    simp only [ti, isPay, List.length_map, e1, decide_true, Bool.true_and, List.all_eq_true, List.mem_map]
    rintro _ ⟨x, hx, rfl⟩
    have := e2 x hx
    simp [this]
theorem wf_isMeeting {ds : List Int} {pay : List (List Int)} (h : isMeeting (mD ds pay) = true) : WfM ds pay := by
  simp only [isMeeting, mD, ti, List.length_map, Bool.and_eq_true, List.all_eq_true, List.mem_map, decide_eq_true_eq] at h
  obtain ⟨⟨⟨⟨h1, h2⟩, h3⟩, h4⟩, h5⟩ := h
  refine ⟨h1, h2, fun d hd => ?_, by rw [rowsL_prod]; exact h4, fun r hr => ?_⟩
  · have := h3 _ ⟨d, hd, rfl⟩
    simp at this
    exact this
  · have := h5 _ ⟨r, hr, rfl⟩
    simp only [ti, isPay, List.length_map, Bool.and_eq_true, List.all_eq_true, List.mem_map, decide_eq_true_eq] at this
    refine ⟨by have := this.1; omega, fun x hx => ?_⟩
    have := this.2 _ ⟨x, hx, rfl⟩
    simp at this
    exact this
section
variable {ds : List Int} {pay : List (List Int)}
theorem WfM.b9 (w : WfM ds pay) : Pu.b9 ds := fun i hi => by
  have := w.d i hi
  omega
theorem WfM.mt (w : WfM ds pay) : MtOk ds pay := ⟨isMeeting_wf w, w.b9, fun p hp => ⟨(w.w p hp).2, fun e => by
  have := (w.w p hp).1
  have := w.d2
  rw [e] at *
  simp at *
  omega⟩⟩
theorem WfM.n27 (w : WfM ds pay) : pay.length ≤ 27 := by
  have h1 := rowsL_len ds fun d hd' => (w.d d hd').2
  have h2 := p3 w.d3
  have := w.p
  omega
theorem payT_len {p : List Int} (hp : Pu.b9 p) (hl : p.length ≤ 3) : (payT p).length ≤ 9 := by
  unfold payT
  rw [TL.join_eq]
  have h1 := StrLaws.join_length_le cm_ (p.map strI)
  have h2 := StrLaws.sumLen_le (B := 2) (p.map strI) fun y hy => by
    obtain ⟨i, hi, rfl⟩ := List.mem_map.mp hy
    exact (strI_ok (hp i hi)).l2
  have h3 : cm_.length = 1 := by decide +kernel
  rw [h3] at h1
  rw [List.length_map] at h1 h2
  omega
end
theorem log9 {i : Int} (h : -9 ≤ i ∧ i ≤ 9) : i.natAbs.log2 < 1920 := by
  have : ∀ n, n ≤ 9 → Nat.log2 n < 1920 := by decide
  exact this _ (by omega)
theorem joinW_ok {a : Str} (ha : a.length = 1) {ys : List Str} {B : Nat} (hB : ∀ y, y ∈ ys → y.length ≤ B) (hl : ys.length ≤ 100) (hb : B ≤ 1000) {Q : D → Prop} (q : Q (.str (Txt.join a ys))) : joinW a (.list (ys.map .str)) Q := by
  refine ⟨ys, _, rfl, rfl, ?_, q⟩
  have h2 := StrLaws.sumLen_le (B := B) ys hB
  have : ys.length * B ≤ 100 * 1000 := Nat.mul_le_mul hl hb
  rw [ha]
  omega
theorem wsOf_len {ds : List Int} {pay : List (List Int)} (w : WfM ds pay) : ∀ y, y ∈ wsOf ds pay → y.length ≤ 9 := fun y hy => by
  unfold wsOf at hy
  rcases List.mem_append.mp hy with h | h
  · obtain ⟨i, hi, rfl⟩ := List.mem_map.mp h
    have := (strI_ok (w.b9 i hi)).l2
    omega
  · rcases List.mem_cons.mp h with rfl | h
    · decide +kernel
    · obtain ⟨p, hp, rfl⟩ := List.mem_map.mp h
      have h1 := w.w p hp
      have := w.d3
      exact payT_len h1.2 (by omega)
def K_written (S : Spc) : Prop := ∀ ds pay Q E, WfM ds pay → Q (.str (wrT ds pay)) → S "written" [mD ds pay] Q E
theorem c_written {S : Spc} (h : Has S "written" d_written) : K_written S := by
  intro ds pay Q E w q
  apply h
  have sp := size_pos
  have hd := w.b9
  have h27 := w.n27
  have hd3 := w.d3
  refine ⟨rfl, ?_⟩
  simp only [d_written, b_written]
  simp only [List.map_cons, List.map_nil, List.cons_append, List.nil_append, List.length_cons, List.length_nil, Nat.reduceSub, Nat.reduceAdd, List.replicate]
  rw [wSs_cons]
  simp [mD, at_0]
  have h1 : ∀ p : List Int, b9 p → ∀ (K : List D → Prop), K ((p.map strI).map .str) → wCo (fun d K => ∃ i, d = PyData.int i ∧ i.natAbs.log2 < 1920 ∧ K (some (.str (Str.ofString i.repr)))) (p.map .int) [] K := fun p hp K k => by
    refine wCo_map PyData.int (fun i => .str (strI i)) _ _ _ (fun i hi K hK => ⟨i, rfl, log9 (hp i hi), hK⟩) ?_
    rw [List.nil_append]
    rw [List.map_map] at k
    exact k
  refine ⟨_, rfl, h1 ds hd _ ?_⟩
  refine ⟨by simp; omega, ?_⟩
  rw [wSs_cons]
  simp [at_1]
  refine wCo_map ti (fun p => .str (payT p)) _ _ _ (fun p hp K hK => ?_) ?_
  · refine ⟨_, rfl, h1 p (w.w p hp).2 _ ?_⟩
    have hpl := (w.w p hp).1
    exact joinW_ok (B := 2) (by decide +kernel) (fun y hy => by
      obtain ⟨i, hi, rfl⟩ := List.mem_map.mp hy
      exact (strI_ok ((w.w p hp).2 i hi)).l2) (by simp; omega) (by omega) hK
  · rw [List.nil_append]
    refine ⟨by simp; omega, ?_⟩
    have e : (ds.map strI).map PyData.str ++ PyData.str (Str.ofString ":") :: pay.map (fun p => PyData.str (payT p)) = (wsOf ds pay).map .str := by simp [wsOf, cl_]
    rw [← List.map_map, e]
    have hll : (wsOf ds pay).length ≤ 31 := by simp [wsOf]; omega
    exact joinW_ok (B := 9) (by decide +kernel) (fun y hy => wsOf_len w y hy) (by omega) (by omega) q
/-! ### the law's text -/
def catL : List Str → Str
  | [] => Str.ofString ""
  | x :: r => x ++ sp_ ++ catL r
theorem empty_app (x : Str) : Str.ofString "" ++ x = x := by
  have : Str.ofString "" = Str.empty := by decide +kernel
  rw [this, Str.empty_append]
theorem catL_snoc : ∀ (l : List Str) (x : Str), catL (l ++ [x]) = catL l ++ x ++ sp_
  | [], x => by
    show x ++ sp_ ++ Str.ofString "" = Str.ofString "" ++ x ++ sp_
    have : Str.ofString "" = Str.empty := by decide +kernel
    rw [this, Str.append_empty, Str.empty_append]
  | y :: r, x => by
    show y ++ sp_ ++ catL (r ++ [x]) = y ++ sp_ ++ catL r ++ x ++ sp_
    rw [catL_snoc r x]
    simp only [Str.append_assoc]
theorem join_cat : ∀ (l : List Str) (c : Str) (ps : List Str), Str.join sp_ (l ++ c :: ps) = catL l ++ Str.join sp_ (c :: ps)
  | [], c, ps => by
    show Str.join sp_ (c :: ps) = Str.ofString "" ++ Str.join sp_ (c :: ps)
    rw [empty_app]
  | x :: r, c, ps => by
    have e : Str.join sp_ ((x :: r) ++ c :: ps) = x ++ sp_ ++ Str.join sp_ (r ++ c :: ps) := by
      cases r <;> rfl
    rw [e, join_cat r c ps]
    show _ = x ++ sp_ ++ catL r ++ _
    simp only [Str.append_assoc]
theorem join_snoc : ∀ (c : Str) (ps : List Str) (q : Str), Str.join sp_ (c :: (ps ++ [q])) = Str.join sp_ (c :: ps) ++ sp_ ++ q
  | c, [], q => rfl
  | c, p :: r, q => by
    show c ++ sp_ ++ Str.join sp_ (p :: (r ++ [q])) = c ++ sp_ ++ Str.join sp_ (p :: r) ++ sp_ ++ q
    rw [join_snoc p r q]
    simp only [Str.append_assoc]
theorem catL_len : ∀ (l : List Str) (B : Nat), (∀ y, y ∈ l → y.length ≤ B) → (catL l).length ≤ l.length * (B + 1)
  | [], B, _ => by
    have : (catL []).length = 0 := by decide +kernel
    omega
  | x :: r, B, h => by
    have h1 := h x (by simp)
    have h2 := catL_len r B fun y hy => h y (by simp [hy])
    have h3 : sp_.length = 1 := by decide +kernel
    show (x ++ sp_ ++ catL r).length ≤ _
    rw [Str.length_append, Str.length_append, h3, List.length_cons, Nat.add_mul]
    omega
def K_law_text (S : Spc) : Prop := ∀ ds pay Q E, WfM ds pay → Q (.str (wrT ds pay)) → S "_law_text" [mD ds pay] Q E
theorem c__law_text {S : Spc} (h : Has S "_law_text" d__law_text) : K_law_text S := by
  intro ds pay Q E w q
  apply h
  have sp := size_pos
  have sp2 : (100000 : Nat) ≤ sizeLine := by decide
  have hd := w.b9
  have h27 := w.n27
  have hd3 := w.d3
  have hsp : sp_.length = 1 := by decide +kernel
  refine ⟨rfl, ?_⟩
  simp only [d__law_text, b__law_text]
  simp only [List.map_cons, List.map_nil, List.cons_append, List.nil_append, List.length_cons, List.length_nil, Nat.reduceSub, Nat.reduceAdd, List.replicate]
  rw [wSs_cons]
  simp
  refine wSs_step fun D₁ hrt hex _ _ hn => ?_
  simp [mD, at_0]
  refine ⟨_, rfl, ?_⟩
  refine wFor_map PyData.int (fun done ρ => ∃ (s2 s3 s4 : Slot), ρ = [.val (.tuple [ti ds, .tuple (pay.map ti)]), .val (.str (catL (done.map strI))), s2, s3, s4]) ds [] _ ⟨_, _, _, rfl⟩ ?_ ?_
  · rintro done i r ρ D₂ hd2 ⟨s2, s3, s4, rfl⟩ hrt2 hex2 _ hn2 _
    have hi : -9 ≤ i ∧ i ≤ 9 := hd i (by rw [show ds = done ++ i :: r from hd2]; simp)
    have hdl : done.length ≤ 3 := by
      have := congrArg List.length hd2
      simp at this
      omega
    have hcl := catL_len (done.map strI) 2 fun y hy => by
      obtain ⟨j, hj, rfl⟩ := List.mem_map.mp hy
      exact (strI_ok (hd j (by rw [show ds = done ++ i :: r from hd2]; simp [hj]))).l2
    rw [List.length_map] at hcl
    have hil := (strI_ok hi).l2
    have ef : Str.ofString i.repr = strI i := rfl
    rw [wSs_cons]
    simp
    rw [ef, wSs_nil]
    refine ⟨log9 hi, by omega, ?_⟩
    have es : Str.ofString " " = sp_ := rfl
    rw [es]
    refine ⟨by rw [Str.length_append, hsp]; omega, ?_⟩
    rw [← catL_snoc]
    have : done.map strI ++ [strI i] = (done ++ [i]).map strI := by simp
    rw [this]
    exact hn2 _ ⟨_, _, _, rfl⟩
  · rintro ρ ⟨s2, s3, s4, rfl⟩
    refine hn _ ?_
    have hcl := catL_len (ds.map strI) 2 fun y hy => by
      obtain ⟨j, hj, rfl⟩ := List.mem_map.mp hy
      exact (strI_ok (hd j hj)).l2
    rw [List.length_map] at hcl
    rw [wSs_cons]
    simp
    have e1 : (Str.ofString ":").length = 1 := by decide +kernel
    refine ⟨by rw [e1]; omega, ?_⟩
    have hinv : ∀ done : List (List Int), (∀ p, p ∈ done → p ∈ pay) → done.length ≤ 27 → (catL (ds.map strI) ++ Str.join sp_ (cl_ :: done.map payT)).length ≤ 1000 := fun done hm hl => by
      have h1 := StrLaws.join_length_le sp_ (cl_ :: done.map payT)
      have h2 := StrLaws.sumLen_le (B := 9) (cl_ :: done.map payT) fun y hy => by
        rcases List.mem_cons.mp hy with rfl | hy
        · decide +kernel
        · obtain ⟨p, hp, rfl⟩ := List.mem_map.mp hy
          have := w.w p (hm p hp)
          exact payT_len this.2 (by omega)
      rw [hsp] at h1
      rw [List.length_cons, List.length_map] at h1 h2
      rw [Str.length_append]
      omega
    refine wSs_step fun D₂ hrt2 hex2 _ _ hn2 => ?_
    simp [at_1]
    refine wFor_map ti (fun done ρ => ∃ (s2 s3 s4 : Slot), ρ = [.val (.tuple [ti ds, .tuple (pay.map ti)]), .val (.str (catL (ds.map strI) ++ Str.join sp_ (cl_ :: done.map payT))), s2, s3, s4]) pay [] _ ⟨_, _, _, rfl⟩ ?_ ?_
    · rintro done p r ρ D₃ hd3' ⟨s2, s3, s4, rfl⟩ hrt3 hex3 _ hn3 _
      have hp : p ∈ pay := by rw [show pay = done ++ p :: r from hd3']; simp
      have hpw := w.w p hp
      have hdl : done.length ≤ 27 := by
        have := congrArg List.length hd3'
        simp at this
        omega
      have hb := hinv done (fun x hx => by rw [show pay = done ++ p :: r from hd3']; simp [hx]) hdl
      have hpl := payT_len hpw.2 (by omega)
      have es : Str.ofString " " = sp_ := rfl
      rw [wSs_cons]
      simp
      rw [es]
      refine ⟨by rw [hsp]; omega, _, rfl, ?_⟩
      refine wCo_map PyData.int (fun i => .str (strI i)) _ _ _ (fun i hi K hK => ⟨i, rfl, log9 (hpw.2 i hi), hK⟩) ?_
      rw [List.nil_append]
      have em : p.map (fun i => PyData.str (strI i)) = (p.map strI).map .str := by simp
      rw [em]
      refine joinW_ok (B := 2) (by decide +kernel) (fun y hy => by
        obtain ⟨i, hi, rfl⟩ := List.mem_map.mp hy
        exact (strI_ok (hpw.2 i hi)).l2) (by simp; omega) (by omega) ?_
      have ep : Txt.join (Str.ofString ",") (p.map strI) = payT p := rfl
      rw [ep]
      simp
      rw [wSs_nil]
      refine ⟨by rw [Str.length_append, hsp]; omega, ?_⟩
      have e3 : catL (ds.map strI) ++ Str.join sp_ (cl_ :: done.map payT) ++ sp_ ++ payT p = catL (ds.map strI) ++ Str.join sp_ (cl_ :: (done ++ [p]).map payT) := by
        rw [List.map_append, List.map_cons, List.map_nil, join_snoc]
        simp only [Str.append_assoc]
      rw [e3]
      exact hn3 _ ⟨_, _, _, rfl⟩
    · rintro ρ ⟨s2, s3, s4, rfl⟩
      refine hn2 _ ?_
      rw [wSs_cons]
      simp
      rw [← join_cat, ← TL.join_eq]
      exact q
end Pu

/-! read, the law's spoilt -/
namespace Pu
open PySem
theorem cutD_drop {α : Type} (l : List α) (j : Nat) : cutD l (some (j : Int)) none = l.drop j := by
  simp only [cutD, HT.sIx_nat, HT.sIx_none]
  by_cases h : j ≤ l.length
  · rw [Nat.min_eq_left h, List.take_of_length_le (by simp)]
  · rw [Nat.min_eq_right (by omega), Nat.sub_self, List.take_zero, List.drop_eq_nil_of_le (by omega)]
theorem ok_iff {x : Str} : PyData.strOk x = true ↔ ∀ c, c ∈ x.cps.toList → c < 0x110000 := by
  unfold PyData.strOk
  rw [← Array.all_toList, List.all_eq_true]
  simp
theorem part_sub {y : Str} : ∀ {parts : List Str} {w : Str}, w ∈ parts → ∀ c, c ∈ w.cps.toList → c ∈ (Str.join y parts).cps.toList
  | [x], w, h, c, hc => by
    have : w = x := by simpa using h
    subst this
    exact hc
  | x :: z :: r, w, h, c, hc => by
    show c ∈ TL.tl (x ++ y ++ Str.join y (z :: r))
    rw [TL.tl_append, TL.tl_append, List.mem_append, List.mem_append]
    rcases List.mem_cons.mp h with rfl | h
    · exact .inl (.inl hc)
    · exact .inr (part_sub h c hc)
theorem part_len {y : Str} : ∀ {parts : List Str} {w : Str}, w ∈ parts → w.length ≤ (Str.join y parts).length
  | [x], w, h => by
    have : w = x := by simpa using h
    subst this
    exact Nat.le_refl _
  | x :: z :: r, w, h => by
    show _ ≤ (x ++ y ++ Str.join y (z :: r)).length
    rw [Str.length_append, Str.length_append]
    rcases List.mem_cons.mp h with rfl | h
    · omega
    · have := part_len (y := y) h
      omega
theorem parts_len {y : Str} (hy : y.length = 1) : ∀ (parts : List Str), parts.length ≤ (Str.join y parts).length + 1
  | [] => by simp
  | [x] => by simp
  | x :: z :: r => by
    have e : (Str.join y (x :: z :: r)).length = x.length + y.length + (Str.join y (z :: r)).length := by
      show (x ++ y ++ Str.join y (z :: r)).length = _
      rw [Str.length_append, Str.length_append]
    have := parts_len hy (z :: r)
    rw [e, List.length_cons, hy]
    omega
theorem split_ok {z y w : Str} (hz : PyData.strOk z = true) (h : w ∈ Txt.split z y) : PyData.strOk w = true ∧ w.length ≤ z.length := by
  have e := StrLaws.join_split z y
  refine ⟨ok_iff.mpr fun c hc => ok_iff.mp hz c ?_, ?_⟩
  · have := part_sub (y := y) h c hc
    rwa [e] at this
  · have := part_len (y := y) h
    rwa [e] at this
theorem split_n {z y : Str} (hy : y.length = 1) : (Txt.split z y).length ≤ z.length + 1 := by
  have := parts_len hy (Txt.split z y)
  rwa [StrLaws.join_split] at this
theorem wCo_opt {α β : Type} {f : D → (Option D → Prop) → Prop} {R : Prop} (g : α → Option β) (enc : α → D) (dec : β → D) : ∀ (xs : List α) (acc : List D) (Q : List D → Prop),
    (∀ x, x ∈ xs → ∀ K : Option D → Prop, (∀ y, g x = some y → K (some (dec y))) → (g x = none → R) → f (enc x) K) → (∀ ys, optM g xs = some ys → Q (acc ++ ys.map dec)) → (optM g xs = none → R) → wCo f (xs.map enc) acc Q
  | [], acc, Q, _, q, _ => by
    show Q acc
    simpa using q [] rfl
  | x :: r, acc, Q, h, q, e => h x (by simp) _ (fun y hy => wCo_opt g enc dec r _ Q (fun z hz => h z (by simp [hz])) (fun ys hys => by
      have := q (y :: ys) (by simp only [optM]; rw [hy, hys])
      simpa using this) fun hn => e (by simp only [optM]; rw [hy, hn])) fun hn => e (by simp only [optM]; rw [hn])
theorem optM_snoc {α β : Type} {g : α → Option β} : ∀ {l : List α} {ys : List β} {x : α} {y : β}, optM g l = some ys → g x = some y → optM g (l ++ [x]) = some (ys ++ [y])
  | [], ys, x, y, h, hx => by
    cases h
    simp only [List.nil_append, optM]
    rw [hx]
  | a :: l, ys, x, y, h, hx => by
    simp only [optM] at h
    simp only [List.cons_append, optM]
    split at h
    · cases h
    · rename_i b hb
      split at h
      · cases h
      · rename_i zs hzs
        cases h
        rw [optM_snoc hzs hx]
        rfl
theorem optM_none {α β : Type} {g : α → Option β} {x : α} (hx : g x = none) : ∀ {l : List α}, x ∈ l → optM g l = none
  | [], h => by cases h
  | a :: l, h => by
    simp only [optM]
    rcases List.mem_cons.mp h with rfl | h
    · rw [hx]
    · cases g a with
      | none => rfl
      | some b => rw [optM_none hx h]
theorem optM_len {α β : Type} {g : α → Option β} : ∀ {l : List α} {ys : List β}, optM g l = some ys → ys.length = l.length
  | [], ys, h => by
    cases h
    rfl
  | a :: l, ys, h => by
    simp only [optM] at h
    split at h
    · cases h
    · split at h
      · cases h
      · rename_i zs hzs
        cases h
        rw [List.length_cons, List.length_cons, optM_len hzs]
theorem any_str {ws : List Str} {x : Str} (hw : ∀ w, w ∈ ws → PyData.strOk w = true) (hx : PyData.strOk x = true) : ((ws.map PyData.str).any fun z => PyData.eqv z (.str x)) = decide (x ∈ ws) := by
  rw [Bool.eq_iff_iff, List.any_eq_true, decide_eq_true_iff]
  constructor
  · rintro ⟨z, hz, e⟩
    obtain ⟨w, hw', rfl⟩ := List.mem_map.mp hz
    rw [eqv_str (hw w hw') hx] at e
    rw [← of_decide_eq_true e]
    exact hw'
  · intro h
    exact ⟨_, List.mem_map.mpr ⟨x, h, rfl⟩, by rw [eqv_str hx hx]; simp⟩
theorem shaped_strs {ws : List Str} (hw : ∀ w, w ∈ ws → PyData.strOk w = true) : SeqAt.shaped (.list (ws.map .str)) = true := plain_shaped 1 (by simpa [List.all_map, Function.comp_def] using hw)
theorem idx_str {ws : List Str} {x : Str} (hw : ∀ w, w ∈ ws → PyData.strOk w = true) (h : x ∈ ws) {Q : D → Prop} (q : Q (.int (ws.idxOf x : Nat))) : idxW (.list (ws.map .str)) (ws.map .str) (.str x) Q := by
  refine ⟨ws.idxOf x, .str x, shaped_strs hw, shaped_str (hw x h), ?_, ?_, ?_, q⟩
  · rw [List.getElem?_map, List.getElem?_eq_getElem (List.idxOf_lt_length_iff.mpr h), List.getElem_idxOf]
    rfl
  · rw [eqv_str (hw x h) (hw x h)]
    simp
  · intro m z hm hz
    rw [List.getElem?_map] at hz
    have hlt : m < ws.length := Nat.lt_trans hm (List.idxOf_lt_length_iff.mpr h)
    rw [List.getElem?_eq_getElem hlt] at hz
    cases hz
    rw [eqv_str (hw _ (List.getElem_mem hlt)) (hw x h)]
    refine decide_eq_false fun e => ?_
    have := List.not_of_lt_findIdx (show m < ws.findIdx (· == x) from hm)
    simp [e] at this
theorem cut_min {α : Type} (xs : List α) (k : Nat) : cutD xs none (some (k : Int)) = xs.take k := by
  have h1 : HT.sIx xs.length xs.length (some (k : Int)) = min k xs.length := HT.sIx_nat _ _ _
  simp only [cutD, h1, HT.sIx_none, List.drop_zero, Nat.sub_zero]
  rw [List.take_eq_take_iff]
  omega
theorem wr_ok {ds : List Int} {pay : List (List Int)} (w : WfM ds pay) : PyData.strOk (wrT ds pay) = true := by
  have ha : ∀ (y : Str) (parts : List Str), PyData.strOk y = true → (∀ p, p ∈ parts → PyData.strOk p = true) → PyData.strOk (Str.join y parts) = true := by
    intro y parts hy
    induction parts with
    | nil => intro _; exact ok_iff.mpr fun c hc => by simp [Str.join, Str.empty] at hc
    | cons x r ih =>
      intro h
      cases r with
      | nil => exact h x (by simp)
      | cons z r =>
        refine ok_iff.mpr fun c hc => ?_
        have hc : c ∈ TL.tl (x ++ y ++ Str.join y (z :: r)) := hc
        rw [TL.tl_append, TL.tl_append, List.mem_append, List.mem_append] at hc
        rcases hc with (h1 | h1) | h1
        · exact ok_iff.mp (h x (by simp)) c h1
        · exact ok_iff.mp hy c h1
        · exact ok_iff.mp (ih fun p hp => h p (by simp [hp])) c h1
  unfold wrT
  rw [TL.join_eq]
  refine ha _ _ (by decide +kernel) fun y hy => ?_
  unfold wsOf at hy
  rcases List.mem_append.mp hy with h | h
  · obtain ⟨i, hi, rfl⟩ := List.mem_map.mp h
    exact (strI_ok (w.b9 i hi)).ok
  · rcases List.mem_cons.mp h with rfl | h
    · decide +kernel
    · obtain ⟨p, hp, rfl⟩ := List.mem_map.mp h
      unfold payT
      rw [TL.join_eq]
      refine ha _ _ (by decide +kernel) fun y hy => ?_
      obtain ⟨i, hi, rfl⟩ := List.mem_map.mp hy
      exact (strI_ok ((w.w p hp).2 i hi)).ok
def K_read (S : Spc) : Prop := ∀ z Q (E : String → Prop), PyData.strOk z = true → z.length ≤ 1000 → (∀ ds pay, readF z = some (ds, pay) → Q (mD ds pay)) → (readF z = none → E "NoText") → S "read" [.str z] Q E
theorem c_read {S : Spc} (h : Has S "read" d_read) (hn_ : K_number S) (hm : K_is_meeting S) (hwr : K_written S) : K_read S := by
  intro z Q E hz hl q e
  apply h
  have sp := size_pos
  have sp2 : (100000 : Nat) ≤ sizeLine := by decide
  refine ⟨rfl, ?_⟩
  simp only [d_read, b_read]
  simp only [List.map_cons, List.map_nil, List.cons_append, List.nil_append, List.length_cons, List.length_nil, Nat.reduceSub, Nat.reduceAdd, List.replicate]
  have ef : readF z = if cl_ ∈ Txt.split z sp_ then
    match optM numF ((Txt.split z sp_).take (colP (Txt.split z sp_))) with
    | none => none
    | some ds => match optM payF ((Txt.split z sp_).drop (colP (Txt.split z sp_) + 1)) with
      | none => none
      | some pay => if isMeeting (mD ds pay) = true ∧ wrT ds pay = z then some (ds, pay) else none
    else none := rfl
  have hw := fun w (h : w ∈ Txt.split z sp_) => split_ok hz h
  have hnn := split_n (z := z) (y := sp_) (by decide +kernel)
  rw [wSs_cons]
  simp
  refine ⟨by decide +kernel, by omega, ?_⟩
  have es : Str.ofString " " = sp_ := rfl
  have ec : Str.ofString ":" = cl_ := rfl
  rw [es]
  generalize Txt.split z sp_ = ws at *
  have hwo := fun w (h : w ∈ ws) => (hw w h).1
  have hclo : PyData.strOk cl_ = true := by decide +kernel
  refine wSs_step fun D₁ hrt hex _ _ hn => ?_
  simp [-List.any_map, -List.any_eq_true, -List.any_eq_false]
  rw [ec, any_str hwo hclo]
  refine ⟨shaped_str hclo, shaped_strs hwo, ?_⟩
  by_cases hc : cl_ ∈ ws
  · simp [hc]
    rw [wSs_nil]
    refine hn _ ?_
    rw [if_pos hc] at ef
    rw [wSs_cons]
    simp
    rw [ec]
    refine idx_str hwo hc ?_
    have ecol : List.idxOf cl_ ws = colP ws := rfl
    rw [ecol]
    generalize colP ws = k at *
    rw [wSs_cons]
    simp
    rw [cut_min, ← List.map_take]
    refine wCo_opt (R := E "NoText") numF PyData.str PyData.int _ _ _ (fun x hx K h1 h2 => ?_) (fun ds hds => ?_) fun hno => ?_
    · exact hn_ x _ _ (hwo x (List.mem_of_mem_take hx)) (fun i hi => h1 i hi) fun hi => h2 hi
    · rw [List.nil_append]
      have ed : PyData.tuple (ds.map .int) = ti ds := rfl
      rw [ed]
      rw [hds] at ef
      simp only at ef
      rw [wSs_cons]
      simp
      refine wSs_step fun D₂ hrt2 hex2 _ _ hn2 => ?_
      simp
      have ek : ((k : Int) + 1) = ((k + 1 : Nat) : Int) := by omega
      rw [ek, cutD_drop, ← List.map_drop]
      refine wFor_map PyData.str (fun done ρ => ∃ (acc : List (List Int)) (s3 s6 : Slot), ρ = [.val (.str z), .val (.list (ws.map .str)), .val (.int (k : Int)), s3, .val (ti ds), .own (acc.map ti), s6, .un] ∧ optM payF done = some acc) (ws.drop (k + 1)) [] _ ⟨[], _, _, rfl, rfl⟩ ?_ ?_
      · rintro done w r ρ D₃ hd3 ⟨acc, s3, s6, rfl, hacc⟩ hrt3 hex3 _ hn3 _
        have hwm : w ∈ ws.drop (k + 1) := by rw [show ws.drop (k + 1) = done ++ w :: r from hd3]; simp
        have hww := hw w (List.mem_of_mem_drop hwm)
        have hal : acc.length ≤ 2000 := by
          have h1 := optM_len hacc
          have h2 := congrArg List.length hd3
          simp at h2
          omega
        rw [wSs_cons]
        simp
        refine ⟨by decide +kernel, by omega, ?_⟩
        have em : Str.ofString "," = cm_ := rfl
        rw [em]
        refine wCo_opt (R := E "NoText") numF PyData.str PyData.int _ _ _ (fun x hx K h1 h2 => ?_) (fun p hp => ?_) fun hno => ?_
        · refine hn_ x _ _ (split_ok hww.1 hx).1 (fun i hi => h1 i hi) fun hi => ?_
          rw [hex3, hex2]
          exact h2 hi
        · rw [List.nil_append, wSs_nil]
          refine ⟨by omega, ?_⟩
          have e3 : acc.map ti ++ [PyData.tuple (p.map .int)] = (acc ++ [p]).map ti := by simp [ti]
          rw [e3]
          exact hn3 _ ⟨acc ++ [p], _, _, rfl, optM_snoc hacc hp⟩
        · refine e ?_
          rw [ef, optM_none (show payF w = none from hno) hwm]
      · rintro ρ ⟨acc, s3, s6, rfl, hacc⟩
        refine hn2 _ ?_
        rw [List.nil_append] at hacc
        rw [hacc] at ef
        simp only at ef
        rw [wSs_cons]
        simp
        have em : PyData.tuple [ti ds, .tuple (acc.map ti)] = mD ds acc := rfl
        rw [em]
        refine wSs_step fun D₃ hrt3 hex3 _ _ hn3 => ?_
        simp
        refine hm _ _ _ ?_
        cases hmi : isMeeting (mD ds acc) with
        | false =>
          simp
          rw [wSs_cons]
          simp [wS]
          rw [hex3]
          refine e ?_
          rw [ef, if_neg (by rw [hmi]; simp)]
        | true =>
          have wf := wf_isMeeting hmi
          simp
          refine hwr ds acc _ _ wf ?_
          rw [eqv_str (wr_ok wf) hz]
          refine ⟨shaped_str (wr_ok wf), shaped_str hz, ?_⟩
          by_cases he : wrT ds acc = z
          · refine .inl ⟨decide_eq_true he, ?_⟩
            rw [wSs_nil]
            refine hn3 _ ?_
            rw [wSs_cons]
            simp
            exact q ds acc (by rw [ef, if_pos ⟨hmi, he⟩])
          · refine .inr ⟨decide_eq_false he, ?_⟩
            rw [wSs_cons]
            simp [wS]
            rw [hex3]
            refine e ?_
            rw [ef, if_neg fun h => he h.2]
    · refine e ?_
      rw [ef, hno]
  · simp [hc]
    rw [wSs_cons]
    simp [wS, hex]
    exact e (by rw [ef, if_neg hc])
theorem cut_ok {z : Str} (hz : PyData.strOk z = true) (lo hi : Option Int) : PyData.strOk (L2.cutS z lo hi) = true ∧ (L2.cutS z lo hi).length ≤ z.length := by
  refine ⟨ok_iff.mpr fun c hc => ok_iff.mp hz c ?_, L2.cutS_length z lo hi⟩
  exact List.mem_of_mem_drop (List.mem_of_mem_take hc)
theorem app_ok' {x y : Str} (hx : PyData.strOk x = true) (hy : PyData.strOk y = true) : PyData.strOk (x ++ y) = true := ok_iff.mpr fun c hc => by
  have hc : c ∈ TL.tl (x ++ y) := hc
  rw [TL.tl_append, List.mem_append] at hc
  rcases hc with h | h
  · exact ok_iff.mp hx c h
  · exact ok_iff.mp hy c h
def K_law_spoilt (S : Spc) : Prop := ∀ z (c : Int) Q (E : String → Prop), PyData.strOk z = true → z.length ≤ 320 → (∀ z', PyData.strOk z' = true → z'.length ≤ 1000 → Q (.str z')) → S "_law_spoilt" [.str z, .int c] Q E
theorem c__law_spoilt {S : Spc} (h : Has S "_law_spoilt" d__law_spoilt) : K_law_spoilt S := by
  intro z c Q E hz hl q
  apply h
  have sp := size_pos
  have sp2 : (100000 : Nat) ≤ sizeLine := by decide
  refine ⟨rfl, ?_⟩
  simp only [d__law_spoilt, b__law_spoilt]
  simp only [List.map_cons, List.map_nil, List.cons_append, List.nil_append, List.length_cons, List.length_nil, Nat.reduceSub, Nat.reduceAdd, List.replicate]
  rw [wSs_cons]
  simp
  refine ⟨by simp [L2.CDivW]; decide, by omega, ?_⟩
  generalize c / 4 % ((z.length : Int) + 1) = at_
  rw [wSs_cons]
  simp
  have hsg : PyData.strOk (Str.ofString "0129:,- +a") = true := by decide +kernel
  have hsl : (Str.ofString "0129:,- +a").length = 10 := by decide +kernel
  have hlt : (c / 512 % 10).toNat < (Str.ofString "0129:,- +a").cps.toList.length := by
    have : (Str.ofString "0129:,- +a").cps.toList.length = 10 := by decide +kernel
    omega
  have hch := ok_iff.mp hsg _ (List.getElem_mem hlt)
  refine ⟨by simp [L2.CDivW]; decide, by rw [hsl]; omega, _, at_of (by omega) (List.getElem?_eq_getElem hlt), ?_⟩
  generalize (Str.ofString "0129:,- +a").cps.toList[(c / 512 % 10).toNat] = ch at hch
  have hco : PyData.strOk ⟨#[ch]⟩ = true := ok_iff.mpr fun d hd => by
    have : d = ch := by simpa using hd
    rw [this]
    exact hch
  have hcl : (⟨#[ch]⟩ : Str).length = 1 := rfl
  have hcut := fun lo hi => cut_ok hz lo hi
  refine wSs_step fun D₁ hrt hex _ _ hn => ?_
  simp
  have e2 : ∀ a b a' b', PyData.strOk (L2.cutS z a b ++ L2.cutS z a' b') = true ∧ (L2.cutS z a b ++ L2.cutS z a' b').length ≤ 640 := fun a b a' b' => ⟨app_ok' (hcut a b).1 (hcut a' b').1, by
    have h1 := (hcut a b).2
    have h2 := (hcut a' b').2
    rw [Str.length_append]
    omega⟩
  have e3 : ∀ a b, PyData.strOk (L2.cutS z a b ++ ⟨#[ch]⟩) = true ∧ (L2.cutS z a b ++ ⟨#[ch]⟩).length ≤ 321 := fun a b => ⟨app_ok' (hcut a b).1 hco, by
    have h1 := (hcut a b).2
    rw [Str.length_append, hcl]
    omega⟩
  by_cases h0 : c % 4 = 0
  · rw [if_pos h0, wSs_cons]
    simp
    have g := e2 none (some at_) (some (at_ + 1)) none
    have g3 := g.2
    rw [Str.length_append] at g3
    refine ⟨by omega, by omega, ?_⟩
    show (L2.cutS z none (some at_)).length + (L2.cutS z (some (at_ + 1)) none).length ≤ sizeLine ∧ D₁.rt _
    refine ⟨by omega, ?_⟩
    rw [hrt]
    exact q _ g.1 (by have := g.2; omega)
  · rw [if_neg h0, wSs_nil]
    refine hn _ ?_
    refine wSs_step fun D₂ hrt2 hex2 _ _ hn2 => ?_
    simp
    by_cases h1 : c % 4 = 1
    · rw [if_pos h1, wSs_cons]
      simp
      have g1 := e2 none (some at_) (some at_) (some (at_ + 1))
      have g2 := hcut (some at_) none
      have g3 := g1.2
      rw [Str.length_append] at g3
      refine ⟨by omega, by omega, by omega, ?_⟩
      show z.length ≤ sizeLine ∧ addW _ _ _
      refine ⟨by omega, ?_⟩
      show (L2.cutS z none (some at_) ++ L2.cutS z (some at_) (some (at_ + 1))).length + (L2.cutS z (some at_) none).length ≤ sizeLine ∧ D₂.rt _
      refine ⟨by have := g1.2; have := g2.2; omega, ?_⟩
      rw [hrt2]
      exact q _ (app_ok' g1.1 g2.1) (by have := g1.2; rw [Str.length_append]; omega)
    · rw [if_neg h1, wSs_nil]
      refine hn2 _ ?_
      rw [wSs_cons]
      simp
      have g1 := e3 none (some at_)
      have g2 := hcut (some (at_ + c % 4 - 2)) none
      have g3 := g1.2
      rw [Str.length_append] at g3
      refine ⟨by omega, by omega, by omega, ?_⟩
      show (L2.cutS z none (some at_) ++ ⟨#[ch]⟩).length + (L2.cutS z (some (at_ + c % 4 - 2)) none).length ≤ sizeLine ∧ Q _
      refine ⟨by have := g1.2; have := g2.2; omega, ?_⟩
      exact q _ (app_ok' g1.1 g2.1) (by have := g1.2; rw [Str.length_append]; omega)
def K_law_read (S : Spc) : Prop := ∀ z Q (E : String → Prop), PyData.strOk z = true → z.length ≤ 1000 → (∀ ds pay, readF z = some (ds, pay) → Q (mD ds pay)) → (readF z = none → Q .none) → S "_law_read" [.str z] Q E
theorem c__law_read {S : Spc} (h : Has S "_law_read" d__law_read) (hr : K_read S) : K_law_read S := by
  intro z Q E hz hl q e
  apply h
  refine ⟨rfl, ?_⟩
  simp only [d__law_read, b__law_read]
  simp only [List.map_cons, List.map_nil, List.cons_append, List.nil_append, List.length_cons, List.length_nil, Nat.reduceSub, Nat.reduceAdd, List.replicate]
  rw [wSs_cons]
  simp
  refine wSs_step fun D₁ hrt hex _ _ hn => ?_
  simp [hrt, hex]
  rw [wSs_cons]
  simp
  refine hr z _ _ hz hl (fun ds pay hf => ?_) fun hf => ?_
  · show D₁.nx _
    refine hn _ ?_
    rw [wSs_cons]
    simp
    exact q ds pay hf
  · simp
    refine hn _ ?_
    rw [wSs_cons]
    simp
    exact e hf
end Pu

/-! k02: the law -/
namespace Pu
open PySem
def b_law : PSs := (.cons (.for_ (.one 1) (.sq (.x (.fr (.sl (.x (.v 0)) .no (.so (.i 6)))))) (.cons (.set 2 (.call "_law_meeting" (.cons (.v 1) .nil))) (.cons (.set 3 (.call "_law_text" (.cons (.v 2) .nil))) (.cons (.ite (.bool false (.cons (.e (.eq true (.x (.call "written" (.cons (.v 2) .nil))) (.x (.v 3)))) (.cons (.e (.eq true (.x (.call "read" (.cons (.v 3) .nil))) (.x (.v 2)))) .nil))) (.cons (.ret (.b false)) .nil) .nil) (.cons (.set 4 (.call "_law_spoilt" (.cons (.v 3) (.cons (.fd (.v 1) (.i 5)) .nil)))) (.cons (.set 5 (.call "_law_read" (.cons (.v 4) .nil))) (.cons (.ite (.bool true (.cons (.e (.isN true (.v 5))) (.cons (.bool false (.cons (.not (.tr (.x (.call "is_meeting" (.cons (.v 5) .nil))))) (.cons (.e (.eq true (.x (.call "_law_text" (.cons (.v 5) .nil))) (.x (.v 4)))) .nil))) .nil))) (.cons (.ret (.b false)) .nil) .nil) .nil))))))) (.cons (.own 6 (.lst (.cons (.s "") (.cons (.s ":") (.cons (.s "1 1") (.cons (.s "1 1 :") (.cons (.s "1 1 0,0") (.cons (.s "1 1 : 0,0 ") (.cons (.s " 1 1 : 0,0") (.cons (.s "1 1 : 0,0 0,0") .nil)))))))))) (.cons (.for_ (.one 4) (.sq (.x (.fr (.cat (.b 6) (.f (.lst (.cons (.s "1 1 : 0") (.cons (.s "1 1 : -0,0") .nil)))))))) (.cons (.ite (.e (.isN true (.call "_law_read" (.cons (.v 4) .nil)))) (.cons (.ret (.b false)) .nil) .nil) .nil)) (.cons (.ret (.eq false (.x (.call "read" (.cons (.s "1 1 : 0,-9") .nil))) (.x (.tup (.cons (.tup (.cons (.i 1) (.cons (.i 1) .nil))) (.cons (.tup (.cons (.tup (.cons (.i 0) (.cons (.neg (.i 9)) .nil))) .nil)) .nil)))))) .nil))))
def d_law : Df := ⟨1, 7, b_law⟩
theorem plain_mD (ds : List Int) (pay : List (List Int)) : plain 3 (mD ds pay) = true := by simp [mD, List.all_map, Function.comp_def]
theorem wr_len {ds : List Int} {pay : List (List Int)} (w : WfM ds pay) : (wrT ds pay).length ≤ 320 := by
  unfold wrT
  rw [TL.join_eq]
  have h1 := StrLaws.join_length_le sp_ (wsOf ds pay)
  have h2 : (ds.map strI).length = ds.length := by simp
  have h27 := w.n27
  have hd3 := w.d3
  have hl : (wsOf ds pay).length = ds.length + 1 + pay.length := by simp [wsOf]; omega
  have h3 := StrLaws.sumLen_le (B := 9) (wsOf ds pay) fun y hy => wsOf_len w y hy
  have h4 : sp_.length = 1 := by decide +kernel
  rw [h4] at h1
  omega
def badL : List String := ["", ":", "1 1", "1 1 :", "1 1 0,0", "1 1 : 0,0 ", " 1 1 : 0,0", "1 1 : 0,0 0,0", "1 1 : 0", "1 1 : -0,0"]
theorem bad_ok : ∀ s, s ∈ badL → readF (Str.ofString s) = none ∧ PyData.strOk (Str.ofString s) = true ∧ (Str.ofString s).length ≤ 1000 := fun s hs => by
  have h1 := List.all_eq_true.mp bad_all s hs
  have h2 : badL.all (fun s => PyData.strOk (Str.ofString s) && decide ((Str.ofString s).length ≤ 1000)) = true := by decide +kernel
  have h3 := List.all_eq_true.mp h2 s hs
  simp only [Bool.and_eq_true, decide_eq_true_eq] at h3
  exact ⟨by simpa using h1, h3⟩
theorem wFor_ex {α : Type} {f : D → Dn → Ev → Prop} {D₀ : Dn} (enc : α → D) (xs : List α) (ρ : Ev) (P : Nat → Ev → Prop) (h0 : P 0 ρ)
    (st : ∀ k x ρ (D₁ : Dn), k < xs.length → x ∈ xs → P k ρ → (∀ ρ', P (k + 1) ρ' → D₁.nx ρ') → f (enc x) D₁ ρ) (e : ∀ ρ, P xs.length ρ → D₀.nx ρ) : wFor f D₀ (xs.map enc) ρ := by
  refine wFor_map enc (fun done ρ => P done.length ρ) xs [] ρ h0 (fun d x r ρ D₁ hd hp _ _ _ hn _ => ?_) e
  refine st d.length x ρ D₁ ?_ ?_ hp fun ρ' hp' => hn ρ' (by simpa using hp')
  · rw [show xs = d ++ x :: r from hd]
    simp
  · rw [show xs = d ++ x :: r from hd]
    simp
def K_law (S : Spc) : Prop := ∀ ns : List Int, ns.length ≤ 63 → S "law" [.list (ns.map .int)] (fun d => d = .bool true) (fun _ => False)
theorem c_law {S : Spc} (h : Has S "law" d_law) (hmeet : K_law_meeting S) (hlt : K_law_text S) (hwr : K_written S) (hrd : K_read S) (hsp : K_law_spoilt S) (hlr : K_law_read S) (him : K_is_meeting S) : K_law S := by
  intro ns hns
  apply h
  have sp := size_pos
  refine ⟨rfl, ?_⟩
  simp only [d_law, b_law]
  simp only [List.map_cons, List.map_nil, List.cons_append, List.nil_append, List.length_cons, List.length_nil, Nat.reduceSub, Nat.reduceAdd, List.replicate]
  refine wSs_step fun D₁ hrt hex _ _ hn => ?_
  simp
  have e6 : cutD (ns.map PyData.int) none (some 6) = (ns.take 6).map .int := by
    have := cut_min (ns.map PyData.int) 6
    rw [← List.map_take] at this
    exact this
  rw [e6]
  refine wFor_ex PyData.int _ _ (fun n ρ => ∃ (s1 s2 s3 s4 s5 s6 : Slot), ρ = [.val (.list (ns.map .int)), s1, s2, s3, s4, s5, s6]) ⟨_, _, _, _, _, _, rfl⟩ ?_ ?_
  · rintro n c ρ D₂ _ _ ⟨s1, s2, s3, s4, s5, s6, rfl⟩ hn2
    rw [wSs_cons]
    simp
    refine hmeet _ _ _ fun ds pay wm _ => ?_
    have hok := wr_ok wm
    have hln := wr_len wm
    rw [wSs_cons]
    simp
    refine hlt ds pay _ _ wm ?_
    refine wSs_step fun D₃ hrt3 hex3 _ _ hn3 => ?_
    simp
    refine hwr ds pay _ _ wm ?_
    rw [eqv_str hok hok]
    simp
    refine ⟨shaped_str hok, ?_⟩
    refine hrd _ _ _ hok (by omega) (fun ds' pay' hf => ?_) fun hf => ?_
    · rw [read_wr wm.mt] at hf
      cases hf
      refine ⟨plain_shaped 3 (plain_mD _ _), ?_⟩
      refine ⟨plain_shaped 3 (plain_mD _ _), .inl ⟨(plain_eqv 3 _ _ (plain_mD _ _) (plain_mD _ _)).mpr rfl, ?_⟩⟩
      rw [wSs_nil]
      refine hn3 _ ?_
      rw [wSs_cons]
      simp
      refine ⟨by simp [L2.CDivW]; decide, ?_⟩
      refine hsp _ _ _ _ hok hln fun z hz hzl => ?_
      rw [wSs_cons]
      simp
      refine hlr z _ _ hz hzl (fun ds' pay' hf => ?_) fun hf => ?_
      · obtain ⟨h1, h2, _⟩ := readF_some hf
        have wm' := wf_isMeeting h1
        refine wSs_step fun D₄ hrt4 hex4 _ _ hn4 => ?_
        simp [mD]
        refine him _ _ _ ?_
        have em : PyData.tuple [ti ds', .tuple (pay'.map ti)] = mD ds' pay' := rfl
        rw [em, h1]
        simp
        refine hlt ds' pay' _ _ wm' ?_
        rw [h2, eqv_str hz hz]
        simp
        refine ⟨shaped_str hz, ?_⟩
        rw [wSs_nil]
        refine hn4 _ ?_
        rw [wSs_nil]
        exact hn2 _ ⟨_, _, _, _, _, _, rfl⟩
      · refine wSs_step fun D₄ hrt4 hex4 _ _ hn4 => ?_
        simp
        rw [wSs_nil]
        refine hn4 _ ?_
        rw [wSs_nil]
        exact hn2 _ ⟨_, _, _, _, _, _, rfl⟩
    · rw [read_wr wm.mt] at hf
      cases hf
  · rintro ρ ⟨s1, s2, s3, s4, s5, s6, rfl⟩
    refine hn _ ?_
    rw [wSs_cons]
    simp
    refine wSs_step fun D₂ hrt2 hex2 _ _ hn2 => ?_
    simp
    have e8 : [PyData.str (Str.ofString ""), .str (Str.ofString ":"), .str (Str.ofString "1 1"), .str (Str.ofString "1 1 :"), .str (Str.ofString "1 1 0,0"), .str (Str.ofString "1 1 : 0,0 "), .str (Str.ofString " 1 1 : 0,0"), .str (Str.ofString "1 1 : 0,0 0,0"), .str (Str.ofString "1 1 : 0"), .str (Str.ofString "1 1 : -0,0")] = badL.map fun s => PyData.str (Str.ofString s) := rfl
    refine ⟨by omega, ?_⟩
    rw [e8]
    refine wFor_ex (fun s : String => PyData.str (Str.ofString s)) _ _ (fun n ρ => ∃ (s1 s2 s3 s4 s5 s6 : Slot), ρ = [.val (.list (ns.map .int)), s1, s2, s3, s4, s5, s6]) ⟨_, _, _, _, _, _, rfl⟩ ?_ ?_
    · rintro n s ρ D₃ _ hs ⟨s1, s2, s3, s4, s5, s6, rfl⟩ hn3
      obtain ⟨b1, b2, b3⟩ := bad_ok s hs
      refine wSs_step fun D₄ hrt4 hex4 _ _ hn4 => ?_
      simp
      refine hlr _ _ _ b2 b3 (fun ds pay hf => ?_) fun hf => ?_
      · rw [b1] at hf
        cases hf
      · simp
        rw [wSs_nil]
        refine hn4 _ ?_
        rw [wSs_nil]
        exact hn3 _ ⟨_, _, _, _, _, _, rfl⟩
    · rintro ρ ⟨s1, s2, s3, s4, s5, s6, rfl⟩
      refine hn2 _ ?_
      rw [wSs_cons]
      simp
      refine hrd _ _ _ (by decide +kernel) (by decide +kernel) (fun ds pay hf => ?_) fun hf => ?_
      · rw [good_one] at hf
        cases hf
        have eg : PyData.tuple [.tuple [.int 1, .int 1], .tuple [.tuple [.int 0, .int (-9)]]] = mD [1, 1] [[0, -9]] := rfl
        rw [eg]
        exact ⟨plain_shaped 3 (plain_mD _ _), plain_shaped 3 (plain_mD _ _), (plain_eqv 3 _ _ (plain_mD _ _) (plain_mD _ _)).mpr rfl⟩
      · rw [good_one] at hf
        cases hf
end Pu

/-! the table and the end -/
namespace Pu
open PySem PySem.Spec L2
def cls_ : String → Option Addr := fun _ => none
def top (i : Nat) : Stmt := PySem.Challenge.pw_pactkeep_k02_whole_texts.main.body.getD i (.Pass ⟨0, 0, 0, 0⟩)
def t_is_number : TD := ⟨"is_number", top 5, [Str.ofString "thing", Str.ofString "least", Str.ofString "most"], [Str.ofString "thing", Str.ofString "least", Str.ofString "most"], 2, [], d_is_number⟩
def t_rows_of : TD := ⟨"rows_of", top 6, [Str.ofString "deeds"], [Str.ofString "deeds", Str.ofString "found", Str.ofString "many", Str.ofString "more", Str.ofString "row", Str.ofString "deed"], 2, [], d_rows_of⟩
def t_is_pay : TD := ⟨"is_pay", top 7, [Str.ofString "thing", Str.ofString "hands"], [Str.ofString "thing", Str.ofString "hands", Str.ofString "one"], 3, ["is_number"], d_is_pay⟩
def t_is_meeting : TD := ⟨"is_meeting", top 8, [Str.ofString "thing"], [Str.ofString "thing", Str.ofString "deeds", Str.ofString "pay", Str.ofString "one"], 4, ["is_number", "rows_of", "is_pay"], d_is_meeting⟩
def t_written : TD := ⟨"written", top 10, [Str.ofString "meeting"], [Str.ofString "meeting", Str.ofString "many", Str.ofString "words", Str.ofString "pay", Str.ofString "one"], 2, [], d_written⟩
def t_number : TD := ⟨"number", top 12, [Str.ofString "word"], [Str.ofString "word", Str.ofString "one"], 2, [], d_number⟩
def t_read : TD := ⟨"read", top 13, [Str.ofString "text"], [Str.ofString "text", Str.ofString "words", Str.ofString "at", Str.ofString "word", Str.ofString "deeds", Str.ofString "pay", Str.ofString "part", Str.ofString "found"], 5, ["number", "is_meeting", "written"], d_read⟩
def t__law_mix : TD := ⟨"_law_mix", top 16, [Str.ofString "_law_cell_here", Str.ofString "_law_prime", Str.ofString "_law_many"], [Str.ofString "_law_cell_here", Str.ofString "_law_prime", Str.ofString "_law_many"], 2, [], d__law_mix⟩
def t__law_rows : TD := ⟨"_law_rows", top 17, [Str.ofString "_law_deeds"], [Str.ofString "_law_deeds", Str.ofString "_law_found", Str.ofString "_law_many", Str.ofString "_law_more", Str.ofString "_law_row", Str.ofString "_law_deed"], 2, [], d__law_rows⟩
def t__law_meeting : TD := ⟨"_law_meeting", top 18, [Str.ofString "_law_cell_here"], [Str.ofString "_law_cell_here", Str.ofString "_law_k", Str.ofString "_law_deeds", Str.ofString "_law_wide", Str.ofString "_law_pay", Str.ofString "_law_seed", Str.ofString "_law_hand", Str.ofString "_law_one", Str.ofString "_law_few"], 3, ["_law_mix", "_law_rows"], d__law_meeting⟩
def t__law_text : TD := ⟨"_law_text", top 20, [Str.ofString "_law_meeting_here"], [Str.ofString "_law_meeting_here", Str.ofString "_law_text_here", Str.ofString "_law_many", Str.ofString "_law_pay", Str.ofString "_law_one"], 2, [], d__law_text⟩
def t__law_spoilt : TD := ⟨"_law_spoilt", top 21, [Str.ofString "_law_text_here", Str.ofString "_law_cell_here"], [Str.ofString "_law_text_here", Str.ofString "_law_cell_here", Str.ofString "_law_at", Str.ofString "_law_sign"], 2, [], d__law_spoilt⟩
def t__law_read : TD := ⟨"_law_read", top 22, [Str.ofString "_law_text_here"], [Str.ofString "_law_text_here", Str.ofString "_law_found", Str.ofString "e"], 6, ["read"], d__law_read⟩
def t_law : TD := ⟨"law", top 23, [Str.ofString "_law_script"], [Str.ofString "_law_script", Str.ofString "_law_cell_here", Str.ofString "_law_meeting_here", Str.ofString "_law_text_here", Str.ofString "_law_bad", Str.ofString "_law_found", Str.ofString "_law_some"], 7, ["_law_meeting", "_law_text", "written", "read", "_law_spoilt", "_law_read", "is_meeting"], d_law⟩
def tab : List TD := [t_is_number, t_rows_of, t_is_pay, t_is_meeting, t_written, t_number, t_read, t__law_mix, t__law_rows, t__law_meeting, t__law_text, t__law_spoilt, t__law_read, t_law]
def gn : Gn := ⟨["isinstance", "int", "bool", "range", "tuple", "len", "all", "str", "sorted"], ["NoText"], ["PactError", "NoText", "NoPact", "ValueError"]⟩
theorem law_ok : ∀ S : Spc, (∀ f t, tab.find? (fun t => t.name == f) = some t → Has S f t.df) → ∀ ns : List Int, ns.length ≤ 63 → S "law" [.list (ns.map .int)] (fun d => d = .bool true) (fun _ => False) := by
  intro S H
  have h_is_number := H "is_number" t_is_number rfl
  have h_rows_of := H "rows_of" t_rows_of rfl
  have h_is_pay := H "is_pay" t_is_pay rfl
  have h_is_meeting := H "is_meeting" t_is_meeting rfl
  have h_written := H "written" t_written rfl
  have h_number := H "number" t_number rfl
  have h_read := H "read" t_read rfl
  have h__law_mix := H "_law_mix" t__law_mix rfl
  have h__law_rows := H "_law_rows" t__law_rows rfl
  have h__law_meeting := H "_law_meeting" t__law_meeting rfl
  have h__law_text := H "_law_text" t__law_text rfl
  have h__law_spoilt := H "_law_spoilt" t__law_spoilt rfl
  have h__law_read := H "_law_read" t__law_read rfl
  have h_law := H "law" t_law rfl
  have k1 := c_is_number h_is_number
  have k2 := c_rows_of h_rows_of
  have k3 := c__law_rows h__law_rows
  have k5 := c_is_pay h_is_pay k1
  have k6 := c_is_meeting h_is_meeting k1 k5 k2
  have k12 := c__law_mix h__law_mix
  have k14 := c__law_meeting h__law_meeting k12 k3
  have g1 := c_number h_number
  have g2 := c_written h_written
  have g3 := c_read h_read g1 k6 g2
  have g4 := c__law_text h__law_text
  have g5 := c__law_spoilt h__law_spoilt
  have g6 := c__law_read h__law_read g3
  exact c_law h_law k14 g4 g2 g3 g5 g6 k6

theorem tab_ok : tabOk gn tab = true := by decide +kernel
end Pu
open PySem PySem.W PyProof.Rows
set_option maxHeartbeats 0 in
theorem PySem.Challenge.cw_pactkeep_k02_whole_texts_holds : PySem.Challenge.rw_pactkeep_k02_whole_texts.Holds := by
  w_on; o_law; k_head; (case hw => w_witness2)
  k_fill
  refine L2.walk_of (l := PySem.Challenge.rw_pactkeep_k02_whole_texts) (n := 63) (k := 7) (x := "_law_script") (CX := fun w => L2.CX PySem.Challenge.rw_pactkeep_k02_whole_texts.prog w) (sp := fun w => Pu.spLaw _) rfl (by decide) rfl ⟨rfl, by decide, by decide⟩ (fun w h Y => PySem.W.kIn_of Y) ?F (fun _ _ a ns hl _ hS => ⟨a, ns, rfl, hS, hl, fun _ => rfl⟩) (fun _ _ _ _ _ ⟨_, _, _, _, _, _, _, _, _, _, _, _, z⟩ => z)
  case F =>
    intro w mg fa h KX G hmg
    have q0 : Pu.EO KX mg Pu.t_is_number := by
      refine' Pu.ent (t := Pu.t_is_number) KX G ?a ?l ?c ?k (fun _ _ _ _ _ _ us hl => match us, hl with | [_, _, _], _ => rfl)
      (case a => k_is); (case l => k_is); (case c => k_is); (case k => k_is)
    have q1 : Pu.EO KX mg Pu.t_rows_of := by
      refine' Pu.ent (t := Pu.t_rows_of) KX G ?a ?l ?c ?k (fun _ _ _ _ _ _ us hl => match us, hl with | [_], _ => rfl)
      (case a => k_is); (case l => k_is); (case c => k_is); (case k => k_is)
    have q2 : Pu.EO KX mg Pu.t_is_pay := by
      refine' Pu.ent (t := Pu.t_is_pay) KX G ?a ?l ?c ?k (fun _ _ _ _ _ _ us hl => match us, hl with | [_, _], _ => rfl)
      (case a => k_is); (case l => k_is); (case c => k_is); (case k => k_is)
    have q3 : Pu.EO KX mg Pu.t_is_meeting := by
      refine' Pu.ent (t := Pu.t_is_meeting) KX G ?a ?l ?c ?k (fun _ _ _ _ _ _ us hl => match us, hl with | [_], _ => rfl)
      (case a => k_is); (case l => k_is); (case c => k_is); (case k => k_is)
    have q4 : Pu.EO KX mg Pu.t_written := by
      refine' Pu.ent (t := Pu.t_written) KX G ?a ?l ?c ?k (fun _ _ _ _ _ _ us hl => match us, hl with | [_], _ => rfl)
      (case a => k_is); (case l => k_is); (case c => k_is); (case k => k_is)
    have q5 : Pu.EO KX mg Pu.t_number := by
      refine' Pu.ent (t := Pu.t_number) KX G ?a ?l ?c ?k (fun _ _ _ _ _ _ us hl => match us, hl with | [_], _ => rfl)
      (case a => k_is); (case l => k_is); (case c => k_is); (case k => k_is)
    have q6 : Pu.EO KX mg Pu.t_read := by
      refine' Pu.ent (t := Pu.t_read) KX G ?a ?l ?c ?k (fun _ _ _ _ _ _ us hl => match us, hl with | [_], _ => rfl)
      (case a => k_is); (case l => k_is); (case c => k_is); (case k => k_is)
    have q7 : Pu.EO KX mg Pu.t__law_mix := by
      refine' Pu.ent (t := Pu.t__law_mix) KX G ?a ?l ?c ?k (fun _ _ _ _ _ _ us hl => match us, hl with | [_, _, _], _ => rfl)
      (case a => k_is); (case l => k_is); (case c => k_is); (case k => k_is)
    have q8 : Pu.EO KX mg Pu.t__law_rows := by
      refine' Pu.ent (t := Pu.t__law_rows) KX G ?a ?l ?c ?k (fun _ _ _ _ _ _ us hl => match us, hl with | [_], _ => rfl)
      (case a => k_is); (case l => k_is); (case c => k_is); (case k => k_is)
    have q9 : Pu.EO KX mg Pu.t__law_meeting := by
      refine' Pu.ent (t := Pu.t__law_meeting) KX G ?a ?l ?c ?k (fun _ _ _ _ _ _ us hl => match us, hl with | [_], _ => rfl)
      (case a => k_is); (case l => k_is); (case c => k_is); (case k => k_is)
    have q10 : Pu.EO KX mg Pu.t__law_text := by
      refine' Pu.ent (t := Pu.t__law_text) KX G ?a ?l ?c ?k (fun _ _ _ _ _ _ us hl => match us, hl with | [_], _ => rfl)
      (case a => k_is); (case l => k_is); (case c => k_is); (case k => k_is)
    have q11 : Pu.EO KX mg Pu.t__law_spoilt := by
      refine' Pu.ent (t := Pu.t__law_spoilt) KX G ?a ?l ?c ?k (fun _ _ _ _ _ _ us hl => match us, hl with | [_, _], _ => rfl)
      (case a => k_is); (case l => k_is); (case c => k_is); (case k => k_is)
    have q12 : Pu.EO KX mg Pu.t__law_read := by
      refine' Pu.ent (t := Pu.t__law_read) KX G ?a ?l ?c ?k (fun _ _ _ _ _ _ us hl => match us, hl with | [_], _ => rfl)
      (case a => k_is); (case l => k_is); (case c => k_is); (case k => k_is)
    have q13 : Pu.EO KX mg Pu.t_law := by
      refine' Pu.ent (t := Pu.t_law) KX G ?a ?l ?c ?k (fun _ _ _ _ _ _ us hl => match us, hl with | [_], _ => rfl)
      (case a => k_is); (case l => k_is); (case c => k_is); (case k => k_is)
    have ex : ∃ C, Pu.RO KX mg C "NoText" ∧ ∀ m, m ∈ ["PactError", "NoText", "NoPact", "ValueError"] → Pu.MO KX mg C "NoText" m := by
      refine ⟨?C, ?_, ?_⟩
      rotate_left
      · refine' Pu.ra_of (n := "NoText") KX G ?a ?kp ?sb ?ty ?xi ?x1 ?x2 ?x3 ?x4 ?x5 ?x6 ?x7
        (case a => k_is); (case kp => k_is); (case sb => k_is); (case ty => k_is); (case xi => k_exc)
        (case x1 => k_is); (case x2 => k_is); (case x3 => k_is); (case x4 => k_is); (case x5 => k_is); (case x6 => k_is); (case x7 => k_is)
      · intro m hm
        simp only [List.mem_cons, List.not_mem_nil, or_false] at hm
        rcases hm with rfl | rfl | rfl | rfl
        · refine' Pu.nm_own (m := "PactError") KX G ?a ?h1 ?h2 ?h3 ?h4 ?h5
          (case a => k_is); (case h1 => k_is); (case h2 => k_is); (case h3 => k_is); (case h4 => k_is); (case h5 => first | exact fun _ => rfl | exact fun z => absurd z (by decide))
        · refine' Pu.nm_own (m := "NoText") KX G ?a ?h1 ?h2 ?h3 ?h4 ?h5
          (case a => k_is); (case h1 => k_is); (case h2 => k_is); (case h3 => k_is); (case h4 => k_is); (case h5 => first | exact fun _ => rfl | exact fun z => absurd z (by decide))
        · refine' Pu.nm_own (m := "NoPact") KX G ?a ?h1 ?h2 ?h3 ?h4 ?h5
          (case a => k_is); (case h1 => k_is); (case h2 => k_is); (case h3 => k_is); (case h4 => k_is); (case h5 => first | exact fun _ => rfl | exact fun z => absurd z (by decide))
        · refine' Pu.nm_blt (m := "ValueError") (t := "ValueError") KX G ?a ?b ?n ?h1 ?h2 ?h4
          (case a => k_is); (case b => decide +kernel); (case n => decide +kernel); (case h1 => k_is); (case h2 => decide +kernel); (case h4 => k_is)
    obtain ⟨cls, hE, hH⟩ := Pu.cls_one ex
    refine Pu.fin (cls := cls) (g := Pu.gn) (tab := Pu.tab) (tL := Pu.t_law) KX G hmg Pu.tab_ok rfl rfl ?B ?E ?H (Pu.ents_cons q0 (Pu.ents_cons q1 (Pu.ents_cons q2 (Pu.ents_cons q3 (Pu.ents_cons q4 (Pu.ents_cons q5 (Pu.ents_cons q6 (Pu.ents_cons q7 (Pu.ents_cons q8 (Pu.ents_cons q9 (Pu.ents_cons q10 (Pu.ents_cons q11 (Pu.ents_cons q12 (Pu.ents_cons q13 Pu.ents_nil)))))))))))))) q13 Pu.law_ok
    case B =>
      have z0 : Pu.NO KX "isinstance" := by unfold Pu.NO; k_is
      have z1 : Pu.NO KX "int" := by unfold Pu.NO; k_is
      have z2 : Pu.NO KX "bool" := by unfold Pu.NO; k_is
      have z3 : Pu.NO KX "range" := by unfold Pu.NO; k_is
      have z4 : Pu.NO KX "tuple" := by unfold Pu.NO; k_is
      have z5 : Pu.NO KX "len" := by unfold Pu.NO; k_is
      have z6 : Pu.NO KX "all" := by unfold Pu.NO; k_is
      have z7 : Pu.NO KX "str" := by unfold Pu.NO; k_is
      have z8 : Pu.NO KX "sorted" := by unfold Pu.NO; k_is
      intro b hb
      have hb' : b ∈ Pu.gn.bs := by simpa using hb
      simp only [Pu.gn, List.mem_cons, List.not_mem_nil, or_false] at hb'
      rcases hb' with rfl | rfl | rfl | rfl | rfl | rfl | rfl | rfl | rfl
      · exact z0
      · exact z1
      · exact z2
      · exact z3
      · exact z4
      · exact z5
      · exact z6
      · exact z7
      · exact z8
    case E => exact hE
    case H => exact hH
