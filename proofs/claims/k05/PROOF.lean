import PyProof.Rows.All
import Wide.All
import OpenK.AllK
import Wide.FinOn
import HandS.ForMost
import HandS.ForExc
import HandS.Strs
import HandS.TupAny
import HandS.ReCall
import HandS.SetFor
import HandS.Conv
import HandS.TupLen
import HandS.ExcInit
import HandS.ExcField
import HandS.ExcIs
import HandS.ExcOwn
import KE.GoesEnum
import HandS.DictComp
import HandS.IsInst
import HandS.Style
import PyProof.ReprRoads
import PyProof.ReprLen
import PyProof.Rows.RegFStrParts
import HandS.Zip
import HandS.SortInts
import HandS.TupMul
import KE.KTupSum
import HandS.More
import HandS.TupLe
import HandS.Deep
import HandS.TupSets
import KE.DataFind
import KE.DataMinMax
import KE.SortData
import PySem.Challenge.RW_swaprow_k05_places
set_option Elab.async false
set_option linter.all false
set_option maxRecDepth 100000
namespace SW
open PySem PySem.Spec PyProof.Rows L2
/-! ### tuples known as objects without a dict of their own (a method of theirs may be asked) -/
def TupAt (S : Hp) (a : Addr) (xs : List V) : Prop := ∃ ob : Obj, S a = some (.frz ob (.tup xs)) ∧ ob.dict = none
theorem TupAt.mono {S S' : Hp} {a : Addr} {xs : List V} (h : TupAt S a xs) (l : ∀ b o, S b = some o → S' b = some o) : TupAt S' a xs :=
  let ⟨ob, e, d⟩ := h; ⟨ob, l _ _ e, d⟩
theorem TupAt.sq {K : PySem.W.Frag} {S H : Hp} {a : Addr} {xs : List V} (h : TupAt S a xs) (l : ∀ b o, S b = some o → H b = some o) : SqT K H a xs :=
  let ⟨ob, e, _⟩ := h; .inl (.inr ⟨ob, l _ _ e⟩)
/-- a new tuple -/
def NewT (xs : List V) (H : Hp) (Q : VK) : Prop := ∀ (p : Addr) (ob : Obj), H p = none → ob.dict = none → Q (.ref p) (upd H p (.frz ob (.tup xs)))
section
variable {X : Cx} {es : List Expr} {t : TA} {pos : Pos} {a e : Expr} {ta : TE}
theorem EP_new {pins : List (Addr × Obj)} {σ : L2.St} {H : Hp} {s : Shared} {Q : VK} {xs : List V} {us : List Value} {h' : Heap} {t' : Nat} (I : Inv X pins σ H s) (z : xs.length ≤ sizeLine) (r : Vals xs us)
    (k : ∀ b u, s.heap.get? b = some u → h'.get? b = some u) (hp : s.heap.objs.size ≤ p) (e : h'.get? p = some { cls := .type "tuple", data := .seq us.toArray }) (q : NewT xs H Q) : EP X pins σ Q (.ref p) { s with heap := h', toks := t' } :=
  ⟨.ref p, _, I.laid (o := .frz { cls := .type "tuple", data := .seq us.toArray } (.tup xs)) k hp ⟨e, z, us, r, _, e, rfl, _, rfl⟩, rfl, q p _ (I.hok.fresh hp) rfl⟩
def tTupX (t : TA) : TE := fun σ H Q => t σ H fun xs H1 => xs.length ≤ sizeLine ∧ NewT xs H1 Q
theorem pe_tupX {x1} (h : PA X es t) : PE X (.Tuple es x1 pos) (tTupX t) := by
  refine ⟨fun pins s σ H Q I hq => ?_⟩
  refine wpAny_Tuple_spliced (thn (h.run pos pins s σ H _ I hq) fun us s1 ⟨xs, H1, I1, r, z, q⟩ => ⟨by rw [← r.length]; exact z, ?_⟩)
  exact EP_new (t' := s1.toks) I1 z r (fun b u e => Heap.get?_push_of_some _ e) (Nat.le_refl _) (Heap.get?_push_size _ rfl) q
/-- tuple(xs) -/
def rTupleX (K : PySem.W.Frag) : List V → Hp → VK → Prop := fun xs H Q => ∃ p ys, xs = [.ref p] ∧ ((SqL K H p ys ∧ NewT ys H Q) ∨ (SqT K H p ys ∧ Q (.ref p) H))
theorem call_tupleX : CallR X (.type "tuple") (rTupleX X.K) := by
  intro pins s σ H xs us Q I r h
  obtain ⟨p, ys, rfl, h⟩ := h
  obtain ⟨u, rfl, rx⟩ := vals1 r
  cases rx
  rcases h with ⟨hq, q⟩ | ⟨hq, q⟩
  · obtain ⟨its, r', pl, hz⟩ := I.list hq
    have hlen := r'.length
    refine call_tuple_list pl.isList (fun h' kp => ?_) (by simp only [List.size_toArray] <;> omega)
    have I1 : Inv X pins σ H { s with heap := h' } := I.kept (t' := s.toks) kp
    exact EP_new (s := { s with heap := h' }) (h' := h'.push { cls := .type "tuple", data := .seq its.toArray }) (t' := s.toks) I1 hz r' (fun b u e => Heap.get?_push_of_some _ e) (Nat.le_refl _) (Heap.get?_push_size _ rfl) q
  · obtain ⟨its, r', pl, hz⟩ := I.tuple hq
    exact call_tuple_same pl ⟨.ref p, H, I, rfl, q⟩
/-- tuple(range(..)) -/
def tTupRgX (te : L2.St → Hp → (Int → Int → Hp → Prop) → Prop) : TE := fun σ H Q => te σ H fun a b H1 => RgOk a b ∧ NewT (rgV a b) H1 Q
theorem pe_tupRgX {te : L2.St → Hp → (Int → Int → Hp → Prop) → Prop} {p pos : Pos} (hc : X.calm = true) (hg : Gl X "tuple") (hm : X.mg "tuple" = none) (he : PRg X e te) (na : starEach [e] X.env = (false, eval e X.env) :: starEach [] X.env := by rfl) : PE X (.Call (.Name "tuple" p) [e] [] pos) (tTupRgX te) := by
  refine ⟨fun pins s σ H Q I h => ?_⟩
  refine Call_ (ld_blt I hg hm boot_tuple (PyProof.Rows.callWith_type1 (args_cons (thn (he pins s σ H _ I h) fun x s1 ⟨r, a, b, t, u, v, H1, ex, hr, I1, ok, q⟩ => args_nil ?_) na) na))
  subst ex
  obtain ⟨b1, b2, b3, b4, b5⟩ := ok
  refine call_tuple_range (n := (b - a).toNat) (I1.ok.hd hc) hr (small_one b1 b2 b3 b4) (rangeSize_nat a b) b5 fun h' tk acc hk hi => ?_
  have I2 : Inv X pins σ H1 { s1 with heap := h', toks := tk } := I1.kept hk
  refine EP_new (s := { s1 with heap := h', toks := tk }) (h' := h'.push { cls := .type "tuple", data := .seq acc }) (t' := tk) I2 (by rw [rgV_length, sizeLine_eq]; omega) (vals_rg hi) (fun b u e => Heap.get?_push_of_some _ e) (Nat.le_refl _) (by rw [Array.toArray_toList]; exact Heap.get?_push_size _ rfl) q
/-- t + u -/
def rCatX (K : PySem.W.Frag) : R2 := fun x y H Q => ∃ a b xs ys, x = .ref a ∧ y = .ref b ∧ SqT K H a xs ∧ SqT K H b ys ∧ xs.length + ys.length ≤ sizeLine ∧
  (xs = [] → Q (.ref b) H) ∧ (xs ≠ [] → ys = [] → Q (.ref a) H) ∧ (xs ≠ [] → ys ≠ [] → NewT (xs ++ ys) H Q)
theorem op_catX : OpR X (binaryOp .Add) (rCatX X.K) := by
  intro pins s σ H x y v u Q I rx ry h
  obtain ⟨a, b, xs, ys, rfl, rfl, ha, hb, hz, q0, q1, q2⟩ := h
  cases rx
  cases ry
  obtain ⟨its, r1, p1, _⟩ := I.tuple ha
  obtain ⟨its2, r2, p2, _⟩ := I.tuple hb
  by_cases hx : xs = []
  · subst hx
    cases r1
    exact cat_tup0 p1 p2 ⟨.ref b, H, I, rfl, q0 rfl⟩
  · refine HT.cat_tup p1 p2 (fun z => hx (r1.nil_iff.mp z)) (fun z => ⟨.ref a, H, I, rfl, q1 hx (r2.nil_iff.mp z)⟩) (fun z => ?_) (by rw [← r1.length, ← r2.length]; exact hz)
    exact EP_new (t' := s.toks) I (by rw [List.length_append]; exact hz) (r1.append r2) (fun b ob q => Heap.get?_push_of_some _ q) (Nat.le_refl _) (Heap.get?_push_size _ rfl) (q2 hx fun w => z (r2.nil_iff.mpr w))
/-- t[lo:hi]: the whole of it is t itself -/
def rSlX (K : PySem.W.Frag) : V → Option Int → Option Int → Hp → VK → Prop := fun x lo hi H Q => ∃ a xs, x = .ref a ∧ SqT K H a xs ∧
  (HT.sIx xs.length 0 lo = 0 ∧ HT.sIx xs.length xs.length hi = xs.length → Q (.ref a) H) ∧ (¬ (HT.sIx xs.length 0 lo = 0 ∧ HT.sIx xs.length xs.length hi = xs.length) → NewT (cutV xs lo hi) H Q)
theorem sl_tupX : SlR X (rSlX X.K) := by
  intro pins s σ H x v vl vu lo hi sl Q I rx hs pl pu h
  obtain ⟨a, xs, rfl, hx, q1, q2⟩ := h
  cases rx
  obtain ⟨its, r, ht, hz⟩ := I.tuple hx
  have hlen : its.toArray.size = xs.length := by rw [List.size_toArray]; exact r.length.symm
  refine ⟨"tuple", _, PyProof.Rows.slot_tuple_getitem.lookup, ht.typeIs, ?_⟩
  by_cases hw : HT.sIx xs.length 0 lo = 0 ∧ HT.sIx xs.length xs.length hi = xs.length
  · exact getItem_tuple_whole ht hs pl pu (by rw [hlen]; exact hw) ⟨.ref a, H, I, rfl, q1 hw⟩
  · refine HT.getItem_tuple_cut ht hs pl pu (by rw [hlen]; exact hw) ?_ (by rw [hlen]; exact hz)
    rw [hlen]
    exact EP_new (t' := s.toks) I (Nat.le_trans (cutV_length xs lo hi) hz) ((r.drop (HT.sIx xs.length 0 lo)).take (HT.sIx xs.length xs.length hi - HT.sIx xs.length 0 lo)) (fun b ob q => Heap.get?_push_of_some _ q) (Nat.le_refl _) (Heap.get?_push_size _ rfl) (q2 hw)
/-- t * k, two or more -/
def rRepX (K : PySem.W.Frag) : R2 := fun x y H Q => ∃ l k xs, x = .ref l ∧ y = .int k ∧ SqT K H l xs ∧ xs ≠ [] ∧ 2 ≤ k ∧ k ≤ 1000 ∧ xs.length ≤ 1000 ∧ NewT (List.replicate k.toNat xs).flatten H Q
/-! ### t.index(x), whole numbers -/
def tyTx (x : V) (H : Hp) : Prop := ∃ a xs, x = .ref a ∧ TupAt H a xs
theorem ty_tup : TyOk X "tuple" tyTx := by
  intro pins σ H s x v I r ty
  obtain ⟨a, xs, rfl, ob, e, d⟩ := ty
  cases r
  obtain ⟨ho, _, its, _, p⟩ := (show ObjOk X.prog X.w H s.heap a (.frz ob (.tup xs)) from I.hok a _ e)
  refine ⟨p.typeIs, fun b eb => ?_⟩
  cases eb
  exact ⟨ob, ho, d⟩
def rIxT (K : PySem.W.Frag) : V → List V → Hp → VK → Prop := fun x xs H Q => ∃ (p : Addr) (ys : List Int) (z : Int) (j : Nat), x = .ref p ∧ xs = [.int z] ∧ SqT K H p (ys.map V.int) ∧ ys[j]? = some z ∧ (∀ m, m < j → ys[m]? ≠ some z) ∧ Q (.int (j : Nat)) H
theorem flatInts (ys : List Int) : (ys.map V.int).all flatV = true := by
  rw [List.all_map]
  exact List.all_eq_true.mpr fun _ _ => rfl
theorem mt_ixT : MtR X "tuple.index" (rIxT X.K) := by
  intro pins s σ H x xs v us Q I rx rs h
  obtain ⟨p, ys, z, j, rfl, rfl, hq, hy, hno, q⟩ := h
  cases rx
  obtain ⟨u, rfl, t, rfl⟩ := vals1 rs
  obtain ⟨its, r, pl, hz⟩ := I.tuple hq
  obtain ⟨⟨cls, dd, dt, sl⟩, ho, hc, n, hd⟩ := pl
  simp only at hc hd
  subst hc
  subst hd
  have hl : its.toArray.size = ys.length := by rw [List.size_toArray, ← r.length, List.length_map]
  have hj : j < its.toArray.size := by rw [hl]; exact (List.getElem?_eq_some_iff.mp hy).1
  have at' : ∀ (m : Nat) (hm : m < its.toArray.size), ∃ y t', ys[m]? = some y ∧ its.toArray[m] = Value.int y t' := fun m hm => by
    have hm' : m < ys.length := by rw [← hl]; exact hm
    obtain ⟨w, hw, t', hw'⟩ := r.get (i := m) (x := .int ys[m]) (by simp [hm'])
    refine ⟨ys[m], t', List.getElem?_eq_getElem hm', ?_⟩
    have e := (List.getElem?_eq_some_iff.mp hw).2
    rw [← hw', ← e]
    simp
  refine call_meets PySem.F.slot_tuple_index ⟨_, ho, rfl⟩ PySem.F.entry_tuple_index (PySem.F.args_tuple_index_2 _ _) (TI.tuple_indexAt p its.toArray n dd sl (.int z t) (eqU (.int z)) j hj ?_ ?_)
    ⟨ho, fun w hw => mem_eqAt (x := .int z) ⟨t, rfl⟩ rfl r (flatInts ys) w (by simpa using hw), ⟨.int (j : Nat), H, I.tok _, ⟨_, rfl⟩, q⟩⟩
  · obtain ⟨y, t', h1, h2⟩ := at' j hj
    rw [hy] at h1
    cases h1
    rw [h2]
    show (z == z) = true
    exact beq_self_eq_true z
  · intro m hm hmj
    obtain ⟨y, t', h1, h2⟩ := at' m hm
    rw [h2]
    show (y == z) = false
    exact beq_eq_false_iff_ne.mpr fun e => hno m hmj (e ▸ h1)
/-! ### len(set(t)), t a tuple of whole numbers -/
def tLenSetT (K : PySem.W.Frag) (ta : TE) : TE := fun σ H Q => ta σ H fun x H1 => ∃ (l : Addr) (ns : List Int), x = .ref l ∧ SqT K H1 l (ns.map V.int) ∧ ns.Nodup ∧ ns.length ≤ 1000 ∧ Q (.int (ns.length : Nat)) H1
theorem pe_lenSetT {p p2 q : Pos} (hc : X.calm = true) (hg : Gl X "len") (hm : X.mg "len" = none) (hg2 : Gl X "set") (hm2 : X.mg "set" = none) (ha : PE X a ta)
    (na : starEach [a] X.env = (false, eval a X.env) :: starEach [] X.env := by rfl) : PE X (.Call (.Name "len" p) [.Call (.Name "set" p2) [a] [] q] [] pos) (tLenSetT X.K ta) := by
  refine ⟨fun pins s σ H Q I h => ?_⟩
  refine Call_ (ld_blt I hg hm boot_len ?_)
  refine PyProof.Rows.callWith_builtin1 (PyProof.Rows.args_cons ?_ rfl) rfl rfl
  refine Call_ (ld_blt I hg2 hm2 boot_set ?_)
  refine PyProof.Rows.callWith_type1 (PyProof.Rows.args_cons (thn (ha.run pins s σ H _ I h) fun v s1 ⟨x, H1, I1, r1, q1⟩ => PyProof.Rows.args_nil ?_) na) na rfl
  obtain ⟨l, ns, rfl, hq, hnd, hl, q1⟩ := q1
  cases r1
  obtain ⟨its, r, pt, hz⟩ := I1.tuple hq
  have hi : IntsAre its.toArray.toList ns := ints_of_vals r
  have hlen : its.toArray.size = ns.length := by rw [List.size_toArray, ← r.length, List.length_map]
  refine call_set_tupI ns (I1.ok.hd hc) (show s1.heap.IsTuple l its.toArray from pt) hi (by unfold scanBound; omega) fun h' tk c R1 hcn k => ?_
  refine PyProof.Rows.args_nil ?_
  obtain ⟨o, es, ep, t, ho, hex, hdt, g, nd, hm3, hb, hf, hn, hr, hl2⟩ := R1
  have I2 : Inv X pins σ H1 { s1 with heap := h', toks := tk } := I1.kept k
  have hp : (es.toList.map keyOf).Perm ns := by
    refine (List.perm_ext_iff_of_nodup nd hnd).mpr fun j => ?_
    rw [← hm3 j, decide_eq_true_eq]
  have hes : es.size = ns.length := by
    have := hp.length_eq
    simpa using this
  exact call_len_set ho hex hdt hf (by rw [hes] <;> omega) ⟨.int ns.length, H1, I2.tok _, ⟨_, by rw [hes]⟩, q1⟩
end
end SW

namespace SW
open PySem PySem.Spec PyProof.Rows L2
/-! ### dicts whose keys are tuples of whole numbers, all values True -/
def hashT (ks : List Int) : Int := reduceHash (Builtin.Tuple.tupleHashOf (ks.map hashInt))
def entT (p : List Int × Addr) : DictEntry := ⟨hashT p.1, .ref p.2, .bool true⟩
/-- at a stands such a dict; xs are the keys' tuples -/
def TpD (a : Addr) (ks : List (List Int)) (xs : List V) : HO := .ext fun h => (a == sysModules) = false ∧ ks.length ≤ sizeLine ∧ ks.Nodup ∧
  ∃ (as : List Addr) (o : Obj) (es : Array DictEntry) (ep : Nat), xs = as.map V.ref ∧ as.length = ks.length ∧ h.get? a = some o ∧ o.ExactDict ∧ o.data = .dict es ep ∧ es.toList = (ks.zip as).map entT
/-- a tuple known as an object -/
def KeyAt (H : Hp) (b : Addr) (k : List Int) : Prop := ∃ ob, H b = some (.frz ob (.tup (k.map V.int)))
def KeysAt (H : Hp) (ks : List (List Int)) (xs : List V) : Prop := ∀ (i : Nat) (k : List Int) (b : Addr), ks[i]? = some k → xs[i]? = some (V.ref b) → KeyAt H b k
section
variable {P : Program} {w : World} {H : Hp} {h : Heap} {a b : Addr} {k : List Int} {ks : List (List Int)} {xs : List V}
theorem items_int : ∀ {ks : List Int} {us : List Value}, Vals (ks.map V.int) us → ItemsAre (intKind P w) ks us
  | [], _, r => by cases r; exact .nil
  | k :: ks, _, r => by
    cases r with
    | cons h t =>
      obtain ⟨u, rfl⟩ := h
      exact .cons (by simp [PySem.intKind, Value.isInt]) (items_int t)
theorem keyAt_is (ok : HOk P w H h) (e : KeyAt H b k) : (tupleKind (intKind P w)).is h k b := by
  obtain ⟨ob, e⟩ := e
  obtain ⟨_, _, its, r, o, h1, h2, n, h3⟩ := (show ObjOk P w H h b (.frz ob (.tup (k.map V.int))) from ok b _ e)
  exact ⟨o, its.toArray, n, h1, h2, h3, by simpa using items_int r⟩
theorem tpd_ext {φ : Heap → Prop} (p : φ h) (e : ∃ o, h.get? a = some o) (st : ∀ h1 h2 : Heap, φ h1 → (∀ o, h1.get? a = some o → h2.get? a = some o) → φ h2) : ObjOk P w H h a (.ext φ) := ⟨p, e, st⟩
def kvT (ks : List (List Int)) (as : List Addr) : List (List Int × Addr × Value) := (ks.zip as).map fun p => (p.1, p.2, Value.bool true)
theorem kvT_keys : ∀ {ks : List (List Int)} {as : List Addr}, as.length = ks.length → (kvT ks as).map (·.1) = ks
  | [], [], _ => rfl
  | k :: ks, a :: as, h => by
    have := kvT_keys (ks := ks) (as := as) (by simpa using h)
    unfold kvT at this ⊢
    rw [List.zip_cons_cons, List.map_cons, List.map_cons, this]
  | [], _ :: _, h => by simp at h
  | _ :: _, [], h => by simp at h
theorem kvT_ent (ks : List (List Int)) (as : List Addr) : (kvT ks as).map (entryOfKey (tupleKind (intKind P w))) = (ks.zip as).map entT := by
  unfold kvT
  rw [List.map_map]; rfl
theorem tpd_new {as : List Addr} {vs : List (List Int × Addr × Value)} (hs : (a == sysModules) = false) (hz : ks.length ≤ sizeLine) (hl : as.length = ks.length) (ev : vs = kvT ks as) (d : h.DictOfH (tupleKind (intKind P w)) a vs) : ObjOk P w H h a (TpD a ks (as.map V.ref)) := by
  obtain ⟨o, es, ep, ho, hc, hd, he, _, hn⟩ := d
  rw [ev, kvT_ent] at he
  rw [ev, kvT_keys hl] at hn
  refine tpd_ext ⟨hs, hz, hn, as, o, es, ep, rfl, hl, ho, hc, hd, he⟩ ⟨o, ho⟩ fun h1 h2 p st => ?_
  obtain ⟨q1, q2, q3, as', o', es', ep', r1, r2, r3, r4⟩ := p
  exact ⟨q1, q2, q3, as', o', es', ep', r1, r2, st _ r3, r4⟩
theorem tpd_dict (ok : HOk P w H h) (e : H a = some (TpD a ks xs)) (hk : KeysAt H ks xs) : (a == sysModules) = false ∧ ks.length ≤ sizeLine ∧ ∃ as : List Addr, xs = as.map V.ref ∧ as.length = ks.length ∧ h.DictOfH (tupleKind (intKind P w)) a (kvT ks as) := by
  obtain ⟨⟨q1, q2, q3, as, o, es, ep, r1, r2, r3, r4, r5, r6⟩, _, _⟩ := (show ObjOk P w H h a (TpD a ks xs) from ok a _ e)
  refine ⟨q1, q2, as, r1, r2, o, es, ep, r3, r4, r5, by rw [kvT_ent]; exact r6, fun x hx => ?_, by rw [kvT_keys r2]; exact q3⟩
  obtain ⟨i, hi⟩ := List.getElem?_of_mem hx
  unfold kvT at hi
  rw [List.getElem?_map] at hi
  cases hp : (ks.zip as)[i]? with
  | none => rw [hp] at hi; cases hi
  | some p =>
    rw [hp] at hi; cases hi
    rw [List.getElem?_zip_eq_some] at hp
    exact keyAt_is ok (hk i p.1 p.2 hp.1 (by rw [r1, List.getElem?_map, hp.2]; rfl))
theorem atKey_kvT {as : List Addr} (hl : as.length = ks.length) (hn : ks.Nodup) (k : List Int) : (atKey (kvT ks as) k).isSome = decide (k ∈ ks) := by
  by_cases c : k ∈ ks
  · rw [decide_eq_true c]
    obtain ⟨i, hi⟩ := List.getElem?_of_mem c
    have hil := (List.getElem?_eq_some_iff.mp hi).1
    have ha : as[i]? = some (as[i]'(by omega)) := List.getElem?_eq_getElem _
    rw [atKey_of_get (i := i) (p := (as[i]'(by omega), Value.bool true)) (by rw [kvT_keys hl]; exact hn)]
    · rfl
    · unfold kvT
      rw [List.getElem?_map, (List.getElem?_zip_eq_some (z := (k, as[i]'(by omega)))).mpr ⟨hi, ha⟩]; rfl
  · rw [decide_eq_false c, atKey_none_of_get fun j p hj => c ?_]
    · rfl
    · have : k ∈ (kvT ks as).map (·.1) := List.mem_map.mpr ⟨_, List.mem_of_getElem? hj, rfl⟩
      rw [kvT_keys hl] at this
      exact this
end
section
variable {X : Cx}
def rLenTp : List V → Hp → VK → Prop := fun xs H Q => ∃ (a : Addr) (ks : List (List Int)) (vs : List V), xs = [.ref a] ∧ H a = some (TpD a ks vs) ∧ KeysAt H ks vs ∧ Q (.int (ks.length : Nat)) H
theorem call_lenTp : CallR X (.builtin "len") rLenTp := by
  intro pins s σ H xs us Q I r h
  obtain ⟨a, ks, vs, rfl, ha, hk, q⟩ := h
  obtain ⟨u, rfl, ru⟩ := vals1 r
  cases ru
  obtain ⟨hs, hz, as, e, hl, d⟩ := tpd_dict I.hok ha hk
  have hlen : (kvT ks as).length = ks.length := by rw [← List.length_map (f := (·.1)), kvT_keys hl]
  rw [sizeLine_eq] at hz
  refine call_len_dictH hs d (by rw [hlen]; omega) ⟨.int (ks.length : Nat), H, I.tok _, ⟨_, by rw [hlen]⟩, q⟩
def rInTp : R2 := fun x y H Q => ∃ (b a : Addr) (k : List Int) (ks : List (List Int)) (vs : List V), x = .ref b ∧ y = .ref a ∧ H a = some (TpD a ks vs) ∧ KeysAt H ks vs ∧ KeyAt H b k ∧ Q (.bl (decide (k ∈ ks))) H
theorem op_inTp (hu : X.A.units + 1 < cLine) : OpR X (compareOp .In) rInTp := by
  intro pins s σ H x y v u Q I rx ry h
  obtain ⟨b, a, k, ks, vs, rfl, rfl, ha, hk, hb, q⟩ := h
  cases rx
  cases ry
  obtain ⟨hs, hz, as, e, hl, d⟩ := tpd_dict I.hok ha hk
  have hn : ks.Nodup := by
    obtain ⟨_, _, _, _, _, _, _, _, hn⟩ := d
    rw [kvT_keys hl] at hn; exact hn
  refine PySem.wpAny_in_heap (tupleKind_room_in1 hu) (keyAt_is I.hok hb) hs d ⟨.bl (decide (k ∈ ks)), H, I.tok _, ?_, q⟩
  show _ = _
  rw [atKey_kvT hl hn]
/-- d[k] = True by a comprehension, k not there -/
theorem d_setTp {pins : List (Addr × Obj)} {σ : L2.St} {H : Hp} {s : Shared} {E : Value → Shared → Prop} {D b : Addr} {ks : List (List Int)} {vs : List V} {k : List Int} {Q : Unit → Shared → Prop} (hu : X.A.units < cLine) (I : Inv X pins σ H s) (hD : H D = some (TpD D ks vs)) (hk : KeysAt H ks vs) (hz : ks.length < sizeLine)
    (hb : KeyAt H b k) (hno : k ∉ ks) (h : ∀ s', Inv X pins σ (upd H D (TpD D (ks ++ [k]) (vs ++ [.ref b]))) s' → Q () s') : wpAny (model X.prog X.w) X.A (dictSet D (.ref b) (.bool true)) Q E s := by
  obtain ⟨hs, _, as, e, hl, d⟩ := tpd_dict I.hok hD hk
  have hn : ks.Nodup := by
    obtain ⟨_, _, _, _, _, _, _, _, hn⟩ := d
    rw [kvT_keys hl] at hn; exact hn
  have hlen : (kvT ks as).length = ks.length := by rw [← List.length_map (f := (·.1)), kvT_keys hl]
  refine wpAny_dictSet_heap (hsz := by omega) hu (keyAt_is I.hok hb) d fun h' dd' hsb => h _ ?_
  have he : ∃ q, h'.get? D = some q := let ⟨q, _, _, hq, _⟩ := dd'; ⟨q, hq⟩
  have ha : atKey (kvT ks as) k = none := by
    have := atKey_kvT hl hn k
    rw [decide_eq_false hno] at this
    cases q : atKey (kvT ks as) k with
    | none => rfl
    | some _ => rw [q] at this; cases this
  have ev : storedH (kvT ks as) k b (.bool true) = kvT (ks ++ [k]) (as ++ [b]) := by
    rw [storedH_new ha]
    unfold kvT
    rw [List.zip_append hl.symm, List.map_append]; rfl
  refine d_write I (by rw [hD]; exact True.intro) hsb he ?_
  have := tpd_new (H := upd H D (TpD D (ks ++ [k]) (vs ++ [.ref b]))) hs (by rw [List.length_append]; show ks.length + 1 ≤ _; omega) (by simp [hl]) ev dd'
  rw [e]
  rw [List.map_append] at this
  exact this
theorem tpd_empty {P : Program} {w : World} {H : Hp} (h : Heap) (hb : sysModules < h.objs.size) : ObjOk P w H (h.push { cls := .type "dict", data := .dict #[] }) h.objs.size (TpD h.objs.size [] []) :=
  tpd_new (as := []) (beq_eq_false_iff_ne.mpr fun e => by rw [e] at hb; exact Nat.lt_irrefl _ hb) (Nat.zero_le _) rfl rfl (Heap.DictOfH.new h)
end
end SW

set_option maxHeartbeats 2000000
namespace SW
open PySem PySem.Spec PyProof.Rows L2
/-! ### an exception that was caught, kept as a value -/
def exvO (a : Addr) (cls : Value) (d : Option Addr) : HO := .ext fun h => ∃ oe : Obj, h.get? a = some oe ∧ Zc cls d oe ∧ ∃ vs, oe.data = .fields vs
theorem exv_ok {P : Program} {w : World} {H : Hp} {h : Heap} {a : Addr} {cls : Value} {d : Option Addr} {oe : Obj} {vs : Array Value} (e : h.get? a = some oe) (z : Zc cls d oe) (hd : oe.data = .fields vs) : ObjOk P w H h a (exvO a cls d) :=
  ⟨⟨oe, e, z, vs, hd⟩, ⟨oe, e⟩, fun h1 h2 ⟨o, e1, z1, v1⟩ k => ⟨o, k o e1, z1, v1⟩⟩
section
variable {X : Cx} {pins : List (Addr × Obj)} {σ : List (Option V)} {H : Hp} {s : Shared}
/-- an object that stands, newly noted -/
theorem Inv.note {a : Addr} {o : HO} (I : Inv X pins σ H s) (na : H a = none) (n0 : X.s_0.heap.get? a = none) (nL : a ≠ X.env.locals) (nC : ∀ v, ¬ s.heap.IsCell a v) (np : ∀ p ∈ X.pn ++ pins, p.1 ≠ a)
    (new : ObjOk X.prog X.w (upd H a o) s.heap a o) : Inv X pins σ (upd H a o) s :=
  ⟨I.ok, I.os, I.bare, ⟨I.base.keep, I.base.slot, fun b u q n hx => by rw [upd_ne (fun z => by rw [z, n0] at q; cases q)]; exact I.base.free b u q n hx, I.base.there,
      fun b xs q => by rw [upd_ne (ne_of_none (I.base.tups b xs q) na)]; exact I.base.tups b xs q, fun b u v q => by rw [upd_ne (ne_of_none (I.base.frzs b u v q) na)]; exact I.base.frzs b u v q,
      fun b ps q => by obtain ⟨more, e⟩ := I.base.tbls b ps q; exact ⟨more, by rw [upd_ne (ne_of_none e na)]; exact e⟩⟩, I.loc, I.cell,
    by rw [upd_ne (Ne.symm nL)]; exact I.free,
    fun x c e => by rw [upd_ne (fun z => by obtain ⟨v, hv⟩ := I.cell x c e; rw [z] at hv; exact nC v hv)]; exact I.freeC x c e,
    fun p hp => by obtain ⟨p1, p2, p3⟩ := I.pin p hp; exact ⟨p1, by rw [upd_ne (np p hp)]; exact p2, p3⟩,
    fun b u e => by
      by_cases hb : b = a
      · subst hb; rw [upd_same] at e; cases e; exact new
      · rw [upd_ne hb] at e
        exact (I.hok b u e).stay (fun c v _ q => q) (fun c q => by rw [upd_ne (ne_of_none q na)]; exact q) fun c xs q => by rw [upd_ne (ne_of_none q na)]; exact q,
    I.len⟩
end
/-- what 'except x as n: y = n' wishes of an exception of the body: slot i is n's, slot j is y's -/
def wKeep (K : PySem.W.Frag) (c : Value) (i j : Nat) (Wout : WX) (D : Ends) : WX := fun cls d σ H =>
  ∃ b, PySem.W.exmOne K cls c = some b ∧ (b = true → ∀ a, H a = none → D.nx (((σ.set i (some (.ref a))).set j (some (.ref a))).set i none) (upd H a (exvO a cls d))) ∧ (b = false → Wout cls d σ H)
section
variable {X : Cx} {x n y : Str} {c : Value} {i j : Nat} {body : List Stmt} {np pos pos' : Pos} {tb : WX → TS} {ts : TS} {Wout : WX} {b₀ : Stmt}
theorem ps_try_keep (hex : X.ex = []) (hs : X.stack = X.env :: X.outer) (hf : X.env.frame = some X.env.locals) (hN : X.N.Nodup) (hi : X.N[i]? = some n) (hln : X.env.kindOf n = some .local) (hc : Names X x c) (tk : Takes X Wout)
    (hb : ∀ (W : WX) (pn : List (Addr × Obj)) (xe : Value → Shared → Prop), Takes (X.tr pn xe) W → PassesOwn (model X.prog X.w) X.A X.env xe → PSs (X.tr pn xe) body (tb W))
    (hsu : ∀ (a : Addr) (pn : List (Addr × Obj)), PSs (X.suite a pn) [b₀] ts)
    (hts : ∀ (D : Ends) (σ : List (Option V)) (H : Hp) (a : Addr), i < σ.length → D.nx ((σ.set i (some (.ref a))).set j (some (.ref a))) H → ts D (σ.set i (some (.ref a))) H) :
    PS X (.Try body [.ExceptHandler (some (.Name x np)) (some n) [b₀] pos'] [] [] pos) (fun D σ H => tb (wKeep X.K c i j Wout D) D σ H) := by
  refine ⟨fun pins s σ H D I h => ?_⟩
  have ok := I.ok
  have hfr : X.A.frames = some (X.env :: X.outer) := by rw [ok.frames, hs]
  have hloc : Loc X.env.scope n := .inl hln
  refine wpAny_Try_except ?_
  refine wpAny_mono ((hb (wKeep X.K c i j Wout D) (X.pn ++ pins) (fun e s₁ => wpAny (model X.prog X.w) X.A (noteFrame e X.env) (fun _ s₂ => wpAny (model X.prog X.w) X.A (setFlight e none) (fun _ s₃ =>
    wpAny (model X.prog X.w) X.A (handleBy e X.env [.ExceptHandler (some (.Name x np)) (some n) [b₀] pos']) (SP X pins D) X.xe s₃) X.xe s₂) X.xe s₁) (fun u s' xx => ?_) PassesOwn.looking).run [] s σ H D (I.toTry _) h) (fun f s1 hsp => ?_) (fun e s1 he => he)
  · obtain ⟨a, B, sI, pins', σ', H', cls, d, rfl, J', nb, up, sky, na, os, ag, b, hb1, hyes, hno⟩ := xx
    have J : Inv X pins σ' H' sI := J'.ofTry ok
    have sky' : Sky B (X.env :: X.outer) a (Zc cls d) X.env.locals s'.heap := by rw [← hs]; exact sky
    show wpAny (model X.prog X.w) X.A (noteFrame (.ref a) X.env) _ _ _
    refine Sky.land Zc.steady hfr hf sky' fun h3 fl3 up3 => ?_
    have J3 : Inv X pins σ' H' { s' with heap := h3 } := J.landed nb fl3.1 (up.trans up3) os ag
    obtain ⟨oe3, vs3, he3, hz3, hd3⟩ := fl3.there
    have notFr : ∀ {h : Heap} {o : Obj} {vs : Array Value}, h.FunFrames B (X.env :: X.outer) → h.get? a = some o → o.data = .fields vs → a ∉ frs (X.env :: X.outer) := fun {h o vs} ff e dd hm => by
      obtain ⟨_, o', e', hnf⟩ := ff.mem hm
      rw [e] at e'; cases e'
      exact hnf _ dd
    have nfr := notFr fl3.2.2.1 he3 hd3
    have nL : a ≠ X.env.locals := fun z => nfr (List.mem_filterMap.mpr ⟨X.env, List.mem_cons_self, by rw [hf, z]⟩)
    have nF : a ∉ X.fs := fun hm => by
      obtain ⟨e, he, q⟩ := List.mem_filterMap.mp hm
      exact nfr (List.mem_filterMap.mpr ⟨e, List.mem_cons_of_mem _ he, q⟩)
    have hBa : B.get? a = none := fl3.2.1
    have hsIa : sI.heap.get? a = none := by
      cases e : sI.heap.get? a with
      | none => rfl
      | some o =>
        have : B.get? a = some o := nb a o e (by rw [hs]; exact nfr)
        rw [hBa] at this; cases this
    have n0 : X.s_0.heap.get? a = none := by
      cases e : X.s_0.heap.get? a with
      | none => rfl
      | some o =>
        obtain ⟨o', e'⟩ := J.base.there a o e (by rw [hex]; exact List.not_mem_nil)
        rw [hsIa] at e'; cases e'
    have S3 := J3.suite he3 hd3 na nL nF
    refine wpAny_handleBy_cons (codeAny_handlers_test ?_) (by intro q; cases q)
    have LT : PySem.W.Looks (model X.prog X.w) h3 (typeOf (.ref a)) cls := fun A Q E s k q => wpAny_typeOf_ref (k _ _ he3) (by rw [hz3.1]; exact q)
    have LM := PySem.W.exm_one (M := model X.prog X.w) (J3.kIn) LT hb1
    have test : ∀ {Q : Value → Shared → Prop} {E : Value → Shared → Prop}, Q c { s' with heap := h3 } → wpAny (model X.prog X.w) (X.A.mark (some (.ref a))) (eval (.Name x np) X.env) Q E { s' with heap := h3 } := fun {Q E} q => by
      obtain ⟨hg, hdbg, hm | ⟨hm, hv, hnn⟩⟩ := hc
      · exact ld_glob (X := X.suite a ((a, oe3) :: (X.pn ++ pins))) S3 hg hm q hdbg
      · exact ld_blt (X := X.suite a ((a, oe3) :: (X.pn ++ pins))) S3 hg hm hv q hnn hdbg
    refine test (LM.here ?_)
    cases b with
    | true =>
      refine codeAny_handlers_suite_as ?_
      refine HandSPX.lands_againZ fl3 fun h4 fl4 up4 => ?_
      have J4 : Inv X pins σ' H' { s' with heap := h4 } := J.landed nb fl4.1 ((up.trans up3).trans up4) os ag
      obtain ⟨oe4, vs4, he4, hz4, hd4⟩ := fl4.there
      have S4 := J4.suite he4 hd4 na nL nF
      have hilt : i < σ'.length := by rw [J.len]; exact (List.getElem?_eq_some_iff.mp hi).1
      refine store_ok (X := X.suite a ((a, oe4) :: (X.pn ++ pins))) (v := .ref a) S4 hN hi hloc rfl (fun s5 S5 => ?_) (.inr hln)
      refine wpAny_mono ((hsu a ((a, oe4) :: (X.pn ++ pins))).run [] s5 _ H' { nx := fun σ6 H6 => σ6 = (σ'.set i (some (.ref a))).set j (some (.ref a)) ∧ H6 = H', rt := fun _ _ => False, bk := fun _ _ => False, ct := fun _ _ => False } S5 (hts _ σ' H' a hilt ⟨rfl, rfl⟩)) (fun f s6 hsp => ?_) (fun _ _ z => False.elim z)
      cases f with
      | next =>
        obtain ⟨σ6, H6, S6, rfl, rfl⟩ := hsp
        obtain ⟨p1, p2, p3, p4, p5⟩ := S6.pin (a, oe4) (List.mem_append_left _ List.mem_cons_self)
        have U : Inv X pins ((σ'.set i (some (.ref a))).set j (some (.ref a))) H6 s6 := S6.unsuite ok
        have J6 : Inv X ((a, oe4) :: pins) ((σ'.set i (some (.ref a))).set j (some (.ref a))) H6 s6 := U.pins_of fun p hp => by
          rcases List.mem_cons.mp hp with rfl | hp
          · exact ⟨p1, p2, p3, p4, p5⟩
          · exact U.pin p (List.mem_append_right _ hp)
        refine gone_ok J6 hN hi hln fun s7 J7 => ?_
        obtain ⟨q1, q2, q3, q4, q5⟩ := J7.pin (a, oe4) (List.mem_append_right _ List.mem_cons_self)
        have J8 : Inv X pins (((σ'.set i (some (.ref a))).set j (some (.ref a))).set i none) H6 s7 := J7.pins_of fun p hp => J7.pin p (List.mem_append_right _ (List.mem_cons_of_mem _ hp))
        refine ⟨_, _, Inv.note J8 (o := exvO a cls d) q2 n0 q3 (fun v hv => ?_) (fun p hp e => ?_) (exv_ok q1 hz4 hd4), hyes rfl a na⟩
        · obtain ⟨o, e1, e2⟩ := hv
          have q1' : s7.heap.get? a = some oe4 := q1
          rw [q1'] at e1; cases e1
          rw [hd4] at e2; cases e2
        · have hpi := (J.pin p hp).1
          rw [e, hsIa] at hpi; cases hpi
      | brk => obtain ⟨_, _, _, z⟩ := hsp; exact z.elim
      | cont => obtain ⟨_, _, _, z⟩ := hsp; exact z.elim
      | ret u => obtain ⟨_, _, _, _, _, z⟩ := hsp; exact z.elim
    | false =>
      show wpAny _ X.A (handleBy (.ref a) X.env []) _ _ _
      refine wpAny_handleBy_nil ?_
      obtain ⟨k1, k2, k3, oe, vs, T, oT, ts', he, hz, hd, h1, hr⟩ := id fl3
      unfold PySem.passOn
      refine wpAny_bind (wpAny_field he hd h1 ?_)
      rw [if_neg (show ¬ ((Value.ref T == Value.none) = true) from by simp)]
      have fin : wpAny (model X.prog X.w) X.A (setFlight (.ref a) X.env.frame) (fun _ s4 => wpAny (model X.prog X.w) X.A (throw (.ref a) : Sem Flow) (SP X pins D) X.xe s4) X.xe { s' with heap := h3 } := by
        rw [hf]
        refine HandSPX.setFlight_upZ fl3 fun h4 hh4 up4 => wpAny_throw (tk _ _ ?_)
        exact ⟨a, B, sI, pins, σ', H', cls, d, rfl, J, nb, (up.trans up3).trans up4, .inr (.inr (by rw [hs]; exact hh4)), na, os, ag, hno rfl⟩
      first
        | exact wpAny_bind (wpAny_pure (wpAny_bind fin))
        | exact wpAny_bind fin
  · cases f with
    | next =>
      obtain ⟨σ', H', J', q⟩ := hsp
      exact wpAny_execs_nil ⟨σ', H', J'.ofTry ok, q⟩
    | brk =>
      obtain ⟨σ', H', J', q⟩ := hsp
      exact ⟨σ', H', J'.ofTry ok, q⟩
    | cont =>
      obtain ⟨σ', H', J', q⟩ := hsp
      exact ⟨σ', H', J'.ofTry ok, q⟩
    | ret u =>
      obtain ⟨v, σ', H', J', r, q⟩ := hsp
      exact ⟨v, σ', H', J'.ofTry ok, r, q⟩
end
/-! ### x.f of a kept exception -/
def tExf (K : PySem.W.Frag) (f : Str) (te : TE) : TE := fun σ H Q => te σ H fun x H1 => ∃ (a C dd : Addr) (fs : List (Str × V)) (v : V), x = .ref a ∧ XfC K C ∧ PySem.W.findIn K (.ref C) f = some none ∧ H1 a = some (exvO a (.ref C) (some dd)) ∧ H1 dd = some (.xd fs) ∧ fs.lookup f = some v ∧ Q v H1
theorem pe_exf {X : Cx} {e : Expr} {te : TE} {pos : Pos} {n : Str} (he : PE X e te) (hb : attributeBase e n X.env (eval e X.env) = eval e X.env := by rfl) : PE X (.Attribute e n pos) (tExf X.K n te) := by
  refine ⟨fun pins s σ H Q I h => ?_⟩
  refine attr_of hb (thn (he.run pins s σ H _ I h) fun u s1 hh => ?_)
  obtain ⟨x, H1, I1, rx, a, C, dd, fs, v, ex, T, hno, ea, ed, l, q⟩ := hh
  subst ex
  obtain rfl : u = Value.ref a := rx
  have hv : ObjOk X.prog X.w H1 s1.heap a (exvO a (.ref C) (some dd)) := I1.hok a _ ea
  obtain ⟨⟨oe, ha, hz, vs, hd⟩, _⟩ := hv
  have hx : ObjOk X.prog X.w H1 s1.heap dd (.xd fs) := I1.hok dd _ ed
  obtain ⟨mA, hns, hr⟩ := hx
  obtain ⟨od, ho, hl⟩ := lookIn_ns hns
  obtain ⟨u, hu, ru⟩ := RelO.some_of (v := v) (o := mA n) (by rw [← l]; exact hr n)
  have J : PySem.W.InstAt s1.heap a oe C (some od) := ⟨ha, hz.1, by unfold PySem.W.notCls; rw [hd] <;> rfl, by rw [hz.2]; exact ho⟩
  exact HandSPX.exc_get I1.kIn J T.ga T.gg T.exC (PySem.W.findObj_own T.hdC hno rfl (by rw [hl, hu])) (handed_of ru) ⟨v, H1, I1.tok _, ru, q⟩
/-! ### Base.__init__(self, ..) of an exception class whose base's is ValueError's -/
structure BaseI (K : PySem.W.Frag) (B : Addr) : Prop where
  hg : PySem.W.specialIn K (.ref B) "__getattribute__" = some (some (.builtin "type.__getattribute__"))
  hr : PySem.W.readsIn K B (.type "type") = true
  hv : PySem.W.findCls K (.ref B) (.type "type") "__init__" = some (.val (.builtin "ValueError.__init__"))
theorem pe_binit {X : Cx} {e : Expr} {es : List Expr} {ta : TA} {x : Str} {p1 p2 pos : Pos} {B : Addr} {pl : Sem Bool} (hg : Gl X x) (hm : X.mg x = some (.ref B)) (T : BaseI X.K B) (ha : PA X (e :: es) ta) (hdb : (x == ("__debug__" : Str)) = false := by decide)
    (hc : eval (.Call (.Attribute (.Name x p1) "__init__" p2) (e :: es) [] pos) X.env = (do
      let ov ← eval (.Name x p1) X.env
      standAt p2.atName
      let (f, first) ← holding [ov] (getMethod ov "__init__" pl)
      callWith pos f first (backTo pos (starEach (e :: es) X.env)) (backToKw pos (keywordEach [] X.env))) := by rfl)
    (he : starEach (e :: es) X.env = (false, eval e X.env) :: starEach es X.env := by rfl) (hpl : (backTo pos (starEach es X.env)).any (·.1) = false := by rfl) :
    PE X (.Call (.Attribute (.Name x p1) "__init__" p2) (e :: es) [] pos) (tVeI X.K ta) := by
  refine ⟨fun pins s σ H Q I h => ?_⟩
  refine PySem.W.methodCall_KW (ld_glob I hg hm ?_ hdb) hc
  refine PySem.W.method_cls I.kIn T.hg (PySem.W.cls_value I.kIn T.hr T.hv (by decide +kernel) ?_)
  show wpAny _ _ (callWith pos (Value.builtin "ValueError.__init__") [] (backTo pos (starEach (e :: es) X.env)) []) _ _ _
  refine PyProof.Rows.callWith_method1 (thn (ha.run pos pins _ σ H _ (I.tok _) h) fun us s1 ⟨vs, H1, I1, r1, a, C, ws, ev, hl, T, ea, q⟩ => ?_) he hpl
  subst ev
  cases r1 with
  | @cons _ u0 _ ur ra rw' =>
    obtain rfl : u0 = Value.ref a := ra
    have hlen : ur.length ≤ sizeLine := by
      rw [← Paired.length rw', sizeLine_eq]
      omega
    exact oinit_ok T I1 ea hlen fun s' J => ⟨.non, H1, J, rfl, q⟩
end SW

namespace SW
open PySem PySem.Spec PyProof.Rows L2
abbrev St := L2.St
/-! ### data -/
inductive D where
  | non | bl (b : Bool) | int (i : Int) | str (x : Str)
  | lst (ds : List D) | tup (ds : List D)
  | dK (ks : List Key) (ds : List D) | dT (ks : List (List Int)) (ds : List D)
  | opq (v : V)
  | scr (a : Addr) (ns : List Int) (c : Prop)
  | exc (c : Addr) (ks : List Str) (es : List D)
inductive O where
  | lst (ds : List D) | dK (ks : List Key) (ds : List D) | dT (ks : List (List Int)) (ds : List D)
  | rng (cs gs : List Int) (n : Int)
  | ll (dss : List (List D))
inductive Sl where | i (d : D) | o (a : Addr) (w : O)
abbrev DEnv := List (Option Sl)
mutual
def RI (S : Hp) : D → V → Prop
  | .non, v => v = .non
  | .bl b, v => v = .bl b
  | .int i, v => v = .int i
  | .str x, v => v = .str x
  | .lst ds, v => ∃ a xs, v = .ref a ∧ S a = some (.lst xs) ∧ RIs S ds xs
  | .tup ds, v => ∃ a xs, v = .ref a ∧ TupAt S a xs ∧ RIs S ds xs
  | .dK ks ds, v => ∃ a xs, v = .ref a ∧ S a = some (.dK (ks.zip xs)) ∧ ks.length = ds.length ∧ RIs S ds xs
  | .dT ks ds, v => ∃ a xs, v = .ref a ∧ S a = some (TpD a ks xs) ∧ ks.length = ds.length ∧ RIs S ds xs
  | .opq u, v => v = u
  | .scr a ns c, v => v = .ref a ∧ ((∃ ob, S a = some (.frz ob (.lst (ns.map V.int)))) ∨ c)
  | .exc c ks es, v => ∃ a d xs, v = .ref a ∧ S a = some (exvO a (.ref c) (some d)) ∧ S d = some (.xd (ks.zip xs)) ∧ ks.length = es.length ∧ RIs S es xs
def RIs (S : Hp) : List D → List V → Prop
  | [], xs => xs = []
  | d :: ds, xs => ∃ y ys, xs = y :: ys ∧ RI S d y ∧ RIs S ds ys
end
abbrev Le (S S' : Hp) : Prop := ∀ b o, S b = some o → S' b = some o
theorem Le.refl (S : Hp) : Le S S := fun _ _ h => h
theorem Le.trans {A B C : Hp} (a : Le A B) (b : Le B C) : Le A C := fun x o h => b x o (a x o h)
theorem le_none {S S' : Hp} (a : Le S S') {p : Addr} (h : S' p = none) : S p = none := by
  cases e : S p with
  | none => rfl
  | some o => rw [a p o e] at h; cases h
/-- what stood stands, and nothing that stood is newly held for good -/
structure Ex (S H S' H' : Hp) : Prop where
  le : Le H H'
  fr : ∀ b, H b ≠ none → S b = none → S' b = none
theorem Ex.refl (S H : Hp) : Ex S H S H := ⟨Le.refl H, fun _ _ h => h⟩
theorem Ex.trans {S H S1 H1 S2 H2 : Hp} (a : Ex S H S1 H1) (b : Ex S1 H1 S2 H2) : Ex S H S2 H2 := ⟨a.le.trans b.le, fun c h1 h2 => b.fr c (by
  cases e : H c with
  | none => exact absurd e h1
  | some o => rw [a.le c o e]; exact nofun) (a.fr c h1 h2)⟩
theorem le_upd {S : Hp} {p : Addr} {o : HO} (h : S p = none) : Le S (upd S p o) := fun b u e => by
  rw [upd_ne (ne_of_none e h)]; exact e
theorem ex_upd {S H : Hp} {p : Addr} {o o' : HO} (h : H p = none) : Ex S H (upd S p o) (upd H p o') := ⟨le_upd h, fun b hb hs => by
  have e : b ≠ p := fun z => hb (z ▸ h)
  rw [upd_ne e]; exact hs⟩
theorem ex_updH {S H : Hp} {p : Addr} {o' : HO} (h : H p = none) : Ex S H S (upd H p o') := ⟨le_upd h, fun b hb hs => hs⟩
mutual
theorem RI.mono {S S' : Hp} (l : Le S S') : ∀ {d : D} {v : V}, RI S d v → RI S' d v
  | .non, _, h => by simpa only [RI] using h
  | .bl _, _, h => by simpa only [RI] using h
  | .int _, _, h => by simpa only [RI] using h
  | .str _, _, h => by simpa only [RI] using h
  | .opq _, _, h => by simpa only [RI] using h
  | .exc c ks es, _, h => by
    simp only [RI] at h ⊢
    obtain ⟨a, d, xs, e, h1, h2, h3, h4⟩ := h
    exact ⟨a, d, xs, e, l _ _ h1, l _ _ h2, h3, RIs.mono l h4⟩
  | .scr a ns c, _, h => by
    simp only [RI] at h ⊢
    obtain ⟨e, h⟩ := h
    exact ⟨e, h.imp (fun ⟨ob, q⟩ => ⟨ob, l _ _ q⟩) id⟩
  | .lst ds, _, h => by
    simp only [RI] at h ⊢
    obtain ⟨a, xs, e, h1, h2⟩ := h
    exact ⟨a, xs, e, l _ _ h1, RIs.mono l h2⟩
  | .tup ds, _, h => by
    simp only [RI] at h ⊢
    obtain ⟨a, xs, e, h1, h2⟩ := h
    exact ⟨a, xs, e, h1.mono l, RIs.mono l h2⟩
  | .dK ks ds, _, h => by
    simp only [RI] at h ⊢
    obtain ⟨a, xs, e, h1, h2, h3⟩ := h
    exact ⟨a, xs, e, l _ _ h1, h2, RIs.mono l h3⟩
  | .dT ks ds, _, h => by
    simp only [RI] at h ⊢
    obtain ⟨a, xs, e, h1, h2, h3⟩ := h
    exact ⟨a, xs, e, l _ _ h1, h2, RIs.mono l h3⟩
theorem RIs.mono {S S' : Hp} (l : Le S S') : ∀ {ds : List D} {xs : List V}, RIs S ds xs → RIs S' ds xs
  | [], _, h => by simpa only [RIs] using h
  | d :: ds, _, h => by
    simp only [RIs] at h ⊢
    obtain ⟨y, ys, e, h1, h2⟩ := h
    exact ⟨y, ys, e, RI.mono l h1, RIs.mono l h2⟩
end
theorem RIs.nil {S : Hp} : RIs S [] [] := by simp only [RIs]
theorem RIs.cons {S : Hp} {d : D} {ds : List D} {v : V} {vs : List V} (h : RI S d v) (t : RIs S ds vs) : RIs S (d :: ds) (v :: vs) := by
  simp only [RIs]; exact ⟨v, vs, rfl, h, t⟩
theorem RIs.inv {S : Hp} {d : D} {ds : List D} {v : V} {vs : List V} (h : RIs S (d :: ds) (v :: vs)) : RI S d v ∧ RIs S ds vs := by
  simp only [RIs] at h
  obtain ⟨y, ys, e, h1, h2⟩ := h
  cases e; exact ⟨h1, h2⟩
theorem RIs.len {S : Hp} : ∀ {ds : List D} {xs : List V}, RIs S ds xs → ds.length = xs.length
  | [], _, h => by simp only [RIs] at h; subst h; rfl
  | d :: ds, _, h => by
    simp only [RIs] at h
    obtain ⟨y, ys, rfl, _, h2⟩ := h
    simp only [List.length_cons, h2.len]
theorem RIs.get {S : Hp} : ∀ {ds : List D} {xs : List V} {i : Nat} {d : D}, RIs S ds xs → ds[i]? = some d → ∃ x, xs[i]? = some x ∧ RI S d x
  | [], _, _, _, h, e => by simp at e
  | d :: ds, _, i, c, h, e => by
    simp only [RIs] at h
    obtain ⟨y, ys, rfl, h1, h2⟩ := h
    cases i with
    | zero => simp at e; subst e; exact ⟨y, rfl, h1⟩
    | succ i => simp at e; obtain ⟨x, q, r⟩ := h2.get e; exact ⟨x, by simpa using q, r⟩
theorem RIs.getV {S : Hp} : ∀ {ds : List D} {xs : List V} {i : Nat} {x : V}, RIs S ds xs → xs[i]? = some x → ∃ d, ds[i]? = some d ∧ RI S d x
  | [], _, _, _, h, e => by simp only [RIs] at h; subst h; simp at e
  | d :: ds, _, i, c, h, e => by
    simp only [RIs] at h
    obtain ⟨y, ys, rfl, h1, h2⟩ := h
    cases i with
    | zero => simp at e; subst e; exact ⟨d, rfl, h1⟩
    | succ i => simp at e; obtain ⟨x, q, r⟩ := h2.getV e; exact ⟨x, by simpa using q, r⟩
theorem RIs.append {S : Hp} : ∀ {ds es : List D} {xs ys : List V}, RIs S ds xs → RIs S es ys → RIs S (ds ++ es) (xs ++ ys)
  | [], _, _, _, h, q => by simp only [RIs] at h; subst h; exact q
  | d :: ds, _, _, _, h, q => by
    simp only [RIs] at h
    obtain ⟨y, ys, rfl, h1, h2⟩ := h
    exact .cons h1 (h2.append q)
theorem RIs.take {S : Hp} : ∀ {ds : List D} {xs : List V} (n : Nat), RIs S ds xs → RIs S (ds.take n) (xs.take n)
  | _, _, 0, h => .nil
  | [], _, n + 1, h => by simp only [RIs] at h; subst h; exact .nil
  | d :: ds, _, n + 1, h => by
    simp only [RIs] at h
    obtain ⟨y, ys, rfl, h1, h2⟩ := h
    exact .cons h1 (h2.take n)
theorem RIs.drop {S : Hp} : ∀ {ds : List D} {xs : List V} (n : Nat), RIs S ds xs → RIs S (ds.drop n) (xs.drop n)
  | _, _, 0, h => h
  | [], _, n + 1, h => by simp only [RIs] at h; subst h; exact .nil
  | d :: ds, _, n + 1, h => by
    simp only [RIs] at h
    obtain ⟨y, ys, rfl, h1, h2⟩ := h
    exact h2.drop n
theorem RIs.set {S : Hp} {d : D} {v : V} (r : RI S d v) : ∀ {ds : List D} {xs : List V} (n : Nat), RIs S ds xs → RIs S (ds.set n d) (xs.set n v)
  | [], _, n, h => by simp only [RIs] at h; subst h; exact .nil
  | c :: ds, _, 0, h => by
    simp only [RIs] at h
    obtain ⟨y, ys, rfl, h1, h2⟩ := h
    exact .cons r h2
  | c :: ds, _, n + 1, h => by
    simp only [RIs] at h
    obtain ⟨y, ys, rfl, h1, h2⟩ := h
    exact .cons h1 (h2.set r n)
theorem RIs.eraseIdx {S : Hp} : ∀ {ds : List D} {xs : List V} (n : Nat), RIs S ds xs → RIs S (ds.eraseIdx n) (xs.eraseIdx n)
  | [], _, n, h => by simp only [RIs] at h; subst h; exact .nil
  | c :: ds, _, 0, h => by
    simp only [RIs] at h
    obtain ⟨y, ys, rfl, h1, h2⟩ := h
    exact h2
  | c :: ds, _, n + 1, h => by
    simp only [RIs] at h
    obtain ⟨y, ys, rfl, h1, h2⟩ := h
    exact .cons h1 (h2.eraseIdx n)
theorem RIs.reverse {S : Hp} : ∀ {ds : List D} {xs : List V}, RIs S ds xs → RIs S ds.reverse xs.reverse
  | [], _, h => by simp only [RIs] at h; subst h; exact .nil
  | c :: ds, _, h => by
    simp only [RIs] at h
    obtain ⟨y, ys, rfl, h1, h2⟩ := h
    rw [List.reverse_cons, List.reverse_cons]
    exact h2.reverse.append (.cons h1 .nil)
theorem RIs.rep {S : Hp} {ds : List D} {xs : List V} (h : RIs S ds xs) : ∀ k : Nat, RIs S (List.replicate k ds).flatten (List.replicate k xs).flatten
  | 0 => .nil
  | k + 1 => by
    rw [List.replicate_succ, List.replicate_succ, List.flatten_cons, List.flatten_cons]
    exact h.append (h.rep k)
theorem RIs.ints {S : Hp} : ∀ {ns : List Int} {xs : List V}, RIs S (ns.map D.int) xs → xs = ns.map V.int
  | [], _, h => by simpa only [List.map_nil, RIs] using h
  | n :: ns, _, h => by
    simp only [List.map_cons, RIs] at h
    obtain ⟨y, ys, rfl, h1, h2⟩ := h
    simp only [RI] at h1
    rw [h1, h2.ints]; rfl
theorem RIs.ofInts {S : Hp} : ∀ (ns : List Int), RIs S (ns.map D.int) (ns.map V.int)
  | [] => .nil
  | n :: ns => .cons (by simp only [RI]) (RIs.ofInts ns)
/-! ### owned objects, slots, states -/
/-- lists of their own, one behind the other -/
def LL (S H : Hp) : List Addr → List (List D) → Prop
  | [], dss => dss = []
  | b :: as, dss => ∃ ds r xs, dss = ds :: r ∧ H b = some (.lst xs) ∧ RIs S ds xs ∧ LL S H as r
theorem LL.there {S H : Hp} : ∀ {as : List Addr} {dss : List (List D)}, LL S H as dss → ∀ b ∈ as, ∃ o, H b = some o
  | [], _, _, b, hb => nomatch hb
  | c :: as, dss, h, b, hb => by
    obtain ⟨ds, r, xs, _, h1, _, h2⟩ := h
    rcases List.mem_cons.mp hb with rfl | hb
    · exact ⟨_, h1⟩
    · exact LL.there h2 b hb
theorem LL.keep {S S' H H' : Hp} (l : Le S S') : ∀ {as : List Addr} {dss : List (List D)}, LL S H as dss → (∀ b ∈ as, ∀ o, H b = some o → H' b = some o) → LL S' H' as dss
  | [], _, h, _ => h
  | c :: as, dss, h, k => by
    obtain ⟨ds, r, xs, e, h1, h2, h3⟩ := h
    exact ⟨ds, r, xs, e, k c (by simp) _ h1, h2.mono l, LL.keep l h3 fun b hb => k b (List.mem_cons_of_mem _ hb)⟩
theorem LL.len {S H : Hp} : ∀ {as : List Addr} {dss : List (List D)}, LL S H as dss → dss.length = as.length
  | [], _, h => by cases h; rfl
  | c :: as, dss, h => by
    obtain ⟨ds, r, xs, e, h1, h2, h3⟩ := h
    subst e
    simp [LL.len h3]
def OI (S H : Hp) : O → Addr → List Addr → Prop
  | .lst ds, a, fp => ∃ xs, H a = some (.lst xs) ∧ RIs S ds xs ∧ fp = [a]
  | .dK ks ds, a, fp => ∃ xs, H a = some (.dK (ks.zip xs)) ∧ ks.length = ds.length ∧ RIs S ds xs ∧ fp = [a]
  | .dT ks ds, a, fp => ∃ xs, H a = some (TpD a ks xs) ∧ ks.length = ds.length ∧ RIs S ds xs ∧ fp = [a]
  | .rng cs gs n, a, fp => ∃ c g, H a = some (.dK [(.inr "cells", .ref c), (.inr "great", .ref g), (.inr "spot", .int n)]) ∧
      H c = some (.lst (cs.map V.int)) ∧ H g = some (.lst (gs.map V.int)) ∧ c ≠ g ∧ fp = [a, c, g]
  | .ll dss, a, fp => ∃ as, H a = some (.lst (as.map V.ref)) ∧ LL S H as dss ∧ (a :: as).Nodup ∧ fp = a :: as
theorem OI.there {S H : Hp} {w : O} {a : Addr} {fp : List Addr} (h : OI S H w a fp) : ∀ b ∈ fp, ∃ o, H b = some o := by
  intro b hb
  cases w with
  | lst ds => obtain ⟨xs, h1, _, rfl⟩ := h; simp only [List.mem_singleton] at hb; subst hb; exact ⟨_, h1⟩
  | dK ks ds => obtain ⟨xs, h1, _, _, rfl⟩ := h; simp only [List.mem_singleton] at hb; subst hb; exact ⟨_, h1⟩
  | dT ks ds => obtain ⟨xs, h1, _, _, rfl⟩ := h; simp only [List.mem_singleton] at hb; subst hb; exact ⟨_, h1⟩
  | rng cs gs n =>
    obtain ⟨c, g, h1, h2, h3, _, rfl⟩ := h
    simp only [List.mem_cons, List.not_mem_nil, or_false] at hb
    rcases hb with rfl | rfl | rfl
    · exact ⟨_, h1⟩
    · exact ⟨_, h2⟩
    · exact ⟨_, h3⟩
  | ll dss =>
    obtain ⟨as, h1, h2, _, rfl⟩ := h
    rcases List.mem_cons.mp hb with rfl | hb
    · exact ⟨_, h1⟩
    · exact h2.there b hb
theorem OI.keep {S S' H H' : Hp} {w : O} {a : Addr} {fp : List Addr} (h : OI S H w a fp) (l : Le S S') (k : ∀ b ∈ fp, ∀ o, H b = some o → H' b = some o) : OI S' H' w a fp := by
  cases w with
  | lst ds => obtain ⟨xs, h1, h2, rfl⟩ := h; exact ⟨xs, k a (by simp) _ h1, h2.mono l, rfl⟩
  | dK ks ds => obtain ⟨xs, h1, h2, h3, rfl⟩ := h; exact ⟨xs, k a (by simp) _ h1, h2, h3.mono l, rfl⟩
  | dT ks ds => obtain ⟨xs, h1, h2, h3, rfl⟩ := h; exact ⟨xs, k a (by simp) _ h1, h2, h3.mono l, rfl⟩
  | rng cs gs n =>
    obtain ⟨c, g, h1, h2, h3, h4, rfl⟩ := h
    exact ⟨c, g, k a (by simp) _ h1, k c (by simp) _ h2, k g (by simp) _ h3, h4, rfl⟩
  | ll dss =>
    obtain ⟨as, h1, h2, h3, rfl⟩ := h
    exact ⟨as, k a (by simp) _ h1, h2.keep l fun b hb => k b (List.mem_cons_of_mem _ hb), h3, rfl⟩
def slotOk (S H : Hp) (v : Option (Option V)) (w : Option (Option Sl)) (fp : List Addr) : Prop :=
  match w with
  | some (some (.i d)) => (∃ x, v = some (some x) ∧ RI S d x) ∧ fp = []
  | some (some (.o a o)) => v = some (some (.ref a)) ∧ OI S H o a fp
  | _ => fp = []
theorem slotOk.there {S H : Hp} {v : Option (Option V)} {w : Option (Option Sl)} {fp : List Addr} (h : slotOk S H v w fp) : ∀ a ∈ fp, ∃ o, H a = some o := by
  unfold slotOk at h
  split at h
  · obtain ⟨_, rfl⟩ := h; intro a ha; cases ha
  · obtain ⟨_, h⟩ := h; exact h.there
  · subst h; intro a ha; cases ha
theorem slotOk.keep {S S' H H' : Hp} {v : Option (Option V)} {w : Option (Option Sl)} {fp : List Addr} (h : slotOk S H v w fp) (l : Le S S') (k : ∀ a ∈ fp, ∀ o, H a = some o → H' a = some o) : slotOk S' H' v w fp := by
  unfold slotOk at h ⊢
  split at h
  · obtain ⟨⟨x, e, r⟩, rfl⟩ := h; exact ⟨⟨x, e, r.mono l⟩, rfl⟩
  · obtain ⟨e, h⟩ := h; exact ⟨e, h.keep l k⟩
  · exact h
/-- the state: S stands for good, T stands while this runs, fp are the slots' own objects -/
structure SR (S T H : Hp) (σ : St) (δ : DEnv) (fp : Nat → List Addr) : Prop where
  s : Le S H
  t : Le T H
  st : ∀ b o, T b = some o → S b = none
  len : σ.length = δ.length
  sl : ∀ i, slotOk S H σ[i]? δ[i]? (fp i)
  dis : ∀ i j a, a ∈ fp i → a ∈ fp j → i = j
  own : ∀ i a, a ∈ fp i → S a = none ∧ T a = none
section
variable {S S' T H H' : Hp} {σ : St} {δ : DEnv} {fp : Nat → List Addr} {p : Addr} {o : HO}
theorem SR.there (h : SR S T H σ δ fp) {i : Nat} {a : Addr} (ha : a ∈ fp i) : ∃ o, H a = some o := (h.sl i).there a ha
theorem SR.fresh (h : SR S T H σ δ fp) (hp : H p = none) : S p = none ∧ T p = none ∧ ∀ i, p ∉ fp i :=
  ⟨le_none h.s hp, le_none h.t hp, fun i hi => by obtain ⟨o, e⟩ := h.there hi; rw [hp] at e; cases e⟩
/-- a new object that stands for good -/
theorem SR.frz (h : SR S T H σ δ fp) (hp : H p = none) : SR (upd S p o) T (upd H p o) σ δ fp where
  s := fun b u e => by
    by_cases hb : b = p
    · subst hb; rw [upd_same] at e ⊢; exact e
    · rw [upd_ne hb] at e ⊢; exact h.s b u e
  t := h.t.trans (le_upd hp)
  st := fun b u e => by
    have hb : b ≠ p := ne_of_none e (h.fresh hp).2.1
    rw [upd_ne hb]; exact h.st b u e
  len := h.len
  sl := fun i => (h.sl i).keep (le_upd (h.fresh hp).1) fun a _ u e => le_upd hp a u e
  dis := h.dis
  own := fun i a ha => by
    have hb : a ≠ p := fun e => (h.fresh hp).2.2 i (e ▸ ha)
    rw [upd_ne hb]; exact h.own i a ha
/-- a new object that nobody holds yet -/
theorem SR.new (h : SR S T H σ δ fp) (hp : H p = none) : SR S T (upd H p o) σ δ fp where
  s := h.s.trans (le_upd hp)
  t := h.t.trans (le_upd hp)
  st := h.st
  len := h.len
  sl := fun i => (h.sl i).keep (Le.refl _) fun a _ u e => le_upd hp a u e
  dis := h.dis
  own := h.own
/-- an object that nobody holds, held for good -/
theorem SR.adopt (h : SR S T H σ δ fp) (ho : H p = some o) (hs : S p = none) (ht : T p = none) (hf : ∀ i, p ∉ fp i) : SR (upd S p o) T H σ δ fp where
  s := fun b u e => by
    by_cases hb : b = p
    · subst hb; rw [upd_same] at e; rw [ho, ← e]
    · rw [upd_ne hb] at e; exact h.s b u e
  t := h.t
  st := fun b u e => by
    have hb : b ≠ p := ne_of_none e ht
    rw [upd_ne hb]; exact h.st b u e
  len := h.len
  sl := fun i => (h.sl i).keep (le_upd hs) fun a _ u e => e
  dis := h.dis
  own := fun i a ha => by
    have hb : a ≠ p := fun e => hf i (e ▸ ha)
    rw [upd_ne hb]; exact h.own i a ha
def fset (fp : Nat → List Addr) (i : Nat) (l : List Addr) : Nat → List Addr := fun j => if j = i then l else fp j
theorem fset_same {i : Nat} {l : List Addr} : fset fp i l i = l := by unfold fset; rw [if_pos rfl]
theorem fset_ne {i j : Nat} {l : List Addr} (h : j ≠ i) : fset fp i l j = fp j := by unfold fset; rw [if_neg h]
/-- a slot gets a new content -/
theorem SR.put (h : SR S T H σ δ fp) {i : Nat} (hi : i < σ.length) {v : Option V} {w : Option Sl} {l : List Addr} (hw : slotOk S H (some v) (some w) l) (hd : ∀ a ∈ l, ∀ j, j ≠ i → a ∉ fp j) (ho : ∀ a ∈ l, S a = none ∧ T a = none) :
    SR S T H (σ.set i v) (δ.set i w) (fset fp i l) where
  s := h.s
  t := h.t
  st := h.st
  len := by simpa using h.len
  sl := fun j => by
    by_cases hj : j = i
    · subst hj
      rw [fset_same, List.getElem?_set_self hi, List.getElem?_set_self (h.len ▸ hi)]; exact hw
    · rw [fset_ne hj, List.getElem?_set_ne (Ne.symm hj), List.getElem?_set_ne (Ne.symm hj)]; exact h.sl j
  dis := fun j k a h1 h2 => by
    by_cases hj : j = i
    · subst hj
      rw [fset_same] at h1
      by_cases hk : k = j
      · exact hk.symm
      · rw [fset_ne hk] at h2; exact absurd h2 (hd a h1 k hk)
    · rw [fset_ne hj] at h1
      by_cases hk : k = i
      · subst hk; rw [fset_same] at h2; exact absurd h1 (hd a h2 j hj)
      · rw [fset_ne hk] at h2; exact h.dis j k a h1 h2
  own := fun j a ha => by
    by_cases hj : j = i
    · subst hj; rw [fset_same] at ha; exact ho a ha
    · rw [fset_ne hj] at ha; exact h.own j a ha
theorem SR.out (h : SR S T H σ δ fp) {i : Nat} (hi : ¬ i < σ.length) {v : Option V} {w : Option Sl} : SR S T H (σ.set i v) (δ.set i w) fp := by
  have e1 : σ.set i v = σ := List.set_eq_of_length_le (by omega)
  have e2 : δ.set i w = δ := List.set_eq_of_length_le (by have := h.len; omega)
  rw [e1, e2]; exact h
theorem SR.putI (h : SR S T H σ δ fp) (i : Nat) {v : V} {d : D} (r : RI S d v) : ∃ fp', SR S T H (σ.set i (some v)) (δ.set i (some (.i d))) fp' := by
  by_cases hi : i < σ.length
  · exact ⟨_, h.put hi (l := []) ⟨⟨v, rfl, r⟩, rfl⟩ (fun a ha => nomatch ha) fun a ha => nomatch ha⟩
  · exact ⟨_, h.out hi⟩
theorem SR.putN (h : SR S T H σ δ fp) (i : Nat) {v : Option V} : ∃ fp', SR S T H (σ.set i v) (δ.set i none) fp' := by
  by_cases hi : i < σ.length
  · exact ⟨_, h.put hi (l := []) rfl (fun a ha => nomatch ha) fun a ha => nomatch ha⟩
  · exact ⟨_, h.out hi⟩
theorem SR.putO (h : SR S T H σ δ fp) (i : Nat) {a : Addr} {w : O} {l : List Addr} (r : OI S H w a l) (hd : ∀ a ∈ l, (∀ j, a ∉ fp j) ∧ S a = none ∧ T a = none) : ∃ fp', SR S T H (σ.set i (some (.ref a))) (δ.set i (some (.o a w))) fp' := by
  by_cases hi : i < σ.length
  · exact ⟨_, h.put hi (l := l) ⟨rfl, r⟩ (fun a ha j _ => (hd a ha).1 j) fun a ha => (hd a ha).2⟩
  · exact ⟨_, h.out hi⟩
/-- a slot's own objects are changed -/
theorem SR.mut (h : SR S T H σ δ fp) {i : Nat} {v : Addr} (hv : σ[i]? = some (some (.ref v))) {w' : O} {l : List Addr} (hw : OI S H' w' v l)
    (k : ∀ b u, b ∉ fp i → H b = some u → H' b = some u) (hl : ∀ a ∈ l, a ∈ fp i ∨ H a = none) :
    SR S T H' σ (δ.set i (some (.o v w'))) (fset fp i l) where
  s := fun b u e => k b u (fun hb => by rw [(h.own i b hb).1] at e; cases e) (h.s b u e)
  t := fun b u e => k b u (fun hb => by rw [(h.own i b hb).2] at e; cases e) (h.t b u e)
  st := h.st
  len := by simpa using h.len
  sl := fun j => by
    have hi : i < δ.length := by rw [← h.len]; exact (List.getElem?_eq_some_iff.mp hv).1
    by_cases hj : j = i
    · subst hj
      rw [fset_same, List.getElem?_set_self hi]; exact ⟨hv, hw⟩
    · rw [fset_ne hj, List.getElem?_set_ne (Ne.symm hj)]
      exact (h.sl j).keep (Le.refl _) fun a ha u e => k a u (fun hb => hj (h.dis j i a ha hb)) e
  dis := fun j m a h1 h2 => by
    have key : ∀ q, q ≠ i → a ∈ l → a ∉ fp q := fun q hq ha hb => by
      rcases hl a ha with z | z
      · exact hq (h.dis q i a hb z)
      · obtain ⟨o, e⟩ := h.there hb; rw [z] at e; cases e
    by_cases hj : j = i
    · subst hj
      rw [fset_same] at h1
      by_cases hk : m = j
      · exact hk.symm
      · rw [fset_ne hk] at h2; exact absurd h2 (key m hk h1)
    · rw [fset_ne hj] at h1
      by_cases hk : m = i
      · subst hk; rw [fset_same] at h2; exact absurd h1 (key j hj h2)
      · rw [fset_ne hk] at h2; exact h.dis j m a h1 h2
  own := fun j a ha => by
    by_cases hj : j = i
    · subst hj
      rw [fset_same] at ha
      rcases hl a ha with z | z
      · exact h.own j a z
      · exact ⟨(h.fresh z).1, (h.fresh z).2.1⟩
    · rw [fset_ne hj] at ha; exact h.own j a ha
/-- all that stood stands -/
theorem SR.grow (h : SR S T H σ δ fp) (l : Le H H') : SR S T H' σ δ fp where
  s := h.s.trans l
  t := h.t.trans l
  st := h.st
  len := h.len
  sl := fun i => (h.sl i).keep (Le.refl _) fun a _ u e => l a u e
  dis := h.dis
  own := h.own
end
end SW

namespace SW
open PySem PySem.Spec PyProof.Rows L2
abbrev DT := DEnv → (D → DEnv → Prop) → Prop
abbrev DTB := DEnv → (Bool → DEnv → Prop) → Prop
abbrev DTF := DEnv → (Addr → O → DEnv → Prop) → Prop
abbrev DTA := DEnv → (List D → DEnv → Prop) → Prop
def Pur (p : Bool) (δ δ' : DEnv) (S H S' H' : Hp) : Prop := p = true → δ' = δ ∧ Ex S H S' H'
section
variable {p q : Bool} {δ δ1 δ2 : DEnv} {S S1 S2 H H1 H2 : Hp}
theorem Pur.refl : Pur p δ δ S H S H := fun _ => ⟨rfl, Ex.refl S H⟩
theorem Pur.le (l : Ex S H S1 H1) : Pur p δ δ S H S1 H1 := fun _ => ⟨rfl, l⟩
theorem Pur.trans (a : Pur p δ δ1 S H S1 H1) (b : Pur q δ1 δ2 S1 H1 S2 H2) : Pur (p && q) δ δ2 S H S2 H2 := fun e => by
  rw [Bool.and_eq_true] at e
  obtain ⟨rfl, l1⟩ := a e.1
  obtain ⟨rfl, l2⟩ := b e.2
  exact ⟨rfl, l1.trans l2⟩
theorem Pur.left (a : Pur p δ δ1 S H S1 H1) : Pur (p && q) δ δ1 S H S1 H1 := fun e => a (Bool.and_eq_true .. ▸ e).1
theorem Pur.grow (a : Pur p δ δ1 S H S1 H1) (l : Ex S1 H1 S2 H2) : Pur p δ δ1 S H S2 H2 := fun e => ⟨(a e).1, (a e).2.trans l⟩
theorem Pur.tt (a : Pur true δ δ1 S H S1 H1) : δ1 = δ ∧ Ex S H S1 H1 := a rfl
end
/-! ### views -/
def RV (S H : Hp) : D → V → Prop
  | .lst ds, v => ∃ a xs, v = .ref a ∧ H a = some (.lst xs) ∧ RIs S ds xs
  | .tup ds, v => ∃ a xs, v = .ref a ∧ TupAt S a xs ∧ RIs S ds xs
  | .dK ks ds, v => ∃ a xs, v = .ref a ∧ H a = some (.dK (ks.zip xs)) ∧ ks.length = ds.length ∧ RIs S ds xs
  | .dT ks ds, v => ∃ a xs, v = .ref a ∧ H a = some (TpD a ks xs) ∧ ks.length = ds.length ∧ RIs S ds xs
  | .non, v => v = .non
  | .bl b, v => v = .bl b
  | .int i, v => v = .int i
  | .str x, v => v = .str x
  | .opq u, v => v = u
  | .scr a ns c, v => v = .ref a ∧ ((∃ ob, S a = some (.frz ob (.lst (ns.map V.int)))) ∨ c)
  | .exc c ks es, v => ∃ a d xs, v = .ref a ∧ S a = some (exvO a (.ref c) (some d)) ∧ S d = some (.xd (ks.zip xs)) ∧ ks.length = es.length ∧ RIs S es xs
theorem RI.view {S H : Hp} (l : Le S H) {d : D} {v : V} (h : RI S d v) : RV S H d v := by
  cases d with
  | lst ds => simp only [RI] at h; obtain ⟨a, xs, e, h1, h2⟩ := h; exact ⟨a, xs, e, l _ _ h1, h2⟩
  | tup ds => simp only [RI] at h; exact h
  | dK ks ds => simp only [RI] at h; obtain ⟨a, xs, e, h1, h2⟩ := h; exact ⟨a, xs, e, l _ _ h1, h2⟩
  | dT ks ds => simp only [RI] at h; obtain ⟨a, xs, e, h1, h2⟩ := h; exact ⟨a, xs, e, l _ _ h1, h2⟩
  | non => simpa only [RI, RV] using h
  | bl b => simpa only [RI, RV] using h
  | int i => simpa only [RI, RV] using h
  | str x => simpa only [RI, RV] using h
  | opq u => simpa only [RI, RV] using h
  | scr a ns c => simpa only [RI, RV] using h
  | exc c ks es => simp only [RI] at h; exact h
theorem RV.grow {S S' H H' : Hp} (l : Le S S') (k : Le H H') {d : D} {v : V} (h : RV S H d v) : RV S' H' d v := by
  cases d with
  | lst ds => obtain ⟨a, xs, e, h1, h2⟩ := h; exact ⟨a, xs, e, k _ _ h1, h2.mono l⟩
  | tup ds => obtain ⟨a, xs, e, h1, h2⟩ := h; exact ⟨a, xs, e, h1.mono l, h2.mono l⟩
  | dK ks ds => obtain ⟨a, xs, e, h1, h2, h3⟩ := h; exact ⟨a, xs, e, k _ _ h1, h2, h3.mono l⟩
  | dT ks ds => obtain ⟨a, xs, e, h1, h2, h3⟩ := h; exact ⟨a, xs, e, k _ _ h1, h2, h3.mono l⟩
  | non => exact h
  | bl b => exact h
  | int i => exact h
  | str x => exact h
  | opq u => exact h
  | exc c ks es => obtain ⟨a, d, xs, e, h1, h2, h3, h4⟩ := h; exact ⟨a, d, xs, e, l _ _ h1, l _ _ h2, h3, h4.mono l⟩
  | scr a ns c => exact ⟨h.1, h.2.imp (fun ⟨ob, q⟩ => ⟨ob, l _ _ q⟩) id⟩
/-! ### what a reading over data says of one over the heap -/
def SimE (p : Bool) (r : TE) (t : DT) : Prop := ∀ (S T H : Hp) (σ : St) (δ : DEnv) (fp : Nat → List Addr) (Q : VK) (Q' : D → DEnv → Prop), SR S T H σ δ fp → t δ Q' →
  (∀ (S' H' : Hp) (fp' : Nat → List Addr) (v : V) (d : D) (δ' : DEnv), Le S S' → SR S' T H' σ δ' fp' → RI S' d v → Pur p δ δ' S H S' H' → Q' d δ' → Q v H') → r σ H Q
def SimV (p : Bool) (r : TE) (t : DT) : Prop := ∀ (S T H : Hp) (σ : St) (δ : DEnv) (fp : Nat → List Addr) (Q : VK) (Q' : D → DEnv → Prop), SR S T H σ δ fp → t δ Q' →
  (∀ (S' H' : Hp) (fp' : Nat → List Addr) (v : V) (d : D) (δ' : DEnv), Le S S' → SR S' T H' σ δ' fp' → RV S' H' d v → Pur p δ δ' S H S' H' → Q' d δ' → Q v H') → r σ H Q
/-- a new object that nobody holds -/
structure Fr (S T H : Hp) (fp : Nat → List Addr) (a : Addr) (w : O) : Prop where
  oi : OI S H w a [a]
  s : S a = none
  t : T a = none
  f : ∀ i, a ∉ fp i
def SimF (p : Bool) (r : TE) (t : DTF) : Prop := ∀ (S T H : Hp) (σ : St) (δ : DEnv) (fp : Nat → List Addr) (Q : VK) (Q' : Addr → O → DEnv → Prop), SR S T H σ δ fp → t δ Q' →
  (∀ (S' H' : Hp) (fp' : Nat → List Addr) (a : Addr) (w : O) (δ' : DEnv), Le S S' → SR S' T H' σ δ' fp' → Fr S' T H' fp' a w → Pur p δ δ' S H S' H' → (p = true → H a = none) → Q' a w δ' → Q (.ref a) H') → r σ H Q
def SimT (p : Bool) (r : TT) (t : DTB) : Prop := ∀ (S T H : Hp) (σ : St) (δ : DEnv) (fp : Nat → List Addr) (Q : Bool → Hp → Prop) (Q' : Bool → DEnv → Prop), SR S T H σ δ fp → t δ Q' →
  (∀ (S' H' : Hp) (fp' : Nat → List Addr) (b : Bool) (δ' : DEnv), Le S S' → SR S' T H' σ δ' fp' → Pur p δ δ' S H S' H' → Q' b δ' → Q b H') → r σ H Q
def SimA (n : Nat) (p : Bool) (r : TA) (t : DTA) : Prop := ∀ (S T H : Hp) (σ : St) (δ : DEnv) (fp : Nat → List Addr) (Q : List V → Hp → Prop) (Q' : List D → DEnv → Prop), SR S T H σ δ fp → t δ Q' →
  (∀ (S' H' : Hp) (fp' : Nat → List Addr) (vs : List V) (ds : List D) (δ' : DEnv), Le S S' → SR S' T H' σ δ' fp' → RIs S' ds vs → ds.length = n → Pur p δ δ' S H S' H' → Q' ds δ' → Q vs H') → r σ H Q
structure DE (X : Cx) (e : Expr) (p : Bool) (r : TE) (t : DT) : Prop where
  pe : PE X e r
  sim : SimE p r t
structure DV (X : Cx) (e : Expr) (p : Bool) (r : TE) (t : DT) : Prop where
  pe : PE X e r
  sim : SimV p r t
structure DF (X : Cx) (e : Expr) (p : Bool) (r : TE) (t : DTF) : Prop where
  pe : PE X e r
  sim : SimF p r t
structure DB (X : Cx) (e : Expr) (p : Bool) (r : TT) (t : DTB) : Prop where
  pe : PT X e r
  sim : SimT p r t
structure DW (X : Cx) (e : Expr) (p : Bool) (r : TT) (t : DTB) : Prop where
  pe : PW X e r
  sim : SimT p r t
structure DA (X : Cx) (es : List Expr) (n : Nat) (p : Bool) (r : TA) (t : DTA) : Prop where
  pe : PA X es r
  sim : SimA n p r t
section
variable {X : Cx} {e a b c : Expr} {pos : Pos} {p p1 p2 p3 : Bool} {r ra rb rc : TE} {t ta tb tc : DT}
theorem DE.dv (h : DE X e p r t) : DV X e p r t := ⟨h.pe, fun S T H σ δ fp Q Q' s q k => h.sim S T H σ δ fp Q Q' s q fun S' H' fp' v d δ' l s' ri pu q' => k S' H' fp' v d δ' l s' (ri.view s'.s) pu q'⟩
/-! ### names, constants -/
def dVar (i : Nat) : DT := fun δ Q => match δ[i]? with
  | some (some (.i d)) => Q d δ
  | _ => False
def dVarV (i : Nat) : DT := fun δ Q => match δ[i]? with
  | some (some (.i d)) => Q d δ
  | some (some (.o _ (.lst ds))) => Q (.lst ds) δ
  | some (some (.o _ (.dK ks ds))) => Q (.dK ks ds) δ
  | some (some (.o _ (.dT ks ds))) => Q (.dT ks ds) δ
  | _ => False
theorem sim_var (i : Nat) : SimE true (tVar i) (dVar i) := by
  intro S T H σ δ fp Q Q' s q k
  have h := s.sl i
  unfold dVar at q
  split at q
  · rename_i d e
    rw [e] at h
    obtain ⟨⟨x, e1, r⟩, _⟩ := h
    exact ⟨x, e1, k S H fp x d δ (Le.refl _) s r .refl q⟩
  · exact q.elim
theorem sim_varV (i : Nat) : SimV true (tVar i) (dVarV i) := by
  intro S T H σ δ fp Q Q' s q k
  have h := s.sl i
  unfold dVarV at q
  split at q
  · rename_i d e
    rw [e] at h
    obtain ⟨⟨x, e1, r⟩, _⟩ := h
    exact ⟨x, e1, k S H fp x d δ (Le.refl _) s (r.view s.s) .refl q⟩
  · rename_i a ds e
    rw [e] at h
    obtain ⟨e1, xs, h1, h2, _⟩ := h
    exact ⟨_, e1, k S H fp _ (.lst ds) δ (Le.refl _) s ⟨a, xs, rfl, h1, h2⟩ .refl q⟩
  · rename_i a ks ds e
    rw [e] at h
    obtain ⟨e1, xs, h1, h2, h3, _⟩ := h
    exact ⟨_, e1, k S H fp _ (.dK ks ds) δ (Le.refl _) s ⟨a, xs, rfl, h1, h2, h3⟩ .refl q⟩
  · rename_i a ks ds e
    rw [e] at h
    obtain ⟨e1, xs, h1, h2, h3, _⟩ := h
    exact ⟨_, e1, k S H fp _ (.dT ks ds) δ (Le.refl _) s ⟨a, xs, rfl, h1, h2, h3⟩ .refl q⟩
  · exact q.elim
theorem dv (i : Nat) {x : Str} (hN : X.N[i]? = some x := by rfl) (hv : Vis X.env.scope x := by first | exact Or.inl rfl | exact Or.inr (Or.inl rfl) | exact Or.inr (Or.inr rfl)) (hd : (x == ("__debug__" : Str)) = false := by decide)
    (hcd : (x == ("__classdict__" : Str)) = false := by decide) : DE X (.Name x pos) true (tVar i) (dVar i) := ⟨pe_var hN hv hd hcd, sim_var i⟩
theorem vv (i : Nat) {x : Str} (hN : X.N[i]? = some x := by rfl) (hv : Vis X.env.scope x := by first | exact Or.inl rfl | exact Or.inr (Or.inl rfl) | exact Or.inr (Or.inr rfl)) (hd : (x == ("__debug__" : Str)) = false := by decide)
    (hcd : (x == ("__classdict__" : Str)) = false := by decide) : DV X (.Name x pos) true (tVar i) (dVarV i) := ⟨pe_var hN hv hd hcd, sim_varV i⟩
def dC (d : D) : DT := fun δ Q => Q d δ
theorem sim_C {d : D} {v : V} (h : ∀ S, RI S d v) : SimE true (tC v) (dC d) := fun S T H σ δ fp Q Q' s q k => k S H fp v d δ (Le.refl _) s (h S) .refl q
theorem de_int {i j} : DE X (.Constant (.int i) j pos) true (tC (.int i)) (dC (.int i)) := ⟨pe_int, sim_C fun S => by simp only [RI]⟩
theorem de_bl {i j} : DE X (.Constant (.bool i) j pos) true (tC (.bl i)) (dC (.bl i)) := ⟨pe_bl, sim_C fun S => by simp only [RI]⟩
theorem de_non {j} : DE X (.Constant .none j pos) true (tC .non) (dC .non) := ⟨pe_non, sim_C fun S => by simp only [RI]⟩
theorem de_str {x j} : DE X (.Constant (.str x) j pos) true (tC (.str x)) (dC (.str x)) := ⟨pe_str, sim_C fun S => by simp only [RI]⟩
/-! ### operators -/
def OpS (r : R2) (o : D → D → (D → Prop) → Prop) : Prop := ∀ (S T H : Hp) (σ : St) (δ : DEnv) (fp : Nat → List Addr) (x y : D) (v w : V) (Q : VK) (Q' : D → Prop), SR S T H σ δ fp → RV S H x v → RV S H y w → o x y Q' →
  (∀ (S' H' : Hp) (u : V) (d : D), Le S S' → SR S' T H' σ δ fp → RI S' d u → Ex S H S' H' → Q' d → Q u H') → r v w H Q
def dOp (o : D → D → (D → Prop) → Prop) (ta tb : DT) : DT := fun δ Q => ta δ fun x δ1 => tb δ1 fun y δ2 => o x y fun d => Q d δ2
theorem sim_op {r : R2} {o} (ho : OpS r o) (ha : SimV p1 ra ta) (hb : SimV true rb tb) : SimE p1 (tOp r ra rb) (dOp o ta tb) := by
  intro S T H σ δ fp Q Q' s q k
  refine ha S T H σ δ fp _ _ s q fun S1 H1 fp1 v x δ1 l1 s1 r1 u1 q1 => ?_
  refine hb S1 T H1 σ δ1 fp1 _ _ s1 q1 fun S2 H2 fp2 w y δ2 l2 s2 r2 u2 q2 => ?_
  obtain ⟨rfl, g2⟩ := u2.tt
  refine ho S2 T H2 σ _ fp2 x y v w _ _ s2 (r1.grow l2 g2.le) r2 q2 fun S3 H3 u d l3 s3 r3 g3 q3 => ?_
  exact k S3 H3 fp2 u d _ (l1.trans (l2.trans l3)) s3 r3 (u1.grow (g2.trans g3)) q3
theorem sim_opm {r : R2} {o} (ho : OpS r o) (ha : SimE p1 ra ta) (hb : SimV p2 rb tb) : SimE (p1 && p2) (tOp r ra rb) (dOp o ta tb) := by
  intro S T H σ δ fp Q Q' s q k
  refine ha S T H σ δ fp _ _ s q fun S1 H1 fp1 v x δ1 l1 s1 r1 u1 q1 => ?_
  refine hb S1 T H1 σ δ1 fp1 _ _ s1 q1 fun S2 H2 fp2 w y δ2 l2 s2 r2 u2 q2 => ?_
  refine ho S2 T H2 σ _ fp2 x y v w _ _ s2 ((r1.mono l2).view s2.s) r2 q2 fun S3 H3 u d l3 s3 r3 g3 q3 => ?_
  exact k S3 H3 fp2 u d _ (l1.trans (l2.trans l3)) s3 r3 ((u1.trans u2).grow g3) q3
theorem de_op {op : Operator} {r : R2} {o} (hr : OpR X (binaryOp op) r) (ho : OpS r o) (ha : DV X a p1 ra ta) (hb : DV X b true rb tb) : DE X (.BinOp a op b pos) p1 (tOp r ra rb) (dOp o ta tb) := ⟨pe_op hr ha.pe hb.pe, sim_op ho ha.sim hb.sim⟩
theorem de_opm {op : Operator} {r : R2} {o} (hr : OpR X (binaryOp op) r) (ho : OpS r o) (ha : DE X a p1 ra ta) (hb : DV X b p2 rb tb) : DE X (.BinOp a op b pos) (p1 && p2) (tOp r ra rb) (dOp o ta tb) := ⟨pe_op hr ha.pe hb.pe, sim_opm ho ha.sim hb.sim⟩
theorem de_cmp {op : CmpOp} {r : R2} {o} (hr : OpR X (compareOp op) r) (ho : OpS r o) (ha : DV X a p1 ra ta) (hb : DV X b true rb tb) (hm : behindInMarks op b = false) : DE X (.Compare a [op] [b] pos) p1 (tOp r ra rb) (dOp o ta tb) := ⟨pe_cmpR hr ha.pe hb.pe hm, sim_op ho ha.sim hb.sim⟩
theorem de_cmpm {op : CmpOp} {r : R2} {o} (hr : OpR X (compareOp op) r) (ho : OpS r o) (ha : DE X a p1 ra ta) (hb : DV X b p2 rb tb) (hm : behindInMarks op b = false) : DE X (.Compare a [op] [b] pos) (p1 && p2) (tOp r ra rb) (dOp o ta tb) := ⟨pe_cmpR hr ha.pe hb.pe hm, sim_opm ho ha.sim hb.sim⟩
/-- a truth value as a test -/
def dTest (t : DT) : DTB := fun δ Q => t δ fun d δ' => match d with
  | .bl b => Q b δ'
  | _ => False
theorem sim_test (h : SimE p r t) : SimT p (tTest r) (dTest t) := by
  intro S T H σ δ fp Q Q' s q k
  refine h S T H σ δ fp _ _ s q fun S1 H1 fp1 v x δ1 l1 s1 r1 u1 q1 => ?_
  cases x with
  | bl b => simp only [RI] at r1; subst r1; exact ⟨b, rfl, k S1 H1 fp1 b δ1 l1 s1 u1 q1⟩
  | _ => exact q1.elim
theorem db_cmp {op : CmpOp} {r : R2} {o} (hr : OpR X (compareOp op) r) (ho : OpS r o) (ha : DV X a p1 ra ta) (hb : DV X b true rb tb) (hm : behindInMarks op b = false) : DB X (.Compare a [op] [b] pos) p1 (tTest (tOp r ra rb)) (dTest (dOp o ta tb)) := ⟨pt_cmpR hr ha.pe hb.pe hm, sim_test (sim_op ho ha.sim hb.sim)⟩
theorem db_cmpm {op : CmpOp} {r : R2} {o} (hr : OpR X (compareOp op) r) (ho : OpS r o) (ha : DE X a p1 ra ta) (hb : DV X b p2 rb tb) (hm : behindInMarks op b = false) : DB X (.Compare a [op] [b] pos) (p1 && p2) (tTest (tOp r ra rb)) (dTest (dOp o ta tb)) := ⟨pt_cmpR hr ha.pe hb.pe hm, sim_test (sim_opm ho ha.sim hb.sim)⟩
theorem db_val (h : DE X e p r t) (he : ∀ whole, isTrue e X.env whole = (do let v ← whole; standAt e.pos; holding [v] (truthy v)) := by intro _; rfl) : DB X e p (tB r) (dTest t) := ⟨pt_val h.pe he, sim_test h.sim⟩
/-! ### and, or, not, if -/
variable {qa qb qc : TT} {ua ub uc : DTB} {rest : List Expr}
def dAnd (t u : DTB) : DTB := fun δ Q => t δ fun c δ1 => if c = true then u δ1 Q else Q false δ1
def dOr (t u : DTB) : DTB := fun δ Q => t δ fun c δ1 => if c = true then Q true δ1 else u δ1 Q
def dNot (t : DTB) : DTB := fun δ Q => t δ fun c δ1 => Q (!c) δ1
theorem sim_and (ha : SimT p1 qa ua) (hb : SimT p2 qb ub) : SimT (p1 && p2) (tAnd qa qb) (dAnd ua ub) := by
  intro S T H σ δ fp Q Q' s q k
  refine ha S T H σ δ fp _ _ s q fun S1 H1 fp1 c δ1 l1 s1 u1 q1 => ?_
  cases c with
  | true => exact hb S1 T H1 σ δ1 fp1 _ _ s1 q1 fun S2 H2 fp2 d δ2 l2 s2 u2 q2 => k S2 H2 fp2 d δ2 (l1.trans l2) s2 (u1.trans u2) q2
  | false => exact k S1 H1 fp1 false δ1 l1 s1 u1.left q1
theorem sim_or (ha : SimT p1 qa ua) (hb : SimT p2 qb ub) : SimT (p1 && p2) (tOr qa qb) (dOr ua ub) := by
  intro S T H σ δ fp Q Q' s q k
  refine ha S T H σ δ fp _ _ s q fun S1 H1 fp1 c δ1 l1 s1 u1 q1 => ?_
  cases c with
  | false => exact hb S1 T H1 σ δ1 fp1 _ _ s1 q1 fun S2 H2 fp2 d δ2 l2 s2 u2 q2 => k S2 H2 fp2 d δ2 (l1.trans l2) s2 (u1.trans u2) q2
  | true => exact k S1 H1 fp1 true δ1 l1 s1 u1.left q1
theorem sim_not (ha : SimT p1 qa ua) : SimT p1 (tNot qa) (dNot ua) := by
  intro S T H σ δ fp Q Q' s q k
  exact ha S T H σ δ fp _ _ s q fun S1 H1 fp1 c δ1 l1 s1 u1 q1 => k S1 H1 fp1 (!c) δ1 l1 s1 u1 q1
theorem dw_and1 (ha : DB X a p1 qa ua) : DW X (.BoolOp .And [a] pos) p1 qa ua := ⟨pw_and1 ha.pe, ha.sim⟩
theorem dw_or1 (ha : DB X a p1 qa ua) : DW X (.BoolOp .Or [a] pos) p1 qa ua := ⟨pw_or1 ha.pe, ha.sim⟩
theorem dw_and (ha : DB X a p1 qa ua) (hb : DW X (.BoolOp .And (b :: rest) pos) p2 qb ub) : DW X (.BoolOp .And (a :: b :: rest) pos) (p1 && p2) (tAnd qa qb) (dAnd ua ub) := ⟨pw_and ha.pe hb.pe, sim_and ha.sim hb.sim⟩
theorem dw_or (ha : DB X a p1 qa ua) (hb : DW X (.BoolOp .Or (b :: rest) pos) p2 qb ub) : DW X (.BoolOp .Or (a :: b :: rest) pos) (p1 && p2) (tOr qa qb) (dOr ua ub) := ⟨pw_or ha.pe hb.pe, sim_or ha.sim hb.sim⟩
theorem DW.db (h : DW X e p qa ua) : DB X e p qa ua := ⟨h.pe.pt, h.sim⟩
theorem db_not (ha : DB X a p1 qa ua) : DB X (.UnaryOp .Not a pos) p1 (tNot qa) (dNot ua) := ⟨pt_not ha.pe, sim_not ha.sim⟩
def dAndV (ta tb : DT) : DT := fun δ Q => ta δ fun x δ1 => match x with
  | .bl c => if c = true then tb δ1 Q else Q (.bl false) δ1
  | _ => False
def dOrV (ta tb : DT) : DT := fun δ Q => ta δ fun x δ1 => match x with
  | .bl c => if c = true then Q (.bl true) δ1 else tb δ1 Q
  | _ => False
def dNotV (ta : DT) : DT := fun δ Q => ta δ fun x δ1 => match x with
  | .bl c => Q (.bl (!c)) δ1
  | _ => False
theorem sim_andV (ha : SimE p1 ra ta) (hb : SimE p2 rb tb) : SimE (p1 && p2) (tAndV ra rb) (dAndV ta tb) := by
  intro S T H σ δ fp Q Q' s q k
  refine ha S T H σ δ fp _ _ s q fun S1 H1 fp1 v x δ1 l1 s1 r1 u1 q1 => ?_
  cases x with
  | bl c =>
    simp only [RI] at r1; subst r1
    refine ⟨c, rfl, ?_⟩
    cases c with
    | true => exact hb S1 T H1 σ δ1 fp1 _ _ s1 q1 fun S2 H2 fp2 w d δ2 l2 s2 r2 u2 q2 => k S2 H2 fp2 w d δ2 (l1.trans l2) s2 r2 (u1.trans u2) q2
    | false => exact k S1 H1 fp1 (.bl false) (.bl false) δ1 l1 s1 (by simp only [RI]) u1.left q1
  | _ => exact q1.elim
theorem sim_orV (ha : SimE p1 ra ta) (hb : SimE p2 rb tb) : SimE (p1 && p2) (tOrV ra rb) (dOrV ta tb) := by
  intro S T H σ δ fp Q Q' s q k
  refine ha S T H σ δ fp _ _ s q fun S1 H1 fp1 v x δ1 l1 s1 r1 u1 q1 => ?_
  cases x with
  | bl c =>
    simp only [RI] at r1; subst r1
    refine ⟨c, rfl, ?_⟩
    cases c with
    | false => exact hb S1 T H1 σ δ1 fp1 _ _ s1 q1 fun S2 H2 fp2 w d δ2 l2 s2 r2 u2 q2 => k S2 H2 fp2 w d δ2 (l1.trans l2) s2 r2 (u1.trans u2) q2
    | true => exact k S1 H1 fp1 (.bl true) (.bl true) δ1 l1 s1 (by simp only [RI]) u1.left q1
  | _ => exact q1.elim
theorem sim_notV (ha : SimE p1 ra ta) : SimE p1 (tNotV ra) (dNotV ta) := by
  intro S T H σ δ fp Q Q' s q k
  refine ha S T H σ δ fp _ _ s q fun S1 H1 fp1 v x δ1 l1 s1 r1 u1 q1 => ?_
  cases x with
  | bl c =>
    simp only [RI] at r1; subst r1
    exact ⟨c, rfl, k S1 H1 fp1 (.bl (!c)) (.bl (!c)) δ1 l1 s1 (by simp only [RI]) u1 q1⟩
  | _ => exact q1.elim
theorem de_one {op} (h : DE X a p r t) : DE X (.BoolOp op [a] pos) p r t := ⟨pe_one h.pe, h.sim⟩
theorem de_and (ha : DE X a p1 ra ta) (hb : DE X (.BoolOp .And (b :: rest) pos) p2 rb tb) : DE X (.BoolOp .And (a :: b :: rest) pos) (p1 && p2) (tAndV ra rb) (dAndV ta tb) := ⟨pe_and ha.pe hb.pe, sim_andV ha.sim hb.sim⟩
theorem de_or (ha : DE X a p1 ra ta) (hb : DE X (.BoolOp .Or (b :: rest) pos) p2 rb tb) : DE X (.BoolOp .Or (a :: b :: rest) pos) (p1 && p2) (tOrV ra rb) (dOrV ta tb) := ⟨pe_or ha.pe hb.pe, sim_orV ha.sim hb.sim⟩
theorem de_not (ha : DE X a p1 ra ta) : DE X (.UnaryOp .Not a pos) p1 (tNotV ra) (dNotV ta) := ⟨pe_not ha.pe, sim_notV ha.sim⟩
def dIf (u : DTB) (ta tb : DT) : DT := fun δ Q => u δ fun c δ1 => if c = true then ta δ1 Q else tb δ1 Q
theorem sim_if (hc : SimT p1 qa ua) (ha : SimE p2 ra ta) (hb : SimE p3 rb tb) : SimE (p1 && (p2 && p3)) (tIf qa ra rb) (dIf ua ta tb) := by
  intro S T H σ δ fp Q Q' s q k
  refine hc S T H σ δ fp _ _ s q fun S1 H1 fp1 c δ1 l1 s1 u1 q1 => ?_
  cases c with
  | true => exact ha S1 T H1 σ δ1 fp1 _ _ s1 q1 fun S2 H2 fp2 w d δ2 l2 s2 r2 u2 q2 => k S2 H2 fp2 w d δ2 (l1.trans l2) s2 r2 (u1.trans u2.left) q2
  | false => exact hb S1 T H1 σ δ1 fp1 _ _ s1 q1 fun S2 H2 fp2 w d δ2 l2 s2 r2 u2 q2 => k S2 H2 fp2 w d δ2 (l1.trans l2) s2 r2 (u1.trans (by rw [Bool.and_comm]; exact u2.left)) q2
theorem de_if (hc : DB X c p1 qa ua) (ha : DE X a p2 ra ta) (hb : DE X b p3 rb tb) : DE X (.IfExp c a b pos) (p1 && (p2 && p3)) (tIf qa ra rb) (dIf ua ta tb) := ⟨pe_ifExp hc.pe ha.pe hb.pe, sim_if hc.sim ha.sim hb.sim⟩
/-- a < b < c -/
def dChain (o o' : D → D → (D → Prop) → Prop) (ta tb tc : DT) : DT := fun δ Q => ta δ fun x δ1 => tb δ1 fun y δ2 => o x y fun z => match z with
  | .bl k => if k = true then tc δ2 fun w δ3 => o' y w fun d => Q d δ3 else Q (.bl false) δ2
  | _ => False
theorem sim_chain {r r' : R2} {o o'} (ho : OpS r o) (ho' : OpS r' o') (ha : SimE true ra ta) (hb : SimE true rb tb) (hc : SimE true rc tc) : SimE true (tChain r r' ra rb rc) (dChain o o' ta tb tc) := by
  intro S T H σ δ fp Q Q' s q k
  refine ha S T H σ δ fp _ _ s q fun S1 H1 fp1 v x δ1 l1 s1 r1 u1 q1 => ?_
  refine hb S1 T H1 σ δ1 fp1 _ _ s1 q1 fun S2 H2 fp2 w y δ2 l2 s2 r2 u2 q2 => ?_
  refine ho S2 T H2 σ _ fp2 x y v w _ _ s2 ((r1.mono l2).view s2.s) (r2.view s2.s) q2 fun S3 H3 u d l3 s3 r3 g3 q3 => ?_
  cases d with
  | bl kk =>
    simp only [RI] at r3; subst r3
    refine ⟨kk, rfl, ?_⟩
    cases kk with
    | true =>
      refine hc S3 T H3 σ _ fp2 _ _ s3 q3 fun S4 H4 fp4 w4 y4 δ4 l4 s4 r4 u4 q4 => ?_
      refine ho' S4 T H4 σ _ fp4 y y4 w w4 _ _ s4 ((r2.mono (l3.trans l4)).view s4.s) (r4.view s4.s) q4 fun S5 H5 u5 d5 l5 s5 r5 g5 q5 => ?_
      exact k S5 H5 fp4 u5 d5 _ (l1.trans (l2.trans (l3.trans (l4.trans l5)))) s5 r5 ((((u1.trans u2).grow g3).trans u4).grow g5) q5
    | false => exact k S3 H3 fp2 _ (.bl false) _ (l1.trans (l2.trans l3)) s3 (by simp only [RI]) ((u1.trans u2).grow g3) q3
  | _ => exact q3.elim
theorem de_chain {op op' : CmpOp} {r r' : R2} {o o'} (hr : OpR X (compareOp op) r) (hr' : OpR X (compareOp op') r') (ho : OpS r o) (ho' : OpS r' o') (ha : DE X a true ra ta) (hb : DE X b true rb tb) (hc : DE X c true rc tc)
    (hm : lastMarks [op, op'] [b, c] = false := by with_unfolding_all rfl) : DE X (.Compare a [op, op'] [b, c] pos) true (tChain r r' ra rb rc) (dChain o o' ta tb tc) := ⟨pe_chain hr hr' ha.pe hb.pe hc.pe hm, sim_chain ho ho' ha.sim hb.sim hc.sim⟩
theorem db_chain {op op' : CmpOp} {r r' : R2} {o o'} (hr : OpR X (compareOp op) r) (hr' : OpR X (compareOp op') r') (ho : OpS r o) (ho' : OpS r' o') (ha : DE X a true ra ta) (hb : DE X b true rb tb) (hc : DE X c true rc tc)
    (hm : lastMarks [op, op'] [b, c] = false := by with_unfolding_all rfl) : DB X (.Compare a [op, op'] [b, c] pos) true (tTest (tChain r r' ra rb rc)) (dTest (dChain o o' ta tb tc)) := ⟨pt_chain hr hr' ha.pe hb.pe hc.pe hm, sim_test (sim_chain ho ho' ha.sim hb.sim hc.sim)⟩
/-! ### argument lists, displays -/
variable {es : List Expr} {n : Nat} {wa : TA} {va : DTA}
def dNil : DTA := fun δ Q => Q [] δ
def dCons (t : DT) (u : DTA) : DTA := fun δ Q => t δ fun d δ1 => u δ1 fun ds δ2 => Q (d :: ds) δ2
theorem da_nil : DA X [] 0 true tNil dNil := ⟨pa_nil, fun S T H σ δ fp Q Q' s q k => k S H fp [] [] δ (Le.refl _) s .nil rfl .refl q⟩
theorem da_cons (ha : DE X a p1 ra ta) (hr : DA X es n p2 wa va) (hs : starEach (a :: es) X.env = (false, eval a X.env) :: starEach es X.env := by rfl) : DA X (a :: es) (n + 1) (p1 && p2) (tCons ra wa) (dCons ta va) := by
  refine ⟨pa_cons ha.pe hr.pe hs, ?_⟩
  intro S T H σ δ fp Q Q' s q k
  refine ha.sim S T H σ δ fp _ _ s q fun S1 H1 fp1 v x δ1 l1 s1 r1 u1 q1 => ?_
  refine hr.sim S1 T H1 σ δ1 fp1 _ _ s1 q1 fun S2 H2 fp2 vs ds δ2 l2 s2 r2 e2 u2 q2 => ?_
  exact k S2 H2 fp2 (v :: vs) (x :: ds) δ2 (l1.trans l2) s2 (.cons (r1.mono l2) r2) (by simp [e2]) (u1.trans u2) q2
def dTup (t : DTA) : DT := fun δ Q => t δ fun ds δ1 => Q (.tup ds) δ1
def dLst (t : DTA) : DTF := fun δ Q => t δ fun ds δ1 => ∀ a, Q a (.lst ds) δ1
theorem small {n : Nat} (h : n ≤ 1000) : n ≤ sizeLine := Nat.le_trans h (by decide)
theorem de_tup {k} (h : DA X es n p wa va) (hn : n ≤ 1000 := by decide) : DE X (.Tuple es k pos) p (tTupX wa) (dTup va) := by
  refine ⟨pe_tupX h.pe, ?_⟩
  intro S T H σ δ fp Q Q' s q k
  refine h.sim S T H σ δ fp _ _ s q fun S1 H1 fp1 vs ds δ1 l1 s1 r1 e1 u1 q1 => ?_
  refine ⟨by rw [← r1.len, e1]; exact small hn, fun p ob hp hd => ?_⟩
  have f := s1.fresh hp
  exact k _ _ fp1 _ (.tup ds) δ1 (l1.trans (le_upd f.1)) (s1.frz hp) (by simp only [RI]; exact ⟨p, vs, rfl, ⟨ob, upd_same, hd⟩, r1.mono (le_upd f.1)⟩) (u1.grow (ex_upd hp)) q1
theorem df_lst (h : DA X es n p wa va) (hn : n ≤ 1000 := by decide) : DF X (.List es pos) p (tLst wa) (dLst va) := by
  refine ⟨pe_lst h.pe, ?_⟩
  intro S T H σ δ fp Q Q' s q k
  refine h.sim S T H σ δ fp _ _ s q fun S1 H1 fp1 vs ds δ1 l1 s1 r1 e1 u1 q1 => ?_
  refine ⟨by rw [← r1.len, e1]; exact small hn, fun p hp => ?_⟩
  have f := s1.fresh hp
  exact k S1 _ fp1 p (.lst ds) δ1 l1 (s1.new hp) ⟨⟨vs, upd_same, r1, rfl⟩, f.1, f.2.1, f.2.2⟩ (u1.grow (ex_updH hp)) (fun e => le_none ((u1 e).2.le) hp) (q1 p)
/-- a new object taken as data for good -/
def frz : O → Option D
  | .lst ds => some (.lst ds)
  | .dK ks ds => some (.dK ks ds)
  | .dT ks ds => some (.dT ks ds)
  | .rng _ _ _ => none
  | .ll _ => none
def dFrz (t : DTF) : DT := fun δ Q => t δ fun _ w δ1 => match w with
  | .lst ds => Q (.lst ds) δ1
  | .dK ks ds => Q (.dK ks ds) δ1
  | .dT ks ds => Q (.dT ks ds) δ1
  | .rng _ _ _ => False
  | .ll _ => False
theorem sim_frz {u : DTF} (h : SimF p r u) : SimE p r (dFrz u) := by
  intro S T H σ δ fp Q Q' s q k
  refine h S T H σ δ fp _ _ s q fun S1 H1 fp1 a w δ1 l1 s1 f1 u1 n1 q1 => ?_
  have o1 := f1.oi
  have u2 : ∀ o : HO, Pur p δ δ1 S H (upd S1 a o) H1 := fun o e => ⟨(u1 e).1, (u1 e).2.le, fun b hb hs => by
    have eb : b ≠ a := fun z => hb (z ▸ n1 e)
    rw [upd_ne eb]; exact (u1 e).2.fr b hb hs⟩
  cases w with
  | lst ds =>
    obtain ⟨xs, h1, h2, _⟩ := o1
    exact k _ _ fp1 _ (.lst ds) δ1 (l1.trans (le_upd f1.s)) (s1.adopt h1 f1.s f1.t f1.f) (by simp only [RI]; exact ⟨a, xs, rfl, upd_same, h2.mono (le_upd f1.s)⟩) (u2 _) q1
  | dK ks ds =>
    obtain ⟨xs, h1, h2, h3, _⟩ := o1
    exact k _ _ fp1 _ (.dK ks ds) δ1 (l1.trans (le_upd f1.s)) (s1.adopt h1 f1.s f1.t f1.f) (by simp only [RI]; exact ⟨a, xs, rfl, upd_same, h2, h3.mono (le_upd f1.s)⟩) (u2 _) q1
  | dT ks ds =>
    obtain ⟨xs, h1, h2, h3, _⟩ := o1
    exact k _ _ fp1 _ (.dT ks ds) δ1 (l1.trans (le_upd f1.s)) (s1.adopt h1 f1.s f1.t f1.f) (by simp only [RI]; exact ⟨a, xs, rfl, upd_same, h2, h3.mono (le_upd f1.s)⟩) (u2 _) q1
  | rng _ _ _ => exact q1.elim
  | ll _ => exact q1.elim
theorem DF.de {u : DTF} (h : DF X e p r u) : DE X e p r (dFrz u) := ⟨h.pe, sim_frz h.sim⟩
end
end SW

namespace SW
open PySem PySem.Spec PyProof.Rows L2
/-! ### ints and more -/
theorem rv_int {S H : Hp} {i : Int} {v : V} (h : RV S H (.int i) v) : v = .int i := h
theorem rv_str {S H : Hp} {i : Str} {v : V} (h : RV S H (.str i) v) : v = .str i := h
theorem ri_int {S : Hp} {i : Int} : RI S (.int i) (.int i) := by simp only [RI]
theorem ri_bl {S : Hp} {i : Bool} : RI S (.bl i) (.bl i) := by simp only [RI]
theorem ri_non {S : Hp} : RI S .non .non := by simp only [RI]
theorem ri_str {S : Hp} {i : Str} : RI S (.str i) (.str i) := by simp only [RI]
theorem ri_lst {S : Hp} {a : Addr} {xs : List V} {ds : List D} (h : S a = some (.lst xs)) (r : RIs S ds xs) : RI S (.lst ds) (.ref a) := by simp only [RI]; exact ⟨a, xs, rfl, h, r⟩
theorem ri_tup {S : Hp} {a : Addr} {xs : List V} {ds : List D} (h : TupAt S a xs) (r : RIs S ds xs) : RI S (.tup ds) (.ref a) := by simp only [RI]; exact ⟨a, xs, rfl, h, r⟩
section
variable {S T H : Hp} {σ : St} {δ : DEnv} {fp : Nat → List Addr}
/-- a new tuple for good -/
theorem SR.newTup (s : SR S T H σ δ fp) {ds : List D} {xs : List V} (r : RIs S ds xs) {p : Addr} {ob : Obj} (hp : H p = none) (hd : ob.dict = none) :
    Le S (upd S p (.frz ob (.tup xs))) ∧ SR (upd S p (.frz ob (.tup xs))) T (upd H p (.frz ob (.tup xs))) σ δ fp ∧ RI (upd S p (.frz ob (.tup xs))) (.tup ds) (.ref p) ∧ Ex S H (upd S p (.frz ob (.tup xs))) (upd H p (.frz ob (.tup xs))) :=
  have f := s.fresh hp
  ⟨le_upd f.1, s.frz hp, ri_tup ⟨ob, upd_same, hd⟩ (r.mono (le_upd f.1)), ex_upd hp⟩
theorem SR.newLst (s : SR S T H σ δ fp) {ds : List D} {xs : List V} (r : RIs S ds xs) {p : Addr} (hp : H p = none) :
    Le S (upd S p (.lst xs)) ∧ SR (upd S p (.lst xs)) T (upd H p (.lst xs)) σ δ fp ∧ RI (upd S p (.lst xs)) (.lst ds) (.ref p) ∧ Ex S H (upd S p (.lst xs)) (upd H p (.lst xs)) :=
  have f := s.fresh hp
  ⟨le_upd f.1, s.frz hp, ri_lst upd_same (r.mono (le_upd f.1)), ex_upd hp⟩
theorem SR.frLst (s : SR S T H σ δ fp) {ds : List D} {xs : List V} (r : RIs S ds xs) {p : Addr} (hp : H p = none) :
    SR S T (upd H p (.lst xs)) σ δ fp ∧ Fr S T (upd H p (.lst xs)) fp p (.lst ds) ∧ Ex S H S (upd H p (.lst xs)) :=
  have f := s.fresh hp
  ⟨s.new hp, ⟨⟨xs, upd_same, r, rfl⟩, f.1, f.2.1, f.2.2⟩, ex_updH hp⟩
end
def addD : D → D → (D → Prop) → Prop
  | .int i, .int j, q => q (.int (i + j))
  | .str x, .str y, q => x.length + y.length ≤ sizeLine ∧ q (.str (x ++ y))
  | .tup xs, .tup ys, q => xs.length + ys.length ≤ sizeLine ∧ q (.tup (xs ++ ys))
  | .lst xs, .lst ys, q => xs.length + ys.length ≤ sizeLine ∧ q (.lst (xs ++ ys))
  | _, _, _ => False
def rAddStr : R2 := fun x y H Q => ∃ i j, x = .str i ∧ y = .str j ∧ i.length + j.length ≤ sizeLine ∧ Q (.str (i ++ j)) H
def rAddAny (K : PySem.W.Frag) : R2 := fun x y H Q => (rI0 fun i j => .int (i + j)) x y H Q ∨ rAddStr x y H Q ∨ rCatX K x y H Q ∨ rCat x y H Q
section
variable {X : Cx} {K : PySem.W.Frag}
theorem or_add : OpR X (binaryOp .Add) (rAddAny X.K) := op_add.or (OpR.or op_add_str (op_catX.or op_cat))
theorem os_add : OpS (rAddAny K) addD := by
  intro S T H σ δ fp x y v w Q Q' s rx ry q k
  unfold addD at q
  split at q
  · cases rx; cases ry
    exact .inl ⟨_, _, rfl, rfl, k S H _ _ (Le.refl _) s ri_int (Ex.refl _ _) q⟩
  · cases rx; cases ry
    exact .inr (.inl ⟨_, _, rfl, rfl, q.1, k S H _ _ (Le.refl _) s ri_str (Ex.refl _ _) q.2⟩)
  · rename_i ds es
    obtain ⟨a, xs, rfl, h1, h2⟩ := rx
    obtain ⟨b, ys, rfl, h3, h4⟩ := ry
    refine .inr (.inr (.inl ⟨a, b, xs, ys, rfl, rfl, h1.sq s.s, h3.sq s.s, by rw [← h2.len, ← h4.len]; exact q.1, ?_, ?_, ?_⟩))
    · rintro rfl
      have e : ds = [] := List.eq_nil_of_length_eq_zero h2.len
      subst e
      exact k S H _ _ (Le.refl _) s (ri_tup h3 h4) (Ex.refl _ _) q.2
    · rintro _ rfl
      have e : es = [] := List.eq_nil_of_length_eq_zero h4.len
      subst e
      exact k S H _ (.tup (ds ++ [])) (Le.refl _) s (by rw [List.append_nil]; exact ri_tup h1 h2) (Ex.refl _ _) q.2
    · rintro _ _ p ob hp hd
      obtain ⟨a1, a2, a3, a4⟩ := s.newTup (h2.append h4) hp hd
      exact k _ _ _ _ a1 a2 a3 a4 q.2
  · rename_i ds es
    obtain ⟨a, xs, rfl, h1, h2⟩ := rx
    obtain ⟨b, ys, rfl, h3, h4⟩ := ry
    refine .inr (.inr (.inr ⟨a, b, xs, ys, rfl, rfl, h1, h3, by rw [← h2.len, ← h4.len]; exact q.1, fun p hp => ?_⟩))
    obtain ⟨a1, a2, a3, a4⟩ := s.newLst (h2.append h4) hp
    exact k _ _ _ _ a1 a2 a3 a4 q.2
  · exact q.elim
def i2D (C : Int → Int → Prop) (g : Int → Int → D) : D → D → (D → Prop) → Prop
  | .int i, .int j, q => C i j ∧ q (g i j)
  | _, _, _ => False
def i2D0 (g : Int → Int → D) : D → D → (D → Prop) → Prop
  | .int i, .int j, q => q (g i j)
  | _, _, _ => False
theorem os_i2 {C : Int → Int → Prop} {g : Int → Int → V} {g' : Int → Int → D} (hg : ∀ S i j, RI S (g' i j) (g i j)) : OpS (rI C g) (i2D C g') := by
  intro S T H σ δ fp x y v w Q Q' s rx ry q k
  unfold i2D at q
  split at q
  · cases rx; cases ry
    exact ⟨_, _, rfl, rfl, q.1, k S H _ _ (Le.refl _) s (hg _ _ _) (Ex.refl _ _) q.2⟩
  · exact q.elim
theorem os_i20 {g : Int → Int → V} {g' : Int → Int → D} (hg : ∀ S i j, RI S (g' i j) (g i j)) : OpS (rI0 g) (i2D0 g') := by
  intro S T H σ δ fp x y v w Q Q' s rx ry q k
  unfold i2D0 at q
  split at q
  · cases rx; cases ry
    exact ⟨_, _, rfl, rfl, k S H _ _ (Le.refl _) s (hg _ _ _) (Ex.refl _ _) q⟩
  · exact q.elim
abbrev subD := i2D0 fun i j => D.int (i - j)
abbrev mulID := i2D CMul fun i j => D.int (i * j)
abbrev fdivD := i2D CDiv fun i j => D.int (i / j)
abbrev modD := i2D (fun _ j => 0 < j) fun i j => D.int (i % j)
abbrev ltD := i2D0 fun i j => D.bl (decide (i < j))
abbrev leD := i2D0 fun i j => D.bl (decide (i ≤ j))
abbrev gtD := i2D0 fun i j => D.bl (decide (j < i))
abbrev geD := i2D0 fun i j => D.bl (decide (j ≤ i))
theorem os_sub : OpS (rI0 fun i j => .int (i - j)) subD := os_i20 fun _ _ _ => ri_int
theorem os_mul : OpS (rI CMul fun i j => .int (i * j)) mulID := os_i2 fun _ _ _ => ri_int
theorem os_fdiv : OpS (rI CDiv fun i j => .int (i / j)) fdivD := os_i2 fun _ _ _ => ri_int
theorem os_mod : OpS (rI (fun _ j => 0 < j) fun i j => .int (i % j)) modD := os_i2 fun _ _ _ => ri_int
theorem os_lt : OpS (rI0 fun i j => .bl (decide (i < j))) ltD := os_i20 fun _ _ _ => ri_bl
theorem os_le : OpS (rI0 fun i j => .bl (decide (i ≤ j))) leD := os_i20 fun _ _ _ => ri_bl
theorem os_gt : OpS (rI0 fun i j => .bl (decide (j < i))) gtD := os_i20 fun _ _ _ => ri_bl
theorem os_ge : OpS (rI0 fun i j => .bl (decide (j ≤ i))) geD := os_i20 fun _ _ _ => ri_bl
/-! ### equality -/
mutual
def py : D → PyData
  | .non => .none
  | .bl b => .bool b
  | .int i => .int i
  | .str x => .str x
  | .lst ds => .list (pys ds)
  | .tup ds => .tuple (pys ds)
  | .dK _ _ => .none
  | .dT _ _ => .none
  | .opq _ => .none
  | .scr _ _ _ => .none
  | .exc _ _ _ => .none
def pys : List D → List PyData
  | [] => []
  | d :: ds => py d :: pys ds
end
mutual
def plain : D → Bool
  | .non => true
  | .bl _ => true
  | .int _ => true
  | .str _ => true
  | .lst ds => plains ds
  | .tup ds => plains ds
  | .dK _ _ => false
  | .dT _ _ => false
  | .opq _ => false
  | .scr _ _ _ => false
  | .exc _ _ _ => false
def plains : List D → Bool
  | [] => true
  | d :: ds => plain d && plains ds
end
mutual
theorem RI.dp {S H : Hp} (l : Le S H) : ∀ {d : D} {v : V}, RI S d v → plain d = true → Dp K H v (py d)
  | .non, v, h, _ => by simp only [RI] at h; subst h; simp only [py]; exact .non
  | .bl b, v, h, _ => by simp only [RI] at h; subst h; simp only [py]; exact .bl b
  | .int b, v, h, _ => by simp only [RI] at h; subst h; simp only [py]; exact .int b
  | .str b, v, h, _ => by simp only [RI] at h; subst h; simp only [py]; exact .str b
  | .lst ds, v, h, e => by
    simp only [RI] at h; obtain ⟨a, xs, rfl, h1, h2⟩ := h
    simp only [plain] at e
    simp only [py]; exact .lst (SqL.of (l _ _ h1)) (RIs.dp l h2 e)
  | .tup ds, v, h, e => by
    simp only [RI] at h; obtain ⟨a, xs, rfl, h1, h2⟩ := h
    simp only [plain] at e
    simp only [py]; exact .tup (h1.sq l) (RIs.dp l h2 e)
  | .dK _ _, v, h, e => by simp [plain] at e
  | .dT _ _, v, h, e => by simp [plain] at e
  | .opq _, v, h, e => by simp [plain] at e
  | .scr _ _ _, v, h, e => by simp [plain] at e
  | .exc _ _ _, v, h, e => by simp [plain] at e
theorem RIs.dp {S H : Hp} (l : Le S H) : ∀ {ds : List D} {vs : List V}, RIs S ds vs → plains ds = true → DpAll K H vs (pys ds)
  | [], vs, h, _ => by simp only [RIs] at h; subst h; simp only [pys]; exact .nil
  | d :: ds, vs, h, e => by
    simp only [RIs] at h; obtain ⟨y, ys, rfl, h1, h2⟩ := h
    simp only [plains, Bool.and_eq_true] at e
    simp only [pys]; exact .cons (RI.dp l h1 e.1) (RIs.dp l h2 e.2)
end
theorem RV.dp {S H : Hp} (l : Le S H) {d : D} {v : V} (h : RV S H d v) (e : plain d = true) : Dp K H v (py d) := by
  cases d with
  | lst ds =>
    obtain ⟨a, xs, rfl, h1, h2⟩ := h
    simp only [plain] at e
    simp only [py]; exact .lst (SqL.of h1) (h2.dp l e)
  | tup ds => exact RI.dp l (by simp only [RI]; exact h) e
  | non => exact RI.dp l (by simp only [RI]; exact h) e
  | bl _ => exact RI.dp l (by simp only [RI]; exact h) e
  | int _ => exact RI.dp l (by simp only [RI]; exact h) e
  | str _ => exact RI.dp l (by simp only [RI]; exact h) e
  | dK _ _ => simp [plain] at e
  | dT _ _ => simp [plain] at e
  | opq _ => simp [plain] at e
  | scr _ _ _ => simp [plain] at e
  | exc _ _ _ => simp [plain] at e
/-- may be compared -/
def okq (d : D) : Bool := plain d && SeqAt.shaped (py d)
def eqD : D → D → (D → Prop) → Prop := fun x y q => okq x = true ∧ okq y = true ∧ q (.bl (PyData.eqv (py x) (py y)))
def neD : D → D → (D → Prop) → Prop := fun x y q => okq x = true ∧ okq y = true ∧ q (.bl (!PyData.eqv (py x) (py y)))
theorem os_eq : OpS (rEqD K) eqD := by
  intro S T H σ δ fp x y v w Q Q' s rx ry ⟨q1, q2, q3⟩ k
  unfold okq at q1 q2
  rw [Bool.and_eq_true] at q1 q2
  exact ⟨_, _, rx.dp s.s q1.1, ry.dp s.s q2.1, q1.2, q2.2, k S H _ _ (Le.refl _) s ri_bl (Ex.refl _ _) q3⟩
theorem os_ne : OpS (rNeD K) neD := by
  intro S T H σ δ fp x y v w Q Q' s rx ry ⟨q1, q2, q3⟩ k
  unfold okq at q1 q2
  rw [Bool.and_eq_true] at q1 q2
  exact ⟨_, _, rx.dp s.s q1.1, ry.dp s.s q2.1, q1.2, q2.2, k S H _ _ (Le.refl _) s ri_bl (Ex.refl _ _) q3⟩
def isND : D → D → (D → Prop) → Prop
  | .non, .non, q => q (.bl true)
  | _, .non, q => q (.bl false)
  | _, _, _ => False
def isNND : D → D → (D → Prop) → Prop
  | .non, .non, q => q (.bl false)
  | .opq _, .non, _ => False
  | .scr _ _ _, .non, _ => False
  | _, .non, q => q (.bl true)
  | _, _, _ => False
theorem rv_non {S H : Hp} {d : D} {v : V} (h : RV S H d v) : d = .non ∨ (∃ u, d = .opq u) ∨ v ≠ .non := by
  cases d with
  | non => exact .inl rfl
  | opq u => exact .inr (.inl ⟨u, rfl⟩)
  | bl b => cases h; exact .inr (.inr nofun)
  | int b => cases h; exact .inr (.inr nofun)
  | str b => cases h; exact .inr (.inr nofun)
  | lst b => obtain ⟨a, xs, rfl, _⟩ := h; exact .inr (.inr nofun)
  | tup b => obtain ⟨a, xs, rfl, _⟩ := h; exact .inr (.inr nofun)
  | dK b c => obtain ⟨a, xs, rfl, _⟩ := h; exact .inr (.inr nofun)
  | dT b c => obtain ⟨a, xs, rfl, _⟩ := h; exact .inr (.inr nofun)
  | scr a ns c => obtain ⟨rfl, _⟩ := h; exact .inr (.inr nofun)
  | exc _ _ _ => obtain ⟨a, d, xs, rfl, _⟩ := h; exact .inr (.inr nofun)
end
def isNone : D → (D → Prop) → Prop
  | .non, q => q (.bl true)
  | .opq _, _ => False
  | .scr _ _ _, _ => False
  | _, q => q (.bl false)
def notNone : D → (D → Prop) → Prop
  | .non, q => q (.bl false)
  | .opq _, _ => False
  | .scr _ _ _, _ => False
  | _, q => q (.bl true)
def dIsN (o : D → (D → Prop) → Prop) (t : DT) : DT := fun δ Q => t δ fun d δ' => o d fun z => Q z δ'
section
variable {X : Cx} {e a b : Expr} {pos pos' : Pos} {p p1 p2 : Bool} {r ra rb : TE} {t ta tb : DT}
theorem sim_isN (h : SimV p r t) : SimE p (tOp (fun x y H Q => y = .non ∧ Q (.bl (decide (x = .non))) H) r (tC .non)) (dIsN isNone t) := by
  intro S T H σ δ fp Q Q' s q k
  refine h S T H σ δ fp _ _ s q fun S1 H1 fp1 v x δ1 l1 s1 r1 u1 q1 => ?_
  refine ⟨rfl, ?_⟩
  rcases rv_non r1 with rfl | ⟨u, rfl⟩ | hv
  · cases r1; exact k S1 H1 fp1 _ _ δ1 l1 s1 (by rw [decide_eq_true rfl]; exact ri_bl) u1 q1
  · exact q1.elim
  · rw [decide_eq_false hv]
    cases x with
    | non => cases r1; exact absurd rfl hv
    | opq _ => exact q1.elim
    | scr _ _ _ => exact q1.elim
    | _ => exact k S1 H1 fp1 _ _ δ1 l1 s1 ri_bl u1 q1
theorem sim_notN (h : SimV p r t) : SimE p (tOp (fun x y H Q => y = .non ∧ Q (.bl (!decide (x = .non))) H) r (tC .non)) (dIsN notNone t) := by
  intro S T H σ δ fp Q Q' s q k
  refine h S T H σ δ fp _ _ s q fun S1 H1 fp1 v x δ1 l1 s1 r1 u1 q1 => ?_
  refine ⟨rfl, ?_⟩
  rcases rv_non r1 with rfl | ⟨u, rfl⟩ | hv
  · cases r1; exact k S1 H1 fp1 _ _ δ1 l1 s1 (by rw [decide_eq_true rfl]; exact ri_bl) u1 q1
  · exact q1.elim
  · rw [decide_eq_false hv]
    cases x with
    | non => cases r1; exact absurd rfl hv
    | opq _ => exact q1.elim
    | scr _ _ _ => exact q1.elim
    | _ => exact k S1 H1 fp1 _ _ δ1 l1 s1 ri_bl u1 q1
theorem de_isN {j} (h : DV X a p ra ta) : DE X (.Compare a [.Is] [.Constant .none j pos'] pos) p (tOp (fun x y H Q => y = .non ∧ Q (.bl (decide (x = .non))) H) ra (tC .non)) (dIsN isNone ta) := ⟨pe_cmpR op_isN h.pe pe_non (nomark _), sim_isN h.sim⟩
theorem de_notN {j} (h : DV X a p ra ta) : DE X (.Compare a [.IsNot] [.Constant .none j pos'] pos) p (tOp (fun x y H Q => y = .non ∧ Q (.bl (!decide (x = .non))) H) ra (tC .non)) (dIsN notNone ta) := ⟨pe_cmpR op_notN h.pe pe_non (nomark _), sim_notN h.sim⟩
theorem db_isN {j} (h : DV X a p ra ta) : DB X (.Compare a [.Is] [.Constant .none j pos'] pos) p (tTest (tOp (fun x y H Q => y = .non ∧ Q (.bl (decide (x = .non))) H) ra (tC .non))) (dTest (dIsN isNone ta)) := ⟨pt_cmpR op_isN h.pe pe_non (nomark _), sim_test (sim_isN h.sim)⟩
theorem db_notN {j} (h : DV X a p ra ta) : DB X (.Compare a [.IsNot] [.Constant .none j pos'] pos) p (tTest (tOp (fun x y H Q => y = .non ∧ Q (.bl (!decide (x = .non))) H) ra (tC .non))) (dTest (dIsN notNone ta)) := ⟨pt_cmpR op_notN h.pe pe_non (nomark _), sim_test (sim_notN h.sim)⟩
/-! ### subscripts -/
def idxD : D → D → (D → Prop) → Prop
  | .lst ds, .int i, q => ∃ d, atI ds i = some d ∧ q d
  | .tup ds, .int i, q => ∃ d, atI ds i = some d ∧ q d
  | _, _, _ => False
theorem RIs.at {S : Hp} {ds : List D} {xs : List V} {i : Int} {d : D} (h : RIs S ds xs) (e : atI ds i = some d) : ∃ x, atI xs i = some x ∧ RI S d x := by
  unfold atI at e ⊢
  rw [← h.len]
  cases q : ixN ds.length i with
  | none => rw [q] at e; cases e
  | some j => rw [q] at e; exact h.get e
variable {K : PySem.W.Frag}
theorem os_idx : OpS (rIx K) idxD := by
  intro S T H σ δ fp x y v w Q Q' s rx ry q k
  unfold idxD at q
  split at q
  · obtain ⟨a, xs, rfl, h1, h2⟩ := rx
    cases ry
    obtain ⟨d, e, q⟩ := q
    obtain ⟨u, e', r⟩ := h2.at e
    exact .inl ⟨a, xs, _, u, rfl, rfl, SqL.of h1, e', k S H _ _ (Le.refl _) s r (Ex.refl _ _) q⟩
  · obtain ⟨a, xs, rfl, h1, h2⟩ := rx
    cases ry
    obtain ⟨d, e, q⟩ := q
    obtain ⟨u, e', r⟩ := h2.at e
    exact .inr (.inl ⟨a, xs, _, u, rfl, rfl, h1.sq s.s, e', k S H _ _ (Le.refl _) s r (Ex.refl _ _) q⟩)
  · exact q.elim
theorem de_idx (ha : DV X a p1 ra ta) (hb : DE X b true rb tb) (hs : PlainIx b := by exact fun _ _ => rfl) : DE X (.Subscript a b pos) p1 (tOp (rIx X.K) ra rb) (dOp idxD ta tb) := ⟨pe_ix ix_seq ha.pe hb.pe hs, sim_op os_idx ha.sim hb.dv.sim⟩
theorem de_idxm (ha : DE X a p1 ra ta) (hb : DE X b p2 rb tb) (hs : PlainIx b := by exact fun _ _ => rfl) : DE X (.Subscript a b pos) (p1 && p2) (tOp (rIx X.K) ra rb) (dOp idxD ta tb) := ⟨pe_ix ix_seq ha.pe hb.pe hs, sim_opm os_idx ha.sim hb.dv.sim⟩
/-- slices -/
def cutL {α : Type} (xs : List α) (lo hi : Option Int) : List α := (xs.drop (HT.sIx xs.length 0 lo)).take (HT.sIx xs.length xs.length hi - HT.sIx xs.length 0 lo)
def rSlAny (K : PySem.W.Frag) : V → Option Int → Option Int → Hp → VK → Prop := fun x lo hi H Q => rSlL K x lo hi H Q ∨ rSlX K x lo hi H Q
theorem sl_any : SlR X (rSlAny X.K) := sl_list.or sl_tupX
abbrev DTO := DEnv → (Option Int → DEnv → Prop) → Prop
structure DO (X : Cx) (e : Option Expr) (r : TO) (t : DTO) : Prop where
  pe : PO X e r
  sim : ∀ (S T H : Hp) (σ : St) (δ : DEnv) (fp : Nat → List Addr) (Q : Option Int → Hp → Prop) (Q' : Option Int → DEnv → Prop), SR S T H σ δ fp → t δ Q' →
    (∀ (S' H' : Hp) (fp' : Nat → List Addr) (o : Option Int) , Le S S' → SR S' T H' σ δ fp' → Ex S H S' H' → Q' o δ → Q o H') → r σ H Q
def dNoPart : DTO := fun δ Q => Q none δ
def dPart (t : DT) : DTO := fun δ Q => t δ fun d δ' => match d with
  | .int i => Q (some i) δ'
  | _ => False
theorem do_none : DO X none tNoPart dNoPart := ⟨po_none, fun S T H σ δ fp Q Q' s q k => k S H fp none (Le.refl _) s (Ex.refl _ _) q⟩
theorem do_some (h : DE X e true r t) : DO X (some e) (tPart r) (dPart t) := by
  refine ⟨po_some h.pe, ?_⟩
  intro S T H σ δ fp Q Q' s q k
  refine h.sim S T H σ δ fp _ _ s q fun S1 H1 fp1 v x δ1 l1 s1 r1 u1 q1 => ?_
  obtain ⟨rfl, g⟩ := u1.tt
  cases x with
  | int i => simp only [RI] at r1; subst r1; exact ⟨i, rfl, k S1 H1 fp1 (some i) l1 s1 g q1⟩
  | _ => exact q1.elim
def slD (t : DT) (tl th : DTO) : DT := fun δ Q => t δ fun x δ1 => tl δ1 fun l δ2 => th δ2 fun h δ3 => match x with
  | .lst ds => Q (.lst (cutL ds l h)) δ3
  | .tup ds => Q (.tup (cutL ds l h)) δ3
  | _ => False
theorem RIs.cut {S : Hp} {ds : List D} {xs : List V} (h : RIs S ds xs) (l u : Option Int) : RIs S (cutL ds l u) (cutV xs l u) := by
  unfold cutL cutV
  rw [h.len]
  exact (h.drop _).take _
theorem cutL_whole {α : Type} {xs : List α} {l u : Option Int} (h : HT.sIx xs.length 0 l = 0 ∧ HT.sIx xs.length xs.length u = xs.length) : cutL xs l u = xs := by
  unfold cutL
  rw [h.1, h.2]; simp
theorem de_sl {lo hi : Option Expr} {ql qh : TO} {ul uh : DTO} {p2 : Pos} (ha : DV X a p1 ra ta) (hl : DO X lo ql ul) (hh : DO X hi qh uh) : DE X (.Subscript a (.Slice lo hi none p2) pos) p1 (tSl (rSlAny X.K) ra ql qh) (slD ta ul uh) := by
  refine ⟨pe_slice sl_any ha.pe hl.pe hh.pe, ?_⟩
  intro S T H σ δ fp Q Q' s q k
  refine ha.sim S T H σ δ fp _ _ s q fun S1 H1 fp1 v x δ1 l1 s1 r1 u1 q1 => ?_
  refine hl.sim S1 T H1 σ δ1 fp1 _ _ s1 q1 fun S2 H2 fp2 l l2 s2 g2 q2 => ?_
  refine hh.sim S2 T H2 σ δ1 fp2 _ _ s2 q2 fun S3 H3 fp3 h l3 s3 g3 q3 => ?_
  have r3 := r1.grow (l2.trans l3) (g2.le.trans g3.le)
  have u3 := u1.grow (g2.trans g3)
  have l13 := l1.trans (l2.trans l3)
  cases x with
  | lst ds =>
    obtain ⟨b, xs, rfl, h1, h2⟩ := r3
    refine .inl ⟨b, xs, rfl, SqL.of h1, fun p hp => ?_⟩
    obtain ⟨a1, a2, a3, a4⟩ := s3.newLst (h2.cut l h) hp
    exact k _ _ fp3 _ _ δ1 (l13.trans a1) a2 a3 (u3.grow a4) q3
  | tup ds =>
    obtain ⟨b, xs, rfl, h1, h2⟩ := r3
    refine .inr ⟨b, xs, rfl, h1.sq s3.s, fun hw => ?_, fun _ p ob hp hd => ?_⟩
    · rw [← h2.len] at hw
      exact k _ _ fp3 _ (.tup (cutL ds l h)) δ1 l13 s3 (by rw [cutL_whole hw]; exact ri_tup h1 h2) u3 q3
    · obtain ⟨a1, a2, a3, a4⟩ := s3.newTup (h2.cut l h) hp hd
      exact k _ _ fp3 _ _ δ1 (l13.trans a1) a2 a3 (u3.grow a4) q3
  | _ => exact q3.elim
/-! ### built-ins of one argument -/
def Call1 (r : List V → Hp → VK → Prop) (o : D → (D → Prop) → Prop) : Prop := ∀ (S T H : Hp) (σ : St) (δ : DEnv) (fp : Nat → List Addr) (x : D) (v : V) (Q : VK) (Q' : D → Prop), SR S T H σ δ fp → RV S H x v → o x Q' →
  (∀ (S' H' : Hp) (u : V) (d : D), Le S S' → SR S' T H' σ δ fp → RI S' d u → Ex S H S' H' → Q' d → Q u H') → r [v] H Q
def d1 (o : D → (D → Prop) → Prop) (t : DT) : DT := fun δ Q => t δ fun x δ1 => o x fun d => Q d δ1
theorem sim_call1 {rr : List V → Hp → VK → Prop} {o} (ho : Call1 rr o) (h : SimV p r t) : SimE p (tCB rr (tCons r tNil)) (d1 o t) := by
  intro S T H σ δ fp Q Q' s q k
  refine h S T H σ δ fp _ _ s q fun S1 H1 fp1 v x δ1 l1 s1 r1 u1 q1 => ?_
  exact ho S1 T H1 σ δ1 fp1 x v _ _ s1 r1 q1 fun S2 H2 u d l2 s2 r2 g2 q2 => k S2 H2 fp1 u d δ1 (l1.trans l2) s2 r2 (u1.grow g2) q2
def Call1F (r : List V → Hp → VK → Prop) (o : D → (O → Prop) → Prop) : Prop := ∀ (S T H : Hp) (σ : St) (δ : DEnv) (fp : Nat → List Addr) (x : D) (v : V) (Q : VK) (Q' : O → Prop), SR S T H σ δ fp → RV S H x v → o x Q' →
  (∀ (H' : Hp) (a : Addr) (w : O), SR S T H' σ δ fp → Fr S T H' fp a w → Ex S H S H' → H a = none → Q' w → Q (.ref a) H') → r [v] H Q
def d1F (o : D → (O → Prop) → Prop) (t : DT) : DTF := fun δ Q => t δ fun x δ1 => o x fun w => ∀ a, Q a w δ1
theorem sim_call1F {rr : List V → Hp → VK → Prop} {o} (ho : Call1F rr o) (h : SimV p r t) : SimF p (tCB rr (tCons r tNil)) (d1F o t) := by
  intro S T H σ δ fp Q Q' s q k
  refine h S T H σ δ fp _ _ s q fun S1 H1 fp1 v x δ1 l1 s1 r1 u1 q1 => ?_
  exact ho S1 T H1 σ δ1 fp1 x v _ (fun w => ∀ a, Q' a w δ1) s1 r1 q1 fun H2 a w s2 f2 g2 n2 q2 => k S1 H2 fp1 a w δ1 l1 s2 f2 (u1.grow g2) (fun e => le_none (u1 e).2.le n2) (q2 a)
theorem de_B1 {x : Str} {p' : Pos} {id : String} {rr : List V → Hp → VK → Prop} {o} (hc : CallR X (.builtin id) rr) (ho : Call1 rr o) (hg : Gl X x) (hm : X.mg x = none) (hv : bootBuiltins x = some (.builtin id)) (h : DV X a p ra ta)
    (hn : x ≠ "__name__" := by decide) (hdb : (x == ("__debug__" : Str)) = false := by decide) (na : starEach [a] X.env = (false, eval a X.env) :: starEach [] X.env := by rfl)
    (hpl : (backTo pos (starEach [] X.env)).any (·.1) = false := by rfl) : DE X (.Call (.Name x p') [a] [] pos) p (tCB rr (tCons ra tNil)) (d1 o ta) := ⟨pe_callB (hn := hn) (hdb := hdb) (he := na) (hpl := hpl) hc hg hm hv (pa_cons h.pe pa_nil na), sim_call1 ho h.sim⟩
theorem de_T1 {x : Str} {p' : Pos} {id : String} {rr : List V → Hp → VK → Prop} {o} (hc : CallR X (.type id) rr) (ho : Call1 rr o) (hg : Gl X x) (hm : X.mg x = none) (hv : bootBuiltins x = some (.type id)) (h : DV X a p ra ta)
    (hn : x ≠ "__name__" := by decide) (hdb : (x == ("__debug__" : Str)) = false := by decide) (na : starEach [a] X.env = (false, eval a X.env) :: starEach [] X.env := by rfl)
    (hpl : (backTo pos (starEach [] X.env)).any (·.1) = false := by rfl) : DE X (.Call (.Name x p') [a] [] pos) p (tCB rr (tCons ra tNil)) (d1 o ta) := ⟨pe_callTy (hn := hn) (hdb := hdb) (he := na) (hpl := hpl) hc hg hm hv (pa_cons h.pe pa_nil na), sim_call1 ho h.sim⟩
theorem df_T1 {x : Str} {p' : Pos} {id : String} {rr : List V → Hp → VK → Prop} {o} (hc : CallR X (.type id) rr) (ho : Call1F rr o) (hg : Gl X x) (hm : X.mg x = none) (hv : bootBuiltins x = some (.type id)) (h : DV X a p ra ta)
    (hn : x ≠ "__name__" := by decide) (hdb : (x == ("__debug__" : Str)) = false := by decide) (na : starEach [a] X.env = (false, eval a X.env) :: starEach [] X.env := by rfl)
    (hpl : (backTo pos (starEach [] X.env)).any (·.1) = false := by rfl) : DF X (.Call (.Name x p') [a] [] pos) p (tCB rr (tCons ra tNil)) (d1F o ta) := ⟨pe_callTy (hn := hn) (hdb := hdb) (he := na) (hpl := hpl) hc hg hm hv (pa_cons h.pe pa_nil na), sim_call1F ho h.sim⟩
def lenD : D → (D → Prop) → Prop
  | .lst ds, q => q (.int ds.length)
  | .tup ds, q => q (.int ds.length)
  | .str x, q => x.length ≤ sizeLine ∧ q (.int x.length)
  | _, _ => False
theorem c1_len : Call1 (fun xs H Q => ∃ x n, xs = [x] ∧ LenV K x H n ∧ Q (.int n) H) lenD := by
  intro S T H σ δ fp x v Q Q' s rx q k
  unfold lenD at q
  split at q
  · obtain ⟨a, xs, rfl, h1, h2⟩ := rx
    exact ⟨_, _, rfl, .inl ⟨xs, SqL.of h1, h2.len⟩, k S H _ _ (Le.refl _) s ri_int (Ex.refl _ _) q⟩
  · obtain ⟨a, xs, rfl, h1, h2⟩ := rx
    exact ⟨_, _, rfl, .inr ⟨xs, h1.sq s.s, h2.len⟩, k S H _ _ (Le.refl _) s ri_int (Ex.refl _ _) q⟩
  · cases rx
    exact ⟨_, _, rfl, ⟨q.1, rfl⟩, k S H _ _ (Le.refl _) s ri_int (Ex.refl _ _) q.2⟩
  · exact q.elim
def tupleD : D → (D → Prop) → Prop
  | .lst ds, q => q (.tup ds)
  | .tup ds, q => q (.tup ds)
  | _, _ => False
theorem c1_tuple : Call1 (rTupleX K) tupleD := by
  intro S T H σ δ fp x v Q Q' s rx q k
  unfold tupleD at q
  split at q
  · obtain ⟨a, xs, rfl, h1, h2⟩ := rx
    refine ⟨_, _, rfl, .inl ⟨SqL.of h1, fun p ob hp hd => ?_⟩⟩
    obtain ⟨a1, a2, a3, a4⟩ := s.newTup h2 hp hd
    exact k _ _ _ _ a1 a2 a3 a4 q
  · obtain ⟨a, xs, rfl, h1, h2⟩ := rx
    exact ⟨_, _, rfl, .inr ⟨h1.sq s.s, k S H _ _ (Le.refl _) s (ri_tup h1 h2) (Ex.refl _ _) q⟩⟩
  · exact q.elim
def listD : D → (O → Prop) → Prop
  | .lst ds, q => q (.lst ds)
  | .tup ds, q => q (.lst ds)
  | _, _ => False
theorem c1_list : Call1F (fun xs H Q => ∃ p ys, xs = [.ref p] ∧ (SqL K H p ys ∨ SqT K H p ys) ∧ ∀ l, H l = none → Q (.ref l) (upd H l (.lst ys))) listD := by
  intro S T H σ δ fp x v Q Q' s rx q k
  unfold listD at q
  split at q
  · obtain ⟨a, xs, rfl, h1, h2⟩ := rx
    refine ⟨_, _, rfl, .inl (SqL.of h1), fun p hp => ?_⟩
    obtain ⟨a1, a2, a3⟩ := s.frLst h2 hp
    exact k _ _ _ a1 a2 a3 hp q
  · obtain ⟨a, xs, rfl, h1, h2⟩ := rx
    refine ⟨_, _, rfl, .inr (h1.sq s.s), fun p hp => ?_⟩
    obtain ⟨a1, a2, a3⟩ := s.frLst h2 hp
    exact k _ _ _ a1 a2 a3 hp q
  · exact q.elim
/-- ints of a list -/
def ints? : List D → Option (List Int)
  | [] => some []
  | .int i :: ds => (ints? ds).map (i :: ·)
  | _ :: _ => none
theorem ints_of : ∀ {ds : List D} {ns : List Int}, ints? ds = some ns → ds = ns.map D.int
  | [], ns, e => by simp only [ints?] at e; cases e; rfl
  | d :: ds, ns, e => by
    cases d with
    | int i =>
      simp only [ints?] at e
      cases q : ints? ds with
      | none => rw [q] at e; cases e
      | some ms => rw [q] at e; cases e; rw [ints_of q]; rfl
    | _ => simp [ints?] at e
theorem ints_map : ∀ ns : List Int, ints? (ns.map D.int) = some ns
  | [] => rfl
  | n :: ns => by simp only [List.map_cons, ints?, ints_map ns]; rfl
def sumD : D → (D → Prop) → Prop
  | .lst ds, q => ∃ ns : List Int, ds = ns.map D.int ∧ q (.int ns.sum)
  | _, _ => False
theorem c1_sum : Call1 (fun xs H Q => ∃ (a : Addr) (ns : List Int), xs = [.ref a] ∧ SqL K H a (ns.map V.int) ∧ Q (.int ns.sum) H) sumD := by
  intro S T H σ δ fp x v Q Q' s rx q k
  unfold sumD at q
  split at q
  · obtain ⟨a, xs, rfl, h1, h2⟩ := rx
    obtain ⟨ns, rfl, q⟩ := q
    have e := h2.ints
    subst e
    exact ⟨_, _, rfl, SqL.of h1, k S H _ _ (Le.refl _) s ri_int (Ex.refl _ _) q⟩
  · exact q.elim
end
end SW

namespace SW
open PySem PySem.Spec PyProof.Rows L2
structure DEnds where
  nx : DEnv → Prop
  rt : Sl → DEnv → Prop
  bk : DEnv → Prop := fun _ => False
  ct : DEnv → Prop := fun _ => False
  ex : Addr → List Str → List D → DEnv → Prop := fun _ _ _ _ => False
abbrev DS := DEnds → DEnv → Prop
/-- a result beside the slots -/
def RR (S T H : Hp) (w : Sl) (v : V) (fp : Nat → List Addr) : Prop :=
  ∃ l, slotOk S H (some (some v)) (some (some w)) l ∧ ∀ a ∈ l, (∀ j, a ∉ fp j) ∧ S a = none ∧ T a = none
theorem RR.i {S T H : Hp} {d : D} {v : V} {fp : Nat → List Addr} (r : RI S d v) : RR S T H (.i d) v fp := ⟨[], ⟨⟨v, rfl, r⟩, rfl⟩, fun a ha => nomatch ha⟩
structure Lk (S T : Hp) (D : Ends) (D' : DEnds) : Prop where
  nx : ∀ (S' H' : Hp) (σ' : St) (δ' : DEnv) (fp' : Nat → List Addr), Le S S' → SR S' T H' σ' δ' fp' → D'.nx δ' → D.nx σ' H'
  bk : ∀ (S' H' : Hp) (σ' : St) (δ' : DEnv) (fp' : Nat → List Addr), Le S S' → SR S' T H' σ' δ' fp' → D'.bk δ' → D.bk σ' H'
  ct : ∀ (S' H' : Hp) (σ' : St) (δ' : DEnv) (fp' : Nat → List Addr), Le S S' → SR S' T H' σ' δ' fp' → D'.ct δ' → D.ct σ' H'
  rt : ∀ (S' H' : Hp) (σ' : St) (δ' : DEnv) (fp' : Nat → List Addr) (v : V) (w : Sl), Le S S' → SR S' T H' σ' δ' fp' → RR S' T H' w v fp' → D'.rt w δ' → D.rt v H'
theorem Lk.mono {S S1 T : Hp} {D : Ends} {D' : DEnds} (k : Lk S T D D') (l : Le S S1) : Lk S1 T D D' :=
  ⟨fun S' H' σ' δ' fp' g => k.nx S' H' σ' δ' fp' (l.trans g), fun S' H' σ' δ' fp' g => k.bk S' H' σ' δ' fp' (l.trans g), fun S' H' σ' δ' fp' g => k.ct S' H' σ' δ' fp' (l.trans g), fun S' H' σ' δ' fp' v w g => k.rt S' H' σ' δ' fp' v w (l.trans g)⟩
def SimS (r : TS) (t : DS) : Prop := ∀ (S T H : Hp) (σ : St) (δ : DEnv) (fp : Nat → List Addr) (D : Ends) (D' : DEnds), SR S T H σ δ fp → t D' δ → Lk S T D D' → r D σ H
structure DSt (X : Cx) (st : Stmt) (r : TS) (t : DS) : Prop where
  ps : PS X st r
  sim : SimS r t
structure DSs (X : Cx) (st : List Stmt) (r : TS) (t : DS) : Prop where
  ps : PSs X st r
  sim : SimS r t
section
variable {X : Cx} {st : Stmt} {rest : List Stmt} {r r1 r2 : TS} {t t1 t2 : DS} {e a b c : Expr} {pos : Pos} {p p1 p2 : Bool} {q ra rb : TE} {u ta tb : DT} {f : DTF}
def dNext : DS := fun D δ => D.nx δ
def dSeq (t u : DS) : DS := fun D δ => t { D with nx := u D } δ
theorem sim_next : SimS tNext dNext := fun S T H σ δ fp D D' s q k => k.nx S H σ δ fp (Le.refl _) s q
theorem sim_seq (h1 : SimS r1 t1) (h2 : SimS r2 t2) : SimS (tSeq r1 r2) (dSeq t1 t2) := fun S T H σ δ fp D D' s q k =>
  h1 S T H σ δ fp _ { D' with nx := t2 D' } s q ⟨fun S' H' σ' δ' fp' l s' q' => h2 S' T H' σ' δ' fp' D D' s' q' (k.mono l), k.bk, k.ct, k.rt⟩
theorem dss_nil : DSs X [] tNext dNext := ⟨pss_nil, sim_next⟩
theorem dss_cons (h1 : DSt X st r1 t1) (h2 : DSs X rest r2 t2) : DSs X (st :: rest) (tSeq r1 r2) (dSeq t1 t2) := ⟨pss_cons h1.ps h2.ps, sim_seq h1.sim h2.sim⟩
theorem dss_one (h1 : DSt X st r t) : DSs X [st] r t := ⟨pss_one h1.ps, h1.sim⟩
theorem ds_pass : DSt X (.Pass pos) tNext dNext := ⟨ps_pass, sim_next⟩
def dBreak : DS := fun D δ => D.bk δ
def dCont : DS := fun D δ => D.ct δ
theorem ds_break : DSt X (.Break pos) tBreak dBreak := ⟨ps_break, fun S T H σ δ fp D D' s q k => k.bk S H σ δ fp (Le.refl _) s q⟩
theorem ds_continue : DSt X (.Continue pos) tCont dCont := ⟨ps_continue, fun S T H σ δ fp D D' s q k => k.ct S H σ δ fp (Le.refl _) s q⟩
def dNever : DS := fun _ _ => False
theorem ds_never : DSt X st tNever dNever := ⟨ps_never, fun _ _ _ _ _ _ _ _ _ q _ => q.elim⟩
def dDrop (u : DT) : DS := fun D δ => u δ fun _ δ1 => D.nx δ1
theorem ds_expr (h : DE X e p q u) (hs : swapsWith e none pos.line X.env = pure false := by rfl) : DSt X (.Expr e pos) (tDrop q) (dDrop u) :=
  ⟨ps_expr h.pe hs, fun S T H σ δ fp D D' s g k => h.sim S T H σ δ fp _ _ s g fun S1 H1 fp1 v d δ1 l1 s1 _ _ q1 => k.nx S1 H1 σ δ1 fp1 l1 s1 q1⟩
def dRet (u : DT) : DS := fun D δ => u δ fun d δ1 => D.rt (.i d) δ1
theorem ds_ret (h : DE X e p q u) : DSt X (.Return (some e) pos) (tRet q) (dRet u) :=
  ⟨ps_ret h.pe, fun S T H σ δ fp D D' s g k => h.sim S T H σ δ fp _ _ s g fun S1 H1 fp1 v d δ1 l1 s1 r1 _ q1 => k.rt S1 H1 σ δ1 fp1 v (.i d) l1 s1 (.i r1) q1⟩
def dRetF (u : DTF) : DS := fun D δ => u δ fun a w δ1 => D.rt (.o a w) δ1
theorem ds_retF (h : DF X e p q f) : DSt X (.Return (some e) pos) (tRet q) (dRetF f) :=
  ⟨ps_ret h.pe, fun S T H σ δ fp D D' s g k => h.sim S T H σ δ fp _ _ s g fun S1 H1 fp1 a w δ1 l1 s1 f1 _ _ q1 => k.rt S1 H1 σ δ1 fp1 (.ref a) (.o a w) l1 s1
    ⟨[a], ⟨rfl, f1.oi⟩, fun b hb => by simp only [List.mem_singleton] at hb; subst hb; exact ⟨f1.f, f1.s, f1.t⟩⟩ q1⟩
def dRetN : DS := fun D δ => D.rt (.i .non) δ
theorem ds_retN : DSt X (.Return none pos) tRetN dRetN := ⟨ps_retN, fun S T H σ δ fp D D' s q k => k.rt S H σ δ fp .non (.i .non) (Le.refl _) s (.i ri_non) q⟩
/-- a slot's own object is handed out -/
def dRetO (i : Nat) : DS := fun D δ => match δ[i]? with
  | some (some (.o a w)) => D.rt (.o a w) (δ.set i none)
  | some (some (.i d)) => D.rt (.i d) δ
  | _ => False
theorem sim_retO (i : Nat) : SimS (tRet (tVar i)) (dRetO i) := by
  intro S T H σ δ fp D D' s q k
  have h := s.sl i
  unfold dRetO at q
  split at q
  · rename_i a w e
    rw [e] at h
    obtain ⟨e1, oi⟩ := h
    have hi : i < σ.length := (List.getElem?_eq_some_iff.mp e1).1
    have s1 := s.put hi (v := some (.ref a)) (w := none) (l := []) rfl (fun a ha => nomatch ha) fun a ha => nomatch ha
    refine ⟨_, e1, k.rt S H _ _ _ (.ref a) (.o a w) (Le.refl _) s1 ⟨fp i, ⟨rfl, oi⟩, fun b hb => ⟨fun j hj => ?_, s.own i b hb⟩⟩ q⟩
    by_cases hji : j = i
    · subst hji; rw [fset_same] at hj; cases hj
    · rw [fset_ne hji] at hj; exact hji (s.dis j i b hj hb)
  · rename_i d e
    rw [e] at h
    obtain ⟨⟨x, e1, r1⟩, _⟩ := h
    exact ⟨x, e1, k.rt S H σ δ fp x (.i d) (Le.refl _) s (.i r1) q⟩
  · exact q.elim
theorem ds_retO (i : Nat) {x : Str} {pos' : Pos} (hN : X.N[i]? = some x := by rfl) (hv : Vis X.env.scope x := by first | exact Or.inl rfl | exact Or.inr (Or.inl rfl) | exact Or.inr (Or.inr rfl)) (hd : (x == ("__debug__" : Str)) = false := by decide)
    (hcd : (x == ("__classdict__" : Str)) = false := by decide) : DSt X (.Return (some (.Name x pos')) pos) (tRet (tVar i)) (dRetO i) := ⟨ps_ret (pe_var hN hv hd hcd), sim_retO i⟩
variable {qc : TT} {uc : DTB}
def dIfS (c : DTB) (t u : DS) : DS := fun D δ => c δ fun b δ1 => if b = true then t D δ1 else u D δ1
theorem ds_if {as bs : List Stmt} (hc : DB X c p qc uc) (ha : DSs X as r1 t1) (hb : DSs X bs r2 t2) : DSt X (.If c as bs pos) (tIfS qc r1 r2) (dIfS uc t1 t2) := by
  refine ⟨ps_if hc.pe ha.ps hb.ps, ?_⟩
  intro S T H σ δ fp D D' s q k
  refine hc.sim S T H σ δ fp _ _ s q fun S1 H1 fp1 d δ1 l1 s1 _ q1 => ?_
  cases d with
  | true => exact ha.sim S1 T H1 σ δ1 fp1 D D' s1 q1 (k.mono l1)
  | false => exact hb.sim S1 T H1 σ δ1 fp1 D D' s1 q1 (k.mono l1)
/-! ### targets, assignments -/
abbrev DG := D → DEnv → (DEnv → Prop) → Prop
abbrev DGs := List D → DEnv → (DEnv → Prop) → Prop
def SimG (p : Bool) (g : TG) (t : DG) : Prop := ∀ (S T H : Hp) (σ : St) (δ : DEnv) (fp : Nat → List Addr) (v : V) (d : D) (Q : St → Hp → Prop) (Q' : DEnv → Prop), SR S T H σ δ fp → RI S d v → t d δ Q' →
  (∀ (S' H' : Hp) (σ' : St) (δ' : DEnv) (fp' : Nat → List Addr), Le S S' → SR S' T H' σ' δ' fp' → (p = true → Ex S H S' H') → Q' δ' → Q σ' H') → g v σ H Q
def SimGs (p : Bool) (g : TGs) (t : DGs) : Prop := ∀ (S T H : Hp) (σ : St) (δ : DEnv) (fp : Nat → List Addr) (vs : List V) (ds : List D) (Q : St → Hp → Prop) (Q' : DEnv → Prop), SR S T H σ δ fp → RIs S ds vs → t ds δ Q' →
  (∀ (S' H' : Hp) (σ' : St) (δ' : DEnv) (fp' : Nat → List Addr), Le S S' → SR S' T H' σ' δ' fp' → (p = true → Ex S H S' H') → Q' δ' → Q σ' H') → g vs σ H Q
structure DGt (X : Cx) (e : Expr) (p : Bool) (g : TG) (t : DG) : Prop where
  pg : PG X e g
  sim : SimG p g t
structure DGts (X : Cx) (es : List Expr) (p : Bool) (g : TGs) (t : DGs) : Prop where
  pg : PGs X es g
  sim : SimGs p g t
def dgName (i : Nat) : DG := fun d δ Q => Q (δ.set i (some (.i d)))
theorem sim_gName (i : Nat) : SimG true (gName i) (dgName i) := by
  intro S T H σ δ fp v d Q Q' s r q k
  obtain ⟨fp', s'⟩ := s.putI i r
  exact k S H _ _ fp' (Le.refl _) s' (fun _ => Ex.refl _ _) q
theorem dg (i : Nat) {x : Str} (hN : X.N.Nodup) (hi : X.N[i]? = some x := by rfl) (hx : Loc X.env.scope x := by first | exact Or.inl rfl | exact Or.inr rfl) (hf : X.fn x = true ∨ X.env.scope.names.lookup x = some .local := by first | exact .inl rfl | exact .inr rfl | assumption) : DGt X (.Name x pos) true (gName i) (dgName i) := ⟨pg_name hN hi hx hf, sim_gName i⟩
variable {g g1 : TG} {h h1 : DG} {gs : TGs} {hs : DGs} {es : List Expr}
def dgNil : DGs := fun ds δ Q => ds = [] ∧ Q δ
def dgCons (t : DG) (u : DGs) : DGs := fun ds δ Q => match ds with
  | d :: r => t d δ fun δ' => u r δ' Q
  | [] => False
theorem dgs_nil : DGts X [] true gNil dgNil := ⟨pgs_nil, fun S T H σ δ fp vs ds Q Q' s r q k => by
  obtain ⟨rfl, q⟩ := q
  simp only [RIs] at r
  exact ⟨r, k S H σ δ fp (Le.refl _) s (fun _ => Ex.refl _ _) q⟩⟩
theorem dgs_cons (a1 : DGt X e p1 g h) (a2 : DGts X es p2 gs hs) (ht : (assignEach (e :: es) X.env).map (·.2) = assign e X.env :: (assignEach es X.env).map (·.2) := by rfl) : DGts X (e :: es) (p1 && p2) (gCons g gs) (dgCons h hs) := by
  refine ⟨pgs_cons a1.pg a2.pg ht, ?_⟩
  intro S T H σ δ fp vs ds Q Q' s r q k
  cases ds with
  | nil => exact q.elim
  | cons d ds =>
    simp only [RIs] at r
    obtain ⟨y, ys, rfl, r1, r2⟩ := r
    refine ⟨y, ys, rfl, a1.sim S T H σ δ fp y d _ _ s r1 q fun S' H' σ' δ' fp' l s' x1 q' => ?_⟩
    exact a2.sim S' T H' σ' δ' fp' ys ds _ _ s' (r2.mono l) q' fun S2 H2 σ2 δ2 fp2 l2 s2 x2 q2 => k S2 H2 σ2 δ2 fp2 (l.trans l2) s2 (fun e => by rw [Bool.and_eq_true] at e; exact (x1 e.1).trans (x2 e.2)) q2
def dgTup (n : Nat) (t : DGs) : DG := fun d δ Q => match d with
  | .tup ds => ds.length = n ∧ t ds δ Q
  | _ => False
theorem dg_tup {k n : Nat} (hc : X.calm = true) (a1 : DGts X es p gs hs) (hn : (assignEach es X.env).length = n := by rfl) (hst : (assignEach es X.env).findIdx? (·.1) = none := by rfl) : DGt X (.Tuple es k pos) p (gTup X.K n gs) (dgTup n hs) := by
  refine ⟨pg_tup hc a1.pg hn hst, ?_⟩
  intro S T H σ δ fp v d Q Q' s r q k
  cases d with
  | tup ds =>
    simp only [RI] at r
    obtain ⟨a, xs, rfl, h1, h2⟩ := r
    exact ⟨a, xs, rfl, h1.sq s.s, by rw [← h2.len]; exact q.1, a1.sim S T H σ δ fp xs ds _ _ s h2 q.2 k⟩
  | _ => exact q.elim
/-- x[e] = .. where slot i holds a list of its own -/
def dgSub (i : Nat) (t : DT) : DG := fun d δ Q => match δ[i]? with
  | some (some (.o a (.lst ds))) => t δ fun y δ1 => match y with
    | .int k => ∃ j, ixN ds.length k = some j ∧ Q (δ1.set i (some (.o a (.lst (ds.set j d)))))
    | _ => False
  | _ => False
theorem sim_gSub (i : Nat) (hi : SimE true q u) : SimG false (gSub (tVar i) q rSetL) (dgSub i u) := by
  intro S T H σ δ fp v d Q Q' s r g k
  unfold dgSub at g
  have hv := s.sl i
  split at g
  · rename_i a ds e
    rw [e] at hv
    refine ⟨_, hv.1, hi S T H σ δ fp _ _ s g fun S1 H1 fp1 yv y δ1 l1 s1 r1 u1 q1 => ?_⟩
    obtain ⟨rfl, _⟩ := u1.tt
    have hsl := s1.sl i
    rw [e] at hsl
    obtain ⟨e1, xs, h1, h2, hfp⟩ := hsl
    cases y with
    | int k' =>
      obtain ⟨j, hj, q1⟩ := q1
      simp only [RI] at r1; subst r1
      refine ⟨a, xs, k', j, rfl, rfl, h1, by rw [← h2.len]; exact hj, ?_⟩
      have s2 := s1.mut (H' := upd H1 a (.lst (xs.set j v))) (i := i) e1 (w' := .lst (ds.set j d)) (l := [a]) ⟨_, upd_same, h2.set (r.mono l1) j, rfl⟩ (fun b w hb hbw => by rw [upd_ne (fun z => hb (by rw [hfp, z]; exact List.mem_singleton.mpr rfl))]; exact hbw) fun b hb => .inl (by rw [hfp]; exact hb)
      exact k S1 _ σ _ _ l1 s2 (fun e => nomatch e) q1
    | _ => exact q1.elim
  · exact g.elim
theorem dg_sub {o ix : Expr} (i : Nat) (ho : PE X o (tVar i)) (hi : DE X ix true q u)
    (ha : ∀ v, assign (.Subscript o ix pos) X.env v = (do
      let ov ← holding [v] (eval o X.env)
      let iv ← holding [v, ov] (eval ix X.env)
      standAt pos
      holding [v, ov, iv] (setItem ov iv v)
      release [v, ov, iv] []) := by intro _; rfl) : DGt X (.Subscript o ix pos) false (gSub (tVar i) q rSetL) (dgSub i u) := ⟨pg_sub ho hi.pe set_list ha, sim_gSub i hi.sim⟩
/-! ### assignments -/
def dAsg (u : DT) (t : DG) : DS := fun D δ => u δ fun d δ1 => t d δ1 D.nx
theorem sim_asg (he : SimE p q u) (hg : SimG p2 g h) : SimS (tAsg q g) (dAsg u h) := by
  intro S T H σ δ fp D D' s gg k
  refine he S T H σ δ fp _ _ s gg fun S1 H1 fp1 v d δ1 l1 s1 r1 _ q1 => ?_
  exact hg S1 T H1 σ δ1 fp1 v d _ _ s1 r1 q1 fun S' H' σ' δ' fp' l' s' _ q' => k.nx S' H' σ' δ' fp' (l1.trans l') s' q'
theorem ds_asg {tg : Expr} (he : DE X e p q u) (hg : DGt X tg p2 g h) (hs : swapsWithSole [tg] e pos.line X.env = pure false := by rfl) (hw : swappedStores [tg] e X.env = pure none := by rfl)
    (h1 : (assignEach [tg] X.env).map (·.2) = [assign tg X.env] := by rfl) : DSt X (.Assign [tg] e pos) (tAsg q g) (dAsg u h) := ⟨ps_asg he.pe hg.pg hs hw h1, sim_asg he.sim hg.sim⟩
theorem ds_set (i : Nat) {x : Str} {pos' : Pos} (hN : X.N.Nodup) (he : DE X e p q u) (hi : X.N[i]? = some x := by rfl) (hx : Loc X.env.scope x := by first | exact Or.inl rfl | exact Or.inr rfl) (hs : swapsWith e (some (.Name x pos')) pos.line X.env = pure false := by rfl)
    (hf : X.fn x = true ∨ X.env.scope.names.lookup x = some .local := by first | exact .inl rfl | exact .inr rfl | assumption) : DSt X (.Assign [.Name x pos'] e pos) (tAsg q (gName i)) (dAsg u (dgName i)) := ⟨ps_set hN hi hx he.pe hs hf, sim_asg he.sim (sim_gName i)⟩
/-- a new object becomes a slot's own -/
def dSetF (i : Nat) (f : DTF) : DS := fun D δ => f δ fun a w δ1 => D.nx (δ1.set i (some (.o a w)))
theorem sim_setF (i : Nat) (hf : SimF p q f) : SimS (tAsg q (gName i)) (dSetF i f) := by
  intro S T H σ δ fp D D' s gg k
  refine hf S T H σ δ fp _ _ s gg fun S1 H1 fp1 a w δ1 l1 s1 f1 _ _ q1 => ?_
  obtain ⟨fp2, s2⟩ := s1.putO i f1.oi fun b hb => by simp only [List.mem_singleton] at hb; subst hb; exact ⟨f1.f, f1.s, f1.t⟩
  exact k.nx S1 H1 _ _ fp2 l1 s2 q1
theorem ds_setF (i : Nat) {x : Str} {pos' : Pos} (hN : X.N.Nodup) (he : DF X e p q f) (hi : X.N[i]? = some x := by rfl) (hx : Loc X.env.scope x := by first | exact Or.inl rfl | exact Or.inr rfl) (hs : swapsWith e (some (.Name x pos')) pos.line X.env = pure false := by rfl)
    (hf : X.fn x = true ∨ X.env.scope.names.lookup x = some .local := by first | exact .inl rfl | exact .inr rfl | assumption) : DSt X (.Assign [.Name x pos'] e pos) (tAsg q (gName i)) (dSetF i f) := ⟨ps_set hN hi hx he.pe hs hf, sim_setF i he.sim⟩
/-- a, b = e1, e2 with plain local names; each part data, or a new object that becomes the slot's own -/
def dParII (i j : Nat) (ta tb : DT) : DS := fun D δ => ta δ fun x δ1 => tb δ1 fun y δ2 => D.nx ((δ2.set i (some (.i x))).set j (some (.i y)))
theorem sim_parII (i j : Nat) (ha : SimE p1 ra ta) (hb : SimE p2 rb tb) : SimS (tPar i j (tCons ra (tCons rb tNil))) (dParII i j ta tb) := by
  intro S T H σ δ fp D D' s gg k
  refine ha S T H σ δ fp _ _ s gg fun S1 H1 fp1 v x δ1 l1 s1 r1 _ q1 => ?_
  refine hb S1 T H1 σ δ1 fp1 _ _ s1 q1 fun S2 H2 fp2 w y δ2 l2 s2 r2 _ q2 => ?_
  obtain ⟨fp3, s3⟩ := s2.putI i (r1.mono l2)
  obtain ⟨fp4, s4⟩ := s3.putI j r2
  exact ⟨v, w, rfl, k.nx S2 H2 _ _ fp4 (l1.trans l2) s4 q2⟩
def dParIF (i j : Nat) (ta : DT) (f : DTF) : DS := fun D δ => ta δ fun x δ1 => f δ1 fun a w δ2 => D.nx ((δ2.set i (some (.i x))).set j (some (.o a w)))
theorem sim_parIF (i j : Nat) (ha : SimE p1 ra ta) (hb : SimF p2 rb f) : SimS (tPar i j (tCons ra (tCons rb tNil))) (dParIF i j ta f) := by
  intro S T H σ δ fp D D' s gg k
  refine ha S T H σ δ fp _ _ s gg fun S1 H1 fp1 v x δ1 l1 s1 r1 _ q1 => ?_
  refine hb S1 T H1 σ δ1 fp1 _ _ s1 q1 fun S2 H2 fp2 a w δ2 l2 s2 f2 _ _ q2 => ?_
  have hd : ∀ b ∈ [a], (∀ j, b ∉ fp2 j) ∧ S2 b = none ∧ T b = none := fun b hb => by simp only [List.mem_singleton] at hb; subst hb; exact ⟨f2.f, f2.s, f2.t⟩
  by_cases hi : i < σ.length
  · have s3 := s2.put hi (v := some v) (w := some (.i x)) (l := []) ⟨⟨v, rfl, r1.mono l2⟩, rfl⟩ (fun a ha => nomatch ha) fun a ha => nomatch ha
    obtain ⟨fp4, s4⟩ := s3.putO j f2.oi fun b hb => ⟨fun m hm => by
      by_cases hmi : m = i
      · subst hmi; rw [fset_same] at hm; cases hm
      · rw [fset_ne hmi] at hm; exact (hd b hb).1 m hm, (hd b hb).2⟩
    exact ⟨v, .ref a, rfl, k.nx S2 H2 _ _ fp4 (l1.trans l2) s4 q2⟩
  · have s3 := s2.out hi (v := some v) (w := some (.i x))
    obtain ⟨fp4, s4⟩ := s3.putO j f2.oi hd
    exact ⟨v, .ref a, rfl, k.nx S2 H2 _ _ fp4 (l1.trans l2) s4 q2⟩
/-- an own object beside a new one: two new objects -/
def dParFF (i j : Nat) (f1 f2 : DTF) : DS := fun D δ => f1 δ fun a w δ1 => f2 δ1 fun b z δ2 => D.nx ((δ2.set i (some (.o a w))).set j (some (.o b z)))
theorem SR.withT {S T H : Hp} {σ : St} {δ : DEnv} {fp : Nat → List Addr} (s : SR S T H σ δ fp) {a : Addr} {o : HO} (ho : H a = some o) (hs : S a = none) (hf : ∀ i, a ∉ fp i) : SR S (upd T a o) H σ δ fp where
  s := s.s
  t := fun b u e => by
    by_cases hb : b = a
    · subst hb; rw [upd_same] at e; rw [ho, ← e]
    · rw [upd_ne hb] at e; exact s.t b u e
  st := fun b u e => by
    by_cases hb : b = a
    · subst hb; exact hs
    · rw [upd_ne hb] at e; exact s.st b u e
  len := s.len
  sl := s.sl
  dis := s.dis
  own := fun i b hb => ⟨(s.own i b hb).1, by
    have e : b ≠ a := fun z => hf i (by rw [← z]; exact hb)
    rw [upd_ne e]; exact (s.own i b hb).2⟩
theorem SR.lessT {S T T' H : Hp} {σ : St} {δ : DEnv} {fp : Nat → List Addr} (s : SR S T H σ δ fp) (l : Le T' T) : SR S T' H σ δ fp where
  s := s.s
  t := l.trans s.t
  st := fun b u e => s.st b u (l b u e)
  len := s.len
  sl := s.sl
  dis := s.dis
  own := fun i b hb => ⟨(s.own i b hb).1, le_none l (s.own i b hb).2⟩
theorem OI.one {S H : Hp} {w : O} {a : Addr} (h : OI S H w a [a]) : ∃ o, H a = some o ∧ ∀ (S' H' : Hp), Le S S' → H' a = some o → OI S' H' w a [a] := by
  cases w with
  | lst ds => obtain ⟨xs, h1, h2, _⟩ := h; exact ⟨_, h1, fun S' H' l e => ⟨xs, e, h2.mono l, rfl⟩⟩
  | dK ks ds => obtain ⟨xs, h1, h2, h3, _⟩ := h; exact ⟨_, h1, fun S' H' l e => ⟨xs, e, h2, h3.mono l, rfl⟩⟩
  | dT ks ds => obtain ⟨xs, h1, h2, h3, _⟩ := h; exact ⟨_, h1, fun S' H' l e => ⟨xs, e, h2, h3.mono l, rfl⟩⟩
  | rng _ _ _ => obtain ⟨c, g, _, _, _, _, e⟩ := h; cases e
  | ll dss =>
    obtain ⟨as, h1, h2, h3, e⟩ := h
    cases as with
    | nil => exact ⟨_, h1, fun S' H' l e => ⟨[], e, h2, by simp, rfl⟩⟩
    | cons _ _ => cases e
theorem sim_parFF (i j : Nat) {f1 f2 : DTF} (ha : SimF p1 ra f1) (hb : SimF p2 rb f2) : SimS (tPar i j (tCons ra (tCons rb tNil))) (dParFF i j f1 f2) := by
  intro S T H σ δ fp D D' s gg k
  refine ha S T H σ δ fp _ _ s gg fun S1 H1 fp1 a w δ1 l1 s1 g1 _ _ q1 => ?_
  obtain ⟨o, ho, back⟩ := g1.oi.one
  have hTa : ∀ b, T b ≠ none → b ≠ a := fun b hb e => hb (by rw [e]; exact g1.t)
  refine hb S1 (upd T a o) H1 σ δ1 fp1 _ _ (s1.withT ho g1.s g1.f) q1 fun S2 H2 fp2 b z δ2 l2 s2 g2 _ _ q2 => ?_
  have hba : b ≠ a := fun e => by have := g2.t; rw [e, upd_same] at this; cases this
  have ha2 : H2 a = some o := s2.t a o upd_same
  have hsa : S2 a = none := s2.st a o upd_same
  have hfa : ∀ m, a ∉ fp2 m := fun m hm => by have := (s2.own m a hm).2; rw [upd_same] at this; cases this
  have s3 : SR S2 T H2 σ δ2 fp2 := s2.lessT (le_upd g1.t)
  have tb : T b = none := le_none (le_upd g1.t) g2.t
  have oa : OI S2 H2 w a [a] := back S2 H2 l2 ha2
  by_cases hi : i < σ.length
  · have s4 := s3.put hi (v := some (.ref a)) (w := some (.o a w)) (l := [a]) ⟨rfl, oa⟩ (fun c hc m _ => by simp only [List.mem_singleton] at hc; subst hc; exact hfa m) fun c hc => by simp only [List.mem_singleton] at hc; subst hc; exact ⟨hsa, g1.t⟩
    obtain ⟨fp4, s5⟩ := s4.putO j g2.oi fun c hc => by
      simp only [List.mem_singleton] at hc; subst hc
      refine ⟨fun m hm => ?_, g2.s, tb⟩
      by_cases hmi : m = i
      · subst hmi; rw [fset_same] at hm; simp only [List.mem_singleton] at hm; exact hba hm
      · rw [fset_ne hmi] at hm; exact g2.f m hm
    exact ⟨.ref a, .ref b, rfl, k.nx S2 H2 _ _ fp4 (l1.trans l2) s5 q2⟩
  · have s4 := s3.out hi (v := some (.ref a)) (w := some (.o a w))
    obtain ⟨fp4, s5⟩ := s4.putO j g2.oi fun c hc => by simp only [List.mem_singleton] at hc; subst hc; exact ⟨g2.f, g2.s, tb⟩
    exact ⟨.ref a, .ref b, rfl, k.nx S2 H2 _ _ fp4 (l1.trans l2) s5 q2⟩
def dParFI (i j : Nat) (f : DTF) (tb : DT) : DS := fun D δ => f δ fun a w δ1 => tb δ1 fun y δ2 => D.nx ((δ2.set i (some (.o a w))).set j (some (.i y)))
theorem sim_parFI (i j : Nat) (ha : SimF p1 ra f) (hb : SimE p2 rb tb) : SimS (tPar i j (tCons ra (tCons rb tNil))) (dParFI i j f tb) := by
  intro S T H σ δ fp D D' s gg k
  refine ha S T H σ δ fp _ _ s gg fun S1 H1 fp1 a w δ1 l1 s1 g1 _ _ q1 => ?_
  obtain ⟨o, ho, back⟩ := g1.oi.one
  refine hb S1 (upd T a o) H1 σ δ1 fp1 _ _ (s1.withT ho g1.s g1.f) q1 fun S2 H2 fp2 v y δ2 l2 s2 r2 _ q2 => ?_
  have ha2 : H2 a = some o := s2.t a o upd_same
  have hsa : S2 a = none := s2.st a o upd_same
  have hfa : ∀ m, a ∉ fp2 m := fun m hm => by have := (s2.own m a hm).2; rw [upd_same] at this; cases this
  have s3 : SR S2 T H2 σ δ2 fp2 := s2.lessT (le_upd g1.t)
  obtain ⟨fp4, s4⟩ := s3.putO i (back S2 H2 l2 ha2) fun c hc => by simp only [List.mem_singleton] at hc; subst hc; exact ⟨hfa, hsa, g1.t⟩
  obtain ⟨fp5, s5⟩ := s4.putI j r2
  exact ⟨.ref a, v, rfl, k.nx S2 H2 _ _ fp5 (l1.trans l2) s5 q2⟩
section
variable {i j : Nat} {x y : Str} {px py pt : Pos} {kt k2 pt2 : _} (hc : X.calm = true) (hN : X.N.Nodup) (hi : X.N[i]? = some x) (hj : X.N[j]? = some y) (hij : i ≠ j)
    (hx : X.env.scope.names.lookup x = some .local) (hy : X.env.scope.names.lookup y = some .local)
    (hw : swappedStores [.Tuple [.Name x px, .Name y py] kt pt] (.Tuple [a, b] k2 pt2) X.env = pure (some [x, y]))
    (hsw : swapsWithSole [.Tuple [.Name x px, .Name y py] kt pt] (.Tuple [a, b] k2 pt2) pos.line X.env = pure false)
    (st1 : starEach [a, b] X.env = (false, eval a X.env) :: starEach [b] X.env) (st2 : starEach [b] X.env = (false, eval b X.env) :: starEach [] X.env)
include hc hN hi hj hij hx hy hw hsw st1 st2
theorem ds_parII (ha : DE X a p1 ra ta) (hb : DE X b p2 rb tb) : DSt X (.Assign [.Tuple [.Name x px, .Name y py] kt pt] (.Tuple [a, b] k2 pt2) pos) (tPar i j (tCons ra (tCons rb tNil))) (dParII i j ta tb) :=
  ⟨ps_par hc hN hi hj hij hx hy (pa_cons ha.pe (pa_cons hb.pe pa_nil st2) st1) hw hsw, sim_parII i j ha.sim hb.sim⟩
theorem ds_parIF (ha : DE X a p1 ra ta) (hb : DF X b p2 rb f) : DSt X (.Assign [.Tuple [.Name x px, .Name y py] kt pt] (.Tuple [a, b] k2 pt2) pos) (tPar i j (tCons ra (tCons rb tNil))) (dParIF i j ta f) :=
  ⟨ps_par hc hN hi hj hij hx hy (pa_cons ha.pe (pa_cons hb.pe pa_nil st2) st1) hw hsw, sim_parIF i j ha.sim hb.sim⟩
theorem ds_parFI (ha : DF X a p1 ra f) (hb : DE X b p2 rb tb) : DSt X (.Assign [.Tuple [.Name x px, .Name y py] kt pt] (.Tuple [a, b] k2 pt2) pos) (tPar i j (tCons ra (tCons rb tNil))) (dParFI i j f tb) :=
  ⟨ps_par hc hN hi hj hij hx hy (pa_cons ha.pe (pa_cons hb.pe pa_nil st2) st1) hw hsw, sim_parFI i j ha.sim hb.sim⟩
theorem ds_parFF {f1 f2 : DTF} (ha : DF X a p1 ra f1) (hb : DF X b p2 rb f2) : DSt X (.Assign [.Tuple [.Name x px, .Name y py] kt pt] (.Tuple [a, b] k2 pt2) pos) (tPar i j (tCons ra (tCons rb tNil))) (dParFF i j f1 f2) :=
  ⟨ps_par hc hN hi hj hij hx hy (pa_cons ha.pe (pa_cons hb.pe pa_nil st2) st1) hw hsw, sim_parFF i j ha.sim hb.sim⟩
end
end
end SW

namespace SW
open PySem PySem.Spec PyProof.Rows L2
open AutoSeq1 (wpAny_loadPart')
open Sem (wp)
/-! ### enumerate(t) of a tuple -/
set_option maxHeartbeats 1000000 in
theorem meets_enumerate_newT (l : Addr) (items : Array Value) :
    Meets (Builtin.«enumerate.__new__» ⟨[.type "enumerate", .ref l], []⟩) (fun _ R s => s.heap.IsTuple l items ∧
      R (.ok (.ret (.ref (s.heap.push { cls := .type "tuple_iterator", data := .fields #[.ref l, .int 0 0] }).objs.size)))
        { s with heap := (s.heap.push { cls := .type "tuple_iterator", data := .fields #[.ref l, .int 0 0] }).push { cls := .type "enumerate", data := .fields #[.none, .bool false, .ref s.heap.objs.size, rawInt 0, .none, .none] } }) :=
  .of_wp fun prog w A R s h => by
    obtain ⟨hp, g, d, tk, os⟩ := s; obtain ⟨h1, h⟩ := h
    have hsub := sub_enumerate
    have q1 : ∀ {A' : Around} {E : Value → Shared → Prop} {Q : Value → Shared → Prop}, Q (.ref hp.objs.size) ⟨hp.push { cls := .type "tuple_iterator", data := .fields #[.ref l, .int 0 0] }, g, d, tk, os⟩ → wpAny (model prog w) A' (pyIter (.ref l)) Q E ⟨hp, g, d, tk, os⟩ :=
      fun q => wpAny_pyIter_tuple h1 q
    wp_walk using q1
    refine wpAny_stack_any fun st => wpAny_pure ?_
    split
    · rename_i c _ _ _ _ _
      cases (c == Value.type "enumerate")
      · wp_walk using q1
        exact ⟨_, rfl, h⟩
      · wp_walk using q1
        exact ⟨_, rfl, h⟩
    · wp_walk using q1
      exact ⟨_, rfl, h⟩
section
variable {prog : Program} {w : World} {A : Around} {E : Value → Shared → Prop} {s : Shared}
theorem call_enumerate_tuple {l : Addr} {items : Array Value} {Q : Value → Shared → Prop} (hL : s.heap.IsTuple l items)
    (h : ∀ h', IsEnum h' (s.heap.objs.size + 1) s.heap.objs.size 0 .none → h'.IsTupleIter s.heap.objs.size l 0 → h'.objs.size = s.heap.objs.size + 2 →
      (∀ b o, s.heap.get? b = some o → h'.get? b = some o) → Q (.ref (s.heap.objs.size + 1)) { s with heap := h' }) :
    wpAny (model prog w) A (call (.type "enumerate") [.ref l]) Q E s := by
  refine callType_new F.called_enumerate (by decide) (F.typeCall_enumerate_1 _) (F.newCall_enumerate_1 _) (fun obj => F.args_object_init_2 obj _) F.entry_enumerate_new
    (meets_enumerate_newT l items) ⟨hL, ?_⟩
  have hz : (s.heap.push { cls := .type "tuple_iterator", data := .fields #[.ref l, .int 0 0] }).objs.size = s.heap.objs.size + 1 := Heap.size_push ..
  show _ ∧ _
  rw [hz]
  have he : IsEnum ((s.heap.push { cls := .type "tuple_iterator", data := .fields #[.ref l, .int 0 0] }).push
      { cls := .type "enumerate", data := .fields #[.none, .bool false, .ref s.heap.objs.size, rawInt 0, .none, .none] }) (s.heap.objs.size + 1) s.heap.objs.size 0 .none := by
    have := Heap.get?_push_size (s.heap.push { cls := .type "tuple_iterator", data := .fields #[.ref l, .int 0 0] })
      (o := { cls := .type "enumerate", data := .fields #[.none, .bool false, .ref s.heap.objs.size, rawInt 0, .none, .none] }) rfl
    rw [hz] at this; exact this
  refine ⟨⟨_, he, rfl⟩, h _ he ⟨_, Heap.get?_push_of_some _ (Heap.get?_push_size _ rfl), rfl, rfl⟩ (by rw [Heap.size_push, hz]) fun b o x => Heap.get?_push_of_some _ (Heap.get?_push_of_some _ x)⟩
end
/-- what enumerate yields: a new pair -/
def YlE (i : Nat) (H : Hp) (v : V) (H' : Hp) (x : V) : Prop := ∃ (T : Addr) (ob : Obj), v = .ref T ∧ H T = none ∧ ob.dict = none ∧ H' = upd H T (.frz ob (.tup [.int (i : Nat), x]))
def IteT (K : PySem.W.Frag) (a : Addr) : It :=
  ⟨fun i H => ∃ (xs : List V) (x : V), SqT K H a xs ∧ xs[i]? = some x, fun i H v H' => ∃ x, YlE i H v H' x ∧ ∀ xs, SqT K H a xs → xs[i]? = some x, fun i H => ∃ xs : List V, SqT K H a xs ∧ xs.length ≤ i⟩
def IteL (K : PySem.W.Frag) (a : Addr) : It :=
  ⟨fun i H => ∃ (xs : List V) (x : V), SqL K H a xs ∧ xs[i]? = some x, fun i H v H' => ∃ x, YlE i H v H' x ∧ ∀ xs, SqL K H a xs → xs[i]? = some x, fun i H => ∃ xs : List V, SqL K H a xs ∧ xs.length ≤ i⟩
theorem turn_enumL {P : Program} {w : World} {K : PySem.W.Frag} {elts : List Expr} {kk : Nat} {tpos : Pos} (a e it : Addr) :
    Turn P w K (.Tuple elts kk tpos) (IteL K a) [e, it] e (fun i h => (∃ old, IsEnum h e it ((i : Nat) : Int) old) ∧ h.IsListIter it a i ∧ e ≠ it) where
  mem := by simp
  obj := fun i h st b hb => by
    obtain ⟨⟨old, he⟩, ⟨o, ho, hc, hd⟩, _⟩ := st
    have e' : b = e ∨ b = it := by simpa using hb
    rcases e' with z | z
    · rw [z]; exact ⟨_, he, fun v q => nomatch q⟩
    · rw [z]; exact ⟨o, ho, fun v q => by rw [hd] at q; cases q⟩
  keep := fun i h h' st k => let ⟨⟨old, he⟩, hi, hne⟩ := st; ⟨⟨old, k e (by simp) _ he⟩, hi.at fun o q => k it (by simp) o q, hne⟩
  item := by
    intro X hP hw hK hc i pins s σ H E I hf st hg
    subst hP hw hK
    obtain ⟨⟨old, he⟩, hit, hne⟩ := st
    obtain ⟨xs, x, hq, hx⟩ := hg
    obtain ⟨its, rv, p, hz⟩ := I.list hq
    obtain ⟨u, hu, ru⟩ := rv.get hx
    have hel : e < s.heap.objs.size := Heap.lt_size he
    have hil : it < s.heap.objs.size := by obtain ⟨_, q, _⟩ := hit; exact Heap.lt_size q
    refine wpAny_pyNext_enum_item he hit p.isList (x := u) (by simpa using hu) hne fun h' ho hit' hT hsz hk => ?_
    refine ⟨_, rfl, wpAny_letOwnedTupleGo_enum (s := { s with heap := h', toks := s.toks + 1 }) ho fun h'' he' sb => ?_⟩
    have hT2 : h''.get? s.heap.objs.size = some { cls := .type "tuple", data := .seq #[.int i s.toks, u] } := (sb.2 _ (Nat.ne_of_gt hel)).trans hT
    have I1 := I.turnedNew (h' := h'') (t' := s.toks + 1) (ob := .frz { cls := .type "tuple", data := .seq #[.int i s.toks, u] } (.tup [.int (i : Nat), x])) (ch := [e, it])
      (fun b ob hb q => (sb.2 b (fun z => hb (by simp [z]))).trans (hk b ob (fun z => hb (by simp [z])) (fun z => hb (by simp [z])) q)) hf (Nat.le_refl _)
      ⟨hT2, by show 2 ≤ sizeLine; decide, [.int i s.toks, u], .cons ⟨_, rfl⟩ (.cons ru .nil), ⟨_, hT2, rfl, _, rfl⟩⟩
    refine ⟨.ref s.heap.objs.size, _, I1, rfl, ⟨x, ⟨_, _, rfl, I.hok.fresh (Nat.le_refl _), rfl, rfl⟩, fun ys hy => by rw [I.list_inj hy hq]; exact hx⟩, ⟨⟨u, ?_⟩, hit'.at fun o q => (sb.2 it (Ne.symm hne)).trans q, hne⟩, fun b hb => ?_⟩
    · have e1 : ((i + 1 : Nat) : Int) = (i : Int) + 1 := by omega
      rw [e1]; exact he'
    · have hb' : b < s.heap.objs.size := by
        have e' : b = e ∨ b = it := by simpa using hb
        rcases e' with z | z
        · rw [z]; exact hel
        · rw [z]; exact hil
      rw [upd_ne (Nat.ne_of_lt hb')]
      exact (hf b hb).1
  done := by
    intro X hP hw hK hc i pins s σ H E I hf st hg
    subst hP hw hK
    obtain ⟨⟨old, he⟩, hit, hne⟩ := st
    obtain ⟨xs, hq, hx⟩ := hg
    obtain ⟨its, rv, p, hz⟩ := I.list hq
    obtain ⟨f0, f1, f2, f3, f4, f5⟩ := hf it (by simp)
    have hl := rv.length
    exact wpAny_pyNext_enum_end (I.ok.hd hc) he hit p.isList (by simp; omega) fun h' eb => ⟨rfl, I.turned (t' := s.toks) (fun b o hb e => eb b o hb e) f0 f1 f3 f4 f5⟩
  self := fun A i s Q E st h => let ⟨⟨_, he⟩, _⟩ := st; wpAny_pyIter_enum he h
theorem turn_enumT {P : Program} {w : World} {K : PySem.W.Frag} {elts : List Expr} {kk : Nat} {tpos : Pos} (a e it : Addr) :
    Turn P w K (.Tuple elts kk tpos) (IteT K a) [e, it] e (fun i h => (∃ old, IsEnum h e it ((i : Nat) : Int) old) ∧ h.IsTupleIter it a i ∧ e ≠ it ∧ a ≠ it ∧ a ≠ e) where
  mem := by simp
  obj := fun i h st b hb => by
    obtain ⟨⟨old, he⟩, ⟨o, ho, hc, hd⟩, _⟩ := st
    have e' : b = e ∨ b = it := by simpa using hb
    rcases e' with z | z
    · rw [z]; exact ⟨_, he, fun v q => nomatch q⟩
    · rw [z]; exact ⟨o, ho, fun v q => by rw [hd] at q; cases q⟩
  keep := fun i h h' st k => let ⟨⟨old, he⟩, hi, hne⟩ := st; ⟨⟨old, k e (by simp) _ he⟩, hi.at fun o q => k it (by simp) o q, hne⟩
  item := by
    intro X hP hw hK hc i pins s σ H E I hf st hg
    subst hP hw hK
    obtain ⟨⟨old, he⟩, hit, hne, hai, hae⟩ := st
    obtain ⟨xs, x, hq, hx⟩ := hg
    obtain ⟨its, rv, p, hz⟩ := I.tuple hq
    obtain ⟨u, hu, ru⟩ := rv.get hx
    have hel : e < s.heap.objs.size := Heap.lt_size he
    have hil : it < s.heap.objs.size := by obtain ⟨_, q, _⟩ := hit; exact Heap.lt_size q
    have hef : e ∉ [it, a] := by simp; exact ⟨hne, fun z => hae z.symm⟩
    have hin : i < its.toArray.size := by have := (List.getElem?_eq_some_iff.mp hu).1; simpa using this
    refine wpAny_pyNext_enum_itemC (Draws.tuple (prog := X.prog) (w := X.w) (A := X.A.in1) (I.ok.hd hc) it a hai its.toArray) he ⟨hit, p⟩ hin hne hef fun x' h' tk hx' ho hit' hT hsz hk => ?_
    obtain rfl : x' = u := Option.some.inj (hx'.symm.trans (by simpa using hu))
    refine ⟨_, rfl, wpAny_letOwnedTupleGo_enum (s := { s with heap := h', toks := tk + 1 }) ho fun h'' he' sb => ?_⟩
    have hT2 : h''.get? s.heap.objs.size = some { cls := .type "tuple", data := .seq #[.int i tk, x'] } := (sb.2 _ (Nat.ne_of_gt hel)).trans hT
    have I1 := I.turnedNew (h' := h'') (t' := tk + 1) (ob := .frz { cls := .type "tuple", data := .seq #[.int i tk, x'] } (.tup [.int (i : Nat), x])) (ch := [e, it])
      (fun b ob hb q => (sb.2 b (fun z => hb (by simp [z]))).trans (hk b ob (fun z => hb (by simp [z])) (fun z => hb (by simp [z])) q)) hf (Nat.le_refl _)
      ⟨hT2, by show 2 ≤ sizeLine; decide, [.int i tk, x'], .cons ⟨_, rfl⟩ (.cons ru .nil), ⟨_, hT2, rfl, _, rfl⟩⟩
    refine ⟨.ref s.heap.objs.size, _, I1, rfl, ⟨x, ⟨_, _, rfl, I.hok.fresh (Nat.le_refl _), rfl, rfl⟩, fun ys hy => by rw [I.tuple_inj hy hq]; exact hx⟩, ⟨⟨x', ?_⟩, hit'.1.at fun o q => (sb.2 it (Ne.symm hne)).trans q, hne, hai, hae⟩, fun b hb => ?_⟩
    · have e1 : ((i + 1 : Nat) : Int) = (i : Int) + 1 := by omega
      rw [e1]; exact he'
    · have hb' : b < s.heap.objs.size := by
        have e' : b = e ∨ b = it := by simpa using hb
        rcases e' with z | z
        · rw [z]; exact hel
        · rw [z]; exact hil
      rw [upd_ne (Nat.ne_of_lt hb')]
      exact (hf b hb).1
  done := by
    intro X hP hw hK hc i pins s σ H E I hf st hg
    subst hP hw hK
    obtain ⟨⟨old, he⟩, hit, hne, hai, hae⟩ := st
    obtain ⟨xs, hq, hx⟩ := hg
    obtain ⟨its, rv, p, hz⟩ := I.tuple hq
    obtain ⟨f0, f1, f2, f3, f4, f5⟩ := hf it (by simp)
    have hl := rv.length
    have hT : s.TypeIs (.ref e) "enumerate" := ⟨_, he, rfl⟩
    unfold pyNext
    refine wpAny_bind (wpAny_attempt (wpAny_callSpecial?_slot (name := Str.ofString "__next__") hT PySem.F.slot_enumerate_next
      (wpAny_call_entry PySem.F.slot_enumerate_next hT PySem.F.entry_enumerate_next ?_ (PySem.F.args_enumerate_next_1 _))))
    show wpAny _ _ (field (.ref e) 2 >>= _) _ _ _
    refine wpAny_bind (wpAny_field he rfl (x := .ref it) rfl ?_)
    refine wpAny_bind (wpAny_nextOf_tuple_end (I.ok.hd hc) hit p (by simp; omega) fun h' x he' hx' => ?_)
    obtain ⟨o, ho, hc⟩ := hx'
    refine wpAny_bind (wpAny_isInstance (T := "StopIteration") (b := true) ⟨o, ho, hc⟩ isSubtype_stop ?_)
    exact wpAny_pure ⟨rfl, I.turned (t' := s.toks) (fun b o hb q => he' b o hb q) f0 f1 f3 f4 f5⟩
  self := fun A i s Q E st h => let ⟨⟨_, he⟩, _⟩ := st; wpAny_pyIter_enum he h
/-- enumerate(e) of a list or a tuple -/
def iEnumA (K : PySem.W.Frag) (te : TE) : TI := fun σ H R => te σ H fun v H1 => ∃ a xs, v = .ref a ∧ ((SqL K H1 a xs ∧ R (IteL K a) H1) ∨ (SqT K H1 a xs ∧ R (IteT K a) H1))
theorem pi_enumA {X : Cx} {e : Expr} {te : TE} {p pos tpos : Pos} {elts : List Expr} {kk : Nat} (hg : Gl X "enumerate") (hm : X.mg "enumerate" = none) (he : PE X e te) (hs : starEach [e] X.env = (false, eval e X.env) :: starEach [] X.env := by rfl) :
    PI X (.Tuple elts kk tpos) (.Call (.Name "enumerate" p) [e] [] pos) (iEnumA X.K te) := by
  refine ⟨fun pins s σ H R I h => ?_⟩
  have ha : PA X [e] (tCons te tNil) := pa_cons he pa_nil hs
  refine Call_ (ld_blt I hg hm boot_enumerate (PyProof.Rows.callWith_type1 (thn (ha.run pos pins s σ H (fun vs H1 => ∃ a xs, vs = [.ref a] ∧ ((SqL X.K H1 a xs ∧ R (IteL X.K a) H1) ∨ (SqT X.K H1 a xs ∧ R (IteT X.K a) H1))) I ?_) fun us s1 ⟨vs, H1, I1, r1, q1⟩ => ?_) hs rfl))
  · have mono : ∀ σ H, te σ H (fun v H1 => ∃ a xs, v = .ref a ∧ ((SqL X.K H1 a xs ∧ R (IteL X.K a) H1) ∨ (SqT X.K H1 a xs ∧ R (IteT X.K a) H1))) → True := fun _ _ _ => trivial
    show te σ H fun x H1 => ∃ a xs, [x] = [V.ref a] ∧ _
    have e0 : (fun (x : V) (H1 : Hp) => ∃ a xs, [x] = [V.ref a] ∧ ((SqL X.K H1 a xs ∧ R (IteL X.K a) H1) ∨ (SqT X.K H1 a xs ∧ R (IteT X.K a) H1))) = fun v H1 => ∃ a xs, v = .ref a ∧ ((SqL X.K H1 a xs ∧ R (IteL X.K a) H1) ∨ (SqT X.K H1 a xs ∧ R (IteT X.K a) H1)) := by
      funext x H1
      apply propext
      constructor
      · rintro ⟨a, xs, e1, q⟩; cases e1; exact ⟨a, xs, rfl, q⟩
      · rintro ⟨a, xs, rfl, q⟩; exact ⟨a, xs, rfl, q⟩
    rw [e0]; exact h
  · obtain ⟨a, xs, ex, q⟩ := q1
    subst ex
    cases r1 with
    | cons r rr =>
      cases rr
      cases r
      rcases q with ⟨hq, q⟩ | ⟨hq, q⟩
      · obtain ⟨its, rv, p', hz⟩ := I1.list hq
        refine call_enumerate_list p'.isList fun h' he hit hsz hk => wpAny_pyIter_enum he ?_
        have I2 : Inv X pins σ H1 { s1 with heap := h' } := I1.kept (t' := s1.toks) hk
        refine ⟨s1.heap.objs.size + 1, [s1.heap.objs.size + 1, s1.heap.objs.size], _, _, H1, rfl, I2, turn_enumL a (s1.heap.objs.size + 1) s1.heap.objs.size, ⟨⟨.none, he⟩, hit, Nat.succ_ne_self _⟩, fun b hb => ?_, q⟩
        have e' : b = s1.heap.objs.size + 1 ∨ b = s1.heap.objs.size := by simpa using hb
        have hle : s1.heap.objs.size ≤ b := by
          rcases e' with z | z
          · rw [z]; exact Nat.le_add_right _ _
          · rw [z]; exact Nat.le_refl _
        exact I1.fpOk hle (I1.hok.fresh hle)
      · obtain ⟨its, rv, p', hz⟩ := I1.tuple hq
        have hal : a < s1.heap.objs.size := p'.lt
        refine call_enumerate_tuple (show s1.heap.IsTuple a its.toArray from p') fun h' he hit hsz hk => wpAny_pyIter_enum he ?_
        have I2 : Inv X pins σ H1 { s1 with heap := h' } := I1.kept (t' := s1.toks) hk
        refine ⟨s1.heap.objs.size + 1, [s1.heap.objs.size + 1, s1.heap.objs.size], _, _, H1, rfl, I2, turn_enumT a (s1.heap.objs.size + 1) s1.heap.objs.size, ⟨⟨.none, he⟩, hit, Nat.succ_ne_self _, Nat.ne_of_lt hal, Nat.ne_of_lt (Nat.lt_succ_of_lt hal)⟩, fun b hb => ?_, q⟩
        have e' : b = s1.heap.objs.size + 1 ∨ b = s1.heap.objs.size := by simpa using hb
        have hle : s1.heap.objs.size ≤ b := by
          rcases e' with z | z
          · rw [z]; exact Nat.le_add_right _ _
          · rw [z]; exact Nat.le_refl _
        exact I1.fpOk hle (I1.hok.fresh hle)
/-- a list or a tuple walked -/
def iSeq (K : PySem.W.Frag) (te : TE) : TI := fun σ H R => te σ H fun v H1 => ∃ a, v = .ref a ∧ (((∃ xs, SqL K H1 a xs) ∧ R (Itl K a) H1) ∨ ((∃ xs, SqT K H1 a xs) ∧ R (Itt K a) H1))
theorem pi_seq {X : Cx} {tg l : Expr} {tl : TE} (hl : PE X l tl) : PI X tg l (iSeq X.K tl) := by
  refine ⟨fun pins s σ H R I h => ?_⟩
  refine thn (hl.run pins s σ H _ I h) fun v s1 ⟨x, H1, I1, r1, q1⟩ => ?_
  obtain ⟨a, e, q⟩ := q1
  subst e
  cases r1
  rcases q with ⟨⟨xs, hq⟩, q⟩ | ⟨⟨xs, hq⟩, q⟩
  · obtain ⟨its, rv, p, hz⟩ := I1.list hq
    refine wpAny_pyIter_list p.isList ?_
    refine ⟨s1.heap.objs.size, [s1.heap.objs.size], _, _, H1, rfl, I1.kept (t' := s1.toks) fun b o e => Heap.get?_push_of_some _ e, turn_list a _, ⟨_, Heap.get?_push_size _ rfl, rfl, rfl⟩, fun b hb => ?_, q⟩
    have e : b = s1.heap.objs.size := by simpa using hb
    subst e
    exact I1.fpOk (Nat.le_refl _) (I1.hok.fresh (Nat.le_refl _))
  · obtain ⟨its, rv, p, hz⟩ := I1.tuple hq
    refine wpAny_pyIter_tuple (show s1.heap.IsTuple a its.toArray from p) ?_
    refine ⟨s1.heap.objs.size, [s1.heap.objs.size], _, _, H1, rfl, I1.kept (t' := s1.toks) fun b o e => Heap.get?_push_of_some _ e, turn_tuple a _, ⟨_, Heap.get?_push_size _ rfl, rfl, rfl⟩, fun b hb => ?_, q⟩
    have e : b = s1.heap.objs.size := by simpa using hb
    subst e
    exact I1.fpOk (Nat.le_refl _) (I1.hok.fresh (Nat.le_refl _))
end SW

namespace SW
open PySem PySem.Spec PyProof.Rows L2
/-! ### what is walked -/
abbrev DI := DEnv → (List D → DEnv → Prop) → Prop
/-- an iterator yields ds, whatever else happens -/
def Wk (S : Hp) (J : It) (ds : List D) : Prop := ∀ (S' T H : Hp) (σ : St) (δ : DEnv) (fp : Nat → List Addr), Le S S' → SR S' T H σ δ fp → ∀ i : Nat,
  (i < ds.length → J.go i H) ∧ (ds.length ≤ i → J.stop i H) ∧ ∀ (x : V) (H' : Hp), i < ds.length → J.yld i H x H' → ∃ S'' d, Le S' S'' ∧ SR S'' T H' σ δ fp ∧ Ex S' H S'' H' ∧ ds[i]? = some d ∧ RI S'' d x
def SimI (p : Bool) (r : TI) (t : DI) : Prop := ∀ (S T H : Hp) (σ : St) (δ : DEnv) (fp : Nat → List Addr) (R : It → Hp → Prop) (R' : List D → DEnv → Prop), SR S T H σ δ fp → t δ R' →
  (∀ (S' H' : Hp) (fp' : Nat → List Addr) (J : It) (ds : List D) (δ' : DEnv), Le S S' → SR S' T H' σ δ' fp' → Wk S' J ds → Pur p δ δ' S H S' H' → R' ds δ' → R J H') → r σ H R
structure DIt (X : Cx) (tg e : Expr) (p : Bool) (r : TI) (t : DI) : Prop where
  pi : PI X tg e r
  sim : SimI p r t
section
variable {X : Cx} {K : PySem.W.Frag} {tg e a b : Expr} {pos : Pos} {p p1 p2 : Bool} {q ra rb : TE} {u ta tb : DT}
theorem wk_lst {S : Hp} {a : Addr} {xs : List V} {ds : List D} (h : S a = some (.lst xs)) (r : RIs S ds xs) : Wk S (Itl K a) ds := by
  intro S' T H σ δ fp l s i
  have hq : SqL K H a xs := SqL.of (s.s _ _ (l _ _ h))
  refine ⟨fun hi => ?_, fun hi => ⟨xs, hq, by rw [← r.len]; exact hi⟩, fun x H' hi hy => ?_⟩
  · obtain ⟨x, e, _⟩ := r.get (List.getElem?_eq_getElem hi)
    exact ⟨xs, x, hq, e⟩
  · obtain ⟨rfl, hy⟩ := hy
    obtain ⟨d, e, rd⟩ := r.getV (hy xs hq)
    exact ⟨S', d, Le.refl _, s, Ex.refl _ _, e, rd.mono l⟩
theorem wk_tup {S : Hp} {a : Addr} {xs : List V} {ds : List D} (h : TupAt S a xs) (r : RIs S ds xs) : Wk S (Itt K a) ds := by
  intro S' T H σ δ fp l s i
  have hq : SqT K H a xs := h.sq (l.trans s.s)
  refine ⟨fun hi => ?_, fun hi => ⟨xs, hq, by rw [← r.len]; exact hi⟩, fun x H' hi hy => ?_⟩
  · obtain ⟨x, e, _⟩ := r.get (List.getElem?_eq_getElem hi)
    exact ⟨xs, x, hq, e⟩
  · obtain ⟨rfl, hy⟩ := hy
    obtain ⟨d, e, rd⟩ := r.getV (hy xs hq)
    exact ⟨S', d, Le.refl _, s, Ex.refl _ _, e, rd.mono l⟩
def enumFrom : Nat → List D → List D
  | _, [] => []
  | n, d :: ds => .tup [.int (n : Nat), d] :: enumFrom (n + 1) ds
theorem enumFrom_len : ∀ (n : Nat) (ds : List D), (enumFrom n ds).length = ds.length
  | _, [] => rfl
  | n, d :: ds => by simp only [enumFrom, List.length_cons, enumFrom_len (n + 1) ds]
theorem enumFrom_get : ∀ (n : Nat) (ds : List D) (i : Nat), (enumFrom n ds)[i]? = ds[i]?.map fun d => .tup [.int ((n + i : Nat) : Int), d]
  | _, [], i => by simp [enumFrom]
  | n, d :: ds, 0 => by simp [enumFrom]
  | n, d :: ds, i + 1 => by
    simp only [enumFrom, List.getElem?_cons_succ, enumFrom_get (n + 1) ds i]
    have e : n + 1 + i = n + (i + 1) := by omega
    rw [e]
abbrev enumD (ds : List D) : List D := enumFrom 0 ds
theorem wk_enum {S : Hp} {J : It} {xs : List V} {ds : List D} (r : RIs S ds xs)
    (hg : ∀ (S' T H : Hp) (σ : St) (δ : DEnv) (fp : Nat → List Addr), Le S S' → SR S' T H σ δ fp → ∀ i x, xs[i]? = some x → J.go i H)
    (hst : ∀ (S' T H : Hp) (σ : St) (δ : DEnv) (fp : Nat → List Addr), Le S S' → SR S' T H σ δ fp → ∀ i, xs.length ≤ i → J.stop i H)
    (hy : ∀ (S' T H : Hp) (σ : St) (δ : DEnv) (fp : Nat → List Addr), Le S S' → SR S' T H σ δ fp → ∀ i v H', J.yld i H v H' → ∃ x, YlE i H v H' x ∧ xs[i]? = some x) : Wk S J (enumD ds) := by
  intro S' T H σ δ fp l s i
  rw [enumFrom_len]
  refine ⟨fun hi => ?_, fun hi => hst S' T H σ δ fp l s i (by rw [← r.len]; exact hi), fun v H' hi hyl => ?_⟩
  · obtain ⟨x, e, _⟩ := r.get (List.getElem?_eq_getElem hi)
    exact hg S' T H σ δ fp l s i x e
  · obtain ⟨x, ⟨A, ob, rfl, hA, hd, rfl⟩, hx⟩ := hy S' T H σ δ fp l s i v H' hyl
    obtain ⟨d, e, rd⟩ := r.getV hx
    obtain ⟨a1, a2, a3, a4⟩ := s.newTup (ds := [.int (i : Nat), d]) (xs := [.int (i : Nat), x]) (.cons ri_int (.cons (rd.mono l) .nil)) hA hd
    exact ⟨_, _, a1, a2, a4, by rw [enumFrom_get, e, Nat.zero_add]; rfl, a3⟩
theorem wk_enumL {S : Hp} {a : Addr} {xs : List V} {ds : List D} (h : S a = some (.lst xs)) (r : RIs S ds xs) : Wk S (IteL K a) (enumD ds) :=
  wk_enum r (fun S' T H σ δ fp l s i x e => ⟨xs, x, SqL.of (s.s _ _ (l _ _ h)), e⟩) (fun S' T H σ δ fp l s i hi => ⟨xs, SqL.of (s.s _ _ (l _ _ h)), hi⟩)
    fun S' T H σ δ fp l s i v H' ⟨x, e1, e4⟩ => ⟨x, e1, e4 xs (SqL.of (s.s _ _ (l _ _ h)))⟩
theorem wk_enumT {S : Hp} {a : Addr} {xs : List V} {ds : List D} (h : TupAt S a xs) (r : RIs S ds xs) : Wk S (IteT K a) (enumD ds) :=
  wk_enum r (fun S' T H σ δ fp l s i x e => ⟨xs, x, h.sq (l.trans s.s), e⟩) (fun S' T H σ δ fp l s i hi => ⟨xs, h.sq (l.trans s.s), hi⟩)
    fun S' T H σ δ fp l s i v H' ⟨x, e1, e4⟩ => ⟨x, e1, e4 xs (h.sq (l.trans s.s))⟩
def rangeD (a b : Int) : List D := (List.range (b - a).toNat).map fun k => D.int (a + (k : Nat))
theorem rangeD_len (a b : Int) : (rangeD a b).length = (b - a).toNat := by simp [rangeD]
theorem rangeD_get {a b : Int} {i : Nat} (h : i < (b - a).toNat) : (rangeD a b)[i]? = some (.int (a + (i : Nat))) := by
  simp [rangeD, h]
theorem wk_range (S : Hp) (lo : Int) (n : Nat) : Wk S (Itr lo n) (rangeD lo (lo + n)) := by
  intro S' T H σ δ fp l s i
  have e0 : (lo + (n : Int) - lo).toNat = n := by omega
  rw [rangeD_len, e0]
  refine ⟨fun hi => hi, fun hi => hi, fun x H' hi hy => ?_⟩
  obtain ⟨rfl, rfl⟩ := hy
  exact ⟨S', _, Le.refl _, s, Ex.refl _ _, rangeD_get (by rw [e0]; exact hi), ri_int⟩
/-- a script's list: it stands frozen, or in the written part -/
theorem scr_sq {K : PySem.W.Frag} {S H : Hp} {a : Addr} {ns : List Int} {c : Prop} (h : (∃ ob, S a = some (.frz ob (.lst (ns.map V.int)))) ∨ c) (hc : c → ∀ H, SqL K H a (ns.map V.int)) (l : Le S H) : SqL K H a (ns.map V.int) := by
  rcases h with ⟨ob, h⟩ | h
  · exact .inl (.inr ⟨ob, l _ _ h⟩)
  · exact hc h H
theorem wk_scr {K : PySem.W.Frag} {S : Hp} {a : Addr} {ns : List Int} {c : Prop} (h : (∃ ob, S a = some (.frz ob (.lst (ns.map V.int)))) ∨ c) (hc : c → ∀ H, SqL K H a (ns.map V.int)) : Wk S (Itl K a) (ns.map .int) := by
  intro S' T H σ δ fp l s i
  have hq : SqL K H a (ns.map V.int) := scr_sq h hc (l.trans s.s)
  have r := RIs.ofInts (S := S') ns
  refine ⟨fun hi => ?_, fun hi => ⟨_, hq, by rw [← r.len]; exact hi⟩, fun x H' hi hy => ?_⟩
  · obtain ⟨x, e, _⟩ := r.get (List.getElem?_eq_getElem hi)
    exact ⟨_, x, hq, e⟩
  · obtain ⟨rfl, hy⟩ := hy
    obtain ⟨d, e, rd⟩ := r.getV (hy _ hq)
    exact ⟨S', d, Le.refl _, s, Ex.refl _ _, e, rd⟩
theorem wk_enumS {K : PySem.W.Frag} {S : Hp} {a : Addr} {ns : List Int} {c : Prop} (h : (∃ ob, S a = some (.frz ob (.lst (ns.map V.int)))) ∨ c) (hc : c → ∀ H, SqL K H a (ns.map V.int)) : Wk S (IteL K a) (enumD (ns.map .int)) :=
  wk_enum (RIs.ofInts ns) (fun S' T H σ δ fp l s i x e => ⟨_, x, scr_sq h hc (l.trans s.s), e⟩) (fun S' T H σ δ fp l s i hi => ⟨_, scr_sq h hc (l.trans s.s), hi⟩)
    fun S' T H σ δ fp l s i v H' ⟨x, e1, e4⟩ => ⟨x, e1, e4 _ (scr_sq h hc (l.trans s.s))⟩
def iSq (K : PySem.W.Frag) (u : DT) : DI := fun δ R => u δ fun d δ1 => match d with
  | .scr a ns c => (c → ∀ H, SqL K H a (ns.map V.int)) ∧ R (ns.map .int) δ1
  | .lst ds => R ds δ1
  | .tup ds => R ds δ1
  | _ => False
theorem di_seq (h : DE X e p q u) : DIt X tg e p (iSeq X.K q) (iSq X.K u) := by
  refine ⟨pi_seq h.pe, ?_⟩
  intro S T H σ δ fp R R' s g k
  refine h.sim S T H σ δ fp _ _ s g fun S1 H1 fp1 v x δ1 l1 s1 r1 u1 q1 => ?_
  cases x with
  | lst ds =>
    simp only [RI] at r1; obtain ⟨a, xs, rfl, h1, h2⟩ := r1
    exact ⟨a, rfl, .inl ⟨⟨xs, SqL.of (s1.s _ _ h1)⟩, k S1 H1 fp1 _ ds δ1 l1 s1 (wk_lst h1 h2) u1 q1⟩⟩
  | scr a ns c =>
    simp only [RI] at r1; obtain ⟨rfl, h1⟩ := r1
    exact ⟨a, rfl, .inl ⟨⟨_, scr_sq h1 q1.1 s1.s⟩, k S1 H1 fp1 _ _ δ1 l1 s1 (wk_scr h1 q1.1) u1 q1.2⟩⟩
  | tup ds =>
    simp only [RI] at r1; obtain ⟨a, xs, rfl, h1, h2⟩ := r1
    exact ⟨a, rfl, .inr ⟨⟨xs, h1.sq s1.s⟩, k S1 H1 fp1 _ ds δ1 l1 s1 (wk_tup h1 h2) u1 q1⟩⟩
  | _ => exact q1.elim
/-- a slot's own list, walked: it stands for good from then on -/
def iOwn (i : Nat) : DI := fun δ R => match δ[i]? with
  | some (some (.o _ (.lst ds))) => R ds (δ.set i (some (.i (.lst ds))))
  | _ => False
theorem SR.freeze {S T H : Hp} {σ : St} {δ : DEnv} {fp : Nat → List Addr} (s : SR S T H σ δ fp) {i : Nat} {a : Addr} {ds : List D} (e : δ[i]? = some (some (.o a (.lst ds)))) :
    ∃ xs, σ[i]? = some (some (.ref a)) ∧ H a = some (.lst xs) ∧ RIs S ds xs ∧ Le S (upd S a (.lst xs)) ∧ SR (upd S a (.lst xs)) T H σ (δ.set i (some (.i (.lst ds)))) (fset fp i []) := by
  have hv := s.sl i
  rw [e] at hv
  obtain ⟨e1, xs, h1, h2, hfp⟩ := hv
  have ha : a ∈ fp i := by rw [hfp]; exact List.mem_singleton.mpr rfl
  obtain ⟨hs, ht⟩ := s.own i a ha
  have hi : i < σ.length := (List.getElem?_eq_some_iff.mp e1).1
  have s1 := s.put hi (v := some (.ref a)) (w := none) (l := []) rfl (fun a ha => nomatch ha) fun a ha => nomatch ha
  have s2 := s1.adopt (p := a) h1 hs ht fun j hj => by
    by_cases hji : j = i
    · subst hji; rw [fset_same] at hj; cases hj
    · rw [fset_ne hji] at hj; exact hji (s.dis j i a hj ha)
  have hi2 : i < (σ.set i (some (V.ref a))).length := by simpa using hi
  have s3 := s2.put hi2 (v := some (.ref a)) (w := some (.i (.lst ds))) (l := []) ⟨⟨_, rfl, ri_lst upd_same (h2.mono (le_upd hs))⟩, rfl⟩ (fun a ha => nomatch ha) fun a ha => nomatch ha
  refine ⟨xs, e1, h1, h2, le_upd hs, ?_⟩
  have eσ : (σ.set i (some (V.ref a))).set i (some (V.ref a)) = σ := by
    rw [List.set_set]
    apply List.ext_getElem?
    intro j
    by_cases hj : j = i
    · subst hj; rw [List.getElem?_set_self hi, e1]
    · rw [List.getElem?_set_ne (Ne.symm hj)]
  have eδ : (δ.set i none).set i (some (.i (.lst ds))) = δ.set i (some (.i (.lst ds))) := List.set_set ..
  have ef : fset (fset fp i []) i [] = fset fp i [] := by funext j; unfold fset; split <;> rfl
  rw [eσ, eδ, ef] at s3
  exact s3
theorem di_own (i : Nat) {x : Str} (hN : X.N[i]? = some x := by rfl) (hv : Vis X.env.scope x := by first | exact Or.inl rfl | exact Or.inr (Or.inl rfl) | exact Or.inr (Or.inr rfl)) (hd : (x == ("__debug__" : Str)) = false := by decide)
    (hcd : (x == ("__classdict__" : Str)) = false := by decide) : DIt X tg (.Name x pos) false (iSeq X.K (tVar i)) (iOwn i) := by
  refine ⟨pi_seq (pe_var hN hv hd hcd), ?_⟩
  intro S T H σ δ fp R R' s g k
  unfold iOwn at g
  split at g
  · rename_i a ds e
    obtain ⟨xs, e1, h1, h2, l, s'⟩ := s.freeze e
    exact ⟨_, e1, a, rfl, .inl ⟨⟨xs, SqL.of h1⟩, k _ H _ _ ds _ l s' (wk_lst upd_same (h2.mono l)) (fun z => nomatch z) g⟩⟩
  · exact g.elim
def iEn (K : PySem.W.Frag) (u : DT) : DI := fun δ R => u δ fun d δ1 => match d with
  | .scr a ns c => (c → ∀ H, SqL K H a (ns.map V.int)) ∧ R (enumD (ns.map .int)) δ1
  | .lst ds => R (enumD ds) δ1
  | .tup ds => R (enumD ds) δ1
  | _ => False
theorem di_enum {p' tpos : Pos} {elts : List Expr} {kk : Nat} (hg : Gl X "enumerate") (hm : X.mg "enumerate" = none) (h : DE X e p q u) (hs : starEach [e] X.env = (false, eval e X.env) :: starEach [] X.env := by rfl) :
    DIt X (.Tuple elts kk tpos) (.Call (.Name "enumerate" p') [e] [] pos) p (iEnumA X.K q) (iEn X.K u) := by
  refine ⟨pi_enumA hg hm h.pe hs, ?_⟩
  intro S T H σ δ fp R R' s g k
  refine h.sim S T H σ δ fp _ _ s g fun S1 H1 fp1 v x δ1 l1 s1 r1 u1 q1 => ?_
  cases x with
  | lst ds =>
    simp only [RI] at r1; obtain ⟨a, xs, rfl, h1, h2⟩ := r1
    exact ⟨a, xs, rfl, .inl ⟨SqL.of (s1.s _ _ h1), k S1 H1 fp1 _ _ δ1 l1 s1 (wk_enumL h1 h2) u1 q1⟩⟩
  | scr a ns c =>
    simp only [RI] at r1; obtain ⟨rfl, h1⟩ := r1
    exact ⟨a, _, rfl, .inl ⟨scr_sq h1 q1.1 s1.s, k S1 H1 fp1 _ _ δ1 l1 s1 (wk_enumS h1 q1.1) u1 q1.2⟩⟩
  | tup ds =>
    simp only [RI] at r1; obtain ⟨a, xs, rfl, h1, h2⟩ := r1
    exact ⟨a, xs, rfl, .inr ⟨h1.sq s1.s, k S1 H1 fp1 _ _ δ1 l1 s1 (wk_enumT h1 h2) u1 q1⟩⟩
  | _ => exact q1.elim
def iRg1 (u : DT) : DI := fun δ R => u δ fun d δ1 => match d with
  | .int n => (-(2 ^ 62) ≤ n ∧ n < 2 ^ 62) ∧ R (rangeD 0 n) δ1
  | _ => False
theorem di_range1 {p' : Pos} (hg : Gl X "range") (hm : X.mg "range" = none) (h : DE X a p q u) (hs : starEach [a] X.env = (false, eval a X.env) :: starEach [] X.env := by rfl) (hs2 : starEach [a] X.env = [(false, eval a X.env)] := by rfl) :
    DIt X tg (.Call (.Name "range" p') [a] [] pos) p (iRng1 (tCons q tNil)) (iRg1 u) := by
  refine ⟨pi_range1 hg hm (pa_cons h.pe pa_nil hs) hs2, ?_⟩
  intro S T H σ δ fp R R' s g k
  refine h.sim S T H σ δ fp _ _ s g fun S1 H1 fp1 v x δ1 l1 s1 r1 u1 q1 => ?_
  cases x with
  | int n =>
    simp only [RI] at r1; subst r1
    have e : rangeD 0 n = rangeD 0 (0 + (n.toNat : Int)) := by unfold rangeD; congr 2; omega
    refine ⟨n, rfl, q1.1.1, q1.1.2, k S1 H1 fp1 _ _ δ1 l1 s1 (wk_range S1 0 n.toNat) u1 (by rw [← e]; exact q1.2)⟩
  | _ => exact q1.elim
def iRg2 (ta tb : DT) : DI := fun δ R => ta δ fun x δ1 => tb δ1 fun y δ2 => match x, y with
  | .int i, .int j => (-(2 ^ 62) ≤ i ∧ i < 2 ^ 62 ∧ -(2 ^ 62) ≤ j ∧ j < 2 ^ 62) ∧ R (rangeD i j) δ2
  | _, _ => False
theorem di_range2 {p' : Pos} (hg : Gl X "range") (hm : X.mg "range" = none) (ha : DE X a p1 ra ta) (hb : DE X b p2 rb tb) (hs : starEach [a, b] X.env = (false, eval a X.env) :: starEach [b] X.env := by rfl) (hs2 : starEach [b] X.env = (false, eval b X.env) :: starEach [] X.env := by rfl)
    (hs3 : starEach [a, b] X.env = [(false, eval a X.env), (false, eval b X.env)] := by rfl) (hs4 : starEach [b] X.env = [(false, eval b X.env)] := by rfl) :
    DIt X tg (.Call (.Name "range" p') [a, b] [] pos) (p1 && p2) (iRng2 (tCons ra (tCons rb tNil))) (iRg2 ta tb) := by
  refine ⟨pi_range2 hg hm (pa_cons ha.pe (pa_cons hb.pe pa_nil hs2) hs) hs3 hs4, ?_⟩
  intro S T H σ δ fp R R' s g k
  refine ha.sim S T H σ δ fp _ _ s g fun S1 H1 fp1 v x δ1 l1 s1 r1 u1 q1 => ?_
  refine hb.sim S1 T H1 σ δ1 fp1 _ _ s1 q1 fun S2 H2 fp2 w y δ2 l2 s2 r2 u2 q2 => ?_
  split at q2
  · rename_i i j
    simp only [RI] at r1 r2; subst r1; subst r2
    have e : rangeD i j = rangeD i (i + ((j - i).toNat : Int)) := by unfold rangeD; congr 2; omega
    exact ⟨i, j, rfl, q2.1, k S2 H2 fp2 _ _ δ2 (l1.trans l2) s2 (wk_range S2 i _) (u1.trans u2) (by rw [← e]; exact q2.2)⟩
  · exact q2.elim
/-! ### for -/
variable {wi : TI} {ti : DI} {g : TG} {h : DG} {rb' : TS} {tb' : DS}
def dFor (ti : DI) (h : DG) (tb : DS) : DS := fun D δ => ti δ fun ds δ1 => ∃ Pv : Nat → DEnv → Prop, Pv 0 δ1 ∧
  (∀ i d δ2, ds[i]? = some d → Pv i δ2 → h d δ2 fun δ3 => tb { nx := Pv (i + 1), ct := Pv (i + 1), bk := D.nx, rt := D.rt } δ3) ∧ (∀ δ2, Pv ds.length δ2 → D.nx δ2)
theorem sim_for (hi : SimI p wi ti) (hg : SimG p1 g h) (hb : SimS rb' tb') : SimS (tFor wi g rb') (dFor ti h tb') := by
  intro S T H σ δ fp D D' s gg k
  refine hi S T H σ δ fp _ _ s gg fun S1 H1 fp1 J ds δ1 l1 s1 wk _ q1 => ?_
  obtain ⟨Pv, h0, hs, hd⟩ := q1
  refine ⟨fun i m σ' H' => m = ds.length - i ∧ i ≤ ds.length ∧ ∃ S2 δ2 fp2, Le S1 S2 ∧ SR S2 T H' σ' δ2 fp2 ∧ Pv i δ2, ⟨_, rfl, Nat.zero_le _, S1, δ1, fp1, Le.refl _, s1, h0⟩, ?_⟩
  rintro i m σ' H' ⟨rfl, hi, S2, δ2, fp2, l2, s2, pv⟩
  obtain ⟨w1, w2, w3⟩ := wk S2 T H' σ' δ2 fp2 l2 s2 i
  by_cases hlt : i < ds.length
  · refine .inr ⟨w1 hlt, fun σ3 H3 => ∃ S3 δ3 fp3, Le S1 S3 ∧ SR S3 T H3 σ3 δ3 fp3 ∧ Pv (i + 1) δ3, fun σ3 H3 ⟨S3, δ3, fp3, l3, s3, p3⟩ => ⟨ds.length - (i + 1), by omega, rfl, hlt, S3, δ3, fp3, l3, s3, p3⟩, fun x H3 hy => ?_⟩
    obtain ⟨S3, d, l3, s3, g3, e3, r3⟩ := w3 x H3 hlt hy
    refine hg S3 T H3 σ' δ2 fp2 x d _ _ s3 r3 (hs i d δ2 e3 pv) fun S4 H4 σ4 δ4 fp4 l4 s4 _ q4 => ?_
    have lk : Le S1 S4 := l2.trans (l3.trans l4)
    exact hb S4 T H4 σ4 δ4 fp4 _ _ s4 q4 ⟨fun S' H' σ' δ' fp' l' s' q' => ⟨S', δ', fp', lk.trans l', s', q'⟩, fun S' H' σ' δ' fp' l' s' q' => k.nx S' H' σ' δ' fp' (l1.trans (lk.trans l')) s' q',
      fun S' H' σ' δ' fp' l' s' q' => ⟨S', δ', fp', lk.trans l', s', q'⟩, fun S' H' σ' δ' fp' v w l' s' r' q' => k.rt S' H' σ' δ' fp' v w (l1.trans (lk.trans l')) s' r' q'⟩
  · have e : i = ds.length := by omega
    subst e
    exact .inl ⟨w2 (Nat.le_refl _), k.nx S2 H' σ' δ2 fp2 (l1.trans l2) s2 (hd δ2 pv)⟩
theorem ds_for {body : List Stmt} (hp : PassesOwn (model X.prog X.w) X.A X.env X.xe) (hc : X.calm = true) (hi : DIt X tg e p wi ti) (hg : DGt X tg p1 g h) (hb : DSs X body rb' tb')
    (hs : ∀ x, foldedSetIterable e X.env x = pure x := by intro _; rfl) : DSt X (.For tg e body [] pos) (tFor wi g rb') (dFor ti h tb') := ⟨ps_for hp hc hi.pi hg.pg hb.ps hs, sim_for hi.sim hg.sim hb.sim⟩
/-! ### while: pure tests -/
variable {qc : TT} {uc : DTB}
def dWhile (c : DTB) (tb : DS) : DS := fun D δ => ∃ (Pv : DEnv → Prop) (μ : DEnv → Nat), Pv δ ∧ ∀ δ, Pv δ → c δ fun b δ1 => if b = true then tb { nx := fun δ' => Pv δ' ∧ μ δ' < μ δ, ct := fun δ' => Pv δ' ∧ μ δ' < μ δ, bk := D.nx, rt := D.rt } δ1 else D.nx δ1
theorem sim_while (hc : SimT p qc uc) (hb : SimS rb' tb') : SimS (tWhile qc rb') (dWhile uc tb') := by
  intro S T H σ δ fp D D' s gg k
  obtain ⟨Pv, μ, h0, hs⟩ := gg
  refine ⟨fun m σ' H' => ∃ S2 δ2 fp2, Le S S2 ∧ SR S2 T H' σ' δ2 fp2 ∧ Pv δ2 ∧ m = μ δ2, ⟨_, S, δ, fp, Le.refl _, s, h0, rfl⟩, ?_⟩
  rintro m σ' H' ⟨S2, δ2, fp2, l2, s2, pv, rfl⟩
  refine hc S2 T H' σ' δ2 fp2 _ _ s2 (hs δ2 pv) fun S3 H3 fp3 b δ3 l3 s3 _ q3 => ?_
  have lk : Le S S3 := l2.trans l3
  cases b with
  | true =>
    refine ⟨fun σ4 H4 => ∃ S4 δ4 fp4, Le S S4 ∧ SR S4 T H4 σ4 δ4 fp4 ∧ Pv δ4 ∧ μ δ4 < μ δ2, fun σ4 H4 ⟨S4, δ4, fp4, l4, s4, p4, m4⟩ => ⟨_, m4, S4, δ4, fp4, l4, s4, p4, rfl⟩, ?_⟩
    exact hb S3 T H3 σ' δ3 fp3 _ _ s3 q3 ⟨fun S' H' σ' δ' fp' l' s' q' => ⟨S', δ', fp', lk.trans l', s', q'.1, q'.2⟩, fun S' H' σ' δ' fp' l' s' q' => k.nx S' H' σ' δ' fp' (lk.trans l') s' q',
      fun S' H' σ' δ' fp' l' s' q' => ⟨S', δ', fp', lk.trans l', s', q'.1, q'.2⟩, fun S' H' σ' δ' fp' v w l' s' r' q' => k.rt S' H' σ' δ' fp' v w (lk.trans l') s' r' q'⟩
  | false => exact k.nx S3 H3 σ' δ3 fp3 lk s3 q3
theorem ds_while {c : Expr} {body : List Stmt} (hp : PassesOwn (model X.prog X.w) X.A X.env X.xe) (hc : DB X c p qc uc) (hb : DSs X body rb' tb') : DSt X (.While c body [] pos) (tWhile qc rb') (dWhile uc tb') := ⟨ps_while hp hc.pe hb.ps, sim_while hc.sim hb.sim⟩
/-! ### comprehensions -/
def wipeD (δ : DEnv) : List Nat → DEnv
  | [] => δ
  | v :: vs => (wipeD δ vs).set v none
theorem SR.wipe {S T H : Hp} {σ : St} {δ : DEnv} {fp : Nat → List Addr} (s : SR S T H σ δ fp) : ∀ vs : List Nat, ∃ fp', SR S T H (L2.wipe σ vs) (wipeD δ vs) fp'
  | [] => ⟨fp, s⟩
  | v :: vs => by
    obtain ⟨fp', s'⟩ := SR.wipe s vs
    exact s'.putN v
structure DTs (X : Cx) (ifs : List Expr) (p : Bool) (r : TT) (t : DTB) : Prop where
  pt : PTs X ifs r
  sim : SimT p r t
def dYes : DTB := fun δ Q => Q true δ
theorem dts_nil : DTs X [] true tYes dYes := ⟨pts_nil, fun S T H σ δ fp Q Q' s q k => k S H fp true δ (Le.refl _) s .refl q⟩
theorem dts_one {c : Expr} (h : DB X c p qc uc) : DTs X [c] p qc uc := ⟨pts_one h.pe, h.sim⟩
end
end SW

namespace SW
open PySem PySem.Spec PyProof.Rows L2
/-! ### the targets of a comprehension stay within its own slots -/
theorem wipe_at (σ : St) : ∀ (vs : List Nat) (j : Nat), (L2.wipe σ vs)[j]? = if j ∈ vs then (if j < σ.length then some none else none) else σ[j]?
  | [], j => by simp [L2.wipe]
  | v :: vs, j => by
    have ih := wipe_at σ vs j
    have hl : (L2.wipe σ vs).length = σ.length := wipe_length σ vs
    show ((L2.wipe σ vs).set v none)[j]? = _
    by_cases hj : j = v
    · subst hj
      by_cases hlt : j < σ.length
      · rw [List.getElem?_set_self (by rw [hl]; exact hlt)]; simp [hlt]
      · rw [List.getElem?_eq_none (by simp [hl]; omega)]; simp [hlt]
    · rw [List.getElem?_set_ne (Ne.symm hj), ih]; simp [hj]
theorem wipe_ext {σ σ' : St} {vs : List Nat} (hl : σ'.length = σ.length) (h : ∀ j, j ∉ vs → σ'[j]? = σ[j]?) : L2.wipe σ' vs = L2.wipe σ vs := by
  apply List.ext_getElem?
  intro j
  rw [wipe_at, wipe_at, hl]
  by_cases hj : j ∈ vs
  · simp [hj]
  · simp [hj, h j hj]
def GIn (vs : List Nat) (g : TG) : Prop := ∀ (v : V) (σ : St) (H : Hp) (Q Q' : St → Hp → Prop), (∀ σ' H', L2.wipe σ' vs = L2.wipe σ vs → Q σ' H' → Q' σ' H') → g v σ H Q → g v σ H Q'
def GIns (vs : List Nat) (g : TGs) : Prop := ∀ (us : List V) (σ : St) (H : Hp) (Q Q' : St → Hp → Prop), (∀ σ' H', L2.wipe σ' vs = L2.wipe σ vs → Q σ' H' → Q' σ' H') → g us σ H Q → g us σ H Q'
theorem gin_name {vs : List Nat} {i : Nat} (h : i ∈ vs := by decide) : GIn vs (gName i) := fun v σ H Q Q' m q => m _ _ (wipe_ext (by simp) fun j hj => by
  have e : i ≠ j := fun e => hj (by rw [← e]; exact h)
  rw [List.getElem?_set_ne e]) q
theorem gin_nil {vs : List Nat} : GIns vs gNil := fun us σ H Q Q' m q => ⟨q.1, m _ _ rfl q.2⟩
theorem gin_cons {vs : List Nat} {g : TG} {gs : TGs} (h1 : GIn vs g) (h2 : GIns vs gs) : GIns vs (gCons g gs) := fun us σ H Q Q' m ⟨v, r, e, q⟩ =>
  ⟨v, r, e, h1 v σ H _ _ (fun σ' H' ew z => h2 r σ' H' _ _ (fun σ2 H2 ew2 y => m σ2 H2 (ew2.trans ew) y) z) q⟩
theorem gin_tup {vs : List Nat} {K : PySem.W.Frag} {n : Nat} {gs : TGs} (h : GIns vs gs) : GIn vs (gTup K n gs) := fun v σ H Q Q' m ⟨a, xs, e, q1, q2, q⟩ => ⟨a, xs, e, q1, q2, h xs σ H Q Q' m q⟩
theorem wipeD_len (δ : DEnv) : ∀ vs : List Nat, (wipeD δ vs).length = δ.length
  | [] => rfl
  | v :: vs => by unfold wipeD; rw [List.length_set, wipeD_len δ vs]
theorem take_succ_of {α : Type} {l : List α} {i : Nat} {x : α} (h : l[i]? = some x) : l.take (i + 1) = l.take i ++ [x] := by
  rw [List.take_add_one, h]; rfl
section
variable {X : Cx} {K : PySem.W.Frag} {tg e a b : Expr} {pos : Pos} {p p1 p2 : Bool} {q ra rb : TE} {u ta tb : DT} {wi wi1 : TI} {ti ti1 : DI} {g g1 : TG} {h h1 : DG} {qt qt1 : TT} {ut ut1 : DTB} {vs vs1 : List Nat}
/-- a step of the new list at Dd beside the state -/
theorem SR.back {S S6 T H H6 : Hp} {σ : St} {δ : DEnv} {fp : Nat → List Addr} {Dd : Addr} {acc acc' : List V} (s : SR S T H σ δ fp) (hD : H Dd = some (.lst acc)) (hT : T Dd = none) (hS : S Dd = none) (hf : ∀ i, Dd ∉ fp i)
    (le : Le S S6) (x : Ex S H S6 H6) (s6 : Le S6 H6) : SR S6 T (upd H6 Dd (.lst acc')) σ δ fp ∧ S6 Dd = none ∧ Ex S H S6 H6 := by
  have hd6 : S6 Dd = none := x.fr Dd (by rw [hD]; exact nofun) hS
  refine ⟨⟨fun b o eb => ?_, fun b o eb => ?_, fun b o eb => ?_, s.len, fun i => (s.sl i).keep le fun c hc o ec => ?_, s.dis, fun i c hc => ?_⟩, hd6, x⟩
  · rw [upd_ne (ne_of_none eb hd6)]; exact s6 b o eb
  · rw [upd_ne (ne_of_none eb hT)]; exact x.le b o (s.t b o eb)
  · exact x.fr b (by rw [s.t b o eb]; exact nofun) (s.st b o eb)
  · rw [upd_ne (fun z => hf i (by rw [← z]; exact hc))]; exact x.le c o ec
  · obtain ⟨o, eo⟩ := s.there hc
    exact ⟨x.fr c (by rw [eo]; exact nofun) (s.own i c hc).1, (s.own i c hc).2⟩
/-- [e for x in .. if ..], nothing changed within -/
def dLc (ti : DI) (h : DG) (tt : DTB) (te : DT) (vs : List Nat) : DTF := fun δ Q => ti δ fun ds δ1 => ds.length ≤ sizeLine ∧ ∃ f : D → Option D,
  (∀ (i : Nat) (d : D), ds[i]? = some d → h d (wipeD δ1 vs) fun δ2 => tt δ2 fun b δ3 => if b = true then te δ3 fun y _ => f d = some y else f d = none) ∧ ∀ a, Q a (.lst (ds.filterMap f)) δ1
theorem sim_lc (hi : SimI p wi ti) (hg : SimG true g h) (ht : SimT true qt ut) (he : SimE true q u) (gi : GIn vs g) : SimF p (tLc wi g qt q vs) (dLc ti h ut u vs) := by
  intro S T H σ δ fp Q Q' s gg k
  refine hi S T H σ δ fp _ _ s gg fun S1 H1 fp1 J ds δ1 l1 s1 wk u1 q1 => ?_
  obtain ⟨hz, f, hf, hq⟩ := q1
  intro Dd hDd
  have fr := s1.fresh hDd
  -- the invariant
  refine ⟨fun i m H' => m = ds.length - i ∧ i ≤ ds.length ∧ ∃ S2 acc, Le S1 S2 ∧ Ex S1 H1 S2 H' ∧ SR S2 T H' σ δ1 fp1 ∧ H' Dd = some (.lst acc) ∧ S2 Dd = none ∧ RIs S2 ((ds.take i).filterMap f) acc,
    ⟨_, rfl, Nat.zero_le _, S1, [], Le.refl _, ex_updH hDd, s1.new hDd, upd_same, fr.1, by rw [List.take_zero]; exact .nil⟩, ?_⟩
  rintro i m H' ⟨rfl, hile, S2, acc, l2, x2, s2, hD2, hS2, r2⟩
  obtain ⟨w1, w2, w3⟩ := wk S2 T H' σ δ1 fp1 l2 s2 i
  by_cases hlt : i < ds.length
  · refine .inr ⟨w1 hlt, fun H'' => ∃ m', m' < ds.length - i ∧ (m' = ds.length - (i + 1) ∧ i + 1 ≤ ds.length ∧ ∃ S2 acc, Le S1 S2 ∧ Ex S1 H1 S2 H'' ∧ SR S2 T H'' σ δ1 fp1 ∧ H'' Dd = some (.lst acc) ∧ S2 Dd = none ∧ RIs S2 ((ds.take (i + 1)).filterMap f) acc), fun H'' z => z, fun x H3 hy => ?_⟩
    have s2T := s2.withT hD2 hS2 fr.2.2
    obtain ⟨_, _, w3'⟩ := wk S2 (upd T Dd (.lst acc)) H' σ δ1 fp1 l2 s2T i
    obtain ⟨S3, d, l3, s3, x3, e3, r3⟩ := w3' x H3 hlt hy
    obtain ⟨fpw, s3w⟩ := s3.wipe vs
    have hft := hf i d e3
    have etake := take_succ_of e3
    have ww : L2.wipe (L2.wipe σ vs) vs = L2.wipe σ vs := wipe_ext (wipe_length σ vs) fun j hj => by rw [wipe_at]; simp [hj]
    refine gi x (L2.wipe σ vs) H3 (fun σ2 H2 => ∃ S4 δ4 fp4, Le S3 S4 ∧ SR S4 (upd T Dd (.lst acc)) H2 σ2 δ4 fp4 ∧ Ex S3 H3 S4 H2 ∧ ut δ4 fun b δ3 => if b = true then u δ3 fun y _ => f d = some y else f d = none) _ (fun σ4 H4 ew z => ?_)
      (hg S3 _ H3 _ _ fpw x d _ _ s3w r3 hft fun S4 H4 σ4 δ4 fp4 l4 s4 x4 q4 => ⟨S4, δ4, fp4, l4, s4, x4 rfl, q4⟩)
    · obtain ⟨S4, δ4, fp4, l4, s4, x4, q4⟩ := z
      refine ⟨ew.trans ww, ?_⟩
      refine ht S4 _ H4 σ4 δ4 fp4 _ _ s4 q4 fun S5 H5 fp5 b δ5 l5 s5 u5 q5 => ?_
      obtain ⟨rfl, x5⟩ := u5.tt
      have x35 : Ex S2 H' S5 H5 := x3.trans (x4.trans x5)
      have l35 : Le S2 S5 := l3.trans (l4.trans l5)
      cases b with
      | true =>
        rw [if_pos rfl] at q5 ⊢
        refine he S5 _ H5 σ4 δ5 fp5 _ _ s5 q5 fun S6 H6 fp6 v y δ6 l6 s6 r6 u6 q6 => ?_
        have x6 : Ex S2 H' S6 H6 := x35.trans u6.tt.2
        have l26 : Le S2 S6 := l35.trans l6
        have hD6 : H6 Dd = some (.lst acc) := s6.t Dd _ upd_same
        obtain ⟨b1, b2, b3⟩ := s2.back (acc' := acc ++ [v]) hD2 fr.2.1 hS2 fr.2.2 l26 x6 s6.s
        have hlen : acc.length < sizeLine := by
          have h1 : ((ds.take i).filterMap f).length ≤ (ds.take i).length := List.length_filterMap_le ..
          have h2 := r2.len
          rw [List.length_take] at h1
          omega
        refine ⟨acc, hD6, hlen, _, by omega, rfl, hlt, S6, acc ++ [v], l2.trans l26, ?_, b1, upd_same, b2, ?_⟩
        · have xx := x2.trans x6
          exact ⟨fun b o eb => by rw [upd_ne (ne_of_none eb hDd)]; exact xx.le b o eb, xx.fr⟩
        · rw [etake, List.filterMap_append]
          have e1 : [d].filterMap f = [y] := by simp [q6]
          rw [e1]; exact (r2.mono l26).append (.cons r6 .nil)
      | false =>
        rw [if_neg Bool.false_ne_true] at q5 ⊢
        have hD5 : H5 Dd = some (.lst acc) := s5.t Dd _ upd_same
        obtain ⟨b1, b2, b3⟩ := s2.back (acc' := acc) hD2 fr.2.1 hS2 fr.2.2 l35 x35 s5.s
        have eup : upd H5 Dd (.lst acc) = H5 := by
          funext b; by_cases hb : b = Dd
          · subst hb; rw [upd_same, hD5]
          · rw [upd_ne hb]
        rw [eup] at b1
        refine ⟨_, by omega, rfl, hlt, S5, acc, l2.trans l35, x2.trans x35, b1, hD5, b2, ?_⟩
        rw [etake, List.filterMap_append]
        have e1 : [d].filterMap f = [] := by simp [q5]
        rw [e1, List.append_nil]; exact r2.mono l35
  · have e : i = ds.length := by omega
    subst e
    refine .inl ⟨w2 (Nat.le_refl _), ?_⟩
    rw [List.take_length] at r2
    exact k S2 H' fp1 Dd (.lst (ds.filterMap f)) δ1 (l1.trans l2) s2 ⟨⟨acc, hD2, r2, rfl⟩, hS2, fr.2.1, fr.2.2⟩ (u1.grow x2) (fun e => le_none (u1 e).2.le hDd) (hq Dd)
end
end SW

namespace SW
open PySem PySem.Spec PyProof.Rows L2
section
variable {X : Cx} {K : PySem.W.Frag} {tg tg1 e a b elt iter iter1 kx vx : Expr} {pos spos : Pos} {p p1 p2 : Bool} {q ra rb : TE} {u ta tb : DT} {wi wi1 : TI} {ti ti1 : DI} {g g1 : TG} {h h1 : DG} {qt qt1 : TT} {ut ut1 : DTB} {vs vs1 : List Nat} {ifs ifs1 : List Expr} {scope : Scope} {own : List (Str × Nat)}
theorem df_lc (hc : X.calm = true) (hN : X.N.Nodup) (ok : BlkOk X.N X.env.scope scope own) (hi : DIt X tg iter p wi ti)
    (hg : ∀ (s : Shared) (H : Hp) (C : Addr) (cl : List (Str × Addr)) (fp : List Addr), DGt (X.blk s H scope (compEnvC scope cl C X.env) fp) tg true g h) (ht : ∀ (s : Shared) (H : Hp) (C : Addr) (cl : List (Str × Addr)) (fp : List Addr), DTs (X.blk s H scope (compEnvC scope cl C X.env) fp) ifs true qt ut)
    (he : ∀ (s : Shared) (H : Hp) (C : Addr) (cl : List (Str × Addr)) (fp : List Addr), DE (X.blk s H scope (compEnvC scope cl C X.env) fp) elt true q u) (gi : GIn (own.map (·.2)) g) (hs : ∀ x, foldedSetIterable iter X.env x = pure x := by intro _; rfl) :
    DF X (.ListComp elt [⟨tg, iter, ifs, 0⟩] scope pos) p (tLc wi g qt q (own.map (·.2))) (dLc ti h ut u (own.map (·.2))) :=
  ⟨pe_lc hc hN hi.pi ok (fun s H C cl fp => (hg s H C cl fp).pg) (fun s H C cl fp => (ht s H C cl fp).pt) (fun s H C cl fp => (he s H C cl fp).pe) hs,
    sim_lc hi.sim (hg X.s_0 X.H_0 0 [] []).sim (ht X.s_0 X.H_0 0 [] []).sim (he X.s_0 X.H_0 0 [] []).sim gi⟩
/-- y = [e for x in .. if ..]: the slot's own; for good -/
theorem ds_setLcF (i : Nat) {y : Str} {py : Pos} (hc : X.calm = true) (hN : X.N.Nodup) (hyl : X.env.scope.names.lookup y = some .local)
    (hsw : swapsWith (.ListComp elt [⟨tg, iter, ifs, 0⟩] scope pos) (some (.Name y py)) spos.line X.env = pure true) (ok : BlkOk X.N X.env.scope scope own) (hi : DIt X tg iter p wi ti)
    (hg : ∀ (s : Shared) (H : Hp) (C : Addr) (cl : List (Str × Addr)) (fp : List Addr), DGt (X.blk s H scope (compEnvC scope cl C X.env) fp) tg true g h) (ht : ∀ (s : Shared) (H : Hp) (C : Addr) (cl : List (Str × Addr)) (fp : List Addr), DTs (X.blk s H scope (compEnvC scope cl C X.env) fp) ifs true qt ut)
    (he : ∀ (s : Shared) (H : Hp) (C : Addr) (cl : List (Str × Addr)) (fp : List Addr), DE (X.blk s H scope (compEnvC scope cl C X.env) fp) elt true q u) (gi : GIn (own.map (·.2)) g) (hy : X.N[i]? = some y := by rfl) (hs : ∀ x, foldedSetIterable iter X.env x = pure x := by intro _; rfl) :
    DSt X (.Assign [.Name y py] (.ListComp elt [⟨tg, iter, ifs, 0⟩] scope pos) spos) (tAsg (tLc wi g qt q (own.map (·.2))) (gName i)) (dSetF i (dLc ti h ut u (own.map (·.2)))) :=
  ⟨ps_setLc hc hN hy hyl hsw hi.pi ok (fun s H C cl fp => (hg s H C cl fp).pg) (fun s H C cl fp => (ht s H C cl fp).pt) (fun s H C cl fp => (he s H C cl fp).pe) hs,
    sim_setF i (sim_lc hi.sim (hg X.s_0 X.H_0 0 [] []).sim (ht X.s_0 X.H_0 0 [] []).sim (he X.s_0 X.H_0 0 [] []).sim gi)⟩
theorem ds_setLc (i : Nat) {y : Str} {py : Pos} (hc : X.calm = true) (hN : X.N.Nodup) (hyl : X.env.scope.names.lookup y = some .local)
    (hsw : swapsWith (.ListComp elt [⟨tg, iter, ifs, 0⟩] scope pos) (some (.Name y py)) spos.line X.env = pure true) (ok : BlkOk X.N X.env.scope scope own) (hi : DIt X tg iter p wi ti)
    (hg : ∀ (s : Shared) (H : Hp) (C : Addr) (cl : List (Str × Addr)) (fp : List Addr), DGt (X.blk s H scope (compEnvC scope cl C X.env) fp) tg true g h) (ht : ∀ (s : Shared) (H : Hp) (C : Addr) (cl : List (Str × Addr)) (fp : List Addr), DTs (X.blk s H scope (compEnvC scope cl C X.env) fp) ifs true qt ut)
    (he : ∀ (s : Shared) (H : Hp) (C : Addr) (cl : List (Str × Addr)) (fp : List Addr), DE (X.blk s H scope (compEnvC scope cl C X.env) fp) elt true q u) (gi : GIn (own.map (·.2)) g) (hy : X.N[i]? = some y := by rfl) (hs : ∀ x, foldedSetIterable iter X.env x = pure x := by intro _; rfl) :
    DSt X (.Assign [.Name y py] (.ListComp elt [⟨tg, iter, ifs, 0⟩] scope pos) spos) (tAsg (tLc wi g qt q (own.map (·.2))) (gName i)) (dAsg (dFrz (dLc ti h ut u (own.map (·.2)))) (dgName i)) :=
  ⟨ps_setLc hc hN hy hyl hsw hi.pi ok (fun s H C cl fp => (hg s H C cl fp).pg) (fun s H C cl fp => (ht s H C cl fp).pt) (fun s H C cl fp => (he s H C cl fp).pe) hs,
    sim_asg (sim_frz (sim_lc hi.sim (hg X.s_0 X.H_0 0 [] []).sim (ht X.s_0 X.H_0 0 [] []).sim (he X.s_0 X.H_0 0 [] []).sim gi)) (sim_gName i)⟩
theorem SR.over {S S6 T H H6 : Hp} {σ : St} {δ : DEnv} {fp : Nat → List Addr} {Dd : Addr} (s : SR S T H σ δ fp) (hS : S Dd = none) (hT : T Dd = none) (hf : ∀ i, Dd ∉ fp i) (le : Le S S6)
    (x : ∀ b o, b ≠ Dd → H b = some o → H6 b = some o) (fr : ∀ b, H b ≠ none → S b = none → S6 b = none) (s6 : Le S6 H6) : SR S6 T H6 σ δ fp :=
  ⟨s6, fun b o eb => x b o (ne_of_none eb hT) (s.t b o eb), fun b o eb => fr b (by rw [s.t b o eb]; exact nofun) (s.st b o eb), s.len,
    fun i => (s.sl i).keep le fun c hc o ec => x c o (fun z => hf i (by rw [← z]; exact hc)) ec, s.dis, fun i c hc => by
      obtain ⟨o, eo⟩ := s.there hc
      exact ⟨fr c (by rw [eo]; exact nofun) (s.own i c hc).1, (s.own i c hc).2⟩⟩
/-- [e for x in .. if .. for y in .. if ..] -/
def dLc2 (ti : DI) (h : DG) (tt : DTB) (ti1 : DI) (h1 : DG) (tt1 : DTB) (te : DT) (vs vs1 : List Nat) : DTF := fun δ Q => ti δ fun ds δ1 => ∃ (M : Nat) (f : D → List D), ds.length * M ≤ sizeLine ∧
  (∀ (i : Nat) (d : D), ds[i]? = some d → h d (wipeD δ1 vs) fun δ2 => tt δ2 fun b δ3 => if b = true then ti1 δ3 fun es δ4 => es.length ≤ M ∧ ∃ f1 : D → Option D,
    (∀ (j : Nat) (c : D), es[j]? = some c → h1 c (wipeD δ4 vs1) fun δ5 => tt1 δ5 fun b1 δ6 => if b1 = true then te δ6 fun y _ => f1 c = some y else f1 c = none) ∧ f d = es.filterMap f1 else f d = []) ∧ ∀ a, Q a (.lst (ds.flatMap f)) δ1
set_option maxHeartbeats 1000000 in
theorem sim_lc2 (hi : SimI p wi ti) (hg : SimG true g h) (ht : SimT true qt ut) (hi1 : SimI true wi1 ti1) (hg1 : SimG true g1 h1) (ht1 : SimT true qt1 ut1) (he : SimE true q u) (gi : GIn vs g) (gi1 : GIn vs1 g1) :
    SimF p (tLc2 wi g qt wi1 g1 qt1 q vs vs1) (dLc2 ti h ut ti1 h1 ut1 u vs vs1) := by
  intro S T H σ δ fp Q Q' s gg k
  refine hi S T H σ δ fp _ _ s gg fun S1 H1 fp1 J ds δ1 l1 s1 wk u1 q1 => ?_
  obtain ⟨M, f, hz, hf, hq⟩ := q1
  intro Dd hDd
  have fr := s1.fresh hDd
  refine ⟨fun i m H' => m = ds.length - i ∧ i ≤ ds.length ∧ ∃ S2 acc, Le S1 S2 ∧ Ex S1 H1 S2 H' ∧ SR S2 T H' σ δ1 fp1 ∧ H' Dd = some (.lst acc) ∧ S2 Dd = none ∧ RIs S2 ((ds.take i).flatMap f) acc ∧ acc.length ≤ i * M,
    ⟨_, rfl, Nat.zero_le _, S1, [], Le.refl _, ex_updH hDd, s1.new hDd, upd_same, fr.1, by rw [List.take_zero]; exact .nil, by simp⟩, ?_⟩
  rintro i m H' ⟨rfl, hile, S2, acc, l2, x2, s2, hD2, hS2, r2, z2⟩
  obtain ⟨w1, w2, w3⟩ := wk S2 T H' σ δ1 fp1 l2 s2 i
  by_cases hlt : i < ds.length
  · refine .inr ⟨w1 hlt, fun H'' => ∃ m', m' < ds.length - i ∧ (m' = ds.length - (i + 1) ∧ i + 1 ≤ ds.length ∧ ∃ S2 acc, Le S1 S2 ∧ Ex S1 H1 S2 H'' ∧ SR S2 T H'' σ δ1 fp1 ∧ H'' Dd = some (.lst acc) ∧ S2 Dd = none ∧ RIs S2 ((ds.take (i + 1)).flatMap f) acc ∧ acc.length ≤ (i + 1) * M), fun H'' z => z, fun x H3 hy => ?_⟩
    have hM : (i + 1) * M ≤ sizeLine := Nat.le_trans (Nat.mul_le_mul_right M hlt) hz
    have s2T := s2.withT hD2 hS2 fr.2.2
    obtain ⟨_, _, w3'⟩ := wk S2 (upd T Dd (.lst acc)) H' σ δ1 fp1 l2 s2T i
    obtain ⟨S3, d, l3, s3, x3, e3, r3⟩ := w3' x H3 hlt hy
    obtain ⟨fpw, s3w⟩ := s3.wipe vs
    have hft := hf i d e3
    have etake := take_succ_of e3
    have ww : L2.wipe (L2.wipe σ vs) vs = L2.wipe σ vs := wipe_ext (wipe_length σ vs) fun j hj => by rw [wipe_at]; simp [hj]
    -- what closes a turn
    have close : ∀ (S7 H7 : Hp) (acc7 : List V), Le S2 S7 → (∀ b o, b ≠ Dd → H' b = some o → H7 b = some o) → (∀ b, H' b ≠ none → S2 b = none → S7 b = none) → Le S7 H7 → H7 Dd = some (.lst acc7) → RIs S7 ((ds.take (i + 1)).flatMap f) acc7 → acc7.length ≤ (i + 1) * M →
        ∃ m', m' < ds.length - i ∧ (m' = ds.length - (i + 1) ∧ i + 1 ≤ ds.length ∧ ∃ S2 acc, Le S1 S2 ∧ Ex S1 H1 S2 H7 ∧ SR S2 T H7 σ δ1 fp1 ∧ H7 Dd = some (.lst acc) ∧ S2 Dd = none ∧ RIs S2 ((ds.take (i + 1)).flatMap f) acc ∧ acc.length ≤ (i + 1) * M) :=
      fun S7 H7 acc7 l7 x7 f7 s7 d7 r7 z7 => ⟨_, by omega, rfl, hlt, S7, acc7, l2.trans l7, ⟨fun b o eb => x7 b o (ne_of_none eb hDd) (x2.le b o eb), fun b hb1 hb2 => f7 b (by
          cases e : H1 b with
          | none => exact absurd e hb1
          | some o => rw [x2.le b o e]; exact nofun) (x2.fr b hb1 hb2)⟩, s2.over hS2 fr.2.1 fr.2.2 l7 x7 f7 s7, d7, f7 Dd (by rw [hD2]; exact nofun) hS2, r7, z7⟩
    refine gi x (L2.wipe σ vs) H3 (fun σ2 H2 => ∃ S4 δ4 fp4, Le S3 S4 ∧ SR S4 (upd T Dd (.lst acc)) H2 σ2 δ4 fp4 ∧ Ex S3 H3 S4 H2 ∧ ut δ4 fun b δ3 => if b = true then ti1 δ3 fun es δ4 => es.length ≤ M ∧ ∃ f1 : D → Option D,
      (∀ (j : Nat) (c : D), es[j]? = some c → h1 c (wipeD δ4 vs1) fun δ5 => ut1 δ5 fun b1 δ6 => if b1 = true then u δ6 fun y _ => f1 c = some y else f1 c = none) ∧ f d = es.filterMap f1 else f d = []) _ (fun σ4 H4 ew z => ?_)
      (hg S3 _ H3 _ _ fpw x d _ _ s3w r3 hft fun S4 H4 σ4 δ4 fp4 l4 s4 x4 q4 => ⟨S4, δ4, fp4, l4, s4, x4 rfl, q4⟩)
    obtain ⟨S4, δ4, fp4, l4, s4, x4, q4⟩ := z
    refine ⟨ew.trans ww, ?_⟩
    refine ht S4 _ H4 σ4 δ4 fp4 _ _ s4 q4 fun S5 H5 fp5 b δ5 l5 s5 u5 q5 => ?_
    obtain ⟨rfl, x5⟩ := u5.tt
    have x35 : Ex S2 H' S5 H5 := x3.trans (x4.trans x5)
    have l35 : Le S2 S5 := l3.trans (l4.trans l5)
    have hD5 : H5 Dd = some (.lst acc) := s5.t Dd _ upd_same
    cases b with
    | false =>
      rw [if_neg Bool.false_ne_true] at q5 ⊢
      refine close S5 H5 acc l35 (fun b o _ => x35.le b o) x35.fr s5.s hD5 ?_ (Nat.le_trans z2 (Nat.mul_le_mul_right M (Nat.le_succ i)))
      rw [etake, List.flatMap_append]
      have e1 : [d].flatMap f = [] := by simp [q5]
      rw [e1, List.append_nil]; exact r2.mono l35
    | true =>
      rw [if_pos rfl] at q5 ⊢
      refine hi1 S5 _ H5 σ4 δ5 fp5 _ _ s5 q5 fun S6 H6 fp6 J1 es δ6 l6 s6 wk1 u6 q6 => ?_
      obtain ⟨rfl, x6⟩ := u6.tt
      obtain ⟨hM1, f1, hf1, efd⟩ := q6
      have x36 : Ex S2 H' S6 H6 := x35.trans x6
      have l36 : Le S2 S6 := l35.trans l6
      have hD6 : H6 Dd = some (.lst acc) := s6.t Dd _ upd_same
      have hS6 : S6 Dd = none := s6.st Dd _ upd_same
      have hf6 : ∀ m, Dd ∉ fp6 m := fun m hm => by have := (s6.own m Dd hm).2; rw [upd_same] at this; cases this
      have b6 : SR S6 T H6 σ4 δ6 fp6 := s6.lessT (le_upd fr.2.1)
      refine ⟨fun j kk H'' => kk = es.length - j ∧ j ≤ es.length ∧ ∃ S7 acc7, Le S6 S7 ∧ (∀ b o, b ≠ Dd → H6 b = some o → H'' b = some o) ∧ (∀ b, H6 b ≠ none → S6 b = none → S7 b = none) ∧ SR S7 T H'' σ4 δ6 fp6 ∧ H'' Dd = some (.lst acc7) ∧ S7 Dd = none ∧ RIs S7 ((ds.take i).flatMap f ++ (es.take j).filterMap f1) acc7 ∧ acc7.length ≤ i * M + j,
        ⟨_, rfl, Nat.zero_le _, S6, acc, Le.refl _, fun b o _ eb => eb, fun b _ eb => eb, b6, hD6, hS6, by rw [List.take_zero]; simpa using r2.mono l36, z2⟩, ?_⟩
      rintro j kk H'' ⟨rfl, hjle, S7, acc7, l7, x7, f7, s7, hD7, hS7, r7, z7⟩
      obtain ⟨v1, v2, _⟩ := wk1 S7 T H'' σ4 δ6 fp6 l7 s7 j
      by_cases hjt : j < es.length
      · refine .inr ⟨v1 hjt, fun H8 => ∃ k', k' < es.length - j ∧ (k' = es.length - (j + 1) ∧ j + 1 ≤ es.length ∧ ∃ S7 acc7, Le S6 S7 ∧ (∀ b o, b ≠ Dd → H6 b = some o → H8 b = some o) ∧ (∀ b, H6 b ≠ none → S6 b = none → S7 b = none) ∧ SR S7 T H8 σ4 δ6 fp6 ∧ H8 Dd = some (.lst acc7) ∧ S7 Dd = none ∧ RIs S7 ((ds.take i).flatMap f ++ (es.take (j + 1)).filterMap f1) acc7 ∧ acc7.length ≤ i * M + (j + 1)), fun H8 z => z, fun y H8 hy1 => ?_⟩
        have s7T := s7.withT hD7 hS7 hf6
        obtain ⟨_, _, v3⟩ := wk1 S7 (upd T Dd (.lst acc7)) H'' σ4 δ6 fp6 l7 s7T j
        obtain ⟨S8, c, l8, s8, x8, e8, r8⟩ := v3 y H8 hjt hy1
        obtain ⟨fpw1, s8w⟩ := s8.wipe vs1
        have hft1 := hf1 j c e8
        have etake1 := take_succ_of e8
        have ww1 : L2.wipe (L2.wipe σ4 vs1) vs1 = L2.wipe σ4 vs1 := wipe_ext (wipe_length σ4 vs1) fun j hj => by rw [wipe_at]; simp [hj]
        have close1 : ∀ (S9 H9 : Hp) (acc9 : List V), Le S7 S9 → (∀ b o, b ≠ Dd → H'' b = some o → H9 b = some o) → (∀ b, H'' b ≠ none → S7 b = none → S9 b = none) → Le S9 H9 → H9 Dd = some (.lst acc9) → RIs S9 ((ds.take i).flatMap f ++ (es.take (j + 1)).filterMap f1) acc9 → acc9.length ≤ i * M + (j + 1) →
            ∃ k', k' < es.length - j ∧ (k' = es.length - (j + 1) ∧ j + 1 ≤ es.length ∧ ∃ S7 acc7, Le S6 S7 ∧ (∀ b o, b ≠ Dd → H6 b = some o → H9 b = some o) ∧ (∀ b, H6 b ≠ none → S6 b = none → S7 b = none) ∧ SR S7 T H9 σ4 δ6 fp6 ∧ H9 Dd = some (.lst acc7) ∧ S7 Dd = none ∧ RIs S7 ((ds.take i).flatMap f ++ (es.take (j + 1)).filterMap f1) acc7 ∧ acc7.length ≤ i * M + (j + 1)) :=
          fun S9 H9 acc9 l9 x9 f9 s9 d9 r9 z9 => ⟨_, by omega, rfl, hjt, S9, acc9, l7.trans l9, fun b o hb eb => x9 b o hb (x7 b o hb eb), fun b hb1 hb2 => f9 b (by
              by_cases hb : b = Dd
              · subst hb; rw [hD7]; exact nofun
              · cases e : H6 b with
                | none => exact absurd e hb1
                | some o => rw [x7 b o hb e]; exact nofun) (f7 b hb1 hb2), s7.over hS7 fr.2.1 hf6 l9 x9 f9 s9, d9, f9 Dd (by rw [hD7]; exact nofun) hS7, r9, z9⟩
        refine gi1 y (L2.wipe σ4 vs1) H8 (fun σ2 H2 => ∃ S4 δ4 fp4, Le S8 S4 ∧ SR S4 (upd T Dd (.lst acc7)) H2 σ2 δ4 fp4 ∧ Ex S8 H8 S4 H2 ∧ ut1 δ4 fun b δ3 => if b = true then u δ3 fun y _ => f1 c = some y else f1 c = none) _ (fun σ9 H9 ew1 z => ?_)
          (hg1 S8 _ H8 _ _ fpw1 y c _ _ s8w r8 hft1 fun S4 H4 σ4 δ4 fp4 l4 s4 x4 q4 => ⟨S4, δ4, fp4, l4, s4, x4 rfl, q4⟩)
        obtain ⟨S9, δ9, fp9, l9, s9, x9, q9⟩ := z
        refine ⟨ew1.trans ww1, ?_⟩
        refine ht1 S9 _ H9 σ9 δ9 fp9 _ _ s9 q9 fun Sa Ha fpa b δa la sa ua qa => ?_
        obtain ⟨rfl, xa⟩ := ua.tt
        have x7a : Ex S7 H'' Sa Ha := x8.trans (x9.trans xa)
        have l7a : Le S7 Sa := l8.trans (l9.trans la)
        cases b with
        | true =>
          rw [if_pos rfl] at qa ⊢
          refine he Sa _ Ha σ9 δa fpa _ _ sa qa fun Sb Hb fpb v z δb lb sb rb' ub qb => ?_
          have x7b : Ex S7 H'' Sb Hb := x7a.trans ub.tt.2
          have l7b : Le S7 Sb := l7a.trans lb
          have hDb : Hb Dd = some (.lst acc7) := sb.t Dd _ upd_same
          have hSb : Sb Dd = none := sb.st Dd _ upd_same
          refine ⟨acc7, hDb, by have : (i + 1) * M = i * M + M := Nat.succ_mul i M; omega, close1 Sb (upd Hb Dd (.lst (acc7 ++ [v]))) (acc7 ++ [v]) l7b (fun b o hb eb => by rw [upd_ne hb]; exact x7b.le b o eb) x7b.fr (fun b o eb => by rw [upd_ne (ne_of_none eb hSb)]; exact sb.s b o eb) upd_same ?_ (by rw [List.length_append]; simp; omega)⟩
          rw [etake1, List.filterMap_append]
          have e1 : [c].filterMap f1 = [z] := by simp [qb]
          rw [e1, ← List.append_assoc]; exact (r7.mono l7b).append (.cons rb' .nil)
        | false =>
          rw [if_neg Bool.false_ne_true] at qa ⊢
          have hDa : Ha Dd = some (.lst acc7) := sa.t Dd _ upd_same
          refine close1 Sa Ha acc7 l7a (fun b o _ => x7a.le b o) x7a.fr sa.s hDa ?_ (by omega)
          rw [etake1, List.filterMap_append]
          have e1 : [c].filterMap f1 = [] := by simp [qa]
          rw [e1, List.append_nil]; exact r7.mono l7a
      · have e : j = es.length := by omega
        subst e
        refine .inl ⟨v2 (Nat.le_refl _), ?_⟩
        rw [List.take_length] at r7
        refine close S7 H'' acc7 (l36.trans l7) (fun b o hb eb => x7 b o hb (x36.le b o eb)) (fun b hb1 hb2 => f7 b (by
            cases e : H' b with
            | none => exact absurd e hb1
            | some o => rw [x36.le b o e]; exact nofun) (x36.fr b hb1 hb2)) s7.s hD7 ?_ (by have : (i + 1) * M = i * M + M := Nat.succ_mul i M; omega)
        rw [etake, List.flatMap_append]
        have e1 : [d].flatMap f = es.filterMap f1 := by simp [efd]
        rw [e1]; exact r7
  · have e : i = ds.length := by omega
    subst e
    refine .inl ⟨w2 (Nat.le_refl _), ?_⟩
    rw [List.take_length] at r2
    exact k S2 H' fp1 Dd (.lst (ds.flatMap f)) δ1 (l1.trans l2) s2 ⟨⟨acc, hD2, r2, rfl⟩, hS2, fr.2.1, fr.2.2⟩ (u1.grow x2) (fun e => le_none (u1 e).2.le hDd) (hq Dd)
theorem df_lc2 (hc : X.calm = true) (hN : X.N.Nodup) (ok : BlkOk X.N X.env.scope scope own) (hv : ∀ i ∈ vs1, i ∈ own.map (·.2)) (hi : DIt X tg iter p wi ti)
    (hg : ∀ (s : Shared) (H : Hp) (C : Addr) (cl : List (Str × Addr)) (fp : List Addr), DGt (X.blk s H scope (compEnvC scope cl C X.env) fp) tg true g h) (ht : ∀ (s : Shared) (H : Hp) (C : Addr) (cl : List (Str × Addr)) (fp : List Addr), DTs (X.blk s H scope (compEnvC scope cl C X.env) fp) ifs true qt ut)
    (hi1 : ∀ (s : Shared) (H : Hp) (C : Addr) (cl : List (Str × Addr)) (fp : List Addr), DIt (X.blk s H scope (compEnvC scope cl C X.env) fp) tg1 iter1 true wi1 ti1)
    (hg1 : ∀ (s : Shared) (H : Hp) (C : Addr) (cl : List (Str × Addr)) (fp : List Addr), DGt (X.blk s H scope (compEnvC scope cl C X.env) fp) tg1 true g1 h1) (ht1 : ∀ (s : Shared) (H : Hp) (C : Addr) (cl : List (Str × Addr)) (fp : List Addr), DTs (X.blk s H scope (compEnvC scope cl C X.env) fp) ifs1 true qt1 ut1)
    (he : ∀ (s : Shared) (H : Hp) (C : Addr) (cl : List (Str × Addr)) (fp : List Addr), DE (X.blk s H scope (compEnvC scope cl C X.env) fp) elt true q u) (gi : GIn (own.map (·.2)) g) (gi1 : GIn vs1 g1) (hs : ∀ x, foldedSetIterable iter X.env x = pure x := by intro _; rfl) (hs1 : ∀ env x, foldedSetIterable iter1 env x = pure x := by intro _ _; rfl) :
    DF X (.ListComp elt [⟨tg, iter, ifs, 0⟩, ⟨tg1, iter1, ifs1, 0⟩] scope pos) p (tLc2 wi g qt wi1 g1 qt1 q (own.map (·.2)) vs1) (dLc2 ti h ut ti1 h1 ut1 u (own.map (·.2)) vs1) :=
  ⟨pe_lc2 hc hN hi.pi ok hv (fun s H C cl fp => (hg s H C cl fp).pg) (fun s H C cl fp => (ht s H C cl fp).pt) (fun s H C cl fp => (hi1 s H C cl fp).pi) (fun s H C cl fp => (hg1 s H C cl fp).pg) (fun s H C cl fp => (ht1 s H C cl fp).pt) (fun s H C cl fp => (he s H C cl fp).pe) hs hs1,
    sim_lc2 hi.sim (hg X.s_0 X.H_0 0 [] []).sim (ht X.s_0 X.H_0 0 [] []).sim (hi1 X.s_0 X.H_0 0 [] []).sim (hg1 X.s_0 X.H_0 0 [] []).sim (ht1 X.s_0 X.H_0 0 [] []).sim (he X.s_0 X.H_0 0 [] []).sim gi gi1⟩
end
end SW

namespace SW
open PySem PySem.Spec PyProof.Rows L2
/-! ### defs, where nothing is being shown by repr around them -/
structure FnG (P : Program) (w : World) (K : PySem.W.Frag) (mg : Str → Option Value) (base : Heap) (CX : CXT) (k : Nat) (f : Addr) (fd : FuncData) (ps : List Str) (sp : Sp) : Prop where
  many : ∀ vs H Q E, sp vs H Q E → vs.length = ps.length
  goes : ∀ (A : Around) (outer : List Env), A.guards = some [] → Room k A → ∀ (s : Shared) (H : Hp), Env0 P w K mg base A outer s H → ∀ (args : Args) (us : List Value), BindsTo s fd args (ps.zip us) →
    ∀ (vs : List V) (Q : VK) (E : XK), Vals vs us → sp vs H Q E → codeAny (model P w) A (.call (.ref f) args) (CR CX outer P w H s Q E) s
theorem FnG.mono {P : Program} {w : World} {K : PySem.W.Frag} {mg : Str → Option Value} {base : Heap} {CX : CXT} {j k : Nat} {f : Addr} {fd : FuncData} {ps : List Str} {sp : Sp} (F : FnG P w K mg base CX j f fd ps sp) (h : j ≤ k) : FnG P w K mg base CX k f fd ps sp :=
  ⟨F.many, fun A o g r => F.goes A o g (r.mono h)⟩
/-- a body that keeps its promise -/
theorem fnG_of {CX : CXT} {P : Program} {w : World} {K : PySem.W.Frag} {mg : Str → Option Value} {base : Heap} {k : Nat} {x qual : Str} {st : Stmt} {f : Addr} {fd : FuncData} {N ps : List Str} {sp : Sp} (F : Fun K x qual st f fd) (Sc : FnScope N ps (defScope st))
    (many : ∀ vs H Q E, sp vs H Q E → vs.length = ps.length)
    (hbody : ∀ (cdv : Value) (A : Around) (outer : List Env) (s : Shared) (H : Hp) (vs : List V) (Q : VK) (E : XK), A.guards = some [] → Room k (A.deeper (envOfC qual (defScope st) s.heap.objs.size f cdv)) → sp vs H Q E →
      ∃ t, PSs (cxOf CX P w K mg base N qual (defScope st) f cdv A outer s H E) (defBody st) t ∧ t { nx := fun _ H' => Q .non H', rt := Q } (L2.start N vs) H) : FnG P w K mg base CX (k + 1) f fd ps sp := by
  obtain ⟨oc, od, kV, doc, pm, an, cdv, ct, osl, efd, look, code⟩ := F.ex
  cases efd
  refine ⟨many, fun A outer gd room s H e0 args us bind vs Q E rel want => ?_⟩
  have inK : K.In s.heap := e0.mod.kin.keeps fun b o e => (e0.bs b o e).1
  refine codeAny_call_function room.depth (inK _ _ look) rfl Sc.co Sc.gen rfl (PySem.W.codeRec_of inK code) (bind _ _ _ _ ?_)
  refine wpAny_newFunctionEnv_cells Sc.kind (fun y hy => ?_) fun env eEnv s1 made => ?_
  · cases Sc.par y.1 (List.of_mem_zip hy).1 with
    | inl isLoc => exact .inl isLoc
    | inr isCell => exact .inr ⟨isCell, PySem.W.cellsFrom_some _ _ _ (.inl isCell)⟩
  cases eEnv
  refine ⟨(e0.mod.nolimit.keeps fun b o e => (e0.bs b o e).1).keeps made.toInCall.keep, codeAny_func ?_⟩
  obtain ⟨t, isT, hasT⟩ := hbody cdv A outer s H vs Q E gd (room.deeper _) want
  have inv0 := inv_start (CX := CX) (E := E) Sc room.hd e0 (many _ _ _ _ want) rel made
  refine wpAny_mono (isT.run [] s1 _ H _ inv0 hasT) (fun fl s' got => ?_) fun _ _ z => z
  cases fl with
  | next => obtain ⟨_, H', J, q⟩ := got; exact ⟨V.non, H', J.os, J.bare, J.base, J.hok, rfl, q⟩
  | ret u => obtain ⟨v, _, H', J, rv, q⟩ := got; exact ⟨v, H', J.os, J.bare, J.base, J.hok, rv, q⟩
  | brk => obtain ⟨_, _, _, q⟩ := got; exact q.elim
  | cont => obtain ⟨_, _, _, q⟩ := got; exact q.elim
section
variable {X : Cx} {CX : CXT} {k : Nat} {f : Addr} {fd : FuncData} {ps : List Str} {sp : Sp} {E : XK} {x : Str} {p pos : Pos} {e : Expr} {es : List Expr} {t : TA}
/-- a call by values, however the arguments were written -/
theorem goesG {pins : List (Addr × Obj)} {σ : St} {H : Hp} {s : Shared} {Q : VK} {us : List Value} {args : List Value} {kw : List (Str × Value)} {vs : List V} (F : FnG X.prog X.w X.K X.mg X.base CX k f fd ps sp) (hr : Room k X.A) (gd : X.A.guards = some []) (hx : Passes CX X E)
    (I : Inv X pins σ H s) (r : Vals vs us) (bd : us.length = ps.length → BindsTo s fd ⟨args, kw⟩ (ps.zip us)) (h : sp vs H Q E) : wpAny (model X.prog X.w) X.A (call (.ref f) args kw) (EP X pins σ Q) X.xe s := by
  have lenU : us.length = ps.length := r.length.symm.trans (F.many _ _ _ _ h)
  refine wpAny_call (codeAny_mono (F.goes X.A X.stack gd hr s H I.env0 ⟨args, kw⟩ us (bd lenU) vs Q E r h) fun res s2 got => ?_)
  match res, got with
  | .error err, got => exact hx pins σ H s err s2 I got
  | .ok (.ret u), got => exact I.after got
  | .ok .next, got => exact got.elim
  | .ok .brk, got => exact got.elim
  | .ok .cont, got => exact got.elim
/-- positional arguments, what is left out filled with ds -/
theorem goesU {dvs : List V} {ds : List Value} {pins : List (Addr × Obj)} {σ : St} {H : Hp} {s : Shared} {Q : VK} {us : List Value} {vs : List V} (F : FnG X.prog X.w X.K X.mg X.base CX k f fd ps sp) (hr : Room k X.A) (gd : X.A.guards = some []) (hb : Binds X.K fd ps ds) (hd : Vals dvs ds) (hx : Passes CX X E)
    (I : Inv X pins σ H s) (r : Vals vs us) (h : sp (vs ++ dvs) H Q E) : wpAny (model X.prog X.w) X.A (call (.ref f) us []) (EP X pins σ Q) X.xe s := by
  have rel : Vals (vs ++ dvs) (us ++ ds) := r.append hd
  have lenU : (us ++ ds).length = ps.length := rel.length.symm.trans (F.many _ _ _ _ h)
  refine wpAny_call (codeAny_mono (F.goes X.A X.stack gd hr s H I.env0 ⟨us, []⟩ (us ++ ds) (hb s us I.kIn lenU) (vs ++ dvs) Q E rel h) fun res s2 got => ?_)
  match res, got with
  | .error err, got => exact hx pins σ H s err s2 I got
  | .ok (.ret u), got => exact I.after got
  | .ok .next, got => exact got.elim
  | .ok .brk, got => exact got.elim
  | .ok .cont, got => exact got.elim
theorem pe_callG {dvs : List V} {ds : List Value} (F : FnG X.prog X.w X.K X.mg X.base CX k f fd ps sp) (hr : Room k X.A) (gd : X.A.guards = some []) (hg : Gl X x) (hm : X.mg x = some (.ref f)) (hk : PySem.W.keepIn X.K (.ref f) = true) (hb : Binds X.K fd ps ds) (hd : Vals dvs ds) (hx : Passes CX X E)
    (ha : PA X (e :: es) t) (hdb : (x == ("__debug__" : Str)) = false := by decide) (he : starEach (e :: es) X.env = (false, eval e X.env) :: starEach es X.env := by rfl) (hpl : (backTo pos (starEach es X.env)).any (·.1) = false := by rfl) :
    PE X (.Call (.Name x p) (e :: es) [] pos) (tCall sp dvs E t) := by
  refine ⟨fun pins s σ H Q I h => wpAny_Call_Name_kw (ld_glob I hg hm (PySem.W.callWith_K (h₀ := X.base) I.ok.mod.kin hk (thn (ha.run pos pins s σ H _ I h) ?_) he hpl) hdb)⟩
  intro us s1 ⟨vs, H1, I1, r, q⟩
  refine ⟨I1.kIn, goesU F hr gd hb hd hx I1 r q⟩
theorem pe_callG0 (F : FnG X.prog X.w X.K X.mg X.base CX k f fd ps sp) (hr : Room k X.A) (gd : X.A.guards = some []) (hg : Gl X x) (hm : X.mg x = some (.ref f)) (hk : PySem.W.keepIn X.K (.ref f) = true) (hb : Binds X.K fd ps []) (hx : Passes CX X E)
    (hdb : (x == ("__debug__" : Str)) = false := by decide) : PE X (.Call (.Name x p) [] [] pos) (fun σ H Q => sp [] H Q E) :=
  ⟨fun pins s σ H Q I h => wpAny_Call_Name_kw (ld_glob I hg hm (PySem.W.callWith_K0 I.kIn hk (goesG (us := []) (args := []) F hr gd hx I .nil (fun l => by have := hb s [] I.kIn (by simpa using l); simpa using this) h)) hdb)⟩
theorem pe_callGK {kws : List Keyword} {tk : TA} {ks : List Str} (F : FnG X.prog X.w X.K X.mg X.base CX k f fd ps sp) (hr : Room k X.A) (gd : X.A.guards = some []) (hg : Gl X x) (hm : X.mg x = some (.ref f)) (hk : PySem.W.keepIn X.K (.ref f) = true)
    (hb : ∀ (s : Shared) (ws : List Value), ws.length = ps.length → BindsTo s fd ⟨[], ks.zip ws⟩ (ps.zip ws)) (hx : Passes CX X E) (hkw : PK X kws tk) (hall : (backToKw pos (keywordEach kws X.env)).all (·.1.isSome) = true := by rfl) (hks : (backToKw pos (keywordEach kws X.env)).filterMap (·.1) = ks := by rfl)
    (hdb : (x == ("__debug__" : Str)) = false := by decide) (hpl : ((backTo pos (starEach [] X.env)).any (·.1) || (backToKw pos (keywordEach kws X.env)).any (·.1.isNone)) = false := by rfl) :
    PE X (.Call (.Name x p) [] kws pos) (fun σ H Q => tk σ H fun zs H2 => sp zs H2 Q E) := by
  refine ⟨fun pins s σ H Q I h => wpAny_Call_Name_kw (ld_glob I hg hm (PySem.W.callWith_KW0 (h₀ := X.base) I.ok.mod.kin hk hall (thn (hkw.run pos pins s σ H _ I h) ?_) hpl) hdb)⟩
  intro ws s1 ⟨zs, H1, I1, r, q⟩
  rw [hks]
  exact ⟨I1.kIn, goesG F hr gd hx I1 r (hb s1 ws) q⟩
end
/-! ### the law's end -/
theorem law_goes {P : Program} {w : World} {K : PySem.W.Frag} {mg mb : Str → Option Value} {CX : CXT} {k : Nat} {fa a : Addr} {fd : FuncData} {x : Str} {sp : Sp} {s1 : Shared} {vs : List Value} {ns : List Int}
    (inK : K.In s1.heap) (globs : s1.heap.Ns mainGlobals mg) (blt : s1.heap.Ns builtinsNs mb) (bltIs : ∀ x : Str, x ≠ "__name__" → mb x = bootBuiltins x) (nolim : s1.heap.NoLimit) (noGen : s1.gens = #[])
    (isList : s1.heap.get? a = some { cls := .type "list", data := .seq vs.toArray }) (allInts : IntsAre vs ns) (few : ns.length ≤ sizeLine) (room : Room k callerA)
    (F : ∀ base : Heap, K.In base → base.Ns mainGlobals mg → FnG P w K mg base CX k fa fd [x] sp) (bind : ∀ (s : Shared) (u : Value), BindsTo s fd ⟨[u], []⟩ [(x, u)])
    (holds : ∀ H : Hp, Only H → SqL K H a (ns.map V.int) → sp [.ref a] H (fun v _ => v = .bl true) fun _ _ _ => False) (noErr : ∀ H e s', CX [] H s1 (fun _ _ _ => False) e s' → False) :
    codeAny (model P w) callerA (.call (.ref fa) ⟨[.ref a], []⟩) (fun r s' => r = .ok (.ret (.bool true)) ∧ OldK s1.heap s'.heap ∧ s'.os = s1.os ∧ AllBare s'.gens) s1 := by
  have rel := vals_ints allInts
  have lens := allInts.length
  let ob : Obj := { cls := .type "list", data := .seq vs.toArray }
  -- the abstract heap: the script, unless the written part has it
  let H : Hp := fun b => match K.lookup a with
    | none => if b = a then some (.frz ob (.lst (ns.map V.int))) else none
    | some _ => none
  have atA : ∀ b u, H b = some u → b = a ∧ K.lookup a = none ∧ u = .frz ob (.lst (ns.map V.int)) := fun b u e => by
    have e' : (match K.lookup a with
      | none => if b = a then some (HO.frz ob (.lst (ns.map V.int))) else none
      | some _ => none) = some u := e
    split at e'
    · rename_i q
      by_cases hb : b = a
      · rw [if_pos hb] at e'; cases e'; exact ⟨hb, q, rfl⟩
      · rw [if_neg hb] at e'; cases e'
    · cases e'
  have only : Only H := fun b => by
    cases e : H b with
    | none => exact .inl rfl
    | some u => obtain ⟨_, _, rfl⟩ := atA b u e; exact .inr ⟨_, _, rfl⟩
  have seq : SqL K H a (ns.map V.int) := by
    cases q : K.lookup a with
    | none =>
      refine .inl (.inr ⟨ob, ?_⟩)
      show (match K.lookup a with
        | none => if a = a then some (HO.frz ob (.lst (ns.map V.int))) else none
        | some _ => none) = _
      rw [q]; exact if_pos rfl
    | some o =>
      have same := inK a o q
      rw [isList] at same; cases same
      exact .inr ⟨_, vs.toArray, _, q, rfl, rfl, rfl, by rw [List.size_toArray, lens]; exact few, by simpa using rel⟩
  have held : HOk P w H s1.heap := fun b u e => by
    obtain ⟨rfl, _, rfl⟩ := atA b u e
    exact ⟨isList, by rw [List.length_map]; exact few, vs, _, rel, isList⟩
  have toBase : ∀ {b : Addr} {o : Obj}, s1.heap.get? b = some o → H b = none → (hidT s1.heap H).get? b = some o := hidT_get
  have notDict : ∀ {b : Addr} {o : Obj} {d1 : Array DictEntry} {d2 : Nat}, s1.heap.get? b = some o → o.data = .dict d1 d2 → H b = none := fun {b o d1 d2} e d => by
    cases q : H b with
    | none => rfl
    | some u =>
      obtain ⟨rfl, _, _⟩ := atA b u q
      rw [isList] at e; cases e; cases d
  have names : ∀ {b : Addr} {m : Str → Option Value}, s1.heap.Ns b m → (hidT s1.heap H).Ns b m := fun {b m} ⟨o, d1, d2, e, d, z⟩ => ⟨o, d1, d2, toBase e (notDict e d), d, z⟩
  have kBase : K.In (hidT s1.heap H) := fun b o e => toBase (inK b o e) (by
    cases q : H b with
    | none => rfl
    | some u => obtain ⟨rfl, z, _⟩ := atA b u q; rw [z] at e; cases e)
  have m0 : Mod K mg (hidT s1.heap H) := ⟨kBase, names globs, ⟨mb, names blt, bltIs⟩, by obtain ⟨mc, z1, z2⟩ := nolim; exact ⟨mc, names z1, z2⟩⟩
  have env0 : Env0 P w K mg (hidT s1.heap H) callerA [] s1 H :=
    { frames := rfl, mod := m0, bs := fun b o => of_hidT, bsz := Nat.le_of_eq (hidT_size _ _), funs := trivial, frf := fun b z => (List.not_mem_nil z).elim, hok := held, bare := .of_eq noGen }
  refine codeAny_mono ((F _ kBase (names globs)).goes callerA [] rfl room s1 H env0 ⟨[.ref a], []⟩ [.ref a] (bind s1 _) [.ref a] _ _ (.cons rfl .nil) (holds H only seq)) fun res s2 got => ?_
  match res, got with
  | .error e, got => exact (noErr H e s2 got).elim
  | .ok .next, got => exact got.elim
  | .ok .brk, got => exact got.elim
  | .ok .cont, got => exact got.elim
  | .ok (.ret u), got =>
    obtain ⟨v, H2, sameOs, bare, un, hok2, rv, ev⟩ := got
    cases ev
    cases rv
    refine ⟨rfl, OldK.of_keep fun b o e => ?_, sameOs, bare⟩
    cases q : H b with
    | none => exact un.keep b o e q (fun z => (List.not_mem_nil z).elim) (fun z => (List.not_mem_nil z).elim)
    | some z =>
      obtain ⟨rfl, _, rfl⟩ := atA b z q
      obtain ⟨still, _⟩ := hok2 _ _ (un.frzs _ _ _ q)
      rw [isList] at e; cases e
      exact still
theorem law_end {l : PySem.W.OpenLaw} {n k : Nat} {q : Program} {loose : List Str} {XP : (Str → Option Value) → Heap → Prop} {YP : World → Heap → Prop} {d : DefRec} {K : Params → PySem.W.Frag} {sp : PySem.W.Frag → Sp} {x : Str}
    (hn : l.most = some n) (hn2 : n ≤ sizeLine) (hdf : d.params.defaults = []) (room : Room k callerA) (hY : ∀ (w : World) (h : Heap), YP w h → (K w.params).In h)
    (F : ∀ (w : World) (mg : Str → Option Value) (fa : Addr) (h : Heap), (K w.params).In h → h.Ns mainGlobals mg → mg d.name = some (.ref fa) →
      ∃ fd : FuncData, (∀ (s : Shared) (u : Value), BindsTo s fd ⟨[u], []⟩ [(x, u)]) ∧ ∀ base : Heap, (K w.params).In base → base.Ns mainGlobals mg → FnG l.prog w (K w.params) mg base CX0 k fa fd [x] (sp (K w.params)))
    (holds : ∀ (K : PySem.W.Frag) (H : Hp) (a : Addr) (ns : List Int), ns.length ≤ n → Only H → SqL K H a (ns.map V.int) → sp K [.ref a] H (fun v _ => v = .bl true) fun _ _ _ => False) :
    PySem.W.WalkO q loose XP YP l.row.toRowW d [] (fun f vs => PySem.call f vs) := by
  refine Att.attach_call hn hdf fun w s0 s1 mg mb fa o pm cd doc a vs ns G Y ho hd hcd hmg hobj hints hlen hg => ?_
  have inK := hY w _ Y
  obtain ⟨fd, b1, b2⟩ := F w mg fa _ inK G.T.g hmg
  exact law_goes inK G.T.g G.T.b G.T.builtins G.T.nolimit hg hobj hints (Nat.le_trans hlen hn2) room b2 b1 (fun H o1 o2 => holds _ H a ns hlen o1 o2) fun _ _ _ z => z.elim
end SW

namespace SW
open PySem PySem.Spec PyProof.Rows L2
/-! ### promises over data -/
/-- arguments; what is wanted of the result and of what the parameters hold at the end; of an own exception (class, fields) -/
abbrev DSp := List Sl → (Sl → DEnv → Prop) → (Addr → List Str → List D → DEnv → Prop) → Prop
def lift (ds : DSp) : Sp := fun vs H Q E => ∃ (S T : Hp) (args : List Sl) (fp : Nat → List Addr) (Q' : Sl → DEnv → Prop) (E' : Addr → List Str → List D → DEnv → Prop),
  SR S T H (vs.map some) (args.map some) fp ∧ ds args Q' E' ∧
  (∀ (S' H' : Hp) (σ' : St) (δ' : DEnv) (fp' : Nat → List Addr) (v : V) (w : Sl), Le S S' → SR S' T H' σ' δ' fp' → RR S' T H' w v fp' → Q' w δ' → Q v H') ∧
  ∀ (S' H' : Hp) (σ' : St) (δ' : DEnv) (fp' : Nat → List Addr) (C d : Addr) (ks : List Str) (es : List D) (xs : List V), Le S S' → SR S' T H' σ' δ' fp' → S' d = some (.xd (ks.zip xs)) → ks.length = es.length → RIs S' es xs → E' C ks es δ' → E (.ref C) (some d) H'
theorem SR.cut {S T H : Hp} {σ : St} {δ : DEnv} {fp : Nat → List Addr} (s : SR S T H σ δ fp) (n : Nat) : SR S T H (σ.take n) (δ.take n) (fun i => if i < n then fp i else []) where
  s := s.s
  t := s.t
  st := s.st
  len := by simp [s.len]
  sl := fun i => by
    have h := s.sl i
    by_cases hi : i < n
    · simp only [hi, if_true, List.getElem?_take]; exact h
    · simp only [hi, if_false, List.getElem?_take]; rfl
  dis := fun i j a h1 h2 => by
    by_cases hi : i < n
    · by_cases hj : j < n
      · simp only [hi, hj, if_true] at h1 h2; exact s.dis i j a h1 h2
      · simp only [hj, if_false] at h2; cases h2
    · simp only [hi, if_false] at h1; cases h1
  own := fun i a h1 => by
    by_cases hi : i < n
    · simp only [hi, if_true] at h1; exact s.own i a h1
    · simp only [hi, if_false] at h1; cases h1
theorem RR.cut {S T H : Hp} {w : Sl} {v : V} {fp : Nat → List Addr} (r : RR S T H w v fp) (n : Nat) : RR S T H w v (fun i => if i < n then fp i else []) := by
  obtain ⟨l, h1, h2⟩ := r
  refine ⟨l, h1, fun a ha => ⟨fun j hj => ?_, (h2 a ha).2⟩⟩
  by_cases hi : j < n
  · simp only [hi, if_true] at hj; exact (h2 a ha).1 j hj
  · simp only [hi, if_false] at hj; cases hj
theorem SR.pad {S T H : Hp} {σ : St} {δ : DEnv} {fp : Nat → List Addr} (s : SR S T H σ δ fp) (n : Nat) : SR S T H (σ ++ List.replicate n none) (δ ++ List.replicate n none) fp where
  s := s.s
  t := s.t
  st := s.st
  len := by simp [s.len]
  sl := fun i => by
    have h := s.sl i
    have hl := s.len
    by_cases hi : i < σ.length
    · rw [List.getElem?_append_left hi, List.getElem?_append_left (by omega)]; exact h
    · rw [List.getElem?_append_right (by omega), List.getElem?_append_right (by omega)]
      have e : δ[i]? = none := List.getElem?_eq_none (by omega)
      rw [e] at h
      have hf : fp i = [] := h
      have e2 : (List.replicate n (none : Option Sl))[i - δ.length]? = none ∨ (List.replicate n (none : Option Sl))[i - δ.length]? = some none := by
        rw [List.getElem?_replicate]; split
        · exact .inr rfl
        · exact .inl rfl
      rcases e2 with e2 | e2 <;> rw [e2] <;> exact hf
  dis := s.dis
  own := s.own
def startD (N : List Str) (args : List Sl) : DEnv := args.map some ++ List.replicate (N.length - args.length) none
section
variable {P : Program} {w : World} {K : PySem.W.Frag} {mg : Str → Option Value} {base : Heap}
/-- a def keeps its promise over data; nothing is raised -/
theorem dfn {x qual : Str} {st : Stmt} {f : Addr} {fd : FuncData} {N ps : List Str} {k : Nat} {ds : DSp} (F : Fun K x qual st f fd) (Sc : FnScope N ps (defScope st)) (len : ∀ args Q E, ds args Q E → args.length = ps.length)
    (hbody : ∀ (cdv : Value) (A : Around) (outer : List Env) (s : Shared) (H : Hp) (E : XK), A.guards = some [] → Room k (A.deeper (envOfC qual (defScope st) s.heap.objs.size f cdv)) →
      ∃ r t, DSs (cxOf CX0 P w K mg base N qual (defScope st) f cdv A outer s H E).nox (defBody st) r t ∧
        ∀ args Q' E', ds args Q' E' → t { nx := fun δ => Q' (.i .non) (δ.take ps.length), rt := fun w δ => Q' w (δ.take ps.length) } (startD N args)) : FnG P w K mg base CX0 (k + 1) f fd ps (lift ds) := by
  have hl : ∀ vs H Q E, lift ds vs H Q E → vs.length = ps.length := fun vs H Q E ⟨S, T, args, fp, Q', E', s, h, _⟩ => by
    have := s.len; simp at this; rw [this]; exact len _ _ _ h
  refine fnG_of F Sc hl (fun cdv A outer s H vs Q E gd hr h => ?_)
  obtain ⟨S, T, args, fp, Q', E', sr, hd, hq, _⟩ := h
  obtain ⟨r, t, d, hb⟩ := hbody cdv A outer s H E gd hr
  refine ⟨r, d.ps.nox, ?_⟩
  have sr0 := sr.len; simp at sr0
  have s0 : SR S T H (L2.start N vs) (startD N args) fp := by
    unfold L2.start startD; rw [sr0]; exact sr.pad _
  refine d.sim S T H _ _ fp _ _ s0 (hb args Q' E' hd) ⟨fun S' H' σ' δ' fp' l s' q => ?_, fun _ _ _ _ _ _ _ q => q, fun _ _ _ _ _ _ _ q => q, fun S' H' σ' δ' fp' v w l s' rr q => ?_⟩
  · exact hq S' H' _ _ _ .non (.i .non) l (s'.cut ps.length) (.i ri_non) q
  · exact hq S' H' _ _ _ v w l (s'.cut ps.length) (rr.cut _) q
end
/-! ### calls -/
def outOf (S H : Hp) (l : List Addr) : Hp := fun b => match S b with
  | none => if b ∈ l then none else H b
  | some _ => none
theorem outOf_some {S H : Hp} {l : List Addr} {b : Addr} {o : HO} (h : outOf S H l b = some o) : S b = none ∧ b ∉ l ∧ H b = some o := by
  unfold outOf at h
  split at h
  · rename_i e
    split at h
    · cases h
    · rename_i hb; exact ⟨e, hb, h⟩
  · cases h
theorem outOf_eq {S H : Hp} {l : List Addr} {b : Addr} (h1 : S b = none) (h2 : b ∉ l) : outOf S H l b = H b := by
  unfold outOf; rw [h1]; simp [h2]
def resD (w : Sl) (Q : D → Prop) : Prop := match w with
  | .i d => Q d
  | .o _ (.lst ds) => Q (.lst ds)
  | .o _ (.dK ks ds) => Q (.dK ks ds)
  | .o _ (.dT ks ds) => Q (.dT ks ds)
  | .o _ (.rng _ _ _) => False
  | .o _ (.ll _) => False
section
variable {X : Cx} {k : Nat} {f : Addr} {fd : FuncData} {ps : List Str} {sp : DSp} {dvD : List D} {dvs : List V} {dsv : List Value} {x : Str} {e : Expr} {es : List Expr} {pos pos' : Pos} {n : Nat} {p : Bool} {wa : TA} {va : DTA} {CX : CXT} {E : XK}
/-- the result taken as data for good -/
theorem res_frz {S T H : Hp} {σ : St} {δ : DEnv} {fp : Nat → List Addr} {w : Sl} {v : V} (s : SR S T H σ δ fp) (r : RR S T H w v fp) {Q : D → Prop} (q : resD w Q) :
    ∃ S' d, Le S S' ∧ SR S' T H σ δ fp ∧ RI S' d v ∧ Q d ∧ ∀ b, S b = none → S' b ≠ none → ∃ a, w = .o a (match w with | .o _ z => z | .i _ => .lst []) ∧ b = a := by
  obtain ⟨l, h1, h2⟩ := r
  unfold resD at q
  split at q
  · rename_i d
    obtain ⟨⟨y, e1, r1⟩, _⟩ := h1
    cases e1
    exact ⟨S, d, Le.refl _, s, r1, q, fun b hb hb' => absurd hb hb'⟩
  · rename_i a ds
    obtain ⟨e1, xs, g1, g2, gl⟩ := h1
    cases e1
    have ha := h2 a (by rw [gl]; exact List.mem_singleton.mpr rfl)
    exact ⟨_, .lst ds, le_upd ha.2.1, s.adopt g1 ha.2.1 ha.2.2 ha.1, ri_lst upd_same (g2.mono (le_upd ha.2.1)), q, fun b hb hb' => ⟨a, rfl, by
      by_cases z : b = a
      · exact z
      · rw [upd_ne z] at hb'; exact absurd hb hb'⟩⟩
  · rename_i a ks ds
    obtain ⟨e1, xs, g1, g2, g3, gl⟩ := h1
    cases e1
    have ha := h2 a (by rw [gl]; exact List.mem_singleton.mpr rfl)
    exact ⟨_, .dK ks ds, le_upd ha.2.1, s.adopt g1 ha.2.1 ha.2.2 ha.1, by simp only [RI]; exact ⟨a, xs, rfl, upd_same, g2, g3.mono (le_upd ha.2.1)⟩, q, fun b hb hb' => ⟨a, rfl, by
      by_cases z : b = a
      · exact z
      · rw [upd_ne z] at hb'; exact absurd hb hb'⟩⟩
  · rename_i a ks ds
    obtain ⟨e1, xs, g1, g2, g3, gl⟩ := h1
    cases e1
    have ha := h2 a (by rw [gl]; exact List.mem_singleton.mpr rfl)
    exact ⟨_, .dT ks ds, le_upd ha.2.1, s.adopt g1 ha.2.1 ha.2.2 ha.1, by simp only [RI]; exact ⟨a, xs, rfl, upd_same, g2, g3.mono (le_upd ha.2.1)⟩, q, fun b hb hb' => ⟨a, rfl, by
      by_cases z : b = a
      · exact z
      · rw [upd_ne z] at hb'; exact absurd hb hb'⟩⟩
  · exact q.elim
  · exact q.elim
/-- the callee's state, all arguments data -/
theorem SR.callee {S T H : Hp} {σ : St} {δ : DEnv} {fp : Nat → List Addr} (s : SR S T H σ δ fp) {vs : List V} {ds : List D} (r : RIs S ds vs) :
    SR S (outOf S H []) H (vs.map some) ((ds.map Sl.i).map some) (fun _ => []) where
  s := s.s
  t := fun b o h => (outOf_some h).2.2
  st := fun b o h => (outOf_some h).1
  len := by simp [r.len]
  sl := fun i => by
    simp only [List.map_map, List.getElem?_map]
    cases e : ds[i]? with
    | none => rfl
    | some d =>
      obtain ⟨y, e1, r1⟩ := r.get e
      rw [e1]; exact ⟨⟨y, rfl, r1⟩, rfl⟩
  dis := fun _ _ _ h => nomatch h
  own := fun _ _ h => nomatch h
/-- behind such a call -/
theorem SR.called {S S' T H H' : Hp} {σ σ' : St} {δ δ' : DEnv} {fp fp' : Nat → List Addr} (s : SR S T H σ δ fp) (l : Le S S') (s' : SR S' (outOf S H []) H' σ' δ' fp') :
    SR S' T H' σ δ fp ∧ Ex S H S' H' := by
  have le : Le H H' := fun b o e => by
    cases q : S b with
    | none => exact s'.t b o (by rw [outOf_eq q (by simp)]; exact e)
    | some u => have := s.s b u q; rw [e] at this; cases this; exact s'.s b o (l b o q)
  have fr : ∀ b, H b ≠ none → S b = none → S' b = none := fun b h1 h2 => by
    cases q : H b with
    | none => exact absurd q h1
    | some o => exact s'.st b o (by rw [outOf_eq h2 (by simp)]; exact q)
  refine ⟨⟨s'.s, s.t.trans le, fun b o e => fr b (by rw [s.t b o e]; exact nofun) (s.st b o e), s.len, fun i => (s.sl i).keep l fun a _ o e => le a o e, s.dis, fun i a ha => ?_⟩, ⟨le, fr⟩⟩
  obtain ⟨o, eo⟩ := s.there ha
  exact ⟨fr a (by rw [eo]; exact nofun) (s.own i a ha).1, (s.own i a ha).2⟩
theorem RR.called {S S' T H H' : Hp} {σ σ' : St} {δ δ' : DEnv} {fp fp' : Nat → List Addr} {w : Sl} {v : V} (s : SR S T H σ δ fp) (l : Le S S') (s' : SR S' (outOf S H []) H' σ' δ' fp') (r : RR S' (outOf S H []) H' w v fp') : RR S' T H' w v fp := by
  obtain ⟨l', h1, h2⟩ := r
  refine ⟨l', h1, fun a ha => ?_⟩
  obtain ⟨_, q1, q2⟩ := h2 a ha
  have key : ∀ o, H a = some o → S a = none → False := fun o e e' => by rw [outOf_eq e' (by simp), e] at q2; cases q2
  have hSa : S a = none := le_none l q1
  refine ⟨fun j hj => ?_, q1, ?_⟩
  · obtain ⟨o, eo⟩ := s.there hj
    exact key o eo hSa
  · cases e : T a with
    | none => rfl
    | some o => exact (key o (s.t a o e) hSa).elim
def dCall (sp : DSp) (dvD : List D) (va : DTA) : DT := fun δ Q => va δ fun ds δ1 => sp ((ds ++ dvD).map .i) (fun w _ => resD w fun d => Q d δ1) fun _ _ _ _ => False
theorem sim_call (hdv : ∀ S, RIs S dvD dvs) (ha : SimA n p wa va) : SimE p (tCall (lift sp) dvs E wa) (dCall sp dvD va) := by
  intro S T H σ δ fp Q Q' s q k
  refine ha S T H σ δ fp _ _ s q fun S1 H1 fp1 vs ds δ1 l1 s1 r1 e1 u1 q1 => ?_
  refine ⟨S1, outOf S1 H1 [], _, fun _ => [], _, _, s1.callee (r1.append (hdv S1)), q1, fun S2 H2 σ2 δ2 fp2 v w l2 s2 rr q2 => ?_, fun _ _ _ _ _ _ _ _ _ _ _ _ _ _ _ z => z.elim⟩
  obtain ⟨s3, x3⟩ := s1.called l2 s2
  have rr3 := RR.called s1 l2 s2 rr
  obtain ⟨S4, d, l4, s4, r4, q4, f4⟩ := res_frz s3 rr3 q2
  refine k S4 H2 fp1 v d δ1 (l1.trans (l2.trans l4)) s4 r4 (u1.grow ⟨x3.le, fun b hb hb2 => ?_⟩) q4
  have h2 := x3.fr b hb hb2
  cases e4 : S4 b with
  | none => rfl
  | some o4 =>
    obtain ⟨a, ea, rfl⟩ := f4 b h2 (by rw [e4]; exact nofun)
    exfalso
    obtain ⟨l', h1', h2'⟩ := rr
    rw [ea] at h1'
    obtain ⟨_, oi⟩ := h1'
    have hb0 : outOf S1 H1 [] b ≠ none := by rw [outOf_eq hb2 (by simp)]; exact hb
    have hbl : b ∈ l' := by
      rw [ea] at q2
      cases w with
      | i d => cases ea
      | o a' z =>
        cases z with
        | lst _ => obtain ⟨_, _, _, g⟩ := oi; rw [g]; exact List.mem_singleton.mpr rfl
        | dK _ _ => obtain ⟨_, _, _, _, g⟩ := oi; rw [g]; exact List.mem_singleton.mpr rfl
        | dT _ _ => obtain ⟨_, _, _, _, g⟩ := oi; rw [g]; exact List.mem_singleton.mpr rfl
        | rng _ _ _ => exact q2.elim
        | ll _ => exact q2.elim
    exact hb0 (h2' b hbl).2.2
theorem de_call (G : FnG X.prog X.w X.K X.mg X.base CX k f fd ps (lift sp)) (hr : Room k X.A) (gd : X.A.guards = some []) (hg : Gl X x) (hm : X.mg x = some (.ref f)) (hk : PySem.W.keepIn X.K (.ref f) = true) (hb : Binds X.K fd ps dsv) (hd : Vals dvs dsv) (hdv : ∀ S, RIs S dvD dvs) (hx : Passes CX X E)
    (ha : DA X (e :: es) n p wa va) (hdb : (x == ("__debug__" : Str)) = false := by decide) (he : starEach (e :: es) X.env = (false, eval e X.env) :: starEach es X.env := by rfl) (hpl : (backTo pos (starEach es X.env)).any (·.1) = false := by rfl) :
    DE X (.Call (.Name x pos') (e :: es) [] pos) p (tCall (lift sp) dvs E wa) (dCall sp dvD va) := ⟨pe_callG G hr gd hg hm hk hb hd hx ha.pe hdb he hpl, sim_call hdv ha.sim⟩
/-- the result is a slot's own -/
def dCallF (sp : DSp) (dvD : List D) (va : DTA) : DTF := fun δ Q => va δ fun ds δ1 => sp ((ds ++ dvD).map .i) (fun w _ => match w with
  | .o _ (.rng _ _ _) => False
  | .o _ (.ll _) => False
  | .o a w => Q a w δ1
  | .i _ => False) fun _ _ _ _ => False
theorem sim_callF (hdv : ∀ S, RIs S dvD dvs) (ha : SimA n p wa va) : SimF p (tCall (lift sp) dvs E wa) (dCallF sp dvD va) := by
  intro S T H σ δ fp Q Q' s q k
  refine ha S T H σ δ fp _ _ s q fun S1 H1 fp1 vs ds δ1 l1 s1 r1 e1 u1 q1 => ?_
  refine ⟨S1, outOf S1 H1 [], _, fun _ => [], _, _, s1.callee (r1.append (hdv S1)), q1, fun S2 H2 σ2 δ2 fp2 v w l2 s2 rr q2 => ?_, fun _ _ _ _ _ _ _ _ _ _ _ _ _ _ _ z => z.elim⟩
  obtain ⟨s3, x3⟩ := s1.called l2 s2
  have rr0 := rr
  have rr3 := RR.called s1 l2 s2 rr
  obtain ⟨l', h1, h2⟩ := rr3
  have fin : ∀ (a : Addr) (z : O), w = .o a z → OI S2 H2 z a [a] → l' = [a] → v = .ref a → Q' a z δ1 → Q v H2 := fun a z ew oi el ev qq => by
    subst ev
    have ha := h2 a (by rw [el]; exact List.mem_singleton.mpr rfl)
    refine k S2 H2 fp1 a z δ1 (l1.trans l2) s3 ⟨oi, ha.2.1, ha.2.2, ha.1⟩ (u1.grow x3) (fun e => ?_) qq
    obtain ⟨l0, g1, g2⟩ := rr0
    rw [ew] at g1 h1
    have el0 : a ∈ l0 := by
      cases z with
      | lst _ => obtain ⟨_, _, _, _, g⟩ := g1; rw [g]; exact List.mem_singleton.mpr rfl
      | dK _ _ => obtain ⟨_, _, _, _, _, g⟩ := g1; rw [g]; exact List.mem_singleton.mpr rfl
      | dT _ _ => obtain ⟨_, _, _, _, _, g⟩ := g1; rw [g]; exact List.mem_singleton.mpr rfl
      | rng _ _ _ => rw [ew] at q2; exact q2.elim
      | ll _ => rw [ew] at q2; exact q2.elim
    have hT := (g2 a el0).2.2
    have hSa : S1 a = none := le_none l2 ha.2.1
    rw [outOf_eq hSa (by simp)] at hT
    exact le_none (u1 e).2.le hT
  cases w with
  | i d => exact q2.elim
  | o a z =>
    cases z with
    | lst _ => obtain ⟨e1, xs, g1, g2, g3⟩ := h1; cases e1; exact fin a _ rfl ⟨xs, g1, g2, rfl⟩ g3 rfl q2
    | dK _ _ => obtain ⟨e1, xs, g1, g2, g3, g4⟩ := h1; cases e1; exact fin a _ rfl ⟨xs, g1, g2, g3, rfl⟩ g4 rfl q2
    | dT _ _ => obtain ⟨e1, xs, g1, g2, g3, g4⟩ := h1; cases e1; exact fin a _ rfl ⟨xs, g1, g2, g3, rfl⟩ g4 rfl q2
    | rng _ _ _ => exact q2.elim
    | ll _ => exact q2.elim
theorem df_call (G : FnG X.prog X.w X.K X.mg X.base CX k f fd ps (lift sp)) (hr : Room k X.A) (gd : X.A.guards = some []) (hg : Gl X x) (hm : X.mg x = some (.ref f)) (hk : PySem.W.keepIn X.K (.ref f) = true) (hb : Binds X.K fd ps dsv) (hd : Vals dvs dsv) (hdv : ∀ S, RIs S dvD dvs) (hx : Passes CX X E)
    (ha : DA X (e :: es) n p wa va) (hdb : (x == ("__debug__" : Str)) = false := by decide) (he : starEach (e :: es) X.env = (false, eval e X.env) :: starEach es X.env := by rfl) (hpl : (backTo pos (starEach es X.env)).any (·.1) = false := by rfl) :
    DF X (.Call (.Name x pos') (e :: es) [] pos) p (tCall (lift sp) dvs E wa) (dCallF sp dvD va) := ⟨pe_callG G hr gd hg hm hk hb hd hx ha.pe hdb he hpl, sim_callF hdv ha.sim⟩
/-- f(k = v): keywords alone, in the parameters' order -/
structure DK (X : Cx) (kws : List Keyword) (n : Nat) (p : Bool) (r : TA) (t : DTA) : Prop where
  pk : PK X kws r
  sim : SimA n p r t
theorem dk_nil : DK X [] 0 true tNil dNil := ⟨pk_nil, fun S T H σ δ fp Q Q' s q k => k S H fp [] [] δ (Le.refl _) s .nil rfl .refl q⟩
theorem dk_cons {nm : Option Str} {kpos : Pos} {kws : List Keyword} {q : TE} {u : DT} {p1 p2 : Bool} (ha : DE X e p1 q u) (hr : DK X kws n p2 wa va) : DK X (⟨nm, e, kpos⟩ :: kws) (n + 1) (p1 && p2) (tCons q wa) (dCons u va) := by
  refine ⟨pk_cons ha.pe hr.pk, ?_⟩
  intro S T H σ δ fp Q Q' s q k
  refine ha.sim S T H σ δ fp _ _ s q fun S1 H1 fp1 v x δ1 l1 s1 r1 u1 q1 => ?_
  refine hr.sim S1 T H1 σ δ1 fp1 _ _ s1 q1 fun S2 H2 fp2 vs ds δ2 l2 s2 r2 e2 u2 q2 => ?_
  exact k S2 H2 fp2 (v :: vs) (x :: ds) δ2 (l1.trans l2) s2 (.cons (r1.mono l2) r2) (by simp [e2]) (u1.trans u2) q2
def tCallK0 (sp : Sp) (E : XK) (tk : TA) : TE := fun σ H Q => tk σ H fun zs H2 => sp zs H2 Q E
theorem de_callK0 {kws : List Keyword} {ks : List Str} (F : FnG X.prog X.w X.K X.mg X.base CX k f fd ps (lift sp)) (hr : Room k X.A) (gd : X.A.guards = some []) (hg : Gl X x) (hm : X.mg x = some (.ref f)) (hk : PySem.W.keepIn X.K (.ref f) = true)
    (hb : ∀ (s : Shared) (ws : List Value), ws.length = ps.length → BindsTo s fd ⟨[], ks.zip ws⟩ (ps.zip ws)) (hx : Passes CX X E) (hkw : DK X kws n p wa va) (hall : (backToKw pos (keywordEach kws X.env)).all (·.1.isSome) = true := by rfl) (hks : (backToKw pos (keywordEach kws X.env)).filterMap (·.1) = ks := by rfl)
    (hdb : (x == ("__debug__" : Str)) = false := by decide) (hpl : ((backTo pos (starEach [] X.env)).any (·.1) || (backToKw pos (keywordEach kws X.env)).any (·.1.isNone)) = false := by rfl) :
    DE X (.Call (.Name x pos') [] kws pos) p (tCallK0 (lift sp) E wa) (dCall sp [] va) := by
  refine ⟨pe_callGK F hr gd hg hm hk hb hx hkw.pk hall hks hdb hpl, ?_⟩
  have h := sim_call (sp := sp) (dvD := []) (dvs := []) (E := E) (fun _ => RIs.nil) hkw.sim
  intro S T H σ δ fp Q Q' s q k
  have := h S T H σ δ fp Q Q' s q k
  unfold tCall at this
  simp only [List.append_nil] at this
  exact this
end
end SW

namespace SW
open PySem PySem.Spec PyProof.Rows L2
section
variable {X : Cx} {k : Nat} {f : Addr} {fd : FuncData} {ps : List Str} {sp : DSp} {dvD : List D} {dvs : List V} {dsv : List Value} {x y : Str} {e a b : Expr} {es : List Expr} {pos pos' apos : Pos} {n : Nat} {p p1 p2 : Bool} {wa : TA} {va : DTA} {CX : CXT} {E : XK} {q ra rb : TE} {u ta tb : DT}
/-! ### calls whose first argument is a slot's own object -/
def argsM (a : Addr) (w : O) (ds : List D) : List Sl := .o a w :: ds.map .i
def outM (a : Addr) (δ' : DEnv) (k : O → Prop) : Prop := match (δ'[0]? : Option (Option Sl)) with
  | some (some (.o a' w')) => a' = a ∧ k w'
  | _ => False
def dCallM (sp : DSp) (dvD : List D) (i : Nat) (va : DTA) : DT := fun δ Q => match δ[i]? with
  | some (some (.o _ _)) => va δ fun ds δ1 => match δ1[i]? with
    | some (some (.o a w)) => sp (argsM a w (ds ++ dvD)) (fun r δ' => outM a δ' fun w' => resD r fun d => Q d (δ1.set i (some (.o a w')))) fun _ _ _ _ => False
    | _ => False
  | _ => False
theorem SR.calleeM {S T H : Hp} {σ : St} {δ : DEnv} {fp : Nat → List Addr} (s : SR S T H σ δ fp) {i : Nat} {a : Addr} {w : O} (hi : δ[i]? = some (some (.o a w))) {vs : List V} {ds : List D} (r : RIs S ds vs) :
    SR S (outOf S H (fp i)) H ((V.ref a :: vs).map some) ((argsM a w ds).map some) (fun j => if j = 0 then fp i else []) where
  s := s.s
  t := fun b o h => (outOf_some h).2.2
  st := fun b o h => (outOf_some h).1
  len := by simp [argsM, r.len]
  sl := fun j => by
    have hsl := s.sl i
    rw [hi] at hsl
    cases j with
    | zero => simp only [argsM, List.map_cons, if_true]; exact ⟨rfl, hsl.2⟩
    | succ j =>
      simp only [argsM, List.map_cons, List.getElem?_cons_succ, List.map_map, List.getElem?_map]
      cases e : ds[j]? with
      | none => exact if_neg (by omega)
      | some d =>
        obtain ⟨y, e1, r1⟩ := r.get e
        rw [e1]; exact ⟨⟨y, rfl, r1⟩, if_neg (by omega)⟩
  dis := fun j m c h1 h2 => by
    by_cases hj : j = 0
    · by_cases hm : m = 0
      · rw [hj, hm]
      · rw [if_neg hm] at h2; cases h2
    · rw [if_neg hj] at h1; cases h1
  own := fun j c h1 => by
    by_cases hj : j = 0
    · rw [if_pos hj] at h1
      refine ⟨(s.own i c h1).1, ?_⟩
      unfold outOf; rw [(s.own i c h1).1]; simp [h1]
    · rw [if_neg hj] at h1; cases h1
theorem SR.calledM {S S' T H H' : Hp} {σ σ' : St} {δ δ' : DEnv} {fp fp' : Nat → List Addr} (s : SR S T H σ δ fp) {i : Nat} {a : Addr} {w w' : O} (hi : δ[i]? = some (some (.o a w))) (l : Le S S') (s' : SR S' (outOf S H (fp i)) H' σ' δ' fp') (h0 : δ'[0]? = some (some (.o a w'))) :
    SR S' T H' σ (δ.set i (some (.o a w'))) (fset fp i (fp' 0)) := by
  have hsl := s.sl i
  rw [hi] at hsl
  have hsl' := s'.sl 0
  rw [h0] at hsl'
  have keep : ∀ b o, H b = some o → b ∉ fp i → H' b = some o := fun b o e hb => by
    cases q : S b with
    | none => exact s'.t b o (by rw [outOf_eq q hb]; exact e)
    | some u => have := s.s b u q; rw [e] at this; cases this; exact s'.s b o (l b o q)
  have fr : ∀ b o, H b = some o → S b = none → b ∉ fp i → S' b = none := fun b o e h2 hb => s'.st b o (by rw [outOf_eq h2 hb]; exact e)
  have outT : ∀ b o, T b = some o → outOf S H (fp i) b = some o := fun b o e => by
    rw [outOf_eq (s.st b o e) (fun hb => by rw [(s.own i b hb).2] at e; cases e)]; exact s.t b o e
  have new : ∀ c, c ∈ fp' 0 → S' c = none ∧ T c = none ∧ ∀ j, j ≠ i → c ∉ fp j := fun c hc => by
    obtain ⟨q1, q2⟩ := s'.own 0 c hc
    refine ⟨q1, ?_, fun j hj hcj => ?_⟩
    · cases e : T c with
      | none => rfl
      | some o => rw [outT c o e] at q2; cases q2
    · obtain ⟨o, eo⟩ := s.there hcj
      rw [outOf_eq (s.own j c hcj).1 (fun z => hj (s.dis j i c hcj z)), eo] at q2; cases q2
  have hil : i < σ.length := (List.getElem?_eq_some_iff.mp hsl.1).1
  refine ⟨s'.s, fun b o e => s'.t b o (outT b o e), fun b o e => s'.st b o (outT b o e), by simpa using s.len, fun j => ?_, fun j m c h1 h2 => ?_, fun j c hc => ?_⟩
  · by_cases hj : j = i
    · subst hj
      rw [fset_same, List.getElem?_set_self (by rw [← s.len]; exact hil)]
      exact ⟨hsl.1, hsl'.2⟩
    · rw [fset_ne hj, List.getElem?_set_ne (Ne.symm hj)]
      exact (s.sl j).keep l fun c hc o e => keep c o e fun z => hj (s.dis j i c hc z)
  · by_cases hj : j = i
    · subst hj
      rw [fset_same] at h1
      by_cases hm : m = j
      · exact hm.symm
      · rw [fset_ne hm] at h2; exact absurd h2 ((new c h1).2.2 m hm)
    · rw [fset_ne hj] at h1
      by_cases hm : m = i
      · subst hm; rw [fset_same] at h2; exact absurd h1 ((new c h2).2.2 j hj)
      · rw [fset_ne hm] at h2; exact s.dis j m c h1 h2
  · by_cases hj : j = i
    · subst hj; rw [fset_same] at hc; exact ⟨(new c hc).1, (new c hc).2.1⟩
    · rw [fset_ne hj] at hc
      obtain ⟨o, eo⟩ := s.there hc
      exact ⟨fr c o eo (s.own j c hc).1 (fun z => hj (s.dis j i c hc z)), (s.own j c hc).2⟩
theorem RR.calledM {S S' T H H' : Hp} {σ σ' : St} {δ δ' : DEnv} {fp fp' : Nat → List Addr} {w : Sl} {v : V} {i : Nat} {a : Addr} {w0 : O} (s : SR S T H σ δ fp) (hi : δ[i]? = some (some (.o a w0))) (l : Le S S') (s' : SR S' (outOf S H (fp i)) H' σ' δ' fp') (r : RR S' (outOf S H (fp i)) H' w v fp') : RR S' T H' w v (fset fp i (fp' 0)) := by
  obtain ⟨l', h1, h2⟩ := r
  refine ⟨l', h1, fun c hc => ?_⟩
  obtain ⟨q0, q1, q2⟩ := h2 c hc
  refine ⟨fun j hj => ?_, q1, ?_⟩
  · by_cases hji : j = i
    · subst hji; rw [fset_same] at hj; exact q0 0 hj
    · rw [fset_ne hji] at hj
      obtain ⟨o, eo⟩ := s.there hj
      rw [outOf_eq (s.own j c hj).1 (fun z => hji (s.dis j i c hj z)), eo] at q2; cases q2
  · cases e : T c with
    | none => rfl
    | some o => rw [outOf_eq (s.st c o e) (fun hb => by rw [(s.own i c hb).2] at e; cases e), s.t c o e] at q2; cases q2
theorem sim_callM (i : Nat) (hdv : ∀ S, RIs S dvD dvs) (ha : SimA n p wa va) : SimE false (tCall (lift sp) dvs E (tCons (tVar i) wa)) (dCallM sp dvD i va) := by
  intro S T H σ δ fp Q Q' s q k
  unfold dCallM at q
  split at q
  · rename_i a0 w0 e0
    have hv := s.sl i
    rw [e0] at hv
    refine ⟨.ref a0, hv.1, ?_⟩
    refine ha S T H σ δ fp _ _ s q fun S1 H1 fp1 vs ds δ1 l1 s1 r1 e1 u1 q1 => ?_
    split at q1
    · rename_i a w ei
      have hv1 := s1.sl i
      rw [ei] at hv1
      have ea : a0 = a := by have := hv.1.symm.trans hv1.1; cases this; rfl
      subst ea
      refine ⟨S1, outOf S1 H1 (fp1 i), _, _, _, _, s1.calleeM ei (r1.append (hdv S1)), q1, fun S2 H2 σ2 δ2 fp2 v r l2 s2 rr q2 => ?_, fun _ _ _ _ _ _ _ _ _ _ _ _ _ _ _ z => z.elim⟩
      unfold outM at q2
      split at q2
      · rename_i a' w' e'
        obtain ⟨rfl, q2⟩ := q2
        have s3 := s1.calledM ei l2 s2 e'
        have rr3 := RR.calledM s1 ei l2 s2 rr
        obtain ⟨S4, d, l4, s4, r4, q4, _⟩ := res_frz s3 rr3 q2
        exact k S4 H2 _ v d _ (l1.trans (l2.trans l4)) s4 r4 (fun z => nomatch z) q4
      · exact q2.elim
    · exact q1.elim
  · exact q.elim
theorem de_callM (i : Nat) (G : FnG X.prog X.w X.K X.mg X.base CX k f fd ps (lift sp)) (hr : Room k X.A) (gd : X.A.guards = some []) (hg : Gl X x) (hm : X.mg x = some (.ref f)) (hk : PySem.W.keepIn X.K (.ref f) = true) (hb : Binds X.K fd ps dsv) (hd : Vals dvs dsv) (hdv : ∀ S, RIs S dvD dvs) (hx : Passes CX X E)
    (h0 : PE X (.Name y apos) (tVar i)) (ha : DA X es n p wa va) (hdb : (x == ("__debug__" : Str)) = false := by decide) (he : starEach (.Name y apos :: es) X.env = (false, eval (.Name y apos) X.env) :: starEach es X.env := by rfl) (hpl : (backTo pos (starEach es X.env)).any (·.1) = false := by rfl) :
    DE X (.Call (.Name x pos') (.Name y apos :: es) [] pos) false (tCall (lift sp) dvs E (tCons (tVar i) wa)) (dCallM sp dvD i va) := ⟨pe_callG G hr gd hg hm hk hb hd hx (pa_cons h0 ha.pe he) hdb he hpl, sim_callM i hdv ha.sim⟩
/-! ### methods of a slot's own list -/
def dAppend (i : Nat) (u : DT) : DS := fun D δ => match δ[i]? with
  | some (some (.o _ (.lst _))) => u δ fun d δ1 => match δ1[i]? with
    | some (some (.o a (.lst ds))) => ds.length < sizeLine ∧ D.nx (δ1.set i (some (.o a (.lst (ds ++ [d])))))
    | _ => False
  | _ => False
theorem sim_append (i : Nat) {K : PySem.W.Frag} (h : SimE p q u) : SimS (tDrop (tBM K "list" rAppend (tVar i) (tCons q tNil))) (dAppend i u) := by
  intro S T H σ δ fp D D' s g k
  unfold dAppend at g
  split at g
  · rename_i a0 ds0 e0
    have hv := s.sl i
    rw [e0] at hv
    obtain ⟨ev, xs0, hx0, _, _⟩ := hv
    refine ⟨.ref a0, ev, .inl ⟨rfl, xs0, SqL.of hx0⟩, ?_⟩
    refine h S T H σ δ fp _ _ s g fun S1 H1 fp1 v d δ1 l1 s1 r1 u1 q1 => ?_
    split at q1
    · rename_i a ds ei
      have hv1 := s1.sl i
      rw [ei] at hv1
      obtain ⟨ev1, xs, hx, rx, hfp⟩ := hv1
      have ea : a0 = a := by have := ev.symm.trans ev1; cases this; rfl
      subst ea
      refine ⟨a0, xs, v, rfl, rfl, hx, by rw [← rx.len]; exact q1.1, ?_⟩
      have s2 := s1.mut (H' := upd H1 a0 (.lst (xs ++ [v]))) ev1 (w' := .lst (ds ++ [d])) (l := [a0]) ⟨_, upd_same, rx.append (.cons r1 .nil), rfl⟩ (fun b w hb hbw => by rw [upd_ne (fun z => hb (by rw [hfp, z]; exact List.mem_singleton.mpr rfl))]; exact hbw) fun b hb => .inl (by rw [hfp]; exact hb)
      exact k.nx S1 _ σ _ _ l1 s2 q1.2
    · exact q1.elim
  · exact g.elim
theorem ds_append (i : Nat) (ho : PE X (.Name y apos) (tVar i)) {apos2 cpos : Pos} (h : DE X e p q u)
    (hs : swapsWith (.Call (.Attribute (.Name y apos) "append" apos2) [e] [] cpos) none pos.line X.env = pure false := by rfl)
    (hpe : PE X (.Call (.Attribute (.Name y apos) "append" apos2) [e] [] cpos) (tBM X.K "list" rAppend (tVar i) (tCons q tNil))) : DSt X (.Expr (.Call (.Attribute (.Name y apos) "append" apos2) [e] [] cpos) pos) (tDrop (tBM X.K "list" rAppend (tVar i) (tCons q tNil))) (dAppend i u) :=
  ⟨ps_expr hpe hs, sim_append i h.sim⟩
def dPopAt (i : Nat) (u : DT) : DT := fun δ Q => match δ[i]? with
  | some (some (.o _ (.lst _))) => u δ fun d δ1 => match δ1[i]?, d with
    | some (some (.o a (.lst ds))), .int m => (-(2 ^ 63) ≤ m ∧ m < 2 ^ 63) ∧ ∃ j y, seqIndex? m ds.length = some j ∧ ds[j]? = some y ∧ Q y (δ1.set i (some (.o a (.lst (ds.eraseIdx j)))))
    | _, _ => False
  | _ => False
theorem sim_popAt (i : Nat) {K : PySem.W.Frag} (h : SimE p q u) : SimE false (tBM K "list" rPopAt (tVar i) (tCons q tNil)) (dPopAt i u) := by
  intro S T H σ δ fp Q Q' s g k
  unfold dPopAt at g
  split at g
  · rename_i a0 ds0 e0
    have hv := s.sl i
    rw [e0] at hv
    obtain ⟨ev, xs0, hx0, _, _⟩ := hv
    refine ⟨.ref a0, ev, .inl ⟨rfl, xs0, SqL.of hx0⟩, ?_⟩
    refine h S T H σ δ fp _ _ s g fun S1 H1 fp1 v d δ1 l1 s1 r1 u1 q1 => ?_
    split at q1
    · rename_i a ds m ei
      have hv1 := s1.sl i
      rw [ei] at hv1
      obtain ⟨ev1, xs, hx, rx, hfp⟩ := hv1
      have ea : a0 = a := by have := ev.symm.trans ev1; cases this; rfl
      subst ea
      simp only [RI] at r1; subst r1
      obtain ⟨⟨m1, m2⟩, j, y, hj, hy, q1⟩ := q1
      obtain ⟨vy, hvy, ry⟩ := rx.get hy
      refine ⟨a0, xs, m, j, vy, rfl, rfl, hx, m1, m2, by rw [← rx.len]; exact hj, hvy, ?_⟩
      have s2 := s1.mut (H' := upd H1 a0 (.lst (xs.eraseIdx j))) ev1 (w' := .lst (ds.eraseIdx j)) (l := [a0]) ⟨_, upd_same, rx.eraseIdx j, rfl⟩ (fun b w hb hbw => by rw [upd_ne (fun z => hb (by rw [hfp, z]; exact List.mem_singleton.mpr rfl))]; exact hbw) fun b hb => .inl (by rw [hfp]; exact hb)
      exact k S1 _ _ vy y _ l1 s2 ry (fun z => nomatch z) q1
    · exact q1.elim
  · exact g.elim
/-! ### x += e (ints) -/
def dAug (i : Nat) (o : D → D → (D → Prop) → Prop) (u : DT) : DS := fun D δ => match δ[i]? with
  | some (some (.i x)) => u δ fun y δ1 => o x y fun z => D.nx (δ1.set i (some (.i z)))
  | _ => False
theorem sim_augI (i : Nat) (g : Int → Int → Int) (h : SimE p q u) : SimS (tAug i q (ipI g)) (dAug i (i2D0 fun a b => .int (g a b)) u) := by
  intro S T H σ δ fp D D' s gg k
  unfold dAug at gg
  split at gg
  · rename_i x0 e0
    have hv := s.sl i
    rw [e0] at hv
    obtain ⟨⟨v0, ev, r0⟩, _⟩ := hv
    refine ⟨v0, ev, h S T H σ δ fp _ _ s gg fun S1 H1 fp1 v d δ1 l1 s1 r1 u1 q1 => ?_⟩
    unfold i2D0 at q1
    split at q1
    · rename_i a b
      simp only [RI] at r0 r1; subst r0; subst r1
      obtain ⟨fp2, s2⟩ := s1.putI i (v := .int (g a b)) (d := .int (g a b)) ri_int
      exact ⟨a, b, rfl, rfl, k.nx S1 H1 _ _ fp2 l1 s2 q1⟩
    · exact q1.elim
  · exact gg.elim
end
/-! ### list(range(..)), tuple(range(..)) -/
section
variable {X : Cx} {a b : Expr} {pos pos' pos2 pos3 : Pos} {p p1 p2 : Bool} {ra rb : TE} {ta tb : DT}
theorem rgV_ints (i j : Int) : ∀ S, RIs S (rangeD i j) (rgV i j) := fun S => by
  unfold rangeD rgV
  have := RIs.ofInts (S := S) ((List.range (j - i).toNat).map fun k => i + (k : Nat))
  rw [List.map_map, List.map_map] at this
  exact this
theorem rgOk_small {i j : Int} (h : -1000000 ≤ i ∧ i ≤ 1000000 ∧ -1000000 ≤ j ∧ j ≤ 1000000) : RgOk i j := ⟨by omega, by omega, by omega, by omega, by omega⟩
def dRgL1 (t : DT) : DTF := fun δ Q => t δ fun d δ1 => match d with
  | .int n => (-1000000 ≤ n ∧ n ≤ 1000000) ∧ ∀ a, Q a (.lst (rangeD 0 n)) δ1
  | _ => False
theorem df_listRg1 (hc : X.calm = true) (hl : Gl X "list") (hl2 : X.mg "list" = none) (hg : Gl X "range") (hm : X.mg "range" = none) (h : DE X a p ra ta) (na : starEach [a] X.env = (false, eval a X.env) :: starEach [] X.env := by rfl)
    (nb : starEach [.Call (.Name "range" pos) [a] [] pos'] X.env = (false, eval (.Call (.Name "range" pos) [a] [] pos') X.env) :: starEach [] X.env := by rfl) :
    DF X (.Call (.Name "list" pos2) [.Call (.Name "range" pos) [a] [] pos'] [] pos3) p (tLstRg (tRg1 ra)) (dRgL1 ta) := by
  refine ⟨pe_listRg hc hl hl2 (prg_1 hg hm h.pe na) nb, ?_⟩
  intro S T H σ δ fp Q Q' s q k
  refine h.sim S T H σ δ fp _ _ s q fun S1 H1 fp1 v x δ1 l1 s1 r1 u1 q1 => ?_
  cases x with
  | int n =>
    simp only [RI] at r1; subst r1
    refine ⟨n, rfl, rgOk_small ⟨by omega, by omega, q1.1.1, q1.1.2⟩, fun c hc => ?_⟩
    obtain ⟨a1, a2, a3⟩ := s1.frLst (rgV_ints 0 n S1) hc
    exact k S1 _ fp1 c _ δ1 l1 a1 a2 (u1.grow a3) (fun e => le_none (u1 e).2.le hc) (q1.2 c)
  | _ => exact q1.elim
def dRgT1 (t : DT) : DT := fun δ Q => t δ fun d δ1 => match d with
  | .int n => (-1000000 ≤ n ∧ n ≤ 1000000) ∧ Q (.tup (rangeD 0 n)) δ1
  | _ => False
theorem de_tupRg1 (hc : X.calm = true) (hl : Gl X "tuple") (hl2 : X.mg "tuple" = none) (hg : Gl X "range") (hm : X.mg "range" = none) (h : DE X a p ra ta) (na : starEach [a] X.env = (false, eval a X.env) :: starEach [] X.env := by rfl)
    (nb : starEach [.Call (.Name "range" pos) [a] [] pos'] X.env = (false, eval (.Call (.Name "range" pos) [a] [] pos') X.env) :: starEach [] X.env := by rfl) :
    DE X (.Call (.Name "tuple" pos2) [.Call (.Name "range" pos) [a] [] pos'] [] pos3) p (tTupRgX (tRg1 ra)) (dRgT1 ta) := by
  refine ⟨pe_tupRgX hc hl hl2 (prg_1 hg hm h.pe na) nb, ?_⟩
  intro S T H σ δ fp Q Q' s q k
  refine h.sim S T H σ δ fp _ _ s q fun S1 H1 fp1 v x δ1 l1 s1 r1 u1 q1 => ?_
  cases x with
  | int n =>
    simp only [RI] at r1; subst r1
    refine ⟨n, rfl, rgOk_small ⟨by omega, by omega, q1.1.1, q1.1.2⟩, fun c ob hc hd => ?_⟩
    obtain ⟨a1, a2, a3, a4⟩ := s1.newTup (rgV_ints 0 n S1) hc hd
    exact k _ _ fp1 _ _ δ1 (l1.trans a1) a2 a3 (u1.grow a4) q1.2
  | _ => exact q1.elim
/-- [e] * n with a new list -/
def dRepF (t : DTF) (u : DT) : DTF := fun δ Q => t δ fun _ w δ1 => match w with
  | .lst ds => u δ1 fun d δ2 => match d with
    | .int m => (-1000000 ≤ m ∧ m ≤ 1000000 ∧ ds.length * m.toNat ≤ sizeLine) ∧ ∀ c, Q c (.lst (List.replicate m.toNat ds).flatten) δ2
    | _ => False
  | _ => False
theorem df_rep {f : DTF} (hf : DF X a p1 ra f) (h : DE X b true rb tb) : DF X (.BinOp a .Mult b pos) p1 (tOp rRep ra rb) (dRepF f tb) := by
  refine ⟨pe_op op_rep hf.pe h.pe, ?_⟩
  intro S T H σ δ fp Q Q' s q k
  refine hf.sim S T H σ δ fp _ _ s q fun S1 H1 fp1 c w δ1 l1 s1 f1 u1 n1 q1 => ?_
  cases w with
  | lst ds =>
    obtain ⟨xs, hx, rx, _⟩ := f1.oi
    refine h.sim S1 T H1 σ δ1 fp1 _ _ s1 q1 fun S2 H2 fp2 v x δ2 l2 s2 r2 u2 q2 => ?_
    obtain ⟨rfl, x2⟩ := u2.tt
    cases x with
    | int m =>
      simp only [RI] at r2; subst r2
      refine ⟨c, m, xs, rfl, rfl, x2.le _ _ hx, by omega, by omega, by rw [← rx.len]; exact q2.1.2.2, fun c2 hc2 => ?_⟩
      obtain ⟨a1, a2, a3⟩ := s2.frLst ((rx.mono l2).rep m.toNat) hc2
      exact k S2 _ fp2 c2 _ δ2 (l1.trans l2) a1 a2 ((u1.grow x2).grow a3) (fun e => le_none ((u1.grow x2) e).2.le hc2) (q2.2 c2)
    | _ => exact q2.elim
  | _ => exact q1.elim
end
end SW

namespace SW
open PySem PySem.Spec PyProof.Rows L2
section
variable {X : Cx} {K : PySem.W.Frag} {x y : Str} {e a b : Expr} {es : List Expr} {pos pos' apos apos2 cpos : Pos} {n k : Nat} {p p1 p2 : Bool} {q ra rb : TE} {u ta tb : DT}
/-! ### numbers of the module, minus -/
theorem de_globI {i : Int} {w : Value} (hg : Gl X x) (hm : X.mg x = some w) (r : RelV (.int i) w) (hd : (x == ("__debug__" : Str)) = false := by decide) : DE X (.Name x pos) true (tC (.int i)) (dC (.int i)) :=
  ⟨pe_glob hg hm r hd, fun S T H σ δ fp Q Q' s q k => k S H fp _ _ δ (Le.refl _) s ri_int .refl q⟩
def dNeg (t : DT) : DT := fun δ Q => t δ fun d δ1 => match d with
  | .int i => Q (.int (-i)) δ1
  | _ => False
theorem de_neg (h : DE X a p ra ta) : DE X (.UnaryOp .USub a pos) p (tUn (rU fun i => .int (-i)) ra) (dNeg ta) := by
  refine ⟨pe_un un_neg h.pe, ?_⟩
  intro S T H σ δ fp Q Q' s q k
  refine h.sim S T H σ δ fp _ _ s q fun S1 H1 fp1 v x δ1 l1 s1 r1 u1 q1 => ?_
  cases x with
  | int i => simp only [RI] at r1; subst r1; exact ⟨i, rfl, k S1 H1 fp1 _ _ δ1 l1 s1 ri_int u1 q1⟩
  | _ => exact q1.elim
/-! ### an int in a row of ints -/
theorem inV_ints (i : Int) : ∀ ns : List Int, inV (.int i) (ns.map V.int) = decide (i ∈ ns)
  | [] => by simp [inV]
  | n :: ns => by
    have ih := inV_ints i ns
    unfold inV at ih ⊢
    rw [List.map_cons, List.any_cons, ih]
    show (n == i || _) = _
    by_cases h : n = i
    · subst h; simp
    · have h' : ¬ i = n := fun z => h z.symm
      simp [h, h']
theorem flat_ints : ∀ ns : List Int, (ns.map V.int).all flatV = true
  | [] => rfl
  | n :: ns => by rw [List.map_cons, List.all_cons, flat_ints ns]; rfl
def inD (neg : Bool) : D → D → (D → Prop) → Prop
  | .int i, .lst ds, q => ∃ ns : List Int, ds = ns.map D.int ∧ q (.bl (if neg then !decide (i ∈ ns) else decide (i ∈ ns)))
  | .int i, .tup ds, q => ∃ ns : List Int, ds = ns.map D.int ∧ q (.bl (if neg then !decide (i ∈ ns) else decide (i ∈ ns)))
  | _, _, _ => False
theorem os_inN (neg : Bool) : OpS (rIn K neg) (inD neg) := by
  intro S T H σ δ fp x y v w Q Q' s rx ry q k
  unfold inD at q
  split at q
  · rename_i i ds
    obtain ⟨a, xs, rfl, h1, h2⟩ := ry
    obtain ⟨ns, rfl, q⟩ := q
    have e := h2.ints
    subst e
    cases rx
    refine ⟨a, _, rfl, .inl (SqL.of h1), rfl, flat_ints ns, ?_⟩
    rw [inV_ints]
    exact k S H _ _ (Le.refl _) s ri_bl (Ex.refl _ _) q
  · rename_i i ds
    obtain ⟨a, xs, rfl, h1, h2⟩ := ry
    obtain ⟨ns, rfl, q⟩ := q
    have e := h2.ints
    subst e
    cases rx
    refine ⟨a, _, rfl, .inr (h1.sq s.s), rfl, flat_ints ns, ?_⟩
    rw [inV_ints]
    exact k S H _ _ (Le.refl _) s ri_bl (Ex.refl _ _) q
  · exact q.elim
theorem os_in : OpS (rIn K false) (inD false) := os_inN false
theorem os_nin : OpS (rIn K true) (inD true) := os_inN true
/-! ### isinstance -/
def isB (T : String) : D → Bool
  | .int _ => T == "int"
  | .bl _ => T == "int" || T == "bool"
  | .str _ => T == "str"
  | .tup _ => T == "tuple"
  | .lst _ => T == "list"
  | _ => false
def tyn : D → String
  | .int _ => "int"
  | .bl _ => "bool"
  | .str _ => "str"
  | .tup _ => "tuple"
  | .lst _ => "list"
  | .non => "NoneType"
  | .dK _ _ => "dict"
  | .dT _ _ => "dict"
  | .opq _ => ""
  | .scr _ _ _ => ""
  | .exc _ _ _ => ""
def tyKnown : D → Bool
  | .opq _ => false
  | .scr _ _ _ => false
  | .exc _ _ _ => false
  | .dT _ _ => false
  | _ => true
theorem RI.ty {S H : Hp} (l : Le S H) {d : D} {v : V} (h : RI S d v) (hk : tyKnown d = true) : TyX K H v (.type (tyn d)) := by
  cases d with
  | int i => simp only [RI] at h; subst h; exact .base (.int i)
  | bl i => simp only [RI] at h; subst h; exact .base (.bl i)
  | non => simp only [RI] at h; subst h; exact .base .non
  | str i => simp only [RI] at h; subst h; exact .base (.str i)
  | lst ds => simp only [RI] at h; obtain ⟨a, xs, rfl, h1, _⟩ := h; exact .base (.lst (l _ _ h1))
  | tup ds => simp only [RI] at h; obtain ⟨a, xs, rfl, h1, _⟩ := h; obtain ⟨ob, h1, _⟩ := h1; exact .fTuple (l _ _ h1)
  | dK ks ds => simp only [RI] at h; obtain ⟨a, xs, rfl, h1, _⟩ := h; exact .base (.dK (l _ _ h1))
  | dT _ _ => cases hk
  | opq v => cases hk
  | scr _ _ _ => cases hk
  | exc _ _ _ => cases hk
def KitOk (T : String) : Prop := kitB "int" T = some (T == "int") ∧ kitB "bool" T = some (T == "int" || T == "bool") ∧ kitB "str" T = some (T == "str") ∧ kitB "tuple" T = some (T == "tuple") ∧ kitB "list" T = some (T == "list") ∧ kitB "NoneType" T = some false ∧ kitB "dict" T = some false
instance (T : String) : Decidable (KitOk T) := by unfold KitOk; infer_instance
theorem KitOk.at {T : String} (h : KitOk T) {d : D} (hk : tyKnown d = true) : kitB (tyn d) T = some (isB T d) := by
  obtain ⟨h1, h2, h3, h4, h5, h6, h7⟩ := h
  cases d with
  | int i => exact h1
  | bl i => exact h2
  | str i => exact h3
  | tup i => exact h4
  | lst i => exact h5
  | non => exact h6
  | dK _ _ => exact h7
  | dT _ _ => cases hk
  | opq _ => cases hk
  | scr _ _ _ => cases hk
  | exc _ _ _ => cases hk
def dIsi (T : String) (t : DT) : DT := fun δ Q => t δ fun d δ1 => tyKnown d = true ∧ ∃ b, isB T d = b ∧ Q (.bl b) δ1
theorem de_isi {z : Str} {zp : Pos} {T : String} (hg : Gl X "isinstance") (hm : X.mg "isinstance" = none) (hgz : Gl X z) (hmz : X.mg z = none) (hv : bootBuiltins z = some (.type T)) (hb : KitOk T) (h : DE X a p ra ta) (hz : z ≠ "__name__" := by decide) (hzd : (z == ("__debug__" : Str)) = false := by decide)
    (na : starEach [a, .Name z zp] X.env = (false, eval a X.env) :: starEach [.Name z zp] X.env := by rfl) (hpl : (backTo pos (starEach [.Name z zp] X.env)).any (·.1) = false := by rfl) :
    DE X (.Call (.Name "isinstance" pos') [a, .Name z zp] [] pos) p (tCB (rIsi X.K) (tCons ra (tCons (tC (.ty T)) tNil))) (dIsi T ta) := by
  refine ⟨pe_callB (he := na) (hpl := hpl) call_isi hg hm (by decide +kernel) (pa_cons h.pe (pa_cons (pe_bltn hgz hmz hv rfl hz hzd) pa_nil) na), ?_⟩
  intro S T' H σ δ fp Q Q' s q k
  refine h.sim S T' H σ δ fp _ _ s q fun S1 H1 fp1 v d δ1 l1 s1 r1 u1 q1 => ?_
  obtain ⟨q1a, _, rfl, q1b⟩ := q1
  refine ⟨v, .ty T, .type (tyn d), .type T, isB T d, rfl, .ty T, r1.ty s1.s q1a, kit_ty (hb.at q1a), k S1 H1 fp1 _ _ δ1 l1 s1 ri_bl u1 q1b⟩
/-! ### methods of a slot's own list, in full -/
theorem ds_app (i : Nat) (ho : PE X (.Name y apos) (tVar i)) (h : DE X e p q u)
    (hs : swapsWith (.Call (.Attribute (.Name y apos) "append" apos2) [e] [] cpos) none pos.line X.env = pure false := by rfl)
    (hbase : attributeBase (.Name y apos) "append" X.env (eval (.Name y apos) X.env) = eval (.Name y apos) X.env := by rfl)
    (hfew : ((backTo cpos (starEach [e] X.env)).all (fun x => !x.1) && (backToKw cpos (keywordEach [] X.env)).all (fun x => x.1.isSome)
      && decide (([e] : List Expr).length + ([] : List Keyword).length + (if ([] : List Keyword).isEmpty then 0 else 1) < 30)) = true := by rfl)
    (hline : (apos2.endLine == cpos.line) = true := by rfl) (hst : starEach [e] X.env = (false, eval e X.env) :: starEach [] X.env := by rfl) (hplain : (backTo cpos (starEach [] X.env)).any (·.1) = false := by rfl) :
    DSt X (.Expr (.Call (.Attribute (.Name y apos) "append" apos2) [e] [] cpos) pos) (tDrop (tBM X.K "list" rAppend (tVar i) (tCons q tNil))) (dAppend i u) :=
  ds_append i ho h hs (pe_bm PySem.F.plainAttrs_list PySem.F.slot_list_append PySem.F.type_list_append mt_append ho (pa_cons h.pe pa_nil hst) hbase hfew hline hst hplain)
theorem de_popAt (i : Nat) (ho : PE X (.Name y apos) (tVar i)) (h : DE X e p q u)
    (hbase : attributeBase (.Name y apos) "pop" X.env (eval (.Name y apos) X.env) = eval (.Name y apos) X.env := by rfl)
    (hfew : ((backTo cpos (starEach [e] X.env)).all (fun x => !x.1) && (backToKw cpos (keywordEach [] X.env)).all (fun x => x.1.isSome)
      && decide (([e] : List Expr).length + ([] : List Keyword).length + (if ([] : List Keyword).isEmpty then 0 else 1) < 30)) = true := by rfl)
    (hline : (apos2.endLine == cpos.line) = true := by rfl) (hst : starEach [e] X.env = (false, eval e X.env) :: starEach [] X.env := by rfl) (hplain : (backTo cpos (starEach [] X.env)).any (·.1) = false := by rfl) :
    DE X (.Call (.Attribute (.Name y apos) "pop" apos2) [e] [] cpos) false (tBM X.K "list" rPopAt (tVar i) (tCons q tNil)) (dPopAt i u) :=
  ⟨pe_bm PySem.F.plainAttrs_list PySem.F.slot_list_pop PySem.F.type_list_pop mt_popAt ho (pa_cons h.pe pa_nil hst) hbase hfew hline hst hplain, sim_popAt i h.sim⟩
/-! ### x += e, x -= e, whole numbers -/
theorem ds_augAdd (i : Nat) (hN : X.N.Nodup) (h : DE X e p q u) (hi : X.N[i]? = some x := by rfl) (hx : Loc X.env.scope x := by first | exact .inl rfl | exact .inr rfl) (hf : X.fn x = true ∨ X.env.scope.names.lookup x = some .local := by first | exact .inl rfl | exact .inr rfl | assumption) :
    DSt X (.AugAssign (.Name x pos') .Add e pos) (tAug i q (ipI fun a b => a + b)) (dAug i (i2D0 fun a b => .int (a + b)) u) := ⟨ps_aug hN hi hx h.pe ip_add hf, sim_augI i _ h.sim⟩
theorem ds_augSub (i : Nat) (hN : X.N.Nodup) (h : DE X e p q u) (hi : X.N[i]? = some x := by rfl) (hx : Loc X.env.scope x := by first | exact .inl rfl | exact .inr rfl) (hf : X.fn x = true ∨ X.env.scope.names.lookup x = some .local := by first | exact .inl rfl | exact .inr rfl | assumption) :
    DSt X (.AugAssign (.Name x pos') .Sub e pos) (tAug i q (ipI fun a b => a - b)) (dAug i (i2D0 fun a b => .int (a - b)) u) := ⟨ps_aug hN hi hx h.pe ip_sub hf, sim_augI i _ h.sim⟩
end
/-! ### repr of lists and tuples -/
def rRp (K : PySem.W.Frag) : List V → Hp → VK → Prop := fun xs H Q => ∃ (a : Addr) (d : PyData), xs = [.ref a] ∧ Dp K H (.ref a) d ∧ d.showable = true ∧ d.hasDict = false ∧ d.depth ≤ 60 ∧ d.shown.length ≤ sizeLine ∧ Q (.str d.shown) H
theorem call_rp {X : Cx} (gd : X.A.guards = some []) (hu : X.A.units + 64 < cLine) : CallR X (.builtin "repr") (rRp X.K) := by
  intro pins s σ H xs us Q I r h
  obtain ⟨a, d, rfl, hd, h1, h2, h3, h4, q⟩ := h
  cases r with
  | cons r1 rt =>
    rename_i w1 w2
    cases rt
    obtain ⟨as, rd⟩ := Dp.reads I d _ w1 hd r1
    cases r1
    exact repr_of_reads' rd h1 (PyData.noDict_hsm h2) gd (by omega) (fun _ _ e => e) (fun h' u tk hk => ⟨.str d.shown, H, I.kept hk, ⟨u, rfl⟩, q⟩) h4
def reprOk (d : D) : Bool := plain d && (py d).showable && !(py d).hasDict && decide ((py d).depth ≤ 60) && decide ((py d).shown.length ≤ sizeLine)
def rpD : D → (D → Prop) → Prop
  | .lst ds, q => reprOk (.lst ds) = true ∧ ∀ s : Str, s = (py (.lst ds)).shown → q (.str s)
  | .tup ds, q => reprOk (.tup ds) = true ∧ ∀ s : Str, s = (py (.tup ds)).shown → q (.str s)
  | _, _ => False
theorem c1_rp {K : PySem.W.Frag} : Call1 (rRp K) rpD := by
  intro S T H σ δ fp x v Q Q' s rx q k
  unfold rpD at q
  split at q
  · rename_i ds
    obtain ⟨a, xs, rfl, h1, h2⟩ := rx
    obtain ⟨q1, q⟩ := q
    unfold reprOk at q1
    simp only [Bool.and_eq_true, decide_eq_true_eq, Bool.not_eq_true'] at q1
    obtain ⟨⟨⟨⟨g1, g2⟩, g3⟩, g4⟩, g5⟩ := q1
    refine ⟨a, py (.lst ds), rfl, ?_, g2, g3, g4, g5, k S H _ _ (Le.refl _) s ri_str (Ex.refl _ _) (q _ rfl)⟩
    simp only [plain] at g1
    simp only [py]; exact .lst (SqL.of h1) (RIs.dp s.s h2 g1)
  · rename_i ds
    obtain ⟨a, xs, rfl, h1, h2⟩ := rx
    obtain ⟨q1, q⟩ := q
    unfold reprOk at q1
    simp only [Bool.and_eq_true, decide_eq_true_eq, Bool.not_eq_true'] at q1
    obtain ⟨⟨⟨⟨g1, g2⟩, g3⟩, g4⟩, g5⟩ := q1
    refine ⟨a, py (.tup ds), rfl, ?_, g2, g3, g4, g5, k S H _ _ (Le.refl _) s ri_str (Ex.refl _ _) (q _ rfl)⟩
    simp only [plain] at g1
    simp only [py]; exact .tup (h1.sq s.s) (RIs.dp s.s h2 g1)
  · exact q.elim
theorem de_repr {X : Cx} {k : Nat} {a : Expr} {p : Bool} {ra : TE} {ta : DT} {pos pos' : Pos} (hr : Room k X.A) (gd : X.A.guards = some []) (hg : Gl X "repr") (hm : X.mg "repr" = none) (h : DV X a p ra ta)
    (na : starEach [a] X.env = (false, eval a X.env) :: starEach [] X.env := by rfl) (hpl : (backTo pos (starEach [] X.env)).any (·.1) = false := by rfl) :
    DE X (.Call (.Name "repr" pos') [a] [] pos) p (tCB (rRp X.K) (tCons ra tNil)) (d1 rpD ta) := de_B1 (call_rp gd hr.units) c1_rp hg hm (by decide +kernel) h (by decide) (by decide) na hpl
end SW

namespace HT
open PySem PySem.Spec PyProof.Rows
section
variable {prog : Program} {w : World} {A : Around} {E : Value → Shared → Prop} {s : Shared}
theorem rvPlaces (n : Nat) : Builtin.Slice.slicePlaces ((n : Int) - 1) (-1) (-1) = n := by
  unfold Builtin.Slice.slicePlaces
  have h1 : ¬ ((-1 : Int) > 0) := by decide
  simp only [h1, if_false]
  have h2 : (- -1 : Int) = 1 := by decide
  rw [h2, Int.ediv_one]
  split <;> omega
theorem rvPick (its : Array Value) : ((List.range its.size).filterMap fun (m : Nat) => its[((its.size : Int) - 1 + (m : Int) * (-1)).toNat]?).toArray = its.toList.reverse.toArray := by
  have e : (List.range its.size).filterMap (fun (m : Nat) => its[((its.size : Int) - 1 + (m : Int) * (-1)).toNat]?) = ((List.range its.size).map fun k => its.size - 1 - k).filterMap (its[·]?) := by
    rw [List.filterMap_map]
    have ef : (fun (m : Nat) => its[((its.size : Int) - 1 + (m : Int) * (-1)).toNat]?) = ((its[·]?) ∘ fun k => its.size - 1 - k) := by
      funext m
      have : ((its.size : Int) - 1 + (m : Int) * (-1)).toNat = its.size - 1 - m := by omega
      show its[_]? = its[_]?
      rw [this]
    rw [ef]
  rw [e, PySem.W.krv_range, List.filterMap_reverse, PySem.W.krv_all]
theorem rvApplied {sl : Addr} {v1 v2 v3 : Value} {n : Nat} {Q : Int × Int × Nat → Shared → Prop} (isS : s.heap.IsSliceOf sl v1 v2 v3) (p1 : IsPart v1 none) (p2 : IsPart v2 none) (p3 : IsPart v3 (some (-1)))
    (h : Q ((n : Int) - 1, -1, n) s) : wpAny (model prog w) A (Builtin.Slice.sliceApplied (.ref sl) (pure (n : Int))) Q E s := by
  obtain ⟨so, g1, g2, g3⟩ := id isS
  unfold Builtin.Slice.sliceApplied
  unfold Builtin.Slice.sliceFields
  refine wpAny_bind (wpAny_bind (wpAny_field g1 g3 (x := v1) rfl ?_))
  refine wpAny_bind (wpAny_field g1 g3 (x := v2) rfl ?_)
  refine wpAny_bind (wpAny_field g1 g3 (x := v3) rfl (wpAny_pure ?_))
  refine wpAny_bind (slicePart_ p3 ?_)
  show wpAny _ _ (if ((-1 : Int) == 0) = true then _ else _) _ _ s
  rw [if_neg (by decide)]
  refine wpAny_bind (slicePart_ p1 ?_)
  refine wpAny_bind (slicePart_ p2 ?_)
  refine wpAny_bind (wpAny_pure ?_)
  have e : Builtin.Slice.sliceAdjust none none (-1) (n : Int) = ((n : Int) - 1, -1) := rfl
  show wpAny _ _ (match Builtin.Slice.sliceAdjust none none (-1) (n : Int) with | (lo, hi) => pure (lo, (-1 : Int), Builtin.Slice.slicePlaces lo hi (-1))) _ _ s
  rw [e]
  show wpAny _ _ (pure ((n : Int) - 1, (-1 : Int), Builtin.Slice.slicePlaces ((n : Int) - 1) (-1) (-1))) _ _ s
  rw [rvPlaces]
  exact wpAny_pure h
theorem rvTuple {tu sl : Addr} {its : Array Value} {v1 v2 v3 : Value} {Q : Value → Shared → Prop} (isT : IsTup s.heap tu its) (isS : s.heap.IsSliceOf sl v1 v2 v3) (p1 : IsPart v1 none) (p2 : IsPart v2 none) (p3 : IsPart v3 (some (-1)))
    (h : Q (.ref s.heap.objs.size) { s with heap := s.heap.push { cls := .type "tuple", data := .seq its.toList.reverse.toArray } })
    (few : its.size ≤ sizeLine) : wpAny (model prog w) A (getItem (.ref tu) (.ref sl)) Q E s := by
  have okS : sizeOk (.seq its.toList.reverse.toArray) := by
    show its.toList.reverse.toArray.size ≤ sizeLine
    rw [List.size_toArray, List.length_reverse, Array.length_toList]; exact few
  obtain ⟨so, g1, g2, g3⟩ := id isS
  have clS : s.TypeIs (.ref sl) "slice" := ⟨so, g1, g2⟩
  unfold getItem
  try with_reducible refine wpAny_holding ?_
  first | refine wpAny_bind (wpAny_pure ?_) | skip
  refine wpAny_bind (wpAny_sequenceKey isT.typeIs (by decide) (wpAny_bind (wpAny_callSpecial?_slot (name := Str.ofString "__getitem__") isT.typeIs PyProof.Rows.slot_tuple_getitem ?_)))
  refine wpAny_call_entry PyProof.Rows.slot_tuple_getitem isT.typeIs entry_tuple_getitem ?_ (args_tuple_getitem _ _)
  show wpAny _ _ (Builtin.Tuple.tupleItemsOf (.ref tu) >>= _) _ _ s
  refine wpAny_bind (tupleItemsOf_ isT (wpAny_bind (wpAny_typeOf clS ?_)))
  rw [if_pos (by decide)]
  refine wpAny_bind (rvApplied isS p1 p2 p3 ?_)
  show wpAny _ _ (if (((its.size : Int) - 1) == 0 && (-1 : Int) == 1 && its.size == its.size) = true then _ else _) _ _ s
  rw [if_neg (by
    intro q
    rw [Bool.and_eq_true, Bool.and_eq_true] at q
    exact absurd (eq_of_beq q.1.2) (by decide))]
  rw [rvPick]
  exact wpAny_bind (m := Builtin.Tuple.tupleExact _) (wpAny_newObj_type (wpAny_pure ⟨_, rfl, wpAny_pure h⟩) okS)
end
end HT
namespace SW
open PySem PySem.Spec PyProof.Rows L2
section
variable {X : Cx} {a : Expr} {p : Bool} {ra : TE} {ta : DT}
def tRevB (K : PySem.W.Frag) (te : TE) : TE := fun σ H Q => te σ H fun x H1 => ∃ a xs, x = .ref a ∧ ((SqL K H1 a xs ∧ ∀ c, H1 c = none → Q (.ref c) (upd H1 c (.lst xs.reverse))) ∨ (SqT K H1 a xs ∧ NewT xs.reverse H1 Q))
theorem pe_revB {k : Nat} {q1 q2 q3 pos : Pos} (he : PE X a ra) : PE X (.Subscript a (.Slice none none (some (.UnaryOp .USub (.Constant (.int 1) k q1) q2)) q3) pos) (tRevB X.K ra) := by
  refine ⟨fun pins s σ H Q I h => Subscript_ (thn (he.run pins s σ H _ I h) ?_)⟩
  rintro v s1 ⟨x, H1, I1, r1, b, xs, rfl, alt⟩
  cases r1
  have step : PO X (some (.UnaryOp .USub (.Constant (.int 1) k q1) q2)) (tPart (tUn (rU fun i => .int (-i)) (tC (.int 1)))) := po_some (pe_un un_neg pe_int)
  refine wpAny_Slice (thn (po_none.run pins s1 σ H1 (fun o H2 => o = none ∧ H2 = H1) I1 ⟨rfl, rfl⟩) ?_)
  rintro w1 s2 ⟨_, _, I2, p1, rfl, rfl⟩
  refine thn (po_none.run pins s2 σ _ (fun o H3 => o = none ∧ H3 = _) I2 ⟨rfl, rfl⟩) ?_
  rintro w2 s3 ⟨_, _, I3, p2, rfl, rfl⟩
  refine thn (step.run pins s3 σ _ (fun o H4 => o = some (-1) ∧ H4 = _) I3 ⟨1, rfl, -1, rfl, rfl, rfl⟩) ?_
  rintro w3 s4 ⟨_, _, I4, p3, rfl, rfl⟩
  have I5 : Inv X pins σ _ { s4 with heap := s4.heap.push { cls := .type "slice", data := .fields #[w1, w2, w3] } } := I4.kept (t' := s4.toks) fun b ob q => Heap.get?_push_of_some _ q
  show wpAny (model X.prog X.w) X.A (subscriptTail a (.Slice none none (some (.UnaryOp .USub (.Constant (.int 1) k q1) q2)) q3) (.ref b) (.ref s4.heap.objs.size)) (EP X pins σ Q) X.xe { s4 with heap := s4.heap.push { cls := .type "slice", data := .fields #[w1, w2, w3] } }
  rcases alt with ⟨isL, q⟩ | ⟨isT, q⟩
  · obtain ⟨its, r, pl, few⟩ := I5.list isL
    have hl := r.length
    refine tail_any (ops := [.ref b, .ref s4.heap.objs.size]) pl.isList.typeIs (PySem.slot_list_getitem.lookup) ?_ (by with_unfolding_all rfl)
    refine wpAny_getItem_list_slice pl.isList (Heap.IsSliceOf.new _ w1 w2 w3) p1 p2 p3 (by decide) ?_ (by rw [List.size_toArray]; omega)
    rw [PySem.W.krv_pick]
    exact ⟨.ref _, _, I5.laid (t' := s4.toks) (o := .lst xs.reverse) (fun b ob q => Heap.get?_push_of_some _ q) (Nat.le_refl _) ⟨by rw [List.length_reverse]; exact few, _, 0, r.reverse, Heap.get?_push_size _ rfl⟩, rfl, q _ (I5.hok.fresh (Nat.le_refl _))⟩
  · obtain ⟨its, r, isTup, few⟩ := I5.tuple isT
    have hl := r.length
    refine tail_any (ops := [.ref b, .ref s4.heap.objs.size]) isTup.typeIs PyProof.Rows.slot_tuple_getitem.lookup ?_ (by with_unfolding_all rfl)
    refine HT.rvTuple isTup (Heap.IsSliceOf.new _ w1 w2 w3) p1 p2 p3 ?_ (by rw [List.size_toArray]; omega)
    exact EP_new (t' := s4.toks) I5 (by rw [List.length_reverse]; exact few) r.reverse (fun b ob q => Heap.get?_push_of_some _ q) (Nat.le_refl _) (Heap.get?_push_size _ rfl) q
def dRev (t : DT) : DT := fun δ Q => t δ fun x δ1 => match x with
  | .lst ds => Q (.lst ds.reverse) δ1
  | .tup ds => Q (.tup ds.reverse) δ1
  | _ => False
theorem de_rev {k : Nat} {q1 q2 q3 pos : Pos} (h : DV X a p ra ta) : DE X (.Subscript a (.Slice none none (some (.UnaryOp .USub (.Constant (.int 1) k q1) q2)) q3) pos) p (tRevB X.K ra) (dRev ta) := by
  refine ⟨pe_revB h.pe, ?_⟩
  intro S T H σ δ fp Q Q' s q k
  refine h.sim S T H σ δ fp _ _ s q fun S1 H1 fp1 v x δ1 l1 s1 r1 u1 q1 => ?_
  cases x with
  | lst ds =>
    obtain ⟨b, xs, rfl, h1, h2⟩ := r1
    refine ⟨b, xs, rfl, .inl ⟨SqL.of h1, fun c hc => ?_⟩⟩
    obtain ⟨a1, a2, a3, a4⟩ := s1.newLst h2.reverse hc
    exact k _ _ fp1 _ _ δ1 (l1.trans a1) a2 a3 (u1.grow a4) q1
  | tup ds =>
    obtain ⟨b, xs, rfl, h1, h2⟩ := r1
    refine ⟨b, xs, rfl, .inr ⟨h1.sq s1.s, fun c ob hc hd => ?_⟩⟩
    obtain ⟨a1, a2, a3, a4⟩ := s1.newTup h2.reverse hc hd
    exact k _ _ fp1 _ _ δ1 (l1.trans a1) a2 a3 (u1.grow a4) q1
  | _ => exact q1.elim
end
end SW

namespace SW
open PySem PySem.Spec PyProof.Rows L2
section
variable {X : Cx} {K : PySem.W.Frag} {x y : Str} {e a b o ix : Expr} {pos pos' apos kp : Pos} {n k kk : Nat} {p p1 p2 : Bool} {q ra rb : TE} {u ta tb : DT} {f : DTF}
/-! ### the dict of a law's draws -/
def dRngD (i : Nat) (g : List Int → List Int → Int → D) : DT := fun δ Q => match δ[i]? with
  | some (some (.o _ (.rng cs gs m))) => Q (g cs gs m) δ
  | _ => False
theorem kCG : ¬ Str.ofString "cells" = Str.ofString "great" := by decide
theorem kCS : ¬ Str.ofString "cells" = Str.ofString "spot" := by decide
theorem kGS : ¬ Str.ofString "great" = Str.ofString "spot" := by decide
theorem kGC : ¬ Str.ofString "great" = Str.ofString "cells" := by decide
theorem kSG : ¬ Str.ofString "spot" = Str.ofString "great" := by decide
theorem kSC : ¬ Str.ofString "spot" = Str.ofString "cells" := by decide
theorem rng_get {H : Hp} {a c g : Addr} {m : Int} (h : H a = some (.dK [(.inr "cells", .ref c), (.inr "great", .ref g), (.inr "spot", .int m)])) :
    DGet H a (.str "cells") (some (.ref c)) ∧ DGet H a (.str "great") (some (.ref g)) ∧ DGet H a (.str "spot") (some (.int m)) :=
  ⟨.inl ⟨_, .inr "cells", .inl h, rfl, by rw [valV_pos rfl]⟩, .inl ⟨_, .inr "great", .inl h, rfl, by rw [valV_neg (fun z => kCG (Sum.inr.inj z)), valV_pos rfl]⟩, .inl ⟨_, .inr "spot", .inl h, rfl, by rw [valV_neg (fun z => kCS (Sum.inr.inj z)), valV_neg (fun z => kGS (Sum.inr.inj z)), valV_pos rfl]⟩⟩
theorem sim_spot (i : Nat) : SimE true (tDGet (tVar i) (tC (.str "spot"))) (dRngD i fun _ _ m => .int m) := by
  intro S T H σ δ fp Q Q' s q k
  unfold dRngD at q
  split at q
  · rename_i a cs gs m e
    have h := s.sl i
    rw [e] at h
    obtain ⟨ev, c, g, h1, h2, h3, _, _⟩ := h
    exact ⟨_, ev, a, _, rfl, (rng_get h1).2.2, k S H fp _ _ δ (Le.refl _) s ri_int .refl q⟩
  · exact q.elim
theorem de_spot (i : Nat) (hu : X.A.units + 64 < cLine) (ho : PE X o (tVar i)) : DE X (.Subscript o (.Constant (.str "spot") kk kp) pos) true (tDGet (tVar i) (tC (.str "spot"))) (dRngD i fun _ _ m => .int m) :=
  ⟨pe_dget (by omega) ho pe_str (fun _ _ => rfl), sim_spot i⟩
theorem sim_cells (i : Nat) : SimV true (tDGet (tVar i) (tC (.str "cells"))) (dRngD i fun cs _ _ => .lst (cs.map .int)) := by
  intro S T H σ δ fp Q Q' s q k
  unfold dRngD at q
  split at q
  · rename_i a cs gs m e
    have h := s.sl i
    rw [e] at h
    obtain ⟨ev, c, g, h1, h2, h3, _, _⟩ := h
    exact ⟨_, ev, a, _, rfl, (rng_get h1).1, k S H fp _ (.lst (cs.map .int)) δ (Le.refl _) s ⟨c, _, rfl, h2, RIs.ofInts cs⟩ .refl q⟩
  · exact q.elim
theorem dv_cells (i : Nat) (hu : X.A.units + 64 < cLine) (ho : PE X o (tVar i)) : DV X (.Subscript o (.Constant (.str "cells") kk kp) pos) true (tDGet (tVar i) (tC (.str "cells"))) (dRngD i fun cs _ _ => .lst (cs.map .int)) :=
  ⟨pe_dget (by omega) ho pe_str (fun _ _ => rfl), sim_cells i⟩
theorem sim_great (i : Nat) : SimV true (tDGet (tVar i) (tC (.str "great"))) (dRngD i fun _ gs _ => .lst (gs.map .int)) := by
  intro S T H σ δ fp Q Q' s q k
  unfold dRngD at q
  split at q
  · rename_i a cs gs m e
    have h := s.sl i
    rw [e] at h
    obtain ⟨ev, c, g, h1, h2, h3, _, _⟩ := h
    exact ⟨_, ev, a, _, rfl, (rng_get h1).2.1, k S H fp _ (.lst (gs.map .int)) δ (Le.refl _) s ⟨g, _, rfl, h3, RIs.ofInts gs⟩ .refl q⟩
  · exact q.elim
theorem dv_great (i : Nat) (hu : X.A.units + 64 < cLine) (ho : PE X o (tVar i)) : DV X (.Subscript o (.Constant (.str "great") kk kp) pos) true (tDGet (tVar i) (tC (.str "great"))) (dRngD i fun _ gs _ => .lst (gs.map .int)) :=
  ⟨pe_dget (by omega) ho pe_str (fun _ _ => rfl), sim_great i⟩
/-- m["spot"] = e -/
def dPutSpot (i : Nat) (t : DT) : DS := fun D δ => t δ fun d δ1 => match d, δ1[i]? with
  | .int m, some (some (.o a (.rng cs gs _))) => D.nx (δ1.set i (some (.o a (.rng cs gs m))))
  | _, _ => False
theorem sim_putSpot (i : Nat) (h : SimE p q u) : SimS (sDPut (tVar i) (tC (.str "spot")) q) (dPutSpot i u) := by
  intro S T H σ δ fp D D' s g k
  refine h S T H σ δ fp _ _ s g fun S1 H1 fp1 v d δ1 l1 s1 r1 u1 q1 => ?_
  split at q1
  · rename_i m a cs gs m0 e
    have hs := s1.sl i
    rw [e] at hs
    obtain ⟨ev, c, g', h1, h2, h3, hcg, hfp⟩ := hs
    simp only [RI] at r1; subst r1
    have hac : c ≠ a := fun z => by rw [z, h1] at h2; cases h2
    have hag : g' ≠ a := fun z => by rw [z, h1] at h3; cases h3
    refine ⟨_, ev, a, _, rfl, .inl ⟨_, .inr "spot", h1, rfl, by rw [sizeLine_eq]; simp, rfl⟩, ?_⟩
    refine k.nx S1 _ σ _ _ l1 (s1.mut ev (w' := .rng cs gs m) (l := [a, c, g']) ⟨c, g', ?_, by rw [upd_ne hac]; exact h2, by rw [upd_ne hag]; exact h3, hcg, rfl⟩ (fun b w hb hbw => by rw [upd_ne (fun z => hb (by rw [hfp, z]; simp))]; exact hbw) fun b hb => .inl (by rw [hfp]; exact hb)) q1
    rw [upd_same]
    simp [putK, kCG, kCS, kGS, kGC, kSG, kSC]
  · exact q1.elim
theorem ds_putSpot (i : Nat) (hu : X.A.units + 64 < cLine) (ho : PE X o (tVar i)) (he : DE X e p q u) (hs : swapsWith e (some (.Subscript o (.Constant (.str "spot") kk kp) pos')) pos.line X.env = pure false := by rfl) :
    DSt X (.Assign [.Subscript o (.Constant (.str "spot") kk kp) pos'] e pos) (sDPut (tVar i) (tC (.str "spot")) q) (dPutSpot i u) := ⟨ps_dput (by omega) ho pe_str he.pe hs, sim_putSpot i he.sim⟩
/-- m["great"] = a new list -/
def dPutGreat (i : Nat) (f : DTF) : DS := fun R δ => f δ fun _ w δ1 => match w, δ1[i]? with
  | .lst ds, some (some (.o a (.rng cs _ m))) => ∃ gs : List Int, ds = gs.map D.int ∧ R.nx (δ1.set i (some (.o a (.rng cs gs m))))
  | _, _ => False
theorem sim_putGreat (i : Nat) (h : SimF p q f) : SimS (sDPut (tVar i) (tC (.str "great")) q) (dPutGreat i f) := by
  intro S T H σ δ fp D D' s g k
  refine h S T H σ δ fp _ _ s g fun S1 H1 fp1 b w δ1 l1 s1 f1 u1 n1 q1 => ?_
  split at q1
  · rename_i ds a cs gs0 m e
    have hs := s1.sl i
    rw [e] at hs
    obtain ⟨ev, c, g', h1, h2, h3, hcg, hfp⟩ := hs
    obtain ⟨gs, rfl, q1⟩ := q1
    obtain ⟨xs, hx, rx, _⟩ := f1.oi
    have ex := rx.ints
    subst ex
    have hba : b ≠ a := fun z => f1.f i (by rw [hfp, z]; simp)
    have hbc : c ≠ b := fun z => f1.f i (by rw [hfp, ← z]; simp)
    have hac : c ≠ a := fun z => by rw [z, h1] at h2; cases h2
    refine ⟨_, ev, a, _, rfl, .inl ⟨_, .inr "great", h1, rfl, by rw [sizeLine_eq]; simp, rfl⟩, ?_⟩
    -- the list stands beside the slots: it joins the slot
    have hil : i < σ.length := (List.getElem?_eq_some_iff.mp ev).1
    have s2 : SR S1 T (upd H1 a (.dK (putK [(.inr "cells", .ref c), (.inr "great", .ref g'), (.inr "spot", .int m)] (.inr "great") (.ref b)))) σ (δ1.set i (some (.o a (.rng cs gs m)))) (fset fp1 i [a, c, b]) := by
      have own := s1.own i
      have keepS : ∀ z u', S1 z = some u' → z ≠ a := fun z u' ez zz => by have := (own a (by rw [hfp]; simp)).1; rw [zz, this] at ez; cases ez
      have keepT : ∀ z u', T z = some u' → z ≠ a := fun z u' ez zz => by have := (own a (by rw [hfp]; simp)).2; rw [zz, this] at ez; cases ez
      have inl : ∀ z ∈ [a, c, b], (∀ j, j ≠ i → z ∉ fp1 j) ∧ S1 z = none ∧ T z = none := fun z hz => by
        simp only [List.mem_cons, List.not_mem_nil, or_false] at hz
        rcases hz with rfl | rfl | rfl
        · exact ⟨fun j hj hjz => hj (s1.dis j i z hjz (by rw [hfp]; simp)), own z (by rw [hfp]; simp)⟩
        · exact ⟨fun j hj hjz => hj (s1.dis j i z hjz (by rw [hfp]; simp)), own z (by rw [hfp]; simp)⟩
        · exact ⟨fun j _ => f1.f j, f1.s, f1.t⟩
      refine ⟨fun z u' ez => by rw [upd_ne (keepS z u' ez)]; exact s1.s z u' ez, fun z u' ez => by rw [upd_ne (keepT z u' ez)]; exact s1.t z u' ez, s1.st, by simpa using s1.len, fun j => ?_, fun j j2 z hz1 hz2 => ?_, fun j z hz => ?_⟩
      · by_cases hj : j = i
        · subst hj
          rw [fset_same, List.getElem?_set_self (by rw [← s1.len]; exact hil)]
          refine ⟨ev, c, b, ?_, by rw [upd_ne hac]; exact h2, by rw [upd_ne hba]; exact hx, hbc, rfl⟩
          rw [upd_same]; simp [putK, kCG, kCS, kGS, kGC, kSG, kSC]
        · rw [fset_ne hj, List.getElem?_set_ne (Ne.symm hj)]
          exact (s1.sl j).keep (Le.refl _) fun z hz u' ez => by
            rw [upd_ne (fun zz => (inl a (by simp)).1 j hj (by rw [← zz]; exact hz))]; exact ez
      · by_cases hj : j = i
        · by_cases hj2 : j2 = i
          · rw [hj, hj2]
          · rw [hj, fset_same] at hz1; rw [fset_ne hj2] at hz2
            exact absurd hz2 ((inl z hz1).1 j2 hj2)
        · rw [fset_ne hj] at hz1
          by_cases hj2 : j2 = i
          · rw [hj2, fset_same] at hz2; exact absurd hz1 ((inl z hz2).1 j hj)
          · rw [fset_ne hj2] at hz2; exact s1.dis j j2 z hz1 hz2
      · by_cases hj : j = i
        · rw [hj, fset_same] at hz; exact (inl z hz).2
        · rw [fset_ne hj] at hz; exact s1.own j z hz
    exact k.nx S1 _ σ _ _ l1 s2 q1
  · exact q1.elim
theorem ds_putGreat (i : Nat) (hu : X.A.units + 64 < cLine) (ho : PE X o (tVar i)) (he : DF X e p q f) (hs : swapsWith e (some (.Subscript o (.Constant (.str "great") kk kp) pos')) pos.line X.env = pure false := by rfl) :
    DSt X (.Assign [.Subscript o (.Constant (.str "great") kk kp) pos'] e pos) (sDPut (tVar i) (tC (.str "great")) q) (dPutGreat i f) := ⟨ps_dput (by omega) ho pe_str he.pe hs, sim_putGreat i he.sim⟩
/-- m["great"][e] = .. -/
def dgGreat (i : Nat) (t : DT) : DG := fun d δ Q => match δ[i]? with
  | some (some (.o a (.rng cs gs m))) => t δ fun y δ1 => match d, y with
    | .int z, .int kz => ∃ j, ixN gs.length kz = some j ∧ Q (δ1.set i (some (.o a (.rng cs (gs.set j z) m))))
    | _, _ => False
  | _ => False
theorem sim_gGreat (i : Nat) (hi : SimE true q u) : SimG false (gSub (tDGet (tVar i) (tC (.str "great"))) q rSetL) (dgGreat i u) := by
  intro S T H σ δ fp v d Q Q' s r g k
  unfold dgGreat at g
  have hv := s.sl i
  split at g
  · rename_i a cs gs m e
    rw [e] at hv
    obtain ⟨ev, c, g', h1, h2, h3, hcg, hfp⟩ := hv
    refine ⟨_, ev, a, _, rfl, (rng_get h1).2.1, hi S T H σ δ fp _ _ s g fun S1 H1 fp1 yv y δ1 l1 s1 r1 u1 q1 => ?_⟩
    obtain ⟨rfl, x1⟩ := u1.tt
    have hsl := s1.sl i
    rw [e] at hsl
    obtain ⟨ev1, c1, g1, k1, k2, k3, kcg, kfp⟩ := hsl
    have same := x1.le _ _ h1
    rw [k1] at same
    cases same
    split at q1
    · rename_i z kz
      obtain ⟨j, hj, q1⟩ := q1
      simp only [RI] at r r1; subst r; subst r1
      have hag : g' ≠ a := fun z => by rw [z, k1] at k3; cases k3
      have hac : c ≠ a := fun z => by rw [z, k1] at k2; cases k2
      refine ⟨g', gs.map V.int, kz, j, rfl, rfl, k3, by simpa using hj, ?_⟩
      have s2 := s1.mut (H' := upd H1 g' (.lst ((gs.map V.int).set j (.int z)))) (i := i) ev1 (w' := .rng cs (gs.set j z) m) (l := [a, c, g']) ⟨c, g', by rw [upd_ne (Ne.symm hag)]; exact k1, by rw [upd_ne hcg]; exact k2, by rw [upd_same, List.map_set], hcg, rfl⟩
        (fun b w hb hbw => by rw [upd_ne (fun z => hb (by rw [kfp, z]; simp))]; exact hbw) fun b hb => .inl (by rw [kfp]; exact hb)
      exact k S1 _ σ _ _ l1 s2 (fun e => nomatch e) q1
    · exact q1.elim
  · exact g.elim
theorem dg_great (i : Nat) (hu : X.A.units + 64 < cLine) (ho : PE X o (tVar i)) (hi : DE X ix true q u)
    (ha : ∀ v, assign (.Subscript (.Subscript o (.Constant (.str "great") kk kp) apos) ix pos) X.env v = (do
      let ov ← holding [v] (eval (.Subscript o (.Constant (.str "great") kk kp) apos) X.env)
      let iv ← holding [v, ov] (eval ix X.env)
      standAt pos
      holding [v, ov, iv] (setItem ov iv v)
      release [v, ov, iv] []) := by intro _; rfl) : DGt X (.Subscript (.Subscript o (.Constant (.str "great") kk kp) apos) ix pos) false (gSub (tDGet (tVar i) (tC (.str "great"))) q rSetL) (dgGreat i u) :=
  ⟨pg_sub (pe_dget (by omega) ho pe_str (fun _ _ => rfl)) hi.pe set_list ha, sim_gGreat i hi.sim⟩
/-- m = {"cells": .., "great": [], "spot": 0} -/
def dNewRng (i : Nat) (f : DTF) : DS := fun R δ => f δ fun _ w δ1 => match w with
  | .lst ds => ∃ cs : List Int, ds = cs.map D.int ∧ ∀ a, R.nx (δ1.set i (some (.o a (.rng cs [] 0))))
  | _ => False
def tRngDisp (q : TE) : TE := tDisp [(tC (.str "cells"), q), (tC (.str "great"), tLst tNil), (tC (.str "spot"), tC (.int 0))]
theorem sim_newRng (i : Nat) (h : SimF p q f) : SimS (tAsg (tRngDisp q) (gName i)) (dNewRng i f) := by
  intro S T H σ δ fp D D' s g k
  intro P hP
  have fr := s.fresh hP
  have s0 : SR S (upd T P (.dK [])) (upd H P (.dK [])) σ δ fp := (s.new hP).withT upd_same fr.1 fr.2.2
  refine h S _ _ σ δ fp _ _ s0 g fun S1 H1 fp1 c w δ1 l1 s1 f1 u1 n1 q1 => ?_
  cases w with
  | lst ds =>
    obtain ⟨cs, rfl, q1⟩ := q1
    obtain ⟨xs, hx, rx, _⟩ := f1.oi
    have ex := rx.ints
    subst ex
    have hPT : upd T P (.dK []) P = some (.dK []) := upd_same
    have hP1 : H1 P = some (.dK []) := s1.t P _ hPT
    have hcP : c ≠ P := fun z => by have := f1.t; rw [z, hPT] at this; cases this
    simp only [tPairs, tC, tLst, tNil]
    refine ⟨Nat.zero_le _, ?_⟩
    intro G hG
    have hGP : G ≠ P := fun z => by rw [z, hP1] at hG; cases hG
    have hcG : c ≠ G := fun z => by rw [z, hG] at hx; cases hx
    refine ⟨by rw [upd_ne (Ne.symm hGP)]; exact hP1, [(.inr "cells", .ref c), (.inr "great", .ref G), (.inr "spot", .int 0)], rfl, by simp, ?_⟩
    have frG := s1.fresh hG
    have hPS : S1 P = none := s1.st P _ hPT
    have hPf : ∀ j, P ∉ fp1 j := fun j hj => by have := (s1.own j P hj).2; rw [hPT] at this; cases this
    have s2 : SR S1 T (upd H1 G (.lst [])) σ δ1 fp1 := (s1.new hG).lessT (le_upd fr.2.1)
    have s3 : SR S1 T (upd (upd H1 G (.lst [])) P (.dK (mergeK [] [(.inr "cells", .ref c), (.inr "great", .ref G), (.inr "spot", .int 0)]))) σ δ1 fp1 :=
      s2.over hPS fr.2.1 hPf (Le.refl _) (fun b o hb eb => by rw [upd_ne hb]; exact eb) (fun b _ eb => eb) (fun b o eb => by rw [upd_ne (ne_of_none eb hPS)]; exact s2.s b o eb)
    have hfin : mergeK [] [((.inr "cells" : Key), V.ref c), (.inr "great", .ref G), (.inr "spot", .int 0)] = [(.inr "cells", .ref c), (.inr "great", .ref G), (.inr "spot", .int 0)] := by
      simp [mergeK, putK, kCG, kCS, kGS, kGC, kSG, kSC]
    obtain ⟨fp4, s4⟩ := s3.putO i (a := P) (w := .rng cs [] 0) (l := [P, c, G]) ⟨c, G, by rw [upd_same, hfin], by rw [upd_ne hcP, upd_ne hcG]; exact hx, by rw [upd_ne hGP, upd_same]; rfl, hcG, rfl⟩ fun z hz => by
      simp only [List.mem_cons, List.not_mem_nil, or_false] at hz
      rcases hz with rfl | rfl | rfl
      · exact ⟨hPf, hPS, fr.2.1⟩
      · exact ⟨f1.f, f1.s, le_none (le_upd fr.2.1) f1.t⟩
      · exact ⟨frG.2.2, frG.1, le_none (le_upd fr.2.1) frG.2.1⟩
    exact k.nx S1 _ _ _ fp4 l1 s4 (q1 P)
  | _ => exact q1.elim
theorem ds_newRng (i : Nat) {xn : Str} {k1 k2 k3 k4 : Nat} {c1 c2 c3 c4 lp : Pos} (hN : X.N.Nodup) (hf : DF X e p q f) (hi : X.N[i]? = some xn := by rfl) (hx : Loc X.env.scope xn := by first | exact Or.inl rfl | exact Or.inr rfl)
    (hs : swapsWith (.Dict [some (.Constant (.str "cells") k1 c1), some (.Constant (.str "great") k2 c2), some (.Constant (.str "spot") k3 c3)] [e, .List [] lp, .Constant (.int 0) k4 c4] apos) (some (.Name xn pos')) pos.line X.env = pure false := by rfl)
    (hfn : X.fn xn = true ∨ X.env.scope.names.lookup xn = some .local := by first | exact .inl rfl | exact .inr rfl | assumption) :
    DSt X (.Assign [.Name xn pos'] (.Dict [some (.Constant (.str "cells") k1 c1), some (.Constant (.str "great") k2 c2), some (.Constant (.str "spot") k3 c3)] [e, .List [] lp, .Constant (.int 0) k4 c4] apos) pos) (tAsg (tRngDisp q) (gName i)) (dNewRng i f) :=
  ⟨ps_set hN hi hx (pe_disp (pps_cons pe_str hf.pe (pps_cons pe_str (pe_lst pa_nil) (pps_cons pe_str pe_int pps_nil))) rfl rfl (by simp) (by simp)) hs hfn, sim_newRng i hf.sim⟩
end
end SW

namespace SW
open PySem PySem.Spec PyProof.Rows L2
/-! ### framing several objects at once -/
def ext (T H : Hp) (l : List Addr) : Hp := fun b => if b ∈ l then H b else T b
theorem ext_in {T H : Hp} {l : List Addr} {b : Addr} (h : b ∈ l) : ext T H l b = H b := if_pos h
theorem ext_out {T H : Hp} {l : List Addr} {b : Addr} (h : b ∉ l) : ext T H l b = T b := if_neg h
theorem SR.withTs {S T H : Hp} {σ : St} {δ : DEnv} {fp : Nat → List Addr} (s : SR S T H σ δ fp) {l : List Addr} (h : ∀ b ∈ l, S b = none ∧ ∀ j, b ∉ fp j) : SR S (ext T H l) H σ δ fp where
  s := s.s
  t := fun b o e => by
    by_cases hb : b ∈ l
    · rw [ext_in hb] at e; exact e
    · rw [ext_out hb] at e; exact s.t b o e
  st := fun b o e => by
    by_cases hb : b ∈ l
    · exact (h b hb).1
    · rw [ext_out hb] at e; exact s.st b o e
  len := s.len
  sl := s.sl
  dis := s.dis
  own := fun i b hb => ⟨(s.own i b hb).1, by
    have hn : b ∉ l := fun z => (h b z).2 i hb
    rw [ext_out hn]; exact (s.own i b hb).2⟩
theorem le_ext {T H : Hp} {l : List Addr} (h : ∀ b ∈ l, T b = none) : Le T (ext T H l) := fun b o e => by
  have hn : b ∉ l := fun z => by rw [h b z] at e; cases e
  rw [ext_out hn]; exact e
structure FrL (S T H : Hp) (fp : Nat → List Addr) (a : Addr) (w : O) (l : List Addr) : Prop where
  oi : OI S H w a l
  al : ∀ b ∈ l, S b = none ∧ T b = none ∧ ∀ j, b ∉ fp j
def SimFl (r : TE) (t : DTF) : Prop := ∀ (S T H : Hp) (σ : St) (δ : DEnv) (fp : Nat → List Addr) (Q : VK) (Q' : Addr → O → DEnv → Prop), SR S T H σ δ fp → t δ Q' →
  (∀ (S' H' : Hp) (fp' : Nat → List Addr) (a : Addr) (w : O) (l : List Addr) (δ' : DEnv), Le S S' → SR S' T H' σ δ' fp' → FrL S' T H' fp' a w l → Q' a w δ' → Q (.ref a) H') → r σ H Q
structure DFl (X : Cx) (e : Expr) (r : TE) (t : DTF) : Prop where
  pe : PE X e r
  sim : SimFl r t
theorem SR.putO2 {S T H : Hp} {σ : St} {δ : DEnv} {fp : Nat → List Addr} (h : SR S T H σ δ fp) (i : Nat) {a : Addr} {w : O} {l : List Addr} (r : OI S H w a l) (hd : ∀ a ∈ l, (∀ j, a ∉ fp j) ∧ S a = none ∧ T a = none) :
    ∃ fp', SR S T H (σ.set i (some (.ref a))) (δ.set i (some (.o a w))) fp' ∧ ∀ b j, b ∈ fp' j → b ∈ fp j ∨ b ∈ l := by
  by_cases hi : i < σ.length
  · refine ⟨_, h.put hi (l := l) ⟨rfl, r⟩ (fun a ha j _ => (hd a ha).1 j) (fun a ha => (hd a ha).2), fun b j hb => ?_⟩
    by_cases hj : j = i
    · rw [hj, fset_same] at hb; exact .inr hb
    · rw [fset_ne hj] at hb; exact .inl hb
  · exact ⟨_, h.out hi, fun b j hb => .inl hb⟩
theorem SR.over2 {S S6 T H H6 : Hp} {σ : St} {δ : DEnv} {fp : Nat → List Addr} (s : SR S T H σ δ fp) (l : List Addr) (hl : ∀ b ∈ l, T b = none ∧ ∀ j, b ∉ fp j) (le : Le S S6)
    (x : ∀ b o, b ∉ l → H b = some o → H6 b = some o) (fr : ∀ b, H b ≠ none → S b = none → S6 b = none) (s6 : Le S6 H6) : SR S6 T H6 σ δ fp :=
  ⟨s6, fun b o eb => x b o (fun z => by rw [(hl b z).1] at eb; cases eb) (s.t b o eb), fun b o eb => fr b (by rw [s.t b o eb]; exact nofun) (s.st b o eb), s.len,
    fun i => (s.sl i).keep le fun c hc o ec => x c o (fun z => (hl c z).2 i hc) ec, s.dis, fun i c hc => by
      obtain ⟨o, eo⟩ := s.there hc
      exact ⟨fr c (by rw [eo]; exact nofun) (s.own i c hc).1, (s.own i c hc).2⟩⟩
section
variable {X : Cx} {K : PySem.W.Frag} {x y z : Str} {e a b c o ix tg : Expr} {pos pos' apos apos2 cpos : Pos} {n k kk : Nat} {p p1 p2 : Bool} {q qx ra rb rc : TE} {u ux ta tb : DT} {f fa fb fc : DTF} {wi : TI} {ti : DI} {g : TG} {h : DG}
theorem DF.l (d : DF X e p q f) : DFl X e q f := ⟨d.pe, fun S T H σ δ fp Q Q' s g k => d.sim S T H σ δ fp Q Q' s g fun S' H' fp' a w δ' l s' fr _ _ q' =>
  k S' H' fp' a w [a] δ' l s' ⟨fr.oi, fun b hb => by simp only [List.mem_singleton] at hb; subst hb; exact ⟨fr.s, fr.t, fr.f⟩⟩ q'⟩
def dNewDict : DTF := fun δ Q => ∀ a, Q a (.dK [] []) δ
theorem dfl_dict : DFl X (.Dict [] [] pos) tDNewK dNewDict := ⟨pe_dnewK, fun S T H σ δ fp Q Q' s g k c hc =>
  have fr := s.fresh hc
  k S _ fp c (.dK [] []) [c] δ (Le.refl _) (s.new hc) ⟨⟨[], upd_same, rfl, .nil, rfl⟩, fun b hb => by simp only [List.mem_singleton] at hb; subst hb; exact fr⟩ (g c)⟩
/-- a, b, c = three new objects -/
def dPar3 (i j m : Nat) (fa fb fc : DTF) : DS := fun R δ => fa δ fun a1 w1 δ1 => fb δ1 fun a2 w2 δ2 => fc δ2 fun a3 w3 δ3 => R.nx (((δ3.set i (some (.o a1 w1))).set j (some (.o a2 w2))).set m (some (.o a3 w3)))
theorem sim_par3 (i j m : Nat) (ha : SimFl ra fa) (hb : SimFl rb fb) (hc : SimFl rc fc) : SimS (tPar3 i j m (tCons ra (tCons rb (tCons rc tNil)))) (dPar3 i j m fa fb fc) := by
  intro S T H σ δ fp D D' s gg k
  refine ha S T H σ δ fp _ _ s gg fun S1 H1 fp1 a1 w1 l1 δ1 le1 s1 f1 q1 => ?_
  have t1 := s1.withTs (l := l1) fun b hb => ⟨(f1.al b hb).1, (f1.al b hb).2.2⟩
  have x1 : Le T (ext T H1 l1) := le_ext fun b hb => (f1.al b hb).2.1
  refine hb S1 _ H1 σ δ1 fp1 _ _ t1 q1 fun S2 H2 fp2 a2 w2 l2 δ2 le2 s2 f2 q2 => ?_
  have t2 := s2.withTs (l := l2) fun b hb => ⟨(f2.al b hb).1, (f2.al b hb).2.2⟩
  have x2 : Le (ext T H1 l1) (ext (ext T H1 l1) H2 l2) := le_ext fun b hb => (f2.al b hb).2.1
  refine hc S2 _ H2 σ δ2 fp2 _ _ t2 q2 fun S3 H3 fp3 a3 w3 l3 δ3 le3 s3 f3 q3 => ?_
  have s4 : SR S3 T H3 σ δ3 fp3 := s3.lessT (x1.trans x2)
  -- each new object stands at the end
  have d12 : ∀ b ∈ l1, b ∉ l2 := fun b h1 h2 => by
    have := (f2.al b h2).2.1
    rw [ext_in h1] at this
    obtain ⟨o, eo⟩ := f1.oi.there b h1
    rw [eo] at this; cases this
  have up1 : ∀ b ∈ l1, ∀ o, H1 b = some o → ext (ext T H1 l1) H2 l2 b = some o := fun b h1 o eo => by
    rw [ext_out (d12 b h1), ext_in h1]; exact eo
  have up2 : ∀ b ∈ l2, ∀ o, H2 b = some o → ext (ext T H1 l1) H2 l2 b = some o := fun b h1 o eo => by
    rw [ext_in h1]; exact eo
  have o1 : OI S3 H3 w1 a1 l1 := f1.oi.keep (le2.trans le3) fun b hb o eo => s3.t b o (up1 b hb o eo)
  have o2 : OI S3 H3 w2 a2 l2 := f2.oi.keep le3 fun b hb o eo => s3.t b o (up2 b hb o eo)
  have nf1 : ∀ b ∈ l1, (∀ j, b ∉ fp3 j) ∧ S3 b = none ∧ T b = none := fun b hb => by
    obtain ⟨o, eo⟩ := f1.oi.there b hb
    have ht := up1 b hb o eo
    exact ⟨(fun j hj => by rw [(s3.own j b hj).2] at ht; cases ht), s3.st b o ht, (f1.al b hb).2.1⟩
  have nf2 : ∀ b ∈ l2, (∀ j, b ∉ fp3 j) ∧ S3 b = none ∧ T b = none := fun b hb => by
    obtain ⟨o, eo⟩ := f2.oi.there b hb
    have ht := up2 b hb o eo
    exact ⟨(fun j hj => by rw [(s3.own j b hj).2] at ht; cases ht), s3.st b o ht, le_none x1 (f2.al b hb).2.1⟩
  have nf3 : ∀ b ∈ l3, (∀ j, b ∉ fp3 j) ∧ S3 b = none ∧ T b = none := fun b hb => ⟨(f3.al b hb).2.2, (f3.al b hb).1, le_none (x1.trans x2) (f3.al b hb).2.1⟩
  have d3 : ∀ b ∈ l3, b ∉ l1 ∧ b ∉ l2 := fun b hb => by
    have ht := (f3.al b hb).2.1
    constructor
    · intro h1
      obtain ⟨o, eo⟩ := f1.oi.there b h1
      rw [up1 b h1 o eo] at ht; cases ht
    · intro h1
      obtain ⟨o, eo⟩ := f2.oi.there b h1
      rw [up2 b h1 o eo] at ht; cases ht
  obtain ⟨fp5, s5, i5⟩ := s4.putO2 i o1 nf1
  obtain ⟨fp6, s6, i6⟩ := s5.putO2 j o2 fun b hb => ⟨fun j' hj => (i5 b j' hj).elim ((nf2 b hb).1 j') fun z => d12 b z hb, (nf2 b hb).2⟩
  obtain ⟨fp7, s7, i7⟩ := s6.putO2 m f3.oi fun b hb => ⟨fun j' hj => (i6 b j' hj).elim (fun z => (i5 b j' z).elim ((nf3 b hb).1 j') (d3 b hb).1) (d3 b hb).2, (nf3 b hb).2⟩
  exact ⟨_, _, _, rfl, k.nx S3 H3 _ _ fp7 (le1.trans (le2.trans le3)) s7 q3⟩
theorem ds_par3 {i j m : Nat} {px py pz pt : Pos} {kt k2 pt2} (hc : X.calm = true) (hN : X.N.Nodup) (hi : X.N[i]? = some x) (hj : X.N[j]? = some y) (hl : X.N[m]? = some z) (hij : i ≠ j) (hil : i ≠ m) (hjl : j ≠ m)
    (hx : X.env.scope.names.lookup x = some .local) (hy : X.env.scope.names.lookup y = some .local) (hz : X.env.scope.names.lookup z = some .local)
    (hw : swappedStores [.Tuple [.Name x px, .Name y py, .Name z pz] kt pt] (.Tuple [a, b, c] k2 pt2) X.env = pure (some [x, y, z]))
    (hs : swapsWithSole [.Tuple [.Name x px, .Name y py, .Name z pz] kt pt] (.Tuple [a, b, c] k2 pt2) pos.line X.env = pure false)
    (n1 : starEach [a, b, c] X.env = (false, eval a X.env) :: starEach [b, c] X.env) (n2 : starEach [b, c] X.env = (false, eval b X.env) :: starEach [c] X.env) (n3 : starEach [c] X.env = (false, eval c X.env) :: starEach [] X.env)
    (h1 : DFl X a ra fa) (h2 : DFl X b rb fb) (h3 : DFl X c rc fc) :
    DSt X (.Assign [.Tuple [.Name x px, .Name y py, .Name z pz] kt pt] (.Tuple [a, b, c] k2 pt2) pos) (tPar3 i j m (tCons ra (tCons rb (tCons rc tNil)))) (dPar3 i j m fa fb fc) :=
  ⟨ps_par3 hc hN hi hj hl hij hil hjl hx hy hz (pa_cons h1.pe (pa_cons h2.pe (pa_cons h3.pe pa_nil n3) n2) n1) hw hs, sim_par3 i j m h1.sim h2.sim h3.sim⟩
/-! ### [[e] for x in ..], each item a list of its own -/
theorem LL.snoc {S H : Hp} {v : V} {d : D} {b : Addr} (hb : H b = some (.lst [v])) (r : RI S d v) : ∀ {as : List Addr} {dss : List (List D)}, LL S H as dss → LL S H (as ++ [b]) (dss ++ [[d]])
  | [], dss, h => by cases h; exact ⟨[d], [], [v], rfl, hb, .cons r .nil, rfl⟩
  | c :: as, dss, h => by
    obtain ⟨ds, rr, xs, e, h1, h2, h3⟩ := h
    subst e
    exact ⟨ds, rr ++ [[d]], xs, rfl, h1, h2, LL.snoc hb r h3⟩
def dLcL (ti : DI) (h : DG) (te : DT) (vs : List Nat) : DTF := fun δ Q => ti δ fun ds δ1 => ds.length ≤ sizeLine ∧ ∃ f : D → D, (∀ (i : Nat) (d : D), ds[i]? = some d → h d (wipeD δ1 vs) fun δ2 => te δ2 fun y _ => f d = y) ∧ ∀ a, Q a (.ll (ds.map fun d => [f d])) δ1
theorem sim_lcL {vs : List Nat} (hi : SimI p wi ti) (hg : SimG true g h) (he : SimE true q u) (gi : GIn vs g) : SimFl (tLc wi g tYes (tLst (tCons q tNil)) vs) (dLcL ti h u vs) := by
  intro S T H σ δ fp Q Q' s gg k
  refine hi S T H σ δ fp _ _ s gg fun S1 H1 fp1 J ds δ1 l1 s1 wk u1 q1 => ?_
  obtain ⟨hz, f, hf, hq⟩ := q1
  intro Dd hDd
  have fr := s1.fresh hDd
  refine ⟨fun i m H' => m = ds.length - i ∧ i ≤ ds.length ∧ ∃ S2 as, Le S1 S2 ∧ (∀ b o, H1 b = some o → H' b = some o) ∧ SR S2 T H' σ δ1 fp1 ∧ H' Dd = some (.lst (as.map V.ref)) ∧ LL S2 H' as ((ds.take i).map fun d => [f d]) ∧ (Dd :: as).Nodup ∧ (∀ b ∈ Dd :: as, S2 b = none ∧ T b = none ∧ ∀ j, b ∉ fp1 j) ∧ as.length = i,
    ⟨_, rfl, Nat.zero_le _, S1, [], Le.refl _, le_upd hDd, s1.new hDd, upd_same, by rw [List.take_zero]; exact rfl, by simp, fun b hb => by simp only [List.mem_singleton] at hb; subst hb; exact fr, rfl⟩, ?_⟩
  rintro i m H' ⟨rfl, hile, S2, as, l2, x2, s2, hD2, hll, hnd, hal, hlen⟩
  obtain ⟨w1, w2, w3⟩ := wk S2 T H' σ δ1 fp1 l2 s2 i
  by_cases hlt : i < ds.length
  · refine .inr ⟨w1 hlt, fun H'' => ∃ m', m' < ds.length - i ∧ (m' = ds.length - (i + 1) ∧ i + 1 ≤ ds.length ∧ ∃ S2 as, Le S1 S2 ∧ (∀ b o, H1 b = some o → H'' b = some o) ∧ SR S2 T H'' σ δ1 fp1 ∧ H'' Dd = some (.lst (as.map V.ref)) ∧ LL S2 H'' as ((ds.take (i + 1)).map fun d => [f d]) ∧ (Dd :: as).Nodup ∧ (∀ b ∈ Dd :: as, S2 b = none ∧ T b = none ∧ ∀ j, b ∉ fp1 j) ∧ as.length = i + 1), fun H'' z => z, fun x H3 hy => ?_⟩
    have s2T := s2.withTs (l := Dd :: as) fun b hb => ⟨(hal b hb).1, (hal b hb).2.2⟩
    obtain ⟨_, _, w3'⟩ := wk S2 _ H' σ δ1 fp1 l2 s2T i
    obtain ⟨S3, d, l3, s3, x3, e3, r3⟩ := w3' x H3 hlt hy
    obtain ⟨fpw, s3w⟩ := s3.wipe vs
    have hft := hf i d e3
    have etake := take_succ_of e3
    have ww : L2.wipe (L2.wipe σ vs) vs = L2.wipe σ vs := wipe_ext (wipe_length σ vs) fun j hj => by rw [wipe_at]; simp [hj]
    refine gi x (L2.wipe σ vs) H3 (fun σ2 H2 => ∃ S4 δ4 fp4, Le S3 S4 ∧ SR S4 (ext T H' (Dd :: as)) H2 σ2 δ4 fp4 ∧ Ex S3 H3 S4 H2 ∧ u δ4 fun y _ => f d = y) _ (fun σ4 H4 ew z => ?_)
      (hg S3 _ H3 _ _ fpw x d _ _ s3w r3 hft fun S4 H4 σ4 δ4 fp4 l4 s4 x4 q4 => ⟨S4, δ4, fp4, l4, s4, x4 rfl, q4⟩)
    obtain ⟨S4, δ4, fp4, l4, s4, x4, q4⟩ := z
    refine ⟨ew.trans ww, ?_⟩
    dsimp only [tYes]
    rw [if_pos rfl]
    refine he S4 _ H4 σ4 δ4 fp4 _ _ s4 q4 fun S6 H6 fp6 v y δ6 l6 s6 r6 u6 q6 => ?_
    refine ⟨by rw [sizeLine_eq]; simp, fun c hc => ?_⟩
    have x6 : Ex S2 H' S6 H6 := x3.trans (x4.trans u6.tt.2)
    have l26 : Le S2 S6 := l3.trans (l4.trans l6)
    have keep6 : ∀ b ∈ Dd :: as, ∀ o, H' b = some o → H6 b = some o := fun b hb o eo => s6.t b o (by rw [ext_in hb]; exact eo)
    have hD6 := keep6 Dd (by simp) _ hD2
    have hcD : c ≠ Dd := fun z => by rw [z, hD6] at hc; cases hc
    have hcA : c ∉ as := fun z => by
      obtain ⟨o, eo⟩ := hll.there c z
      rw [keep6 c (List.mem_cons_of_mem _ z) o eo] at hc; cases hc
    have hc' : H' c = none := le_none x6.le hc
    have frc := s2.fresh hc'
    have hS6c : S6 c = none := le_none s6.s hc
    have hS6 : ∀ b ∈ Dd :: as, S6 b = none := fun b hb => by
      rcases List.mem_cons.mp hb with rfl | hb'
      · exact x6.fr _ (by rw [hD2]; exact nofun) (hal _ (by simp)).1
      · obtain ⟨o, eo⟩ := hll.there b hb'
        exact x6.fr b (by rw [eo]; exact nofun) (hal b hb).1
    have hDnot : Dd ∉ as := (List.nodup_cons.mp hnd).1
    refine ⟨as.map V.ref, by rw [upd_ne (Ne.symm hcD)]; exact hD6, by rw [List.length_map, hlen]; omega, _, by omega, rfl, hlt, S6, as ++ [c], l2.trans l26, ?_, ?_, ?_, ?_, ?_, ?_, by simp [hlen]⟩
    · intro b o eb
      have hbD : b ≠ Dd := fun z => by rw [z, hDd] at eb; cases eb
      have eb' := x6.le b o (x2 b o eb)
      have hbc : b ≠ c := fun z => by rw [z, hc] at eb'; cases eb'
      rw [upd_ne hbD, upd_ne hbc]; exact eb'
    · refine s2.over2 (Dd :: as) (fun b hb => (hal b hb).2) l26 (fun b o hb eb => ?_) x6.fr (fun b o eb => ?_)
      · have hbD : b ≠ Dd := fun z => hb (by rw [z]; simp)
        have eb' := x6.le b o eb
        have hbc : b ≠ c := fun z => by rw [z, hc] at eb'; cases eb'
        rw [upd_ne hbD, upd_ne hbc]; exact eb'
      · have hbD : b ≠ Dd := fun z => by rw [z, hS6 Dd (by simp)] at eb; cases eb
        have hbc : b ≠ c := fun z => by rw [z, hS6c] at eb; cases eb
        rw [upd_ne hbD, upd_ne hbc]; exact s6.s b o eb
    · rw [upd_same]; simp
    · rw [etake, List.map_append]
      refine LL.snoc (v := v) (d := f d) ?_ (by rw [q6]; exact r6) (hll.keep l26 fun b hb o eo => ?_)
      · rw [upd_ne hcD, upd_same]
      · have hbD : b ≠ Dd := fun z => hDnot (by rw [← z]; exact hb)
        have hbc : b ≠ c := fun z => hcA (by rw [← z]; exact hb)
        rw [upd_ne hbD, upd_ne hbc]
        exact keep6 b (List.mem_cons_of_mem _ hb) o eo
    · rw [← List.cons_append, List.nodup_append]
      refine ⟨hnd, by simp, fun b hb c' hc2 => ?_⟩
      simp only [List.mem_singleton] at hc2
      subst hc2
      intro z
      rcases List.mem_cons.mp hb with hb | hb
      · exact hcD (by rw [← z, hb])
      · exact hcA (by rw [← z]; exact hb)
    · intro b hb
      rw [← List.cons_append, List.mem_append] at hb
      rcases hb with hb | hb
      · exact ⟨hS6 b hb, (hal b hb).2⟩
      · simp only [List.mem_singleton] at hb
        subst hb
        exact ⟨hS6c, frc.2.1, frc.2.2⟩
  · have e : i = ds.length := by omega
    subst e
    refine .inl ⟨w2 (Nat.le_refl _), ?_⟩
    rw [List.take_length] at hll
    exact k S2 H' fp1 Dd (.ll (ds.map fun d => [f d])) (Dd :: as) δ1 (l1.trans l2) s2 ⟨⟨as, hD2, hll, hnd, rfl⟩, hal⟩ (hq Dd)
end
section
variable {X : Cx} {e tg iter elt : Expr} {pos lp : Pos} {p : Bool} {q : TE} {u : DT} {wi : TI} {ti : DI} {g : TG} {h : DG} {scope : Scope} {own : List (Str × Nat)}
theorem dfl_lcL (hc : X.calm = true) (hN : X.N.Nodup) (ok : BlkOk X.N X.env.scope scope own) (hi : DIt X tg iter p wi ti)
    (hg : ∀ (s : Shared) (H : Hp) (C : Addr) (cl : List (Str × Addr)) (fp : List Addr), DGt (X.blk s H scope (compEnvC scope cl C X.env) fp) tg true g h)
    (he : ∀ (s : Shared) (H : Hp) (C : Addr) (cl : List (Str × Addr)) (fp : List Addr), DE (X.blk s H scope (compEnvC scope cl C X.env) fp) elt true q u) (gi : GIn (own.map (·.2)) g) (hs : ∀ x, foldedSetIterable iter X.env x = pure x := by intro _; rfl)
    (hst : ∀ (s : Shared) (H : Hp) (C : Addr) (cl : List (Str × Addr)) (fp : List Addr), starEach [elt] (X.blk s H scope (compEnvC scope cl C X.env) fp).env = (false, eval elt (X.blk s H scope (compEnvC scope cl C X.env) fp).env) :: starEach [] (X.blk s H scope (compEnvC scope cl C X.env) fp).env := by intro _ _ _ _ _; rfl) :
    DFl X (.ListComp (.List [elt] lp) [⟨tg, iter, [], 0⟩] scope pos) (tLc wi g tYes (tLst (tCons q tNil)) (own.map (·.2))) (dLcL ti h u (own.map (·.2))) :=
  ⟨pe_lc hc hN hi.pi ok (fun s H C cl fp => (hg s H C cl fp).pg) (fun s H C cl fp => pts_nil) (fun s H C cl fp => pe_lst (pa_cons (he s H C cl fp).pe pa_nil (hst s H C cl fp))) hs,
    sim_lcL hi.sim (hg X.s_0 X.H_0 0 [] []).sim (he X.s_0 X.H_0 0 [] []).sim gi⟩
end
end SW

namespace SW
open PySem PySem.Spec PyProof.Rows L2
theorem LL.at {S H : Hp} : ∀ {as : List Addr} {dss : List (List D)} {j : Nat} {row : List D}, LL S H as dss → dss[j]? = some row → ∃ b xs, as[j]? = some b ∧ H b = some (.lst xs) ∧ RIs S row xs
  | [], _, j, row, h, e => by cases h; simp at e
  | c :: as, dss, 0, row, h, e => by
    obtain ⟨ds, r, xs, e1, h1, h2, h3⟩ := h
    subst e1
    simp at e; subst e
    exact ⟨c, xs, rfl, h1, h2⟩
  | c :: as, dss, j + 1, row, h, e => by
    obtain ⟨ds, r, xs, e1, h1, h2, h3⟩ := h
    subst e1
    simp at e
    obtain ⟨b, ys, g1, g2, g3⟩ := LL.at h3 e
    exact ⟨b, ys, by simpa using g1, g2, g3⟩
/-- one list changed, the others as they were -/
theorem LL.put {S H H' : Hp} : ∀ {as : List Addr} {dss : List (List D)} {j : Nat} {b : Addr} {row : List D} {xs : List V}, LL S H as dss → as.Nodup → as[j]? = some b → H' b = some (.lst xs) → RIs S row xs → (∀ c o, c ≠ b → H c = some o → H' c = some o) → LL S H' as (dss.set j row)
  | [], _, j, b, row, xs, h, _, e, _, _, _ => by simp at e
  | c :: as, dss, 0, b, row, xs, h, nd, e, hb, rr, k => by
    obtain ⟨ds, r, ys, e1, h1, h2, h3⟩ := h
    subst e1
    simp at e; subst e
    refine ⟨row, r, xs, rfl, hb, rr, h3.keep (Le.refl _) fun d hd o eo => k d o (fun z => (List.nodup_cons.mp nd).1 (by rw [← z]; exact hd)) eo⟩
  | c :: as, dss, j + 1, b, row, xs, h, nd, e, hb, rr, k => by
    obtain ⟨ds, r, ys, e1, h1, h2, h3⟩ := h
    subst e1
    simp at e
    have hcb : c ≠ b := fun z => (List.nodup_cons.mp nd).1 (by rw [z]; exact List.mem_of_getElem? e)
    exact ⟨ds, r.set j row, ys, rfl, k c _ hcb h1, h2, LL.put h3 (List.nodup_cons.mp nd).2 e hb rr k⟩
section
variable {X : Cx} {K : PySem.W.Frag} {x y z : Str} {e a b c o ix tg : Expr} {es : List Expr} {pos pos' apos apos2 cpos : Pos} {n k kk : Nat} {p p1 p2 : Bool} {q qx ra rb rc : TE} {u ux ta tb : DT}
theorem atI_of {α : Type} {xs : List α} {i : Int} {j : Nat} {v : α} (h : ixN xs.length i = some j) (e : xs[j]? = some v) : atI xs i = some v := by
  unfold atI; rw [h]; exact e
/-- x[e] where slot i holds lists of their own: a view of one -/
def dIxLL (i : Nat) (t : DT) : DT := fun δ Q => match δ[i]? with
  | some (some (.o _ (.ll dss))) => t δ fun y δ1 => match y with
    | .int m => ∃ j row, ixN dss.length m = some j ∧ dss[j]? = some row ∧ Q (.lst row) δ1
    | _ => False
  | _ => False
theorem sim_ixLL (i : Nat) (h : SimE true q u) : SimV true (tOp (rIx K) (tVar i) q) (dIxLL i u) := by
  intro S T H σ δ fp Q Q' s g k
  unfold dIxLL at g
  have hv := s.sl i
  split at g
  · rename_i A dss ee
    rw [ee] at hv
    refine ⟨_, hv.1, h S T H σ δ fp _ _ s g fun S1 H1 fp1 v d δ1 l1 s1 r1 u1 q1 => ?_⟩
    obtain ⟨rfl, x1⟩ := u1.tt
    have hs := s1.sl i
    rw [ee] at hs
    obtain ⟨ev, as, h1, h2, h3, hfp⟩ := hs
    cases d with
    | int m =>
      obtain ⟨j, row, e1, e2, q1⟩ := q1
      simp only [RI] at r1; subst r1
      obtain ⟨B, xs, g1, g2, g3⟩ := h2.at e2
      refine .inl ⟨A, as.map V.ref, m, .ref B, rfl, rfl, SqL.of h1, atI_of (by rw [List.length_map, ← h2.len]; exact e1) (by rw [List.getElem?_map, g1]; rfl), ?_⟩
      exact k S1 H1 fp1 _ (.lst row) _ l1 s1 ⟨B, xs, rfl, g2, g3⟩ (fun _ => ⟨rfl, x1⟩) q1
    | _ => exact q1.elim
  · exact g.elim
theorem dv_ll (i : Nat) (ho : PE X o (tVar i)) (h : DE X ix true q u) (hs : PlainIx ix := by exact fun _ _ => rfl) : DV X (.Subscript o ix pos) true (tOp (rIx X.K) (tVar i) q) (dIxLL i u) := ⟨pe_ix ix_seq ho h.pe hs, sim_ixLL i h.sim⟩
/-- x[e].append(v) there -/
def dAppLL (i : Nat) (t : DT) (w : DT) : DS := fun R δ => match δ[i]? with
  | some (some (.o A (.ll dss))) => t δ fun y δ1 => match y with
    | .int m => ∃ j row, ixN dss.length m = some j ∧ dss[j]? = some row ∧ w δ1 fun d δ2 => row.length < sizeLine ∧ R.nx (δ2.set i (some (.o A (.ll (dss.set j (row ++ [d]))))))
    | _ => False
  | _ => False
theorem sim_appLL (i : Nat) (h : SimE true q u) (hx : SimE true qx ux) : SimS (tDrop (tBM K "list" rAppend (tOp (rIx K) (tVar i) q) (tCons qx tNil))) (dAppLL i u ux) := by
  intro S T H σ δ fp D D' s g k
  unfold dAppLL at g
  have hv := s.sl i
  split at g
  · rename_i A dss ee
    rw [ee] at hv
    refine ⟨_, hv.1, h S T H σ δ fp _ _ s g fun S1 H1 fp1 v y δ1 l1 s1 r1 u1 q1 => ?_⟩
    obtain ⟨rfl, x1⟩ := u1.tt
    cases y with
    | int m =>
      obtain ⟨j, row, e1, e2, q1⟩ := q1
      have hs := s1.sl i
      rw [ee] at hs
      obtain ⟨ev, as, h1, h2, h3, hfp⟩ := hs
      simp only [RI] at r1; subst r1
      obtain ⟨B, xs, g1, g2, g3⟩ := h2.at e2
      refine .inl ⟨A, as.map V.ref, m, .ref B, rfl, rfl, SqL.of h1, atI_of (by rw [List.length_map, ← h2.len]; exact e1) (by rw [List.getElem?_map, g1]; rfl), .inl ⟨rfl, xs, SqL.of g2⟩, ?_⟩
      refine hx S1 T H1 σ _ fp1 _ _ s1 q1 fun S2 H2 fp2 v2 d δ2 l2 s2 r2 u2 q2 => ?_
      obtain ⟨rfl, x2⟩ := u2.tt
      have hs2 := s2.sl i
      rw [ee] at hs2
      obtain ⟨ev2, as2, k1, k2, k3, kfp⟩ := hs2
      have same := x2.le _ _ h1
      rw [k1] at same
      have esame : as2 = as := by
        have h0 : as2.map V.ref = as.map V.ref := by injection same with h0; injection h0
        exact (List.map_inj_right (fun a b e => by injection e)).mp h0
      subst esame
      have gB : H2 B = some (.lst xs) := x2.le _ _ g2
      have hBm : B ∈ as2 := List.mem_of_getElem? g1
      have hAB : A ≠ B := fun z => (List.nodup_cons.mp k3).1 (by rw [z]; exact hBm)
      refine ⟨B, xs, v2, rfl, rfl, gB, by rw [← g3.len]; exact q2.1, ?_⟩
      have s3 := s2.mut (H' := upd H2 B (.lst (xs ++ [v2]))) ev2 (w' := .ll (dss.set j (row ++ [d]))) (l := A :: as2) ⟨as2, by rw [upd_ne hAB]; exact k1, k2.put (List.nodup_cons.mp k3).2 g1 upd_same ((g3.mono l2).append (.cons r2 .nil)) (fun c o hc eo => by rw [upd_ne hc]; exact eo), k3, rfl⟩
        (fun b w hb hbw => by rw [upd_ne (fun z => hb (by rw [kfp, z]; exact List.mem_cons_of_mem _ hBm))]; exact hbw) fun b hb => .inl (by rw [kfp]; exact hb)
      exact k.nx S2 _ σ _ _ (l1.trans l2) s3 q2.2
    | _ => exact q1.elim
  · exact g.elim
theorem ds_appLL (i : Nat) (ho : PE X o (tVar i)) (h : DE X ix true q u) (hx : DE X e true qx ux) (hp : PlainIx ix := by exact fun _ _ => rfl)
    (hs : swapsWith (.Call (.Attribute (.Subscript o ix apos) "append" apos2) [e] [] cpos) none pos.line X.env = pure false := by rfl)
    (hbase : attributeBase (.Subscript o ix apos) "append" X.env (eval (.Subscript o ix apos) X.env) = eval (.Subscript o ix apos) X.env := by rfl)
    (hfew : ((backTo cpos (starEach [e] X.env)).all (fun x => !x.1) && (backToKw cpos (keywordEach [] X.env)).all (fun x => x.1.isSome)
      && decide (([e] : List Expr).length + ([] : List Keyword).length + (if ([] : List Keyword).isEmpty then 0 else 1) < 30)) = true := by rfl)
    (hline : (apos2.endLine == cpos.line) = true := by rfl) (hst : starEach [e] X.env = (false, eval e X.env) :: starEach [] X.env := by rfl) (hplain : (backTo cpos (starEach [] X.env)).any (·.1) = false := by rfl) :
    DSt X (.Expr (.Call (.Attribute (.Subscript o ix apos) "append" apos2) [e] [] cpos) pos) (tDrop (tBM X.K "list" rAppend (tOp (rIx X.K) (tVar i) q) (tCons qx tNil))) (dAppLL i u ux) :=
  ⟨ps_expr (pe_bm PySem.F.plainAttrs_list PySem.F.slot_list_append PySem.F.type_list_append mt_append (pe_ix ix_seq ho h.pe hp) (pa_cons hx.pe pa_nil hst) hbase hfew hline hst hplain) hs, sim_appLL i h.sim hx.sim⟩
/-! ### lists of their own, taken as data for good -/
theorem SR.adoptLL {T H : Hp} {σ : St} {δ : DEnv} {fp : Nat → List Addr} : ∀ {as : List Addr} {S : Hp} {dss : List (List D)}, SR S T H σ δ fp → LL S H as dss → as.Nodup → (∀ b ∈ as, S b = none ∧ T b = none ∧ ∀ j, b ∉ fp j) →
    ∃ S', Le S S' ∧ SR S' T H σ δ fp ∧ RIs S' (dss.map .lst) (as.map .ref) ∧ ∀ b, S b = none → b ∉ as → S' b = none
  | [], S, dss, s, h, _, _ => by cases h; exact ⟨S, Le.refl _, s, .nil, fun b hb _ => hb⟩
  | c :: as, S, dss, s, h, nd, al => by
    obtain ⟨ds, r, xs, e1, h1, h2, h3⟩ := h
    subst e1
    obtain ⟨a1, a2, a3⟩ := al c (by simp)
    have s1 := s.adopt h1 a1 a2 a3
    obtain ⟨S', le, s', r', o'⟩ := SR.adoptLL s1 (h3.keep (le_upd a1) fun b _ o eo => eo) (List.nodup_cons.mp nd).2 fun b hb => by
      have hbc : b ≠ c := fun z => (List.nodup_cons.mp nd).1 (by rw [← z]; exact hb)
      obtain ⟨b1, b2, b3⟩ := al b (List.mem_cons_of_mem _ hb)
      exact ⟨by rw [upd_ne hbc]; exact b1, b2, b3⟩
    refine ⟨S', (le_upd a1).trans le, s', .cons (ri_lst (le _ _ upd_same) (h2.mono ((le_upd a1).trans le))) r', fun b hb hn => ?_⟩
    have hbc : b ≠ c := fun z => hn (by rw [z]; simp)
    exact o' b (by rw [upd_ne hbc]; exact hb) fun z => hn (List.mem_cons_of_mem _ z)
def dFrzLL (i : Nat) : DT := fun δ Q => match δ[i]? with
  | some (some (.o _ (.ll dss))) => Q (.lst (dss.map .lst)) (δ.set i (some (.i (.lst (dss.map .lst)))))
  | _ => False
theorem sim_frzLL (i : Nat) : SimE false (tVar i) (dFrzLL i) := by
  intro S T H σ δ fp Q Q' s g k
  unfold dFrzLL at g
  have hv := s.sl i
  split at g
  · rename_i A dss e
    rw [e] at hv
    obtain ⟨e1, as, h1, h2, h3, hfp⟩ := hv
    have hi : i < σ.length := (List.getElem?_eq_some_iff.mp e1).1
    have own : ∀ b ∈ A :: as, S b = none ∧ T b = none ∧ ∀ j, b ∉ fset fp i [] j := fun b hb => by
      rw [← hfp] at hb
      refine ⟨(s.own i b hb).1, (s.own i b hb).2, fun j hj => ?_⟩
      by_cases hji : j = i
      · subst hji; rw [fset_same] at hj; cases hj
      · rw [fset_ne hji] at hj; exact hji (s.dis j i b hj hb)
    have s1 := s.put hi (v := some (.ref A)) (w := none) (l := []) rfl (fun a ha => nomatch ha) fun a ha => nomatch ha
    obtain ⟨S', le, s2, r2, o2⟩ := s1.adoptLL h2 (List.nodup_cons.mp h3).2 fun b hb => own b (List.mem_cons_of_mem _ hb)
    have hA := own A (by simp)
    have hAS : S' A = none := o2 A hA.1 (List.nodup_cons.mp h3).1
    have s3 := s2.adopt (p := A) h1 hAS hA.2.1 hA.2.2
    have le3 := le_upd (o := HO.lst (as.map V.ref)) hAS
    have ri : RI (upd S' A (.lst (as.map V.ref))) (.lst (dss.map .lst)) (.ref A) := ri_lst upd_same (r2.mono le3)
    have hi2 : i < (σ.set i (some (V.ref A))).length := by simpa using hi
    have s4 := s3.put hi2 (v := some (.ref A)) (w := some (.i (.lst (dss.map .lst)))) (l := []) ⟨⟨_, rfl, ri⟩, rfl⟩ (fun a ha => nomatch ha) fun a ha => nomatch ha
    have eσ : (σ.set i (some (V.ref A))).set i (some (V.ref A)) = σ := by
      rw [List.set_set]
      apply List.ext_getElem?
      intro j
      by_cases hj : j = i
      · subst hj; rw [List.getElem?_set_self hi, e1]
      · rw [List.getElem?_set_ne (Ne.symm hj)]
    have eδ : (δ.set i none).set i (some (.i (.lst (dss.map .lst)))) = δ.set i (some (.i (.lst (dss.map .lst)))) := List.set_set ..
    rw [eσ, eδ] at s4
    exact ⟨_, e1, k _ H _ _ _ _ (le.trans le3) s4 ri (fun z => nomatch z) g⟩
  · exact g.elim
theorem dvl (i : Nat) (ho : PE X o (tVar i)) : DE X o false (tVar i) (dFrzLL i) := ⟨ho, sim_frzLL i⟩
/-! ### a dict of a slot's own -/
def valD (ks : List Key) (ds : List D) (k : Key) : Option D := ((ks.zip ds).find? fun kv => decide (kv.1 = k)).map (·.2)
theorem RIs.val {S : Hp} {k : Key} : ∀ {ks : List Key} {ds : List D} {xs : List V}, RIs S ds xs → (valD ks ds k = none ∧ valV (ks.zip xs) k = none) ∨ ∃ d v, valD ks ds k = some d ∧ valV (ks.zip xs) k = some v ∧ RI S d v
  | [], ds, xs, _ => .inl ⟨rfl, rfl⟩
  | kk :: ks, [], xs, h => by cases h; exact .inl ⟨rfl, rfl⟩
  | kk :: ks, d :: ds, xs, h => by
    simp only [RIs] at h
    obtain ⟨x, r, rfl, h1, h2⟩ := h
    by_cases e : kk = k
    · refine .inr ⟨d, x, ?_, ?_, h1⟩
      · unfold valD; simp [List.find?_cons, e]
      · rw [List.zip_cons_cons, valV_pos e]
    · rcases RIs.val (k := k) (ks := ks) h2 with ⟨a1, a2⟩ | ⟨d', v, a1, a2, a3⟩
      · refine .inl ⟨?_, by rw [List.zip_cons_cons, valV_neg e]; exact a2⟩
        unfold valD at a1 ⊢; simpa [List.find?_cons, e] using a1
      · refine .inr ⟨d', v, ?_, by rw [List.zip_cons_cons, valV_neg e]; exact a2, a3⟩
        unfold valD at a1 ⊢; simpa [List.find?_cons, e] using a1
/-- x.get(e, w), ints as keys -/
def dGet2 (i : Nat) (t w : DT) : DT := fun δ Q => match δ[i]? with
  | some (some (.o _ (.dK ks ds))) => t δ fun y δ1 => w δ1 fun z δ2 => match y with
    | .int m => ∃ v, (valD ks ds (.inl m)).getD z = v ∧ Q v δ2
    | _ => False
  | _ => False
theorem sim_get2 (i : Nat) (h : SimE true q u) (hx : SimE true qx ux) : SimE true (tDGet2 (tVar i) q qx) (dGet2 i u ux) := by
  intro S T H σ δ fp Q Q' s g k
  unfold dGet2 at g
  have hv := s.sl i
  split at g
  · rename_i A ks ds ee
    rw [ee] at hv
    obtain ⟨ev, xs0, h0, hl0, rx0, _⟩ := hv
    refine ⟨_, ev, A, rfl, .inl ⟨_, .inl h0⟩, h S T H σ δ fp _ _ s g fun S1 H1 fp1 v y δ1 l1 s1 r1 u1 q1 => ?_⟩
    obtain ⟨rfl, x1⟩ := u1.tt
    refine hx S1 T H1 σ _ fp1 _ _ s1 q1 fun S2 H2 fp2 v2 z δ2 l2 s2 r2 u2 q2 => ?_
    obtain ⟨rfl, x2⟩ := u2.tt
    cases y with
    | int m =>
      obtain ⟨_, rfl, q2⟩ := q2
      simp only [RI] at r1; subst r1
      have rx := rx0.mono (l1.trans l2)
      have hH : H2 A = some (.dK (ks.zip xs0)) := x2.le _ _ (x1.le _ _ h0)
      refine ⟨valV (ks.zip xs0) (.inl m), .inl ⟨_, .inl m, .inl hH, rfl, rfl⟩, ?_⟩
      rcases rx.val (k := .inl m) (ks := ks) with ⟨a1, a2⟩ | ⟨d', v', a1, a2, a3⟩
      · rw [a1] at q2
        rw [a2]
        exact k S2 H2 fp2 v2 z _ (l1.trans l2) s2 r2 (fun _ => ⟨rfl, x1.trans x2⟩) q2
      · rw [a1] at q2
        rw [a2]
        exact k S2 H2 fp2 v' d' _ (l1.trans l2) s2 a3 (fun _ => ⟨rfl, x1.trans x2⟩) q2
    | _ => exact q2.elim
  · exact g.elim
theorem de_get2 (i : Nat) (hu : X.A.units + 64 < cLine) (ho : PE X o (tVar i)) (h : DE X a true q u) (hx : DE X b true qx ux)
    (hbase : attributeBase o "get" X.env (eval o X.env) = eval o X.env := by rfl)
    (hfew : ((backTo cpos (starEach [a, b] X.env)).all (fun x => !x.1) && (backToKw cpos (keywordEach [] X.env)).all (fun x => x.1.isSome)
    && decide (([a, b] : List Expr).length + ([] : List Keyword).length + (if ([] : List Keyword).isEmpty then 0 else 1) < 30)) = true := by rfl)
    (hline : (apos.endLine == cpos.line) = true := by rfl) (htr : backTo cpos (starEach [a, b] X.env) = [(false, eval a X.env), (false, eval b X.env)] := by rfl) :
    DE X (.Call (.Attribute o "get" apos) [a, b] [] cpos) true (tDGet2 (tVar i) q qx) (dGet2 i u ux) := ⟨pe_dget2 (by omega) ho h.pe hx.pe ⟨hbase, hfew, hline, htr⟩, sim_get2 i h.sim hx.sim⟩
/-- x[e] = .. -/
def rSetDict : TSet := fun o i v H Q => ∃ a H4, o = .ref a ∧ DPut H a i v H4 ∧ Q H4
theorem set_dictI (hu : X.A.units + 1 < cLine) : PSet X rSetDict := by
  intro pins s σ H o i v ov iv u Q I ro ri rv h
  obtain ⟨a, H4, rfl, g, q⟩ := h
  cases ro
  exact d_setItem hu I g ri rv fun s' I' => ⟨H4, I', q⟩
def putKs (ks : List Key) (k : Key) : List Key := if ks.any (fun c => decide (c = k)) = true then ks else ks ++ [k]
def putDs (ks : List Key) (ds : List D) (k : Key) (d : D) : List D := if ks.any (fun c => decide (c = k)) = true then (ks.zip ds).map (fun kv => if kv.1 = k then d else kv.2) else ds ++ [d]
theorem any_zip {k : Key} : ∀ {ks : List Key} {xs : List V}, ks.length = xs.length → ((ks.zip xs).any fun kv => decide (kv.1 = k)) = ks.any fun c => decide (c = k)
  | [], xs, _ => rfl
  | c :: ks, [], h => by cases h
  | c :: ks, x :: xs, h => by rw [List.zip_cons_cons, List.any_cons, List.any_cons, any_zip (by simpa using h)]
theorem map_zip {k : Key} {v : V} : ∀ {ks : List Key} {xs : List V}, ks.length = xs.length → (ks.zip xs).map (fun kv => if kv.1 = k then (kv.1, v) else kv) = ks.zip ((ks.zip xs).map fun kv => if kv.1 = k then v else kv.2)
  | [], xs, _ => rfl
  | c :: ks, [], h => by cases h
  | c :: ks, x :: xs, h => by
    simp only [List.zip_cons_cons, List.map_cons, map_zip (k := k) (v := v) (show ks.length = xs.length by simpa using h)]
    by_cases e : c = k <;> simp [e]
theorem RIs.putZ {S : Hp} {k : Key} {d : D} {v : V} (r : RI S d v) : ∀ {ks : List Key} {ds : List D} {xs : List V}, RIs S ds xs → RIs S ((ks.zip ds).map fun kv => if kv.1 = k then d else kv.2) ((ks.zip xs).map fun kv => if kv.1 = k then v else kv.2)
  | [], ds, xs, _ => .nil
  | c :: ks, [], xs, h => by cases h; exact .nil
  | c :: ks, d' :: ds, xs, h => by
    simp only [RIs] at h
    obtain ⟨x, rr, rfl, h1, h2⟩ := h
    simp only [List.zip_cons_cons, List.map_cons]
    refine .cons ?_ (RIs.putZ r h2)
    by_cases e : c = k <;> simp only [e, if_true, if_false]
    · exact r
    · exact h1
theorem putK_zip {S : Hp} {k : Key} {d : D} {v : V} {ks : List Key} {ds : List D} {xs : List V} (hl : ks.length = ds.length) (r : RIs S ds xs) (rv : RI S d v) :
    ∃ ys, putK (ks.zip xs) k v = (putKs ks k).zip ys ∧ (putKs ks k).length = (putDs ks ds k d).length ∧ RIs S (putDs ks ds k d) ys := by
  have hlx : ks.length = xs.length := by rw [hl, r.len]
  unfold putK putKs putDs
  rw [any_zip hlx]
  by_cases e : ks.any (fun c => decide (c = k)) = true
  · simp only [if_pos e]
    exact ⟨_, map_zip hlx, by simp [hl], r.putZ rv⟩
  · simp only [if_neg e]
    exact ⟨xs ++ [v], by rw [List.zip_append hlx]; rfl, by simp [hl], r.append (.cons rv .nil)⟩
def dgPut (i : Nat) (t : DT) : DG := fun d δ Q => match δ[i]? with
  | some (some (.o a (.dK ks ds))) => t δ fun y δ1 => match y with
    | .int m => ks.length < sizeLine ∧ Q (δ1.set i (some (.o a (.dK (putKs ks (.inl m)) (putDs ks ds (.inl m) d)))))
    | _ => False
  | _ => False
theorem sim_gPut (i : Nat) (hi : SimE true q u) : SimG false (gSub (tVar i) q rSetDict) (dgPut i u) := by
  intro S T H σ δ fp v d Q Q' s r g k
  unfold dgPut at g
  have hv := s.sl i
  split at g
  · rename_i A ks ds ee
    rw [ee] at hv
    refine ⟨_, hv.1, hi S T H σ δ fp _ _ s g fun S1 H1 fp1 yv y δ1 l1 s1 r1 u1 q1 => ?_⟩
    obtain ⟨rfl, x1⟩ := u1.tt
    have hs := s1.sl i
    rw [ee] at hs
    obtain ⟨ev, xs, h1, hl, rx, hfp⟩ := hs
    cases y with
    | int m =>
      simp only [RI] at r1; subst r1
      obtain ⟨ys, e1, e2, e3⟩ := putK_zip (k := .inl m) hl rx (r.mono l1)
      refine ⟨A, _, rfl, .inl ⟨_, .inl m, h1, rfl, ?_, rfl⟩, ?_⟩
      · rw [List.length_zip, ← rx.len, ← hl, Nat.min_self]; exact q1.1
      · have s2 := s1.mut (H' := upd H1 A (.dK (putK (ks.zip xs) (.inl m) v))) (i := i) ev (w' := .dK (putKs ks (.inl m)) (putDs ks ds (.inl m) d)) (l := [A]) ⟨ys, by rw [upd_same, e1], e2, e3, rfl⟩
          (fun b w hb hbw => by rw [upd_ne (fun z => hb (by rw [hfp, z]; exact List.mem_singleton.mpr rfl))]; exact hbw) fun b hb => .inl (by rw [hfp]; exact hb)
        exact k S1 _ σ _ _ l1 s2 (fun e => nomatch e) q1.2
    | _ => exact q1.elim
  · exact g.elim
theorem dg_put (i : Nat) (hu : X.A.units + 64 < cLine) (ho : PE X o (tVar i)) (hi : DE X ix true q u)
    (ha : ∀ v, assign (.Subscript o ix pos) X.env v = (do
      let ov ← holding [v] (eval o X.env)
      let iv ← holding [v, ov] (eval ix X.env)
      standAt pos
      holding [v, ov, iv] (setItem ov iv v)
      release [v, ov, iv] []) := by intro _; rfl) : DGt X (.Subscript o ix pos) false (gSub (tVar i) q rSetDict) (dgPut i u) := ⟨pg_sub ho hi.pe (set_dictI (by omega)) ha, sim_gPut i hi.sim⟩
end
end SW

namespace SW
open PySem PySem.Spec PyProof.Rows L2
section
variable {X : Cx} {k : Nat} {f : Addr} {fd : FuncData} {ps : List Str} {sp : DSp} {dvD : List D} {dvs : List V} {dsv : List Value} {x : Str} {e : Expr} {es : List Expr} {pos pos' : Pos} {n : Nat} {p : Bool} {q : TE} {t : DTF} {wa : TA} {va : DTA} {CX : CXT} {E : XK}
/-- a call whose result is an object of its own, of any make -/
def dCallL (sp : DSp) (dvD : List D) (va : DTA) : DTF := fun δ Q => va δ fun ds δ1 => sp ((ds ++ dvD).map .i) (fun w _ => match w with
  | .o a w => Q a w δ1
  | .i _ => False) fun _ _ _ _ => False
theorem sim_callL (hdv : ∀ S, RIs S dvD dvs) (ha : SimA n p wa va) : SimFl (tCall (lift sp) dvs E wa) (dCallL sp dvD va) := by
  intro S T H σ δ fp Q Q' s q k
  refine ha S T H σ δ fp _ _ s q fun S1 H1 fp1 vs ds δ1 l1 s1 r1 e1 u1 q1 => ?_
  refine ⟨S1, outOf S1 H1 [], _, fun _ => [], _, _, s1.callee (r1.append (hdv S1)), q1, fun S2 H2 σ2 δ2 fp2 v w l2 s2 rr q2 => ?_, fun _ _ _ _ _ _ _ _ _ _ _ _ _ _ _ z => z.elim⟩
  obtain ⟨s3, x3⟩ := s1.called l2 s2
  have rr3 := RR.called s1 l2 s2 rr
  obtain ⟨l', h1, h2⟩ := rr3
  cases w with
  | i d => exact q2.elim
  | o a z =>
    obtain ⟨ev, oi⟩ := h1
    cases ev
    exact k S2 H2 fp1 a z l' δ1 (l1.trans l2) s3 ⟨oi, fun b hb => ⟨(h2 b hb).2.1, (h2 b hb).2.2, (h2 b hb).1⟩⟩ q2
theorem dfl_call (G : FnG X.prog X.w X.K X.mg X.base CX k f fd ps (lift sp)) (hr : Room k X.A) (gd : X.A.guards = some []) (hg : Gl X x) (hm : X.mg x = some (.ref f)) (hk : PySem.W.keepIn X.K (.ref f) = true) (hb : Binds X.K fd ps dsv) (hd : Vals dvs dsv) (hdv : ∀ S, RIs S dvD dvs) (hx : Passes CX X E)
    (ha : DA X (e :: es) n p wa va) (hdb : (x == ("__debug__" : Str)) = false := by decide) (he : starEach (e :: es) X.env = (false, eval e X.env) :: starEach es X.env := by rfl) (hpl : (backTo pos (starEach es X.env)).any (·.1) = false := by rfl) :
    DFl X (.Call (.Name x pos') (e :: es) [] pos) (tCall (lift sp) dvs E wa) (dCallL sp dvD va) := ⟨pe_callG G hr gd hg hm hk hb hd hx ha.pe hdb he hpl, sim_callL hdv ha.sim⟩
theorem sim_setL (i : Nat) (h : SimFl q t) : SimS (tAsg q (gName i)) (dSetF i t) := by
  intro S T H σ δ fp D D' s gg k
  refine h S T H σ δ fp _ _ s gg fun S1 H1 fp1 a w l δ1 l1 s1 f1 q1 => ?_
  obtain ⟨fp2, s2, _⟩ := s1.putO2 i f1.oi fun b hb => ⟨(f1.al b hb).2.2, (f1.al b hb).1, (f1.al b hb).2.1⟩
  exact k.nx S1 H1 _ _ fp2 l1 s2 q1
theorem ds_setL (i : Nat) (hN : X.N.Nodup) (he : DFl X e q t) (hi : X.N[i]? = some x := by rfl) (hx : Loc X.env.scope x := by first | exact Or.inl rfl | exact Or.inr rfl) (hs : swapsWith e (some (.Name x pos')) pos.line X.env = pure false := by rfl)
    (hf : X.fn x = true ∨ X.env.scope.names.lookup x = some .local := by first | exact .inl rfl | exact .inr rfl | assumption) : DSt X (.Assign [.Name x pos'] e pos) (tAsg q (gName i)) (dSetF i t) := ⟨ps_set hN hi hx he.pe hs hf, sim_setL i he.sim⟩
end
/-! ### what a def's facts are, bundled -/
/-- the j-th of the list, for each j of js -/
def pick {α : Type} (js : List Nat) (l : List α) : List α := js.filterMap fun j => l[j]?
structure KR (K : PySem.W.Frag) (mg : Str → Option Value) (x : Str) (st : Stmt) (ps : List Str) (ko : List (List Str × List Nat)) : Type where
  f : Addr
  fd : FuncData
  F : Fun K x x st f fd
  g : mg x = some (.ref f)
  k : PySem.W.keepIn K (.ref f) = true
  b : Binds K fd ps []
  kb : ∀ (s : Shared) (ws : List Value), ws.length = ps.length → BindsTo s fd ⟨[], ps.zip ws⟩ (ps.zip ws)
  kp : ∀ o ∈ ko, ∀ (s : Shared) (ws : List Value), ws.length = ps.length → BindsTo s fd ⟨[], o.1.zip ws⟩ (ps.zip (pick o.2 ws))
structure KF (P : Program) (w : World) (K : PySem.W.Frag) (mg : Str → Option Value) (base : Heap) (n : Nat) (x : Str) (st : Stmt) (ps : List Str) (ko : List (List Str × List Nat)) (sp : DSp) : Type extends KR K mg x st ps ko where
  G : FnG P w K mg base CX0 n f fd ps (lift sp)
abbrev powD := i2D CPow fun i j => D.int (i ^ j.toNat)
theorem os_pow : OpS (rI CPow fun i j => .int (i ^ j.toNat)) powD := os_i2 fun _ _ _ => ri_int
theorem outM_of {a : Addr} {δ' : DEnv} {w : O} {k : O → Prop} (h : δ'[0]? = some (some (.o a w))) (q : k w) : outM a δ' k := by
  unfold outM; rw [h]; exact ⟨rfl, q⟩
theorem cm_r {i j : Int} (h : -(2 ^ 64) < j ∧ j < 2 ^ 64) : CMul i j := .inr h
theorem cm_l {i j : Int} (h : -(2 ^ 64) < i ∧ i < 2 ^ 64) : CMul i j := .inl h
end SW

namespace SW
open PySem PySem.Spec PyProof.Rows L2
/-! ### plain facts about what is walked and subscripted -/
theorem rangeD_is {a b : Int} {i : Nat} {d : D} (h : (rangeD a b)[i]? = some d) : (i : Int) < b - a ∧ d = .int (a + (i : Nat)) := by
  by_cases hi : i < (b - a).toNat
  · rw [rangeD_get hi] at h
    exact ⟨by omega, (Option.some.inj h).symm⟩
  · rw [List.getElem?_eq_none (by rw [rangeD_len]; omega)] at h; cases h
theorem seq_is {α : Type} {f : α → D} {ns : List α} {i : Nat} {d : D} (h : (ns.map f)[i]? = some d) : ∃ x, ns[i]? = some x ∧ d = f x := by
  rw [List.getElem?_map] at h
  cases e : ns[i]? with
  | none => rw [e] at h; cases h
  | some x => rw [e] at h; exact ⟨x, rfl, (Option.some.inj h).symm⟩
theorem enumD_is {ds : List D} {i : Nat} {d : D} (h : (enumD ds)[i]? = some d) : ∃ x, ds[i]? = some x ∧ d = .tup [.int (i : Nat), x] := by
  rw [enumFrom_get] at h
  cases e : ds[i]? with
  | none => rw [e] at h; cases h
  | some x => rw [e] at h; exact ⟨x, rfl, by have := (Option.some.inj h).symm; simpa using this⟩
theorem ixN_of {n : Nat} {i : Int} (h0 : 0 ≤ i) (h1 : i < n) : ixN n i = some i.toNat := by
  unfold ixN; rw [if_pos h0, if_pos h1]
theorem ixN_nat {n i : Nat} (h1 : i < n) : ixN n (i : Int) = some i := by
  rw [ixN_of (by omega) (by omega)]; simp
theorem atI_nat {α : Type} {xs : List α} {i : Nat} {x : α} (h : xs[i]? = some x) : atI xs (i : Int) = some x := by
  unfold atI; rw [ixN_nat (List.getElem?_eq_some_iff.mp h).1]; exact h
theorem atI_ints {ns : List Int} {i : Int} (h0 : 0 ≤ i) (h1 : i < ns.length) : atI (ns.map D.int) i = some (.int (ns.getD i.toNat 0)) := by
  unfold atI
  rw [List.length_map, ixN_of h0 h1]
  show (ns.map D.int)[i.toNat]? = _
  have : i.toNat < ns.length := by omega
  rw [List.getElem?_map, List.getElem?_eq_getElem this, List.getD_eq_getElem?_getD, List.getElem?_eq_getElem this]; rfl
theorem atI_intsN {ns : List Int} {j : Nat} (h : j < ns.length) : atI (ns.map D.int) (j : Int) = some (.int (ns.getD j 0)) := by
  have := atI_ints (ns := ns) (i := (j : Int)) (by omega) (by omega)
  simpa using this
theorem atI_intsS {ns : List Int} {j : Nat} (h : j + 1 < ns.length) : atI (ns.map D.int) ((j : Int) + 1) = some (.int (ns.getD (j + 1) 0)) := atI_intsN (j := j + 1) h
theorem ixN_S {n j : Nat} (h : j + 1 < n) : ixN n ((j : Int) + 1) = some (j + 1) := ixN_nat (i := j + 1) h
theorem getD_mem {ns : List Int} {i : Nat} (h : i < ns.length) : ns.getD i 0 ∈ ns := by
  rw [List.getD_eq_getElem?_getD, List.getElem?_eq_getElem h]; exact List.getElem_mem h
theorem set_mem {ns : List Int} {i : Nat} {z : Int} {P : Int → Prop} (h : ∀ c ∈ ns, P c) (hz : P z) : ∀ c ∈ ns.set i z, P c := fun c hc => by
  rcases List.mem_or_eq_of_mem_set hc with h1 | h1
  · exact h c h1
  · rw [h1]; exact hz
theorem filterMap_some {α β : Type} (f : α → β) : ∀ ds : List α, ds.filterMap (fun d => some (f d)) = ds.map f
  | [] => rfl
  | d :: ds => by simp [filterMap_some f ds]
theorem rangeD_eq (n : Nat) : rangeD 0 (n : Int) = (List.range n).map fun k => D.int (k : Nat) := by
  unfold rangeD
  simp
def intOf : D → Int
  | .int i => i
  | _ => 0
/-- the dict of the draws is whole, k draws may follow -/
structure Rn (cs gs : List Int) (n : Int) (k : Nat) : Prop where
  cl : cs.length = 64
  cr : ∀ c ∈ cs, 0 ≤ c ∧ c < 2 ^ 31
  gl : gs.length ≤ 63
  gr : ∀ c ∈ gs, 0 ≤ c
  n0 : 0 ≤ n
  nk : n + k ≤ 2 ^ 40
theorem Rn.mono {cs gs : List Int} {n : Int} {k j : Nat} (h : Rn cs gs n k) (e : j ≤ k) : Rn cs gs n j := ⟨h.cl, h.cr, h.gl, h.gr, h.n0, by have := h.nk; omega⟩
/-! ### == of data without texts and booleans is equality -/
mutual
def num : D → Bool
  | .non => true
  | .int _ => true
  | .lst ds => nums ds
  | .tup ds => nums ds
  | _ => false
def nums : List D → Bool
  | [] => true
  | d :: ds => num d && nums ds
end
mutual
def dep : D → Nat
  | .lst ds => deps ds + 1
  | .tup ds => deps ds + 1
  | _ => 0
def deps : List D → Nat
  | [] => 0
  | d :: ds => max (dep d) (deps ds)
end
mutual
theorem num_plain : ∀ d : D, num d = true → plain d = true ∧ (py d).canLay0 = true ∧ (py d).depth = dep d
  | .non, _ => ⟨rfl, rfl, rfl⟩
  | .int _, _ => ⟨rfl, rfl, rfl⟩
  | .lst ds, h => by
    simp only [num] at h
    obtain ⟨a, b, c⟩ := nums_plain ds h
    exact ⟨by simpa only [plain] using a, by simpa only [py, PyData.canLay0] using b, by simp only [py, PyData.depth, dep, c]⟩
  | .tup ds, h => by
    simp only [num] at h
    obtain ⟨a, b, c⟩ := nums_plain ds h
    exact ⟨by simpa only [plain] using a, by simpa only [py, PyData.canLay0] using b, by simp only [py, PyData.depth, dep, c]⟩
  | .bl _, h => by simp [num] at h
  | .str _, h => by simp [num] at h
  | .dK _ _, h => by simp [num] at h
  | .dT _ _, h => by simp [num] at h
  | .opq _, h => by simp [num] at h
  | .scr _ _ _, h => by simp [num] at h
  | .exc _ _ _, h => by simp [num] at h
theorem nums_plain : ∀ ds : List D, nums ds = true → plains ds = true ∧ PyData.canLayAll0 (pys ds) = true ∧ PyData.depthAll (pys ds) = deps ds
  | [], _ => ⟨rfl, rfl, rfl⟩
  | d :: ds, h => by
    simp only [nums, Bool.and_eq_true] at h
    obtain ⟨a, b, c⟩ := num_plain d h.1
    obtain ⟨a', b', c'⟩ := nums_plain ds h.2
    exact ⟨by simp only [plains, a, a', Bool.and_self], by simp only [pys, PyData.canLayAll0, b, b', Bool.and_self], by simp only [pys, PyData.depthAll, deps, c, c']⟩
end
theorem num_okq {d : D} (h : num d = true) (hd : dep d ≤ 60) : okq d = true := by
  obtain ⟨a, b, c⟩ := num_plain d h
  unfold okq SeqAt.shaped
  rw [a, b, c]
  simp; omega
mutual
theorem num_eqv : ∀ x y : D, num x = true → num y = true → PyData.eqv (py x) (py y) = true → x = y
  | .non, .non, _, _, _ => rfl
  | .int a, .int b, _, _, h => by simp only [py, PyData.eqv, beq_iff_eq] at h; rw [h]
  | .lst ds, .lst es, hx, hy, h => by
    simp only [num] at hx hy
    simp only [py, PyData.eqv] at h
    rw [nums_eqv ds es hx hy h]
  | .tup ds, .tup es, hx, hy, h => by
    simp only [num] at hx hy
    simp only [py, PyData.eqv] at h
    rw [nums_eqv ds es hx hy h]
  | .non, .int _, _, _, h => by simp [py, PyData.eqv] at h
  | .non, .lst _, _, _, h => by simp [py, PyData.eqv] at h
  | .non, .tup _, _, _, h => by simp [py, PyData.eqv] at h
  | .int _, .non, _, _, h => by simp [py, PyData.eqv] at h
  | .int _, .lst _, _, _, h => by simp [py, PyData.eqv] at h
  | .int _, .tup _, _, _, h => by simp [py, PyData.eqv] at h
  | .lst _, .non, _, _, h => by simp [py, PyData.eqv] at h
  | .lst _, .int _, _, _, h => by simp [py, PyData.eqv] at h
  | .lst _, .tup _, _, _, h => by simp [py, PyData.eqv] at h
  | .tup _, .non, _, _, h => by simp [py, PyData.eqv] at h
  | .tup _, .int _, _, _, h => by simp [py, PyData.eqv] at h
  | .tup _, .lst _, _, _, h => by simp [py, PyData.eqv] at h
  | .bl _, _, h, _, _ => by simp [num] at h
  | .str _, _, h, _, _ => by simp [num] at h
  | .dK _ _, _, h, _, _ => by simp [num] at h
  | .dT _ _, _, h, _, _ => by simp [num] at h
  | .opq _, _, h, _, _ => by simp [num] at h
  | .scr _ _ _, _, h, _, _ => by simp [num] at h
  | .exc _ _ _, _, h, _, _ => by simp [num] at h
  | _, .bl _, _, h, _ => by simp [num] at h
  | _, .str _, _, h, _ => by simp [num] at h
  | _, .dK _ _, _, h, _ => by simp [num] at h
  | _, .dT _ _, _, h, _ => by simp [num] at h
  | _, .opq _, _, h, _ => by simp [num] at h
  | _, .scr _ _ _, _, h, _ => by simp [num] at h
theorem nums_eqv : ∀ xs ys : List D, nums xs = true → nums ys = true → PyData.eqvAll (pys xs) (pys ys) = true → xs = ys
  | [], [], _, _, _ => rfl
  | x :: xs, y :: ys, hx, hy, h => by
    simp only [nums, Bool.and_eq_true] at hx hy
    simp only [pys, PyData.eqvAll, Bool.and_eq_true] at h
    rw [num_eqv x y hx.1 hy.1 h.1, nums_eqv xs ys hx.2 hy.2 h.2]
  | [], _ :: _, _, _, h => by simp [pys, PyData.eqvAll] at h
  | _ :: _, [], _, _, h => by simp [pys, PyData.eqvAll] at h
end
theorem num_eqv_same {x : D} (h : num x = true) : PyData.eqv (py x) (py x) = true := SeqAt.eqv_refl _ (num_plain x h).2.1
section
variable {X : Cx} {a b : Expr} {pos : Pos} {p1 p2 : Bool} {ra rb : TE} {ta tb : DT}
theorem de_ix {r : R2} (hr : IxR X r) (ho : OpS r idxD) (ha : DV X a p1 ra ta) (hb : DE X b true rb tb) (hs : PlainIx b := by exact fun _ _ => rfl) : DE X (.Subscript a b pos) p1 (tOp r ra rb) (dOp idxD ta tb) := ⟨pe_ix hr ha.pe hb.pe hs, sim_op ho ha.sim hb.dv.sim⟩
theorem de_ixm {r : R2} (hr : IxR X r) (ho : OpS r idxD) (ha : DE X a p1 ra ta) (hb : DE X b p2 rb tb) (hs : PlainIx b := by exact fun _ _ => rfl) : DE X (.Subscript a b pos) (p1 && p2) (tOp r ra rb) (dOp idxD ta tb) := ⟨pe_ix hr ha.pe hb.pe hs, sim_opm ho ha.sim hb.dv.sim⟩
end
theorem depur {X : Cx} {e : Expr} {p : Bool} {r : TE} {t : DT} (h : DE X e p r t) (hp : p = true := by rfl) : DE X e true r t := by subst hp; exact h
theorem dtpur {X : Cx} {cs : List Expr} {p : Bool} {r : TT} {t : DTB} (h : DTs X cs p r t) (hp : p = true := by rfl) : DTs X cs true r t := by subst hp; exact h
theorem dipur {X : Cx} {tg e : Expr} {p : Bool} {r : TI} {t : DI} (h : DIt X tg e p r t) (hp : p = true := by rfl) : DIt X tg e true r t := by subst hp; exact h
theorem dfpur {X : Cx} {e : Expr} {p : Bool} {r : TE} {t : DTF} (h : DF X e p r t) (hp : p = true := by rfl) : DF X e true r t := by subst hp; exact h
theorem dapur {X : Cx} {es : List Expr} {n : Nat} {p : Bool} {r : TA} {t : DTA} (h : DA X es n p r t) (hp : p = true := by rfl) : DA X es n true r t := by subst hp; exact h
theorem dg_tup2 {X : Cx} {K : PySem.W.Frag} {es : List Expr} {k : Nat} {pos : Pos} {p : Bool} {gs : TGs} {hs : DGs} (n : Nat) (hc : X.calm = true) (hK : X.K = K) (a1 : DGts X es p gs hs) (hn : (assignEach es X.env).length = n := by rfl) (hst : (assignEach es X.env).findIdx? (·.1) = none := by rfl) : DGt X (.Tuple es k pos) p (gTup K n gs) (dgTup n hs) := by
  subst hK; exact dg_tup hc a1 hn hst
/-- == of two texts, or of data -/
def rEqB (K : PySem.W.Frag) : R2 := fun x y H Q => rEq x y H Q ∨ rEqD K x y H Q
def rNeB (K : PySem.W.Frag) : R2 := fun x y H Q => rNe x y H Q ∨ rNeD K x y H Q
theorem op_eqB {X : Cx} (hu : X.A.units + 64 < cLine) : OpR X (compareOp .Eq) (rEqB X.K) := op_eq.or (op_eqD hu)
theorem op_neB {X : Cx} (hu : X.A.units + 64 < cLine) : OpR X (compareOp .NotEq) (rNeB X.K) := op_ne.or (op_neD hu)
def eqB : D → D → (D → Prop) → Prop
  | .str a, .str b, q => q (.bl (decide (a = b)))
  | x, y, q => eqD x y q
def neB : D → D → (D → Prop) → Prop
  | .str a, .str b, q => q (.bl (!decide (a = b)))
  | x, y, q => neD x y q
theorem os_eqB {K : PySem.W.Frag} : OpS (rEqB K) eqB := by
  intro S T H σ δ fp x y v w Q Q' s rx ry q k
  unfold eqB at q
  split at q
  · cases rx; cases ry
    refine .inl ⟨rfl, ?_⟩
    rename_i a b
    have e : decide (V.str a = V.str b) = decide (a = b) := by by_cases z : a = b <;> simp [z]
    rw [e]
    exact k S H _ _ (Le.refl _) s ri_bl (Ex.refl _ _) q
  · exact .inr (os_eq S T H σ δ fp x y v w Q Q' s rx ry q k)
theorem os_neB {K : PySem.W.Frag} : OpS (rNeB K) neB := by
  intro S T H σ δ fp x y v w Q Q' s rx ry q k
  unfold neB at q
  split at q
  · cases rx; cases ry
    refine .inl ⟨rfl, ?_⟩
    rename_i a b
    have e : decide (V.str a = V.str b) = decide (a = b) := by by_cases z : a = b <;> simp [z]
    rw [e]
    exact k S H _ _ (Le.refl _) s ri_bl (Ex.refl _ _) q
  · exact .inr (os_ne S T H σ δ fp x y v w Q Q' s rx ry q k)
theorem eqB_of {x y : D} {q : D → Prop} (hx : num x = true) (h : eqD x y q) : eqB x y q := by
  cases x <;> first | exact h | (simp [num] at hx)
theorem neB_of {x y : D} {q : D → Prop} (hx : num x = true) (h : neD x y q) : neB x y q := by
  cases x <;> first | exact h | (simp [num] at hx)
theorem eqB_num {x y : D} {q : D → Prop} (hx : num x = true) (hy : num y = true) (dx : dep x ≤ 60) (dy : dep y ≤ 60) (h1 : x = y → q (.bl true)) (h2 : x ≠ y → q (.bl false)) : eqB x y q := by
  refine eqB_of hx ⟨num_okq hx dx, num_okq hy dy, ?_⟩
  cases e : PyData.eqv (py x) (py y) with
  | true => exact h1 (num_eqv x y hx hy e)
  | false => exact h2 fun z => by rw [z, num_eqv_same hy] at e; cases e
theorem neB_num {x y : D} {q : D → Prop} (hx : num x = true) (hy : num y = true) (dx : dep x ≤ 60) (dy : dep y ≤ 60) (h1 : x = y → q (.bl false)) (h2 : x ≠ y → q (.bl true)) : neB x y q := by
  refine neB_of hx ⟨num_okq hx dx, num_okq hy dy, ?_⟩
  cases e : PyData.eqv (py x) (py y) with
  | true => exact h1 (num_eqv x y hx hy e)
  | false => exact h2 fun z => by rw [z, num_eqv_same hy] at e; cases e
theorem eqB_int {i j : Int} {q : D → Prop} (h1 : i = j → q (.bl true)) (h2 : i ≠ j → q (.bl false)) : eqB (.int i) (.int j) q :=
  eqB_num rfl rfl (Nat.zero_le _) (Nat.zero_le _) (fun e => h1 (by injection e)) fun e => h2 fun z => e (by rw [z])
theorem neB_int {i j : Int} {q : D → Prop} (h1 : i = j → q (.bl false)) (h2 : i ≠ j → q (.bl true)) : neB (.int i) (.int j) q :=
  neB_num rfl rfl (Nat.zero_le _) (Nat.zero_le _) (fun e => h1 (by injection e)) fun e => h2 fun z => e (by rw [z])
theorem ite_t {P Q : Prop} (h : P) : if (true : Bool) = true then P else Q := by rw [if_pos rfl]; exact h
theorem ite_f {P Q : Prop} (h : Q) : if (false : Bool) = true then P else Q := by rw [if_neg Bool.false_ne_true]; exact h
theorem ite_T {b : Bool} {P Q : Prop} (hb : b = true) (h : P) : if b = true then P else Q := by rw [if_pos hb]; exact h
theorem ite_F {b : Bool} {P Q : Prop} (hb : b = false) (h : Q) : if b = true then P else Q := by rw [if_neg (by rw [hb]; exact Bool.false_ne_true)]; exact h
theorem ite_d {c : Prop} [Decidable c] {P Q : Prop} (h1 : c → P) (h2 : ¬ c → Q) : if decide c = true then P else Q := by
  by_cases h : c
  · rw [decide_eq_true h]; exact ite_t (h1 h)
  · rw [decide_eq_false h]; exact ite_f (h2 h)
theorem ite_nd {c : Prop} [Decidable c] {P Q : Prop} (h1 : c → Q) (h2 : ¬ c → P) : if (!decide c) = true then P else Q := by
  by_cases h : c
  · rw [decide_eq_true h]; exact ite_f (h1 h)
  · rw [decide_eq_false h]; exact ite_t (h2 h)
theorem ite_eq {x y : D} (hx : num x = true) (hy : num y = true) {P Q : Prop} (h1 : x = y → P) (h2 : x ≠ y → Q) : if PyData.eqv (py x) (py y) = true then P else Q := by
  cases e : PyData.eqv (py x) (py y) with
  | true => exact ite_t (h1 (num_eqv x y hx hy e))
  | false => exact ite_f (h2 fun z => by rw [z, num_eqv_same hy] at e; cases e)
theorem ite_ne {x y : D} (hx : num x = true) (hy : num y = true) {P Q : Prop} (h1 : x = y → Q) (h2 : x ≠ y → P) : if (!PyData.eqv (py x) (py y)) = true then P else Q := by
  cases e : PyData.eqv (py x) (py y) with
  | true => exact ite_f (h1 (num_eqv x y hx hy e))
  | false => exact ite_t (h2 fun z => by rw [z, num_eqv_same hy] at e; cases e)
theorem ite_eqI {i j : Int} {P Q : Prop} (h1 : i = j → P) (h2 : i ≠ j → Q) : if PyData.eqv (py (.int i)) (py (.int j)) = true then P else Q :=
  ite_eq rfl rfl (fun e => h1 (by injection e)) fun e => h2 fun z => e (by rw [z])
theorem ite_neI {i j : Int} {P Q : Prop} (h1 : i = j → Q) (h2 : i ≠ j → P) : if (!PyData.eqv (py (.int i)) (py (.int j))) = true then P else Q :=
  ite_ne rfl rfl (fun e => h1 (by injection e)) fun e => h2 fun z => e (by rw [z])
theorem nums_ints : ∀ ns : List Int, nums (ns.map D.int) = true ∧ deps (ns.map D.int) = 0
  | [] => ⟨rfl, rfl⟩
  | n :: ns => by
    obtain ⟨a, b⟩ := nums_ints ns
    exact ⟨by simp only [List.map_cons, nums, num, a, Bool.and_self], by simp only [List.map_cons, deps, dep, b, Nat.max_self]⟩
theorem num_li (ns : List Int) : num (.lst (ns.map .int)) = true ∧ dep (.lst (ns.map .int)) = 1 := by
  obtain ⟨a, b⟩ := nums_ints ns
  exact ⟨by simp only [num, a], by simp only [dep, b]⟩
theorem num_ti (ns : List Int) : num (.tup (ns.map .int)) = true ∧ dep (.tup (ns.map .int)) = 1 := by
  obtain ⟨a, b⟩ := nums_ints ns
  exact ⟨by simp only [num, a], by simp only [dep, b]⟩
end SW

namespace SW
open PySem PySem.Spec PyProof.Rows L2
/-! ### rows of items, plainly -/
def span (m : Nat) : List Int := (List.range m).map fun (k : Nat) => (k : Int)
theorem span_len (m : Nat) : (span m).length = m := by simp [span]
theorem rangeD_span (m : Nat) : rangeD 0 (m : Int) = (span m).map D.int := by
  rw [rangeD_eq]; unfold span; rw [List.map_map]; rfl
theorem span_mem {m : Nat} {x : Int} : x ∈ span m ↔ 0 ≤ x ∧ x < m := by
  simp only [span, List.mem_map, List.mem_range]
  constructor
  · rintro ⟨k, hk, rfl⟩; omega
  · rintro ⟨h0, h1⟩; exact ⟨x.toNat, by omega, by omega⟩
theorem span_nodup (m : Nat) : (span m).Nodup := by
  unfold span
  rw [List.nodup_iff_pairwise_ne, List.pairwise_map]
  exact (List.nodup_iff_pairwise_ne.mp List.nodup_range).imp fun h e => h (by omega)
/-- a row: each of the first m numbers once -/
structure Row (row : List Int) (m : Nat) : Prop where
  p : row.Perm (span m)
  m0 : 1 ≤ m
  m1 : m ≤ 40
namespace Row
variable {row : List Int} {m : Nat} (h : Row row m)
include h
theorem len : row.length = m := by rw [h.p.length_eq, span_len]
theorem mem {x : Int} : x ∈ row ↔ 0 ≤ x ∧ x < m := by rw [h.p.mem_iff, span_mem]
theorem nd : row.Nodup := h.p.nodup_iff.mpr (span_nodup m)
theorem at_mem {i : Nat} {x : Int} (e : row[i]? = some x) : 0 ≤ x ∧ x < m := h.mem.mp (List.mem_of_getElem? e)
theorem inj {i j : Nat} {x : Int} (e : row[i]? = some x) (e' : row[j]? = some x) : i = j := by
  obtain ⟨hi, ei⟩ := List.getElem?_eq_some_iff.mp e
  obtain ⟨hj, ej⟩ := List.getElem?_eq_some_iff.mp e'
  exact (List.getElem_inj h.nd).mp (ei.trans ej.symm)
end Row
/-- where each item ends -/
def endsOf (row : List Int) : List Int := (List.range row.length).map fun (x : Nat) => ((row.idxOf (x : Int) : Nat) : Int)
theorem endsOf_len (row : List Int) : (endsOf row).length = row.length := by simp [endsOf]
theorem idxOf_at {row : List Int} {x : Int} (hx : x ∈ row) : row[row.idxOf x]? = some x := by
  rw [List.getElem?_eq_getElem (List.idxOf_lt_length_iff.mpr hx), List.getElem_idxOf]
theorem Row.idx {row : List Int} {m : Nat} (h : Row row m) {i : Nat} {x : Int} (e : row[i]? = some x) : row.idxOf x = i := h.inj (idxOf_at (List.mem_of_getElem? e)) e
theorem endsOf_get {row : List Int} {x : Nat} (hx : x < row.length) : (endsOf row)[x]? = some ((row.idxOf (x : Int) : Nat) : Int) := by
  unfold endsOf; rw [List.getElem?_map, List.getElem?_range hx]; rfl
/-- a table that knows each person's item is endsOf -/
theorem Row.ends {row found : List Int} {m : Nat} (h : Row row m) (hl : found.length = m) (hf : ∀ (j : Nat) (x : Int), row[j]? = some x → found[x.toNat]? = some (j : Int)) : found = endsOf row := by
  apply List.ext_getElem?
  intro x
  by_cases hx : x < m
  · rw [endsOf_get (by rw [h.len]; exact hx)]
    have hm : (x : Int) ∈ row := h.mem.mpr ⟨by omega, by omega⟩
    have := hf _ _ (idxOf_at hm)
    simpa using this
  · rw [List.getElem?_eq_none (by omega), List.getElem?_eq_none (by rw [endsOf_len, h.len]; omega)]
theorem Row.endsPerm {row : List Int} {m : Nat} (h : Row row m) : (endsOf row).Perm (span m) := by
  have e1 : endsOf row = (span m).map fun x => ((row.idxOf x : Nat) : Int) := by unfold endsOf span; rw [h.len, List.map_map]; rfl
  have e2 : row.map (fun x => ((row.idxOf x : Nat) : Int)) = span m := by
    apply List.ext_getElem?
    intro i
    rw [List.getElem?_map]
    unfold span
    rw [List.getElem?_map]
    by_cases hi : i < m
    · rw [List.getElem?_range hi]
      have hi2 : i < row.length := by rw [h.len]; exact hi
      rw [List.getElem?_eq_getElem hi2]
      show some ((row.idxOf row[i] : Nat) : Int) = some (i : Int)
      rw [h.idx (List.getElem?_eq_getElem hi2)]
    · rw [List.getElem?_eq_none (by rw [h.len]; omega), List.getElem?_eq_none (by simp; omega)]; rfl
  rw [e1]
  have := (h.p.symm.map fun x => ((row.idxOf x : Nat) : Int))
  rw [e2] at this
  exact this
/-! ### what is read off the ends -/
def eAt (E : List Int) (x : Nat) : Int := E.getD x 0
def pairF (E : List Int) (x : Int) : D → Option D
  | .int z => if E.getD z.toNat 0 < E.getD x.toNat 0 then some (.tup [.int x, .int z]) else none
  | _ => none
def pairsRow (E : List Int) : D → List D
  | .int x => (rangeD (x + 1) (E.length : Nat)).filterMap (pairF E x)
  | _ => []
def pairsOf (E : List Int) : List D := (rangeD 0 (E.length : Nat)).flatMap (pairsRow E)
def nextF (E : List Int) (y : Int) : D → Option D
  | .int z => if E.getD z.toNat 0 < E.getD y.toNat 0 then some (.int z) else none
  | _ => none
def nexts (E : List Int) (y : Int) : List D := (rangeD (y + 1) (E.length : Nat)).filterMap (nextF E y)
/-- the least triple behind the pair -/
def tripH (E : List Int) : D → Option D
  | .tup [.int x, .int y] => (nexts E y).head?.map fun z => .tup [.int x, .int y, z]
  | _ => none
def tripOf (E : List Int) : D := ((pairsOf E).findSome? (tripH E)).getD .non
theorem find_at {α β : Type} {ds : List α} {g : α → Option β} {i : Nat} {d : α} {r : β} (h : (ds.take i).findSome? g = none) (e : ds[i]? = some d) (hg : g d = some r) : ds.findSome? g = some r := by
  have h2 : ds = ds.take i ++ d :: ds.drop (i + 1) := by
    obtain ⟨hi, he⟩ := List.getElem?_eq_some_iff.mp e
    rw [← he, List.getElem_cons_drop, List.take_append_drop]
  rw [h2, List.findSome?_append, h]
  simp [hg]
theorem find_next {α β : Type} {ds : List α} {g : α → Option β} {i : Nat} {d : α} (h : (ds.take i).findSome? g = none) (e : ds[i]? = some d) (hg : g d = none) : (ds.take (i + 1)).findSome? g = none := by
  rw [take_succ_of e, List.findSome?_append, h]
  simp [hg]
theorem rep_ints {m : Nat} {z : Int} : (List.replicate m [D.int z]).flatten = (List.replicate m z).map D.int := by
  induction m with
  | zero => rfl
  | succ m ih => rw [List.replicate_succ, List.flatten_cons, ih]; rfl
theorem enumD_eq (ds : List D) : enumD ds = (List.range ds.length).map fun (i : Nat) => D.tup [.int i, ds.getD i .non] := by
  apply List.ext_getElem?
  intro i
  rw [enumFrom_get, List.getElem?_map]
  by_cases hi : i < ds.length
  · rw [List.getElem?_range hi, List.getElem?_eq_getElem hi]
    simp [List.getD_eq_getElem?_getD, hi]
  · rw [List.getElem?_eq_none (by omega), List.getElem?_eq_none (by simp; omega)]; rfl
theorem cutL_to {α : Type} {xs : List α} {i : Nat} (h : i ≤ xs.length) : cutL xs none (some (i : Int)) = xs.take i := by
  unfold cutL
  have h1 : HT.sIx xs.length 0 none = 0 := rfl
  have h2 : HT.sIx xs.length xs.length (some (i : Int)) = i := by
    show (if (i : Int) < 0 then ((i : Int) + (xs.length : Int)).toNat else min (i : Int).toNat xs.length) = i
    rw [if_neg (by omega)]; simp; omega
  rw [h1, h2]; simp
theorem filterMap_ext {α β : Type} {f g : α → Option β} : ∀ {l : List α}, (∀ x ∈ l, f x = g x) → l.filterMap f = l.filterMap g
  | [], _ => rfl
  | x :: l, h => by
    have h1 := h x (by simp)
    have h2 := filterMap_ext (f := f) (g := g) (l := l) fun y hy => h y (List.mem_cons_of_mem _ hy)
    rw [List.filterMap_cons, List.filterMap_cons, h1, h2]
theorem enum_range {E : List Int} {F G : D → Option D} (h : ∀ (i : Nat) (x : Int), E[i]? = some x → F (.tup [.int i, .int x]) = G (.int i)) : (enumD (E.map D.int)).filterMap F = (rangeD 0 (E.length : Nat)).filterMap G := by
  rw [enumD_eq, rangeD_eq, List.filterMap_map, List.filterMap_map, List.length_map]
  refine filterMap_ext fun i hi => ?_
  rw [List.mem_range] at hi
  show F (.tup [.int i, (E.map D.int).getD i .non]) = G (.int i)
  have : (E.map D.int).getD i .non = .int E[i] := by rw [List.getD_eq_getElem?_getD, List.getElem?_map, List.getElem?_eq_getElem hi]; rfl
  rw [this]
  exact h i _ (List.getElem?_eq_getElem hi)
/-- those that move right, left -/
def rtI (E : List Int) : List Int := (span E.length).filter fun t => decide (t < E.getD t.toNat 0)
def ltI (E : List Int) : List Int := (span E.length).filter fun t => decide (E.getD t.toNat 0 < t)
def selF (p : Int → Bool) : D → Option D
  | .int t => if p t = true then some (.int t) else none
  | _ => none
theorem sel_span (p : Int → Bool) : ∀ l : List Int, (l.map D.int).filterMap (selF p) = (l.filter p).map D.int
  | [] => rfl
  | x :: l => by
    have ih := sel_span p l
    rw [List.map_cons, List.filterMap_cons, List.filter_cons, ih]
    have e : selF p (D.int x) = if p x = true then some (D.int x) else none := rfl
    rw [e]
    by_cases h : p x = true
    · simp only [if_pos h]; rfl
    · simp only [if_neg h]
theorem find_flat {α β γ : Type} {f : α → List β} {g : β → Option γ} : ∀ {l : List α}, (l.flatMap f).findSome? g = l.findSome? fun x => (f x).findSome? g
  | [] => rfl
  | x :: l => by
    rw [List.flatMap_cons, List.findSome?_append, find_flat (l := l), List.findSome?_cons]
    cases (f x).findSome? g <;> rfl
theorem find_fm {α β γ : Type} {f : α → Option β} {g : β → Option γ} : ∀ {l : List α}, (l.filterMap f).findSome? g = l.findSome? fun x => (f x).bind g
  | [] => rfl
  | x :: l => by
    rw [List.filterMap_cons, List.findSome?_cons, ← find_fm (l := l)]
    cases e : f x with
    | none => rfl
    | some y => rw [List.findSome?_cons]; rfl
theorem tripOf_eq (E : List Int) : tripOf E = ((rangeD 0 (E.length : Nat)).findSome? fun d => (pairsRow E d).findSome? (tripH E)).getD .non := by unfold tripOf pairsOf; rw [find_flat]
theorem row_find (E : List Int) (x : Int) : (pairsRow E (.int x)).findSome? (tripH E) = (rangeD (x + 1) (E.length : Nat)).findSome? fun c => (pairF E x c).bind (tripH E) := by unfold pairsRow; rw [find_fm]
theorem nexts_head (E : List Int) (y : Int) : (nexts E y).head? = (rangeD (y + 1) (E.length : Nat)).findSome? (nextF E y) := List.head?_filterMap
/-- what a pair is -/
theorem pairs_is {E : List Int} {d : D} (h : d ∈ pairsOf E) : ∃ x y : Int, d = .tup [.int x, .int y] ∧ 0 ≤ x ∧ x < y ∧ y < E.length ∧ E.getD y.toNat 0 < E.getD x.toNat 0 := by
  unfold pairsOf at h
  rw [List.mem_flatMap] at h
  obtain ⟨a, ha, h⟩ := h
  obtain ⟨i, hi⟩ := List.getElem?_of_mem ha
  obtain ⟨h1, rfl⟩ := rangeD_is hi
  unfold pairsRow at h
  simp only [List.mem_filterMap] at h
  obtain ⟨c, hc, h⟩ := h
  obtain ⟨j, hj⟩ := List.getElem?_of_mem hc
  obtain ⟨h2, rfl⟩ := rangeD_is hj
  have e : pairF E (0 + (i : Nat)) (.int (0 + (i : Nat) + 1 + (j : Nat))) = if E.getD (0 + (i : Int) + 1 + (j : Int)).toNat 0 < E.getD (0 + (i : Int)).toNat 0 then some (.tup [.int (0 + (i : Nat)), .int (0 + (i : Nat) + 1 + (j : Nat))]) else none := rfl
  rw [e] at h
  by_cases hlt : E.getD (0 + (i : Int) + 1 + (j : Int)).toNat 0 < E.getD (0 + (i : Int)).toNat 0
  · rw [if_pos hlt] at h
    exact ⟨0 + (i : Nat), 0 + (i : Nat) + 1 + (j : Nat), (Option.some.inj h).symm, by omega, by omega, by omega, hlt⟩
  · rw [if_neg hlt] at h; cases h
theorem nexts_ints (E : List Int) (y : Int) : ∃ ns : List Int, nexts E y = ns.map D.int := by
  have : ∀ l : List D, ∃ ns : List Int, l.filterMap (nextF E y) = ns.map D.int := fun l => by
    induction l with
    | nil => exact ⟨[], rfl⟩
    | cons d l ih =>
      obtain ⟨ns, e⟩ := ih
      rw [List.filterMap_cons]
      cases q : nextF E y d with
      | none => exact ⟨ns, e⟩
      | some r =>
        unfold nextF at q
        split at q
        · rename_i z
          split at q
          · cases q; exact ⟨z :: ns, by rw [e]; rfl⟩
          · cases q
        · cases q
  exact this _
theorem pairsOf_len (E : List Int) (h : E.length ≤ 40) : (pairsOf E).length ≤ 1600 := by
  unfold pairsOf
  rw [List.length_flatMap]
  have hb : ∀ d ∈ rangeD 0 (E.length : Nat), (pairsRow E d).length ≤ 40 := fun d hd => by
    obtain ⟨i, hi⟩ := List.getElem?_of_mem hd
    obtain ⟨h1, rfl⟩ := rangeD_is hi
    unfold pairsRow
    refine Nat.le_trans (List.length_filterMap_le _ _) ?_
    rw [rangeD_len]; omega
  have hs : ∀ l : List D, (∀ d ∈ l, (pairsRow E d).length ≤ 40) → (l.map fun d => (pairsRow E d).length).sum ≤ 40 * l.length := fun l => by
    induction l with
    | nil => intro _; simp
    | cons d l ih =>
      intro hl
      have h1 := hl d (by simp)
      have h2 := ih fun e he => hl e (List.mem_cons_of_mem _ he)
      simp only [List.map_cons, List.sum_cons, List.length_cons]
      omega
  have := hs _ hb
  rw [rangeD_len] at this
  omega
/-! ### distances -/
theorem sum_perm {l l' : List Int} (h : l.Perm l') : l.sum = l'.sum := by
  induction h with
  | nil => rfl
  | cons x _ ih => simp [ih]
  | swap x y l => simp; omega
  | trans _ _ h1 h2 => exact h1.trans h2
theorem sum_split (g : Int → Int) : ∀ l : List Int, ((l.filter fun t => decide (0 < g t)).map g).sum - ((l.filter fun t => decide (g t < 0)).map fun t => - g t).sum = (l.map g).sum
  | [] => rfl
  | x :: l => by
    have ih := sum_split g l
    simp only [List.filter_cons, List.map_cons, List.sum_cons]
    by_cases h1 : 0 < g x
    · have h2 : ¬ g x < 0 := by omega
      simp only [h1, h2, decide_true, decide_false, if_true, if_false, List.map_cons, List.sum_cons, Bool.false_eq_true]
      omega
    · by_cases h2 : g x < 0
      · simp only [h1, h2, decide_true, decide_false, if_true, if_false, List.map_cons, List.sum_cons, Bool.false_eq_true]
        omega
      · have : g x = 0 := by omega
        simp only [h1, h2, decide_false, if_false, Bool.false_eq_true]
        omega
theorem Row.dist {row : List Int} {m : Nat} (h : Row row m) : ((rtI (endsOf row)).map fun t => (endsOf row).getD t.toNat 0 - t).sum = ((ltI (endsOf row)).map fun t => t - (endsOf row).getD t.toNat 0).sum := by
  let E := endsOf row
  have hE : E.length = m := by show (endsOf row).length = m; rw [endsOf_len, h.len]
  have hs := sum_split (fun t => E.getD t.toNat 0 - t) (span m)
  have e1 : (span m).map (fun t => E.getD t.toNat 0) = E := by
    unfold span
    rw [List.map_map]
    apply List.ext_getElem?
    intro i
    rw [List.getElem?_map]
    by_cases hi : i < m
    · rw [List.getElem?_range hi, List.getElem?_eq_getElem (by omega)]
      show some (E.getD ((i : Int)).toNat 0) = _
      rw [Int.toNat_natCast, List.getD_eq_getElem?_getD, List.getElem?_eq_getElem (by omega)]; rfl
    · rw [List.getElem?_eq_none (by rw [List.length_range]; omega), List.getElem?_eq_none (by omega)]; rfl
  have e2 : ∀ l : List Int, (l.map fun t => E.getD t.toNat 0 - t).sum = (l.map fun t => E.getD t.toNat 0).sum - l.sum := fun l => by
    induction l with
    | nil => rfl
    | cons x l ih => simp only [List.map_cons, List.sum_cons, ih]; omega
  have e3 : ((span m).map fun t => E.getD t.toNat 0 - t).sum = 0 := by
    rw [e2, e1, sum_perm h.endsPerm]; omega
  rw [e3] at hs
  have f1 : rtI E = (span m).filter fun t => decide (0 < E.getD t.toNat 0 - t) := by
    unfold rtI; rw [hE]
    refine List.filter_congr fun t _ => ?_
    rw [decide_eq_decide]; omega
  have f2 : ltI E = (span m).filter fun t => decide (E.getD t.toNat 0 - t < 0) := by
    unfold ltI; rw [hE]
    refine List.filter_congr fun t _ => ?_
    rw [decide_eq_decide]; omega
  have f3 : (fun t : Int => - (E.getD t.toNat 0 - t)) = fun t => t - E.getD t.toNat 0 := by funext t; omega
  rw [f3] at hs
  show ((rtI E).map fun t => E.getD t.toNat 0 - t).sum = ((ltI E).map fun t => t - E.getD t.toNat 0).sum
  rw [f1, f2]
  omega
end SW

namespace SW
open PySem PySem.Spec PyProof.Rows L2
/-! ### bubble sort swaps as often as there are inversions -/
def sumN : Nat → (Nat → Nat) → Nat
  | 0, _ => 0
  | n + 1, f => sumN n f + f n
theorem sumN_congr {f g : Nat → Nat} : ∀ {n : Nat}, (∀ i, i < n → f i = g i) → sumN n f = sumN n g
  | 0, _ => rfl
  | n + 1, h => by
    have h1 := sumN_congr (f := f) (g := g) (n := n) fun i hi => h i (by omega)
    have h2 := h n (by omega)
    show sumN n f + f n = sumN n g + g n
    rw [h1, h2]
theorem sumN_one {f g : Nat → Nat} {i0 : Nat} : ∀ {n : Nat}, i0 < n → (∀ i, i < n → i ≠ i0 → f i = g i) → f i0 = g i0 + 1 → sumN n f = sumN n g + 1
  | 0, h, _, _ => by omega
  | n + 1, h, hf, h0 => by
    show sumN n f + f n = sumN n g + g n + 1
    by_cases e : i0 = n
    · subst e
      rw [sumN_congr (f := f) (g := g) fun i hi => hf i (by omega) (by omega), h0]; omega
    · rw [sumN_one (i0 := i0) (by omega) (fun i hi hne => hf i (by omega) hne) h0, hf n (by omega) (Ne.symm e)]; omega
theorem sumN_zero {f : Nat → Nat} : ∀ {n : Nat}, (∀ i, i < n → f i = 0) → sumN n f = 0
  | 0, _ => rfl
  | n + 1, h => by
    show sumN n f + f n = 0
    rw [sumN_zero fun i hi => h i (by omega), h n (by omega)]
theorem len_fm {β : Type} (f : Nat → Option β) : ∀ n : Nat, ((List.range n).filterMap f).length = sumN n fun i => if (f i).isSome = true then 1 else 0
  | 0 => rfl
  | n + 1 => by
    rw [List.range_succ, List.filterMap_append, List.length_append, len_fm f n]
    show _ = sumN n _ + _
    congr 1
    cases e : f n with
    | none => simp [e]
    | some y => simp [e]
theorem len_flat {β : Type} (f : Nat → List β) : ∀ n : Nat, ((List.range n).flatMap f).length = sumN n fun i => (f i).length
  | 0 => rfl
  | n + 1 => by
    rw [List.range_succ, List.flatMap_append, List.length_append, len_flat f n]
    show _ = sumN n _ + _
    congr 1
    simp
def ind (E : List Int) (x z : Nat) : Nat := if E.getD z 0 < E.getD x 0 then 1 else 0
def invN (m : Nat) (E : List Int) : Nat := sumN m fun x => sumN (m - (x + 1)) fun k => ind E x (x + 1 + k)
theorem pairs_len (E : List Int) : (pairsOf E).length = invN E.length E := by
  unfold pairsOf invN
  rw [rangeD_eq, List.flatMap_map, len_flat]
  refine sumN_congr fun x hx => ?_
  show ((rangeD ((x : Int) + 1) (E.length : Nat)).filterMap (pairF E (x : Int))).length = _
  have e : (((E.length : Nat) : Int) - ((x : Int) + 1)).toNat = E.length - (x + 1) := by omega
  unfold rangeD
  rw [e, List.filterMap_map, len_fm]
  refine sumN_congr fun k hk => ?_
  show (if (pairF E (x : Int) (D.int ((x : Int) + 1 + (k : Nat)))).isSome = true then 1 else 0) = _
  have e2 : pairF E (x : Int) (D.int ((x : Int) + 1 + (k : Nat))) = if E.getD ((x : Int) + 1 + (k : Nat)).toNat 0 < E.getD ((x : Int)).toNat 0 then some (.tup [.int (x : Int), .int ((x : Int) + 1 + (k : Nat))]) else none := rfl
  have e3 : ((x : Int) + 1 + (k : Nat)).toNat = x + 1 + k := by omega
  rw [e2, e3, Int.toNat_natCast]
  unfold ind
  by_cases h : E.getD (x + 1 + k) 0 < E.getD x 0
  · simp only [if_pos h]; rfl
  · simp only [if_neg h]; rfl
/-- one pair less -/
theorem invN_step {m : Nat} {E E' : List Int} {x0 z0 : Nat} (h0 : x0 < z0) (h1 : z0 < m) (hs : ∀ x z, x < z → z < m → ¬ (x = x0 ∧ z = z0) → ind E x z = ind E' x z) (hd : ind E x0 z0 = ind E' x0 z0 + 1) : invN m E = invN m E' + 1 := by
  unfold invN
  refine sumN_one (i0 := x0) (by omega) (fun x hx hne => sumN_congr fun k hk => hs _ _ (by omega) (by omega) (by omega)) ?_
  refine sumN_one (i0 := z0 - (x0 + 1)) (by omega) (fun k hk hne => hs _ _ (by omega) (by omega) (by omega)) ?_
  have e : x0 + 1 + (z0 - (x0 + 1)) = z0 := by omega
  rw [e]; exact hd
theorem endsOf_getD {row : List Int} {x : Nat} (hx : x < row.length) : (endsOf row).getD x 0 = ((row.idxOf (x : Int) : Nat) : Int) := by
  rw [List.getD_eq_getElem?_getD, endsOf_get hx]; rfl
theorem getD_some {L : List Int} {i : Nat} (h : i < L.length) : L[i]? = some (L.getD i 0) := by
  rw [List.getD_eq_getElem?_getD, List.getElem?_eq_getElem h]; rfl
def swapL (L : List Int) (j : Nat) : List Int := (L.set j (L.getD (j + 1) 0)).set (j + 1) (L.getD j 0)
theorem swapL_len (L : List Int) (j : Nat) : (swapL L j).length = L.length := by simp [swapL]
theorem swapL_get {L : List Int} {j : Nat} (hj : j + 1 < L.length) (i : Nat) : (swapL L j)[i]? = if i = j + 1 then some (L.getD j 0) else if i = j then some (L.getD (j + 1) 0) else L[i]? := by
  unfold swapL
  by_cases e1 : i = j + 1
  · subst e1
    rw [if_pos rfl, List.getElem?_set_self (by rw [List.length_set]; exact hj)]
  · rw [if_neg e1, List.getElem?_set_ne (Ne.symm e1)]
    by_cases e2 : i = j
    · subst e2
      rw [if_pos rfl, List.getElem?_set_self (by omega)]
    · rw [if_neg e2, List.getElem?_set_ne (Ne.symm e2)]
theorem swapL_getD {L : List Int} {j : Nat} (hj : j + 1 < L.length) (i : Nat) : (swapL L j).getD i 0 = if i = j + 1 then L.getD j 0 else if i = j then L.getD (j + 1) 0 else L.getD i 0 := by
  rw [List.getD_eq_getElem?_getD, swapL_get hj]
  by_cases e1 : i = j + 1
  · rw [if_pos e1, if_pos e1]; rfl
  · rw [if_neg e1, if_neg e1]
    by_cases e2 : i = j
    · rw [if_pos e2, if_pos e2]; rfl
    · rw [if_neg e2, if_neg e2, List.getD_eq_getElem?_getD]
theorem swapL_row {L : List Int} {m j : Nat} (h : Row L m) (hj : j + 1 < m) : Row (swapL L j) m := by
  refine ⟨?_, h.m0, h.m1⟩
  have hj2 : j + 1 < L.length := by rw [h.len]; exact hj
  have e1 : L.getD (j + 1) 0 = L[j + 1] := by rw [List.getD_eq_getElem?_getD, List.getElem?_eq_getElem hj2]; rfl
  have e2 : L.getD j 0 = L[j] := by rw [List.getD_eq_getElem?_getD, List.getElem?_eq_getElem (by omega)]; rfl
  unfold swapL
  rw [e1, e2]
  exact (List.set_set_perm (by omega) hj2).trans h.p
theorem swap_inv {L : List Int} {m j : Nat} (h : Row L m) (hj : j + 1 < m) (hlt : L.getD (j + 1) 0 < L.getD j 0) : invN m (endsOf L) = invN m (endsOf (swapL L j)) + 1 := by
  have hl := h.len
  have h' := swapL_row h hj
  have hl' := h'.len
  have ga := getD_some (L := L) (i := j) (by omega)
  have gb := getD_some (L := L) (i := j + 1) (by omega)
  have ba := h.at_mem ga
  have bb := h.at_mem gb
  obtain ⟨a, ea⟩ : ∃ a : Nat, L.getD j 0 = (a : Int) := ⟨(L.getD j 0).toNat, by omega⟩
  obtain ⟨b, eb⟩ : ∃ b : Nat, L.getD (j + 1) 0 = (b : Int) := ⟨(L.getD (j + 1) 0).toNat, by omega⟩
  rw [ea] at ga ba hlt
  rw [eb] at gb bb hlt
  have hba : b < a := by omega
  -- the places
  have pa : L.idxOf (a : Int) = j := h.idx ga
  have pb : L.idxOf (b : Int) = j + 1 := h.idx gb
  have pa' : (swapL L j).idxOf (a : Int) = j + 1 := h'.idx (by rw [swapL_get (by omega), if_pos rfl, ea])
  have pb' : (swapL L j).idxOf (b : Int) = j := h'.idx (by rw [swapL_get (by omega), if_neg (by omega), if_pos rfl, eb])
  have pc : ∀ c : Nat, c < m → c ≠ a → c ≠ b → (swapL L j).idxOf (c : Int) = L.idxOf (c : Int) ∧ L.idxOf (c : Int) ≠ j ∧ L.idxOf (c : Int) ≠ j + 1 := fun c hc hca hcb => by
    have hm : (c : Int) ∈ L := h.mem.mpr ⟨by omega, by omega⟩
    have gc := idxOf_at hm
    have n1 : L.idxOf (c : Int) ≠ j := fun e => by rw [e, ga] at gc; injection gc with gc; omega
    have n2 : L.idxOf (c : Int) ≠ j + 1 := fun e => by rw [e, gb] at gc; injection gc with gc; omega
    exact ⟨h'.idx (by rw [swapL_get (by omega), if_neg n2, if_neg n1]; exact gc), n1, n2⟩
  have gE : ∀ c : Nat, c < m → (endsOf L).getD c 0 = ((L.idxOf (c : Int) : Nat) : Int) := fun c hc => endsOf_getD (by omega)
  have gE' : ∀ c : Nat, c < m → (endsOf (swapL L j)).getD c 0 = (((swapL L j).idxOf (c : Int) : Nat) : Int) := fun c hc => endsOf_getD (by omega)
  refine invN_step (x0 := b) (z0 := a) hba (by omega) (fun x z hxz hz hne => ?_) ?_
  · unfold ind
    rw [gE x (by omega), gE z hz, gE' x (by omega), gE' z hz]
    have iff : (((L.idxOf (z : Int) : Nat) : Int) < ((L.idxOf (x : Int) : Nat) : Int)) ↔ ((((swapL L j).idxOf (z : Int) : Nat) : Int) < (((swapL L j).idxOf (x : Int) : Nat) : Int)) := by
      by_cases xa : x = a
      · by_cases zb : z = b
        · omega
        · have hz2 := pc z hz (by omega) zb
          rw [xa, pa, pa', hz2.1]; omega
      · by_cases xb : x = b
        · have za : z ≠ a := fun e => hne ⟨xb, e⟩
          have hz2 := pc z hz za (by omega)
          rw [xb, pb, pb', hz2.1]; omega
        · have hx2 := pc x (by omega) xa xb
          rw [hx2.1]
          by_cases za : z = a
          · rw [za, pa, pa']; omega
          · by_cases zb : z = b
            · rw [zb, pb, pb']; omega
            · rw [(pc z hz za zb).1]
    by_cases hh : (((L.idxOf (z : Int) : Nat) : Int) < ((L.idxOf (x : Int) : Nat) : Int))
    · rw [if_pos hh, if_pos (iff.mp hh)]
    · rw [if_neg hh, if_neg (fun q => hh (iff.mpr q))]
  · unfold ind
    rw [gE a (by omega), gE b (by omega), gE' a (by omega), gE' b (by omega), pa, pb, pa', pb', if_pos (by omega), if_neg (by omega)]
theorem sorted_inv {L : List Int} {m : Nat} (h : Row L m) (hs : ∀ i k, i < k → k < m → L.getD i 0 ≤ L.getD k 0) : invN m (endsOf L) = 0 := by
  have hl := h.len
  unfold invN
  refine sumN_zero fun x hx => sumN_zero fun k hk => ?_
  unfold ind
  rw [endsOf_getD (by omega), endsOf_getD (by omega)]
  rw [if_neg]
  intro hlt
  have mx : (x : Int) ∈ L := h.mem.mpr ⟨by omega, by omega⟩
  have mz : ((x + 1 + k : Nat) : Int) ∈ L := h.mem.mpr ⟨by omega, by omega⟩
  have gx := idxOf_at mx
  have gz := idxOf_at mz
  have bx := (List.getElem?_eq_some_iff.mp gx).1
  have hle := hs (L.idxOf ((x + 1 + k : Nat) : Int)) (L.idxOf (x : Int)) (by omega) (by omega)
  rw [List.getD_eq_getElem?_getD, List.getD_eq_getElem?_getD, gx, gz] at hle
  simp at hle
  omega
/-! ### passes -/
def Srt (m n : Nat) (L : List Int) : Prop := ∀ i k, i < k → k < m → m ≤ k + n → L.getD i 0 ≤ L.getD k 0
def Pass (m n at_ : Nat) (L : List Int) : Prop := ∀ i k, i < k → k < m → (m ≤ k + n ∨ k = at_ ∨ (m ≤ k + n + 1 ∧ k ≤ at_)) → L.getD i 0 ≤ L.getD k 0
theorem Srt.pass {m n : Nat} {L : List Int} (h : Srt m n L) : Pass m n 0 L := fun i k hik hk c => h i k hik hk (by omega)
theorem Pass.done {m n a : Nat} {L : List Int} (h : Pass m n a L) (ha : m ≤ a + 1) : Srt m (n + 1) L := fun i k hik hk c => h i k hik hk (by omega)
theorem Pass.no {m n a : Nat} {L : List Int} (h : Pass m n a L) (hle : L.getD a 0 ≤ L.getD (a + 1) 0) : Pass m n (a + 1) L := fun i k hik hk c => by
  by_cases e : k = a + 1
  · subst e
    by_cases e2 : i = a
    · subst e2; exact hle
    · exact Int.le_trans (h i a (by omega) (by omega) (.inr (.inl rfl))) hle
  · exact h i k hik hk (by omega)
theorem Pass.yes {m n a : Nat} {L : List Int} (hl : L.length = m) (h : Pass m n a L) (ha : a + 1 < m) (hlt : L.getD (a + 1) 0 < L.getD a 0) : Pass m n (a + 1) (swapL L a) := fun i k hik hk c => by
  have hn : ¬ m ≤ a + 1 + n := fun z => by have := h a (a + 1) (by omega) ha (.inl z); omega
  rw [swapL_getD (by omega), swapL_getD (by omega)]
  by_cases e : k = a + 1
  · subst e
    rw [if_neg (by omega), if_pos rfl]
    by_cases e2 : i = a
    · rw [if_pos e2]; omega
    · rw [if_neg e2]; exact h i a (by omega) (by omega) (.inr (.inl rfl))
  · have hk2 : a + 1 < k := by omega
    rw [if_neg e, if_neg (show ¬ k = a by omega)]
    have hc : m ≤ k + n := by omega
    by_cases e1 : i = a + 1
    · rw [if_pos e1]; exact h a k (by omega) hk (.inl hc)
    · rw [if_neg e1]
      by_cases e2 : i = a
      · rw [if_pos e2]; exact h (a + 1) k hk2 hk (.inl hc)
      · rw [if_neg e2]; exact h i k hik hk (.inl hc)
end SW

namespace SW
open PySem PySem.Spec PyProof.Rows L2
/-! ### what repr can show -/
mutual
def sml : D → Bool
  | .non => true
  | .int i => decide (i.natAbs < 1000000)
  | .lst ds => smls ds
  | .tup ds => smls ds
  | _ => false
def smls : List D → Bool
  | [] => true
  | d :: ds => sml d && smls ds
end
mutual
def nod : D → Nat
  | .int _ => 20
  | .lst ds => nods ds
  | .tup ds => nods ds
  | _ => 0
def nods : List D → Nat
  | [] => 0
  | d :: ds => nod d + 1 + nods ds
end
theorem sml_log {n : Nat} (h : n < 1000000) : n.log2 < 20 := by
  by_cases h0 : n = 0
  · subst h0; decide
  · exact (Nat.log2_lt h0).mpr (by omega)
mutual
theorem sml_all : ∀ d : D, sml d = true → num d = true ∧ (py d).showable = true ∧ (py d).intsShort 13 = true ∧ (py d).weight ≤ nod d
  | .non, _ => ⟨rfl, rfl, rfl, Nat.le_refl _⟩
  | .int i, h => by
    simp only [sml, decide_eq_true_eq] at h
    have hl := sml_log h
    refine ⟨rfl, ?_, ?_, ?_⟩
    · simp only [py, PyData.showable, decide_eq_true_eq]; omega
    · simp only [py, PyData.intsShort, decide_eq_true_eq]; exact PyData.shown_int_le (by omega)
    · simp only [py, PyData.weight, nod]
      split <;> omega
  | .lst ds, h => by
    simp only [sml] at h
    obtain ⟨a, b, c, d⟩ := smls_all ds h
    exact ⟨by simpa only [num] using a, by simpa only [py, PyData.showable] using b, by simpa only [py, PyData.intsShort] using c, by simpa only [py, PyData.weight, nod] using d⟩
  | .tup ds, h => by
    simp only [sml] at h
    obtain ⟨a, b, c, d⟩ := smls_all ds h
    exact ⟨by simpa only [num] using a, by simpa only [py, PyData.showable] using b, by simpa only [py, PyData.intsShort] using c, by simpa only [py, PyData.weight, nod] using d⟩
  | .bl _, h => by simp [sml] at h
  | .str _, h => by simp [sml] at h
  | .dK _ _, h => by simp [sml] at h
  | .dT _ _, h => by simp [sml] at h
  | .opq _, h => by simp [sml] at h
  | .scr _ _ _, h => by simp [sml] at h
  | .exc _ _ _, h => by simp [sml] at h
theorem smls_all : ∀ ds : List D, smls ds = true → nums ds = true ∧ PyData.showableAll (pys ds) = true ∧ PyData.intsShortAll 13 (pys ds) = true ∧ PyData.weightAll (pys ds) ≤ nods ds
  | [], _ => ⟨rfl, rfl, rfl, Nat.le_refl _⟩
  | d :: ds, h => by
    simp only [smls, Bool.and_eq_true] at h
    obtain ⟨a, b, c, e⟩ := sml_all d h.1
    obtain ⟨a', b', c', e'⟩ := smls_all ds h.2
    refine ⟨by simp only [nums, a, a', Bool.and_self], by simp only [pys, PyData.showableAll, b, b', Bool.and_self], by simp only [pys, PyData.intsShortAll, c, c', Bool.and_self], ?_⟩
    simp only [pys, PyData.weightAll, nods]; omega
end
theorem reprOk_of {d : D} (h : sml d = true) (h1 : dep d ≤ 60) (h2 : nod d ≤ 1000000) : reprOk d = true := by
  obtain ⟨a, b, c, e⟩ := sml_all d h
  obtain ⟨p1, p2, p3⟩ := num_plain d a
  have hd : (py d).hasDict = false := PyData.hasDict_of_canLay _ p2
  have hlay : (py d).layable0 = true := by
    unfold PyData.layable0
    rw [p2, p3]
    simp
    omega
  have hs := shown_le13 hlay c
  unfold reprOk
  rw [p1, b, hd, p3]
  simp
  exact ⟨h1, by rw [sizeLine_eq]; omega⟩
theorem smls_app {a b : List D} (h1 : smls a = true) (h2 : smls b = true) : smls (a ++ b) = true ∧ nods (a ++ b) = nods a + nods b ∧ deps (a ++ b) = max (deps a) (deps b) := by
  induction a with
  | nil => exact ⟨h2, by simp [nods], by simp [deps]⟩
  | cons d a ih =>
    simp only [smls, Bool.and_eq_true] at h1
    obtain ⟨i1, i2, i3⟩ := ih h1.2
    refine ⟨by simp only [List.cons_append, smls, h1.1, i1, Bool.and_self], by simp only [List.cons_append, nods, i2]; omega, by simp only [List.cons_append, deps, i3]; omega⟩
theorem smls_each {ds : List D} {B C : Nat} (h : ∀ d ∈ ds, sml d = true ∧ nod d ≤ B ∧ dep d ≤ C) : smls ds = true ∧ nods ds ≤ ds.length * (B + 1) ∧ deps ds ≤ C := by
  induction ds with
  | nil => exact ⟨rfl, Nat.zero_le _, Nat.zero_le _⟩
  | cons d ds ih =>
    obtain ⟨h1, h2, h3⟩ := h d (by simp)
    obtain ⟨i1, i2, i3⟩ := ih fun e he => h e (List.mem_cons_of_mem _ he)
    refine ⟨by simp only [smls, h1, i1, Bool.and_self], ?_, by simp only [deps]; omega⟩
    simp only [nods, List.length_cons]
    have : (ds.length + 1) * (B + 1) = ds.length * (B + 1) + (B + 1) := Nat.succ_mul _ _
    omega
structure Ok (d : D) (n : Nat) : Prop where
  s : sml d = true
  n : nod d ≤ n
  d : dep d ≤ 20
theorem Ok.repr {d : D} {n : Nat} (h : Ok d n) (hn : n ≤ 1000000) : reprOk d = true := reprOk_of h.s (by have := h.d; omega) (by have := h.n; omega)
theorem ok_ints {ns : List Int} (h : ∀ x ∈ ns, x.natAbs < 1000000) (hl : ns.length ≤ 1000) : Ok (.tup (ns.map .int)) 30000 := by
  obtain ⟨a, b, c⟩ := smls_each (ds := ns.map D.int) (B := 20) (C := 0) fun d hd => by
    simp only [List.mem_map] at hd
    obtain ⟨x, hx, rfl⟩ := hd
    exact ⟨by simp only [sml, decide_eq_true_eq]; exact h x hx, Nat.le_refl _, Nat.le_refl _⟩
  rw [List.length_map] at b
  exact ⟨by simpa only [sml] using a, by simp only [nod]; omega, by simp only [dep]; omega⟩
theorem ok_two {x : D} {n : Nat} (h : Ok x n) (hd : dep x ≤ 10) : sml (.lst [x, x]) = true ∧ nod (.lst [x, x]) ≤ 2 * n + 2 ∧ dep (.lst [x, x]) ≤ 20 := by
  refine ⟨by simp only [sml, smls, h.s, Bool.and_self], ?_, ?_⟩
  · have := h.n; simp only [nod, nods]; omega
  · simp only [dep, deps]; omega
theorem ok_pairs {E : List Int} (h : E.length ≤ 40) : Ok (.tup (pairsOf E)) 80000 ∧ dep (.tup (pairsOf E)) ≤ 3 := by
  obtain ⟨a, b, c⟩ := smls_each (ds := pairsOf E) (B := 42) (C := 1) fun d hd => by
    obtain ⟨x, y, rfl, h1, h2, h3, _⟩ := pairs_is hd
    refine ⟨?_, by simp only [nod, nods]; omega, by simp only [dep, deps]; omega⟩
    simp only [sml, smls, Bool.and_eq_true, decide_eq_true_eq, Bool.and_true]
    exact ⟨by omega, by omega⟩
  have hl := pairsOf_len E h
  refine ⟨⟨by simpa only [sml] using a, ?_, by simp only [dep]; omega⟩, by simp only [dep]; omega⟩
  simp only [nod]
  have : (pairsOf E).length * 43 ≤ 1600 * 43 := Nat.mul_le_mul_right _ hl
  omega
theorem find_some {α β : Type} {g : α → Option β} : ∀ {l : List α} {r : β}, l.findSome? g = some r → ∃ x ∈ l, g x = some r
  | [], r, h => by cases h
  | x :: l, r, h => by
    rw [List.findSome?_cons] at h
    cases e : g x with
    | some y => rw [e] at h; cases h; exact ⟨x, by simp, e⟩
    | none => rw [e] at h; obtain ⟨z, hz, ez⟩ := find_some h; exact ⟨z, List.mem_cons_of_mem _ hz, ez⟩
theorem nexts_is {E : List Int} {y : Int} {d : D} (h : d ∈ nexts E y) : ∃ z : Int, d = .int z ∧ y < z ∧ z < E.length := by
  unfold nexts at h
  simp only [List.mem_filterMap] at h
  obtain ⟨c, hc, h⟩ := h
  obtain ⟨j, hj⟩ := List.getElem?_of_mem hc
  obtain ⟨h2, rfl⟩ := rangeD_is hj
  have e : nextF E y (.int (y + 1 + (j : Nat))) = if E.getD (y + 1 + (j : Int)).toNat 0 < E.getD y.toNat 0 then some (.int (y + 1 + (j : Nat))) else none := rfl
  rw [e] at h
  by_cases hlt : E.getD (y + 1 + (j : Int)).toNat 0 < E.getD y.toNat 0
  · rw [if_pos hlt] at h
    exact ⟨_, (Option.some.inj h).symm, by omega, by omega⟩
  · rw [if_neg hlt] at h; cases h
theorem ok_trip {E : List Int} (h : E.length ≤ 40) : Ok (tripOf E) 100 ∧ dep (tripOf E) ≤ 3 := by
  unfold tripOf
  cases e : (pairsOf E).findSome? (tripH E) with
  | none => exact ⟨⟨rfl, Nat.zero_le _, Nat.zero_le _⟩, Nat.zero_le _⟩
  | some r =>
    obtain ⟨d, hd, e⟩ := find_some e
    obtain ⟨x, y, rfl, h1, h2, h3, _⟩ := pairs_is hd
    have e2 : tripH E (.tup [.int x, .int y]) = (nexts E y).head?.map fun z => .tup [.int x, .int y, z] := rfl
    rw [e2] at e
    cases q : (nexts E y).head? with
    | none => rw [q] at e; cases e
    | some z =>
      rw [q] at e
      have hz := nexts_is (List.mem_of_head? q)
      obtain ⟨w, rfl, w1, w2⟩ := hz
      cases e
      refine ⟨⟨?_, by simp only [Option.getD, nod, nods]; omega, by simp only [Option.getD, dep, deps]; omega⟩, by simp only [Option.getD, dep, deps]; omega⟩
      simp only [Option.getD, sml, smls, Bool.and_eq_true, decide_eq_true_eq, Bool.and_true]
      exact ⟨by omega, by omega, by omega⟩
end SW

namespace SW
open PySem PySem.Spec PyProof.Rows L2
section
variable {X : Cx} {K : PySem.W.Frag} {a b e kx vx tg iter : Expr} {p p1 p2 : Bool} {ra rb r : TE} {ta tb t : DT} {pos pos' pos2 apos cpos : Pos}
/-! ### t.index(x), whole numbers in a tuple -/
def dIxT (ta tb : DT) : DT := fun δ Q => ta δ fun x δ1 => match x with
  | .tup ds => tb δ1 fun y δ2 => match y with
    | .int z => ∃ ns : List Int, ds = ns.map D.int ∧ z ∈ ns ∧ Q (.int (ns.idxOf z : Nat)) δ2
    | _ => False
  | _ => False
theorem before_idxOf {z : Int} : ∀ {ns : List Int} {m : Nat}, m < ns.idxOf z → ns[m]? ≠ some z
  | [], m, h => by simp
  | x :: ns, m, h => by
    rw [List.idxOf_cons] at h
    by_cases e : x = z
    · subst e; simp at h
    · have e2 : (x == z) = false := beq_eq_false_iff_ne.mpr e
      rw [e2] at h
      cases m with
      | zero => simp; exact e
      | succ m =>
        simp only [List.getElem?_cons_succ]
        refine before_idxOf ?_
        simp only [cond_false] at h
        omega
theorem idxOf_spec {ns : List Int} {z : Int} (h : z ∈ ns) : ns[ns.idxOf z]? = some z ∧ ∀ m, m < ns.idxOf z → ns[m]? ≠ some z :=
  ⟨idxOf_at h, fun m hm => before_idxOf hm⟩
theorem sim_ixT (ha : SimV p1 ra ta) (hb : SimE p2 rb tb) : SimE (p1 && p2) (tMG tyTx (rIxT K) ra (tCons rb tNil)) (dIxT ta tb) := by
  intro S T H σ δ fp Q Q' s q k
  refine ha S T H σ δ fp _ _ s q fun S1 H1 fp1 v x δ1 l1 s1 r1 u1 q1 => ?_
  cases x with
  | tup ds =>
    obtain ⟨c, xs, rfl, h1, h2⟩ := r1
    refine ⟨⟨c, xs, rfl, h1.mono s1.s⟩, hb S1 T H1 σ δ1 fp1 _ _ s1 q1 fun S2 H2 fp2 w y δ2 l2 s2 r2 u2 q2 => ?_⟩
    cases y with
    | int z =>
      obtain ⟨ns, rfl, hz, q2⟩ := q2
      simp only [RI] at r2; subst r2
      have e := h2.ints
      subst e
      obtain ⟨i1, i2⟩ := idxOf_spec hz
      exact ⟨c, ns, z, _, rfl, rfl, h1.sq (l2.trans s2.s), i1, i2, k S2 H2 fp2 _ _ δ2 (l1.trans l2) s2 ri_int (u1.trans u2) q2⟩
    | _ => exact q2.elim
  | _ => exact q1.elim
theorem de_indexT (ha : DV X a p1 ra ta) (hb : DE X b p2 rb tb)
    (hbase : attributeBase a "index" X.env (eval a X.env) = eval a X.env := by rfl)
    (hfew : ((backTo cpos (starEach [b] X.env)).all (fun x => !x.1) && (backToKw cpos (keywordEach [] X.env)).all (fun x => x.1.isSome)
      && decide (([b] : List Expr).length + ([] : List Keyword).length + (if ([] : List Keyword).isEmpty then 0 else 1) < 30)) = true := by rfl)
    (hline : (apos.endLine == cpos.line) = true := by rfl) (hst : starEach [b] X.env = (false, eval b X.env) :: starEach [] X.env := by rfl) (hplain : (backTo cpos (starEach [] X.env)).any (·.1) = false := by rfl) :
    DE X (.Call (.Attribute a "index" apos) [b] [] cpos) (p1 && p2) (tMG tyTx (rIxT X.K) ra (tCons rb tNil)) (dIxT ta tb) :=
  ⟨pe_mG ty_tup PySem.F.plainAttrs_tuple PySem.F.slot_tuple_index PySem.F.type_tuple_index mt_ixT ha.pe (pa_cons hb.pe pa_nil hst) hbase hfew hline hst hplain, sim_ixT ha.sim hb.sim⟩
/-! ### len(set(x)), whole numbers -/
def dLenSet (ta : DT) : DT := fun δ Q => ta δ fun x δ1 => match x with
  | .tup ds => ∃ ns : List Int, ds = ns.map D.int ∧ ns.Nodup ∧ ns.length ≤ 1000 ∧ Q (.int (ns.length : Nat)) δ1
  | _ => False
theorem de_lenSetT (hc : X.calm = true) (hg : Gl X "len") (hm : X.mg "len" = none) (hg2 : Gl X "set") (hm2 : X.mg "set" = none) (ha : DV X a p ra ta)
    (na : starEach [a] X.env = (false, eval a X.env) :: starEach [] X.env := by rfl) : DE X (.Call (.Name "len" pos) [.Call (.Name "set" pos') [a] [] pos2] [] cpos) p (tLenSetT X.K ra) (dLenSet ta) := by
  refine ⟨pe_lenSetT hc hg hm hg2 hm2 ha.pe na, ?_⟩
  intro S T H σ δ fp Q Q' s q k
  refine ha.sim S T H σ δ fp _ _ s q fun S1 H1 fp1 v x δ1 l1 s1 r1 u1 q1 => ?_
  cases x with
  | tup ds =>
    obtain ⟨c, xs, rfl, h1, h2⟩ := r1
    obtain ⟨ns, rfl, hn, hl, q1⟩ := q1
    have e := h2.ints
    subst e
    exact ⟨c, ns, rfl, h1.sq s1.s, hn, hl, k S1 H1 fp1 _ _ δ1 l1 s1 ri_int u1 q1⟩
  | _ => exact q1.elim
/-! ### all, any of a list of truth values -/
def boolsD (f : List Bool → Bool) : D → (D → Prop) → Prop
  | .lst ds, q => ∃ bs : List Bool, ds = bs.map D.bl ∧ q (.bl (f bs))
  | _, _ => False
theorem RIs.bls {S : Hp} : ∀ {ns : List Bool} {xs : List V}, RIs S (ns.map D.bl) xs → xs = ns.map V.bl
  | [], _, h => by simpa only [List.map_nil, RIs] using h
  | n :: ns, _, h => by
    simp only [List.map_cons, RIs] at h
    obtain ⟨y, ys, rfl, h1, h2⟩ := h
    simp only [RI] at h1
    rw [h1, h2.bls]; rfl
theorem c1_all : Call1 (rAll K) (boolsD fun bs => bs.all id) := by
  intro S T H σ δ fp x v Q Q' s rx q k
  unfold boolsD at q
  split at q
  · obtain ⟨c, xs, rfl, h1, h2⟩ := rx
    obtain ⟨bs, rfl, q⟩ := q
    have e := h2.bls
    subst e
    exact ⟨c, bs, rfl, SqL.of h1, k S H _ _ (Le.refl _) s ri_bl (Ex.refl _ _) q⟩
  · exact q.elim
theorem c1_any : Call1 (rAny K) (boolsD fun bs => bs.any id) := by
  intro S T H σ δ fp x v Q Q' s rx q k
  unfold boolsD at q
  split at q
  · obtain ⟨c, xs, rfl, h1, h2⟩ := rx
    obtain ⟨bs, rfl, q⟩ := q
    have e := h2.bls
    subst e
    exact ⟨c, bs, rfl, SqL.of h1, k S H _ _ (Le.refl _) s ri_bl (Ex.refl _ _) q⟩
  · exact q.elim
/-! ### min, max of two whole numbers -/
def d2 (g : Int → Int → Int) (ta tb : DT) : DT := fun δ Q => ta δ fun x δ1 => tb δ1 fun y δ2 => match x, y with
  | .int i, .int j => Q (.int (g i j)) δ2
  | _, _ => False
theorem de_B2 {x : Str} {p' : Pos} {id : String} {g : Int → Int → Int} (hc : CallR X (.builtin id) fun xs H Q => ∃ i j, xs = [.int i, .int j] ∧ Q (.int (g i j)) H) (hg : Gl X x) (hm : X.mg x = none) (hv : bootBuiltins x = some (.builtin id)) (ha : DE X a p1 ra ta) (hb : DE X b p2 rb tb)
    (hn : x ≠ "__name__" := by decide) (hdb : (x == ("__debug__" : Str)) = false := by decide) (na : starEach [a, b] X.env = (false, eval a X.env) :: starEach [b] X.env := by rfl) (nb : starEach [b] X.env = (false, eval b X.env) :: starEach [] X.env := by rfl)
    (hpl : (backTo pos (starEach [b] X.env)).any (·.1) = false := by rfl) : DE X (.Call (.Name x p') [a, b] [] pos) (p1 && p2) (tCB (fun xs H Q => ∃ i j, xs = [.int i, .int j] ∧ Q (.int (g i j)) H) (tCons ra (tCons rb tNil))) (d2 g ta tb) := by
  refine ⟨pe_callB (hn := hn) (hdb := hdb) (he := na) (hpl := hpl) hc hg hm hv (pa_cons ha.pe (pa_cons hb.pe pa_nil nb) na), ?_⟩
  intro S T H σ δ fp Q Q' s q k
  refine ha.sim S T H σ δ fp _ _ s q fun S1 H1 fp1 v x δ1 l1 s1 r1 u1 q1 => ?_
  refine hb.sim S1 T H1 σ δ1 fp1 _ _ s1 q1 fun S2 H2 fp2 w y δ2 l2 s2 r2 u2 q2 => ?_
  unfold d2 at *
  split at q2
  · simp only [RI] at r1 r2; subst r1; subst r2
    exact ⟨_, _, rfl, k S2 H2 fp2 _ _ δ2 (l1.trans l2) s2 ri_int (u1.trans u2) q2⟩
  · exact q2.elim
/-! ### sorted whole numbers -/
def sortD : D → (O → Prop) → Prop
  | .lst ds, q => ∃ ns : List Int, ds = ns.map D.int ∧ ∀ ms : List Int, ms.Perm ns → ms.Pairwise (· ≤ ·) → q (.lst (ms.map D.int))
  | _, _ => False
theorem c1_sort : Call1F (rSortedI K) sortD := by
  intro S T H σ δ fp x v Q Q' s rx q k
  unfold sortD at q
  split at q
  · obtain ⟨c, xs, rfl, h1, h2⟩ := rx
    obtain ⟨ns, rfl, q⟩ := q
    have e := h2.ints
    subst e
    refine ⟨c, ns, rfl, SqL.of h1, fun ms p hp hs hn => ?_⟩
    obtain ⟨a1, a2, a3⟩ := s.frLst (RIs.ofInts (S := S) ms) hn
    exact k _ _ _ a1 a2 a3 hn (q ms hp hs)
  · exact q.elim
theorem df_B1 {x : Str} {p' : Pos} {id : String} {rr : List V → Hp → VK → Prop} {o} (hc : CallR X (.builtin id) rr) (ho : Call1F rr o) (hg : Gl X x) (hm : X.mg x = none) (hv : bootBuiltins x = some (.builtin id)) (h : DV X a p ra ta)
    (hn : x ≠ "__name__" := by decide) (hdb : (x == ("__debug__" : Str)) = false := by decide) (na : starEach [a] X.env = (false, eval a X.env) :: starEach [] X.env := by rfl)
    (hpl : (backTo pos (starEach [] X.env)).any (·.1) = false := by rfl) : DF X (.Call (.Name x p') [a] [] pos) p (tCB rr (tCons ra tNil)) (d1F o ta) := ⟨pe_callB (hn := hn) (hdb := hdb) (he := na) (hpl := hpl) hc hg hm hv (pa_cons h.pe pa_nil na), sim_call1F ho h.sim⟩
/-! ### len(the script) -/
def lenDS (K : PySem.W.Frag) : D → (D → Prop) → Prop
  | .scr _ ns c, q => (c → ∀ H, SqL K H · (ns.map V.int)) = (c → ∀ H, SqL K H · (ns.map V.int)) ∧ q (.int ns.length)
  | _, _ => False
def dLenS (K : PySem.W.Frag) (ta : DT) : DT := fun δ Q => ta δ fun x δ1 => match x with
  | .scr a ns c => (c → ∀ H, SqL K H a (ns.map V.int)) ∧ Q (.int ns.length) δ1
  | _ => False
theorem de_lenS (hg : Gl X "len") (hm : X.mg "len" = none) (h : DE X a p ra ta) (na : starEach [a] X.env = (false, eval a X.env) :: starEach [] X.env := by rfl)
    (hpl : (backTo pos (starEach [] X.env)).any (·.1) = false := by rfl) : DE X (.Call (.Name "len" pos') [a] [] pos) p (tCB (fun xs H Q => ∃ x n, xs = [x] ∧ LenV X.K x H n ∧ Q (.int n) H) (tCons ra tNil)) (dLenS X.K ta) := by
  refine ⟨pe_callB (hpl := hpl) (he := na) call_len hg hm boot_len (pa_cons h.pe pa_nil na), ?_⟩
  intro S T H σ δ fp Q Q' s q k
  refine h.sim S T H σ δ fp _ _ s q fun S1 H1 fp1 v x δ1 l1 s1 r1 u1 q1 => ?_
  cases x with
  | scr c ns cc =>
    simp only [RI] at r1; obtain ⟨rfl, h1⟩ := r1
    exact ⟨_, ns.length, rfl, .inl ⟨_, scr_sq h1 q1.1 s1.s, by simp⟩, k S1 H1 fp1 _ _ δ1 l1 s1 ri_int u1 q1.2⟩
  | _ => exact q1.elim
/-! ### d[x], d a dict that stays -/
def dGetD (ta tb : DT) : DT := fun δ Q => ta δ fun x δ1 => tb δ1 fun y δ2 => match x, y with
  | .dK ks ds, .int m => ∃ v, valD ks ds (.inl m) = some v ∧ Q v δ2
  | _, _ => False
theorem sim_getD (ha : SimE p1 ra ta) (hb : SimE p2 rb tb) : SimE (p1 && p2) (tDGet ra rb) (dGetD ta tb) := by
  intro S T H σ δ fp Q Q' s q k
  refine ha S T H σ δ fp _ _ s q fun S1 H1 fp1 v x δ1 l1 s1 r1 u1 q1 => ?_
  refine hb S1 T H1 σ δ1 fp1 _ _ s1 q1 fun S2 H2 fp2 w y δ2 l2 s2 r2 u2 q2 => ?_
  unfold dGetD at *
  split at q2
  · rename_i ks ds m
    simp only [RI] at r1 r2; subst r2
    obtain ⟨c, xs, rfl, h1, hl, h2⟩ := r1
    obtain ⟨d, hd, q2⟩ := q2
    have hH : H2 c = some (.dK (ks.zip xs)) := s2.s _ _ (l2 _ _ h1)
    rcases h2.val (k := .inl m) (ks := ks) with ⟨a1, a2⟩ | ⟨d', v', a1, a2, a3⟩
    · rw [a1] at hd; cases hd
    · rw [a1] at hd; cases hd
      exact ⟨c, v', rfl, .inl ⟨_, .inl m, .inl hH, rfl, a2.symm⟩, k S2 H2 fp2 v' _ δ2 (l1.trans l2) s2 (a3.mono l2) (u1.trans u2) q2⟩
  · exact q2.elim
theorem de_getD (hu : X.A.units + 64 < cLine) (ha : DE X a p1 ra ta) (hb : DE X b p2 rb tb) (hs : NoSl b := by exact fun _ _ => rfl) : DE X (.Subscript a b pos) (p1 && p2) (tDGet ra rb) (dGetD ta tb) :=
  ⟨pe_dget (by omega) ha.pe hb.pe hs, sim_getD ha.sim hb.sim⟩
/-! ### dict comprehensions, nothing changed within -/
def keyD : D → Option Key
  | .int i => some (.inl i)
  | .str x => some (.inr x)
  | _ => none
theorem keyD_V {S : Hp} {y : D} {v : V} {k : Key} (h : keyD y = some k) (r : RI S y v) : v = kV k := by
  cases y with
  | int i => simp only [keyD] at h; cases h; simp only [RI] at r; exact r
  | str x => simp only [keyD] at h; cases h; simp only [RI] at r; exact r
  | _ => cases h
def dcPut (p : List Key × List D) (kv : Key × D) : List Key × List D := (putKs p.1 kv.1, putDs p.1 p.2 kv.1 kv.2)
def dcAll (l : List (Key × D)) : List Key × List D := l.foldl dcPut ([], [])
theorem dcAll_snoc (l : List (Key × D)) (x : Key × D) : dcAll (l ++ [x]) = dcPut (dcAll l) x := by unfold dcAll; rw [List.foldl_append]; rfl
theorem dcPut_len (l : List (Key × D)) : ∀ p : List Key × List D, (l.foldl dcPut p).1.length ≤ p.1.length + l.length := by
  induction l with
  | nil => intro p; exact Nat.le_refl _
  | cons x l ih =>
    intro p
    have h1 := ih (dcPut p x)
    have h2 : (dcPut p x).1.length ≤ p.1.length + 1 := by
      show (putKs p.1 x.1).length ≤ _
      unfold putKs
      split
      · omega
      · simp
    simp only [List.foldl_cons, List.length_cons]
    omega
theorem dcAll_len (l : List (Key × D)) : (dcAll l).1.length ≤ l.length := by
  have := dcPut_len l ([], [])
  simpa [dcAll] using this
def dDc (ti : DI) (h : DG) (tt : DTB) (tk tv : DT) (vs : List Nat) : DTF := fun δ Q => ti δ fun ds δ1 => ds.length ≤ 1000000 ∧ ∃ f : D → Option (Key × D),
  (∀ (i : Nat) (d : D), ds[i]? = some d → h d (wipeD δ1 vs) fun δ2 => tt δ2 fun b δ3 => if b = true then tk δ3 fun y δ4 => tv δ4 fun z _ => ∃ k, keyD y = some k ∧ f d = some (k, z) else f d = none) ∧
  ∀ ks vs, dcAll (ds.filterMap f) = (ks, vs) → ∀ a, Q a (.dK ks vs) δ1
theorem SR.backO {S S6 T H H6 : Hp} {σ : St} {δ : DEnv} {fp : Nat → List Addr} {Dd : Addr} {o o' : HO} (s : SR S T H σ δ fp) (hD : H Dd = some o) (hT : T Dd = none) (hS : S Dd = none) (hf : ∀ i, Dd ∉ fp i)
    (le : Le S S6) (x : Ex S H S6 H6) (s6 : Le S6 H6) : SR S6 T (upd H6 Dd o') σ δ fp ∧ S6 Dd = none := by
  have hd6 : S6 Dd = none := x.fr Dd (by rw [hD]; exact nofun) hS
  refine ⟨⟨fun b o eb => ?_, fun b o eb => ?_, fun b o eb => ?_, s.len, fun i => (s.sl i).keep le fun c hc o ec => ?_, s.dis, fun i c hc => ?_⟩, hd6⟩
  · rw [upd_ne (ne_of_none eb hd6)]; exact s6 b o eb
  · rw [upd_ne (ne_of_none eb hT)]; exact x.le b o (s.t b o eb)
  · exact x.fr b (by rw [s.t b o eb]; exact nofun) (s.st b o eb)
  · rw [upd_ne (fun z => hf i (by rw [← z]; exact hc))]; exact x.le c o ec
  · obtain ⟨o, eo⟩ := s.there hc
    exact ⟨x.fr c (by rw [eo]; exact nofun) (s.own i c hc).1, (s.own i c hc).2⟩
variable {g : TG} {h : DG} {qt : TT} {ut : DTB} {wi : TI} {ti : DI} {vs : List Nat} {qk qv : TE} {uk uv : DT} {ifs : List Expr} {scope : Scope} {own : List (Str × Nat)}
theorem sim_dc (hi : SimI p wi ti) (hg : SimG true g h) (ht : SimT true qt ut) (hk : SimE true qk uk) (he : SimE true qv uv) (gi : GIn vs g) : SimF p (tDc wi g qt qk qv vs) (dDc ti h ut uk uv vs) := by
  intro S T H σ δ fp Q Q' s gg k
  refine hi S T H σ δ fp _ _ s gg fun S1 H1 fp1 J ds δ1 l1 s1 wk u1 q1 => ?_
  obtain ⟨hz, f, hf, hq⟩ := q1
  intro Dd hDd
  have fr := s1.fresh hDd
  refine ⟨fun i m H' => m = ds.length - i ∧ i ≤ ds.length ∧ ∃ S2 acc, Le S1 S2 ∧ Ex S1 H1 S2 H' ∧ SR S2 T H' σ δ1 fp1 ∧ H' Dd = some (.dK ((dcAll ((ds.take i).filterMap f)).1.zip acc)) ∧ S2 Dd = none ∧
      (dcAll ((ds.take i).filterMap f)).1.length = (dcAll ((ds.take i).filterMap f)).2.length ∧ RIs S2 (dcAll ((ds.take i).filterMap f)).2 acc,
    ⟨_, rfl, Nat.zero_le _, S1, [], Le.refl _, ex_updH hDd, s1.new hDd, by rw [upd_same, List.take_zero]; rfl, fr.1, by rw [List.take_zero]; rfl, by rw [List.take_zero]; exact .nil⟩, ?_⟩
  rintro i m H' ⟨rfl, hile, S2, acc, l2, x2, s2, hD2, hS2, hl2, r2⟩
  obtain ⟨w1, w2, w3⟩ := wk S2 T H' σ δ1 fp1 l2 s2 i
  have hkl : (dcAll ((ds.take i).filterMap f)).1.length ≤ i := by
    have h1 := dcAll_len ((ds.take i).filterMap f)
    have h2 : ((ds.take i).filterMap f).length ≤ (ds.take i).length := List.length_filterMap_le ..
    rw [List.length_take] at h2
    omega
  by_cases hlt : i < ds.length
  · refine .inr ⟨w1 hlt, fun H'' => ∃ m', m' < ds.length - i ∧ (m' = ds.length - (i + 1) ∧ i + 1 ≤ ds.length ∧ ∃ S2 acc, Le S1 S2 ∧ Ex S1 H1 S2 H'' ∧ SR S2 T H'' σ δ1 fp1 ∧ H'' Dd = some (.dK ((dcAll ((ds.take (i + 1)).filterMap f)).1.zip acc)) ∧ S2 Dd = none ∧
      (dcAll ((ds.take (i + 1)).filterMap f)).1.length = (dcAll ((ds.take (i + 1)).filterMap f)).2.length ∧ RIs S2 (dcAll ((ds.take (i + 1)).filterMap f)).2 acc), fun H'' z => z, fun x H3 hy => ?_⟩
    have s2T := s2.withT hD2 hS2 fr.2.2
    obtain ⟨_, _, w3'⟩ := wk S2 (upd T Dd _) H' σ δ1 fp1 l2 s2T i
    obtain ⟨S3, d, l3, s3, x3, e3, r3⟩ := w3' x H3 hlt hy
    obtain ⟨fpw, s3w⟩ := s3.wipe vs
    have hft := hf i d e3
    have etake := take_succ_of e3
    have ww : L2.wipe (L2.wipe σ vs) vs = L2.wipe σ vs := wipe_ext (wipe_length σ vs) fun j hj => by rw [wipe_at]; simp [hj]
    refine gi x (L2.wipe σ vs) H3 (fun σ2 H2 => ∃ S4 δ4 fp4, Le S3 S4 ∧ SR S4 (upd T Dd _) H2 σ2 δ4 fp4 ∧ Ex S3 H3 S4 H2 ∧ ut δ4 fun b δ3 => if b = true then uk δ3 fun y δ4 => uv δ4 fun z _ => ∃ k, keyD y = some k ∧ f d = some (k, z) else f d = none) _ (fun σ4 H4 ew z => ?_)
      (hg S3 _ H3 _ _ fpw x d _ _ s3w r3 hft fun S4 H4 σ4 δ4 fp4 l4 s4 x4 q4 => ⟨S4, δ4, fp4, l4, s4, x4 rfl, q4⟩)
    · obtain ⟨S4, δ4, fp4, l4, s4, x4, q4⟩ := z
      refine ⟨ew.trans ww, ?_⟩
      refine ht S4 _ H4 σ4 δ4 fp4 _ _ s4 q4 fun S5 H5 fp5 b δ5 l5 s5 u5 q5 => ?_
      obtain ⟨rfl, x5⟩ := u5.tt
      have x35 : Ex S2 H' S5 H5 := x3.trans (x4.trans x5)
      have l35 : Le S2 S5 := l3.trans (l4.trans l5)
      cases b with
      | true =>
        rw [if_pos rfl] at q5 ⊢
        refine hk S5 _ H5 σ4 δ5 fp5 _ _ s5 q5 fun S6 H6 fp6 yv y δ6 l6 s6 r6 u6 q6 => ?_
        obtain ⟨rfl, x6'⟩ := u6.tt
        refine he S6 _ H6 σ4 _ fp6 _ _ s6 q6 fun S7 H7 fp7 zv z δ7 l7 s7 r7 u7 q7 => ?_
        obtain ⟨kk, hkk, hfd⟩ := q7
        have x7 : Ex S2 H' S7 H7 := x35.trans (x6'.trans u7.tt.2)
        have l27 : Le S2 S7 := l35.trans (l6.trans l7)
        have hD7 : H7 Dd = some (.dK ((dcAll ((ds.take i).filterMap f)).1.zip acc)) := s7.t Dd _ upd_same
        obtain ⟨ys, e1, e2, e3'⟩ := putK_zip (k := kk) hl2 (r2.mono l27) r7
        have esn : dcAll ((ds.take (i + 1)).filterMap f) = dcPut (dcAll ((ds.take i).filterMap f)) (kk, z) := by
          rw [etake, List.filterMap_append]
          have e1 : [d].filterMap f = [(kk, z)] := by simp [hfd]
          rw [e1, dcAll_snoc]
        obtain ⟨b1, b2⟩ := s2.backO (o' := .dK (putK ((dcAll ((ds.take i).filterMap f)).1.zip acc) kk zv)) hD2 fr.2.1 hS2 fr.2.2 l27 x7 s7.s
        refine ⟨_, kk, keyD_V hkk r6, hD7, ?_, _, by omega, rfl, hlt, S7, ys, l2.trans l27, ?_, b1, ?_, b2, ?_, ?_⟩
        · rw [List.length_zip, sizeLine_eq]
          have := Nat.min_le_left (dcAll ((ds.take i).filterMap f)).1.length acc.length
          omega
        · have xx := x2.trans x7
          exact ⟨fun b o eb => by rw [upd_ne (ne_of_none eb hDd)]; exact xx.le b o eb, xx.fr⟩
        · rw [upd_same, e1, esn]; rfl
        · rw [esn]; exact e2
        · rw [esn]; exact e3'
      | false =>
        rw [if_neg Bool.false_ne_true] at q5 ⊢
        have hD5 : H5 Dd = some (.dK ((dcAll ((ds.take i).filterMap f)).1.zip acc)) := s5.t Dd _ upd_same
        obtain ⟨b1, b2⟩ := s2.backO (o' := .dK ((dcAll ((ds.take i).filterMap f)).1.zip acc)) hD2 fr.2.1 hS2 fr.2.2 l35 x35 s5.s
        have eup : upd H5 Dd (.dK ((dcAll ((ds.take i).filterMap f)).1.zip acc)) = H5 := by
          funext b; by_cases hb : b = Dd
          · subst hb; rw [upd_same, hD5]
          · rw [upd_ne hb]
        rw [eup] at b1
        have esn : (ds.take (i + 1)).filterMap f = (ds.take i).filterMap f := by
          rw [etake, List.filterMap_append]
          have e1 : [d].filterMap f = [] := by simp [q5]
          rw [e1, List.append_nil]
        exact ⟨_, by omega, rfl, hlt, S5, acc, l2.trans l35, x2.trans x35, b1, by rw [esn]; exact hD5, b2, by rw [esn]; exact hl2, by rw [esn]; exact r2.mono l35⟩
  · have e : i = ds.length := by omega
    subst e
    refine .inl ⟨w2 (Nat.le_refl _), ?_⟩
    rw [List.take_length] at r2 hl2 hD2
    exact k S2 H' fp1 Dd (.dK (dcAll (ds.filterMap f)).1 (dcAll (ds.filterMap f)).2) δ1 (l1.trans l2) s2 ⟨⟨acc, hD2, hl2, r2, rfl⟩, hS2, fr.2.1, fr.2.2⟩ (u1.grow x2) (fun e => le_none (u1 e).2.le hDd) (hq _ _ rfl Dd)
theorem df_dc (hc : X.calm = true) (hN : X.N.Nodup) (ok : BlkOk X.N X.env.scope scope own) (hi : DIt X tg iter p wi ti)
    (hg : ∀ (s : Shared) (H : Hp) (C : Addr) (cl : List (Str × Addr)) (fp : List Addr), DGt (X.blk s H scope (compEnvC scope cl C X.env) fp) tg true g h) (ht : ∀ (s : Shared) (H : Hp) (C : Addr) (cl : List (Str × Addr)) (fp : List Addr), DTs (X.blk s H scope (compEnvC scope cl C X.env) fp) ifs true qt ut)
    (hk : ∀ (s : Shared) (H : Hp) (C : Addr) (cl : List (Str × Addr)) (fp : List Addr), DE (X.blk s H scope (compEnvC scope cl C X.env) fp) kx true qk uk)
    (he : ∀ (s : Shared) (H : Hp) (C : Addr) (cl : List (Str × Addr)) (fp : List Addr), DE (X.blk s H scope (compEnvC scope cl C X.env) fp) vx true qv uv) (gi : GIn (own.map (·.2)) g) (hs : ∀ x, foldedSetIterable iter X.env x = pure x := by intro _; rfl) :
    DF X (.DictComp kx vx [⟨tg, iter, ifs, 0⟩] scope pos) p (tDc wi g qt qk qv (own.map (·.2))) (dDc ti h ut uk uv (own.map (·.2))) :=
  ⟨pe_dc hc hN hi.pi ok (fun s H C cl fp => (hg s H C cl fp).pg) (fun s H C cl fp => (ht s H C cl fp).pt) (fun s H C cl fp => (hk s H C cl fp).pe) (fun s H C cl fp => (he s H C cl fp).pe) hs,
    sim_dc hi.sim (hg X.s_0 X.H_0 0 [] []).sim (ht X.s_0 X.H_0 0 [] []).sim (hk X.s_0 X.H_0 0 [] []).sim (he X.s_0 X.H_0 0 [] []).sim gi⟩
end
end SW

namespace SW
open PySem PySem.Spec PyProof.Rows L2
/-! ### f(k = v, ..), the keywords in another order than the parameters -/
theorem RIs.pick {S : Hp} {ds : List D} {xs : List V} (h : RIs S ds xs) : ∀ js : List Nat, RIs S (pick js ds) (pick js xs)
  | [] => .nil
  | j :: js => by
    have ih := RIs.pick h js
    unfold SW.pick at ih ⊢
    rw [List.filterMap_cons, List.filterMap_cons]
    cases e : ds[j]? with
    | some d =>
      obtain ⟨x, ex, r⟩ := h.get e
      rw [ex]
      exact .cons r ih
    | none =>
      have : xs[j]? = none := by
        rw [List.getElem?_eq_none_iff] at e ⊢
        rw [← h.len]; exact e
      rw [this]
      exact ih
theorem Vals.pick {xs : List V} {us : List Value} (h : Vals xs us) : ∀ js : List Nat, Vals (SW.pick js xs) (SW.pick js us)
  | [] => .nil
  | j :: js => by
    have ih := Vals.pick h js
    unfold SW.pick at ih ⊢
    rw [List.filterMap_cons, List.filterMap_cons]
    cases e : xs[j]? with
    | some d =>
      obtain ⟨x, ex, r⟩ := h.get e
      rw [ex]
      exact .cons r ih
    | none =>
      have : us[j]? = none := by
        rw [List.getElem?_eq_none_iff] at e ⊢
        rw [← h.length]; exact e
      rw [this]
      exact ih
theorem pick_len {α : Type} (l : List α) : ∀ js : List Nat, (SW.pick js l).length = (SW.pick js (List.range l.length)).length
  | [] => rfl
  | j :: js => by
    have ih := pick_len l js
    unfold SW.pick at ih ⊢
    rw [List.filterMap_cons, List.filterMap_cons]
    by_cases hj : j < l.length
    · rw [List.getElem?_eq_getElem hj, List.getElem?_eq_getElem (by simpa using hj)]
      simp only [List.length_cons, ih]
    · rw [List.getElem?_eq_none (by omega), List.getElem?_eq_none (by simpa using hj)]
      exact ih
section
variable {X : Cx} {CX : CXT} {k n : Nat} {f : Addr} {fd : FuncData} {ps : List Str} {sp : DSp} {E : XK} {x : Str} {pos pos' : Pos} {p : Bool} {wa : TA} {va : DTA} {js : List Nat}
def tCallKP (sp : Sp) (js : List Nat) (n : Nat) (E : XK) (tk : TA) : TE := fun σ H Q => tk σ H fun zs H2 => zs.length = n ∧ sp (pick js zs) H2 Q E
theorem pe_callGKP {kws : List Keyword} {tk : TA} {ks : List Str} {sp : Sp} (F : FnG X.prog X.w X.K X.mg X.base CX k f fd ps sp) (hr : Room k X.A) (gd : X.A.guards = some []) (hg : Gl X x) (hm : X.mg x = some (.ref f)) (hk : PySem.W.keepIn X.K (.ref f) = true)
    (hb : ∀ (s : Shared) (ws : List Value), ws.length = ps.length → BindsTo s fd ⟨[], ks.zip ws⟩ (ps.zip (pick js ws))) (hx : Passes CX X E) (hkw : PK X kws tk) (hn : n = ps.length) (hall : (backToKw pos (keywordEach kws X.env)).all (·.1.isSome) = true := by rfl) (hks : (backToKw pos (keywordEach kws X.env)).filterMap (·.1) = ks := by rfl)
    (hdb : (x == ("__debug__" : Str)) = false := by decide) (hpl : ((backTo pos (starEach [] X.env)).any (·.1) || (backToKw pos (keywordEach kws X.env)).any (·.1.isNone)) = false := by rfl) :
    PE X (.Call (.Name x pos') [] kws pos) (tCallKP sp js n E tk) := by
  refine ⟨fun pins s σ H Q I h => wpAny_Call_Name_kw (ld_glob I hg hm (PySem.W.callWith_KW0 (h₀ := X.base) I.ok.mod.kin hk hall (thn (hkw.run pos pins s σ H _ I h) ?_) hpl) hdb)⟩
  intro ws s1 ⟨zs, H1, I1, r, hl, q⟩
  rw [hks]
  exact ⟨I1.kIn, goesG F hr gd hx I1 (Vals.pick r js) (fun _ => hb s1 ws (by rw [← r.length, hl, hn])) q⟩
def dCallP (sp : DSp) (js : List Nat) (va : DTA) : DT := fun δ Q => va δ fun ds δ1 => sp ((pick js ds).map .i) (fun w _ => resD w fun d => Q d δ1) fun _ _ _ _ => False
theorem de_callKP {kws : List Keyword} {ks : List Str} (js : List Nat) (F : FnG X.prog X.w X.K X.mg X.base CX k f fd ps (lift sp)) (hr : Room k X.A) (gd : X.A.guards = some []) (hg : Gl X x) (hm : X.mg x = some (.ref f)) (hk : PySem.W.keepIn X.K (.ref f) = true)
    (hb : ∀ (s : Shared) (ws : List Value), ws.length = ps.length → BindsTo s fd ⟨[], ks.zip ws⟩ (ps.zip (pick js ws))) (hx : Passes CX X E) (hkw : DK X kws n p wa va) (hn : n = ps.length) (hall : (backToKw pos (keywordEach kws X.env)).all (·.1.isSome) = true := by rfl) (hks : (backToKw pos (keywordEach kws X.env)).filterMap (·.1) = ks := by rfl)
    (hdb : (x == ("__debug__" : Str)) = false := by decide) (hpl : ((backTo pos (starEach [] X.env)).any (·.1) || (backToKw pos (keywordEach kws X.env)).any (·.1.isNone)) = false := by rfl) :
    DE X (.Call (.Name x pos') [] kws pos) p (tCallKP (lift sp) js n E wa) (dCallP sp js va) := by
  refine ⟨pe_callGKP F hr gd hg hm hk hb hx hkw.pk hn hall hks hdb hpl, ?_⟩
  have hA : SimA (pick js (List.range n)).length p (fun σ H Q => wa σ H fun zs H2 => zs.length = n ∧ Q (pick js zs) H2) (fun δ Q => va δ fun ds δ1 => Q (pick js ds) δ1) := by
    intro S T H σ δ fp Q Q' s q k
    refine hkw.sim S T H σ δ fp _ _ s q fun S1 H1 fp1 vs ds δ1 l1 s1 r1 e1 u1 q1 => ?_
    refine ⟨by rw [← r1.len, e1], k S1 H1 fp1 _ _ δ1 l1 s1 (r1.pick js) ?_ u1 q1⟩
    rw [pick_len, e1]
  have h := sim_call (sp := sp) (dvD := []) (dvs := []) (E := E) (fun _ => RIs.nil) hA
  intro S T H σ δ fp Q Q' s q k
  have q' : dCall sp [] (fun δ Q => va δ fun ds δ1 => Q (pick js ds) δ1) δ Q' := by
    unfold dCall
    simp only [List.append_nil]
    exact q
  have := h S T H σ δ fp Q Q' s q' k
  unfold tCall at this
  simp only [List.append_nil] at this
  exact this
end
end SW

namespace SW
open PySem PySem.Spec PyProof.Rows L2
/-! ### walks, rankings, swaps, plainly -/
def AllI (ds : List D) : Prop := ∀ d ∈ ds, ∃ z : Int, d = .int z
theorem val_int {ks : List Key} {ds : List D} {k : Key} {w : Int} (h : AllI ds) : ∃ z : Int, (valD ks ds k).getD (.int w) = .int z := by
  cases e : valD ks ds k with
  | none => exact ⟨w, rfl⟩
  | some d =>
    unfold valD at e
    cases q : (ks.zip ds).find? fun kv => decide (kv.1 = k) with
    | none => rw [q] at e; cases e
    | some p =>
      rw [q] at e
      cases e
      have hm := List.mem_of_find?_eq_some q
      exact h _ (List.of_mem_zip hm).2
theorem AllI.put {ks : List Key} {ds : List D} {k : Key} {z : Int} (h : AllI ds) : AllI (putDs ks ds k (.int z)) := by
  intro d hd
  unfold putDs at hd
  split at hd
  · simp only [List.mem_map] at hd
    obtain ⟨kv, hkv, rfl⟩ := hd
    split
    · exact ⟨z, rfl⟩
    · exact h _ (List.of_mem_zip hkv).2
  · rcases List.mem_append.mp hd with hd | hd
    · exact h d hd
    · simp only [List.mem_singleton] at hd; exact ⟨z, hd⟩
theorem putKs_len {ks : List Key} {k : Key} : (putKs ks k).length ≤ ks.length + 1 := by
  unfold putKs
  split
  · omega
  · simp
theorem put_len {ks : List Key} {ds : List D} {k : Key} {d : D} (h : ks.length = ds.length) : (putKs ks k).length = (putDs ks ds k d).length := by
  unfold putKs putDs
  split
  · simp [h]
  · simp [h]
theorem valD_nil {k : Key} : valD [] [] k = none := rfl
theorem valD_cons {c : Key} {ks : List Key} {d : D} {ds : List D} {k : Key} : valD (c :: ks) (d :: ds) k = if c = k then some d else valD ks ds k := by
  unfold valD
  rw [List.zip_cons_cons, List.find?_cons]
  by_cases e : c = k
  · simp [e]
  · simp [e]
theorem valD_app {k k' : Key} {d : D} : ∀ {ks : List Key} {ds : List D}, ks.length = ds.length → valD (ks ++ [k]) (ds ++ [d]) k' = match valD ks ds k' with
    | some x => some x
    | none => if k = k' then some d else none
  | [], [], _ => by show valD [k] [d] k' = _; rw [valD_cons]; rfl
  | c :: ks, x :: ds, h => by
    rw [List.cons_append, List.cons_append, valD_cons, valD_cons, valD_app (by simpa using h)]
    by_cases e : c = k'
    · simp [e]
    · simp [e]
  | [], _ :: _, h => by simp at h
  | _ :: _, [], h => by simp at h
theorem valD_no {k : Key} : ∀ {ks : List Key} {ds : List D}, ks.any (fun c => decide (c = k)) = false → valD ks ds k = none
  | [], ds, _ => by cases ds <;> rfl
  | c :: ks, [], _ => rfl
  | c :: ks, d :: ds, h => by
    rw [List.any_cons, Bool.or_eq_false_iff] at h
    rw [valD_cons, if_neg (by simpa using h.1)]
    exact valD_no h.2
theorem valD_putM {k k' : Key} {d : D} : ∀ {ks : List Key} {ds : List D}, ks.length = ds.length → ks.any (fun c => decide (c = k)) = true → valD ks ((ks.zip ds).map fun kv => if kv.1 = k then d else kv.2) k' = if k' = k then some d else valD ks ds k'
  | [], [], _, h => by simp at h
  | c :: ks, x :: ds, hl, h => by
    rw [List.zip_cons_cons, List.map_cons, valD_cons, valD_cons]
    by_cases e : c = k'
    · subst e
      by_cases e2 : c = k
      · simp [e2]
      · simp [e2]
    · rw [if_neg e, if_neg e]
      by_cases e2 : c = k
      · subst e2
        have e3 : ¬ k' = c := fun z => e z.symm
        rw [if_neg e3]
        clear h
        have aux : ∀ {ks : List Key} {ds : List D}, ks.length = ds.length → valD ks ((ks.zip ds).map fun kv => if kv.1 = c then d else kv.2) k' = valD ks ds k' := by
          intro ks
          induction ks with
          | nil => intro ds h; cases ds with
            | nil => rfl
            | cons _ _ => simp at h
          | cons a ks ih => intro ds h; cases ds with
            | nil => simp at h
            | cons y ds =>
              rw [List.zip_cons_cons, List.map_cons, valD_cons, valD_cons, ih (by simpa using h)]
              by_cases e4 : a = k'
              · rw [if_pos e4, if_pos e4, if_neg (fun z => e3 (e4.symm.trans z))]
              · rw [if_neg e4, if_neg e4]
        exact aux (by simpa using hl)
      · refine valD_putM (by simpa using hl) ?_
        rw [List.any_cons] at h
        simpa [e2] using h
  | [], _ :: _, h, _ => by simp at h
  | _ :: _, [], h, _ => by simp at h
theorem valD_put {ks : List Key} {ds : List D} {k k' : Key} {d : D} (hl : ks.length = ds.length) : valD (putKs ks k) (putDs ks ds k d) k' = if k' = k then some d else valD ks ds k' := by
  unfold putKs putDs
  cases h : ks.any (fun c => decide (c = k)) with
  | true => simp only [if_true]; exact valD_putM hl h
  | false =>
    simp only [Bool.false_eq_true, if_false]
    rw [valD_app hl]
    by_cases e : k' = k
    · subst e; rw [valD_no h]
    · rw [if_neg e]
      cases q : valD ks ds k' with
      | some x => rfl
      | none => simp only; rw [if_neg (fun z => e z.symm)]
/-- the way of an item in a dict of ways -/
def mvOf (ks : List Key) (ds : List D) (x : Int) : Int := match valD ks ds (.inl x) with
  | some (.int z) => z
  | _ => 0
theorem mvOf_put {ks : List Key} {ds : List D} {x y z : Int} (hl : ks.length = ds.length) : mvOf (putKs ks (.inl x)) (putDs ks ds (.inl x) (.int z)) y = if y = x then z else mvOf ks ds y := by
  unfold mvOf
  rw [valD_put hl]
  by_cases e : y = x
  · subst e; simp
  · rw [if_neg (fun h => e (Sum.inl.inj h)), if_neg e]
/-- a step's two neighbors change places -/
def swp (row : List Int) (j : Nat) : List Int := (row.set j (row.getD (j + 1) 0)).set (j + 1) (row.getD j 0)
theorem swp_len (row : List Int) (j : Nat) : (swp row j).length = row.length := by simp [swp]
theorem swp_perm {row : List Int} {j : Nat} (hj : j + 1 < row.length) : (swp row j).Perm row := by
  have e1 : row.getD (j + 1) 0 = row[j + 1] := by rw [List.getD_eq_getElem?_getD, List.getElem?_eq_getElem hj]; rfl
  have e2 : row.getD j 0 = row[j] := by rw [List.getD_eq_getElem?_getD, List.getElem?_eq_getElem (by omega)]; rfl
  unfold swp
  rw [e1, e2]
  exact List.set_set_perm (by omega) hj
theorem getD_at {row : List Int} {j : Nat} {x : Int} (h : row[j]? = some x) : row.getD j 0 = x := by rw [List.getD_eq_getElem?_getD, h]; rfl
theorem at_getD {row : List Int} {j : Nat} (h : j < row.length) : row[j]? = some (row.getD j 0) := by rw [List.getD_eq_getElem?_getD, List.getElem?_eq_getElem h]; rfl
theorem swp_at {row : List Int} {j : Nat} (hj : j + 1 < row.length) (i : Nat) : (swp row j)[i]? = if i = j then some (row.getD (j + 1) 0) else if i = j + 1 then some (row.getD j 0) else row[i]? := by
  unfold swp
  by_cases e1 : i = j + 1
  · subst e1
    rw [List.getElem?_set_self (by simpa using hj), if_neg (by omega), if_pos rfl]
  · rw [List.getElem?_set_ne (Ne.symm e1)]
    by_cases e2 : i = j
    · subst e2
      rw [List.getElem?_set_self (by omega), if_pos rfl]
    · rw [List.getElem?_set_ne (Ne.symm e2), if_neg e2, if_neg e1]
theorem swp_cut {row : List Int} {j : Nat} (hj : j + 1 < row.length) : row.take j ++ [row.getD (j + 1) 0, row.getD j 0] ++ row.drop (j + 2) = swp row j := by
  apply List.ext_getElem?
  intro i
  rw [swp_at hj]
  by_cases h1 : i < j
  · rw [List.append_assoc, List.getElem?_append_left (by rw [List.length_take]; omega), if_neg (by omega), if_neg (by omega), List.getElem?_take, if_pos h1]
  · rw [List.append_assoc, List.getElem?_append_right (by rw [List.length_take]; omega), List.length_take, Nat.min_eq_left (by omega)]
    by_cases h2 : i = j
    · subst h2; simp
    · by_cases h3 : i = j + 1
      · subst h3
        rw [if_neg (by omega), if_pos rfl]
        have : j + 1 - j = 1 := by omega
        rw [this]; simp
      · rw [if_neg h2, if_neg h3, List.getElem?_append_right (by simp; omega), List.getElem?_drop]
        simp only [List.length_cons, List.length_nil]
        congr 1
        omega
theorem Row.swp {row : List Int} {m j : Nat} (h : Row row m) (hj : j + 1 < m) : Row (swp row j) m := ⟨(swp_perm (by rw [h.len]; exact hj)).trans h.p, h.m0, h.m1⟩
theorem swp_swp {row : List Int} {j : Nat} (hj : j + 1 < row.length) : swp (swp row j) j = row := by
  apply List.ext_getElem?
  intro i
  have hl : j + 1 < (SW.swp row j).length := by rw [swp_len]; exact hj
  have g1 : (SW.swp row j).getD (j + 1) 0 = row.getD j 0 := getD_at (by rw [swp_at hj, if_neg (by omega), if_pos rfl])
  have g2 : (SW.swp row j).getD j 0 = row.getD (j + 1) 0 := getD_at (by rw [swp_at hj, if_pos rfl])
  rw [swp_at hl, g1, g2, swp_at hj]
  by_cases e1 : i = j
  · subst e1; rw [if_pos rfl]; exact (at_getD (by omega)).symm
  · rw [if_neg e1, if_neg e1]
    by_cases e2 : i = j + 1
    · subst e2; rw [if_pos rfl]; exact (at_getD hj).symm
    · rw [if_neg e2, if_neg e2]
/-- a walk in which no item turns back: the row, what each person has held, the items' ways -/
structure Wlk (m : Nat) (row : List Int) (held : List (List Int)) (mv : Int → Int) : Prop where
  p : row.Perm (span m)
  l : held.length = m
  last : ∀ (i : Nat) (x : Int), row[i]? = some x → ∃ pre, held[i]? = some (pre ++ [x])
  nd : ∀ (i : Nat) (h : List Int), held[i]? = some h → h.Nodup
  inn : ∀ (i : Nat) (h : List Int), held[i]? = some h → ∀ x ∈ h, x ∈ row
  pos : ∀ (i : Nat) (h : List Int), held[i]? = some h → ∀ x ∈ h, ∀ q, row[q]? = some x → q = i ∨ (mv x = 1 ∧ i < q) ∨ (mv x = -1 ∧ q < i)
theorem Wlk.start (m : Nat) : Wlk m (span m) ((span m).map fun x => [x]) fun _ => 0 where
  p := List.Perm.refl _
  l := by simp [span_len]
  last := fun i x h => ⟨[], by rw [List.getElem?_map, h]; rfl⟩
  nd := fun i h e => by
    rw [List.getElem?_map] at e
    cases q : (span m)[i]? with
    | none => rw [q] at e; cases e
    | some x => rw [q] at e; cases e; simp
  inn := fun i h e x hx => by
    rw [List.getElem?_map] at e
    cases q : (span m)[i]? with
    | none => rw [q] at e; cases e
    | some y => rw [q] at e; cases e; simp only [List.mem_singleton] at hx; subst hx; exact List.mem_of_getElem? q
  pos := fun i h e x hx q hq => by
    rw [List.getElem?_map] at e
    cases w : (span m)[i]? with
    | none => rw [w] at e; cases e
    | some y =>
      rw [w] at e; cases e; simp only [List.mem_singleton] at hx; subst hx
      obtain ⟨a1, b1⟩ := List.getElem?_eq_some_iff.mp hq
      obtain ⟨a2, b2⟩ := List.getElem?_eq_some_iff.mp w
      exact .inl ((List.getElem_inj (span_nodup m)).mp (b1.trans b2.symm))
theorem Wlk.ext {m : Nat} {row : List Int} {held : List (List Int)} {mv mv' : Int → Int} (h : Wlk m row held mv) (e : ∀ x, mv' x = mv x) : Wlk m row held mv' := by
  have : mv' = mv := funext e
  rw [this]; exact h
theorem Wlk.step {m : Nat} {row : List Int} {held : List (List Int)} {mv mv' : Int → Int} (h : Wlk m row held mv) {j : Nat} {l1 l2 : List Int} (hj : j + 1 < m) (e1 : held[j]? = some l1) (e2 : held[j + 1]? = some l2)
    (ht : mv (row.getD j 0) ≠ -1) (hf : mv (row.getD (j + 1) 0) ≠ 1) (em : ∀ x, mv' x = if x = row.getD (j + 1) 0 then -1 else if x = row.getD j 0 then 1 else mv x) :
    Wlk m (swp row j) ((held.set j (l1 ++ [row.getD (j + 1) 0])).set (j + 1) (l2 ++ [row.getD j 0])) mv' := by
  have hrl : row.length = m := by rw [h.p.length_eq, span_len]
  have hjl : j + 1 < row.length := by omega
  have hnd : row.Nodup := h.p.nodup_iff.mpr (span_nodup m)
  have inj : ∀ {a b : Nat} {x : Int}, row[a]? = some x → row[b]? = some x → a = b := fun {a b x} ea eb => by
    obtain ⟨ha, ea⟩ := List.getElem?_eq_some_iff.mp ea
    obtain ⟨hb, eb⟩ := List.getElem?_eq_some_iff.mp eb
    exact (List.getElem_inj hnd).mp (ea.trans eb.symm)
  have at_t := at_getD (row := row) (j := j) (by omega)
  have at_f := at_getD (row := row) (j := j + 1) hjl
  generalize row.getD j 0 = t at *
  generalize row.getD (j + 1) 0 = f at *
  have tf : t ≠ f := fun z => by subst z; have := inj at_t at_f; omega
  have hsw : ∀ i, (swp row j)[i]? = if i = j then some f else if i = j + 1 then some t else row[i]? := fun i => by
    rw [swp_at hjl, getD_at at_t, getD_at at_f]
  have mem_s : ∀ x, x ∈ row → x ∈ swp row j := fun x hx => (swp_perm hjl).mem_iff.mpr hx
  have hheld : ∀ i, ((held.set j (l1 ++ [f])).set (j + 1) (l2 ++ [t]))[i]? = if i = j + 1 then some (l2 ++ [t]) else if i = j then some (l1 ++ [f]) else held[i]? := fun i => by
    have hl := h.l
    by_cases c1 : i = j + 1
    · subst c1; rw [List.getElem?_set_self (by simp; omega), if_pos rfl]
    · rw [List.getElem?_set_ne (Ne.symm c1), if_neg c1]
      by_cases c2 : i = j
      · subst c2; rw [List.getElem?_set_self (by omega), if_pos rfl]
      · rw [List.getElem?_set_ne (Ne.symm c2), if_neg c2]
  have f1 : f ∉ l1 := fun hm => by
    rcases h.pos j l1 e1 f hm (j + 1) at_f with z | ⟨z, _⟩ | ⟨_, z⟩
    · omega
    · exact hf z
    · omega
  have t2 : t ∉ l2 := fun hm => by
    rcases h.pos (j + 1) l2 e2 t hm j at_t with z | ⟨_, z⟩ | ⟨z, _⟩
    · omega
    · omega
    · exact ht z
  -- an old holder's place is right for the new row
  have posn : ∀ (i : Nat) (hh : List Int), held[i]? = some hh → ∀ x ∈ hh, ∀ q, (swp row j)[q]? = some x → q = i ∨ (mv' x = 1 ∧ i < q) ∨ (mv' x = -1 ∧ q < i) := fun i hh eh x hx q hq => by
    rw [hsw] at hq
    rw [em]
    by_cases c1 : q = j
    · subst c1
      rw [if_pos rfl] at hq
      cases hq
      rw [if_pos rfl]
      rcases h.pos i hh eh f hx (q + 1) at_f with z | ⟨z, _⟩ | ⟨z1, z2⟩
      · exact .inr (.inr ⟨rfl, by omega⟩)
      · exact absurd z hf
      · exact .inr (.inr ⟨rfl, by omega⟩)
    · rw [if_neg c1] at hq
      by_cases c2 : q = j + 1
      · subst c2
        rw [if_pos rfl] at hq
        cases hq
        rw [if_neg tf, if_pos rfl]
        rcases h.pos i hh eh t hx j at_t with z | ⟨z1, z2⟩ | ⟨z, _⟩
        · exact .inr (.inl ⟨rfl, by omega⟩)
        · exact .inr (.inl ⟨rfl, by omega⟩)
        · exact absurd z ht
      · rw [if_neg c2] at hq
        have n1 : x ≠ f := fun z => by subst z; exact c2 (inj hq at_f)
        have n2 : x ≠ t := fun z => by subst z; exact c1 (inj hq at_t)
        rw [if_neg n1, if_neg n2]
        exact h.pos i hh eh x hx q hq
  refine ⟨(swp_perm hjl).trans h.p, by simp [h.l], fun i x hx => ?_, fun i hh e => ?_, fun i hh e x hx => ?_, fun i hh e x hx q hq => ?_⟩
  · rw [hsw] at hx
    rw [hheld]
    by_cases c1 : i = j
    · subst c1
      rw [if_pos rfl] at hx
      cases hx
      exact ⟨l1, by rw [if_neg (by omega), if_pos rfl]⟩
    · rw [if_neg c1] at hx
      by_cases c2 : i = j + 1
      · subst c2
        rw [if_pos rfl] at hx
        cases hx
        exact ⟨l2, by rw [if_pos rfl]⟩
      · rw [if_neg c2] at hx
        rw [if_neg c2, if_neg c1]
        exact h.last i x hx
  · rw [hheld] at e
    by_cases c1 : i = j + 1
    · rw [if_pos c1] at e; cases e
      exact List.nodup_append.mpr ⟨h.nd _ _ e2, by simp, fun a ha b hb => by simp only [List.mem_singleton] at hb; subst hb; intro z; subst z; exact t2 ha⟩
    · rw [if_neg c1] at e
      by_cases c2 : i = j
      · rw [if_pos c2] at e; cases e
        exact List.nodup_append.mpr ⟨h.nd _ _ e1, by simp, fun a ha b hb => by simp only [List.mem_singleton] at hb; subst hb; intro z; subst z; exact f1 ha⟩
      · rw [if_neg c2] at e
        exact h.nd _ _ e
  · rw [hheld] at e
    refine mem_s x ?_
    by_cases c1 : i = j + 1
    · rw [if_pos c1] at e; cases e
      rcases List.mem_append.mp hx with hx | hx
      · exact h.inn _ _ e2 x hx
      · simp only [List.mem_singleton] at hx; subst hx; exact List.mem_of_getElem? at_t
    · rw [if_neg c1] at e
      by_cases c2 : i = j
      · rw [if_pos c2] at e; cases e
        rcases List.mem_append.mp hx with hx | hx
        · exact h.inn _ _ e1 x hx
        · simp only [List.mem_singleton] at hx; subst hx; exact List.mem_of_getElem? at_f
      · rw [if_neg c2] at e
        exact h.inn _ _ e x hx
  · rw [hheld] at e
    by_cases c1 : i = j + 1
    · subst c1
      rw [if_pos rfl] at e; cases e
      rcases List.mem_append.mp hx with hx | hx
      · exact posn _ _ e2 x hx q hq
      · simp only [List.mem_singleton] at hx; subst hx
        rw [hsw] at hq
        by_cases c3 : q = j
        · rw [if_pos c3] at hq; exact absurd (Option.some.inj hq) (Ne.symm tf)
        · rw [if_neg c3] at hq
          by_cases c4 : q = j + 1
          · exact .inl c4
          · rw [if_neg c4] at hq; exact absurd (inj hq at_t) c3
    · rw [if_neg c1] at e
      by_cases c2 : i = j
      · subst c2
        rw [if_pos rfl] at e; cases e
        rcases List.mem_append.mp hx with hx | hx
        · exact posn _ _ e1 x hx q hq
        · simp only [List.mem_singleton] at hx; subst hx
          rw [hsw] at hq
          by_cases c3 : q = i
          · exact .inl c3
          · rw [if_neg c3] at hq
            by_cases c4 : q = i + 1
            · rw [if_pos c4] at hq; exact absurd (Option.some.inj hq) tf
            · rw [if_neg c4] at hq; exact absurd (inj hq at_f) c4
      · rw [if_neg c2] at e
        exact posn _ _ e x hx q hq
theorem Wlk.rowlen {m : Nat} {row : List Int} {held : List (List Int)} {mv : Int → Int} (h : Wlk m row held mv) : row.length = m := by rw [h.p.length_eq, span_len]
theorem nodup_le {α : Type} [DecidableEq α] : ∀ {l l' : List α}, l.Nodup → (∀ x ∈ l, x ∈ l') → l.length ≤ l'.length
  | [], _, _, _ => Nat.zero_le _
  | x :: l, l', h, s => by
    obtain ⟨h1, h2⟩ := List.nodup_cons.mp h
    have hx := s x (by simp)
    have ih := nodup_le (l' := l'.erase x) h2 fun y hy => (List.mem_erase_of_ne (fun z : y = x => h1 (by rw [← z]; exact hy))).mpr (s y (List.mem_cons_of_mem _ hy))
    rw [List.length_erase_of_mem hx] at ih
    have : 0 < l'.length := List.length_pos_of_mem hx
    simp only [List.length_cons]
    omega
theorem Wlk.heldlen {m : Nat} {row : List Int} {held : List (List Int)} {mv : Int → Int} (h : Wlk m row held mv) {i : Nat} {l : List Int} (e : held[i]? = some l) : l.length ≤ m := by
  have := nodup_le (h.nd i l e) fun x hx => h.p.subset (h.inn i l e x hx)
  rw [span_len] at this
  exact this
end SW

namespace SW
open PySem PySem.Spec PyProof.Rows L2
/-! ### rankings and their tables -/
structure Rk (rk : List (List Int)) (m : Nat) : Prop where
  l : rk.length = m
  r : ∀ r ∈ rk, r.Perm (span m)
  m0 : 1 ≤ m
  m1 : m ≤ 40
def rowD (r : List Int) : D := .tup (r.map .int)
def rkD (rk : List (List Int)) : D := .tup (rk.map rowD)
theorem Rk.at {rk : List (List Int)} {m : Nat} (h : Rk rk m) {i : Nat} {r : List Int} (e : rk[i]? = some r) : Row r m := ⟨h.r r (List.mem_of_getElem? e), h.m0, h.m1⟩
theorem Rk.get {rk : List (List Int)} {m : Nat} (h : Rk rk m) {i : Nat} (hi : i < m) : ∃ r, rk[i]? = some r ∧ rk.getD i [] = r := by
  have hl := h.l
  exact ⟨rk[i]'(by omega), List.getElem?_eq_getElem (by omega), by rw [List.getD_eq_getElem?_getD, List.getElem?_eq_getElem (by omega)]; rfl⟩
/-- a ranking's table: the place of each item -/
def tblD (r : List Int) : D := .dK (r.map Sum.inl) ((span r.length).map D.int)
theorem any_inl {x : Int} : ∀ {r : List Int}, x ∉ r → (r.map (Sum.inl : Int → Key)).any (fun c => decide (c = .inl x)) = false
  | [], _ => rfl
  | y :: r, h => by
    rw [List.map_cons, List.any_cons, any_inl (fun z => h (List.mem_cons_of_mem _ z))]
    have : ¬ ((Sum.inl y : Key) = Sum.inl x) := fun z => h (by cases z; simp)
    simp [this]
theorem span_succ (n : Nat) : span (n + 1) = span n ++ [(n : Int)] := by unfold span; rw [List.range_succ, List.map_append]; rfl
theorem dcAll_tbl : ∀ {r : List Int} (n : Nat), r.Nodup → n ≤ r.length → dcAll ((r.take n).zipIdx.map fun p => ((Sum.inl p.1 : Key), D.int (p.2 : Nat))) = ((r.take n).map Sum.inl, (span n).map D.int)
  | r, 0, _, _ => rfl
  | r, n + 1, h, hn => by
    have ih := dcAll_tbl n h (by omega)
    have hx : r[n]? = some r[n] := List.getElem?_eq_getElem (by omega)
    rw [take_succ_of hx, List.zipIdx_append, List.map_append, List.length_take, Nat.min_eq_left (by omega)]
    show dcAll (_ ++ [(Sum.inl r[n], D.int ((0 + n : Nat) : Int))]) = _
    rw [dcAll_snoc, ih, span_succ, List.map_append, List.map_append, Nat.zero_add]
    have hno : ((r.take n).map (Sum.inl : Int → Key)).any (fun c => decide (c = .inl r[n])) = false := any_inl fun hm => by
      obtain ⟨j, hj, ej⟩ := List.getElem_of_mem hm
      rw [List.length_take] at hj
      rw [List.getElem_take] at ej
      have := (List.getElem_inj h).mp ej
      omega
    unfold dcPut putKs putDs
    simp only [hno, Bool.false_eq_true, if_false]
    rfl
theorem valD_tbl {x : Int} : ∀ {r : List Int} (n : Nat), x ∈ r → valD (r.map Sum.inl) ((List.range r.length).map fun (k : Nat) => D.int (n + k : Nat)) (.inl x) = some (.int ((n + r.idxOf x : Nat) : Int))
  | [], _, h => by cases h
  | y :: r, n, h => by
    rw [List.map_cons, List.length_cons, List.range_succ_eq_map, List.map_cons, List.map_map, valD_cons, List.idxOf_cons]
    by_cases e : y = x
    · subst e; simp
    · rw [if_neg (fun z => e (Sum.inl.inj z))]
      have e2 : (y == x) = false := beq_eq_false_iff_ne.mpr e
      rw [e2]
      have hx : x ∈ r := by
        rcases List.mem_cons.mp h with z | z
        · exact absurd z.symm e
        · exact z
      have ih := valD_tbl (n + 1) hx
      have ef : ((fun (k : Nat) => D.int ((n + k : Nat) : Int)) ∘ Nat.succ) = fun (k : Nat) => D.int ((n + 1 + k : Nat) : Int) := by funext k; show D.int _ = D.int _; congr 2; omega
      rw [ef, ih]
      simp only [cond_false]
      congr 3
      omega
theorem tbl_get {r : List Int} {x : Int} (h : x ∈ r) : valD (r.map Sum.inl) ((span r.length).map D.int) (.inl x) = some (.int (r.idxOf x : Nat)) := by
  have := valD_tbl 0 h
  unfold span
  rw [List.map_map]
  have ef : (D.int ∘ fun (k : Nat) => (k : Int)) = fun (k : Nat) => D.int ((0 + k : Nat) : Int) := by funext k; show D.int _ = D.int _; congr 2; omega
  rw [ef, this]
  congr 3
  omega
/-! ### swaps -/
def rkAt (rk : List (List Int)) (i : Nat) (x : Int) : Nat := (rk.getD i []).idxOf x
def mayI (rk : List (List Int)) (row : List Int) (s : Nat) : Bool :=
  decide ((rkAt rk s (row.getD (s + 1) 0) : Int) < rkAt rk s (row.getD s 0)) && decide ((rkAt rk (s + 1) (row.getD s 0) : Int) < rkAt rk (s + 1) (row.getD (s + 1) 0))
def Vld (rk : List (List Int)) : List Int → List Nat → Prop
  | _, [] => True
  | row, s :: ss => s + 1 < row.length ∧ mayI rk row s = true ∧ Vld rk (swp row s) ss
def runI : List Int → List Nat → List Int
  | row, [] => row
  | row, s :: ss => runI (swp row s) ss
def histI : List Int → List Nat → List (List Int)
  | row, [] => [row]
  | row, s :: ss => row :: histI (swp row s) ss
theorem runI_app (row : List Int) (a b : List Nat) : runI row (a ++ b) = runI (runI row a) b := by
  induction a generalizing row with
  | nil => rfl
  | cons s a ih => exact ih (swp row s)
theorem runI_snoc (row : List Int) (a : List Nat) (s : Nat) : runI row (a ++ [s]) = swp (runI row a) s := runI_app row a [s]
theorem runI_len (row : List Int) (a : List Nat) : (runI row a).length = row.length := by
  induction a generalizing row with
  | nil => rfl
  | cons s a ih => rw [runI, ih, swp_len]
theorem Vld.app {rk : List (List Int)} {row : List Int} {a b : List Nat} : Vld rk row (a ++ b) ↔ Vld rk row a ∧ Vld rk (runI row a) b := by
  induction a generalizing row with
  | nil => exact ⟨fun h => ⟨trivial, h⟩, fun h => h.2⟩
  | cons s a ih =>
    show (_ ∧ _ ∧ Vld rk (swp row s) (a ++ b)) ↔ (_ ∧ _ ∧ Vld rk (swp row s) a) ∧ _
    rw [ih]
    exact ⟨fun ⟨x, y, z, w⟩ => ⟨⟨x, y, z⟩, w⟩, fun ⟨⟨x, y, z⟩, w⟩ => ⟨x, y, z, w⟩⟩
theorem Vld.snoc {rk : List (List Int)} {row : List Int} {a : List Nat} {s : Nat} (h : Vld rk row a) (hs : s + 1 < row.length) (hm : mayI rk (runI row a) s = true) : Vld rk row (a ++ [s]) :=
  Vld.app.mpr ⟨h, by rw [runI_len]; exact hs, hm, trivial⟩
theorem Vld.row {rk : List (List Int)} {row : List Int} {m : Nat} {a : List Nat} (h : Vld rk row a) (hr : Row row m) : Row (runI row a) m := by
  induction a generalizing row with
  | nil => exact hr
  | cons s a ih => obtain ⟨h1, _, h3⟩ := h; exact ih h3 (hr.swp (by rw [← hr.len]; exact h1))
theorem histI_snoc (row : List Int) (a : List Nat) (s : Nat) : histI row (a ++ [s]) = histI row a ++ [runI row (a ++ [s])] := by
  induction a generalizing row with
  | nil => rfl
  | cons t a ih => show row :: histI (swp row t) (a ++ [s]) = _; rw [ih]; rfl
theorem histI_len (row : List Int) (a : List Nat) : (histI row a).length = a.length + 1 := by
  induction a generalizing row with
  | nil => rfl
  | cons t a ih => show (histI (swp row t) a).length + 1 = _; rw [ih]; rfl
theorem histI_at (row : List Int) (a : List Nat) (i : Nat) (h : i ≤ a.length) : (histI row a)[i]? = some (runI row (a.take i)) := by
  induction a generalizing row i with
  | nil => have : i = 0 := by simpa using h
           subst this; rfl
  | cons t a ih =>
    cases i with
    | zero => rfl
    | succ i =>
      show (histI (swp row t) a)[i]? = _
      rw [ih (swp row t) i (by simpa using h)]
      rfl
theorem histI_take (row : List Int) (a : List Nat) (i : Nat) (h : i ≤ a.length) : (histI row a).take (i + 1) = histI row (a.take i) := by
  induction a generalizing row i with
  | nil => have : i = 0 := by simpa using h
           subst this; rfl
  | cons t a ih =>
    cases i with
    | zero => rfl
    | succ i =>
      show row :: (histI (swp row t) a).take (i + 1) = row :: histI (swp row t) (a.take i)
      rw [ih (swp row t) i (by simpa using h)]
theorem histI_rows {rk : List (List Int)} {row : List Int} {m : Nat} {a : List Nat} (h : Vld rk row a) (hr : Row row m) : ∀ r ∈ histI row a, Row r m := by
  induction a generalizing row with
  | nil => intro r hm; simp only [histI, List.mem_singleton] at hm; subst hm; exact hr
  | cons s a ih =>
    intro r hm
    obtain ⟨h1, _, h3⟩ := h
    rcases List.mem_cons.mp hm with rfl | hm
    · exact hr
    · exact ih h3 (hr.swp (by rw [← hr.len]; exact h1)) r hm
theorem histI_last (row : List Int) (a : List Nat) : ∃ pre, histI row a = pre ++ [runI row a] := by
  induction a generalizing row with
  | nil => exact ⟨[], rfl⟩
  | cons s a ih => obtain ⟨p, e⟩ := ih (swp row s); exact ⟨row :: p, by show row :: histI _ a = _; rw [e]; rfl⟩
/-! ### slices -/
theorem cutL_from {α : Type} {xs : List α} {i : Nat} (h : i ≤ xs.length) : cutL xs (some (i : Int)) none = xs.drop i := by
  unfold cutL
  rw [HT.sIx_nat, HT.sIx_none, Nat.min_eq_left h, List.take_of_length_le (by rw [List.length_drop]; omega)]
theorem cutL_mid {α : Type} {xs : List α} {i j : Nat} (hij : i ≤ j) (h : j ≤ xs.length) : cutL xs (some (i : Int)) (some (j : Int)) = (xs.drop i).take (j - i) := by
  unfold cutL
  rw [HT.sIx_nat, HT.sIx_nat, Nat.min_eq_left h, Nat.min_eq_left (by omega)]
theorem cutL_to' {α : Type} {xs : List α} {i : Nat} : cutL xs none (some (i : Int)) = xs.take i := by
  unfold cutL
  rw [HT.sIx_nat, HT.sIx_none, List.drop_zero, Nat.sub_zero]
  by_cases h : i ≤ xs.length
  · rw [Nat.min_eq_left h]
  · rw [Nat.min_eq_right (by omega), List.take_of_length_le (Nat.le_refl _), List.take_of_length_le (by omega)]
theorem after_D {row : List Int} {j : Nat} (hj : j + 1 < row.length) : (row.map D.int).take j ++ [D.int (row.getD (j + 1) 0), D.int (row.getD j 0)] ++ (row.map D.int).drop (j + 2) = (swp row j).map D.int := by
  rw [← swp_cut hj, List.map_append, List.map_append, List.map_take, List.map_drop]; rfl
/-! ### what a person holds, and the rest -/
theorem filter_perm {l : List Int} {m : Nat} (hn : l.Nodup) (hi : ∀ x ∈ l, x ∈ span m) : ((span m).filter (fun x => decide (x ∉ l)) ++ l).Perm (span m) := by
  refine (List.perm_ext_iff_of_nodup ?_ (span_nodup m)).mpr fun x => ?_
  · refine List.nodup_append.mpr ⟨(span_nodup m).filter _, hn, fun a ha b hb z => ?_⟩
    subst z
    simp only [List.mem_filter, decide_eq_true_eq] at ha
    exact ha.2 hb
  · simp only [List.mem_append, List.mem_filter, decide_eq_true_eq]
    constructor
    · rintro (h | h)
      · exact h.1
      · exact hi x h
    · intro h
      by_cases e : x ∈ l
      · exact .inr e
      · exact .inl ⟨h, e⟩
theorem cut_perm {a b : List Int} {c : Nat} : (a.drop c ++ b ++ a.take c).Perm (a ++ b) := by
  have h1 : (a.drop c ++ b ++ a.take c).Perm (a.take c ++ (a.drop c ++ b)) := List.perm_append_comm
  rw [← List.append_assoc, List.take_append_drop] at h1
  exact h1
/-! ### shown sizes -/
theorem Row.okD {r : List Int} {m : Nat} (h : Row r m) : Ok (rowD r) 30000 ∧ dep (rowD r) ≤ 1 := by
  refine ⟨ok_ints (fun x hx => ?_) (by rw [h.len]; have := h.m1; omega), ?_⟩
  · have := h.mem.mp hx
    have := h.m1
    omega
  · rw [show rowD r = .tup (r.map .int) from rfl, (num_ti r).2]; exact Nat.le_refl _
theorem Row.nodD {r : List Int} {m : Nat} (h : Row r m) : nod (rowD r) ≤ 1000 := by
  obtain ⟨a, b, c⟩ := smls_each (ds := r.map D.int) (B := 20) (C := 0) fun d hd => by
    simp only [List.mem_map] at hd
    obtain ⟨x, hx, rfl⟩ := hd
    have := h.mem.mp hx
    have := h.m1
    exact ⟨by simp only [sml, decide_eq_true_eq]; omega, Nat.le_refl _, Nat.le_refl _⟩
  rw [List.length_map, h.len] at b
  have := h.m1
  show nods (r.map D.int) ≤ 1000
  omega
theorem ok_rows {rs : List (List Int)} {m : Nat} (h : ∀ r ∈ rs, Row r m) (hl : rs.length ≤ 900) : reprOk (.lst (rs.map rowD)) = true ∧ reprOk (.tup (rs.map rowD)) = true := by
  obtain ⟨a, b, c⟩ := smls_each (ds := rs.map rowD) (B := 1000) (C := 1) fun d hd => by
    simp only [List.mem_map] at hd
    obtain ⟨r, hr, rfl⟩ := hd
    exact ⟨(h r hr).okD.1.s, (h r hr).nodD, (h r hr).okD.2⟩
  rw [List.length_map] at b
  exact ⟨reprOk_of (by simpa only [sml] using a) (by simp only [dep]; omega) (by simp only [nod]; omega), reprOk_of (by simpa only [sml] using a) (by simp only [dep]; omega) (by simp only [nod]; omega)⟩
end SW

namespace SW
open PySem PySem.Spec PyProof.Rows L2
/-! ### a, b, .. = e1, e2, ..: each part data, or a new object that becomes the slot's own -/
section
variable {X : Cx} {pos : Pos}
def tParG (gs : TGs) (n : Nat) (ta : TA) : TS := fun D σ H => ta σ H fun vs H1 => vs.length = n ∧ gs vs σ H1 D.nx
theorem ps_parT {tgs es : List Expr} {kt k2 : _} {pt pt2 : Pos} {gs : TGs} {ta : TA} {n : Nat} (hc : X.calm = true) (ha : PA X es ta) (hg : PGs X tgs gs) (hn : (assignEach tgs X.env).length = n) (hz : n ≤ 1000) (hst : (assignEach tgs X.env).findIdx? (·.1) = none)
    (hs : swapsWithSole [.Tuple tgs kt pt] (.Tuple es k2 pt2) pos.line X.env = pure false) (hw : swappedStores [.Tuple tgs kt pt] (.Tuple es k2 pt2) X.env = pure none)
    (h1 : (assignEach [.Tuple tgs kt pt] X.env).map (·.2) = [assign (.Tuple tgs kt pt) X.env]) : PS X (.Assign [.Tuple tgs kt pt] (.Tuple es k2 pt2) pos) (tParG gs n ta) := by
  refine ⟨fun pins s σ H D I h => ?_⟩
  refine wpAny_Assign_stores (Tuple_ (thn (ha.run _ pins s σ H _ I h) fun us s1 ⟨vs, H1, I1, r1, hl, q1⟩ => ?_)) hs hw
  have hlen : us.length = n := by rw [← r1.length]; exact hl
  refine wpAny_newObj_type ?_ (by show us.toArray.size ≤ sizeLine; rw [List.size_toArray, hlen]; exact small hz)
  have I2 : Inv X pins σ H1 { s1 with heap := s1.heap.push { cls := .type "tuple", data := .seq us.toArray } } := I1.kept (t' := s1.toks) fun b o e => Heap.get?_push_of_some _ e
  rw [h1]
  refine assign_Tuple_tuple (items := us.toArray) (I.ok.hd hc) (IsTup.new s1.heap _) (by rw [List.size_toArray, hlen, hn]) hst fun h' hx => ?_
  have I3 := I2.kept (h' := h') (t' := s1.toks) fun b o e => hx b o (Nat.ne_of_lt (Heap.lt_size e)) e
  exact thn (hg.run pins _ σ H1 vs _ D.nx I3 (by simpa using r1) q1) fun _ s2 q => q
end
/-- a slot's value and the objects that are its own -/
def SlR (S H : Hp) : Sl → V → List Addr → Prop
  | .i d, v, l => RI S d v ∧ l = []
  | .o a w, v, l => v = .ref a ∧ OI S H w a l
theorem SlR.keep {S S' H H' : Hp} {w : Sl} {v : V} {l : List Addr} (h : SlR S H w v l) (le : Le S S') (k : ∀ b ∈ l, ∀ o, H b = some o → H' b = some o) : SlR S' H' w v l := by
  cases w with
  | i d => exact ⟨h.1.mono le, h.2⟩
  | o a w => exact ⟨h.1, h.2.keep le k⟩
theorem SlR.there {S H : Hp} {w : Sl} {v : V} {l : List Addr} (h : SlR S H w v l) : ∀ b ∈ l, ∃ o, H b = some o := by
  cases w with
  | i d => obtain ⟨_, rfl⟩ := h; intro b hb; cases hb
  | o a w => exact h.2.there
theorem SR.putS {S T H : Hp} {σ : St} {δ : DEnv} {fp : Nat → List Addr} (h : SR S T H σ δ fp) (i : Nat) {v : V} {w : Sl} {l : List Addr} (r : SlR S H w v l) (hd : ∀ a ∈ l, (∀ j, a ∉ fp j) ∧ S a = none ∧ T a = none) :
    ∃ fp', SR S T H (σ.set i (some v)) (δ.set i (some w)) fp' ∧ ∀ b j, b ∈ fp' j → b ∈ fp j ∨ b ∈ l := by
  by_cases hi : i < σ.length
  · refine ⟨_, h.put hi (v := some v) (w := some w) (l := l) ?_ (fun a ha j _ => (hd a ha).1 j) (fun a ha => (hd a ha).2), fun b j hb => ?_⟩
    · cases w with
      | i d => exact ⟨⟨v, rfl, r.1⟩, r.2⟩
      | o a w => obtain ⟨rfl, r⟩ := r; exact ⟨rfl, r⟩
    · by_cases hj : j = i
      · rw [hj, fset_same] at hb; exact .inr hb
      · rw [fset_ne hj] at hb; exact .inl hb
  · exact ⟨_, h.out hi, fun b j hb => .inl hb⟩
abbrev DTL := DEnv → (Sl → DEnv → Prop) → Prop
abbrev DTLs := DEnv → (List Sl → DEnv → Prop) → Prop
def SimL (r : TE) (t : DTL) : Prop := ∀ (S T H : Hp) (σ : St) (δ : DEnv) (fp : Nat → List Addr) (Q : VK) (Q' : Sl → DEnv → Prop), SR S T H σ δ fp → t δ Q' →
  (∀ (S' H' : Hp) (fp' : Nat → List Addr) (v : V) (w : Sl) (l : List Addr) (δ' : DEnv), Le S S' → SR S' T H' σ δ' fp' → SlR S' H' w v l → (∀ b ∈ l, S' b = none ∧ T b = none ∧ ∀ j, b ∉ fp' j) → Q' w δ' → Q v H') → r σ H Q
structure DL (X : Cx) (e : Expr) (r : TE) (t : DTL) : Prop where
  pe : PE X e r
  sim : SimL r t
/-- several of them, one behind the other -/
inductive SlsR (S T H : Hp) (fp : Nat → List Addr) : List Sl → List V → List Addr → Prop
  | nil : SlsR S T H fp [] [] []
  | cons {w ws v vs l ls} (h : SlR S H w v l) (f : ∀ b ∈ l, S b = none ∧ T b = none ∧ ∀ j, b ∉ fp j) (d : ∀ b ∈ l, b ∉ ls) (t : SlsR S T H fp ws vs ls) : SlsR S T H fp (w :: ws) (v :: vs) (l ++ ls)
theorem SlsR.len {S T H : Hp} {fp : Nat → List Addr} {ws : List Sl} {vs : List V} {ls : List Addr} (h : SlsR S T H fp ws vs ls) : ws.length = vs.length := by
  induction h with
  | nil => rfl
  | cons _ _ _ _ ih => simp [ih]
def SimLs (n : Nat) (r : TA) (t : DTLs) : Prop := ∀ (S T H : Hp) (σ : St) (δ : DEnv) (fp : Nat → List Addr) (Q : List V → Hp → Prop) (Q' : List Sl → DEnv → Prop), SR S T H σ δ fp → t δ Q' →
  (∀ (S' H' : Hp) (fp' : Nat → List Addr) (vs : List V) (ws : List Sl) (ls : List Addr) (δ' : DEnv), Le S S' → SR S' T H' σ δ' fp' → SlsR S' T H' fp' ws vs ls → ws.length = n → Q' ws δ' → Q vs H') → r σ H Q
structure DLs (X : Cx) (es : List Expr) (n : Nat) (r : TA) (t : DTLs) : Prop where
  pa : PA X es r
  sim : SimLs n r t
section
variable {X : Cx} {e : Expr} {es : List Expr} {p : Bool} {q : TE} {wa : TA} {n : Nat} {t : DT} {f : DTF} {pos : Pos}
def dlD (t : DT) : DTL := fun δ Q => t δ fun d δ1 => Q (.i d) δ1
def dlF (f : DTF) : DTL := fun δ Q => f δ fun a w δ1 => Q (.o a w) δ1
theorem DE.dl (h : DE X e p q t) : DL X e q (dlD t) := ⟨h.pe, fun S T H σ δ fp Q Q' s g k => h.sim S T H σ δ fp _ _ s g fun S1 H1 fp1 v d δ1 l1 s1 r1 _ q1 => k S1 H1 fp1 v (.i d) [] δ1 l1 s1 ⟨r1, rfl⟩ (fun b hb => nomatch hb) q1⟩
theorem DFl.dl (h : DFl X e q f) : DL X e q (dlF f) := ⟨h.pe, fun S T H σ δ fp Q Q' s g k => h.sim S T H σ δ fp _ _ s g fun S1 H1 fp1 a w l δ1 l1 s1 f1 q1 => k S1 H1 fp1 (.ref a) (.o a w) l δ1 l1 s1 ⟨rfl, f1.oi⟩ f1.al q1⟩
def dlNil : DTLs := fun δ Q => Q [] δ
def dlCons (t : DTL) (u : DTLs) : DTLs := fun δ Q => t δ fun w δ1 => u δ1 fun ws δ2 => Q (w :: ws) δ2
theorem dls_nil : DLs X [] 0 tNil dlNil := ⟨pa_nil, fun S T H σ δ fp Q Q' s g k => k S H fp [] [] [] δ (Le.refl _) s .nil rfl g⟩
theorem dls_cons {t : DTL} {u : DTLs} (ha : DL X e q t) (hr : DLs X es n wa u) (hs : starEach (e :: es) X.env = (false, eval e X.env) :: starEach es X.env := by rfl) : DLs X (e :: es) (n + 1) (tCons q wa) (dlCons t u) := by
  refine ⟨pa_cons ha.pe hr.pa hs, ?_⟩
  intro S T H σ δ fp Q Q' s g k
  refine ha.sim S T H σ δ fp _ _ s g fun S1 H1 fp1 v w l δ1 le1 s1 r1 f1 q1 => ?_
  have t1 := s1.withTs (l := l) fun b hb => ⟨(f1 b hb).1, (f1 b hb).2.2⟩
  have x1 : Le T (ext T H1 l) := le_ext fun b hb => (f1 b hb).2.1
  refine hr.sim S1 _ H1 σ δ1 fp1 _ _ t1 q1 fun S2 H2 fp2 vs ws ls δ2 le2 s2 r2 e2 q2 => ?_
  have up : ∀ b ∈ l, ∀ o, H1 b = some o → ext T H1 l b = some o := fun b hb o eo => by rw [ext_in hb]; exact eo
  have hl : SlR S2 H2 w v l := r1.keep le2 fun b hb o eo => s2.t b o (up b hb o eo)
  have back : ∀ {ws vs ls}, SlsR S2 (ext T H1 l) H2 fp2 ws vs ls → SlsR S2 T H2 fp2 ws vs ls := fun z => by
    induction z with
    | nil => exact .nil
    | cons h f d _ ih => exact .cons h (fun b hb => ⟨(f b hb).1, le_none x1 (f b hb).2.1, (f b hb).2.2⟩) d ih
  have off : ∀ {ws vs ls}, SlsR S2 (ext T H1 l) H2 fp2 ws vs ls → ∀ b ∈ l, b ∉ ls := fun z => by
    induction z with
    | nil => intro b _ hb; cases hb
    | cons h f d _ ih =>
      intro b hb hm
      rcases List.mem_append.mp hm with hm | hm
      · obtain ⟨o, eo⟩ := r1.there b hb
        have := (f b hm).2.1
        rw [up b hb o eo] at this; cases this
      · exact ih b hb hm
  refine k S2 H2 fp2 (v :: vs) (w :: ws) (l ++ ls) δ2 (le1.trans le2) (s2.lessT x1) (.cons hl (fun b hb => ?_) (off r2) (back r2)) (by simp [e2]) q2
  obtain ⟨o, eo⟩ := r1.there b hb
  have ht := up b hb o eo
  exact ⟨s2.st b o ht, (f1 b hb).2.1, fun j hj => by rw [(s2.own j b hj).2] at ht; cases ht⟩
def putAll : List Nat → List Sl → DEnv → DEnv
  | i :: is, w :: ws, δ => putAll is ws (δ.set i (some w))
  | _, _, δ => δ
def namesG : List Nat → TGs
  | [] => gNil
  | i :: is => gCons (gName i) (namesG is)
def dParN (is : List Nat) (t : DTLs) : DS := fun R δ => t δ fun ws δ1 => R.nx (putAll is ws δ1)
theorem put_all {S T H : Hp} : ∀ {is : List Nat} {ws : List Sl} {vs : List V} {ls : List Addr} {σ : St} {δ : DEnv} {fp : Nat → List Addr} {Q : St → Hp → Prop}, is.length = ws.length → SlsR S T H fp ws vs ls → SR S T H σ δ fp →
    (∀ σ' fp', SR S T H σ' (putAll is ws δ) fp' → Q σ' H) → namesG is vs σ H Q
  | [], [], vs, ls, σ, δ, fp, Q, _, h, s, k => by cases h; exact ⟨rfl, k σ fp s⟩
  | i :: is, [], _, _, _, _, _, _, e, _, _, _ => by simp at e
  | [], w :: ws, _, _, _, _, _, _, e, _, _, _ => by simp at e
  | i :: is, w :: ws, _, _, σ, δ, fp, Q, e, h, s, k => by
    cases h with
    | @cons _ _ v vs l ls h f d t =>
      obtain ⟨fp1, s1, i1⟩ := s.putS i h fun a ha => ⟨(f a ha).2.2, (f a ha).1, (f a ha).2.1⟩
      have t' : ∀ {ws vs ls'}, SlsR S T H fp ws vs ls' → (∀ b ∈ l, b ∉ ls') → SlsR S T H fp1 ws vs ls' := fun z => by
        induction z with
        | nil => intro _; exact .nil
        | @cons w' ws' v' vs' l' ls'' h' f' d' _ ih =>
          intro hd
          refine .cons h' (fun b hb => ⟨(f' b hb).1, (f' b hb).2.1, fun j hj => ?_⟩) d' (ih fun b hb hm => hd b hb (List.mem_append_right _ hm))
          rcases i1 b j hj with z | z
          · exact (f' b hb).2.2 j z
          · exact hd b z (List.mem_append_left _ hb)
      exact ⟨v, vs, rfl, put_all (by simpa using e) (t' t d) s1 k⟩
theorem sim_parN (is : List Nat) {t : DTLs} (hl : is.length = n) (h : SimLs n wa t) : SimS (tParG (namesG is) n wa) (dParN is t) := by
  intro S T H σ δ fp D D' s gg k
  refine h S T H σ δ fp _ _ s gg fun S1 H1 fp1 vs ws ls δ1 le1 s1 r1 e1 q1 => ?_
  refine ⟨by rw [← r1.len, e1], put_all (by rw [hl, e1]) r1 s1 fun σ' fp' s2 => k.nx S1 H1 σ' _ fp' le1 s2 q1⟩
/-- the targets are plain names -/
structure Nms (X : Cx) (tgs : List Expr) (is : List Nat) : Prop where
  pg : PGs X tgs (namesG is)
theorem nms_nil : Nms X [] [] := ⟨pgs_nil⟩
theorem nms_cons {tgs : List Expr} {x : Str} {px : Pos} {is : List Nat} (i : Nat) (hN : X.N.Nodup) (h : Nms X tgs is) (hi : X.N[i]? = some x := by rfl) (hx : Loc X.env.scope x := by first | exact Or.inl rfl | exact Or.inr rfl)
    (hf : X.fn x = true ∨ X.env.scope.names.lookup x = some .local := by first | exact .inl rfl | exact .inr rfl | assumption)
    (ht : (assignEach (.Name x px :: tgs) X.env).map (·.2) = assign (.Name x px) X.env :: (assignEach tgs X.env).map (·.2) := by rfl) : Nms X (.Name x px :: tgs) (i :: is) := ⟨pgs_cons (pg_name hN hi hx hf) h.pg ht⟩
theorem ds_parN {tgs : List Expr} {kt k2 : _} {pt pt2 : Pos} {is : List Nat} {t : DTLs} (hc : X.calm = true) (hm : Nms X tgs is) (ha : DLs X es n wa t) (hl : is.length = n) (hz : n ≤ 1000) (hn : (assignEach tgs X.env).length = n) (hst : (assignEach tgs X.env).findIdx? (·.1) = none)
    (hs : swapsWithSole [.Tuple tgs kt pt] (.Tuple es k2 pt2) pos.line X.env = pure false) (hw : swappedStores [.Tuple tgs kt pt] (.Tuple es k2 pt2) X.env = pure none)
    (h1 : (assignEach [.Tuple tgs kt pt] X.env).map (·.2) = [assign (.Tuple tgs kt pt) X.env]) : DSt X (.Assign [.Tuple tgs kt pt] (.Tuple es k2 pt2) pos) (tParG (namesG is) n wa) (dParN is t) :=
  ⟨ps_parT hc ha.pa hm.pg hn hz hst hs hw h1, sim_parN is hl ha.sim⟩
/-! three plain local names, stored from the right -/
theorem sim_parS3 (i j m : Nat) {t : DTLs} (h : SimLs 3 wa t) : SimS (tPar3 i j m wa) (dParN [i, j, m] t) := by
  intro S T H σ δ fp D D' s gg k
  refine h S T H σ δ fp _ _ s gg fun S1 H1 fp1 vs ws ls δ1 le1 s1 r1 e1 q1 => ?_
  have hl : vs.length = 3 := by rw [← r1.len, e1]
  match vs, hl with
  | [u, v, w], _ =>
    have := put_all (is := [i, j, m]) (Q := fun σ' H' => D.nx σ' H') (by rw [e1]; rfl) r1 s1 fun σ' fp' s2 => k.nx S1 H1 σ' _ fp' le1 s2 q1
    obtain ⟨_, _, e2, _, _, e3, _, _, e4, e5, z⟩ := this
    cases e2; cases e3; cases e4
    exact ⟨u, v, w, rfl, z⟩
theorem ds_parS3 {i j m : Nat} {x y z : Str} {a b c : Expr} {px py pz pt : Pos} {kt k2 pt2} {t : DTLs} (hc : X.calm = true) (hN : X.N.Nodup) (hi : X.N[i]? = some x) (hj : X.N[j]? = some y) (hl : X.N[m]? = some z) (hij : i ≠ j) (hil : i ≠ m) (hjl : j ≠ m)
    (hx : X.env.scope.names.lookup x = some .local) (hy : X.env.scope.names.lookup y = some .local) (hz : X.env.scope.names.lookup z = some .local)
    (hw : swappedStores [.Tuple [.Name x px, .Name y py, .Name z pz] kt pt] (.Tuple [a, b, c] k2 pt2) X.env = pure (some [x, y, z]))
    (hs : swapsWithSole [.Tuple [.Name x px, .Name y py, .Name z pz] kt pt] (.Tuple [a, b, c] k2 pt2) pos.line X.env = pure false)
    (ha : DLs X [a, b, c] 3 wa t) : DSt X (.Assign [.Tuple [.Name x px, .Name y py, .Name z pz] kt pt] (.Tuple [a, b, c] k2 pt2) pos) (tPar3 i j m wa) (dParN [i, j, m] t) :=
  ⟨ps_par3 hc hN hi hj hl hij hil hjl hx hy hz ha.pa hw hs, sim_parS3 i j m ha.sim⟩
end
/-! ### walks within a comprehension -/
section
variable {X : Cx} {K : PySem.W.Frag} {tg e : Expr} {pos : Pos} {p : Bool} {q : TE} {u : DT}
theorem di_enumK {p' tpos : Pos} {elts : List Expr} {kk : Nat} (hK : X.K = K) (hg : Gl X "enumerate") (hm : X.mg "enumerate" = none) (h : DE X e p q u) (hs : starEach [e] X.env = (false, eval e X.env) :: starEach [] X.env := by rfl) :
    DIt X (.Tuple elts kk tpos) (.Call (.Name "enumerate" p') [e] [] pos) p (iEnumA K q) (iEn K u) := by subst hK; exact di_enum hg hm h hs
theorem di_seqK (hK : X.K = K) (h : DE X e p q u) : DIt X tg e p (iSeq K q) (iSq K u) := by subst hK; exact di_seq h
end
/-! ### min, max of two whole numbers -/
def minI (i j : Int) : Int := if j < i then j else i
def maxI (i j : Int) : Int := if j > i then j else i
section
variable {X : Cx} {a b : Expr} {pos p' : Pos} {p1 p2 : Bool} {ra rb : TE} {ta tb : DT}
theorem de_min2 (hc : X.calm = true) (hg : Gl X "min") (hm : X.mg "min" = none) (ha : DE X a p1 ra ta) (hb : DE X b p2 rb tb)
    (na : starEach [a, b] X.env = (false, eval a X.env) :: starEach [b] X.env := by rfl) (nb : starEach [b] X.env = (false, eval b X.env) :: starEach [] X.env := by rfl)
    (hpl : (backTo pos (starEach [b] X.env)).any (·.1) = false := by rfl) : DE X (.Call (.Name "min" p') [a, b] [] pos) (p1 && p2) (tCB (fun xs H Q => ∃ i j, xs = [.int i, .int j] ∧ Q (.int (minI i j)) H) (tCons ra (tCons rb tNil))) (d2 minI ta tb) :=
  de_B2 (g := minI) (call_min2 hc) hg hm (by decide +kernel) ha hb (by decide) (by decide) na nb hpl
theorem de_min2p (hc : X.calm = true) (hg : Gl X "min") (hm : X.mg "min" = none) (ha : DE X a true ra ta) (hb : DE X b true rb tb)
    (na : starEach [a, b] X.env = (false, eval a X.env) :: starEach [b] X.env := by rfl) (nb : starEach [b] X.env = (false, eval b X.env) :: starEach [] X.env := by rfl)
    (hpl : (backTo pos (starEach [b] X.env)).any (·.1) = false := by rfl) : DE X (.Call (.Name "min" p') [a, b] [] pos) true (tCB (fun xs H Q => ∃ i j, xs = [.int i, .int j] ∧ Q (.int (minI i j)) H) (tCons ra (tCons rb tNil))) (d2 minI ta tb) :=
  de_min2 hc hg hm ha hb na nb hpl
theorem de_max2 (hc : X.calm = true) (hg : Gl X "max") (hm : X.mg "max" = none) (ha : DE X a p1 ra ta) (hb : DE X b p2 rb tb)
    (na : starEach [a, b] X.env = (false, eval a X.env) :: starEach [b] X.env := by rfl) (nb : starEach [b] X.env = (false, eval b X.env) :: starEach [] X.env := by rfl)
    (hpl : (backTo pos (starEach [b] X.env)).any (·.1) = false := by rfl) : DE X (.Call (.Name "max" p') [a, b] [] pos) (p1 && p2) (tCB (fun xs H Q => ∃ i j, xs = [.int i, .int j] ∧ Q (.int (maxI i j)) H) (tCons ra (tCons rb tNil))) (d2 maxI ta tb) :=
  de_B2 (g := maxI) (call_max2 hc) hg hm (by decide +kernel) ha hb (by decide) (by decide) na nb hpl
theorem de_max2p (hc : X.calm = true) (hg : Gl X "max") (hm : X.mg "max" = none) (ha : DE X a true ra ta) (hb : DE X b true rb tb)
    (na : starEach [a, b] X.env = (false, eval a X.env) :: starEach [b] X.env := by rfl) (nb : starEach [b] X.env = (false, eval b X.env) :: starEach [] X.env := by rfl)
    (hpl : (backTo pos (starEach [b] X.env)).any (·.1) = false := by rfl) : DE X (.Call (.Name "max" p') [a, b] [] pos) true (tCB (fun xs H Q => ∃ i j, xs = [.int i, .int j] ∧ Q (.int (maxI i j)) H) (tCons ra (tCons rb tNil))) (d2 maxI ta tb) :=
  de_max2 hc hg hm ha hb na nb hpl
end
/-! ### the scopes of a def's comprehensions, from the left -/
def exScopes : Nat → Expr → List Scope
  | 0, _ => []
  | n + 1, e => match e with
    | .ListComp elt gens sc _ => sc :: (exScopes n elt ++ gens.flatMap fun g => exScopes n g.iter ++ g.ifs.flatMap (exScopes n))
    | .DictComp k v gens sc _ => sc :: (exScopes n k ++ exScopes n v ++ gens.flatMap fun g => exScopes n g.iter ++ g.ifs.flatMap (exScopes n))
    | .Call f as kws _ => exScopes n f ++ as.flatMap (exScopes n) ++ kws.flatMap fun k => exScopes n k.value
    | .BinOp a _ b _ => exScopes n a ++ exScopes n b
    | .BoolOp _ es _ => es.flatMap (exScopes n)
    | .UnaryOp _ a _ => exScopes n a
    | .Compare a _ bs _ => exScopes n a ++ bs.flatMap (exScopes n)
    | .IfExp a b c _ => exScopes n a ++ exScopes n b ++ exScopes n c
    | .Tuple es _ _ => es.flatMap (exScopes n)
    | .List es _ => es.flatMap (exScopes n)
    | .Subscript a b _ => exScopes n a ++ exScopes n b
    | .Attribute a _ _ => exScopes n a
    | _ => []
def stScopes : Nat → Stmt → List Scope
  | 0, _ => []
  | n + 1, s => match s with
    | .Return (some e) _ => exScopes 40 e
    | .Assign _ e _ => exScopes 40 e
    | .AugAssign _ _ e _ => exScopes 40 e
    | .Expr e _ => exScopes 40 e
    | .If c b o _ => exScopes 40 c ++ b.flatMap (stScopes n) ++ o.flatMap (stScopes n)
    | .For _ e b _ _ => exScopes 40 e ++ b.flatMap (stScopes n)
    | .While c b _ _ => exScopes 40 c ++ b.flatMap (stScopes n)
    | .Try b _ _ _ _ => b.flatMap (stScopes n)
    | _ => []
def nthScope (st : Stmt) (k : Nat) : Scope := ((defBody st).flatMap (stScopes 40)).getD k (defScope st)
end SW

namespace SW
open PySem PySem.Spec PyProof.Rows L2
/-! ### calls some of whose arguments are slots' own objects -/
def AOk (S : Hp) (σ : St) (δ : DEnv) : List (Option Nat) → List V → List Sl → Prop
  | [], [], [] => True
  | none :: qs, v :: vs, .i d :: ws => RI S d v ∧ AOk S σ δ qs vs ws
  | some i :: qs, v :: vs, .o a w :: ws => v = .ref a ∧ δ[i]? = some (some (.o a w)) ∧ σ[i]? = some (some (.ref a)) ∧ AOk S σ δ qs vs ws
  | _, _, _ => False
theorem AOk.mono {S S' : Hp} {σ : St} {δ : DEnv} (l : Le S S') : ∀ {qs : List (Option Nat)} {vs : List V} {ws : List Sl}, AOk S σ δ qs vs ws → AOk S' σ δ qs vs ws
  | [], [], [], _ => trivial
  | none :: qs, v :: vs, .i d :: ws, h => ⟨h.1.mono l, h.2.mono l⟩
  | some i :: qs, v :: vs, .o a w :: ws, h => ⟨h.1, h.2.1, h.2.2.1, h.2.2.2.mono l⟩
theorem AOk.len {S : Hp} {σ : St} {δ : DEnv} : ∀ {qs : List (Option Nat)} {vs : List V} {ws : List Sl}, AOk S σ δ qs vs ws → vs.length = ws.length
  | [], [], [], _ => rfl
  | none :: qs, v :: vs, .i d :: ws, h => by simp [h.2.len]
  | some i :: qs, v :: vs, .o a w :: ws, h => by simp [h.2.2.2.len]
theorem AOk.get {S : Hp} {σ : St} {δ : DEnv} : ∀ {qs : List (Option Nat)} {vs : List V} {ws : List Sl}, AOk S σ δ qs vs ws → ∀ j : Nat, (qs[j]? = none ∧ vs[j]? = none ∧ ws[j]? = none) ∨
    (∃ d v, qs[j]? = some none ∧ vs[j]? = some v ∧ ws[j]? = some (.i d) ∧ RI S d v) ∨ ∃ i a w, qs[j]? = some (some i) ∧ vs[j]? = some (.ref a) ∧ ws[j]? = some (.o a w) ∧ δ[i]? = some (some (.o a w)) ∧ σ[i]? = some (some (.ref a))
  | [], [], [], _, j => .inl ⟨rfl, rfl, rfl⟩
  | none :: qs, v :: vs, .i d :: ws, h, j => by
    cases j with
    | zero => exact .inr (.inl ⟨d, v, rfl, rfl, rfl, h.1⟩)
    | succ j => simpa using h.2.get j
  | some i :: qs, v :: vs, .o a w :: ws, h, j => by
    cases j with
    | zero => exact .inr (.inr ⟨i, a, w, rfl, by rw [h.1]; rfl, rfl, h.2.1, h.2.2.1⟩)
    | succ j => simpa using h.2.2.2.get j
def Dst (qs : List (Option Nat)) : Prop := ∀ j m i : Nat, qs[j]? = some (some i) → qs[m]? = some (some i) → j = m
def fpC (qs : List (Option Nat)) (fp : Nat → List Addr) (j : Nat) : List Addr := match qs[j]? with
  | some (some i) => fp i
  | _ => []
theorem fpC_of {qs : List (Option Nat)} {fp : Nat → List Addr} {j i : Nat} (h : qs[j]? = some (some i)) : fpC qs fp j = fp i := by unfold fpC; rw [h]
theorem fpC_mem {qs : List (Option Nat)} {fp : Nat → List Addr} {j : Nat} {c : Addr} (h : c ∈ fpC qs fp j) : ∃ i, qs[j]? = some (some i) ∧ c ∈ fp i := by
  unfold fpC at h
  split at h
  · rename_i i e; exact ⟨i, e, h⟩
  · cases h
def allO (qs : List (Option Nat)) (fp : Nat → List Addr) : List Addr := (qs.filterMap id).flatMap fp
theorem allO_mem {qs : List (Option Nat)} {fp : Nat → List Addr} {c : Addr} : c ∈ allO qs fp ↔ ∃ j i : Nat, qs[j]? = some (some i) ∧ c ∈ fp i := by
  unfold allO
  rw [List.mem_flatMap]
  constructor
  · rintro ⟨i, hi, hc⟩
    obtain ⟨o, ho, e⟩ := List.mem_filterMap.mp hi
    have e : o = some i := e
    subst e
    obtain ⟨j, hj⟩ := List.getElem?_of_mem ho
    exact ⟨j, i, hj, hc⟩
  · rintro ⟨j, i, hj, hc⟩
    exact ⟨i, List.mem_filterMap.mpr ⟨some i, List.mem_of_getElem? hj, rfl⟩, hc⟩
theorem SR.calleeO {S T H : Hp} {σ : St} {δ : DEnv} {fp : Nat → List Addr} (s : SR S T H σ δ fp) {qs : List (Option Nat)} {vs : List V} {ws : List Sl} (hq : Dst qs) (r : AOk S σ δ qs vs ws) :
    SR S (outOf S H (allO qs fp)) H (vs.map some) (ws.map some) (fpC qs fp) where
  s := s.s
  t := fun b o h => (outOf_some h).2.2
  st := fun b o h => (outOf_some h).1
  len := by simp [r.len]
  sl := fun j => by
    rw [List.getElem?_map, List.getElem?_map]
    rcases r.get j with ⟨e1, e2, e3⟩ | ⟨d, v, e1, e2, e3, e4⟩ | ⟨i, a, w, e1, e2, e3, e4, e5⟩
    · rw [e2, e3]; show fpC qs fp j = []; unfold fpC; rw [e1]
    · rw [e2, e3]; exact ⟨⟨v, rfl, e4⟩, by unfold fpC; rw [e1]⟩
    · rw [e2, e3, fpC_of e1]
      have hsl := s.sl i
      rw [e4] at hsl
      exact ⟨rfl, hsl.2⟩
  dis := fun j m c h1 h2 => by
    obtain ⟨i, e1, h1⟩ := fpC_mem h1
    obtain ⟨i', e2, h2⟩ := fpC_mem h2
    have := s.dis i i' c h1 h2
    subst this
    exact hq j m i e1 e2
  own := fun j c h1 => by
    obtain ⟨i, e1, h1⟩ := fpC_mem h1
    refine ⟨(s.own i c h1).1, ?_⟩
    unfold outOf; rw [(s.own i c h1).1]; simp [allO_mem.mpr ⟨j, i, e1, h1⟩]
/-- what the own arguments have become -/
def OutOk : Nat → List Sl → List Sl → DEnv → Prop
  | j, .o a _ :: ws, .o a' w' :: xs, δ' => a' = a ∧ δ'[j]? = some (some (.o a' w')) ∧ OutOk (j + 1) ws xs δ'
  | j, .i _ :: ws, .i _ :: xs, δ' => OutOk (j + 1) ws xs δ'
  | _, [], [], _ => True
  | _, _, _, _ => False
theorem OutOk.get {δ' : DEnv} : ∀ {k : Nat} {ws xs : List Sl}, OutOk k ws xs δ' → ∀ (j : Nat) (a : Addr) (w : O), ws[j]? = some (.o a w) → ∃ w', xs[j]? = some (.o a w') ∧ δ'[k + j]? = some (some (.o a w'))
  | k, [], [], _, j, a, w, e => by simp at e
  | k, .o b u :: ws, .o b' u' :: xs, h, j, a, w, e => by
    obtain ⟨rfl, h1, h2⟩ := h
    cases j with
    | zero => simp at e; obtain ⟨rfl, rfl⟩ := e; exact ⟨u', rfl, h1⟩
    | succ j =>
      obtain ⟨w', q1, q2⟩ := OutOk.get h2 j a w (by simpa using e)
      exact ⟨w', by simpa using q1, by rw [show k + (j + 1) = k + 1 + j by omega]; exact q2⟩
  | k, .i b :: ws, .i b' :: xs, h, j, a, w, e => by
    cases j with
    | zero => simp at e
    | succ j =>
      obtain ⟨w', q1, q2⟩ := OutOk.get (show OutOk (k + 1) ws xs δ' from h) j a w (by simpa using e)
      exact ⟨w', by simpa using q1, by rw [show k + (j + 1) = k + 1 + j by omega]; exact q2⟩
def setW : List (Option Nat) → List Sl → DEnv → DEnv
  | some i :: qs, w :: ws, δ => setW qs ws (δ.set i (some w))
  | none :: qs, _ :: ws, δ => setW qs ws δ
  | _, _, δ => δ
theorem setW_len : ∀ (qs : List (Option Nat)) (ws : List Sl) (δ : DEnv), (setW qs ws δ).length = δ.length
  | [], _, _ => by cases ‹List Sl› <;> rfl
  | some i :: qs, [], _ => rfl
  | none :: qs, [], _ => rfl
  | some i :: qs, w :: ws, δ => by rw [setW, setW_len]; simp
  | none :: qs, w :: ws, δ => by rw [setW, setW_len]
theorem setW_out : ∀ {qs : List (Option Nat)} {ws : List Sl} {δ : DEnv} {i : Nat}, (∀ j : Nat, qs[j]? ≠ some (some i)) → (setW qs ws δ)[i]? = δ[i]?
  | [], ws, _, _, _ => by cases ws <;> rfl
  | some k :: qs, [], _, _, _ => rfl
  | none :: qs, [], _, _, _ => rfl
  | some k :: qs, w :: ws, δ, i, h => by
    rw [setW, setW_out fun j => by have := h (j + 1); simpa using this]
    have hk : k ≠ i := fun z => h 0 (by rw [z]; rfl)
    rw [List.getElem?_set_ne hk]
  | none :: qs, w :: ws, δ, i, h => by rw [setW, setW_out fun j => by have := h (j + 1); simpa using this]
theorem setW_in : ∀ {qs : List (Option Nat)} {ws : List Sl} {δ : DEnv} {i j : Nat} {w : Sl}, Dst qs → qs[j]? = some (some i) → ws[j]? = some w → i < δ.length → (setW qs ws δ)[i]? = some (some w)
  | [], _, _, _, j, _, _, h, _, _ => by simp at h
  | some k :: qs, [], _, _, _, _, _, _, h, _ => by simp at h
  | none :: qs, [], _, _, _, _, _, _, h, _ => by simp at h
  | some k :: qs, x :: ws, δ, i, 0, w, hq, h, e, hl => by
    simp at h e; subst h; subst e
    rw [setW, setW_out fun j z => by have := hq 0 (j + 1) k rfl (by simpa using z); omega, List.getElem?_set_self hl]
  | some k :: qs, x :: ws, δ, i, j + 1, w, hq, h, e, hl => by
    rw [setW, setW_in (j := j) (fun a b c h1 h2 => by have := hq (a + 1) (b + 1) c (by simpa using h1) (by simpa using h2); omega) (by simpa using h) (by simpa using e) (by simpa using hl)]
  | none :: qs, x :: ws, δ, i, 0, w, hq, h, e, hl => by simp at h
  | none :: qs, x :: ws, δ, i, j + 1, w, hq, h, e, hl => by
    rw [setW, setW_in (j := j) (fun a b c h1 h2 => by have := hq (a + 1) (b + 1) c (by simpa using h1) (by simpa using h2); omega) (by simpa using h) (by simpa using e) hl]
open Classical in
noncomputable def fpN (qs : List (Option Nat)) (fp fp' : Nat → List Addr) (i : Nat) : List Addr := if h : ∃ j : Nat, qs[j]? = some (some i) then fp' h.choose else fp i
theorem fpN_in {qs : List (Option Nat)} {fp fp' : Nat → List Addr} {i j : Nat} (hq : Dst qs) (h : qs[j]? = some (some i)) : fpN qs fp fp' i = fp' j := by
  unfold fpN
  have hh : ∃ j : Nat, qs[j]? = some (some i) := ⟨j, h⟩
  rw [dif_pos hh]
  congr 1
  exact hq _ _ _ hh.choose_spec h
theorem fpN_out {qs : List (Option Nat)} {fp fp' : Nat → List Addr} {i : Nat} (h : ∀ j : Nat, qs[j]? ≠ some (some i)) : fpN qs fp fp' i = fp i := by
  unfold fpN
  rw [dif_neg (fun ⟨j, e⟩ => h j e)]
theorem own_or (qs : List (Option Nat)) (i : Nat) : (∃ j : Nat, qs[j]? = some (some i)) ∨ ∀ j : Nat, qs[j]? ≠ some (some i) := by
  by_cases h : ∃ j : Nat, qs[j]? = some (some i)
  · exact .inl h
  · exact .inr fun j e => h ⟨j, e⟩
section
variable {S S' T H H' : Hp} {σ σ' : St} {δ δ' : DEnv} {fp fp' : Nat → List Addr} {qs : List (Option Nat)} {vs : List V} {ws xs : List Sl}
theorem outs_T (s : SR S T H σ δ fp) {b : Addr} {o : HO} (e : T b = some o) : outOf S H (allO qs fp) b = some o := by
  rw [outOf_eq (s.st b o e) (fun hb => by obtain ⟨j, i, _, hb⟩ := allO_mem.mp hb; rw [(s.own i b hb).2] at e; cases e)]; exact s.t b o e
theorem SR.calledO (s : SR S T H σ δ fp) (hq : Dst qs) (r : AOk S σ δ qs vs ws) (l : Le S S') (s' : SR S' (outOf S H (allO qs fp)) H' σ' δ' fp') (h0 : OutOk 0 ws xs δ') : SR S' T H' σ (setW qs xs δ) (fpN qs fp fp') := by
  have keep : ∀ b o, H b = some o → b ∉ allO qs fp → H' b = some o := fun b o e hb => by
    cases q : S b with
    | none => exact s'.t b o (by rw [outOf_eq q hb]; exact e)
    | some u => have := s.s b u q; rw [e] at this; cases this; exact s'.s b o (l b o q)
  have fr : ∀ b o, H b = some o → S b = none → b ∉ allO qs fp → S' b = none := fun b o e h2 hb => s'.st b o (by rw [outOf_eq h2 hb]; exact e)
  have off : ∀ i, (∀ j : Nat, qs[j]? ≠ some (some i)) → ∀ b ∈ fp i, b ∉ allO qs fp := fun i hi b hb z => by
    obtain ⟨j, i', h1, h2⟩ := allO_mem.mp z
    have := s.dis i i' b hb h2
    subst this
    exact hi j h1
  have new : ∀ j c, c ∈ fp' j → S' c = none ∧ T c = none ∧ ∀ i, (∀ j : Nat, qs[j]? ≠ some (some i)) → c ∉ fp i := fun j c hc => by
    obtain ⟨q1, q2⟩ := s'.own j c hc
    refine ⟨q1, ?_, fun i hi hci => ?_⟩
    · cases e : T c with
      | none => rfl
      | some o => rw [outs_T s e] at q2; cases q2
    · obtain ⟨o, eo⟩ := s.there hci
      rw [outOf_eq (s.own i c hci).1 (off i hi c hci), eo] at q2; cases q2
  refine ⟨s'.s, fun b o e => s'.t b o (outs_T s e), fun b o e => s'.st b o (outs_T s e), by rw [setW_len]; exact s.len, fun i => ?_, fun i m c h1 h2 => ?_, fun i c hc => ?_⟩
  · rcases own_or qs i with ⟨j, hj⟩ | hi
    · rcases r.get j with ⟨e1, _⟩ | ⟨_, _, e1, _⟩ | ⟨i', a, w, e1, e2, e3, e4, e5⟩
      · rw [hj] at e1; cases e1
      · rw [hj] at e1; cases e1
      · rw [hj] at e1; cases e1
        obtain ⟨w', q1, q2⟩ := h0.get j a w e3
        rw [Nat.zero_add] at q2
        have hil : i < δ.length := (List.getElem?_eq_some_iff.mp e4).1
        rw [fpN_in hq hj, setW_in hq hj q1 hil, e5]
        have hsl := s'.sl j
        rw [q2] at hsl
        exact ⟨rfl, hsl.2⟩
    · rw [fpN_out hi, setW_out hi]
      exact (s.sl i).keep l fun c hc o e => keep c o e (off i hi c hc)
  · rcases own_or qs i with ⟨j, hj⟩ | hi
    · rw [fpN_in hq hj] at h1
      rcases own_or qs m with ⟨j', hj'⟩ | hm
      · rw [fpN_in hq hj'] at h2
        have := s'.dis j j' c h1 h2
        subst this
        rw [hj] at hj'; cases hj'; rfl
      · rw [fpN_out hm] at h2
        exact absurd h2 ((new j c h1).2.2 m hm)
    · rw [fpN_out hi] at h1
      rcases own_or qs m with ⟨j', hj'⟩ | hm
      · rw [fpN_in hq hj'] at h2
        exact absurd h1 ((new j' c h2).2.2 i hi)
      · rw [fpN_out hm] at h2
        exact s.dis i m c h1 h2
  · rcases own_or qs i with ⟨j, hj⟩ | hi
    · rw [fpN_in hq hj] at hc
      exact ⟨(new j c hc).1, (new j c hc).2.1⟩
    · rw [fpN_out hi] at hc
      obtain ⟨o, eo⟩ := s.there hc
      exact ⟨fr c o eo (s.own i c hc).1 (off i hi c hc), (s.own i c hc).2⟩
theorem RR.calledO {w : Sl} {v : V} (s : SR S T H σ δ fp) (hq : Dst qs) (l : Le S S') (s' : SR S' (outOf S H (allO qs fp)) H' σ' δ' fp') (r : RR S' (outOf S H (allO qs fp)) H' w v fp') : RR S' T H' w v (fpN qs fp fp') := by
  obtain ⟨l', h1, h2⟩ := r
  refine ⟨l', h1, fun c hc => ?_⟩
  obtain ⟨q0, q1, q2⟩ := h2 c hc
  refine ⟨fun i hi => ?_, q1, ?_⟩
  · rcases own_or qs i with ⟨j, hj⟩ | hi'
    · rw [fpN_in hq hj] at hi; exact q0 j hi
    · rw [fpN_out hi'] at hi
      obtain ⟨o, eo⟩ := s.there hi
      rw [outOf_eq (s.own i c hi).1 (fun z => by
        obtain ⟨j, i', e1, e2⟩ := allO_mem.mp z
        have := s.dis i i' c hi e2
        subst this
        exact hi' j e1), eo] at q2; cases q2
  · cases e : T c with
    | none => rfl
    | some o => rw [outs_T s e] at q2; cases q2
end
def SimAO (qs : List (Option Nat)) (r : TA) (t : DTLs) : Prop := ∀ (S T H : Hp) (σ : St) (δ : DEnv) (fp : Nat → List Addr) (Q : List V → Hp → Prop) (Q' : List Sl → DEnv → Prop), SR S T H σ δ fp → t δ Q' →
  (∀ (S' H' : Hp) (fp' : Nat → List Addr) (vs : List V) (ws : List Sl), Le S S' → SR S' T H' σ δ fp' → AOk S' σ δ qs vs ws → Q' ws δ → Q vs H') → r σ H Q
structure DAO (X : Cx) (es : List Expr) (qs : List (Option Nat)) (r : TA) (t : DTLs) : Prop where
  pa : PA X es r
  sim : SimAO qs r t
def dOwnA (i : Nat) (u : DTLs) : DTLs := fun δ Q => match δ[i]? with
  | some (some (.o a w)) => u δ fun ws δ1 => Q (.o a w :: ws) δ1
  | _ => False
def dDatA (t : DT) (u : DTLs) : DTLs := fun δ Q => t δ fun d δ1 => u δ1 fun ws δ2 => Q (.i d :: ws) δ2
def dCallO (sp : DSp) (qs : List (Option Nat)) (va : DTLs) : DT := fun δ Q => va δ fun ws δ1 => sp ws (fun r δ' => ∃ xs, OutOk 0 ws xs δ' ∧ resD r fun d => Q d (setW qs xs δ1)) fun _ _ _ _ => False
section
variable {X : Cx} {k : Nat} {f : Addr} {fd : FuncData} {ps : List Str} {sp : DSp} {x y : Str} {e : Expr} {es : List Expr} {pos pos' apos : Pos} {wa : TA} {va u : DTLs} {CX : CXT} {E : XK} {q : TE} {t : DT} {qs : List (Option Nat)}
theorem dao_nil : DAO X [] [] tNil dlNil := ⟨pa_nil, fun S T H σ δ fp Q Q' s g k => k S H fp [] [] (Le.refl _) s trivial g⟩
theorem dao_own (i : Nat) (h0 : PE X (.Name y apos) (tVar i)) (hr : DAO X es qs wa u) (hs : starEach (.Name y apos :: es) X.env = (false, eval (.Name y apos) X.env) :: starEach es X.env := by rfl) : DAO X (.Name y apos :: es) (some i :: qs) (tCons (tVar i) wa) (dOwnA i u) := by
  refine ⟨pa_cons h0 hr.pa hs, ?_⟩
  intro S T H σ δ fp Q Q' s g k
  unfold dOwnA at g
  split at g
  · rename_i a w ee
    have hv := s.sl i
    rw [ee] at hv
    refine ⟨_, hv.1, hr.sim S T H σ δ fp _ _ s g fun S1 H1 fp1 vs ws l1 s1 r1 q1 => ?_⟩
    exact k S1 H1 fp1 (.ref a :: vs) (.o a w :: ws) l1 s1 ⟨rfl, ee, hv.1, r1⟩ q1
  · exact g.elim
theorem dao_dat (ha : DE X e true q t) (hr : DAO X es qs wa u) (hs : starEach (e :: es) X.env = (false, eval e X.env) :: starEach es X.env := by rfl) : DAO X (e :: es) (none :: qs) (tCons q wa) (dDatA t u) := by
  refine ⟨pa_cons ha.pe hr.pa hs, ?_⟩
  intro S T H σ δ fp Q Q' s g k
  refine ha.sim S T H σ δ fp _ _ s g fun S1 H1 fp1 v d δ1 l1 s1 r1 u1 q1 => ?_
  obtain ⟨rfl, _⟩ := u1.tt
  refine hr.sim S1 T H1 σ _ fp1 _ _ s1 q1 fun S2 H2 fp2 vs ws l2 s2 r2 q2 => ?_
  exact k S2 H2 fp2 (v :: vs) (.i d :: ws) (l1.trans l2) s2 ⟨r1.mono l2, r2⟩ q2
theorem sim_callO (hq : Dst qs) (ha : SimAO qs wa va) : SimE false (tCall (lift sp) [] E wa) (dCallO sp qs va) := by
  intro S T H σ δ fp Q Q' s g k
  refine ha S T H σ δ fp _ _ s g fun S1 H1 fp1 vs ws l1 s1 r1 q1 => ?_
  rw [List.append_nil]
  refine ⟨S1, outOf S1 H1 (allO qs fp1), _, _, _, _, s1.calleeO hq r1, q1, fun S2 H2 σ2 δ2 fp2 v r l2 s2 rr q2 => ?_, fun _ _ _ _ _ _ _ _ _ _ _ _ _ _ _ z => z.elim⟩
  obtain ⟨xs, hx, q2⟩ := q2
  have s3 := s1.calledO hq r1 l2 s2 hx
  have rr3 := RR.calledO s1 hq l2 s2 rr
  obtain ⟨S4, d, l4, s4, r4, q4, _⟩ := res_frz s3 rr3 q2
  exact k S4 H2 _ v d _ (l1.trans (l2.trans l4)) s4 r4 (fun z => nomatch z) q4
def dstB (qs : List (Option Nat)) : Bool := decide ((qs.filterMap id).Nodup)
theorem dst_nd : ∀ {qs : List (Option Nat)}, (qs.filterMap id).Nodup → Dst qs := by
  intro qs h
  induction qs with
  | nil => intro j m i h1; simp at h1
  | cons o qs ih =>
    cases o with
    | none =>
      have ih := ih h
      intro j m i h1 h2
      cases j with
      | zero => simp at h1
      | succ j => cases m with
        | zero => simp at h2
        | succ m => have := ih j m i (by simpa using h1) (by simpa using h2); omega
    | some k =>
      rw [List.filterMap_cons] at h
      obtain ⟨h3, h4⟩ := List.nodup_cons.mp (show (k :: qs.filterMap id).Nodup from h)
      have ih := ih h4
      have no : ∀ m : Nat, qs[m]? ≠ some (some k) := fun m z => h3 (List.mem_filterMap.mpr ⟨some k, List.mem_of_getElem? z, rfl⟩)
      intro j m i h1 h2
      cases j with
      | zero => cases m with
        | zero => rfl
        | succ m => simp at h1; subst h1; exact absurd (by simpa using h2) (no m)
      | succ j => cases m with
        | zero => simp at h2; subst h2; exact absurd (by simpa using h1) (no j)
        | succ m => have := ih j m i (by simpa using h1) (by simpa using h2); omega
theorem dst_of {qs : List (Option Nat)} (h : dstB qs = true) : Dst qs := dst_nd (of_decide_eq_true h)
theorem de_callO (G : FnG X.prog X.w X.K X.mg X.base CX k f fd ps (lift sp)) (hr : Room k X.A) (gd : X.A.guards = some []) (hg : Gl X x) (hm : X.mg x = some (.ref f)) (hk : PySem.W.keepIn X.K (.ref f) = true) (hb : Binds X.K fd ps []) (hx : Passes CX X E)
    (ha : DAO X (e :: es) qs wa va) (hq : dstB qs = true) (hdb : (x == ("__debug__" : Str)) = false := by decide) (he : starEach (e :: es) X.env = (false, eval e X.env) :: starEach es X.env := by rfl) (hpl : (backTo pos (starEach es X.env)).any (·.1) = false := by rfl) :
    DE X (.Call (.Name x pos') (e :: es) [] pos) false (tCall (lift sp) [] E wa) (dCallO sp qs va) := ⟨pe_callG G hr gd hg hm hk hb .nil hx ha.pa hdb he hpl, sim_callO (dst_of hq) ha.sim⟩
end
end SW

namespace SW
open PySem PySem.Spec PyProof.Rows L2
/-! ### valid sequences of swaps, plainly: no item turns back -/
theorem swp_idx {row : List Int} {m s : Nat} (h : Row row m) (hs : s + 1 < m) {x : Int} (hx : x ∈ row) :
    (swp row s).idxOf x = if x = row.getD s 0 then s + 1 else if x = row.getD (s + 1) 0 then s else row.idxOf x := by
  have hl := h.len
  have h' := h.swp hs
  have e1 := at_getD (row := row) (j := s) (by omega)
  have e2 := at_getD (row := row) (j := s + 1) (by omega)
  have hsw := swp_at (row := row) (j := s) (by omega)
  by_cases c1 : x = row.getD s 0
  · rw [if_pos c1]
    refine h'.idx ?_
    rw [hsw, if_neg (by omega), if_pos rfl, c1]
  · rw [if_neg c1]
    by_cases c2 : x = row.getD (s + 1) 0
    · rw [if_pos c2]
      refine h'.idx ?_
      rw [hsw, if_pos rfl, c2]
    · rw [if_neg c2]
      refine h'.idx ?_
      have hx1 := idxOf_at hx
      rw [hsw, if_neg (fun z => ?_), if_neg (fun z => ?_)]
      · exact hx1
      · rw [z] at hx1; rw [e2] at hx1; exact c2 (Option.some.inj hx1).symm
      · rw [z] at hx1; rw [e1] at hx1; exact c1 (Option.some.inj hx1).symm
/-- what is known along a valid sequence -/
structure Vs (rk : List (List Int)) (m : Nat) (n : Nat) (row : List Int) (held : List (List Int)) (wy : Int → Int) (pr : Int → List Int) : Prop where
  r : Row row m
  hl : held.length = m
  last : ∀ (i : Nat) (x : Int), row[i]? = some x → ∃ pre, held[i]? = some (pre ++ [x])
  rank : ∀ (i : Nat) (l : List Int) (x c : Int), held[i]? = some l → x ∈ l → row[i]? = some c → rkAt rk i c ≤ rkAt rk i x
  inn : ∀ (i : Nat) (l : List Int) (x : Int), held[i]? = some l → x ∈ l → x ∈ row
  fr : ∀ (x : Int) (q : Nat), row[q]? = some x → (wy x = 1 → ∃ q' l, q = q' + 1 ∧ held[q']? = some l ∧ x ∈ l) ∧ (wy x = -1 → ∃ l, held[q + 1]? = some l ∧ x ∈ l)
  pw : ∀ x y : Int, y ∈ pr x → x ∈ row ∧ y ∈ row ∧ ((wy x = 1 ∧ wy y = -1 ∧ row.idxOf y < row.idxOf x) ∨ (wy x = -1 ∧ wy y = 1 ∧ row.idxOf x < row.idxOf y))
  sy : ∀ x y : Int, y ∈ pr x → x ∈ pr y
  nd : ∀ x : Int, (pr x).Nodup
  cn : (((span m).map fun x => (pr x).length)).sum = 2 * n
theorem Vs.start {rk : List (List Int)} {m : Nat} {row : List Int} (h : Row row m) : Vs rk m 0 row (row.map fun x => [x]) (fun _ => 0) fun _ => [] where
  r := h
  hl := by rw [List.length_map, h.len]
  last := fun i x e => ⟨[], by rw [List.getElem?_map, e]; rfl⟩
  rank := fun i l x c e hx hc => by
    rw [List.getElem?_map, hc] at e
    cases e
    simp only [List.mem_singleton] at hx
    rw [hx]; exact Nat.le_refl _
  inn := fun i l x e hx => by
    rw [List.getElem?_map] at e
    cases q : row[i]? with
    | none => rw [q] at e; cases e
    | some c => rw [q] at e; cases e; simp only [List.mem_singleton] at hx; rw [hx]; exact List.mem_of_getElem? q
  fr := fun x q _ => ⟨fun z => absurd z (by decide), fun z => absurd z (by decide)⟩
  pw := fun x y h => nomatch h
  sy := fun x y h => nomatch h
  nd := fun x => List.nodup_nil
  cn := by
    have : ∀ l : List Int, (l.map fun _ => ([] : List Int).length).sum = 2 * 0 := fun l => by
      induction l with
      | nil => rfl
      | cons a l ih => simpa using ih
    exact this _
section
variable {rk : List (List Int)} {m n : Nat} {row : List Int} {held : List (List Int)} {wy : Int → Int} {pr : Int → List Int} {s : Nat} {l1 l2 : List Int}
theorem may_ranks (h : mayI rk row s = true) : rkAt rk s (row.getD (s + 1) 0) < rkAt rk s (row.getD s 0) ∧ rkAt rk (s + 1) (row.getD s 0) < rkAt rk (s + 1) (row.getD (s + 1) 0) := by
  unfold mayI at h
  rw [Bool.and_eq_true, decide_eq_true_eq, decide_eq_true_eq] at h
  omega
/-- what an allowed swap finds -/
theorem Vs.look (h : Vs rk m n row held wy pr) (hs : s + 1 < m) (hm : mayI rk row s = true) (e1 : held[s]? = some l1) (e2 : held[s + 1]? = some l2) :
    row.getD (s + 1) 0 ∉ l1 ∧ row.getD s 0 ∉ l2 ∧ wy (row.getD s 0) ≠ -1 ∧ wy (row.getD (s + 1) 0) ≠ 1 ∧ row.getD s 0 ∉ pr (row.getD (s + 1) 0) ∧ row.getD (s + 1) 0 ∉ pr (row.getD s 0) := by
  obtain ⟨m1, m2⟩ := may_ranks hm
  have hl := h.r.len
  have at1 := at_getD (row := row) (j := s) (by omega)
  have at2 := at_getD (row := row) (j := s + 1) (by omega)
  have f1 : row.getD (s + 1) 0 ∉ l1 := fun z => by have := h.rank s l1 _ _ e1 z at1; omega
  have t2 : row.getD s 0 ∉ l2 := fun z => by have := h.rank (s + 1) l2 _ _ e2 z at2; omega
  have w1 : wy (row.getD s 0) ≠ -1 := fun z => by
    obtain ⟨l, el, hx⟩ := (h.fr _ s at1).2 z
    rw [e2] at el; cases el
    exact t2 hx
  have w2 : wy (row.getD (s + 1) 0) ≠ 1 := fun z => by
    obtain ⟨q', l, eq, el, hx⟩ := (h.fr _ (s + 1) at2).1 z
    have : q' = s := by omega
    subst this
    rw [e1] at el; cases el
    exact f1 hx
  have i1 := h.r.idx at1
  have i2 := h.r.idx at2
  have p1 : row.getD s 0 ∉ pr (row.getD (s + 1) 0) := fun z => by
    rcases (h.pw _ _ z).2.2 with ⟨a, _, _⟩ | ⟨_, _, c⟩
    · exact w2 a
    · omega
  exact ⟨f1, t2, w1, w2, p1, fun z => p1 (h.sy _ _ z)⟩
theorem sum_two {m : Nat} {f g : Int → Nat} {t u : Int} (ht : t ∈ span m) (hu : u ∈ span m) (htu : t ≠ u) (h1 : g t = f t + 1) (h2 : g u = f u + 1) (h3 : ∀ x, x ≠ t → x ≠ u → g x = f x) : ((span m).map g).sum = ((span m).map f).sum + 2 := by
  have key : ∀ l : List Int, l.Nodup → ((l.map g).sum = (l.map f).sum + (if t ∈ l then 1 else 0) + (if u ∈ l then 1 else 0)) := by
    intro l
    induction l with
    | nil => intro _; simp
    | cons x l ih =>
      intro hn
      obtain ⟨a, b⟩ := List.nodup_cons.mp hn
      have ih := ih b
      simp only [List.map_cons, List.sum_cons, List.mem_cons]
      by_cases c1 : x = t
      · subst c1
        have n1 : ¬ u = x := fun z => htu z.symm
        rw [if_neg a] at ih
        simp only [true_or, if_true, n1, false_or]
        omega
      · have c1' : ¬ t = x := fun z => c1 z.symm
        by_cases c2 : x = u
        · subst c2
          rw [if_neg a] at ih
          simp only [true_or, if_true, c1', false_or]
          omega
        · have c2' : ¬ u = x := fun z => c2 z.symm
          simp only [c1', c2', false_or]
          rw [h3 x c1 c2, ih]
          omega
  have := key (span m) (span_nodup m)
  rw [if_pos ht, if_pos hu] at this
  omega
theorem Vs.step {wy' : Int → Int} {pr' : Int → List Int} (h : Vs rk m n row held wy pr) (hs : s + 1 < m) (hm : mayI rk row s = true) (e1 : held[s]? = some l1) (e2 : held[s + 1]? = some l2)
    (ew : ∀ x, wy' x = if x = row.getD (s + 1) 0 then -1 else if x = row.getD s 0 then 1 else wy x)
    (ep : ∀ x, pr' x = if x = row.getD (s + 1) 0 then pr x ++ [row.getD s 0] else if x = row.getD s 0 then pr x ++ [row.getD (s + 1) 0] else pr x) :
    Vs rk m (n + 1) (swp row s) ((held.set s (l1 ++ [row.getD (s + 1) 0])).set (s + 1) (l2 ++ [row.getD s 0])) wy' pr' := by
  obtain ⟨f1, t2, w1, w2, p1, p2⟩ := h.look hs hm e1 e2
  obtain ⟨m1, m2⟩ := may_ranks hm
  have hl := h.r.len
  have hhl := h.hl
  have at1 := at_getD (row := row) (j := s) (by omega)
  have at2 := at_getD (row := row) (j := s + 1) (by omega)
  have idx := fun {x : Int} (hx : x ∈ row) => swp_idx h.r hs hx
  have hsw := swp_at (row := row) (j := s) (by omega)
  have r' := h.r.swp hs
  have i1 := h.r.idx at1
  have i2 := h.r.idx at2
  have mt : row.getD s 0 ∈ row := List.mem_of_getElem? at1
  have mf : row.getD (s + 1) 0 ∈ row := List.mem_of_getElem? at2
  generalize row.getD s 0 = t at *
  generalize row.getD (s + 1) 0 = f at *
  have tf : t ≠ f := fun z => by rw [z] at i1; omega
  have mem_s : ∀ x, x ∈ row → x ∈ swp row s := fun x hx => (swp_perm (by omega)).mem_iff.mpr hx
  have hheld : ∀ i : Nat, ((held.set s (l1 ++ [f])).set (s + 1) (l2 ++ [t]))[i]? = if i = s + 1 then some (l2 ++ [t]) else if i = s then some (l1 ++ [f]) else held[i]? := fun i => by
    by_cases c1 : i = s + 1
    · subst c1; rw [List.getElem?_set_self (by simp; omega), if_pos rfl]
    · rw [List.getElem?_set_ne (Ne.symm c1), if_neg c1]
      by_cases c2 : i = s
      · subst c2; rw [List.getElem?_set_self (by omega), if_pos rfl]
      · rw [List.getElem?_set_ne (Ne.symm c2), if_neg c2]
  have grow : ∀ (i : Nat) (l : List Int) (x : Int), held[i]? = some l → x ∈ l → ∃ l' : List Int, ((held.set s (l1 ++ [f])).set (s + 1) (l2 ++ [t]))[i]? = some l' ∧ x ∈ l' := fun i l x el hx => by
    rw [hheld]
    by_cases c1 : i = s + 1
    · subst c1; rw [e2] at el; cases el; exact ⟨_, if_pos rfl, List.mem_append_left _ hx⟩
    · rw [if_neg c1]
      by_cases c2 : i = s
      · subst c2; rw [e1] at el; cases el; exact ⟨_, if_pos rfl, List.mem_append_left _ hx⟩
      · rw [if_neg c2]; exact ⟨l, el, hx⟩
  have wt : wy' t = 1 := by rw [ew, if_neg tf, if_pos rfl]
  have wf : wy' f = -1 := by rw [ew, if_pos rfl]
  have wo : ∀ x, x ≠ t → x ≠ f → wy' x = wy x := fun x a b => by rw [ew, if_neg b, if_neg a]
  refine ⟨r', by simp [hhl], fun i x hx => ?_, fun i l x c el hx hc => ?_, fun i l x el hx => ?_, fun x q hq => ?_, fun x y hy => ?_, fun x y hy => ?_, fun x => ?_, ?_⟩
  · rw [hsw] at hx
    rw [hheld]
    by_cases c1 : i = s
    · subst c1
      rw [if_pos rfl] at hx; cases hx
      exact ⟨l1, by rw [if_neg (by omega), if_pos rfl]⟩
    · rw [if_neg c1] at hx
      by_cases c2 : i = s + 1
      · subst c2
        rw [if_pos rfl] at hx; cases hx
        exact ⟨l2, by rw [if_pos rfl]⟩
      · rw [if_neg c2] at hx
        rw [if_neg c2, if_neg c1]
        exact h.last i x hx
  · rw [hheld] at el
    rw [hsw] at hc
    by_cases c1 : i = s + 1
    · subst c1
      rw [if_pos rfl] at el; cases el
      rw [if_neg (by omega), if_pos rfl] at hc; cases hc
      rcases List.mem_append.mp hx with hx | hx
      · have := h.rank (s + 1) l2 x _ e2 hx at2; omega
      · simp only [List.mem_singleton] at hx; rw [hx]; exact Nat.le_refl _
    · rw [if_neg c1] at el
      by_cases c2 : i = s
      · subst c2
        rw [if_pos rfl] at el; cases el
        rw [if_pos rfl] at hc; cases hc
        rcases List.mem_append.mp hx with hx | hx
        · have := h.rank i l1 x _ e1 hx at1; omega
        · simp only [List.mem_singleton] at hx; rw [hx]; exact Nat.le_refl _
      · rw [if_neg c2] at el
        rw [if_neg c2, if_neg c1] at hc
        exact h.rank i l x c el hx hc
  · rw [hheld] at el
    refine mem_s x ?_
    by_cases c1 : i = s + 1
    · rw [if_pos c1] at el; cases el
      rcases List.mem_append.mp hx with hx | hx
      · exact h.inn _ _ _ e2 hx
      · simp only [List.mem_singleton] at hx; rw [hx]; exact mt
    · rw [if_neg c1] at el
      by_cases c2 : i = s
      · rw [if_pos c2] at el; cases el
        rcases List.mem_append.mp hx with hx | hx
        · exact h.inn _ _ _ e1 hx
        · simp only [List.mem_singleton] at hx; rw [hx]; exact mf
      · rw [if_neg c2] at el
        exact h.inn _ _ _ el hx
  · rw [hsw] at hq
    by_cases c1 : q = s
    · subst c1
      rw [if_pos rfl] at hq; cases hq
      refine ⟨fun z => absurd z (by rw [wf]; decide), fun _ => ?_⟩
      obtain ⟨pre, hp⟩ := h.last (q + 1) f at2
      exact grow (q + 1) _ f hp (by simp)
    · rw [if_neg c1] at hq
      by_cases c2 : q = s + 1
      · subst c2
        rw [if_pos rfl] at hq; cases hq
        refine ⟨fun _ => ?_, fun z => absurd z (by rw [wt]; decide)⟩
        obtain ⟨pre, hp⟩ := h.last s t at1
        obtain ⟨l', a, b⟩ := grow s _ t hp (by simp)
        exact ⟨s, l', rfl, a, b⟩
      · rw [if_neg c2] at hq
        have n1 : x ≠ t := fun z => by rw [z] at hq; exact c1 (h.r.inj hq at1)
        have n2 : x ≠ f := fun z => by rw [z] at hq; exact c2 (h.r.inj hq at2)
        rw [wo x n1 n2]
        obtain ⟨a, b⟩ := h.fr x q hq
        refine ⟨fun z => ?_, fun z => ?_⟩
        · obtain ⟨q', l, eq, el, hx⟩ := a z
          obtain ⟨l', u, v⟩ := grow q' l x el hx
          exact ⟨q', l', eq, u, v⟩
        · obtain ⟨l, el, hx⟩ := b z
          exact grow (q + 1) l x el hx
  · -- pairs keep their sides
    have old : ∀ x y, y ∈ pr x → x ∈ swp row s ∧ y ∈ swp row s ∧ ((wy' x = 1 ∧ wy' y = -1 ∧ (swp row s).idxOf y < (swp row s).idxOf x) ∨ (wy' x = -1 ∧ wy' y = 1 ∧ (swp row s).idxOf x < (swp row s).idxOf y)) := by
      intro x y hy
      obtain ⟨hx1, hy1, alt⟩ := h.pw x y hy
      have one : ∀ a b, a ∈ row → b ∈ row → wy a = 1 → wy b = -1 → row.idxOf b < row.idxOf a → (wy' a = 1 ∧ wy' b = -1 ∧ (swp row s).idxOf b < (swp row s).idxOf a) := by
        intro a b ha hb wa wb hlt
        have na : a ≠ f := fun z => w2 (by rw [← z]; exact wa)
        have nb : b ≠ t := fun z => w1 (by rw [← z]; exact wb)
        refine ⟨?_, ?_, ?_⟩
        · rw [ew, if_neg na]
          by_cases c : a = t
          · rw [if_pos c]
          · rw [if_neg c]; exact wa
        · rw [ew]
          by_cases c : b = f
          · rw [if_pos c]
          · rw [if_neg c, if_neg nb]; exact wb
        · rw [idx ha, idx hb, if_neg nb, if_neg na]
          by_cases ca : a = t
          · rw [if_pos ca]
            rw [ca, i1] at hlt
            by_cases cb : b = f
            · rw [if_pos cb]; omega
            · rw [if_neg cb]; omega
          · rw [if_neg ca]
            by_cases cb : b = f
            · rw [if_pos cb]
              rw [cb, i2] at hlt; omega
            · rw [if_neg cb]; exact hlt
      refine ⟨mem_s x hx1, mem_s y hy1, ?_⟩
      rcases alt with ⟨a, b, c⟩ | ⟨a, b, c⟩
      · exact .inl (one x y hx1 hy1 a b c)
      · obtain ⟨u, v, w⟩ := one y x hy1 hx1 b a c
        exact .inr ⟨v, u, w⟩
    rw [ep] at hy
    have it : (swp row s).idxOf t = s + 1 := by rw [idx mt, if_pos rfl]
    have jf : (swp row s).idxOf f = s := by rw [idx mf, if_neg (Ne.symm tf), if_pos rfl]
    by_cases c1 : x = f
    · rw [if_pos c1] at hy
      rcases List.mem_append.mp hy with hy | hy
      · exact old x y hy
      · simp only [List.mem_singleton] at hy
        rw [c1, hy]
        exact ⟨mem_s f mf, mem_s t mt, .inr ⟨wf, wt, by rw [it, jf]; omega⟩⟩
    · rw [if_neg c1] at hy
      by_cases c2 : x = t
      · rw [if_pos c2] at hy
        rcases List.mem_append.mp hy with hy | hy
        · exact old x y hy
        · simp only [List.mem_singleton] at hy
          rw [c2, hy]
          exact ⟨mem_s t mt, mem_s f mf, .inl ⟨wt, wf, by rw [it, jf]; omega⟩⟩
      · rw [if_neg c2] at hy
        exact old x y hy
  · have old : ∀ x y, y ∈ pr x → x ∈ pr' y := fun x y hy => by
      have := h.sy x y hy
      rw [ep]
      by_cases c1 : y = f
      · rw [if_pos c1]; exact List.mem_append_left _ this
      · rw [if_neg c1]
        by_cases c2 : y = t
        · rw [if_pos c2]; exact List.mem_append_left _ this
        · rw [if_neg c2]; exact this
    rw [ep] at hy
    by_cases c1 : x = f
    · rw [if_pos c1] at hy
      rcases List.mem_append.mp hy with hy | hy
      · exact old x y hy
      · simp only [List.mem_singleton] at hy
        rw [c1, hy, ep, if_neg tf, if_pos rfl]; simp
    · rw [if_neg c1] at hy
      by_cases c2 : x = t
      · rw [if_pos c2] at hy
        rcases List.mem_append.mp hy with hy | hy
        · exact old x y hy
        · simp only [List.mem_singleton] at hy
          rw [c2, hy, ep, if_pos rfl]; simp
      · rw [if_neg c2] at hy
        exact old x y hy
  · rw [ep]
    by_cases c1 : x = f
    · rw [if_pos c1, c1]
      exact List.nodup_append.mpr ⟨h.nd f, by simp, fun a ha b hb => by simp only [List.mem_singleton] at hb; subst hb; intro z; subst z; exact p1 ha⟩
    · rw [if_neg c1]
      by_cases c2 : x = t
      · rw [if_pos c2, c2]
        exact List.nodup_append.mpr ⟨h.nd t, by simp, fun a ha b hb => by simp only [List.mem_singleton] at hb; subst hb; intro z; subst z; exact p2 ha⟩
      · rw [if_neg c2]; exact h.nd x
  · have := sum_two (m := m) (f := fun x => (pr x).length) (g := fun x => (pr' x).length) (t := t) (u := f) (h.r.p.subset mt) (h.r.p.subset mf) tf
      (by show (pr' t).length = _; rw [ep, if_neg tf, if_pos rfl]; simp) (by show (pr' f).length = _; rw [ep, if_pos rfl]; simp) (fun x a b => by show (pr' x).length = _; rw [ep, if_neg b, if_neg a])
    have := h.cn
    omega
/-- each pair of items swaps at most once -/
theorem Vs.few (h : Vs rk m n row held wy pr) : 2 * n ≤ m * (m - 1) := by
  rw [← h.cn]
  have each : ∀ x ∈ span m, (pr x).length ≤ m - 1 := fun x hx => by
    have h1 := nodup_le (l := pr x) (l' := (span m).erase x) (h.nd x) fun y hy => by
      obtain ⟨_, hy1, alt⟩ := h.pw x y hy
      refine (List.mem_erase_of_ne (fun z : y = x => ?_)).mpr (h.r.p.subset hy1)
      rw [z] at alt
      rcases alt with ⟨a, b, _⟩ | ⟨a, b, _⟩
      · rw [a] at b; cases b
      · rw [a] at b; cases b
    rw [List.length_erase_of_mem hx, span_len] at h1
    exact h1
  have key : ∀ l : List Int, (∀ x ∈ l, (pr x).length ≤ m - 1) → (l.map fun x => (pr x).length).sum ≤ l.length * (m - 1) := by
    intro l
    induction l with
    | nil => intro _; simp
    | cons x l ih =>
      intro hx
      have h1 := hx x (by simp)
      have h2 := ih fun y hy => hx y (List.mem_cons_of_mem _ hy)
      simp only [List.map_cons, List.sum_cons, List.length_cons, Nat.succ_mul]
      omega
  have := key (span m) each
  rw [span_len] at this
  exact this
end
end SW

namespace SW
open PySem PySem.Spec PyProof.Rows L2
/-! ### valid sequences from the start: the pairs are the inversions -/
structure Ss (m : Nat) (row : List Int) (wy : Int → Int) (pr : Int → List Int) : Prop where
  a : ∀ x z : Int, x ∈ row → z ∈ row → x < z → (z ∈ pr x ↔ row.idxOf z < row.idxOf x)
  r : ∀ x : Int, x ∈ row → wy x = 1 → x < (row.idxOf x : Nat)
  l : ∀ x : Int, x ∈ row → wy x = -1 → ((row.idxOf x : Nat) : Int) < x
  z : ∀ x : Int, x ∈ row → wy x ≠ 1 → wy x ≠ -1 → ((row.idxOf x : Nat) : Int) = x
theorem span_at {m : Nat} {i : Nat} (h : i < m) : (span m)[i]? = some (i : Int) := by unfold span; rw [List.getElem?_map, List.getElem?_range h]; rfl
theorem span_idx {m : Nat} {x : Int} (h : x ∈ span m) : (((span m).idxOf x : Nat) : Int) = x := by
  obtain ⟨h0, h1⟩ := span_mem.mp h
  have e : (span m)[x.toNat]? = some x := by rw [span_at (by omega)]; congr 1; omega
  have e2 := idxOf_at h
  obtain ⟨a1, b1⟩ := List.getElem?_eq_some_iff.mp e
  obtain ⟨a2, b2⟩ := List.getElem?_eq_some_iff.mp e2
  have := (List.getElem_inj (span_nodup m)).mp (b2.trans b1.symm)
  omega
theorem Ss.start (m : Nat) : Ss m (span m) (fun _ => 0) fun _ => [] where
  a := fun x z hx hz hxz => by
    have h1 := span_idx hx
    have h2 := span_idx hz
    constructor
    · intro h; cases h
    · intro h; omega
  r := fun x _ h => absurd h (by decide)
  l := fun x _ h => absurd h (by decide)
  z := fun x hx _ _ => span_idx hx
section
variable {rk : List (List Int)} {m n : Nat} {row : List Int} {held : List (List Int)} {wy : Int → Int} {pr : Int → List Int} {s : Nat} {l1 l2 : List Int}
theorem Ss.step {wy' : Int → Int} {pr' : Int → List Int} (g : Ss m row wy pr) (h : Vs rk m n row held wy pr) (hs : s + 1 < m) (hm : mayI rk row s = true)
    (ew : ∀ x, wy' x = if x = row.getD (s + 1) 0 then -1 else if x = row.getD s 0 then 1 else wy x)
    (ep : ∀ x, pr' x = if x = row.getD (s + 1) 0 then pr x ++ [row.getD s 0] else if x = row.getD s 0 then pr x ++ [row.getD (s + 1) 0] else pr x) :
    Ss m (swp row s) wy' pr' ∧ row.getD s 0 < row.getD (s + 1) 0 := by
  have hhl := h.hl
  obtain ⟨f1, t2, w1, w2, p1, p2⟩ := h.look hs hm (List.getElem?_eq_getElem (by omega : s < held.length)) (List.getElem?_eq_getElem (by omega : s + 1 < held.length))
  have hl := h.r.len
  have at1 := at_getD (row := row) (j := s) (by omega)
  have at2 := at_getD (row := row) (j := s + 1) (by omega)
  have idx := fun {x : Int} (hx : x ∈ row) => swp_idx h.r hs hx
  have r' := h.r.swp hs
  have i1 := h.r.idx at1
  have i2 := h.r.idx at2
  have mt : row.getD s 0 ∈ row := List.mem_of_getElem? at1
  have mf : row.getD (s + 1) 0 ∈ row := List.mem_of_getElem? at2
  have memb : ∀ x, x ∈ swp row s → x ∈ row := fun x hx => (swp_perm (by omega)).mem_iff.mp hx
  generalize row.getD s 0 = t at *
  generalize row.getD (s + 1) 0 = f at *
  have tf : t ≠ f := fun z => by rw [z] at i1; omega
  have lt : t < f := by
    rcases Int.lt_or_le t f with q | q
    · exact q
    · have q : f < t := by omega
      exact absurd ((g.a f t mf mt q).mpr (by omega)) p1
  have it : (swp row s).idxOf t = s + 1 := by rw [idx mt, if_pos rfl]
  have jf : (swp row s).idxOf f = s := by rw [idx mf, if_neg (Ne.symm tf), if_pos rfl]
  have io : ∀ x, x ∈ row → x ≠ t → x ≠ f → (swp row s).idxOf x = row.idxOf x ∧ row.idxOf x ≠ s ∧ row.idxOf x ≠ s + 1 := fun x hx a b => by
    refine ⟨by rw [idx hx, if_neg a, if_neg b], fun z => ?_, fun z => ?_⟩
    · have := idxOf_at hx; rw [z, at1] at this; exact a (Option.some.inj this).symm
    · have := idxOf_at hx; rw [z, at2] at this; exact b (Option.some.inj this).symm
  refine ⟨⟨fun x z hx hz hxz => ?_, fun x hx w => ?_, fun x hx w => ?_, fun x hx u v => ?_⟩, lt⟩
  · have hx := memb x hx
    have hz := memb z hz
    have old := g.a x z hx hz hxz
    rw [ep]
    by_cases c1 : x = f
    · rw [if_pos c1]
      have nz : z ≠ t := fun q => by omega
      have nf : z ≠ f := fun q => by omega
      obtain ⟨b1, b2, b3⟩ := io z hz nz nf
      rw [c1, jf, b1]
      rw [c1, i2] at old
      constructor
      · intro hm
        rcases List.mem_append.mp hm with hm | hm
        · have := old.mp hm; omega
        · simp only [List.mem_singleton] at hm; exact absurd hm nz
      · intro hlt
        exact List.mem_append_left _ (old.mpr (by omega))
    · rw [if_neg c1]
      by_cases c2 : x = t
      · rw [if_pos c2, c2, it]
        rw [c2, i1] at old
        by_cases c3 : z = f
        · rw [c3, jf]
          exact ⟨fun _ => by omega, fun _ => by simp⟩
        · have nt : z ≠ t := fun q => by omega
          obtain ⟨b1, b2, b3⟩ := io z hz nt c3
          rw [b1]
          constructor
          · intro hm
            rcases List.mem_append.mp hm with hm | hm
            · have := old.mp hm; omega
            · simp only [List.mem_singleton] at hm; exact absurd hm c3
          · intro hlt
            exact List.mem_append_left _ (old.mpr (by omega))
      · rw [if_neg c2]
        obtain ⟨b1, b2, b3⟩ := io x hx c2 c1
        rw [b1, old]
        by_cases c3 : z = t
        · rw [c3, it, i1]; omega
        · by_cases c4 : z = f
          · rw [c4, jf, i2]; omega
          · rw [(io z hz c3 c4).1]
  · have hx := memb x hx
    by_cases c1 : x = f
    · rw [ew, if_pos c1] at w; cases w
    · rw [ew, if_neg c1] at w
      by_cases c2 : x = t
      · rw [c2, it]
        by_cases c3 : wy t = 1
        · have := g.r t mt c3; rw [i1] at this; omega
        · have := g.z t mt c3 w1; rw [i1] at this; omega
      · rw [if_neg c2] at w
        rw [(io x hx c2 c1).1]
        exact g.r x hx w
  · have hx := memb x hx
    by_cases c1 : x = f
    · rw [c1, jf]
      by_cases c3 : wy f = -1
      · have := g.l f mf c3; rw [i2] at this; omega
      · have := g.z f mf w2 c3; rw [i2] at this; omega
    · rw [ew, if_neg c1] at w
      by_cases c2 : x = t
      · rw [if_pos c2] at w; cases w
      · rw [if_neg c2] at w
        rw [(io x hx c2 c1).1]
        exact g.l x hx w
  · have hx := memb x hx
    rw [ew] at u v
    by_cases c1 : x = f
    · rw [if_pos c1] at v; exact absurd rfl v
    · rw [if_neg c1] at u v
      by_cases c2 : x = t
      · rw [if_pos c2] at u; exact absurd rfl u
      · rw [if_neg c2] at u v
        rw [(io x hx c2 c1).1]
        exact g.z x hx u v
theorem ends_at {x : Int} (h : Row row m) (hx : x ∈ row) : (endsOf row).getD x.toNat 0 = ((row.idxOf x : Nat) : Int) := by
  obtain ⟨h0, h1⟩ := h.mem.mp hx
  have e := endsOf_get (row := row) (x := x.toNat) (by rw [h.len]; omega)
  rw [List.getD_eq_getElem?_getD, e]
  show ((row.idxOf ((x.toNat : Nat) : Int) : Nat) : Int) = _
  have : ((x.toNat : Nat) : Int) = x := by omega
  rw [this]
/-- no decreasing triple -/
theorem Vs.noTrip (h : Vs rk m n row held wy pr) (g : Ss m row wy pr) : tripOf (endsOf row) = .non := by
  have hE : (endsOf row).length = m := by rw [endsOf_len, h.r.len]
  have key : (pairsOf (endsOf row)).findSome? (tripH (endsOf row)) = none := by
    rw [List.findSome?_eq_none_iff]
    intro d hd
    obtain ⟨x, y, rfl, x0, xy, yl, hlt⟩ := pairs_is hd
    have hx : x ∈ row := h.r.mem.mpr ⟨by omega, by omega⟩
    have hy : y ∈ row := h.r.mem.mpr ⟨by omega, by omega⟩
    rw [ends_at h.r hx, ends_at h.r hy] at hlt
    have m1 := (g.a x y hx hy xy).mpr (by omega)
    have wyL : wy y = -1 := by
      rcases (h.pw x y m1).2.2 with ⟨_, b, _⟩ | ⟨_, _, c⟩
      · exact b
      · omega
    have no : nexts (endsOf row) y = [] := by
      unfold nexts
      rw [List.filterMap_eq_nil_iff]
      intro c hc
      obtain ⟨j, hj⟩ := List.getElem?_of_mem hc
      obtain ⟨h2, rfl⟩ := rangeD_is hj
      have hz : (y + 1 + (j : Int)) ∈ row := h.r.mem.mpr ⟨by omega, by omega⟩
      show (if (endsOf row).getD (y + 1 + (j : Int)).toNat 0 < (endsOf row).getD y.toNat 0 then _ else _) = none
      rw [if_neg]
      rw [ends_at h.r hy, ends_at h.r hz]
      intro hlt2
      have m2 := (g.a y (y + 1 + (j : Int)) hy hz (by omega)).mpr (by omega)
      rcases (h.pw _ _ m2).2.2 with ⟨a, _, _⟩ | ⟨_, _, c⟩
      · rw [wyL] at a; cases a
      · omega
    show (nexts (endsOf row) y).head?.map _ = none
    rw [no]; rfl
  unfold tripOf
  rw [key]; rfl
theorem Vs.right (h : Vs rk m n row held wy pr) (g : Ss m row wy pr) : rtI (endsOf row) = (span m).filter fun t => decide (wy t = 1) := by
  unfold rtI
  rw [endsOf_len, h.r.len]
  refine List.filter_congr fun t ht => ?_
  have hx : t ∈ row := h.r.p.mem_iff.mpr ht
  rw [ends_at h.r hx]
  by_cases c : wy t = 1
  · have := g.r t hx c
    rw [decide_eq_true (by omega), decide_eq_true c]
  · rw [decide_eq_false c, decide_eq_false]
    by_cases c2 : wy t = -1
    · have := g.l t hx c2; omega
    · have := g.z t hx c c2; omega
theorem Vs.left (h : Vs rk m n row held wy pr) (g : Ss m row wy pr) : ltI (endsOf row) = (span m).filter fun t => decide (wy t = -1) := by
  unfold ltI
  rw [endsOf_len, h.r.len]
  refine List.filter_congr fun t ht => ?_
  have hx : t ∈ row := h.r.p.mem_iff.mpr ht
  rw [ends_at h.r hx]
  by_cases c : wy t = -1
  · have := g.l t hx c
    rw [decide_eq_true (by omega), decide_eq_true c]
  · rw [decide_eq_false c, decide_eq_false]
    by_cases c2 : wy t = 1
    · have := g.r t hx c2; omega
    · have := g.z t hx c2 c; omega
end
theorem asc_eq : ∀ {a b : List Int}, a.Pairwise (· < ·) → b.Pairwise (· < ·) → (∀ x, x ∈ a ↔ x ∈ b) → a = b
  | [], [], _, _, _ => rfl
  | [], y :: b, _, _, h => by have := (h y).mpr (by simp); cases this
  | x :: a, [], _, _, h => by have := (h x).mp (by simp); cases this
  | x :: a, y :: b, ha, hb, h => by
    obtain ⟨a1, a2⟩ := List.pairwise_cons.mp ha
    obtain ⟨b1, b2⟩ := List.pairwise_cons.mp hb
    have exy : x = y := by
      rcases List.mem_cons.mp ((h x).mp (by simp)) with e | e
      · exact e
      · rcases List.mem_cons.mp ((h y).mpr (by simp)) with e' | e'
        · exact e'.symm
        · have := b1 x e; have := a1 y e'; omega
    subst exy
    congr 1
    refine asc_eq a2 b2 fun z => ?_
    constructor
    · intro hz
      rcases List.mem_cons.mp ((h z).mp (List.mem_cons_of_mem _ hz)) with e | e
      · subst e; have := a1 z hz; omega
      · exact e
    · intro hz
      rcases List.mem_cons.mp ((h z).mpr (List.mem_cons_of_mem _ hz)) with e | e
      · subst e; have := b1 z hz; omega
      · exact e
theorem span_asc (m : Nat) : (span m).Pairwise (· < ·) := by
  unfold span
  rw [List.pairwise_map]
  exact List.pairwise_lt_range.imp fun h => by omega
theorem rangeD_drop {i m : Nat} : rangeD ((i : Int) + 1) (m : Int) = ((span m).drop (i + 1)).map D.int := by
  unfold rangeD
  apply List.ext_getElem?
  intro j
  rw [List.getElem?_map, List.getElem?_map, List.getElem?_drop]
  by_cases h : i + 1 + j < m
  · rw [span_at h, List.getElem?_range (by omega)]
    show some (D.int _) = some (D.int _)
    congr 2
  · rw [List.getElem?_eq_none (by rw [List.length_range]; omega), List.getElem?_eq_none (by rw [span_len]; omega)]; rfl
theorem pairsRow_eq {E : List Int} {m i : Nat} (hE : E.length = m) : pairsRow E (.int (i : Nat)) = ((span m).filter fun z => decide ((i : Int) < z ∧ E.getD z.toNat 0 < E.getD i 0)).map fun z => D.tup [.int (i : Nat), .int z] := by
  have e1 : (span m).filter (fun z => decide ((i : Int) < z ∧ E.getD z.toNat 0 < E.getD i 0)) = ((span m).drop (i + 1)).filter fun z => decide (E.getD z.toNat 0 < E.getD i 0) := by
    rw [← List.take_append_drop (i + 1) (span m), List.filter_append, List.take_append_drop]
    have e2 : ((span m).take (i + 1)).filter (fun z => decide ((i : Int) < z ∧ E.getD z.toNat 0 < E.getD i 0)) = [] := by
      rw [List.filter_eq_nil_iff]
      intro z hz
      obtain ⟨j, hj⟩ := List.getElem?_of_mem hz
      rw [List.getElem?_take] at hj
      by_cases c : j < i + 1
      · rw [if_pos c] at hj
        by_cases c2 : j < m
        · rw [span_at c2] at hj; cases hj; simp; omega
        · rw [List.getElem?_eq_none (by rw [span_len]; omega)] at hj; cases hj
      · rw [if_neg c] at hj; cases hj
    rw [e2, List.nil_append]
    refine List.filter_congr fun z hz => ?_
    obtain ⟨j, hj⟩ := List.getElem?_of_mem hz
    rw [List.getElem?_drop] at hj
    by_cases c2 : i + 1 + j < m
    · rw [span_at c2] at hj; cases hj
      have : (i : Int) < ((i + 1 + j : Nat) : Int) := by omega
      rw [decide_eq_decide]
      exact ⟨fun q => q.2, fun q => ⟨this, q⟩⟩
    · rw [List.getElem?_eq_none (by rw [span_len]; omega)] at hj; cases hj
  show (rangeD ((i : Int) + 1) (E.length : Nat)).filterMap (pairF E (i : Nat)) = _
  rw [hE, rangeD_drop, e1]
  induction (span m).drop (i + 1) with
  | nil => rfl
  | cons z l ih =>
    have ep : pairF E (i : Nat) (.int z) = if E.getD z.toNat 0 < E.getD i 0 then some (D.tup [.int (i : Nat), .int z]) else none := by
      show (if E.getD z.toNat 0 < E.getD ((i : Int)).toNat 0 then _ else _) = _
      rw [Int.toNat_natCast]
    rw [List.map_cons, List.filterMap_cons, List.filter_cons, ep]
    by_cases c : E.getD z.toNat 0 < E.getD i 0
    · rw [if_pos c, if_pos (decide_eq_true c), List.map_cons, ih]
    · rw [if_neg c, if_neg (by rw [decide_eq_false c]; exact Bool.false_ne_true), ih]
/-- the pairs of an item, in order, are its inversions -/
theorem Vs.row {rk : List (List Int)} {m n : Nat} {row : List Int} {held : List (List Int)} {wy : Int → Int} {pr : Int → List Int} (h : Vs rk m n row held wy pr) (g : Ss m row wy pr) {i : Nat} (hi : i < m) {ms : List Int}
    (hp : ms.Perm (pr (i : Nat))) (ho : ms.Pairwise (· ≤ ·)) : pairsRow (endsOf row) (.int (i : Nat)) = (ms.filter fun z => decide ((i : Int) < z)).map fun z => D.tup [.int (i : Nat), .int z] := by
  have hE : (endsOf row).length = m := by rw [endsOf_len, h.r.len]
  have hir : (i : Int) ∈ row := h.r.mem.mpr ⟨by omega, by omega⟩
  rw [pairsRow_eq hE]
  congr 1
  have hnd : ms.Nodup := hp.nodup_iff.mpr (h.nd _)
  have hasc : ms.Pairwise (· < ·) := (List.Pairwise.and ho (List.nodup_iff_pairwise_ne.mp hnd)).imp fun ⟨a, b⟩ => by omega
  refine asc_eq ((span_asc m).filter _) (hasc.filter _) fun z => ?_
  rw [List.mem_filter, List.mem_filter, decide_eq_true_eq, decide_eq_true_eq]
  have e0 : (endsOf row).getD i 0 = ((row.idxOf (i : Int) : Nat) : Int) := by
    have := ends_at h.r hir
    rwa [Int.toNat_natCast] at this
  constructor
  · rintro ⟨h1, h2, h3⟩
    have hz : z ∈ row := h.r.p.mem_iff.mpr h1
    rw [e0, ends_at h.r hz] at h3
    exact ⟨hp.mem_iff.mpr ((g.a _ z hir hz h2).mpr (by omega)), h2⟩
  · rintro ⟨h1, h2⟩
    have h1 := hp.mem_iff.mp h1
    have hz : z ∈ row := (h.pw _ _ h1).2.1
    refine ⟨h.r.p.subset hz, h2, ?_⟩
    rw [e0, ends_at h.r hz]
    have := (g.a _ z hir hz h2).mp h1
    omega
end SW

namespace SW
open PySem PySem.Spec PyProof.Rows L2
/-! ### a slot's own dict, taken as data for good -/
def dFrzK (i : Nat) : DT := fun δ Q => match δ[i]? with
  | some (some (.o _ (.dK ks ds))) => Q (.dK ks ds) (δ.set i (some (.i (.dK ks ds))))
  | _ => False
theorem SR.freezeK {S T H : Hp} {σ : St} {δ : DEnv} {fp : Nat → List Addr} (s : SR S T H σ δ fp) {i : Nat} {a : Addr} {ks : List Key} {ds : List D} (e : δ[i]? = some (some (.o a (.dK ks ds)))) :
    ∃ xs, σ[i]? = some (some (.ref a)) ∧ ks.length = ds.length ∧ RIs S ds xs ∧ Le S (upd S a (.dK (ks.zip xs))) ∧ SR (upd S a (.dK (ks.zip xs))) T H σ (δ.set i (some (.i (.dK ks ds)))) (fset fp i []) := by
  have hv := s.sl i
  rw [e] at hv
  obtain ⟨e1, xs, h1, hl, h2, hfp⟩ := hv
  have ha : a ∈ fp i := by rw [hfp]; exact List.mem_singleton.mpr rfl
  obtain ⟨hs, ht⟩ := s.own i a ha
  have hi : i < σ.length := (List.getElem?_eq_some_iff.mp e1).1
  have s1 := s.put hi (v := some (.ref a)) (w := none) (l := []) rfl (fun a ha => nomatch ha) fun a ha => nomatch ha
  have s2 := s1.adopt (p := a) h1 hs ht fun j hj => by
    by_cases hji : j = i
    · subst hji; rw [fset_same] at hj; cases hj
    · rw [fset_ne hji] at hj; exact hji (s.dis j i a hj ha)
  have hi2 : i < (σ.set i (some (V.ref a))).length := by simpa using hi
  have s3 := s2.put hi2 (v := some (.ref a)) (w := some (.i (.dK ks ds))) (l := []) ⟨⟨_, rfl, by simp only [RI]; exact ⟨a, xs, rfl, upd_same, hl, h2.mono (le_upd hs)⟩⟩, rfl⟩ (fun a ha => nomatch ha) fun a ha => nomatch ha
  refine ⟨xs, e1, hl, h2, le_upd hs, ?_⟩
  have eσ : (σ.set i (some (V.ref a))).set i (some (V.ref a)) = σ := by
    rw [List.set_set]
    apply List.ext_getElem?
    intro j
    by_cases hj : j = i
    · subst hj; rw [List.getElem?_set_self hi, e1]
    · rw [List.getElem?_set_ne (Ne.symm hj)]
  have eδ : (δ.set i none).set i (some (.i (.dK ks ds))) = δ.set i (some (.i (.dK ks ds))) := List.set_set ..
  have ef : fset (fset fp i []) i [] = fset fp i [] := by funext j; unfold fset; split <;> rfl
  rw [eσ, eδ, ef] at s3
  exact s3
theorem sim_frzK (i : Nat) : SimE false (tVar i) (dFrzK i) := by
  intro S T H σ δ fp Q Q' s g k
  unfold dFrzK at g
  split at g
  · rename_i a ks ds e
    obtain ⟨xs, e1, hl, h2, l, s'⟩ := s.freezeK e
    exact ⟨_, e1, k _ H _ _ (.dK ks ds) _ l s' (by simp only [RI]; exact ⟨a, xs, rfl, upd_same, hl, h2.mono l⟩) (fun z => nomatch z) g⟩
  · exact g.elim
section
variable {X : Cx} {K : PySem.W.Frag} {o a b : Expr} {pos apos cpos : Pos} {p1 p2 p3 : Bool} {ra rb rc : TE} {ta tb tc : DT}
theorem dvk (i : Nat) (ho : PE X o (tVar i)) : DE X o false (tVar i) (dFrzK i) := ⟨ho, sim_frzK i⟩
/-! ### d.get(x, e), d a dict that stays -/
def dGetD2 (ta tb tc : DT) : DT := fun δ Q => ta δ fun x δ1 => match x with
  | .dK ks ds => tb δ1 fun y δ2 => tc δ2 fun z δ3 => match y with
    | .int m => ∃ v, (valD ks ds (.inl m)).getD z = v ∧ Q v δ3
    | _ => False
  | _ => False
theorem sim_getD2 (ha : SimE p1 ra ta) (hb : SimE p2 rb tb) (hc : SimE p3 rc tc) : SimE (p1 && (p2 && p3)) (tDGet2 ra rb rc) (dGetD2 ta tb tc) := by
  intro S T H σ δ fp Q Q' s q k
  refine ha S T H σ δ fp _ _ s q fun S1 H1 fp1 v x δ1 l1 s1 r1 u1 q1 => ?_
  cases x with
  | dK ks ds =>
    simp only [RI] at r1
    obtain ⟨c, xs, rfl, h1, hl, h2⟩ := r1
    refine ⟨c, rfl, .inl ⟨_, .inl (s1.s _ _ h1)⟩, hb S1 T H1 σ δ1 fp1 _ _ s1 q1 fun S2 H2 fp2 w y δ2 l2 s2 r2 u2 q2 => ?_⟩
    refine hc S2 T H2 σ δ2 fp2 _ _ s2 q2 fun S3 H3 fp3 w3 z δ3 l3 s3 r3 u3 q3 => ?_
    cases y with
    | int m =>
      obtain ⟨_, rfl, q3⟩ := q3
      simp only [RI] at r2; subst r2
      have rx := h2.mono (l2.trans l3)
      have hH : H3 c = some (.dK (ks.zip xs)) := s3.s _ _ (l3 _ _ (l2 _ _ h1))
      refine ⟨valV (ks.zip xs) (.inl m), .inl ⟨_, .inl m, .inl hH, rfl, rfl⟩, ?_⟩
      rcases rx.val (k := .inl m) (ks := ks) with ⟨a1, a2⟩ | ⟨d', v', a1, a2, a3⟩
      · rw [a1] at q3
        rw [a2]
        exact k S3 H3 fp3 w3 z _ (l1.trans (l2.trans l3)) s3 r3 (u1.trans (u2.trans u3)) q3
      · rw [a1] at q3
        rw [a2]
        exact k S3 H3 fp3 v' d' _ (l1.trans (l2.trans l3)) s3 a3 (u1.trans (u2.trans u3)) q3
    | _ => exact q3.elim
  | _ => exact q1.elim
theorem de_getD2 (hu : X.A.units + 64 < cLine) (h0 : DE X o p1 ra ta) (h : DE X a p2 rb tb) (hx : DE X b p3 rc tc)
    (hbase : attributeBase o "get" X.env (eval o X.env) = eval o X.env := by rfl)
    (hfew : ((backTo cpos (starEach [a, b] X.env)).all (fun x => !x.1) && (backToKw cpos (keywordEach [] X.env)).all (fun x => x.1.isSome)
    && decide (([a, b] : List Expr).length + ([] : List Keyword).length + (if ([] : List Keyword).isEmpty then 0 else 1) < 30)) = true := by rfl)
    (hline : (apos.endLine == cpos.line) = true := by rfl) (htr : backTo cpos (starEach [a, b] X.env) = [(false, eval a X.env), (false, eval b X.env)] := by rfl) :
    DE X (.Call (.Attribute o "get" apos) [a, b] [] cpos) (p1 && (p2 && p3)) (tDGet2 ra rb rc) (dGetD2 ta tb tc) := ⟨pe_dget2 (by omega) h0.pe h.pe hx.pe ⟨hbase, hfew, hline, htr⟩, sim_getD2 h0.sim h.sim hx.sim⟩
/-! ### rules told over a named fragment, for comprehensions -/
theorem call_tupleXK (hK : X.K = K) : CallR X (.type "tuple") (rTupleX K) := by subst hK; exact call_tupleX
theorem op_eqBK (hK : X.K = K) (hu : X.A.units + 64 < cLine) : OpR X (compareOp .Eq) (rEqB K) := by subst hK; exact op_eqB hu
theorem op_neBK (hK : X.K = K) (hu : X.A.units + 64 < cLine) : OpR X (compareOp .NotEq) (rNeB K) := by subst hK; exact op_neB hu
end
end SW

namespace SW
open PySem PySem.Spec PyProof.Rows L2
/-! ### a tuple times a number -/
theorem tup_mul1 (l : Addr) (items : Array Value) (n : Nat) (dd : Option Addr) (sl : Array (Option Value)) (u : Tok) :
    Meets (Builtin.«tuple.__mul__» ⟨[.ref l, .int 1 u], []⟩) (fun _ R s => s.heap.get? l = some { cls := .type "tuple", dict := dd, data := .seq items n, slots := sl } ∧ R (.ok (.ret (Value.ref l))) s) :=
  .of_wp fun prog w A R s h => by
    obtain ⟨hp, g, d, tk, os⟩ := s
    obtain ⟨hl, h⟩ := h
    have f1 := AutoSeq1.idx_int
    have c0 : (decide ((1 : Int) < -(2 ^ 63)) || decide ((1 : Int) ≥ 2 ^ 63)) = false := by decide
    have c1 : (items.isEmpty || (1 : Int) == 1) = true := by simp
    wp_walk using wpAny_loadPart' hl
    repeat (first
      | (refine wpAny_ite_false (decide_eq_false (by rw [c0]; exact Bool.false_ne_true)) ?_; wp_walk using wpAny_loadPart' hl)
      | (refine wpAny_ite_true (decide_eq_true c1) ?_; wp_walk using wpAny_loadPart' hl))
    exact ⟨_, rfl, h⟩
section
variable {X : Cx} {K : PySem.W.Frag} {a b e : Expr} {pos pos' pos2 cpos : Pos} {p p1 p2 : Bool} {ra rb q : TE} {ta tb u : DT} {x : Str}
theorem op_repX : OpR X (binaryOp .Mult) (rRepX X.K) := by
  intro pins s σ H x y v u Q I rx ry h
  obtain ⟨l, k, xs, rfl, rfl, hT, hne, h1, h2, hz, q⟩ := h
  cases rx
  obtain ⟨t, rfl⟩ := ry
  obtain ⟨its, r, ⟨⟨cls, dd, data, sl⟩, ho, hc, n, hd⟩, hs⟩ := I.tuple hT
  simp only at hc hd
  subst hc hd
  have hle : its.length = xs.length := r.length.symm
  have hn : its ≠ [] := fun e => hne (by
    rw [e] at hle
    exact List.eq_nil_of_length_eq_zero hle.symm)
  have hi : its.toArray.isEmpty = false := by
    cases its with
    | nil => exact absurd rfl hn
    | cons a b => rfl
  have hsz0 : its.toArray.size = xs.length := by rw [List.size_toArray, hle]
  have hm : ((its.toArray.size : Nat) : Int) * k ≤ 1000000 := by
    rw [hsz0]
    have a1 : ((xs.length : Nat) : Int) * k ≤ 1000 * k := Int.mul_le_mul_of_nonneg_right (by omega) (by omega)
    omega
  have flen : (List.replicate k.toNat its).flatten.length ≤ sizeLine := by
    rw [PyProof.Rows.lm_len_rep_flat, hle, sizeLine_eq]
    have a1 : k.toNat * xs.length ≤ 1000 * 1000 := Nat.mul_le_mul (by omega) hz
    omega
  have c0 : (decide (k < -(2 ^ 63)) || decide (k ≥ 2 ^ 63)) = false := by
    rw [decide_eq_false (by omega), decide_eq_false (by omega)] <;> rfl
  have c1 : (its.toArray.isEmpty || k == 1) = false := by
    rw [hi, Bool.false_or]
    exact beq_eq_false_iff_ne.mpr (by omega)
  have c2 : (decide (k ≤ 0) || its.toArray.isEmpty) = false := by
    rw [hi, Bool.or_false]
    exact decide_eq_false (by omega)
  have c4 : Builtin.Tuple.tupleTooMany (((its.toArray.size : Nat) : Int) * k) = false := by
    unfold Builtin.Tuple.tupleTooMany
    rw [sizeLine_eq]
    exact decide_eq_false (by omega)
  refine wpAny_binaryOp_repeat_ref (T := "tuple") (U := "int") (by decide) ⟨_, ho, rfl⟩ (fun s' => typeIs_int s' k t) noFill_tuple_mul F.fills_int_mul F.slot_int_rmul repeat_tuple F.slot_int_index.lookup
    (call_meets F.slot_int_rmul (typeIs_int s k t) F.entry_int_rmul (F.args_int_rmul_2 _ _) (int_rmul_tuple k t l its.toArray n dd sl)
      ⟨ho, rfl, ⟨_, ho, rfl⟩, call_meets F.slot_tuple_mul ⟨_, ho, rfl⟩ F.entry_tuple_mul (F.args_tuple_mul_2 _ _) (tuple_mulW l its.toArray n dd sl k t c0 c1 c2 (by omega) c4 (by rw [size_rep, List.size_toArray]; exact flen)) ⟨ho, ?_⟩⟩)
  rw [size_rep]
  exact EP_new (s := s) (t' := s.toks) I (by rw [PyProof.Rows.lm_len_rep_flat, sizeLine_eq]; have a1 : k.toNat * xs.length ≤ 1000 * 1000 := Nat.mul_le_mul (by omega) hz; omega) (r.rep k.toNat) (fun b ob q => Heap.get?_push_of_some _ q) (Nat.le_refl _) (Heap.get?_push_size _ rfl) q
def rRep1 (K : PySem.W.Frag) : R2 := fun x y H Q => ∃ l xs, x = .ref l ∧ y = .int 1 ∧ SqT K H l xs ∧ Q (.ref l) H
theorem op_rep1 : OpR X (binaryOp .Mult) (rRep1 X.K) := by
  intro pins s σ H x y v u Q I rx ry h
  obtain ⟨l, xs, rfl, rfl, hT, q⟩ := h
  cases rx
  obtain ⟨t, rfl⟩ := ry
  obtain ⟨its, r, ⟨⟨cls, dd, data, sl⟩, ho, hc, n, hd⟩, hs⟩ := I.tuple hT
  simp only at hc hd
  subst hc hd
  exact wpAny_binaryOp_repeat_ref (T := "tuple") (U := "int") (by decide) ⟨_, ho, rfl⟩ (fun s' => typeIs_int s' 1 t) noFill_tuple_mul F.fills_int_mul F.slot_int_rmul repeat_tuple F.slot_int_index.lookup
    (call_meets F.slot_int_rmul (typeIs_int s 1 t) F.entry_int_rmul (F.args_int_rmul_2 _ _) (int_rmul_tuple 1 t l its.toArray n dd sl)
      ⟨ho, rfl, ⟨_, ho, rfl⟩, call_meets F.slot_tuple_mul ⟨_, ho, rfl⟩ F.entry_tuple_mul (F.args_tuple_mul_2 _ _) (tup_mul1 l its.toArray n dd sl t) ⟨ho, ⟨.ref l, H, I, rfl, q⟩⟩⟩)
def rRepA (K : PySem.W.Frag) : R2 := fun x y H Q => rRep1 K x y H Q ∨ rRepX K x y H Q
theorem op_repA : OpR X (binaryOp .Mult) (rRepA X.K) := op_rep1.or op_repX
def repD : D → D → (D → Prop) → Prop
  | .tup ds, .int m, q => (1 ≤ m ∧ m ≤ 1000 ∧ ds ≠ [] ∧ ds.length ≤ 1000) ∧ q (.tup (List.replicate m.toNat ds).flatten)
  | _, _, _ => False
theorem RIs.repl {S : Hp} {ds : List D} {xs : List V} (h : RIs S ds xs) : ∀ n : Nat, RIs S (List.replicate n ds).flatten (List.replicate n xs).flatten
  | 0 => .nil
  | n + 1 => by
    rw [List.replicate_succ, List.replicate_succ, List.flatten_cons, List.flatten_cons]
    exact h.append (h.repl n)
theorem os_rep : OpS (rRepA K) repD := by
  intro S T H σ δ fp x y v w Q Q' s rx ry q k
  unfold repD at q
  split at q
  · rename_i ds m
    obtain ⟨a, xs, rfl, h1, h2⟩ := rx
    cases ry
    obtain ⟨⟨m0, m1, hn, hl⟩, q⟩ := q
    by_cases c : m = 1
    · subst c
      have e : (List.replicate (1 : Int).toNat ds).flatten = ds := by simp
      rw [e] at q
      exact .inl ⟨a, xs, rfl, rfl, h1.sq s.s, k S H _ (.tup ds) (Le.refl _) s (ri_tup h1 h2) (Ex.refl _ _) q⟩
    · refine .inr ⟨a, m, xs, rfl, rfl, h1.sq s.s, fun z => ?_, by omega, m1, by rw [← h2.len]; exact hl, fun p ob hp hd => ?_⟩
      · subst z
        exact hn (List.eq_nil_of_length_eq_zero h2.len)
      · obtain ⟨a1, a2, a3, a4⟩ := s.newTup (h2.repl m.toNat) hp hd
        exact k _ _ _ _ a1 a2 a3 a4 q
  · exact q.elim
/-! ### sum of a list or a tuple -/
def rSumA (K : PySem.W.Frag) : List V → Hp → VK → Prop := fun vs H Q => ∃ (a : Addr) (ns : List Int), vs = [V.ref a] ∧ (SqL K H a (ns.map V.int) ∨ SqT K H a (ns.map V.int)) ∧ Q (.int ns.sum) H
theorem cr_sumA (hK : X.K = K) (hc : X.calm = true) : CallR X (.builtin "sum") (rSumA K) := by
  subst hK
  intro pins s σ H vs us Q I r h
  obtain ⟨a, ns, rfl, hs | hs, q⟩ := h
  · exact cr_sum hc pins s σ H _ us Q I r ⟨a, ns, rfl, hs, q⟩
  · obtain ⟨its, rv, hl, _⟩ := I.tuple hs
    rw [Vals.ref1 r]
    have hi : IntsAre its.toArray.toList ns := ints_of_vals rv
    obtain ⟨xs, hx⟩ := hi.allInts.items
    have hn : numsOf its.toArray.toList = ns := hi.numsOf
    have hx2 : its.toArray = intItems xs := by rw [← hx]
    rw [hx2] at hl hn
    rw [nums_intItems] at hn
    refine PySem.W.ktm_sumG (I.ok.hd hc) hl fun h' tk t' hk => ⟨.int _, H, I.kept hk, ⟨t', ?_⟩, q⟩
    rw [preSum_eq, List.take_of_length_le (by simp), hn]
def sumA : D → (D → Prop) → Prop
  | .lst ds, q => ∃ ns : List Int, ds = ns.map D.int ∧ q (.int ns.sum)
  | .tup ds, q => ∃ ns : List Int, ds = ns.map D.int ∧ q (.int ns.sum)
  | _, _ => False
theorem c1_sumA : Call1 (rSumA K) sumA := by
  intro S T H σ δ fp x v Q Q' s rx q k
  unfold sumA at q
  split at q
  · obtain ⟨a, xs, rfl, h1, h2⟩ := rx
    obtain ⟨ns, rfl, q⟩ := q
    have e := h2.ints
    subst e
    exact ⟨_, _, rfl, .inl (SqL.of h1), k S H _ _ (Le.refl _) s ri_int (Ex.refl _ _) q⟩
  · obtain ⟨a, xs, rfl, h1, h2⟩ := rx
    obtain ⟨ns, rfl, q⟩ := q
    have e := h2.ints
    subst e
    exact ⟨_, _, rfl, .inr (h1.sq s.s), k S H _ _ (Le.refl _) s ri_int (Ex.refl _ _) q⟩
  · exact q.elim
/-! ### len(set([..])), whole numbers -/
def dLenSetL (ta : DT) : DT := fun δ Q => ta δ fun x δ1 => match x with
  | .lst ds => ∃ ns : List Int, ds = ns.map D.int ∧ ns.Nodup ∧ ns.length ≤ 1000 ∧ Q (.int (ns.length : Nat)) δ1
  | _ => False
theorem de_lenSetL (hc : X.calm = true) (hg : Gl X "len") (hm : X.mg "len" = none) (hg2 : Gl X "set") (hm2 : X.mg "set" = none) (ha : DV X a p ra ta)
    (na : starEach [a] X.env = (false, eval a X.env) :: starEach [] X.env := by rfl) : DE X (.Call (.Name "len" pos) [.Call (.Name "set" pos') [a] [] pos2] [] cpos) p (RZ.tLenSetI X.K ra) (dLenSetL ta) := by
  refine ⟨RZ.pe_lenSetI hg hm hg2 hm2 ha.pe hc na, ?_⟩
  intro S T H σ δ fp Q Q' s q k
  refine ha.sim S T H σ δ fp _ _ s q fun S1 H1 fp1 v x δ1 l1 s1 r1 u1 q1 => ?_
  cases x with
  | lst ds =>
    obtain ⟨c, xs, rfl, h1, h2⟩ := r1
    obtain ⟨ns, rfl, hn, hl, q1⟩ := q1
    have e := h2.ints
    subst e
    exact ⟨c, ns, rfl, SqL.of h1, hn, by omega, k S1 H1 fp1 _ _ δ1 l1 s1 ri_int u1 q1⟩
  | _ => exact q1.elim
/-! ### x += xs, x a slot's own list -/
theorem seq_list_iadd : seqSlot? (.type "list") (dunderI "add") = pure (some (.builtin "list.__iadd__")) := PySem.seqSlot_of PySem.F.slot_list_iadd.lookup (by decide +kernel)
theorem inplace_iadd {M : Model} {A : Around} {E : Value → Shared → Prop} {s : Shared} {v w : Value} {Q : Value → Shared → Prop} (ha : s.TypeIs v "list") (hb : s.TypeIs w "list")
    (hc : wpAny M A (call (.builtin "list.__iadd__") [v, w]) Q E s) : wpAny M A (inplaceOp .Add v w) Q E s := by
  unfold inplaceOp
  refine wpAny_holding ?_
  have hfi : fillsInplaceSlot (.type "list") "add" (Operator.Add == .Add) = pure false := by
    unfold fillsInplaceSlot
    show (typeLookup (.type "list") (dunderI "add") >>= fun fi => pure (fi.isSome && !isSeqSlot fi)) = pure false
    rw [PySem.F.slot_list_iadd.lookup]
    show (pure (true && !isSeqSlot (some (.builtin "list.__iadd__"))) : Sem Bool) = pure false
    rw [show isSeqSlot (some (.builtin "list.__iadd__")) = true from by decide +kernel]; rfl
  refine wpAny_bind (wpAny_typeOf ha (wpAny_bind (wpAny_of_eq hfi ?_)))
  show wpAny M A (if false = true then _ else _) Q E s
  rw [if_neg Bool.false_ne_true]
  refine wpAny_bind (PySem.wpAny_binaryOp1_none (nm := "add") ha hb PySem.noFill_list_add ?_)
  refine wpAny_bind (wpAny_of_eq seq_list_iadd ?_)
  exact wpAny_bind (wpAny_rule hc)
def ipExt : TIp := fun x y H Q => ∃ l b xs zs, x = .ref l ∧ y = .ref b ∧ H l = some (.lst xs) ∧ H b = some (.lst zs) ∧ xs.length + zs.length ≤ sizeLine ∧ Q (.ref l) (upd H l (.lst (xs ++ zs)))
theorem ip_ext : PIp X .Add ipExt := by
  intro pins s σ H x y v u Q I r1 r2 h
  obtain ⟨l, b, xs, zs, rfl, rfl, hH, hB, hz, q⟩ := h
  cases r1
  cases r2
  obtain ⟨z, its, n, r, hl, e⟩ := I.lstM hH
  obtain ⟨z2, its2, n2, r2, hl2, e2⟩ := I.lstM hB
  have hsz : its.toArray.size + its2.toArray.size ≤ sizeLine := by rw [List.size_toArray, List.size_toArray]; omega
  have hlong : ¬ (!its.toArray.isEmpty && Builtin.List.listTooLong (its.toArray.size + its2.toArray.size)) = true := by
    rw [notLongL hsz, Bool.and_false]
    exact Bool.false_ne_true
  refine inplace_iadd ⟨_, e, rfl⟩ ⟨_, e2, rfl⟩ (call_meets F.slot_list_iadd ⟨_, e, rfl⟩ F.entry_list_iadd (F.args_list_iadd_2 _ _)
    (AutoSeq1.list___iadd___list_list_0 l its.toArray n b its2.toArray n2 hlong (by rw [List.size_toArray]; omega) (by omega)) ⟨e, e2, ?_⟩)
  refine ⟨.ref l, _, I.lset (its' := its ++ its2) hH e (by simp) (r.append r2) ?_, rfl, q⟩
  rw [List.length_append]
  omega
def dAugExt (i : Nat) (u : DT) : DS := fun D δ => match δ[i]? with
  | some (some (.o _ (.lst _))) => u δ fun d δ1 => match δ1[i]?, d with
    | some (some (.o a (.lst ds))), .lst es => ds.length + es.length ≤ sizeLine ∧ D.nx (δ1.set i (some (.o a (.lst (ds ++ es)))))
    | _, _ => False
  | _ => False
theorem sim_augExt (i : Nat) (h : SimV p q u) : SimS (tAug i q ipExt) (dAugExt i u) := by
  intro S T H σ δ fp D D' s g k
  unfold dAugExt at g
  split at g
  · rename_i a0 ds0 e0
    have hv := s.sl i
    rw [e0] at hv
    obtain ⟨ev, xs0, hx0, _, _⟩ := hv
    refine ⟨.ref a0, ev, ?_⟩
    refine h S T H σ δ fp _ _ s g fun S1 H1 fp1 v d δ1 l1 s1 r1 u1 q1 => ?_
    split at q1
    · rename_i a ds es ei
      have hv1 := s1.sl i
      rw [ei] at hv1
      obtain ⟨ev1, xs, hx, rx, hfp⟩ := hv1
      have ea : a0 = a := by have := ev.symm.trans ev1; cases this; rfl
      subst ea
      obtain ⟨b, ys, rfl, hb, ry⟩ := r1
      refine ⟨a0, b, xs, ys, rfl, rfl, hx, hb, by rw [← rx.len, ← ry.len]; exact q1.1, ?_⟩
      have hi : i < σ.length := (List.getElem?_eq_some_iff.mp ev).1
      have s2 := s1.mut (H' := upd H1 a0 (.lst (xs ++ ys))) ev1 (w' := .lst (ds ++ es)) (l := [a0]) ⟨_, upd_same, rx.append ry, rfl⟩ (fun b w hb hbw => by rw [upd_ne (fun z => hb (by rw [hfp, z]; exact List.mem_singleton.mpr rfl))]; exact hbw) fun b hb => .inl (by rw [hfp]; exact hb)
      have eσ : σ.set i (some (.ref a0)) = σ := by
        apply List.ext_getElem?
        intro j
        by_cases hj : j = i
        · subst hj; rw [List.getElem?_set_self hi, ev]
        · rw [List.getElem?_set_ne (Ne.symm hj)]
      show D.nx (List.set σ i (some (.ref a0))) _
      rw [eσ]
      exact k.nx S1 _ σ _ _ l1 s2 q1.2
    · exact q1.elim
  · exact g.elim
theorem ds_augExt (i : Nat) (hN : X.N.Nodup) (h : DV X e p q u) (hi : X.N[i]? = some x := by rfl) (hx : Loc X.env.scope x := by first | exact .inl rfl | exact .inr rfl) (hf : X.fn x = true ∨ X.env.scope.names.lookup x = some .local := by first | exact .inl rfl | exact .inr rfl | assumption) :
    DSt X (.AugAssign (.Name x pos') .Add e pos) (tAug i q ipExt) (dAugExt i u) := ⟨ps_aug hN hi hx h.pe ip_ext hf, sim_augExt i h.sim⟩
end
end SW

namespace SW
open PySem PySem.Spec PyProof.Rows L2
/-! ### people in a ring, plainly -/
def zss (a b : Int) : List Int := (List.range (b - a).toNat).map fun (i : Nat) => a + (i : Int)
theorem mem_ints {a b x : Int} : x ∈ zss a b ↔ a ≤ x ∧ x < b := by
  unfold zss
  rw [List.mem_map]
  constructor
  · rintro ⟨i, hi, rfl⟩
    rw [List.mem_range] at hi
    omega
  · rintro ⟨h1, h2⟩
    exact ⟨(x - a).toNat, List.mem_range.mpr (by omega), by omega⟩
theorem ints_asc (a b : Int) : (zss a b).Pairwise (· < ·) := by
  unfold zss
  rw [List.pairwise_map]
  exact List.pairwise_lt_range.imp fun h => by omega
theorem ints_len (a b : Int) : (zss a b).length = (b - a).toNat := by unfold zss; rw [List.length_map, List.length_range]
theorem rangeD_ints (a b : Int) : rangeD a b = (zss a b).map D.int := by
  unfold rangeD zss
  rw [List.map_map]; rfl
theorem ints_span (n : Nat) : zss 0 n = span n := by
  refine asc_eq (ints_asc _ _) (span_asc n) fun x => ?_
  rw [mem_ints, span_mem]
def mvAt (ms : List Int) (u : Int) : Int := ms.getD (u % (ms.length : Nat)).toNat 0
def endR (ms : List Int) (u : Int) : Int := u + mvAt ms u
/-- the greater copies with lesser ends -/
def lat (ms : List Int) (c : Int) : List Int := (zss (c + 1) (c + 2 * (ms.length : Nat) - 1)).filter fun z => decide (endR ms z < endR ms c)
structure Dis (ms : List Int) (n : Nat) : Prop where
  l : ms.length = n
  n0 : 3 ≤ n
  n1 : n ≤ 20
  b : ∀ x ∈ ms, -(n : Int) < x ∧ x < n
  s : ms.sum = 0
  d : ((List.range n).map fun (i : Nat) => ((i : Int) + ms.getD i 0) % (n : Int)).Nodup
section
variable {ms : List Int} {n : Nat}
theorem Dis.at (h : Dis ms n) (u : Int) : -(n : Int) < mvAt ms u ∧ mvAt ms u < n := by
  have n0 := h.n0
  have hl := h.l
  have h1 := Int.emod_nonneg u (show ((n : Nat) : Int) ≠ 0 by omega)
  have h2 := Int.emod_lt_of_pos u (show (0 : Int) < (n : Nat) by omega)
  have hi : (u % ((n : Nat) : Int)).toNat < ms.length := by omega
  unfold mvAt
  rw [hl, List.getD_eq_getElem?_getD, List.getElem?_eq_getElem hi]
  exact h.b _ (List.getElem_mem hi)
/-- a wider look finds nothing more -/
theorem Dis.wide (h : Dis ms n) (c hi : Int) (hh : c + 2 * (n : Int) - 1 ≤ hi) : (zss (c + 1) hi).filter (fun z => decide (endR ms z < endR ms c)) = lat ms c := by
  have n0 := h.n0
  refine asc_eq ((ints_asc _ _).filter _) ((ints_asc _ _).filter _) fun z => ?_
  unfold lat
  rw [List.mem_filter, List.mem_filter, mem_ints, mem_ints, h.l]
  constructor
  · rintro ⟨⟨h1, h2⟩, h3⟩
    refine ⟨⟨h1, ?_⟩, h3⟩
    have h4 := of_decide_eq_true h3
    have a1 := h.at z
    have a2 := h.at c
    unfold endR at h4
    omega
  · rintro ⟨⟨h1, h2⟩, h3⟩
    exact ⟨⟨h1, by omega⟩, h3⟩
end
theorem lat_mem {ms : List Int} {c z : Int} (h : z ∈ lat ms c) : c < z ∧ endR ms z < endR ms c := by
  unfold lat at h
  rw [List.mem_filter, mem_ints] at h
  exact ⟨by omega, of_decide_eq_true h.2⟩
theorem lat_len (ms : List Int) (c : Int) : (lat ms c).length ≤ 2 * ms.length := by
  unfold lat
  have h1 := List.length_filter_le (fun z => decide (endR ms z < endR ms c)) (zss (c + 1) (c + 2 * (ms.length : Nat) - 1))
  rw [ints_len] at h1
  omega
def pairR (ms : List Int) (x : Int) : List D := (lat ms x).map fun z => D.tup [.int x, .int z]
def pairsR (ms : List Int) : List D := (span ms.length).flatMap (pairR ms)
def tripF (ms : List Int) : D → List D
  | .tup [.int x, .int y] => (lat ms y).map fun z => D.tup [.int x, .int y, .int z]
  | _ => []
def tripsR (ms : List Int) : List D := (pairsR ms).flatMap (tripF ms)
def tripR (ms : List Int) : D := (tripsR ms).head?.getD .non
def NoTrip (ms : List Int) : Prop := ∀ x y z : Int, x < y → y < z → endR ms y < endR ms x → endR ms z < endR ms y → False
theorem pairsR_is {ms : List Int} {d : D} (h : d ∈ pairsR ms) : ∃ x y : Int, d = .tup [.int x, .int y] ∧ 0 ≤ x ∧ x < (ms.length : Nat) ∧ y ∈ lat ms x := by
  unfold pairsR at h
  obtain ⟨x, hx, hd⟩ := List.mem_flatMap.mp h
  obtain ⟨y, hy, rfl⟩ := List.mem_map.mp hd
  obtain ⟨h0, h1⟩ := span_mem.mp hx
  exact ⟨x, y, rfl, h0, h1, hy⟩
theorem NoTrip.nil {ms : List Int} (h : NoTrip ms) : tripsR ms = [] := by
  unfold tripsR
  rw [List.flatMap_eq_nil_iff]
  intro d hd
  obtain ⟨x, y, rfl, _, _, hy⟩ := pairsR_is hd
  show (lat ms y).map _ = []
  rw [List.map_eq_nil_iff, List.eq_nil_iff_forall_not_mem]
  intro z hz
  obtain ⟨a1, a2⟩ := lat_mem hy
  obtain ⟨b1, b2⟩ := lat_mem hz
  exact h x y z a1 b1 a2 b2
theorem flatMap_len_le {α β : Type} {f : α → List β} {k : Nat} : ∀ l : List α, (∀ x ∈ l, (f x).length ≤ k) → (l.flatMap f).length ≤ l.length * k
  | [], _ => by simp
  | x :: l, h => by
    have h1 := h x (by simp)
    have h2 := flatMap_len_le l fun y hy => h y (List.mem_cons_of_mem _ hy)
    rw [List.flatMap_cons, List.length_append, List.length_cons, Nat.succ_mul]
    omega
theorem pairsR_len (ms : List Int) : (pairsR ms).length ≤ ms.length * (2 * ms.length) := by
  have := flatMap_len_le (f := pairR ms) (k := 2 * ms.length) (span ms.length) fun x _ => by unfold pairR; rw [List.length_map]; exact lat_len ms x
  rw [span_len] at this
  exact this
theorem tripF_len (ms : List Int) (d : D) : (tripF ms d).length ≤ 2 * ms.length := by
  unfold tripF
  split
  · rw [List.length_map]; exact lat_len ms _
  · simp
theorem tripsR_len (ms : List Int) : (tripsR ms).length ≤ (pairsR ms).length * (2 * ms.length) := flatMap_len_le _ fun d _ => tripF_len ms d
theorem flat_take {α β : Type} {f : α → List β} {l : List α} {i : Nat} : ((l.take i).flatMap f).length ≤ (l.flatMap f).length := by
  have : l.flatMap f = (l.take i).flatMap f ++ (l.drop i).flatMap f := by rw [← List.flatMap_append, List.take_append_drop]
  rw [this, List.length_append]; omega
end SW

namespace SW
open PySem PySem.Spec PyProof.Rows L2
/-! ### a walk in a ring, without turning back -/
theorem nodup_map_on {α β : Type} {f : α → β} : ∀ {l : List α}, l.Nodup → (∀ x ∈ l, ∀ y ∈ l, f x = f y → x = y) → (l.map f).Nodup
  | [], _, _ => List.nodup_nil
  | a :: l, hn, h => by
    obtain ⟨h1, h2⟩ := List.nodup_cons.mp hn
    rw [List.map_cons, List.nodup_cons]
    refine ⟨fun hm => ?_, nodup_map_on h2 fun x hx y hy => h x (List.mem_cons_of_mem _ hx) y (List.mem_cons_of_mem _ hy)⟩
    obtain ⟨b, hb, e⟩ := List.mem_map.mp hm
    have := h b (List.mem_cons_of_mem _ hb) a (by simp) e
    subst this
    exact h1 hb
theorem sum_set {l : List Int} {i : Nat} {v : Int} (h : i < l.length) : (l.set i v).sum = l.sum - l.getD i 0 + v := by
  induction l generalizing i with
  | nil => simp at h
  | cons a l ih =>
    cases i with
    | zero => simp only [List.set_cons_zero, List.sum_cons, List.getD_cons_zero]; omega
    | succ i =>
      have := ih (i := i) (by simpa using h)
      simp only [List.set_cons_succ, List.sum_cons, List.getD_cons_succ, this]; omega
structure Wr (n : Nat) (row : List Int) (held : List (List Int)) (mv : List Int) : Prop where
  n0 : 3 ≤ n
  n1 : n ≤ 20
  p : row.Perm (span n)
  hl : held.length = n
  ml : mv.length = n
  s : mv.sum = 0
  pos : ∀ (i : Nat) (x : Int), row[i]? = some x → (x + mv.getD x.toNat 0) % (n : Int) = (i : Int)
  vis : ∀ x j : Int, 0 ≤ x → x < n → (0 ≤ j ∧ j ≤ mv.getD x.toNat 0) ∨ (mv.getD x.toNat 0 ≤ j ∧ j ≤ 0) → x ∈ held.getD ((x + j) % (n : Int)).toNat []
  bnd : ∀ x : Nat, x < n → -(n : Int) < mv.getD x 0 ∧ mv.getD x 0 < n
  inv : ∀ u v : Int, u < v → endR mv v < endR mv u → 0 < mvAt mv u ∧ mvAt mv v < 0
theorem mod_idx {n : Nat} (hn : 0 < n) (u : Int) : 0 ≤ u % (n : Int) ∧ u % (n : Int) < n := ⟨Int.emod_nonneg u (by omega), Int.emod_lt_of_pos u (by omega)⟩
theorem zeros_getD (n x : Nat) : (List.replicate n (0 : Int)).getD x 0 = 0 := by
  rw [List.getD_eq_getElem?_getD]
  by_cases h : x < n
  · rw [List.getElem?_replicate_of_lt h]; rfl
  · rw [List.getElem?_eq_none (by rw [List.length_replicate]; omega)]; rfl
theorem zeros_sum : ∀ n : Nat, (List.replicate n (0 : Int)).sum = 0
  | 0 => rfl
  | n + 1 => by rw [List.replicate_succ, List.sum_cons, zeros_sum n]; rfl
theorem Wr.start {n : Nat} (h0 : 3 ≤ n) (h1 : n ≤ 20) : Wr n (span n) ((span n).map fun x => [x]) (List.replicate n 0) where
  n0 := h0
  n1 := h1
  p := List.Perm.refl _
  hl := by rw [List.length_map, span_len]
  ml := List.length_replicate
  s := zeros_sum n
  pos := fun i x e => by
    have hi : i < n := by have := (List.getElem?_eq_some_iff.mp e).1; rwa [span_len] at this
    rw [span_at hi] at e; cases e
    rw [zeros_getD, Int.add_zero, Int.emod_eq_of_lt (by omega) (by omega)]
  vis := fun x j x0 x1 hj => by
    rw [zeros_getD] at hj
    have : j = 0 := by omega
    subst this
    rw [Int.add_zero, Int.emod_eq_of_lt x0 x1, List.getD_eq_getElem?_getD, List.getElem?_map, span_at (by omega)]
    show x ∈ [((x.toNat : Nat) : Int)]
    simp; omega
  bnd := fun x hx => by rw [zeros_getD]; omega
  inv := fun u v huv h => by
    unfold endR mvAt at h
    rw [zeros_getD, zeros_getD] at h; omega
section
variable {n : Nat} {row : List Int} {held : List (List Int)} {mv : List Int}
theorem Wr.ends_inj (h : Wr n row held mv) {u v : Int} (e : endR mv u = endR mv v) : u = v := by
  have hn : 0 < n := by have := h.n0; omega
  have a1 := mod_idx hn u
  have a2 := mod_idx hn v
  obtain ⟨i, hi⟩ := List.getElem?_of_mem (h.p.mem_iff.mpr (span_mem.mpr a1))
  obtain ⟨j, hj⟩ := List.getElem?_of_mem (h.p.mem_iff.mpr (span_mem.mpr a2))
  have p1 := h.pos i _ hi
  have p2 := h.pos j _ hj
  have e' : u + mv.getD (u % (n : Int)).toNat 0 = v + mv.getD (v % (n : Int)).toNat 0 := by
    unfold endR mvAt at e; rw [h.ml] at e; exact e
  have q1 : (u + mv.getD (u % (n : Int)).toNat 0) % (n : Int) = (i : Int) := by
    rw [← p1, Int.emod_add_emod]
  have q2 : (v + mv.getD (v % (n : Int)).toNat 0) % (n : Int) = (j : Int) := by
    rw [← p2, Int.emod_add_emod]
  rw [e', q2] at q1
  have : j = i := by omega
  subst this
  rw [hi] at hj
  have ex : u % (n : Int) = v % (n : Int) := Option.some.inj hj
  rw [ex] at e'
  omega
theorem Wr.dis (h : Wr n row held mv) : Dis mv n where
  l := h.ml
  n0 := h.n0
  n1 := h.n1
  b := fun x hx => by
    obtain ⟨i, hi⟩ := List.getElem?_of_mem hx
    have hl := (List.getElem?_eq_some_iff.mp hi).1
    rw [h.ml] at hl
    have := h.bnd i hl
    rw [List.getD_eq_getElem?_getD, hi] at this
    exact this
  s := h.s
  d := by
    refine nodup_map_on List.nodup_range fun x hx y hy e => ?_
    rw [List.mem_range] at hx hy
    obtain ⟨i, hi⟩ := List.getElem?_of_mem (h.p.mem_iff.mpr (span_mem.mpr ⟨Int.natCast_nonneg x, by omega⟩))
    obtain ⟨j, hj⟩ := List.getElem?_of_mem (h.p.mem_iff.mpr (span_mem.mpr ⟨Int.natCast_nonneg y, by omega⟩))
    have p1 := h.pos i _ hi
    have p2 := h.pos j _ hj
    rw [Int.toNat_natCast] at p1 p2
    rw [p1, p2] at e
    have : i = j := by omega
    subst this
    rw [hi] at hj
    have := Option.some.inj hj
    omega
theorem Wr.noTrip (h : Wr n row held mv) : NoTrip mv := fun x y z hxy hyz h1 h2 => by
  have a := (h.inv x y hxy h1).2
  have b := (h.inv y z hyz h2).1
  omega
end
end SW

namespace SW
open PySem PySem.Spec PyProof.Rows L2
section
variable {n : Nat} {row : List Int} {held : List (List Int)} {mv : List Int}
theorem set_getD {l : List Int} {i j : Nat} {v : Int} (h : i < l.length) : (l.set i v).getD j 0 = if j = i then v else l.getD j 0 := by
  rw [List.getD_eq_getElem?_getD, List.getD_eq_getElem?_getD]
  by_cases c : j = i
  · subst c; rw [if_pos rfl, List.getElem?_set_self h]; rfl
  · rw [if_neg c, List.getElem?_set_ne (Ne.symm c)]
/-- one step of the walk -/
theorem Wr.step {a b : Nat} {t f : Int} {l1 l2 : List Int} (h : Wr n row held mv) (ha : a < n) (hb : b < n) (hab : (b : Int) = ((a : Int) + 1) % (n : Int)) (et : row[a]? = some t) (ef : row[b]? = some f)
    (e1 : held[a]? = some l1) (e2 : held[b]? = some l2) (ht : 0 ≤ mv.getD t.toNat 0) (hf : mv.getD f.toNat 0 ≤ 0) (c1 : f ∉ l1) (c2 : t ∉ l2) :
    Wr n ((row.set a f).set b t) ((held.set a (l1 ++ [f])).set b (l2 ++ [t])) ((mv.set t.toNat (mv.getD t.toNat 0 + 1)).set f.toNat (mv.getD f.toNat 0 - 1)) := by
  have n0 := h.n0
  have n1 := h.n1
  have hrl : row.length = n := by rw [h.p.length_eq, span_len]
  have hhl := h.hl
  have hml := h.ml
  have hnn : (0 : Int) < (n : Int) := by omega
  have rnd : row.Nodup := h.p.nodup_iff.mpr (span_nodup n)
  have nab : a ≠ b := fun z => by
    rw [← z] at hab
    by_cases c : (a : Int) + 1 < n
    · rw [Int.emod_eq_of_lt (by omega) c] at hab; omega
    · have : (a : Int) + 1 = n := by omega
      rw [this, Int.emod_self] at hab; omega
  have ntf : t ≠ f := fun z => by
    subst z
    obtain ⟨x1, y1⟩ := List.getElem?_eq_some_iff.mp et
    obtain ⟨x2, y2⟩ := List.getElem?_eq_some_iff.mp ef
    exact nab ((List.getElem_inj rnd).mp (y1.trans y2.symm))
  obtain ⟨t0, t1⟩ := span_mem.mp (h.p.subset (List.mem_of_getElem? et))
  obtain ⟨f0, f1⟩ := span_mem.mp (h.p.subset (List.mem_of_getElem? ef))
  have htn : t.toNat < mv.length := by omega
  have hfn : f.toNat < (mv.set t.toNat (mv.getD t.toNat 0 + 1)).length := by rw [List.length_set]; omega
  have ntf' : t.toNat ≠ f.toNat := by omega
  have gv : ∀ x : Nat, ((mv.set t.toNat (mv.getD t.toNat 0 + 1)).set f.toNat (mv.getD f.toNat 0 - 1)).getD x 0 = if x = f.toNat then mv.getD f.toNat 0 - 1 else if x = t.toNat then mv.getD t.toNat 0 + 1 else mv.getD x 0 := fun x => by
    rw [set_getD hfn]
    by_cases c : x = f.toNat
    · rw [if_pos c, if_pos c]
    · rw [if_neg c, if_neg c, set_getD htn]
  have pt := h.pos a t et
  have pf := h.pos b f ef
  -- the ends of the two
  have bt : mv.getD t.toNat 0 + 1 < n := by
    rcases Int.lt_or_le (mv.getD t.toNat 0 + 1) n with q | q
    · exact q
    · have hb1 := (h.bnd t.toNat (by omega)).2
      have e : mv.getD t.toNat 0 + 1 = n := by omega
      have hv := h.vis t 0 t0 t1 (.inl ⟨Int.le_refl _, ht⟩)
      rw [Int.add_zero, Int.emod_eq_of_lt t0 t1] at hv
      have : (b : Int) = t := by
        rw [hab, ← pt, Int.emod_add_emod, Int.add_assoc, e, Int.add_emod_right, Int.emod_eq_of_lt t0 t1]
      have : t.toNat = b := by omega
      rw [this, List.getD_eq_getElem?_getD, e2] at hv
      exact absurd hv c2
  have bf : -(n : Int) < mv.getD f.toNat 0 - 1 := by
    rcases Int.lt_or_le (-(n : Int)) (mv.getD f.toNat 0 - 1) with q | q
    · exact q
    · have hb1 := (h.bnd f.toNat (by omega)).1
      have e : mv.getD f.toNat 0 = 1 - n := by omega
      have hv := h.vis f 0 f0 f1 (.inr ⟨hf, Int.le_refl _⟩)
      rw [Int.add_zero, Int.emod_eq_of_lt f0 f1] at hv
      have e3 : (f + mv.getD f.toNat 0) = (f + 1) + (-1) * n := by rw [e]; omega
      rw [e3, Int.add_mul_emod_self_right] at pf
      have e4 : f = (a : Int) := by
        have q1 : ((f + 1) % (n : Int)) = (((a : Int) + 1) % (n : Int)) := pf.trans hab
        have q2 : (f + 1 - 1) % (n : Int) = ((a : Int) + 1 - 1) % (n : Int) := by rw [Int.sub_emod, q1, ← Int.sub_emod]
        rw [Int.add_sub_cancel, Int.add_sub_cancel, Int.emod_eq_of_lt f0 f1, Int.emod_eq_of_lt (by omega) (by omega)] at q2
        exact q2
      have : f.toNat = a := by omega
      rw [this, List.getD_eq_getElem?_getD, e1] at hv
      exact absurd hv c1
  have grow : ∀ (i : Nat) (x : Int), x ∈ held.getD i [] → x ∈ ((held.set a (l1 ++ [f])).set b (l2 ++ [t])).getD i [] := fun i x hx => by
    rw [List.getD_eq_getElem?_getD] at hx ⊢
    by_cases q1 : i = b
    · subst q1
      rw [e2] at hx
      rw [List.getElem?_set_self (by simp; omega)]
      exact List.mem_append_left _ hx
    · rw [List.getElem?_set_ne (Ne.symm q1)]
      by_cases q2 : i = a
      · subst q2
        rw [e1] at hx
        rw [List.getElem?_set_self (by omega)]
        exact List.mem_append_left _ hx
      · rw [List.getElem?_set_ne (Ne.symm q2)]; exact hx
  have newb : t ∈ ((held.set a (l1 ++ [f])).set b (l2 ++ [t])).getD b [] := by
    rw [List.getD_eq_getElem?_getD, List.getElem?_set_self (by simp; omega)]
    simp
  have newa : f ∈ ((held.set a (l1 ++ [f])).set b (l2 ++ [t])).getD a [] := by
    rw [List.getD_eq_getElem?_getD, List.getElem?_set_ne (Ne.symm nab), List.getElem?_set_self (by omega)]
    simp
  have hba : ((b : Int) - 1) % (n : Int) = (a : Int) := by
    rw [hab, Int.sub_emod, Int.emod_emod, ← Int.sub_emod, Int.add_sub_cancel, Int.emod_eq_of_lt (by omega) (by omega)]
  have pt' : (t + (mv.getD t.toNat 0 + 1)) % (n : Int) = (b : Int) := by
    rw [hab, ← pt, Int.emod_add_emod, Int.add_assoc]
  have pf' : (f + (mv.getD f.toNat 0 - 1)) % (n : Int) = (a : Int) := by
    rw [← hba, ← pf, Int.sub_emod, Int.emod_emod, ← Int.sub_emod]
    congr 1; omega
  have uniq : ∀ (i : Nat) (x : Int), row[i]? = some x → i ≠ a → i ≠ b → x ≠ t ∧ x ≠ f := fun i x e q1 q2 => by
    obtain ⟨x1, y1⟩ := List.getElem?_eq_some_iff.mp e
    refine ⟨fun z => ?_, fun z => ?_⟩
    · subst z
      obtain ⟨x2, y2⟩ := List.getElem?_eq_some_iff.mp et
      exact q1 ((List.getElem_inj rnd).mp (y1.trans y2.symm))
    · subst z
      obtain ⟨x2, y2⟩ := List.getElem?_eq_some_iff.mp ef
      exact q2 ((List.getElem_inj rnd).mp (y1.trans y2.symm))
  refine ⟨n0, n1, ?_, by simp [hhl], by simp [hml], ?_, fun i x e => ?_, fun x j x0 x1 hj => ?_, fun x hx => ?_, fun u v huv hlt => ?_⟩
  · obtain ⟨x1, y1⟩ := List.getElem?_eq_some_iff.mp et
    obtain ⟨x2, y2⟩ := List.getElem?_eq_some_iff.mp ef
    have := List.set_set_perm (as := row) x1 x2
    rw [y1, y2] at this
    exact this.trans h.p
  · rw [sum_set hfn, sum_set htn, set_getD htn, if_neg (Ne.symm ntf'), h.s]; omega
  · by_cases q1 : i = b
    · subst q1
      rw [List.getElem?_set_self (by simp; omega)] at e
      cases e
      rw [gv, if_neg ntf', if_pos rfl]
      exact pt'
    · rw [List.getElem?_set_ne (Ne.symm q1)] at e
      by_cases q2 : i = a
      · subst q2
        rw [List.getElem?_set_self (by omega)] at e
        cases e
        rw [gv, if_pos rfl]
        exact pf'
      · rw [List.getElem?_set_ne (Ne.symm q2)] at e
        obtain ⟨u1, u2⟩ := uniq i x e q2 q1
        obtain ⟨x0, x1⟩ := span_mem.mp (h.p.subset (List.mem_of_getElem? e))
        rw [gv, if_neg (by omega), if_neg (by omega)]
        exact h.pos i x e
  · rw [gv] at hj
    by_cases q1 : x.toNat = f.toNat
    · have : x = f := by omega
      subst this
      rw [if_pos rfl] at hj
      by_cases q2 : mv.getD x.toNat 0 ≤ j
      · exact grow _ _ (h.vis x j x0 x1 (.inr ⟨q2, by omega⟩))
      · have : j = mv.getD x.toNat 0 - 1 := by omega
        rw [this, pf', Int.toNat_natCast]
        exact newa
    · rw [if_neg q1] at hj
      by_cases q3 : x.toNat = t.toNat
      · have : x = t := by omega
        subst this
        rw [if_pos rfl] at hj
        by_cases q2 : j ≤ mv.getD x.toNat 0
        · exact grow _ _ (h.vis x j x0 x1 (.inl ⟨by omega, q2⟩))
        · have : j = mv.getD x.toNat 0 + 1 := by omega
          rw [this, pt', Int.toNat_natCast]
          exact newb
      · rw [if_neg q3] at hj
        exact grow _ _ (h.vis x j x0 x1 hj)
  · rw [gv]
    have := h.bnd x hx
    by_cases q1 : x = f.toNat
    · rw [if_pos q1]; rw [q1] at this; omega
    · rw [if_neg q1]
      by_cases q2 : x = t.toNat
      · rw [if_pos q2]; rw [q2] at this; omega
      · rw [if_neg q2]; exact this
  · have at' : ∀ w : Int, mvAt ((mv.set t.toNat (mv.getD t.toNat 0 + 1)).set f.toNat (mv.getD f.toNat 0 - 1)) w = if (w % (n : Int)).toNat = f.toNat then mv.getD f.toNat 0 - 1 else if (w % (n : Int)).toNat = t.toNat then mv.getD t.toNat 0 + 1 else mvAt mv w := fun w => by
      unfold mvAt
      rw [List.length_set, List.length_set, hml, gv]
    have old : ∀ w : Int, mvAt mv w = mv.getD (w % (n : Int)).toNat 0 := fun w => by unfold mvAt; rw [hml]
    have hne : endR mv u ≠ endR mv v := fun z => by have := h.ends_inj z; omega
    unfold endR at hlt hne
    have hi := h.inv u v huv
    unfold endR at hi
    rw [at', at'] at hlt ⊢
    have ou := old u
    have ov := old v
    by_cases u1 : (u % (n : Int)).toNat = f.toNat
    · rw [u1] at ou
      rw [if_pos u1] at hlt ⊢
      by_cases v1 : (v % (n : Int)).toNat = f.toNat
      · rw [v1] at ov
        rw [if_pos v1] at hlt ⊢
        omega
      · rw [if_neg v1] at hlt ⊢
        by_cases v2 : (v % (n : Int)).toNat = t.toNat
        · rw [v2] at ov
          rw [if_pos v2] at hlt ⊢
          omega
        · rw [if_neg v2] at hlt ⊢
          omega
    · rw [if_neg u1] at hlt ⊢
      by_cases u2 : (u % (n : Int)).toNat = t.toNat
      · rw [u2] at ou
        rw [if_pos u2] at hlt ⊢
        by_cases v1 : (v % (n : Int)).toNat = f.toNat
        · rw [v1] at ov
          rw [if_pos v1] at hlt ⊢
          omega
        · rw [if_neg v1] at hlt ⊢
          by_cases v2 : (v % (n : Int)).toNat = t.toNat
          · rw [v2] at ov
            rw [if_pos v2] at hlt ⊢
            omega
          · rw [if_neg v2] at hlt ⊢
            omega
      · rw [if_neg u2] at hlt ⊢
        by_cases v1 : (v % (n : Int)).toNat = f.toNat
        · rw [v1] at ov
          rw [if_pos v1] at hlt ⊢
          omega
        · rw [if_neg v1] at hlt ⊢
          by_cases v2 : (v % (n : Int)).toNat = t.toNat
          · rw [v2] at ov
            rw [if_pos v2] at hlt ⊢
            omega
          · rw [if_neg v2] at hlt ⊢
            omega
end
end SW

namespace SW
open PySem PySem.Spec PyProof.Rows L2
/-! ### displacements that produce an arrangement -/
def shI (row : List Int) (i : Nat) : Int := (endsOf row).getD i 0 - (i : Int)
def farI (n : Nat) (s : Int) : Int := if 0 < s then s - n else s + n
structure Cho (n : Nat) (row : List Int) (k : Nat) (t : List Int) : Prop where
  l : t.length = k
  c : ∀ i : Nat, i < k → t.getD i 0 = shI row i ∨ (shI row i ≠ 0 ∧ t.getD i 0 = farI n (shI row i))
def shL (n : Nat) (row : List Int) : List Int := (List.range n).map (shI row)
theorem shL_getD {n i : Nat} {row : List Int} (h : i < n) : (shL n row).getD i 0 = shI row i := by
  unfold shL
  rw [List.getD_eq_getElem?_getD, List.getElem?_map, List.getElem?_range h]; rfl
theorem shL_cho (n : Nat) (row : List Int) : Cho n row n (shL n row) := ⟨by unfold shL; rw [List.length_map, List.length_range], fun i hi => .inl (shL_getD hi)⟩
theorem sum_sub {α : Type} (f g : α → Int) : ∀ l : List α, (l.map fun x => f x - g x).sum = (l.map f).sum - (l.map g).sum
  | [] => rfl
  | x :: l => by simp only [List.map_cons, List.sum_cons, sum_sub f g l]; omega
theorem perm_sum {a b : List Int} (h : a.Perm b) : a.sum = b.sum := by
  induction h with
  | nil => rfl
  | cons x _ ih => rw [List.sum_cons, List.sum_cons, ih]
  | swap x y l => simp only [List.sum_cons]; omega
  | trans _ _ h1 h2 => exact h1.trans h2
theorem list_range_getD (l : List Int) : (List.range l.length).map (fun i => l.getD i 0) = l := by
  apply List.ext_getElem?
  intro i
  rw [List.getElem?_map]
  by_cases h : i < l.length
  · rw [List.getElem?_range h, List.getElem?_eq_getElem h]
    show some (l.getD i 0) = _
    rw [List.getD_eq_getElem?_getD, List.getElem?_eq_getElem h]; rfl
  · rw [List.getElem?_eq_none (by rw [List.length_range]; omega), List.getElem?_eq_none (by omega)]; rfl
section
variable {n : Nat} {row t : List Int}
theorem shL_sum (h : Row row n) : (shL n row).sum = 0 := by
  have hE : (endsOf row).length = n := by rw [endsOf_len, h.len]
  unfold shL
  show ((List.range n).map fun i => (endsOf row).getD i 0 - (i : Int)).sum = 0
  rw [sum_sub]
  have e1 : (List.range n).map (fun i => (endsOf row).getD i 0) = endsOf row := by
    have := list_range_getD (endsOf row)
    rwa [hE] at this
  have e2 : (List.range n).map (fun i : Nat => (i : Int)) = span n := rfl
  rw [e1, e2, perm_sum h.endsPerm]; omega
theorem ends_bnd (h : Row row n) {i : Nat} (hi : i < n) : 0 ≤ (endsOf row).getD i 0 ∧ (endsOf row).getD i 0 < n := by
  have hE : (endsOf row).length = n := by rw [endsOf_len, h.len]
  exact span_mem.mp (h.endsPerm.subset (getD_mem (by omega)))
theorem Cho.mod (h : Row row n) (c : Cho n row n t) {i : Nat} (hi : i < n) : ((i : Int) + t.getD i 0) % (n : Int) = (endsOf row).getD i 0 := by
  obtain ⟨b0, b1⟩ := ends_bnd h hi
  rcases c.c i hi with e | ⟨_, e⟩
  · rw [e]; unfold shI
    have : (i : Int) + ((endsOf row).getD i 0 - (i : Int)) = (endsOf row).getD i 0 := by omega
    rw [this, Int.emod_eq_of_lt b0 b1]
  · rw [e]; unfold farI shI
    split
    · have : (i : Int) + ((endsOf row).getD i 0 - (i : Int) - n) = (endsOf row).getD i 0 + (-1) * n := by omega
      rw [this, Int.add_mul_emod_self_right, Int.emod_eq_of_lt b0 b1]
    · have : (i : Int) + ((endsOf row).getD i 0 - (i : Int) + n) = (endsOf row).getD i 0 + n := by omega
      rw [this, Int.add_emod_right, Int.emod_eq_of_lt b0 b1]
theorem Cho.dis (h : Row row n) (n0 : 3 ≤ n) (n1 : n ≤ 20) (c : Cho n row n t) (hs : t.sum = 0) : Dis t n where
  l := c.l
  n0 := n0
  n1 := n1
  s := hs
  b := fun x hx => by
    obtain ⟨i, hi⟩ := List.getElem?_of_mem hx
    have hl := (List.getElem?_eq_some_iff.mp hi).1
    rw [c.l] at hl
    obtain ⟨b0, b1⟩ := ends_bnd h hl
    have e := c.c i hl
    rw [List.getD_eq_getElem?_getD, hi] at e
    have e : x = shI row i ∨ (shI row i ≠ 0 ∧ x = farI n (shI row i)) := e
    unfold farI shI at e
    rcases e with e | ⟨e0, e⟩
    · omega
    · split at e <;> omega
  d := by
    have hE : (endsOf row).length = n := by rw [endsOf_len, h.len]
    have e : (List.range n).map (fun (i : Nat) => ((i : Int) + t.getD i 0) % (n : Int)) = endsOf row := by
      have e1 : (List.range n).map (fun (i : Nat) => ((i : Int) + t.getD i 0) % (n : Int)) = (List.range n).map (fun i => (endsOf row).getD i 0) :=
        List.map_congr_left fun i hi => c.mod h (List.mem_range.mp hi)
      rw [e1]
      have := list_range_getD (endsOf row)
      rwa [hE] at this
    rw [e]
    exact h.endsPerm.nodup_iff.mpr (span_nodup n)
end
/-! ### items that move past others -/
def blk (a b : Nat) : List Int := List.replicate b (a : Int) ++ List.replicate a (-(b : Int))
theorem blk_len (a b : Nat) : (blk a b).length = b + a := by unfold blk; rw [List.length_append, List.length_replicate, List.length_replicate]
theorem blk_lo {a b i : Nat} (h : i < b) : (blk a b).getD i 0 = (a : Int) := by
  unfold blk
  rw [List.getD_eq_getElem?_getD, List.getElem?_append_left (by rw [List.length_replicate]; exact h), List.getElem?_replicate_of_lt h]; rfl
theorem blk_hi {a b i : Nat} (h : b ≤ i) (h2 : i < b + a) : (blk a b).getD i 0 = -(b : Int) := by
  unfold blk
  rw [List.getD_eq_getElem?_getD, List.getElem?_append_right (by rw [List.length_replicate]; exact h), List.length_replicate, List.getElem?_replicate_of_lt (by omega)]; rfl
theorem rep_sum (k : Nat) (v : Int) : (List.replicate k v).sum = k * v := by
  induction k with
  | zero => simp
  | succ k ih => rw [List.replicate_succ, List.sum_cons, ih, Int.natCast_succ, Int.add_mul]; omega
theorem blk_dis {a b : Nat} (h0 : 1 ≤ a) (h1 : 2 ≤ b) (h2 : a + b ≤ 20) : Dis (blk a b) (b + a) where
  l := blk_len a b
  n0 := by omega
  n1 := by omega
  b := fun x hx => by
    unfold blk at hx
    rcases List.mem_append.mp hx with hx | hx
    · have := (List.mem_replicate.mp hx).2; omega
    · have := (List.mem_replicate.mp hx).2; omega
  s := by
    unfold blk
    rw [List.sum_append, rep_sum, rep_sum, Int.mul_neg, Int.mul_comm]; omega
  d := by
    refine nodup_map_on List.nodup_range fun x hx y hy e => ?_
    rw [List.mem_range] at hx hy
    have key : ∀ i : Nat, i < b + a → ((i : Int) + (blk a b).getD i 0) % ((b + a : Nat) : Int) = if i < b then (i : Int) + a else (i : Int) - b := fun i hi => by
      by_cases c : i < b
      · rw [if_pos c, blk_lo c, Int.emod_eq_of_lt (by omega) (by omega)]
      · rw [if_neg c, blk_hi (by omega) hi, Int.emod_eq_of_lt (by omega) (by omega)]; omega
    rw [key x hx, key y hy] at e
    split at e <;> split at e <;> omega
theorem blk_end {a b : Nat} {u : Int} (h : 0 < b + a) : endR (blk a b) u = if u % ((b + a : Nat) : Int) < b then u + a else u - b := by
  unfold endR mvAt
  rw [blk_len]
  have m := mod_idx h u
  by_cases c : u % ((b + a : Nat) : Int) < b
  · rw [if_pos c, blk_lo (by omega)]
  · rw [if_neg c, blk_hi (by omega) (by omega)]; omega
theorem blk_lat_lo {a b : Nat} (h0 : 1 ≤ a) (h1 : 2 ≤ b) {x : Int} (x0 : 0 ≤ x) (x1 : x < b) : lat (blk a b) x = zss b (b + a : Nat) := by
  have hn : 0 < b + a := by omega
  unfold lat
  rw [blk_len]
  refine asc_eq ((ints_asc _ _).filter _) (ints_asc _ _) fun z => ?_
  rw [List.mem_filter, mem_ints, mem_ints, decide_eq_true_eq, blk_end hn, blk_end hn]
  have ex : x % ((b + a : Nat) : Int) = x := Int.emod_eq_of_lt x0 (by omega)
  rw [ex, if_pos x1]
  constructor
  · rintro ⟨⟨g1, g2⟩, g3⟩
    by_cases c : z % ((b + a : Nat) : Int) < b
    · rw [if_pos c] at g3; omega
    · rw [if_neg c] at g3
      rcases Int.lt_or_le z ((b + a : Nat) : Int) with q | q
      · rw [Int.emod_eq_of_lt (by omega) q] at c
        exact ⟨by omega, q⟩
      · exfalso
        have e : z % ((b + a : Nat) : Int) = z - ((b + a : Nat) : Int) := by
          rw [← Int.sub_emod_right, Int.emod_eq_of_lt (by omega) (by omega)]
        rw [e] at c; omega
  · rintro ⟨g1, g2⟩
    refine ⟨⟨by omega, by omega⟩, ?_⟩
    rw [Int.emod_eq_of_lt (by omega) g2, if_neg (by omega)]; omega
theorem blk_lat_hi {a b : Nat} (h0 : 1 ≤ a) (h1 : 2 ≤ b) {x : Int} (x0 : (b : Int) ≤ x) (x1 : x < ((b + a : Nat) : Int)) : lat (blk a b) x = [] := by
  have hn : 0 < b + a := by omega
  unfold lat
  rw [List.filter_eq_nil_iff]
  intro z hz
  rw [mem_ints] at hz
  rw [decide_eq_true_eq, blk_end hn, blk_end hn, Int.emod_eq_of_lt (show 0 ≤ x by omega) x1, if_neg (show ¬ x < (b : Int) by omega)]
  split <;> omega
theorem flat_const {α β : Type} {f : α → List β} {k : Nat} : ∀ l : List α, (∀ x ∈ l, (f x).length = k) → (l.flatMap f).length = l.length * k
  | [], _ => by simp
  | x :: l, h => by
    rw [List.flatMap_cons, List.length_append, List.length_cons, Nat.succ_mul, h x (by simp), flat_const l fun y hy => h y (List.mem_cons_of_mem _ hy)]; omega
theorem blk_pairs {a b : Nat} (h0 : 1 ≤ a) (h1 : 2 ≤ b) : (pairsR (blk a b)).length = a * b := by
  unfold pairsR
  rw [blk_len]
  have e : span (b + a) = span b ++ zss b (b + a : Nat) := by
    rw [← ints_span, ← ints_span]
    refine asc_eq (ints_asc _ _) ?_ fun x => ?_
    · rw [List.pairwise_append]
      refine ⟨ints_asc _ _, ints_asc _ _, fun x hx y hy => ?_⟩
      rw [mem_ints] at hx hy; omega
    · rw [List.mem_append, mem_ints, mem_ints, mem_ints]; omega
  rw [e, List.flatMap_append, List.length_append]
  rw [flat_const (k := a) (span b) fun x hx => ?_, flat_const (k := 0) (zss b (b + a : Nat)) fun x hx => ?_, span_len, Nat.mul_zero, Nat.add_zero, Nat.mul_comm]
  · rw [mem_ints] at hx
    unfold pairR
    rw [List.length_map, blk_lat_hi h0 h1 hx.1 hx.2]; rfl
  · obtain ⟨x0, x1⟩ := span_mem.mp hx
    unfold pairR
    rw [List.length_map, blk_lat_lo h0 h1 x0 x1, ints_len]; omega
theorem blk_noTrip {a b : Nat} (h0 : 1 ≤ a) (h1 : 2 ≤ b) : NoTrip (blk a b) := fun x y z hxy hyz e1 e2 => by
  have hn : 0 < b + a := by omega
  rw [blk_end hn, blk_end hn] at e1 e2
  split at e1 <;> split at e1 <;> split at e2 <;> omega
end SW

namespace SW
open PySem PySem.Spec PyProof.Rows L2
/-! ### {t: True for ..}, t tuples of whole numbers -/
section
variable {X : Cx}
def tDcT (wi : TI) (g : TG) (tt : TT) (tk tv : TE) (vs : List Nat) : TE := fun σ H Q => wi σ H fun J H1 => ∀ D, H1 D = none → ∃ W : Nat → Nat → Hp → Prop, (∃ m, W 0 m (upd H1 D (TpD D [] []))) ∧ ∀ i m H, W i m H →
  (J.stop i H ∧ Q (.ref D) H) ∨ (J.go i H ∧ ∃ Nx : Hp → Prop, (∀ H', Nx H' → ∃ m', m' < m ∧ W (i + 1) m' H') ∧ ∀ x H', J.yld i H x H' → g x (wipe σ vs) H' fun σ2 H2 => wipe σ2 vs = wipe σ vs ∧ tt σ2 H2 fun b H3 =>
    if b = true then tk σ2 H3 fun y H4 => tv σ2 H4 fun z H5 => ∃ (ks : List (List Int)) (ws : List V) (k : List Int) (b : Addr), y = .ref b ∧ z = .bl true ∧ H5 D = some (TpD D ks ws) ∧ KeysAt H5 ks ws ∧ KeyAt H5 b k ∧ k ∉ ks ∧ ks.length < sizeLine ∧ Nx (upd H5 D (TpD D (ks ++ [k]) (ws ++ [.ref b]))) else Nx H3)
theorem dcT_core {pins : List (Addr × Obj)} {s : Shared} {σ : St} {H : Hp} {Q : VK} {kx vx tg iter : Expr} {ifs : List Expr} {scope : Scope} {own : List (Str × Nat)} {pos pos' : Pos} {wi : TI} {g : TG} {tt : TT} {tk tv : TE} {use : Option (Value → Sem Unit)} {Qf : Value → Shared → Prop}
    (hu : X.A.units < cLine) (hc : X.calm = true) (hN : X.N.Nodup) (I : Inv X pins σ H s) (hi : PI X tg iter wi) (ok : BlkOk X.N X.env.scope scope own)
    (hg : ∀ (s : Shared) (H : Hp) (C : Addr) (cl : List (Str × Addr)) (fp : List Addr), PG (X.blk s H scope (compEnvC scope cl C X.env) fp) tg g) (ht : ∀ (s : Shared) (H : Hp) (C : Addr) (cl : List (Str × Addr)) (fp : List Addr), PTs (X.blk s H scope (compEnvC scope cl C X.env) fp) ifs tt)
    (hk : ∀ (s : Shared) (H : Hp) (C : Addr) (cl : List (Str × Addr)) (fp : List Addr), PE (X.blk s H scope (compEnvC scope cl C X.env) fp) kx tk)
    (he : ∀ (s : Shared) (H : Hp) (C : Addr) (cl : List (Str × Addr)) (fp : List Addr), PE (X.blk s H scope (compEnvC scope cl C X.env) fp) vx tv) (hs : ∀ x, foldedSetIterable iter X.env x = pure x)
    (h : tDcT wi g tt tk tv (own.map (·.2)) σ H Q)
    (hRR : ∀ D C s' m H', Inv X pins σ H' s' → Q (.ref D) H' → s'.heap.Ns C m → FpOk X pins H' C → compPost (model X.prog X.w) X.A X.xe use Qf (.ref D) C (.ok .next) s') :
    wpAny (model X.prog X.w) X.A (comprehension (.DictComp kx vx [⟨tg, iter, ifs, 0⟩] scope pos) scope X.env pos' newDict false (eval iter X.env) use) Qf X.xe s := by
  have hfree : ∀ y ∈ scope.names, y.2 = .free → ∃ c, X.env.cells.lookup y.1 = some c := fun y hy e => by
    rcases ok.free y hy e with k | k
    · exact I.ok.has _ (.inl k)
    · exact I.ok.has _ (.inr k)
  refine wpAny_comprehension_free (use := use) rfl hs (closure_ok hfree) ok.kind (fun y hy e => by rw [ok.uniq y hy, e])
    (thn (hi.run pins s σ H _ I h) fun xv s1 hx => thn hx fun itv s2 h2 => ?_)
  obtain ⟨it, fp, tn, J, H2, e, I2, T, st2, f2, q⟩ := h2
  subst e
  refine wpAny_newObj_type (newEnv_comp ?_)
  generalize hD : s2.heap.objs.size = D
  have hDn : H2 D = none := I2.hok.fresh (Nat.le_of_eq hD)
  obtain ⟨W, ⟨m0, w0⟩, turn⟩ := q D hDn
  -- the new list
  generalize hs3 : ({ s2 with heap := s2.heap.push { cls := .type "dict", data := .dict #[] } } : Shared) = s3
  have I3 : Inv X pins σ (upd H2 D (TpD D [] [])) s3 := by
    rw [← hs3]
    refine I2.laid (t' := s2.toks) (fun b o e => Heap.get?_push_of_some _ e) (Nat.le_of_eq hD) ?_
    rw [← hD]
    exact tpd_empty s2.heap I2.big
  have h3 : s3.heap = s2.heap.push { cls := .type "dict", data := .dict #[] } := by rw [← hs3]
  have sz : ∀ b ∈ fp, b < s2.heap.objs.size := fun b hb => by
    obtain ⟨o, e, _⟩ := T.obj _ _ st2 b hb
    exact Heap.lt_size e
  have f3 : ∀ b ∈ fp, FpOk X pins (upd H2 D (TpD D [] [])) b ∧ b < s3.heap.objs.size := fun b hb => by
    have hlt := sz b hb
    refine ⟨⟨?_, (f2 b hb).2⟩, by rw [h3, Heap.size_push]; exact Nat.lt_succ_of_lt hlt⟩
    rw [upd_ne (by rw [← hD]; exact Nat.ne_of_lt hlt)]
    exact (f2 b hb).1
  have st3 : tn 0 s3.heap := T.keep _ _ _ st2 fun b _ o e => by rw [h3]; exact Heap.get?_push_of_some _ e
  have I4 := block_start I3 ok hN f3
  have pg := hg s3 (upd H2 D (TpD D [] [])) s3.heap.objs.size (cellsFrom (s3.heap.objs.size + 1) scope.names (cloFrom X.env.cells scope.names [])) fp
  have pt := ht s3 (upd H2 D (TpD D [] [])) s3.heap.objs.size (cellsFrom (s3.heap.objs.size + 1) scope.names (cloFrom X.env.cells scope.names [])) fp
  have pk := hk s3 (upd H2 D (TpD D [] [])) s3.heap.objs.size (cellsFrom (s3.heap.objs.size + 1) scope.names (cloFrom X.env.cells scope.names [])) fp
  have pe := he s3 (upd H2 D (TpD D [] [])) s3.heap.objs.size (cellsFrom (s3.heap.objs.size + 1) scope.names (cloFrom X.env.cells scope.names [])) fp
  show codeAny _ _ (.compStart (.DictComp kx vx [⟨tg, iter, ifs, 0⟩] scope pos) 0 (.ref it) (.ref D) (compEnvC scope (cellsFrom (s3.heap.objs.size + 1) scope.names (cloFrom X.env.cells scope.names [])) s3.heap.objs.size X.env)) (compPost (model X.prog X.w) X.A X.xe use Qf (.ref D) s3.heap.objs.size) { s3 with heap := pushCells (s3.heap.push { cls := .type "dict", data := .dict #[] }) scope.names }
  have nfp : ∀ b ∈ fp, (upd H2 D (TpD D [] [])) b = none := fun b hb => (f3 b hb).1.1
  generalize hce : compEnvC scope (cellsFrom (s3.heap.objs.size + 1) scope.names (cloFrom X.env.cells scope.names [])) s3.heap.objs.size X.env = ce at I4 pg pt pk pe ⊢
  have cL : ce.locals = s3.heap.objs.size := by subst hce; rfl
  generalize hH3 : upd H2 D (TpD D [] []) = H3 at I3 I4 pg pt pk pe w0 nfp f3
  generalize hs4 : ({ s3 with heap := pushCells (s3.heap.push { cls := .type "dict", data := .dict #[] }) scope.names } : Shared) = s4 at I4 ⊢
  have st4 : tn 0 s4.heap := T.keep _ _ _ st3 fun b _ o e => by rw [← hs4]; exact pushCells_keeps _ _ _ _ (Heap.get?_push_of_some _ e)
  have stat : ∀ {σ' : St} {H' : Hp} {s' : Shared}, Inv (X.blk s3 H3 scope ce fp) [] σ' H' s' → (∀ b ∈ fp, H' b = none) → ∀ b ∈ fp, FpOk (X.blk s3 H3 scope ce fp) [] H' b := fun {σ' H' s'} I' hn b hb =>
    ⟨hn b hb, (I'.ok.exf b hb).1, I'.ok.exfs b hb, .inl hb, fun x c e => (I'.ok.exf b hb).2 x c e, fun p hp => absurd (show p ∈ ([] : List (Addr × Obj)) ++ [] from hp) (by simp)⟩
  have loop : codeAny (model X.prog X.w) X.A (.compLoop (.DictComp kx vx [⟨tg, iter, ifs, 0⟩] scope pos) 0 (.ref it) (.ref D) ce) (compPost (model X.prog X.w) X.A X.xe use Qf (.ref D) s3.heap.objs.size) s4 := by
    refine compLoop_anyD (fun n s' => ∃ i H', Inv (X.blk s3 H3 scope ce fp) [] (wipe σ (own.map (·.2))) H' s' ∧ tn i s'.heap ∧ (∀ b ∈ fp, H' b = none) ∧ W i n H') ?_ m0 ⟨0, H3, I4, st4, nfp, w0⟩
    rintro n s5 ⟨i, H5, I5, st5, n5, w5⟩
    rcases turn i n H5 w5 with ⟨stop, qq⟩ | ⟨go, Nx, hNx, step⟩
    · have td := T.done (X.blk s3 H3 scope ce fp) rfl rfl rfl hc i [] s5 _ H5 (fun _ _ => False) I5 (stat I5 n5) st5 stop
      refine thnF td fun r s6 ⟨hr, I6⟩ => ?_
      subst hr
      -- back in the def's context
      have I7 : Inv X pins σ H5 s6 := I3.call' (ch := fp) I6.os I6.base I6.hok I6.bare fun b hb => ⟨(f3 b hb).1.2.2.2.1, (f3 b hb).1.2.1, (f3 b hb).1.2.2.2.2.1, (f3 b hb).1.2.2.2.2.2⟩
      have nC : H5 s3.heap.objs.size = none := by
        have z : H5 ce.locals = none := I6.free
        rw [cL] at z
        exact z
      obtain ⟨m, hn, _⟩ := I6.loc
      have hn : s6.heap.Ns ce.locals m := hn
      rw [cL] at hn
      exact hRR D s3.heap.objs.size s6 m H5 I7 qq hn (I3.fpOk (Nat.le_refl _) nC)
    · have ti := T.item (X.blk s3 H3 scope ce fp) rfl rfl rfl hc i [] s5 _ H5 (fun _ _ => False) I5 (stat I5 n5) st5 go
      refine thnF ti fun r s6 ⟨u, hr, h6⟩ => ?_
      subst hr
      refine thnF h6 fun _ s7 ⟨x, H7, I7, r7, y7, st7, n7⟩ => ?_
      have I7' := I7.pinned (stat I7 n7) (T.obj _ _ st7)
      refine thnF (pg.run _ s7 _ H7 x u _ I7' r7 (step x H7 y7)) fun _ s8 ⟨σ8, H8, I8, hw8, q8⟩ => ?_
      refine thnF (pt.run _ s8 σ8 H8 _ I8 q8) fun b s9 ⟨H9, I9, q9⟩ => ?_
      -- the turn's end
      have fin : ∀ {s' : Shared} {H' : Hp}, Inv (X.blk s3 H3 scope ce fp) ([] ++ pinsAt fp s7.heap) σ8 H' s' → Nx H' → ∃ m, m < n ∧ ∃ i H', Inv (X.blk s3 H3 scope ce fp) [] (wipe σ (own.map (·.2))) H' s' ∧ tn i s'.heap ∧ (∀ b ∈ fp, H' b = none) ∧ W i m H' := fun {s' H'} I' nx => by
        obtain ⟨m', hm, w'⟩ := hNx H' nx
        have pin' : ∀ b ∈ fp, ∀ o, s7.heap.get? b = some o → s'.heap.get? b = some o ∧ H' b = none := fun b hb o e =>
          let z := I'.pin (b, o) (List.mem_append_right _ (List.mem_append_right _ (mem_pinsAt hb e)))
          ⟨z.1, z.2.1⟩
        have hl : (wipe σ (own.map (·.2))).length = σ8.length := by rw [← hw8, wipe_length]
        refine ⟨m', hm, i + 1, H', (I'.unpinned (pins := [])).weak hl (fun j v e => ?_), T.keep _ _ _ st7 fun b hb o e => (pin' b hb o e).1, fun b hb => ?_, w'⟩
        · rw [← hw8] at e
          exact (wipe_some e).1
        · obtain ⟨o, e, _⟩ := T.obj _ _ st7 b hb
          exact (pin' b hb o e).2
      cases b with
      | false =>
        simp only [Bool.false_eq_true, if_false] at q9 ⊢
        exact fin I9 q9
      | true =>
        simp only [if_true] at q9 ⊢
        refine thnF (pk.run _ s9 σ8 H9 _ I9 q9) fun z s10 ⟨yk, H10, I10, r10, q10⟩ => ?_
        refine thnF (pe.run _ s10 σ8 H10 _ I10 q10) fun z2 s11 ⟨yv, H11, I11, r11, ks, ws, k, b, ek, ez, hD11, hks, hkb, hno, hz11, nx⟩ => ?_
        subst ek
        subst ez
        cases r10
        cases r11
        exact d_setTp (X := X.blk s3 H3 scope ce fp) hu I11 hD11 hks hz11 hkb hno fun s12 I12 => fin I12 nx
  exact codeAny_compStart_dict loop (T.self X.A 0 _ _ _ st4 loop)
/-- as a value -/
theorem pe_dcT {kx vx tg iter : Expr} {ifs : List Expr} {scope : Scope} {own : List (Str × Nat)} {pos : Pos} {wi : TI} {g : TG} {tt : TT} {tk tv : TE} (hu : X.A.units < cLine) (hc : X.calm = true) (hN : X.N.Nodup) (hi : PI X tg iter wi) (ok : BlkOk X.N X.env.scope scope own)
    (hg : ∀ (s : Shared) (H : Hp) (C : Addr) (cl : List (Str × Addr)) (fp : List Addr), PG (X.blk s H scope (compEnvC scope cl C X.env) fp) tg g) (ht : ∀ (s : Shared) (H : Hp) (C : Addr) (cl : List (Str × Addr)) (fp : List Addr), PTs (X.blk s H scope (compEnvC scope cl C X.env) fp) ifs tt)
    (hk : ∀ (s : Shared) (H : Hp) (C : Addr) (cl : List (Str × Addr)) (fp : List Addr), PE (X.blk s H scope (compEnvC scope cl C X.env) fp) kx tk)
    (he : ∀ (s : Shared) (H : Hp) (C : Addr) (cl : List (Str × Addr)) (fp : List Addr), PE (X.blk s H scope (compEnvC scope cl C X.env) fp) vx tv) (hs : ∀ x, foldedSetIterable iter X.env x = pure x := by intro _; rfl) :
    PE X (.DictComp kx vx [⟨tg, iter, ifs, 0⟩] scope pos) (tDcT wi g tt tk tv (own.map (·.2))) := by
  refine ⟨fun pins s σ H Q I h => ?_⟩
  rw [arm_eval_DictComp]
  refine dcT_core hu hc hN I hi ok hg ht hk he hs h fun D C s' m H' I' q hn f => ⟨m, hn, fun h'' sb => ?_⟩
  obtain ⟨f0, f1, f2, f3, f4, f5⟩ := f
  exact ⟨.ref D, H', I'.turned (t' := s'.toks) (fun b o hb e => (sb.2 b hb).trans e) f0 f1 f3 f4 f5, rfl, q⟩
end
def tupI (k : List Int) : D := .tup (k.map .int)
theorem keyAt_of {S H : Hp} (l : Le S H) {v : V} {k : List Int} (r : RI S (tupI k) v) : ∃ b, v = .ref b ∧ KeyAt H b k := by
  unfold tupI at r
  simp only [RI] at r
  obtain ⟨b, xs, rfl, ⟨ob, h1, _⟩, h2⟩ := r
  have e := h2.ints
  subst e
  exact ⟨b, rfl, ob, l _ _ h1⟩
theorem keysAt_of {S H : Hp} (l : Le S H) {ks : List (List Int)} {vs : List V} (r : RIs S (ks.map tupI) vs) : KeysAt H ks vs := fun i k b h1 h2 => by
  obtain ⟨d, e1, e2⟩ : ∃ d, (ks.map tupI)[i]? = some d ∧ d = tupI k := ⟨_, by rw [List.getElem?_map, h1]; rfl, rfl⟩
  obtain ⟨v, e3, r3⟩ := r.get e1
  rw [h2] at e3
  cases e3
  subst e2
  obtain ⟨b', e4, q⟩ := keyAt_of l r3
  cases e4
  exact q
section
variable {X : Cx} {K : PySem.W.Frag} {a b e tg iter kx vx : Expr} {pos pos' cpos : Pos} {p p1 p2 : Bool} {ra rb q : TE} {ta tb u : DT} {x : Str}
variable {g : TG} {h : DG} {qt : TT} {ut : DTB} {wi : TI} {ti : DI} {vs : List Nat} {qk qv : TE} {uk uv : DT} {ifs : List Expr} {scope : Scope} {own : List (Str × Nat)}
def dDcT (ti : DI) (h : DG) (tt : DTB) (tk tv : DT) (vs : List Nat) : DTF := fun δ Q => ti δ fun ds δ1 => ds.length ≤ 1000000 ∧ ∃ f : D → List Int,
  (∀ (i : Nat) (d : D), ds[i]? = some d → h d (wipeD δ1 vs) fun δ2 => tt δ2 fun b δ3 => b = true ∧ tk δ3 fun y δ4 => tv δ4 fun z _ => y = tupI (f d) ∧ z = .bl true) ∧
  (ds.map f).Nodup ∧ ∀ a, Q a (.dT (ds.map f) ((ds.map f).map tupI)) δ1
theorem sim_dcT (hi : SimI p wi ti) (hg : SimG true g h) (ht : SimT true qt ut) (hk : SimE true qk uk) (he : SimE true qv uv) (gi : GIn vs g) : SimF p (tDcT wi g qt qk qv vs) (dDcT ti h ut uk uv vs) := by
  intro S T H σ δ fp Q Q' s gg k
  refine hi S T H σ δ fp _ _ s gg fun S1 H1 fp1 J ds δ1 l1 s1 wk u1 q1 => ?_
  obtain ⟨hz, f, hf, hnd, hq⟩ := q1
  intro Dd hDd
  have fr := s1.fresh hDd
  refine ⟨fun i m H' => m = ds.length - i ∧ i ≤ ds.length ∧ ∃ S2 acc, Le S1 S2 ∧ Ex S1 H1 S2 H' ∧ SR S2 T H' σ δ1 fp1 ∧ H' Dd = some (TpD Dd ((ds.take i).map f) acc) ∧ S2 Dd = none ∧ RIs S2 (((ds.take i).map f).map tupI) acc,
    ⟨_, rfl, Nat.zero_le _, S1, [], Le.refl _, ex_updH hDd, s1.new hDd, by rw [upd_same, List.take_zero]; rfl, fr.1, by rw [List.take_zero]; exact .nil⟩, ?_⟩
  rintro i m H' ⟨rfl, hile, S2, acc, l2, x2, s2, hD2, hS2, r2⟩
  obtain ⟨w1, w2, w3⟩ := wk S2 T H' σ δ1 fp1 l2 s2 i
  by_cases hlt : i < ds.length
  · refine .inr ⟨w1 hlt, fun H'' => ∃ m', m' < ds.length - i ∧ (m' = ds.length - (i + 1) ∧ i + 1 ≤ ds.length ∧ ∃ S2 acc, Le S1 S2 ∧ Ex S1 H1 S2 H'' ∧ SR S2 T H'' σ δ1 fp1 ∧ H'' Dd = some (TpD Dd ((ds.take (i + 1)).map f) acc) ∧ S2 Dd = none ∧ RIs S2 (((ds.take (i + 1)).map f).map tupI) acc), fun H'' z => z, fun x H3 hy => ?_⟩
    have s2T := s2.withT hD2 hS2 fr.2.2
    obtain ⟨_, _, w3'⟩ := wk S2 (upd T Dd _) H' σ δ1 fp1 l2 s2T i
    obtain ⟨S3, d, l3, s3, x3, e3, r3⟩ := w3' x H3 hlt hy
    obtain ⟨fpw, s3w⟩ := s3.wipe vs
    have hft := hf i d e3
    have etake := take_succ_of e3
    have ekeys : (ds.take (i + 1)).map f = (ds.take i).map f ++ [f d] := by rw [etake, List.map_append]; rfl
    have ww : L2.wipe (L2.wipe σ vs) vs = L2.wipe σ vs := wipe_ext (wipe_length σ vs) fun j hj => by rw [wipe_at]; simp [hj]
    refine gi x (L2.wipe σ vs) H3 (fun σ2 H2 => ∃ S4 δ4 fp4, Le S3 S4 ∧ SR S4 (upd T Dd _) H2 σ2 δ4 fp4 ∧ Ex S3 H3 S4 H2 ∧ ut δ4 fun b δ3 => b = true ∧ uk δ3 fun y δ4 => uv δ4 fun z _ => y = tupI (f d) ∧ z = .bl true) _ (fun σ4 H4 ew z => ?_)
      (hg S3 _ H3 _ _ fpw x d _ _ s3w r3 hft fun S4 H4 σ4 δ4 fp4 l4 s4 x4 q4 => ⟨S4, δ4, fp4, l4, s4, x4 rfl, q4⟩)
    obtain ⟨S4, δ4, fp4, l4, s4, x4, q4⟩ := z
    refine ⟨ew.trans ww, ?_⟩
    refine ht S4 _ H4 σ4 δ4 fp4 _ _ s4 q4 fun S5 H5 fp5 b δ5 l5 s5 u5 q5 => ?_
    obtain ⟨rfl, x5⟩ := u5.tt
    have x35 : Ex S2 H' S5 H5 := x3.trans (x4.trans x5)
    have l35 : Le S2 S5 := l3.trans (l4.trans l5)
    obtain ⟨rfl, q5⟩ := q5
    rw [if_pos rfl]
    refine hk S5 _ H5 σ4 δ5 fp5 _ _ s5 q5 fun S6 H6 fp6 yv y δ6 l6 s6 r6 u6 q6 => ?_
    obtain ⟨rfl, x6'⟩ := u6.tt
    refine he S6 _ H6 σ4 _ fp6 _ _ s6 q6 fun S7 H7 fp7 zv z δ7 l7 s7 r7 u7 q7 => ?_
    obtain ⟨rfl, rfl⟩ := q7
    have x7 : Ex S2 H' S7 H7 := x35.trans (x6'.trans u7.tt.2)
    have l27 : Le S2 S7 := l35.trans (l6.trans l7)
    have hD7 : H7 Dd = some (TpD Dd ((ds.take i).map f) acc) := s7.t Dd _ upd_same
    have r6' := r6.mono l7
    obtain ⟨kb, rfl, hkb⟩ := keyAt_of s7.s r6'
    simp only [RI] at r7
    obtain ⟨b1, b2⟩ := s2.backO (o' := TpD Dd ((ds.take i).map f ++ [f d]) (acc ++ [.ref kb])) hD2 fr.2.1 hS2 fr.2.2 l27 x7 s7.s
    refine ⟨_, acc, f d, kb, rfl, r7, hD7, keysAt_of s7.s (r2.mono l27), hkb, fun hm => ?_, ?_, _, by omega, rfl, hlt, S7, acc ++ [.ref kb], l2.trans l27, ?_, b1, ?_, b2, ?_⟩
    · have h1 : ((ds.take (i + 1)).map f).Nodup := (List.Sublist.map f (List.take_sublist (i + 1) ds)).nodup hnd
      rw [ekeys, List.nodup_append] at h1
      exact h1.2.2 _ hm _ (by simp) rfl
    · rw [List.length_map, List.length_take, sizeLine_eq]; omega
    · have xx := x2.trans x7
      exact ⟨fun b o eb => by rw [upd_ne (ne_of_none eb hDd)]; exact xx.le b o eb, xx.fr⟩
    · rw [upd_same, ekeys]
    · rw [ekeys, List.map_append]
      exact (r2.mono l27).append (.cons r6' .nil)
  · have e : i = ds.length := by omega
    subst e
    refine .inl ⟨w2 (Nat.le_refl _), ?_⟩
    rw [List.take_length] at r2 hD2
    exact k S2 H' fp1 Dd (.dT (ds.map f) ((ds.map f).map tupI)) δ1 (l1.trans l2) s2 ⟨⟨acc, hD2, (List.length_map ..).symm, r2, rfl⟩, hS2, fr.2.1, fr.2.2⟩ (u1.grow x2) (fun e => le_none (u1 e).2.le hDd) (hq Dd)
theorem df_dcT (hu : X.A.units < cLine) (hc : X.calm = true) (hN : X.N.Nodup) (ok : BlkOk X.N X.env.scope scope own) (hi : DIt X tg iter p wi ti)
    (hg : ∀ (s : Shared) (H : Hp) (C : Addr) (cl : List (Str × Addr)) (fp : List Addr), DGt (X.blk s H scope (compEnvC scope cl C X.env) fp) tg true g h) (ht : ∀ (s : Shared) (H : Hp) (C : Addr) (cl : List (Str × Addr)) (fp : List Addr), DTs (X.blk s H scope (compEnvC scope cl C X.env) fp) ifs true qt ut)
    (hk : ∀ (s : Shared) (H : Hp) (C : Addr) (cl : List (Str × Addr)) (fp : List Addr), DE (X.blk s H scope (compEnvC scope cl C X.env) fp) kx true qk uk)
    (he : ∀ (s : Shared) (H : Hp) (C : Addr) (cl : List (Str × Addr)) (fp : List Addr), DE (X.blk s H scope (compEnvC scope cl C X.env) fp) vx true qv uv) (gi : GIn (own.map (·.2)) g) (hs : ∀ x, foldedSetIterable iter X.env x = pure x := by intro _; rfl) :
    DF X (.DictComp kx vx [⟨tg, iter, ifs, 0⟩] scope pos) p (tDcT wi g qt qk qv (own.map (·.2))) (dDcT ti h ut uk uv (own.map (·.2))) :=
  ⟨pe_dcT hu hc hN hi.pi ok (fun s H C cl fp => (hg s H C cl fp).pg) (fun s H C cl fp => (ht s H C cl fp).pt) (fun s H C cl fp => (hk s H C cl fp).pe) (fun s H C cl fp => (he s H C cl fp).pe) hs,
    sim_dcT hi.sim (hg X.s_0 X.H_0 0 [] []).sim (ht X.s_0 X.H_0 0 [] []).sim (hk X.s_0 X.H_0 0 [] []).sim (he X.s_0 X.H_0 0 [] []).sim gi⟩
/-- len of it, k in it -/
def lenTp : D → (D → Prop) → Prop
  | .dT ks ds, q => ds = ks.map tupI ∧ q (.int (ks.length : Nat))
  | _, _ => False
theorem c1_lenTp : Call1 rLenTp lenTp := by
  intro S T H σ δ fp x v Q Q' s rx q k
  unfold lenTp at q
  split at q
  · obtain ⟨a, xs, rfl, h1, _, h2⟩ := rx
    obtain ⟨rfl, q⟩ := q
    exact ⟨a, _, xs, rfl, h1, keysAt_of s.s h2, k S H _ _ (Le.refl _) s ri_int (Ex.refl _ _) q⟩
  · exact q.elim
def inTp : D → D → (D → Prop) → Prop
  | .tup es, .dT ks ds, q => ds = ks.map tupI ∧ ∃ k : List Int, es = k.map D.int ∧ q (.bl (decide (k ∈ ks)))
  | _, _, _ => False
theorem os_inTp : OpS rInTp inTp := by
  intro S T H σ δ fp x y v w Q Q' s rx ry q k
  unfold inTp at q
  split at q
  · obtain ⟨b, zs, rfl, ⟨ob, g1, _⟩, g2⟩ := rx
    obtain ⟨a, xs, rfl, h1, _, h2⟩ := ry
    obtain ⟨rfl, kk, rfl, q⟩ := q
    have e := g2.ints
    subst e
    exact ⟨b, a, kk, _, xs, rfl, rfl, h1, keysAt_of s.s h2, ⟨ob, s.s _ _ g1⟩, k S H _ _ (Le.refl _) s ri_bl (Ex.refl _ _) q⟩
  · exact q.elim
end
end SW

namespace SW
open PySem PySem.Spec PyProof.Rows L2
/-! ### where two items swap, plainly -/
def cntL (wy : Int → Int) (m : Nat) (x z : Int) : Nat := ((span m).filter fun y => decide (x < y ∧ y < z ∧ wy y = -1)).length
structure Pl (rk : List (List Int)) (m : Nat) (row : List Int) (wy : Int → Int) : Prop where
  pl : ∀ x z : Int, x ∈ row → z ∈ row → x < z → row.idxOf z < row.idxOf x → ∃ s : Nat, (s : Int) = x + cntL wy m x z ∧ s + 1 < m ∧ rkAt rk s z < rkAt rk s x ∧ rkAt rk (s + 1) x < rkAt rk (s + 1) z
  mid : ∀ x z y : Int, x ∈ row → z ∈ row → x < z → row.idxOf z < row.idxOf x → x < y → y < z → wy y = 1 ∨ wy y = -1
theorem Pl.start (rk : List (List Int)) (m : Nat) : Pl rk m (span m) fun _ => 0 where
  pl := fun x z hx hz hxz h => by have := span_idx hx; have := span_idx hz; omega
  mid := fun x z y hx hz hxz h => by have := span_idx hx; have := span_idx hz; omega
theorem low_len {m : Nat} {t : Int} (h0 : 0 ≤ t) (h1 : t ≤ m) : ((((span m).filter fun y => decide (y < t)).length : Nat) : Int) = t := by
  obtain ⟨k, rfl⟩ := Int.eq_ofNat_of_zero_le h0
  have e : (span m).filter (fun y => decide (y < (k : Int))) = span k := by
    refine asc_eq ((span_asc m).filter _) (span_asc k) fun x => ?_
    rw [List.mem_filter, span_mem, span_mem, decide_eq_true_eq]; omega
  rw [e, span_len]
section
variable {rk : List (List Int)} {m n : Nat} {row : List Int} {held : List (List Int)} {wy : Int → Int} {pr : Int → List Int} {s : Nat} {l1 l2 : List Int}
theorem Pl.step {wy' : Int → Int} {pr' : Int → List Int} (q : Pl rk m row wy) (h : Vs rk m n row held wy pr) (g : Ss m row wy pr) (hs : s + 1 < m) (hm : mayI rk row s = true)
    (ew : ∀ x, wy' x = if x = row.getD (s + 1) 0 then -1 else if x = row.getD s 0 then 1 else wy x)
    (ep : ∀ x, pr' x = if x = row.getD (s + 1) 0 then pr x ++ [row.getD s 0] else if x = row.getD s 0 then pr x ++ [row.getD (s + 1) 0] else pr x) :
    Pl rk m (swp row s) wy' := by
  obtain ⟨g', lt⟩ := g.step h hs hm ew ep
  have hhl := h.hl
  obtain ⟨_, _, w1, w2, p1, p2⟩ := h.look hs hm (List.getElem?_eq_getElem (by omega : s < held.length)) (List.getElem?_eq_getElem (by omega : s + 1 < held.length))
  obtain ⟨m1, m2⟩ := may_ranks hm
  have hl := h.r.len
  have at1 := at_getD (row := row) (j := s) (by omega)
  have at2 := at_getD (row := row) (j := s + 1) (by omega)
  have i1 := h.r.idx at1
  have i2 := h.r.idx at2
  have mt : row.getD s 0 ∈ row := List.mem_of_getElem? at1
  have mf : row.getD (s + 1) 0 ∈ row := List.mem_of_getElem? at2
  have memb : ∀ x, x ∈ swp row s → x ∈ row := fun x hx => (swp_perm (by omega)).mem_iff.mp hx
  generalize row.getD s 0 = t at *
  generalize row.getD (s + 1) 0 = f at *
  have tf : t ≠ f := fun z => by omega
  -- signs stay
  have keep : ∀ y, wy y = 1 ∨ wy y = -1 → wy' y = wy y := fun y hy => by
    rw [ew]
    by_cases c1 : y = f
    · rw [if_pos c1]; subst c1
      rcases hy with e | e
      · exact absurd e w2
      · exact e.symm
    · rw [if_neg c1]
      by_cases c2 : y = t
      · rw [if_pos c2]; subst c2
        rcases hy with e | e
        · exact e.symm
        · exact absurd e w1
      · rw [if_neg c2]
  -- the pairs that were
  have old : ∀ x z, x ∈ swp row s → z ∈ swp row s → x < z → (swp row s).idxOf z < (swp row s).idxOf x → (x = t ∧ z = f) ∨ row.idxOf z < row.idxOf x := fun x z hx hz hxz hi => by
    have h1 := (g'.a x z hx hz hxz).mpr hi
    have hx := memb x hx
    have hz := memb z hz
    rw [ep] at h1
    by_cases c1 : x = f
    · rw [if_pos c1] at h1
      rcases List.mem_append.mp h1 with h1 | h1
      · exact .inr ((g.a x z hx hz hxz).mp h1)
      · simp only [List.mem_singleton] at h1; omega
    · rw [if_neg c1] at h1
      by_cases c2 : x = t
      · rw [if_pos c2] at h1
        rcases List.mem_append.mp h1 with h1 | h1
        · exact .inr ((g.a x z hx hz hxz).mp h1)
        · simp only [List.mem_singleton] at h1; exact .inl ⟨c2, h1⟩
      · rw [if_neg c2] at h1
        exact .inr ((g.a x z hx hz hxz).mp h1)
  -- who stands between
  have idxne : ∀ {y : Int}, y ∈ row → y ≠ t → row.idxOf y ≠ s := fun hy hn e => by
    have := idxOf_at hy
    rw [e, at1] at this; exact hn (Option.some.inj this).symm
  have idxne2 : ∀ {y : Int}, y ∈ row → y ≠ f → row.idxOf y ≠ s + 1 := fun hy hn e => by
    have := idxOf_at hy
    rw [e, at2] at this; exact hn (Option.some.inj this).symm
  have mem_of : ∀ {y : Int}, t < y → y < f → y ∈ row := fun a b => by
    have ht := h.r.mem.mp mt
    have hf := h.r.mem.mp mf
    exact h.r.mem.mpr ⟨by omega, by omega⟩
  have between : ∀ y, t < y → y < f → wy y = 1 ∨ wy y = -1 := fun y a b => by
    by_cases c1 : wy y = 1
    · exact .inl c1
    · by_cases c2 : wy y = -1
      · exact .inr c2
      · exfalso
        have hy := mem_of a b
        have none : ∀ z, z ∉ pr y := fun z hz => by
          rcases (h.pw y z hz).2.2 with ⟨e, _⟩ | ⟨e, _⟩
          · exact c1 e
          · exact c2 e
        have a1 : ¬ row.idxOf y < row.idxOf t := fun z => none t (h.sy t y ((g.a t y mt hy a).mpr z))
        have a2 : ¬ row.idxOf f < row.idxOf y := fun z => none f ((g.a y f hy mf b).mpr z)
        have n1 := idxne hy (by omega)
        have n2 := idxne2 hy (by omega)
        omega
  -- the place
  have place : (s : Int) = t + cntL wy m t f := by
    have ht := h.r.mem.mp mt
    have rnd : row.Nodup := h.r.p.nodup_iff.mpr (span_nodup m)
    have key : (row.take s).Perm (((span m).filter fun y => decide (y < t)) ++ (span m).filter fun y => decide (t < y ∧ y < f ∧ wy y = -1)) := by
      refine (List.perm_ext_iff_of_nodup ((List.take_sublist s row).nodup rnd) ?_).mpr fun y => ?_
      · rw [List.nodup_append]
        refine ⟨(span_nodup m).filter _, (span_nodup m).filter _, fun a ha b hb e => ?_⟩
        rw [List.mem_filter, decide_eq_true_eq] at ha hb
        omega
      · have hmem : y ∈ row.take s ↔ y ∈ row ∧ row.idxOf y < s := by
          constructor
          · intro hy
            obtain ⟨i, hi⟩ := List.getElem?_of_mem hy
            rw [List.getElem?_take] at hi
            by_cases c : i < s
            · rw [if_pos c] at hi
              exact ⟨List.mem_of_getElem? hi, by rw [h.r.idx hi]; exact c⟩
            · rw [if_neg c] at hi; cases hi
          · rintro ⟨hy, hi⟩
            have e := idxOf_at hy
            refine List.mem_of_getElem? (i := row.idxOf y) ?_
            rw [List.getElem?_take, if_pos hi]; exact e
        rw [hmem, List.mem_append, List.mem_filter, List.mem_filter, decide_eq_true_eq, decide_eq_true_eq, ← h.r.p.mem_iff]
        constructor
        · rintro ⟨hy, hi⟩
          by_cases c : y < t
          · exact .inl ⟨hy, c⟩
          · have hne : y ≠ t := fun z => by rw [z] at hi; omega
            have hyf : y ≠ f := fun z => by rw [z] at hi; omega
            have m3 := (g.a t y mt hy (by omega)).mpr (by omega)
            rcases (h.pw t y m3).2.2 with ⟨_, e, _⟩ | ⟨e, _, _⟩
            · refine .inr ⟨hy, by omega, ?_, e⟩
              rcases Int.lt_or_le y f with q1 | q1
              · exact q1
              · have m4 := (g.a f y mf hy (by omega)).mpr (by omega)
                rcases (h.pw f y m4).2.2 with ⟨e2, _, _⟩ | ⟨_, e2, _⟩
                · exact absurd e2 w2
                · rw [e] at e2; cases e2
            · exact absurd e w1
        · rintro (⟨hy, c⟩ | ⟨hy, c1, c2, c3⟩)
          · refine ⟨hy, ?_⟩
            have n1 := idxne hy (by omega)
            by_cases c4 : row.idxOf y < s
            · exact c4
            · exfalso
              have m3 := (g.a y t hy mt c).mpr (by omega)
              rcases (h.pw y t m3).2.2 with ⟨_, e, _⟩ | ⟨_, _, e⟩
              · exact w1 e
              · omega
          · refine ⟨hy, ?_⟩
            have n1 := idxne hy (by omega)
            have n2 := idxne2 hy (by omega)
            by_cases c4 : row.idxOf y < s
            · exact c4
            · exfalso
              have m3 := (g.a y f hy mf c2).mpr (by omega)
              rcases (h.pw y f m3).2.2 with ⟨e, _, _⟩ | ⟨_, _, e⟩
              · rw [c3] at e; cases e
              · omega
    have hlen := key.length_eq
    rw [List.length_take, List.length_append] at hlen
    have hlow := low_len (m := m) (t := t) ht.1 (by omega)
    unfold cntL
    omega
  have cnt : ∀ x z : Int, (∀ y, x < y → y < z → y ∈ span m → wy y = 1 ∨ wy y = -1) → cntL wy' m x z = cntL wy m x z := fun x z hy => by
    unfold cntL
    congr 1
    refine List.filter_congr fun y hm => ?_
    rw [decide_eq_decide]
    constructor
    · rintro ⟨a, b, c⟩
      exact ⟨a, b, by rw [← keep y (hy y a b hm)]; exact c⟩
    · rintro ⟨a, b, c⟩
      exact ⟨a, b, by rw [keep y (.inr c)]; exact c⟩
  refine ⟨fun x z hx hz hxz hi => ?_, fun x z y hx hz hxz hi a b => ?_⟩
  · rcases old x z hx hz hxz hi with ⟨rfl, rfl⟩ | ho
    · exact ⟨s, by rw [cnt x z fun y a b _ => between y a b]; exact place, hs, m1, m2⟩
    · obtain ⟨s', e1, e2, e3, e4⟩ := q.pl x z (memb x hx) (memb z hz) hxz ho
      exact ⟨s', by rw [cnt x z fun y a b _ => q.mid x z y (memb x hx) (memb z hz) hxz ho a b]; exact e1, e2, e3, e4⟩
  · rcases old x z hx hz hxz hi with ⟨rfl, rfl⟩ | ho
    · rw [keep y (between y a b)]; exact between y a b
    · have := q.mid x z y (memb x hx) (memb z hz) hxz ho a b
      rw [keep y this]; exact this
end
end SW

namespace SW
open PySem PySem.Spec PyProof.Rows L2
/-! ### a sequence to an arrangement, plainly -/
structure Sq (m : Nat) (fin here : List Int) (n : Nat) : Prop where
  r : Row here m
  sub : ∀ x z : Int, x ∈ span m → z ∈ span m → x < z → here.idxOf z < here.idxOf x → fin.idxOf z < fin.idxOf x
  c : invN m (endsOf here) = n
theorem Sq.start {m : Nat} {fin : List Int} (h : Row fin m) : Sq m fin (span m) 0 where
  r := ⟨List.Perm.refl _, h.m0, h.m1⟩
  sub := fun x z hx hz hxz hi => by have := span_idx hx; have := span_idx hz; omega
  c := sorted_inv ⟨List.Perm.refl _, h.m0, h.m1⟩ fun i k hik hk => by
    rw [List.getD_eq_getElem?_getD, List.getD_eq_getElem?_getD, span_at (by omega), span_at hk]
    show (i : Int) ≤ (k : Int)
    omega
section
variable {m n j : Nat} {fin here : List Int}
theorem inv_up (h : Row here m) (hj : j + 1 < m) (hlt : here.getD j 0 < here.getD (j + 1) 0) : invN m (endsOf (swp here j)) = invN m (endsOf here) + 1 := by
  have hl := h.len
  have h' := h.swp hj
  have hsw := swp_at (row := here) (j := j) (by omega)
  have e1 : (swp here j).getD j 0 = here.getD (j + 1) 0 := by
    rw [List.getD_eq_getElem?_getD, hsw, if_pos rfl]; rfl
  have e2 : (swp here j).getD (j + 1) 0 = here.getD j 0 := by
    rw [List.getD_eq_getElem?_getD, hsw, if_neg (by omega), if_pos rfl]; rfl
  have := swap_inv h' hj (by rw [e1, e2]; exact hlt)
  have e3 : swapL (swp here j) j = here := swp_swp (by omega)
  rw [e3] at this
  exact this
theorem Sq.step (q : Sq m fin here n) (hj : j + 1 < m) (hlt : here.getD j 0 < here.getD (j + 1) 0) (hn : fin.idxOf (here.getD (j + 1) 0) < fin.idxOf (here.getD j 0)) : Sq m fin (swp here j) (n + 1) := by
  have h := q.r
  have hl := h.len
  have at1 := at_getD (row := here) (j := j) (by omega)
  have at2 := at_getD (row := here) (j := j + 1) (by omega)
  have idx := fun {x : Int} (hx : x ∈ here) => swp_idx h hj hx
  have i1 := h.idx at1
  have i2 := h.idx at2
  refine ⟨h.swp hj, fun x z hx hz hxz hi => ?_, by rw [inv_up h hj hlt, q.c]⟩
  have hx' := h.p.mem_iff.mpr hx
  have hz' := h.p.mem_iff.mpr hz
  have old := q.sub x z hx hz hxz
  rw [idx hx', idx hz'] at hi
  generalize here.getD j 0 = t at *
  generalize here.getD (j + 1) 0 = f at *
  have other : ∀ y, y ∈ here → y ≠ t → y ≠ f → here.idxOf y ≠ j ∧ here.idxOf y ≠ j + 1 := fun y hy a b => by
    refine ⟨fun e => ?_, fun e => ?_⟩
    · have := idxOf_at hy; rw [e, at1] at this; exact a (Option.some.inj this).symm
    · have := idxOf_at hy; rw [e, at2] at this; exact b (Option.some.inj this).symm
  by_cases x1 : x = t
  · subst x1
    rw [if_pos rfl] at hi
    by_cases z1 : z = f
    · subst z1; exact hn
    · rw [if_neg (show ¬ z = x by omega), if_neg z1] at hi
      have := other z hz' (by omega) z1
      exact old (by omega)
  · by_cases x2 : x = f
    · subst x2
      rw [if_neg x1, if_pos rfl] at hi
      rw [if_neg (show ¬ z = t by omega), if_neg (show ¬ z = x by omega)] at hi
      exact old (by omega)
    · rw [if_neg x1, if_neg x2] at hi
      have ox := other x hx' x1 x2
      by_cases z1 : z = t
      · subst z1; rw [if_pos rfl] at hi; exact old (by omega)
      · by_cases z2 : z = f
        · subst z2; rw [if_neg z1, if_pos rfl] at hi; exact old (by omega)
        · rw [if_neg z1, if_neg z2] at hi; exact old hi
theorem Sq.all (q : Sq m fin here n) (hf : Row fin m) (no : ∀ j, j + 1 < m → here.getD j 0 < here.getD (j + 1) 0 → ¬ fin.idxOf (here.getD (j + 1) 0) < fin.idxOf (here.getD j 0)) :
    ∀ x z : Int, x ∈ span m → z ∈ span m → x < z → fin.idxOf z < fin.idxOf x → here.idxOf z < here.idxOf x := by
  have h := q.r
  have hl := h.len
  have ne : ∀ {row : List Int}, Row row m → ∀ {a b : Int}, a ∈ span m → b ∈ span m → a ≠ b → row.idxOf a ≠ row.idxOf b := fun hr a b ha hb hab e => by
    have e1 := idxOf_at (hr.p.mem_iff.mpr ha)
    have e2 := idxOf_at (hr.p.mem_iff.mpr hb)
    rw [e, e2] at e1
    exact hab (Option.some.inj e1).symm
  have key : ∀ d : Nat, ∀ x z : Int, x ∈ span m → z ∈ span m → x < z → fin.idxOf z < fin.idxOf x → here.idxOf z = here.idxOf x + d → False := by
    intro d
    induction d using Nat.strongRecOn with
    | ind d ih =>
      intro x z hx hz hxz hfi hd
      have hx' := h.p.mem_iff.mpr hx
      have hz' := h.p.mem_iff.mpr hz
      have n0 := ne h hx hz (by omega)
      have ex := idxOf_at hx'
      have ez := idxOf_at hz'
      have lz := (List.getElem?_eq_some_iff.mp ez).1
      obtain ⟨y, ey⟩ : ∃ y, here[here.idxOf x + 1]? = some y := ⟨_, List.getElem?_eq_getElem (by omega)⟩
      have hy' := List.mem_of_getElem? ey
      have hy := h.p.subset hy'
      have iy := h.idx ey
      have gx : here.getD (here.idxOf x) 0 = x := by rw [List.getD_eq_getElem?_getD, ex]; rfl
      have gy : here.getD (here.idxOf x + 1) 0 = y := by rw [List.getD_eq_getElem?_getD, ey]; rfl
      have adj := no (here.idxOf x) (by omega)
      rw [gx, gy] at adj
      have hxy : x ≠ y := fun e => by rw [← e] at iy; omega
      by_cases d1 : d = 1
      · have : y = z := by rw [d1] at hd; rw [hd, ey] at ez; exact Option.some.inj ez
        subst this
        exact adj hxz hfi
      · have hyz : y ≠ z := fun e => by rw [e] at iy; omega
        have f1 := ne hf hx hy hxy
        have f2 := ne hf hy hz hyz
        by_cases c : fin.idxOf y < fin.idxOf x
        · rcases Int.lt_or_le x y with q1 | q1
          · exact adj q1 c
          · have := q.sub y x hy hx (by omega)
            have := this
            -- y < x and y behind x: inverted here
            have := this (by omega)
            omega
        · rcases Int.lt_or_le y z with q1 | q1
          · exact ih (d - 1) (by omega) y z hy hz q1 (by omega) (by omega)
          · have := q.sub z y hz hy (by omega) (by omega)
            omega
  intro x z hx hz hxz hfi
  have n0 := ne h hx hz (by omega)
  rcases Nat.lt_or_ge (here.idxOf z) (here.idxOf x) with c | c
  · exact c
  · exact (key (here.idxOf z - here.idxOf x) x z hx hz hxz hfi (by omega)).elim
theorem inv_same {a b : List Int} (ha : Row a m) (hb : Row b m) (h1 : ∀ x z : Int, x ∈ span m → z ∈ span m → x < z → (a.idxOf z < a.idxOf x ↔ b.idxOf z < b.idxOf x)) : invN m (endsOf a) = invN m (endsOf b) := by
  have la := ha.len
  have lb := hb.len
  unfold invN
  refine sumN_congr fun x hx => sumN_congr fun k hk => ?_
  unfold ind
  rw [endsOf_getD (by omega), endsOf_getD (by omega), endsOf_getD (by omega), endsOf_getD (by omega)]
  have := h1 (x : Int) ((x + 1 + k : Nat) : Int) (span_mem.mpr ⟨by omega, by omega⟩) (span_mem.mpr ⟨by omega, by omega⟩) (by omega)
  by_cases c : a.idxOf ((x + 1 + k : Nat) : Int) < a.idxOf (x : Int)
  · rw [if_pos (by omega), if_pos (by have := this.mp c; omega)]
  · rw [if_neg (by omega), if_neg (by intro z; exact c (this.mpr (by omega)))]
theorem Sq.prog (q : Sq m fin here n) (hf : Row fin m) (hn : n < invN m (endsOf fin)) : ∃ j, j + 1 < m ∧ here.getD j 0 < here.getD (j + 1) 0 ∧ fin.idxOf (here.getD (j + 1) 0) < fin.idxOf (here.getD j 0) := by
  refine Classical.byContradiction fun no => ?_
  have all := q.all hf fun j h1 h2 h3 => no ⟨j, h1, h2, h3⟩
  have := inv_same q.r hf fun x z hx hz hxz => ⟨q.sub x z hx hz hxz, all x z hx hz hxz⟩
  rw [q.c] at this
  omega
end
end SW

namespace SW
open PySem PySem.Spec PyProof.Rows L2
/-! ### remove, insert of a slot's own list; is True -/
theorem eraseIdx_at {k : Int} : ∀ {ns : List Int}, ns.eraseIdx (ns.idxOf k) = ns.erase k
  | [] => rfl
  | a :: ns => by
    by_cases c : a = k
    · subst c; simp
    · rw [List.idxOf_cons, List.erase_cons]
      have : (a == k) = false := beq_eq_false_iff_ne.mpr c
      rw [this]
      show a :: ns.eraseIdx (ns.idxOf k) = _
      rw [eraseIdx_at]; rfl
theorem risInts {S : Hp} : ∀ ns : List Int, RIs S (ns.map D.int) (ns.map V.int)
  | [] => .nil
  | n :: ns => .cons ri_int (risInts ns)
section
variable {X : Cx} {K : PySem.W.Frag} {a b e f : Expr} {y : Str} {apos apos2 pos pos' cpos : Pos} {p p1 p2 : Bool} {ra rb q q1 q2 : TE} {ta tb u u1 u2 : DT} {x : Str}
def dRemove (i : Nat) (u : DT) : DS := fun Dn δ => match δ[i]? with
  | some (some (.o _ (.lst _))) => u δ fun d δ1 => match δ1[i]?, d with
    | some (some (.o a (.lst ds))), .int k => ∃ ns : List Int, ds = ns.map D.int ∧ k ∈ ns ∧ Dn.nx (δ1.set i (some (.o a (.lst ((ns.erase k).map D.int)))))
    | _, _ => False
  | _ => False
theorem sim_remove (i : Nat) (h : SimE p q u) : SimS (tDrop (tBM K "list" rRemI (tVar i) (tCons q tNil))) (dRemove i u) := by
  intro S T H σ δ fp Dn D' s g k
  unfold dRemove at g
  split at g
  · rename_i a0 ds0 e0
    have hv := s.sl i
    rw [e0] at hv
    obtain ⟨ev, xs0, hx0, _, _⟩ := hv
    refine ⟨.ref a0, ev, .inl ⟨rfl, xs0, SqL.of hx0⟩, ?_⟩
    refine h S T H σ δ fp _ _ s g fun S1 H1 fp1 v d δ1 l1 s1 r1 u1 q1 => ?_
    split at q1
    · rename_i a ds kk ei
      have hv1 := s1.sl i
      rw [ei] at hv1
      obtain ⟨ev1, xs, hx, rx, hfp⟩ := hv1
      have ea : a0 = a := by have := ev.symm.trans ev1; cases this; rfl
      subst ea
      obtain ⟨ns, rfl, hm, q1⟩ := q1
      have e := rx.ints
      subst e
      simp only [RI] at r1
      subst r1
      refine ⟨a0, ns, kk, ns.idxOf kk, rfl, rfl, hx, idxOf_at hm, fun m hlt => before_idxOf hlt, ?_⟩
      rw [eraseIdx_at]
      have s2 := s1.mut (H' := upd H1 a0 (.lst ((ns.erase kk).map V.int))) ev1 (w' := .lst ((ns.erase kk).map D.int)) (l := [a0]) ⟨_, upd_same, risInts _, rfl⟩ (fun b w hb hbw => by rw [upd_ne (fun z => hb (by rw [hfp, z]; exact List.mem_singleton.mpr rfl))]; exact hbw) fun b hb => .inl (by rw [hfp]; exact hb)
      exact k.nx S1 _ σ _ _ l1 s2 q1
    · exact q1.elim
  · exact g.elim
theorem ds_remove (i : Nat) (ho : PE X (.Name y apos) (tVar i)) (h : DE X e p q u)
    (hs : swapsWith (.Call (.Attribute (.Name y apos) "remove" apos2) [e] [] cpos) none pos.line X.env = pure false := by rfl)
    (hbase : attributeBase (.Name y apos) "remove" X.env (eval (.Name y apos) X.env) = eval (.Name y apos) X.env := by rfl)
    (hfew : ((backTo cpos (starEach [e] X.env)).all (fun x => !x.1) && (backToKw cpos (keywordEach [] X.env)).all (fun x => x.1.isSome)
      && decide (([e] : List Expr).length + ([] : List Keyword).length + (if ([] : List Keyword).isEmpty then 0 else 1) < 30)) = true := by rfl)
    (hline : (apos2.endLine == cpos.line) = true := by rfl) (hst : starEach [e] X.env = (false, eval e X.env) :: starEach [] X.env := by rfl) (hplain : (backTo cpos (starEach [] X.env)).any (·.1) = false := by rfl) :
    DSt X (.Expr (.Call (.Attribute (.Name y apos) "remove" apos2) [e] [] cpos) pos) (tDrop (tBM X.K "list" rRemI (tVar i) (tCons q tNil))) (dRemove i u) :=
  ⟨ps_expr (pe_bm PySem.F.plainAttrs_list PySem.F.slot_list_remove PySem.F.type_list_remove mt_remove ho (pa_cons h.pe pa_nil hst) hbase hfew hline hst hplain) hs, sim_remove i h.sim⟩
def rInsL : V → List V → Hp → VK → Prop := fun x vs H Q => ∃ (l : Addr) (xs : List V) (i : Int) (y : V), x = .ref l ∧ vs = [.int i, y] ∧ H l = some (.lst xs) ∧ xs.length < sizeLine ∧ 0 ≤ i ∧ i < 2 ^ 63 ∧
    Q .non (upd H l (.lst (xs.take i.toNat ++ [y] ++ xs.drop i.toNat)))
def dInsert (i : Nat) (u1 u2 : DT) : DS := fun D δ => match δ[i]? with
  | some (some (.o _ (.lst _))) => u1 δ fun n δ1 => u2 δ1 fun d δ2 => match δ2[i]?, n with
    | some (some (.o a (.lst ds))), .int k => (ds.length < sizeLine ∧ 0 ≤ k ∧ k < 2 ^ 63) ∧ D.nx (δ2.set i (some (.o a (.lst (ds.take k.toNat ++ [d] ++ ds.drop k.toNat)))))
    | _, _ => False
  | _ => False
theorem sim_insert (i : Nat) (h1 : SimE p1 q1 u1) (h2 : SimE p2 q2 u2) : SimS (tDrop (tBM K "list" rInsL (tVar i) (tCons q1 (tCons q2 tNil)))) (dInsert i u1 u2) := by
  intro S T H σ δ fp D D' s g k
  unfold dInsert at g
  split at g
  · rename_i a0 ds0 e0
    have hv := s.sl i
    rw [e0] at hv
    obtain ⟨ev, xs0, hx0, _, _⟩ := hv
    refine ⟨.ref a0, ev, .inl ⟨rfl, xs0, SqL.of hx0⟩, ?_⟩
    refine h1 S T H σ δ fp _ _ s g fun S1 H1 fp1 v1 n δ1 l1 s1 r1 _ g1 => ?_
    refine h2 S1 T H1 σ δ1 fp1 _ _ s1 g1 fun S2 H2 fp2 v d δ2 l2 s2 r2 _ g2 => ?_
    split at g2
    · rename_i a ds kk ei
      have hv1 := s2.sl i
      rw [ei] at hv1
      obtain ⟨ev1, xs, hx, rx, hfp⟩ := hv1
      have ea : a0 = a := by have := ev.symm.trans ev1; cases this; rfl
      subst ea
      simp only [RI] at r1
      subst r1
      refine ⟨a0, xs, kk, v, rfl, rfl, hx, by rw [← rx.len]; exact g2.1.1, g2.1.2.1, g2.1.2.2, ?_⟩
      have s3 := s2.mut (H' := upd H2 a0 (.lst (xs.take kk.toNat ++ [v] ++ xs.drop kk.toNat))) ev1 (w' := .lst (ds.take kk.toNat ++ [d] ++ ds.drop kk.toNat)) (l := [a0]) ⟨_, upd_same, ((rx.take _).append (.cons r2 .nil)).append (rx.drop _), rfl⟩ (fun b w hb hbw => by rw [upd_ne (fun z => hb (by rw [hfp, z]; exact List.mem_singleton.mpr rfl))]; exact hbw) fun b hb => .inl (by rw [hfp]; exact hb)
      exact k.nx S2 _ σ _ _ (l1.trans l2) s3 g2.2
    · exact g2.elim
  · exact g.elim
theorem ds_insert (i : Nat) (ho : PE X (.Name y apos) (tVar i)) (h1 : DE X e p1 q1 u1) (h2 : DE X f p2 q2 u2)
    (hs : swapsWith (.Call (.Attribute (.Name y apos) "insert" apos2) [e, f] [] cpos) none pos.line X.env = pure false := by rfl)
    (hbase : attributeBase (.Name y apos) "insert" X.env (eval (.Name y apos) X.env) = eval (.Name y apos) X.env := by rfl)
    (hfew : ((backTo cpos (starEach [e, f] X.env)).all (fun x => !x.1) && (backToKw cpos (keywordEach [] X.env)).all (fun x => x.1.isSome)
      && decide (([e, f] : List Expr).length + ([] : List Keyword).length + (if ([] : List Keyword).isEmpty then 0 else 1) < 30)) = true := by rfl)
    (hline : (apos2.endLine == cpos.line) = true := by rfl) (hst : starEach [e, f] X.env = (false, eval e X.env) :: starEach [f] X.env := by rfl) (hst2 : starEach [f] X.env = (false, eval f X.env) :: starEach [] X.env := by rfl) (hplain : (backTo cpos (starEach [f] X.env)).any (·.1) = false := by rfl) :
    DSt X (.Expr (.Call (.Attribute (.Name y apos) "insert" apos2) [e, f] [] cpos) pos) (tDrop (tBM X.K "list" rInsL (tVar i) (tCons q1 (tCons q2 tNil)))) (dInsert i u1 u2) :=
  ⟨ps_expr (pe_bm PySem.F.plainAttrs_list PySem.F.slot_list_insert PySem.F.type_list_insert mt_insert ho (pa_cons h1.pe (pa_cons h2.pe pa_nil hst2) hst) hbase hfew hline hst hplain) hs, sim_insert i h1.sim h2.sim⟩
/-! ### x is not True -/
def rNotBl : R2 := fun x y H Q => ∃ a b : Bool, x = .bl a ∧ y = .bl b ∧ Q (.bl (!decide (a = b))) H
theorem op_notBlA : OpR X (compareOp .IsNot) rNotBl := op_isnot_bl
def notBlD : D → D → (D → Prop) → Prop
  | .bl a, .bl b, q => q (.bl (!decide (a = b)))
  | _, _, _ => False
theorem os_notBl : OpS rNotBl notBlD := by
  intro S T H σ δ fp x y v w Q Q' s rx ry q k
  unfold notBlD at q
  split at q
  · cases rx; cases ry
    exact ⟨_, _, rfl, rfl, k S H _ _ (Le.refl _) s ri_bl (Ex.refl _ _) q⟩
  · exact q.elim
theorem op_inTpN (hu : X.A.units + 64 < cLine) : OpR X (compareOp .In) rInTp := op_inTp (by omega)
end
end SW

namespace SW
open PySem PySem.Spec PyProof.Rows L2
section
variable {X : Cx} {tg iter kx vx : Expr} {pos : Pos} {p : Bool} {g : TG} {h : DG} {qt : TT} {ut : DTB} {wi : TI} {ti : DI} {qk qv : TE} {uk uv : DT} {ifs : List Expr} {scope : Scope} {own : List (Str × Nat)}
theorem df_dcTn (hu : X.A.units + 64 < cLine) (hc : X.calm = true) (hN : X.N.Nodup) (ok : BlkOk X.N X.env.scope scope own) (hi : DIt X tg iter p wi ti)
    (hg : ∀ (s : Shared) (H : Hp) (C : Addr) (cl : List (Str × Addr)) (fp : List Addr), DGt (X.blk s H scope (compEnvC scope cl C X.env) fp) tg true g h) (ht : ∀ (s : Shared) (H : Hp) (C : Addr) (cl : List (Str × Addr)) (fp : List Addr), DTs (X.blk s H scope (compEnvC scope cl C X.env) fp) ifs true qt ut)
    (hk : ∀ (s : Shared) (H : Hp) (C : Addr) (cl : List (Str × Addr)) (fp : List Addr), DE (X.blk s H scope (compEnvC scope cl C X.env) fp) kx true qk uk)
    (he : ∀ (s : Shared) (H : Hp) (C : Addr) (cl : List (Str × Addr)) (fp : List Addr), DE (X.blk s H scope (compEnvC scope cl C X.env) fp) vx true qv uv) (gi : GIn (own.map (·.2)) g) (hs : ∀ x, foldedSetIterable iter X.env x = pure x := by intro _; rfl) :
    DF X (.DictComp kx vx [⟨tg, iter, ifs, 0⟩] scope pos) p (tDcT wi g qt qk qv (own.map (·.2))) (dDcT ti h ut uk uv (own.map (·.2))) := df_dcT (by omega) hc hN ok hi hg ht hk he gi hs
end
/-! ### the pairs as keys -/
def keyF : D → List Int
  | .tup [.int x, .int z] => [x, z]
  | _ => []
def ksOf (E : List Int) : List (List Int) := (pairsOf E).map keyF
theorem tup_keyF {E : List Int} {d : D} (h : d ∈ pairsOf E) : tupI (keyF d) = d := by
  obtain ⟨x, z, rfl, _⟩ := pairs_is h
  rfl
theorem pairs_mem {E : List Int} {x z : Nat} (h1 : x < z) (h2 : z < E.length) (h3 : E.getD z 0 < E.getD x 0) : D.tup [.int (x : Nat), .int (z : Nat)] ∈ pairsOf E := by
  unfold pairsOf
  refine List.mem_flatMap.mpr ⟨.int (x : Nat), ?_, ?_⟩
  · rw [rangeD_eq]; exact List.mem_map.mpr ⟨x, List.mem_range.mpr (by omega), rfl⟩
  · rw [pairsRow_eq (m := E.length) rfl]
    refine List.mem_map.mpr ⟨(z : Int), List.mem_filter.mpr ⟨span_mem.mpr ⟨by omega, by omega⟩, ?_⟩, rfl⟩
    rw [decide_eq_true_eq, Int.toNat_natCast]
    exact ⟨by omega, h3⟩
theorem pairs_nodup (E : List Int) : (pairsOf E).Nodup := by
  unfold pairsOf
  rw [List.nodup_iff_pairwise_ne, List.pairwise_flatMap]
  refine ⟨fun d hd => ?_, ?_⟩
  · obtain ⟨i, hi⟩ := List.getElem?_of_mem hd
    obtain ⟨hlt, rfl⟩ := rangeD_is hi
    rw [Int.zero_add, pairsRow_eq (m := E.length) rfl, ← List.nodup_iff_pairwise_ne]
    refine nodup_map_on ((span_nodup _).filter _) fun a _ b _ e => ?_
    injection e with e
    injection e with _ e
    injection e with e _
    injection e
  · rw [rangeD_eq, List.pairwise_map]
    refine List.pairwise_lt_range.imp fun {a b} hab x hx y hy e => ?_
    rw [pairsRow_eq (m := E.length) rfl] at hx hy
    obtain ⟨_, _, rfl⟩ := List.mem_map.mp hx
    obtain ⟨_, _, rfl⟩ := List.mem_map.mp hy
    injection e with e
    injection e with e _
    injection e with e
    omega
theorem ks_nodup (E : List Int) : (ksOf E).Nodup := nodup_map_on (pairs_nodup E) fun x hx y hy e => by rw [← tup_keyF hx, ← tup_keyF hy, e]
theorem ks_len (E : List Int) : (ksOf E).length = invN E.length E := by unfold ksOf; rw [List.length_map, pairs_len]
theorem ks_mem {row : List Int} {m : Nat} (h : Row row m) {x z : Int} (hx : x ∈ span m) (hz : z ∈ span m) : [x, z] ∈ ksOf (endsOf row) ↔ x < z ∧ row.idxOf z < row.idxOf x := by
  have hE : (endsOf row).length = m := by rw [endsOf_len, h.len]
  have hx' := h.p.mem_iff.mpr hx
  have hz' := h.p.mem_iff.mpr hz
  have ex := ends_at h hx'
  have ez := ends_at h hz'
  obtain ⟨x0, x1⟩ := span_mem.mp hx
  obtain ⟨z0, z1⟩ := span_mem.mp hz
  constructor
  · intro hm
    obtain ⟨d, hd, e⟩ := List.mem_map.mp hm
    obtain ⟨a, b, rfl, a0, ab, bl, hlt⟩ := pairs_is hd
    have e : [a, b] = [x, z] := e
    injection e with e1 e2
    injection e2 with e2 _
    subst e1; subst e2
    rw [ex, ez] at hlt
    exact ⟨ab, by omega⟩
  · rintro ⟨h1, h2⟩
    obtain ⟨a, rfl⟩ := Int.eq_ofNat_of_zero_le x0
    obtain ⟨b, rfl⟩ := Int.eq_ofNat_of_zero_le z0
    rw [Int.toNat_natCast] at ex ez
    exact List.mem_map.mpr ⟨_, pairs_mem (x := a) (z := b) (by omega) (by omega) (by rw [ex, ez]; omega), rfl⟩
/-! ### the places -/
def placeI (E : List Int) (x z : Int) : Int := x + (((ltI E).filter fun y => decide (x < y) && decide (y < z)).length : Nat)
def plF (E : List Int) : D → D
  | .tup [.int x, .int z] => .tup [.int (placeI E x z), .int x, .int z]
  | d => d
def swL (E : List Int) : List D := (pairsOf E).map (plF E)
/-- nobody refuses -/
def AllOk (rk : List (List Int)) (m : Nat) (ds : List D) : Prop := ∀ d ∈ ds, ∃ (p : Nat) (x z : Int), d = .tup [.int (p : Nat), .int x, .int z] ∧ p + 1 < m ∧ x ∈ span m ∧ z ∈ span m ∧ rkAt rk p z < rkAt rk p x ∧ rkAt rk (p + 1) x < rkAt rk (p + 1) z
theorem Pl.ok {rk : List (List Int)} {m n : Nat} {row : List Int} {held : List (List Int)} {wy : Int → Int} {pr : Int → List Int} (q : Pl rk m row wy) (h : Vs rk m n row held wy pr) (g : Ss m row wy pr) : AllOk rk m (swL (endsOf row)) := fun d hd => by
  have hE : (endsOf row).length = m := by rw [endsOf_len, h.r.len]
  obtain ⟨d0, hd0, rfl⟩ := List.mem_map.mp hd
  obtain ⟨x, z, rfl, x0, xz, zl, hlt⟩ := pairs_is hd0
  have hx : x ∈ span m := span_mem.mpr ⟨by omega, by omega⟩
  have hz : z ∈ span m := span_mem.mpr ⟨by omega, by omega⟩
  have hx' := h.r.p.mem_iff.mpr hx
  have hz' := h.r.p.mem_iff.mpr hz
  rw [ends_at h.r hx', ends_at h.r hz'] at hlt
  obtain ⟨s, e1, e2, e3, e4⟩ := q.pl x z hx' hz' xz (by omega)
  refine ⟨s, x, z, ?_, e2, hx, hz, e3, e4⟩
  show D.tup [.int (placeI _ x z), _, _] = _
  have ep : placeI (endsOf row) x z = (s : Int) := by
    unfold placeI
    rw [e1, h.left g, List.filter_filter]
    unfold cntL
    congr 3
    refine List.filter_congr fun y _ => ?_
    by_cases a : x < y <;> by_cases b : y < z <;> by_cases c : wy y = -1 <;> simp [a, b, c]
  rw [ep]
theorem Vld.here {rk : List (List Int)} {row : List Int} {mv : List Nat} (h : Vld rk row mv) {i s : Nat} (e : mv[i]? = some s) : s + 1 < row.length ∧ mayI rk (runI row (mv.take i)) s = true ∧ Vld rk row (mv.take i) := by
  have e1 : mv = mv.take i ++ s :: mv.drop (i + 1) := by
    have h1 := List.take_append_drop i mv
    have h2 : mv.drop i = s :: mv.drop (i + 1) := by
      have hi := (List.getElem?_eq_some_iff.mp e)
      rw [List.drop_eq_getElem_cons hi.1, hi.2]
    rw [h2] at h1
    exact h1.symm
  rw [e1] at h
  obtain ⟨a, b, c, _⟩ := Vld.app.mp h
  rw [runI_len] at b
  exact ⟨b, c, a⟩
/-- along a valid sequence from the start -/
theorem run_all {rk : List (List Int)} {m : Nat} (h0 : 1 ≤ m) (h1 : m ≤ 40) : ∀ (mv : List Nat), Vld rk (span m) mv → ∃ held wy pr, Vs rk m mv.length (runI (span m) mv) held wy pr ∧ Ss m (runI (span m) mv) wy pr ∧ Pl rk m (runI (span m) mv) wy := by
  have hr : Row (span m) m := ⟨List.Perm.refl _, h0, h1⟩
  intro mv
  have key : ∀ i, i ≤ mv.length → Vld rk (span m) mv → ∃ held wy pr, Vs rk m i (runI (span m) (mv.take i)) held wy pr ∧ Ss m (runI (span m) (mv.take i)) wy pr ∧ Pl rk m (runI (span m) (mv.take i)) wy := by
    intro i
    induction i with
    | zero => intro _ _; rw [List.take_zero]; exact ⟨_, _, _, Vs.start hr, Ss.start m, Pl.start rk m⟩
    | succ i ih =>
      intro hi hv
      obtain ⟨held, wy, pr, a, b, c⟩ := ih (by omega) hv
      obtain ⟨s, hs⟩ : ∃ s, mv[i]? = some s := ⟨_, List.getElem?_eq_getElem (by omega)⟩
      obtain ⟨v1, v2, v3⟩ := hv.here hs
      have hs1 : s + 1 < m := by have := hr.len; omega
      have hhl := a.hl
      rw [take_succ_of hs, runI_snoc]
      exact ⟨_, _, _, a.step hs1 v2 (List.getElem?_eq_getElem (by omega)) (List.getElem?_eq_getElem (by omega)) (wy' := fun x => if x = _ then -1 else if x = _ then 1 else wy x) (pr' := fun x => if x = _ then pr x ++ [_] else if x = _ then pr x ++ [_] else pr x) (fun _ => rfl) (fun _ => rfl), (b.step a hs1 v2 (fun _ => rfl) (fun _ => rfl)).1, c.step a b hs1 v2 (fun _ => rfl) (fun _ => rfl)⟩
  intro hv
  have := key mv.length (Nat.le_refl _) hv
  rwa [List.take_length] at this
end SW

namespace SW
open PySem PySem.Spec PyProof.Rows L2
/-! ### rankings changed where it does not matter -/
theorem sub_idx {a b : Int} : ∀ {r : List Int}, r.Nodup → [a, b].Sublist r → r.idxOf a < r.idxOf b
  | [], _, h => by cases h
  | c :: r, hn, h => by
    obtain ⟨h1, h2⟩ := List.nodup_cons.mp hn
    cases h with
    | cons _ h =>
      have ha : a ∈ r := h.subset (by simp)
      have hb : b ∈ r := h.subset (by simp)
      have e1 : (c == a) = false := beq_eq_false_iff_ne.mpr fun e => h1 (e ▸ ha)
      have e2 : (c == b) = false := beq_eq_false_iff_ne.mpr fun e => h1 (e ▸ hb)
      have ih := sub_idx h2 h
      rw [List.idxOf_cons, List.idxOf_cons, e1, e2]
      simpa using ih
    | cons_cons _ h =>
      have hb : b ∈ r := h.subset (by simp)
      have e2 : (a == b) = false := beq_eq_false_iff_ne.mpr fun e => h1 (e ▸ hb)
      rw [List.idxOf_cons, List.idxOf_cons, e2]
      simp
theorem idx_sub {a b : Int} : ∀ {r : List Int}, b ∈ r → r.idxOf a < r.idxOf b → [a, b].Sublist r
  | [], hb, _ => by cases hb
  | c :: r, hb, h => by
    rw [List.idxOf_cons, List.idxOf_cons] at h
    by_cases c1 : c = a
    · subst c1
      have hbc : b ≠ c := fun e => by subst e; simp at h
      have : b ∈ r := by
        rcases List.mem_cons.mp hb with e | e
        · exact absurd e hbc
        · exact e
      exact List.Sublist.cons_cons _ (List.singleton_sublist.mpr this)
    · have e1 : (c == a) = false := beq_eq_false_iff_ne.mpr c1
      by_cases c2 : c = b
      · subst c2; simp at h
      · have e2 : (c == b) = false := beq_eq_false_iff_ne.mpr c2
        rw [e1, e2] at h
        have : b ∈ r := by
          rcases List.mem_cons.mp hb with e | e
          · exact absurd e.symm c2
          · exact e
        exact List.Sublist.cons _ (idx_sub this (by simpa using h))
def insL (l : List Int) (k : Nat) (y : Int) : List Int := l.take k ++ [y] ++ l.drop k
theorem sub_ins (l : List Int) (k : Nat) (y : Int) : l.Sublist (insL l k y) := by
  unfold insL
  have h : (l.take k ++ l.drop k).Sublist (l.take k ++ [y] ++ l.drop k) := List.Sublist.append (List.sublist_append_left _ _) (List.Sublist.refl _)
  rwa [List.take_append_drop] at h
theorem perm_ins (l : List Int) (k : Nat) (y : Int) : (insL l k y).Perm (y :: l) := by
  unfold insL
  have h : (l.take k ++ [y] ++ l.drop k).Perm (y :: (l.take k ++ l.drop k)) := by
    rw [List.append_assoc]; exact List.perm_middle
  rwa [List.take_append_drop] at h
theorem split_at {r : List Int} {x : Int} (hx : x ∈ r) : ∃ P S, r = P ++ x :: S ∧ x ∉ P ∧ P.length = r.idxOf x ∧ r.erase x = P ++ S := by
  obtain ⟨P, S, e, hn⟩ := List.eq_append_cons_of_mem hx
  refine ⟨P, S, e, hn, ?_, ?_⟩
  · rw [e, List.idxOf_append, if_neg hn]; simp
  · rw [e, List.erase_append_right _ hn]; simp
section
variable {r : List Int} {x a b : Int} {k : Nat}
theorem ins_best (hn : r.Nodup) (hx : x ∈ r) (hk : k ≤ r.idxOf x) (hb : b ∈ r) (h : r.idxOf x < r.idxOf b) : [x, b].Sublist (insL (r.erase x) k x) := by
  obtain ⟨P, S, e, hxP, hl, he⟩ := split_at hx
  have hbS : b ∈ S := by
    rw [e] at hb
    rcases List.mem_append.mp hb with hb | hb
    · exfalso
      have : r.idxOf b < P.length := by rw [e, List.idxOf_append, if_pos hb]; exact List.idxOf_lt_length_iff.mpr hb
      omega
    · rcases List.mem_cons.mp hb with e' | hb
      · rw [e'] at h; omega
      · exact hb
  unfold insL
  rw [he, List.drop_append_of_le_length (by omega), List.append_assoc]
  exact (List.Sublist.cons_cons x (List.singleton_sublist.mpr (List.mem_append_right _ hbS))).trans (List.sublist_append_right _ _)
theorem ins_worst (hx : x ∈ r) (hk : r.idxOf x ≤ k) (h : r.idxOf a < r.idxOf x) : [a, x].Sublist (insL (r.erase x) k x) := by
  obtain ⟨P, S, e, hxP, hl, he⟩ := split_at hx
  have haP : a ∈ P := by
    rcases Classical.em (a ∈ P) with q | q
    · exact q
    · exfalso
      have : P.length ≤ r.idxOf a := by rw [e, List.idxOf_append, if_neg q]; omega
      omega
  unfold insL
  have ha : a ∈ (r.erase x).take k := by
    rw [he, List.take_append]
    exact List.mem_append_left _ (by rw [List.take_of_length_le (by omega)]; exact haP)
  refine List.Sublist.trans ?_ (List.sublist_append_left _ _)
  exact List.Sublist.append (l₁ := [a]) (List.singleton_sublist.mpr ha) (List.Sublist.refl [x])
theorem ins_other (k : Nat) (ha : a ≠ x) (hb : b ≠ x) (h : [a, b].Sublist r) : [a, b].Sublist (insL (r.erase x) k x) := by
  have h1 := h.erase x
  have e : [a, b].erase x = [a, b] := List.erase_of_not_mem (by simp; exact ⟨Ne.symm ha, Ne.symm hb⟩)
  rw [e] at h1
  exact h1.trans (sub_ins _ _ _)
theorem ins_perm (hx : x ∈ r) (k : Nat) : (insL (r.erase x) k x).Perm r := (perm_ins _ _ _).trans (List.perm_cons_erase hx).symm
end
/-- what a person holds, one after the other -/
structure Hld (rk : List (List Int)) (who m : Nat) (mv : List Nat) (l : List Int) : Prop where
  all : ∀ j, j ≤ mv.length → (runI (span m) (mv.take j)).getD who 0 ∈ l
  dec : l.Pairwise fun a b => rkAt rk who b < rkAt rk who a
  ne : l ≠ []
  inn : ∀ x ∈ l, x ∈ span m
/-- a ranking that keeps the order of what is held -/
def Keeps (l r r' : List Int) : Prop := ∀ a b, a ∈ l → b ∈ l → r.idxOf a < r.idxOf b → r'.idxOf a < r'.idxOf b
theorem vld_keep {rk rk' : List (List Int)} {who : Nat} {l : List Int} (h1 : ∀ i, i ≠ who → ∀ x, rkAt rk' i x = rkAt rk i x) (h2 : ∀ a b, a ∈ l → b ∈ l → rkAt rk who a < rkAt rk who b → rkAt rk' who a < rkAt rk' who b) :
    ∀ (mv : List Nat) (row : List Int), Vld rk row mv → (∀ j, j ≤ mv.length → (runI row (mv.take j)).getD who 0 ∈ l) → Vld rk' row mv
  | [], _, _, _ => trivial
  | s :: mv, row, hv, hh => by
    obtain ⟨v1, v2, v3⟩ := hv
    have e0 := hh 0 (by omega)
    have e1 := hh 1 (by simp)
    have ih := vld_keep h1 h2 mv (swp row s) v3 fun j hj => by
      have := hh (j + 1) (by simp; omega)
      exact this
    have hsw := swp_at (row := row) (j := s) v1
    obtain ⟨m1, m2⟩ := may_ranks v2
    refine ⟨v1, ?_, ih⟩
    have e0 : row.getD who 0 ∈ l := e0
    have e1 : (swp row s).getD who 0 ∈ l := e1
    have one : ∀ i a b, (i = who → a ∈ l ∧ b ∈ l) → rkAt rk i a < rkAt rk i b → rkAt rk' i a < rkAt rk' i b := fun i a b hm h => by
      by_cases c : i = who
      · obtain ⟨ha, hb⟩ := hm c
        subst c
        exact h2 a b ha hb h
      · rw [h1 i c, h1 i c]; exact h
    have g1 : s = who → row.getD (s + 1) 0 ∈ l ∧ row.getD s 0 ∈ l := fun e => by
      subst e
      rw [List.getD_eq_getElem?_getD (l := swp row s), hsw, if_pos rfl] at e1
      exact ⟨e1, e0⟩
    have g2 : s + 1 = who → row.getD s 0 ∈ l ∧ row.getD (s + 1) 0 ∈ l := fun e => by
      subst e
      rw [List.getD_eq_getElem?_getD (l := swp row s), hsw, if_neg (by omega), if_pos rfl] at e1
      exact ⟨e1, e0⟩
    unfold mayI
    rw [Bool.and_eq_true, decide_eq_true_eq, decide_eq_true_eq]
    exact ⟨Int.ofNat_lt.mpr (one s _ _ g1 m1), Int.ofNat_lt.mpr (one (s + 1) _ _ g2 m2)⟩
theorem rkAt_set {rk : List (List Int)} {who i : Nat} {r' : List Int} (hw : who < rk.length) (x : Int) : rkAt (rk.set who r') i x = if i = who then r'.idxOf x else rkAt rk i x := by
  unfold rkAt
  by_cases c : i = who
  · subst c
    rw [if_pos rfl, List.getD_eq_getElem?_getD, List.getElem?_set_self hw]; rfl
  · rw [if_neg c, List.getD_eq_getElem?_getD, List.getElem?_set_ne (Ne.symm c), ← List.getD_eq_getElem?_getD]
theorem Rk.set {rk : List (List Int)} {m who : Nat} {r' : List Int} (h : Rk rk m) (hp : r'.Perm (span m)) : Rk (rk.set who r') m where
  l := by rw [List.length_set]; exact h.l
  r := fun r hr => by
    rcases List.mem_or_eq_of_mem_set hr with hr | hr
    · exact h.r r hr
    · rw [hr]; exact hp
  m0 := h.m0
  m1 := h.m1
theorem vld_set {rk : List (List Int)} {m who : Nat} {mv : List Nat} {l r' : List Int} (hw : who < m) (h : Rk rk m) (hv : Vld rk (span m) mv) (hl : Hld rk who m mv l) (hk : Keeps l (rk.getD who []) r') : Vld (rk.set who r') (span m) mv := by
  have hw' : who < rk.length := by rw [h.l]; exact hw
  refine vld_keep (who := who) (l := l) (fun i hi x => by rw [rkAt_set hw', if_neg hi]) (fun a b ha hb hlt => ?_) mv _ hv hl.all
  rw [rkAt_set hw', rkAt_set hw', if_pos rfl, if_pos rfl]
  exact hk a b ha hb hlt
end SW

namespace SW
open PySem PySem.Spec PyProof.Rows L2
theorem sw_trueD {kx vx : Expr} {gs : List Comprehension} {scope : Scope} {pos py : Pos} {y : Str} {l : Nat} {env : Env} (hk : env.scope.kind = .function) (hy : env.scope.names.lookup y = some .local) (hl : (py.line == pos.line) = true)
    (ha : (scope.names.any fun (n, k) => n == y && (k == .local || k == .cell)) = false) : swapsWith (.DictComp kx vx gs scope pos) (some (.Name y py)) l env = pure true := by
  have ky : env.kindOf y = some .local := hy
  have hb : env.blockKind = .function := by unfold Env.blockKind; rw [hk]; rfl
  unfold swapsWith
  simp only [hb, ky, ha, Expr.pos, hl]
  rfl
section
variable {X : Cx} {kx vx tg iter : Expr} {ifs : List Expr} {scope : Scope} {own : List (Str × Nat)} {pos spos py : Pos} {y : Str} {p : Bool} {g : TG} {h : DG} {qt : TT} {ut : DTB} {wi : TI} {ti : DI} {qk qv : TE} {uk uv : DT}
theorem ps_setDcT {i : Nat} {tt : TT} {tk tv : TE} (hu : X.A.units < cLine) (hc : X.calm = true) (hN : X.N.Nodup) (hy : X.N[i]? = some y) (hyl : X.env.scope.names.lookup y = some .local)
    (hsw : swapsWith (.DictComp kx vx [⟨tg, iter, ifs, 0⟩] scope pos) (some (.Name y py)) spos.line X.env = pure true) (hi : PI X tg iter wi) (ok : BlkOk X.N X.env.scope scope own)
    (hg : ∀ (s : Shared) (H : Hp) (C : Addr) (cl : List (Str × Addr)) (fp : List Addr), PG (X.blk s H scope (compEnvC scope cl C X.env) fp) tg g) (ht : ∀ (s : Shared) (H : Hp) (C : Addr) (cl : List (Str × Addr)) (fp : List Addr), PTs (X.blk s H scope (compEnvC scope cl C X.env) fp) ifs tt)
    (hk : ∀ (s : Shared) (H : Hp) (C : Addr) (cl : List (Str × Addr)) (fp : List Addr), PE (X.blk s H scope (compEnvC scope cl C X.env) fp) kx tk)
    (he : ∀ (s : Shared) (H : Hp) (C : Addr) (cl : List (Str × Addr)) (fp : List Addr), PE (X.blk s H scope (compEnvC scope cl C X.env) fp) vx tv) (hs : ∀ x, foldedSetIterable iter X.env x = pure x := by intro _; rfl) :
    PS X (.Assign [.Name y py] (.DictComp kx vx [⟨tg, iter, ifs, 0⟩] scope pos) spos) (tAsg (tDcT wi g tt tk tv (own.map (·.2))) (gName i)) := by
  refine ⟨fun pins s σ H D I h => ?_⟩
  rw [exec_Assign_Name_used _ _ _ _ hsw]
  refine wpAny_bind (wpAny_standAt (wpAny_bind ?_))
  show wpAny _ X.A (do let _ ← comprehension (.DictComp kx vx [⟨tg, iter, ifs, 0⟩] scope pos) scope X.env (firstIterPos [⟨tg, iter, ifs, 0⟩] pos) newDict false (eval iter X.env) (some (assign (.Name y py) X.env))) _ _ s
  have h : tDcT wi g tt tk tv (own.map (·.2)) σ H (fun x H1 => gName i x σ H1 D.nx) := h
  refine wpAny_bind (thn (dcT_core (Qf := fun _ s' => SP X pins D .next s') hu hc hN I hi ok hg ht hk he hs h fun L C s' m H' I' q hn f => ?_) fun _ s' hq => wpAny_pure (wpAny_pure hq))
  show wpAny _ _ (assign (.Name y py) X.env (.ref L)) _ _ _
  refine wpAny_assign_Name (store_ok2 (v := V.ref L) I' hN hy (.inl hyl) rfl (fun s2 I2 ⟨a, sb, ha⟩ => ?_) (.inr hyl))
  obtain ⟨f0, f1, f2, f3, f4, f5⟩ := f
  have haC : C ≠ a := by
    rcases ha with z | z
    · rw [z]; exact f1
    · exact fun e => f4 y a z e.symm
  refine ⟨m, hn.sameBut sb haC, fun h3 sb3 => ?_⟩
  exact ⟨_, H', I2.turned (t' := s2.toks) (fun b o hb e => (sb3.2 b hb).trans e) f0 f1 f3 f4 f5, q⟩
theorem ds_setDcT (i : Nat) (hu : X.A.units + 64 < cLine) (hc : X.calm = true) (hN : X.N.Nodup) (hyl : X.env.scope.names.lookup y = some .local)
    (hsw : swapsWith (.DictComp kx vx [⟨tg, iter, ifs, 0⟩] scope pos) (some (.Name y py)) spos.line X.env = pure true) (ok : BlkOk X.N X.env.scope scope own) (hi : DIt X tg iter p wi ti)
    (hg : ∀ (s : Shared) (H : Hp) (C : Addr) (cl : List (Str × Addr)) (fp : List Addr), DGt (X.blk s H scope (compEnvC scope cl C X.env) fp) tg true g h) (ht : ∀ (s : Shared) (H : Hp) (C : Addr) (cl : List (Str × Addr)) (fp : List Addr), DTs (X.blk s H scope (compEnvC scope cl C X.env) fp) ifs true qt ut)
    (hk : ∀ (s : Shared) (H : Hp) (C : Addr) (cl : List (Str × Addr)) (fp : List Addr), DE (X.blk s H scope (compEnvC scope cl C X.env) fp) kx true qk uk)
    (he : ∀ (s : Shared) (H : Hp) (C : Addr) (cl : List (Str × Addr)) (fp : List Addr), DE (X.blk s H scope (compEnvC scope cl C X.env) fp) vx true qv uv) (gi : GIn (own.map (·.2)) g) (hy : X.N[i]? = some y := by rfl) (hs : ∀ x, foldedSetIterable iter X.env x = pure x := by intro _; rfl) :
    DSt X (.Assign [.Name y py] (.DictComp kx vx [⟨tg, iter, ifs, 0⟩] scope pos) spos) (tAsg (tDcT wi g qt qk qv (own.map (·.2))) (gName i)) (dAsg (dFrz (dDcT ti h ut uk uv (own.map (·.2)))) (dgName i)) :=
  ⟨ps_setDcT (by omega) hc hN hy hyl hsw hi.pi ok (fun s H C cl fp => (hg s H C cl fp).pg) (fun s H C cl fp => (ht s H C cl fp).pt) (fun s H C cl fp => (hk s H C cl fp).pe) (fun s H C cl fp => (he s H C cl fp).pe) hs,
    sim_asg (sim_frz (sim_dcT hi.sim (hg X.s_0 X.H_0 0 [] []).sim (ht X.s_0 X.H_0 0 [] []).sim (hk X.s_0 X.H_0 0 [] []).sim (he X.s_0 X.H_0 0 [] []).sim gi)) (sim_gName i)⟩
end
end SW

namespace SW
open PySem PySem.Spec PyProof.Rows L2
/-! ### in any order, two neighbors that must swap stand at their place -/
def NoTr (m : Nat) (fin : List Int) : Prop := ∀ x y z : Int, x ∈ span m → y ∈ span m → z ∈ span m → x < y → y < z → fin.idxOf y < fin.idxOf x → fin.idxOf z < fin.idxOf y → False
section
variable {m n s : Nat} {fin here : List Int}
theorem idx_ne {row : List Int} (hr : Row row m) {a b : Int} (ha : a ∈ span m) (hb : b ∈ span m) (hab : a ≠ b) : row.idxOf a ≠ row.idxOf b := fun e => by
  have e1 := idxOf_at (hr.p.mem_iff.mpr ha)
  have e2 := idxOf_at (hr.p.mem_iff.mpr hb)
  rw [e, e2] at e1
  exact hab (Option.some.inj e1).symm
theorem mem_take {row : List Int} (hr : Row row m) {y : Int} : y ∈ row.take s ↔ y ∈ row ∧ row.idxOf y < s := by
  constructor
  · intro hy
    obtain ⟨i, hi⟩ := List.getElem?_of_mem hy
    rw [List.getElem?_take] at hi
    by_cases c : i < s
    · rw [if_pos c] at hi
      exact ⟨List.mem_of_getElem? hi, by rw [hr.idx hi]; exact c⟩
    · rw [if_neg c] at hi; cases hi
  · rintro ⟨hy, hi⟩
    have e := idxOf_at hy
    refine List.mem_of_getElem? (i := row.idxOf y) ?_
    rw [List.getElem?_take, if_pos hi]; exact e
/-- where an item stands: what is smaller and behind, what is greater and before -/
theorem idx_count {row : List Int} (hr : Row row m) {y : Int} (hy : y ∈ span m) :
    ((row.idxOf y : Nat) : Int) + ((span m).filter fun x => decide (x < y ∧ row.idxOf y < row.idxOf x)).length = y + ((span m).filter fun z => decide (y < z ∧ row.idxOf z < row.idxOf y)).length := by
  have rnd : row.Nodup := hr.p.nodup_iff.mpr (span_nodup m)
  have hl := hr.len
  have hy' := hr.p.mem_iff.mpr hy
  have hlt : row.idxOf y < row.length := List.idxOf_lt_length_iff.mpr hy'
  obtain ⟨y0, y1⟩ := span_mem.mp hy
  have k1 : (row.take (row.idxOf y)).Perm (((span m).filter fun x => decide (x < y ∧ row.idxOf x < row.idxOf y)) ++ (span m).filter fun z => decide (y < z ∧ row.idxOf z < row.idxOf y)) := by
    refine (List.perm_ext_iff_of_nodup ((List.take_sublist _ row).nodup rnd) ?_).mpr fun x => ?_
    · rw [List.nodup_append]
      refine ⟨(span_nodup m).filter _, (span_nodup m).filter _, fun a ha b hb e => ?_⟩
      rw [List.mem_filter, decide_eq_true_eq] at ha hb
      omega
    · rw [mem_take hr, List.mem_append, List.mem_filter, List.mem_filter, decide_eq_true_eq, decide_eq_true_eq, ← hr.p.mem_iff]
      constructor
      · rintro ⟨hx, hi⟩
        have hne : x ≠ y := fun e => by rw [e] at hi; omega
        rcases Int.lt_or_le x y with q | q
        · exact .inl ⟨hx, q, hi⟩
        · exact .inr ⟨hx, by omega, hi⟩
      · rintro (⟨hx, _, hi⟩ | ⟨hx, _, hi⟩)
        · exact ⟨hx, hi⟩
        · exact ⟨hx, hi⟩
  have k2 : ((span m).filter fun x => decide (x < y)).Perm (((span m).filter fun x => decide (x < y ∧ row.idxOf x < row.idxOf y)) ++ (span m).filter fun x => decide (x < y ∧ row.idxOf y < row.idxOf x)) := by
    refine (List.perm_ext_iff_of_nodup ((span_nodup m).filter _) ?_).mpr fun x => ?_
    · rw [List.nodup_append]
      refine ⟨(span_nodup m).filter _, (span_nodup m).filter _, fun a ha b hb e => ?_⟩
      rw [List.mem_filter, decide_eq_true_eq] at ha hb
      rw [e] at ha
      omega
    · rw [List.mem_append, List.mem_filter, List.mem_filter, List.mem_filter, decide_eq_true_eq, decide_eq_true_eq, decide_eq_true_eq]
      constructor
      · rintro ⟨hx, hi⟩
        have := idx_ne hr hx hy (by omega)
        by_cases q : row.idxOf x < row.idxOf y
        · exact .inl ⟨hx, hi, q⟩
        · exact .inr ⟨hx, hi, by omega⟩
      · rintro (⟨hx, hi, _⟩ | ⟨hx, hi, _⟩)
        · exact ⟨hx, hi⟩
        · exact ⟨hx, hi⟩
  have e1 := k1.length_eq
  have e2 := k2.length_eq
  have e3 := low_len (m := m) (t := y) y0 (by omega)
  rw [List.length_take, List.length_append] at e1
  rw [List.length_append] at e2
  omega
/-- without a decreasing triple the left-movers are those that have passed something smaller -/
theorem left_iff (hf : Row fin m) (nt : NoTr m fin) {y : Int} (hy : y ∈ span m) : ((fin.idxOf y : Nat) : Int) < y ↔ ∃ x ∈ span m, x < y ∧ fin.idxOf y < fin.idxOf x := by
  have hc := idx_count hf hy
  constructor
  · intro h
    have : 0 < ((span m).filter fun x => decide (x < y ∧ fin.idxOf y < fin.idxOf x)).length := by omega
    obtain ⟨x, hx⟩ := List.exists_mem_of_length_pos this
    rw [List.mem_filter, decide_eq_true_eq] at hx
    exact ⟨x, hx.1, hx.2⟩
  · rintro ⟨x, hx, h1, h2⟩
    have e0 : (span m).filter (fun z => decide (y < z ∧ fin.idxOf z < fin.idxOf y)) = [] := by
      rw [List.filter_eq_nil_iff]
      intro z hz
      rw [decide_eq_true_eq]
      rintro ⟨a, b⟩
      exact nt x y z hx hy hz h1 a h2 b
    have e1 : 0 < ((span m).filter fun x => decide (x < y ∧ fin.idxOf y < fin.idxOf x)).length := List.length_pos_of_mem (List.mem_filter.mpr ⟨hx, decide_eq_true ⟨h1, h2⟩⟩)
    rw [e0] at hc
    simp only [List.length_nil] at hc
    omega
theorem Sq.place (q : Sq m fin here n) (hf : Row fin m) (nt : NoTr m fin) (hs : s + 1 < m) (hlt : here.getD s 0 < here.getD (s + 1) 0) (hn : fin.idxOf (here.getD (s + 1) 0) < fin.idxOf (here.getD s 0)) :
    (s : Int) = placeI (endsOf fin) (here.getD s 0) (here.getD (s + 1) 0) := by
  have hr := q.r
  have hl := hr.len
  have hfl := hf.len
  have at1 := at_getD (row := here) (j := s) (by omega)
  have at2 := at_getD (row := here) (j := s + 1) (by omega)
  have i1 := hr.idx at1
  have i2 := hr.idx at2
  have mt := hr.p.subset (List.mem_of_getElem? at1)
  have mf := hr.p.subset (List.mem_of_getElem? at2)
  generalize here.getD s 0 = t at *
  generalize here.getD (s + 1) 0 = f at *
  obtain ⟨t0, t1⟩ := span_mem.mp mt
  obtain ⟨f0, f1⟩ := span_mem.mp mf
  have rnd : here.Nodup := hr.p.nodup_iff.mpr (span_nodup m)
  have hE : (endsOf fin).length = m := by rw [endsOf_len, hfl]
  have el : (ltI (endsOf fin)).filter (fun y => decide (t < y) && decide (y < f)) = (span m).filter fun y => decide (t < y ∧ y < f ∧ ((fin.idxOf y : Nat) : Int) < y) := by
    unfold ltI
    rw [hE, List.filter_filter]
    refine List.filter_congr fun y hy => ?_
    rw [ends_at hf (hf.p.mem_iff.mpr hy)]
    by_cases a : t < y <;> by_cases b : y < f <;> by_cases c : ((fin.idxOf y : Nat) : Int) < y <;> simp [a, b, c]
  have key : (here.take s).Perm (((span m).filter fun y => decide (y < t)) ++ (span m).filter fun y => decide (t < y ∧ y < f ∧ ((fin.idxOf y : Nat) : Int) < y)) := by
    refine (List.perm_ext_iff_of_nodup ((List.take_sublist s here).nodup rnd) ?_).mpr fun y => ?_
    · rw [List.nodup_append]
      refine ⟨(span_nodup m).filter _, (span_nodup m).filter _, fun a ha b hb e => ?_⟩
      rw [List.mem_filter, decide_eq_true_eq] at ha hb
      omega
    · rw [mem_take hr, List.mem_append, List.mem_filter, List.mem_filter, decide_eq_true_eq, decide_eq_true_eq, hr.p.mem_iff]
      constructor
      · rintro ⟨hy, hi⟩
        by_cases c : y < t
        · exact .inl ⟨hy, c⟩
        · have hne : y ≠ t := fun z => by rw [z] at hi; omega
          have hyf : y ≠ f := fun z => by rw [z] at hi; omega
          have h1 := q.sub t y mt hy (by omega) (by omega)
          refine .inr ⟨hy, by omega, ?_, (left_iff hf nt hy).mpr ⟨t, mt, by omega, h1⟩⟩
          rcases Int.lt_or_le y f with q1 | q1
          · exact q1
          · have h2 := q.sub f y mf hy (by omega) (by omega)
            exact (nt t f y mt mf hy hlt (by omega) hn h2).elim
      · rintro (⟨hy, c⟩ | ⟨hy, c1, c2, c3⟩)
        · refine ⟨hy, ?_⟩
          have n1 := idx_ne hr hy mt (by omega)
          by_cases c4 : here.idxOf y < s
          · exact c4
          · exfalso
            have h1 := q.sub y t hy mt c (by omega)
            exact nt y t f hy mt mf c hlt h1 hn
        · refine ⟨hy, ?_⟩
          have n1 := idx_ne hr hy mt (by omega)
          have n2 := idx_ne hr hy mf (by omega)
          by_cases c4 : here.idxOf y < s
          · exact c4
          · exfalso
            have h1 := q.sub y f hy mf c2 (by omega)
            obtain ⟨x, hx, hxy, hxi⟩ := (left_iff hf nt hy).mp c3
            exact nt x y f hx hy mf hxy c2 hxi h1
  have hlen := key.length_eq
  rw [List.length_take, List.length_append] at hlen
  have hlow := low_len (m := m) (t := t) t0 (by omega)
  unfold placeI
  rw [el]
  omega
end
end SW

namespace SW
open PySem PySem.Spec PyProof.Rows L2
/-! ### the end of such a sequence -/
section
variable {m n : Nat} {fin here row : List Int}
theorem Vs.noTr {rk : List (List Int)} {held : List (List Int)} {wy : Int → Int} {pr : Int → List Int} (h : Vs rk m n row held wy pr) (g : Ss m row wy pr) : NoTr m row := fun x y z hx hy hz hxy hyz h1 h2 => by
  have hx' := h.r.p.mem_iff.mpr hx
  have hy' := h.r.p.mem_iff.mpr hy
  have hz' := h.r.p.mem_iff.mpr hz
  have m1 := (g.a x y hx' hy' hxy).mpr h1
  have m2 := (g.a y z hy' hz' hyz).mpr h2
  have w1 : wy y = -1 := by
    rcases (h.pw x y m1).2.2 with ⟨_, b, _⟩ | ⟨_, _, c⟩
    · exact b
    · omega
  rcases (h.pw y z m2).2.2 with ⟨a, _, _⟩ | ⟨_, _, c⟩
  · rw [w1] at a; cases a
  · omega
theorem sumN_le {f g : Nat → Nat} : ∀ {k : Nat}, (∀ i, i < k → f i ≤ g i) → sumN k f ≤ sumN k g
  | 0, _ => Nat.le_refl _
  | k + 1, h => by
    have h1 := sumN_le (k := k) fun i hi => h i (by omega)
    have h2 := h k (by omega)
    simp only [sumN]
    omega
theorem Sq.le (q : Sq m fin here n) (hf : Row fin m) : n ≤ invN m (endsOf fin) := by
  rw [← q.c]
  have lh := q.r.len
  have lf := hf.len
  unfold invN
  refine sumN_le fun x hx => sumN_le fun k hk => ?_
  unfold ind
  rw [endsOf_getD (by omega), endsOf_getD (by omega), endsOf_getD (by omega), endsOf_getD (by omega)]
  have := q.sub (x : Int) ((x + 1 + k : Nat) : Int) (span_mem.mpr ⟨by omega, by omega⟩) (span_mem.mpr ⟨by omega, by omega⟩) (by omega)
  by_cases c : here.idxOf ((x + 1 + k : Nat) : Int) < here.idxOf (x : Int)
  · rw [if_pos (by omega), if_pos (by have := this c; omega)]; exact Nat.le_refl _
  · rw [if_neg (by omega)]; exact Nat.zero_le _
theorem rows_eq (ha : Row here m) (hb : Row fin m) (h : ∀ x z : Int, x ∈ span m → z ∈ span m → x < z → (here.idxOf z < here.idxOf x ↔ fin.idxOf z < fin.idxOf x)) : here = fin := by
  have la := ha.len
  have lb := hb.len
  have idx : ∀ y, y ∈ span m → here.idxOf y = fin.idxOf y := fun y hy => by
    have c1 := idx_count ha hy
    have c2 := idx_count hb hy
    have f1 : (span m).filter (fun x => decide (x < y ∧ here.idxOf y < here.idxOf x)) = (span m).filter fun x => decide (x < y ∧ fin.idxOf y < fin.idxOf x) :=
      List.filter_congr fun x hx => by
        rw [decide_eq_decide]
        exact ⟨fun ⟨a, b⟩ => ⟨a, (h x y hx hy a).mp b⟩, fun ⟨a, b⟩ => ⟨a, (h x y hx hy a).mpr b⟩⟩
    have f2 : (span m).filter (fun z => decide (y < z ∧ here.idxOf z < here.idxOf y)) = (span m).filter fun z => decide (y < z ∧ fin.idxOf z < fin.idxOf y) :=
      List.filter_congr fun z hz => by
        rw [decide_eq_decide]
        exact ⟨fun ⟨a, b⟩ => ⟨a, (h y z hy hz a).mp b⟩, fun ⟨a, b⟩ => ⟨a, (h y z hy hz a).mpr b⟩⟩
    rw [f1, f2] at c1
    omega
  apply List.ext_getElem?
  intro i
  by_cases hi : i < m
  · obtain ⟨y, ey⟩ : ∃ y, here[i]? = some y := ⟨_, List.getElem?_eq_getElem (by omega)⟩
    have hy := List.mem_of_getElem? ey
    have e1 := ha.idx ey
    have e2 := idx y (ha.p.subset hy)
    have e3 := idxOf_at (hb.p.mem_iff.mpr (ha.p.subset hy))
    rw [← e2, e1] at e3
    rw [ey, e3]
  · rw [List.getElem?_eq_none (by omega), List.getElem?_eq_none (by omega)]
/-- all is swapped: it is the arrangement -/
theorem Sq.done (q : Sq m fin here n) (hf : Row fin m) (hn : invN m (endsOf fin) ≤ n) : here = fin := by
  have all := q.all hf fun j h1 h2 h3 => by
    have := (q.step h1 h2 h3).le hf
    omega
  exact rows_eq q.r hf fun x z hx hz hxz => ⟨q.sub x z hx hz hxz, all x z hx hz hxz⟩
/-- what nobody refuses is allowed when the two are neighbors -/
theorem AllOk.at {rk : List (List Int)} (ok : AllOk rk m (swL (endsOf fin))) (hf : Row fin m) {x z : Int} (hx : x ∈ span m) (hz : z ∈ span m) (hxz : x < z) (h : fin.idxOf z < fin.idxOf x) :
    ∃ p : Nat, (p : Int) = placeI (endsOf fin) x z ∧ p + 1 < m ∧ rkAt rk p z < rkAt rk p x ∧ rkAt rk (p + 1) x < rkAt rk (p + 1) z := by
  have hfl := hf.len
  obtain ⟨x0, x1⟩ := span_mem.mp hx
  obtain ⟨z0, z1⟩ := span_mem.mp hz
  have ex := ends_at hf (hf.p.mem_iff.mpr hx)
  have ez := ends_at hf (hf.p.mem_iff.mpr hz)
  obtain ⟨a, rfl⟩ := Int.eq_ofNat_of_zero_le x0
  obtain ⟨b, rfl⟩ := Int.eq_ofNat_of_zero_le z0
  rw [Int.toNat_natCast] at ex ez
  have hm := pairs_mem (E := endsOf fin) (x := a) (z := b) (by omega) (by rw [endsOf_len]; omega) (by rw [ex, ez]; omega)
  obtain ⟨p, x', z', e, hp, _, _, h1, h2⟩ := ok _ (List.mem_map.mpr ⟨_, hm, rfl⟩)
  have e : D.tup [.int (placeI (endsOf fin) a b), .int (a : Nat), .int (b : Nat)] = D.tup [.int (p : Nat), .int x', .int z'] := e
  injection e with e
  injection e with e1 e
  injection e with e2 e
  injection e with e3 _
  injection e1 with e1
  injection e2 with e2
  injection e3 with e3
  subst e2; subst e3
  exact ⟨p, e1.symm, hp, h1, h2⟩
theorem Sq.may {rk : List (List Int)} {s : Nat} (q : Sq m fin here n) (hf : Row fin m) (nt : NoTr m fin) (ok : AllOk rk m (swL (endsOf fin))) (hs : s + 1 < m) (hlt : here.getD s 0 < here.getD (s + 1) 0) (hn : fin.idxOf (here.getD (s + 1) 0) < fin.idxOf (here.getD s 0)) : mayI rk here s = true := by
  have hr := q.r
  have hl := hr.len
  have hp := q.place hf nt hs hlt hn
  have mt := hr.p.subset (List.mem_of_getElem? (at_getD (row := here) (j := s) (by omega)))
  have mf := hr.p.subset (List.mem_of_getElem? (at_getD (row := here) (j := s + 1) (by omega)))
  obtain ⟨p, e, _, h1, h2⟩ := ok.at hf mt mf hlt hn
  have : p = s := by omega
  subst this
  unfold mayI
  rw [Bool.and_eq_true, decide_eq_true_eq, decide_eq_true_eq]
  omega
end
end SW

namespace SW
open PySem PySem.Spec PyProof.Rows L2
/-! ### x in xs, xs a list of plain data -/
theorem pys_map : ∀ ds : List D, pys ds = ds.map py
  | [] => rfl
  | d :: ds => by simp only [pys, List.map_cons, pys_map ds]
def inDp (neg : Bool) : D → D → (D → Prop) → Prop
  | x, .lst ds, q => okq x = true ∧ okq (.lst ds) = true ∧ q (.bl (if neg then !(ds.any fun z => PyData.eqv (py z) (py x)) else ds.any fun z => PyData.eqv (py z) (py x)))
  | _, _, _ => False
section
variable {X : Cx} {K : PySem.W.Frag} {o : Expr}
theorem os_inDp : OpS (rInD K) (inDp false) := by
  intro S T H σ δ fp x y v w Q Q' s rx ry q k
  unfold inDp at q
  split at q
  · rename_i ds
    obtain ⟨q1, q2, q3⟩ := q
    unfold okq at q1 q2
    rw [Bool.and_eq_true] at q1 q2
    refine ⟨_, pys ds, rx.dp s.s q1.1, by have := ry.dp (K := K) s.s q2.1; simpa only [py] using this, q1.2, by have := q2.2; simpa only [py] using this, ?_⟩
    rw [pys_map, List.any_map]
    exact k S H _ _ (Le.refl _) s ri_bl (Ex.refl _ _) q3
  · exact q.elim
theorem os_ninDp : OpS (rNotInD K) (inDp true) := by
  intro S T H σ δ fp x y v w Q Q' s rx ry q k
  unfold inDp at q
  split at q
  · rename_i ds
    obtain ⟨q1, q2, q3⟩ := q
    unfold okq at q1 q2
    rw [Bool.and_eq_true] at q1 q2
    refine ⟨_, pys ds, rx.dp s.s q1.1, by have := ry.dp (K := K) s.s q2.1; simpa only [py] using this, q1.2, by have := q2.2; simpa only [py] using this, ?_⟩
    rw [pys_map, List.any_map]
    exact k S H _ _ (Le.refl _) s ri_bl (Ex.refl _ _) q3
  · exact q.elim
/-- the test, of data that compare as they are -/
theorem any_num {x : D} (hx : num x = true) : ∀ {ds : List D}, (∀ d ∈ ds, num d = true) → ((ds.any fun z => PyData.eqv (py z) (py x)) = true ↔ x ∈ ds)
  | [], _ => by simp
  | d :: ds, h => by
    have ih := any_num hx (ds := ds) fun y hy => h y (List.mem_cons_of_mem _ hy)
    rw [List.any_cons, Bool.or_eq_true, ih, List.mem_cons]
    have hd := h d (by simp)
    constructor
    · rintro (e | e)
      · exact .inl (num_eqv d x hd hx e).symm
      · exact .inr e
    · rintro (e | e)
      · subst e; exact .inl (num_eqv_same hx)
      · exact .inr e
/-! ### a slot's own list, taken as data for good -/
def dFrzL (i : Nat) : DT := fun δ Q => match δ[i]? with
  | some (some (.o _ (.lst ds))) => Q (.lst ds) (δ.set i (some (.i (.lst ds))))
  | _ => False
theorem SR.freezeL {S T H : Hp} {σ : St} {δ : DEnv} {fp : Nat → List Addr} (s : SR S T H σ δ fp) {i : Nat} {a : Addr} {ds : List D} (e : δ[i]? = some (some (.o a (.lst ds)))) :
    ∃ xs, σ[i]? = some (some (.ref a)) ∧ RIs S ds xs ∧ Le S (upd S a (.lst xs)) ∧ SR (upd S a (.lst xs)) T H σ (δ.set i (some (.i (.lst ds)))) (fset fp i []) := by
  have hv := s.sl i
  rw [e] at hv
  obtain ⟨e1, xs, h1, h2, hfp⟩ := hv
  have ha : a ∈ fp i := by rw [hfp]; exact List.mem_singleton.mpr rfl
  obtain ⟨hs, ht⟩ := s.own i a ha
  have hi : i < σ.length := (List.getElem?_eq_some_iff.mp e1).1
  have s1 := s.put hi (v := some (.ref a)) (w := none) (l := []) rfl (fun a ha => nomatch ha) fun a ha => nomatch ha
  have s2 := s1.adopt (p := a) h1 hs ht fun j hj => by
    by_cases hji : j = i
    · subst hji; rw [fset_same] at hj; cases hj
    · rw [fset_ne hji] at hj; exact hji (s.dis j i a hj ha)
  have hi2 : i < (σ.set i (some (V.ref a))).length := by simpa using hi
  have s3 := s2.put hi2 (v := some (.ref a)) (w := some (.i (.lst ds))) (l := []) ⟨⟨_, rfl, by simp only [RI]; exact ⟨a, xs, rfl, upd_same, h2.mono (le_upd hs)⟩⟩, rfl⟩ (fun a ha => nomatch ha) fun a ha => nomatch ha
  refine ⟨xs, e1, h2, le_upd hs, ?_⟩
  have eσ : (σ.set i (some (V.ref a))).set i (some (V.ref a)) = σ := by
    rw [List.set_set]
    apply List.ext_getElem?
    intro j
    by_cases hj : j = i
    · subst hj; rw [List.getElem?_set_self hi, e1]
    · rw [List.getElem?_set_ne (Ne.symm hj)]
  have eδ : (δ.set i none).set i (some (.i (.lst ds))) = δ.set i (some (.i (.lst ds))) := List.set_set ..
  have ef : fset (fset fp i []) i [] = fset fp i [] := by funext j; unfold fset; split <;> rfl
  rw [eσ, eδ, ef] at s3
  exact s3
theorem sim_frzL (i : Nat) : SimE false (tVar i) (dFrzL i) := by
  intro S T H σ δ fp Q Q' s g k
  unfold dFrzL at g
  split at g
  · rename_i a ds e
    obtain ⟨xs, e1, h2, l, s'⟩ := s.freezeL e
    exact ⟨_, e1, k _ H _ _ (.lst ds) _ l s' (by simp only [RI]; exact ⟨a, xs, rfl, upd_same, h2.mono l⟩) (fun z => nomatch z) g⟩
  · exact g.elim
theorem dvo (i : Nat) (ho : PE X o (tVar i)) : DE X o false (tVar i) (dFrzL i) := ⟨ho, sim_frzL i⟩
end
end SW

namespace SW
open PySem PySem.Spec PyProof.Rows L2
theorem op_inDA {X : Cx} {k : Nat} (hr : Room k X.A) : OpR X (compareOp .In) (rInD X.K) := op_inD (by have := hr.un; omega)
theorem op_notInDA {X : Cx} {k : Nat} (hr : Room k X.A) : OpR X (compareOp .NotIn) (rNotInD X.K) := op_notInD (by have := hr.un; omega)
/-! ### decided for every arrangement -/
def DecOk (rk : List (List Int)) (m : Nat) (row : List Int) : Prop := NoTr m row ∧ AllOk rk m (swL (endsOf row))
section
variable {m : Nat} {row : List Int}
theorem trip_of (h : Row row m) (nt : NoTr m row) : tripOf (endsOf row) = .non := by
  have hE : (endsOf row).length = m := by rw [endsOf_len, h.len]
  have key : (pairsOf (endsOf row)).findSome? (tripH (endsOf row)) = none := by
    rw [List.findSome?_eq_none_iff]
    intro d hd
    obtain ⟨x, y, rfl, x0, xy, yl, hlt⟩ := pairs_is hd
    have hx : x ∈ span m := span_mem.mpr ⟨by omega, by omega⟩
    have hy : y ∈ span m := span_mem.mpr ⟨by omega, by omega⟩
    rw [ends_at h (h.p.mem_iff.mpr hx), ends_at h (h.p.mem_iff.mpr hy)] at hlt
    have no : nexts (endsOf row) y = [] := by
      refine List.eq_nil_iff_forall_not_mem.mpr fun c hc => ?_
      unfold nexts at hc
      obtain ⟨e, he, hc⟩ := List.mem_filterMap.mp hc
      obtain ⟨j, hj⟩ := List.getElem?_of_mem he
      obtain ⟨h2, rfl⟩ := rangeD_is hj
      have hz : (y + 1 + (j : Int)) ∈ span m := span_mem.mpr ⟨by omega, by omega⟩
      have hc : (if (endsOf row).getD (y + 1 + (j : Int)).toNat 0 < (endsOf row).getD y.toNat 0 then some (D.int (y + 1 + (j : Int))) else none) = some c := hc
      rw [ends_at h (h.p.mem_iff.mpr hy), ends_at h (h.p.mem_iff.mpr hz)] at hc
      by_cases q : ((row.idxOf (y + 1 + (j : Int)) : Nat) : Int) < ((row.idxOf y : Nat) : Int)
      · exact nt x y _ hx hy hz xy (by omega) (by omega) (by omega)
      · rw [if_neg q] at hc; cases hc
    show (nexts (endsOf row) y).head?.map _ = none
    rw [no]; rfl
  unfold tripOf
  rw [key]; rfl
theorem trip_is (E : List Int) : tripOf E = .non ∨ ∃ es, tripOf E = .tup es := by
  unfold tripOf
  cases e : (pairsOf E).findSome? (tripH E) with
  | none => exact .inl rfl
  | some r =>
    obtain ⟨d, hd, e2⟩ := List.exists_of_findSome?_eq_some e
    obtain ⟨x, y, rfl, _⟩ := pairs_is hd
    have e2 : (nexts E y).head?.map (fun z => D.tup [.int x, .int y, z]) = some r := e2
    cases q : (nexts E y).head? with
    | none => rw [q] at e2; cases e2
    | some z => rw [q] at e2; cases e2; exact .inr ⟨_, rfl⟩
theorem noTr_of (h : Row row m) (ht : tripOf (endsOf row) = .non) : NoTr m row := fun x y z hx hy hz hxy hyz h1 h2 => by
  have hE : (endsOf row).length = m := by rw [endsOf_len, h.len]
  obtain ⟨x0, x1⟩ := span_mem.mp hx
  obtain ⟨y0, y1⟩ := span_mem.mp hy
  obtain ⟨z0, z1⟩ := span_mem.mp hz
  have ex := ends_at h (h.p.mem_iff.mpr hx)
  have ey := ends_at h (h.p.mem_iff.mpr hy)
  have ez := ends_at h (h.p.mem_iff.mpr hz)
  have hm : D.tup [.int x, .int y] ∈ pairsOf (endsOf row) := by
    obtain ⟨a, rfl⟩ := Int.eq_ofNat_of_zero_le x0
    obtain ⟨b, rfl⟩ := Int.eq_ofNat_of_zero_le y0
    rw [Int.toNat_natCast] at ex ey
    exact pairs_mem (by omega) (by omega) (by rw [ex, ey]; omega)
  have hn : D.int z ∈ nexts (endsOf row) y := by
    unfold nexts
    refine List.mem_filterMap.mpr ⟨.int z, ?_, ?_⟩
    · rw [rangeD_ints]; exact List.mem_map.mpr ⟨z, mem_ints.mpr ⟨by omega, by omega⟩, rfl⟩
    · show (if (endsOf row).getD z.toNat 0 < (endsOf row).getD y.toNat 0 then some (D.int z) else none) = _
      rw [ey, ez, if_pos (by omega)]
  have hs : (pairsOf (endsOf row)).findSome? (tripH (endsOf row)) ≠ none := fun e => by
    rw [List.findSome?_eq_none_iff] at e
    have e1 : (nexts (endsOf row) y).head?.map (fun z => D.tup [.int x, .int y, z]) = none := e _ hm
    cases q : nexts (endsOf row) y with
    | nil => rw [q] at hn; cases hn
    | cons c l => rw [q] at e1; cases e1
  unfold tripOf at ht
  cases e : (pairsOf (endsOf row)).findSome? (tripH (endsOf row)) with
  | none => exact hs e
  | some r =>
    rw [e] at ht
    have ht : r = .non := ht
    obtain ⟨d, hd, e2⟩ := List.exists_of_findSome?_eq_some e
    obtain ⟨a, b, rfl, _⟩ := pairs_is hd
    have e2 : (nexts (endsOf row) b).head?.map (fun z => D.tup [.int a, .int b, z]) = some r := e2
    cases q : (nexts (endsOf row) b).head? with
    | none => rw [q] at e2; cases e2
    | some c => rw [q] at e2; cases e2; cases ht
/-- a place is inside of the row -/
theorem place_in (h : Row row m) {x z : Int} (hx : x ∈ span m) (hz : z ∈ span m) (hxz : x < z) : ∃ p : Nat, placeI (endsOf row) x z = (p : Int) ∧ p + 1 < m := by
  have hE : (endsOf row).length = m := by rw [endsOf_len, h.len]
  obtain ⟨x0, x1⟩ := span_mem.mp hx
  obtain ⟨z0, z1⟩ := span_mem.mp hz
  have hle : ((ltI (endsOf row)).filter fun y => decide (x < y) && decide (y < z)).length ≤ (zss (x + 1) z).length := by
    refine nodup_le ?_ fun y hy => ?_
    · unfold ltI; exact ((span_nodup _).filter _).filter _
    · rw [List.mem_filter, Bool.and_eq_true, decide_eq_true_eq, decide_eq_true_eq] at hy
      exact mem_ints.mpr ⟨by omega, hy.2.2⟩
  rw [ints_len] at hle
  unfold placeI
  exact ⟨(x + (((ltI (endsOf row)).filter fun y => decide (x < y) && decide (y < z)).length : Nat)).toNat, by omega, by omega⟩
end
end SW

/-! ### sorted of tuples of whole numbers, any number of them -/
namespace SrtO
open PySem PyProof.Rows Srt TS
section
variable {prog : Program} {w : World} {A : Around} {E : Value → Shared → Prop} {s : Shared}
theorem swo_key (c : Value → Int) : Swo fun v u => decide (c v < c u) := by
  refine ⟨fun x y h => ?_, fun x y z h1 h2 => ?_⟩
  · have a := of_decide_eq_true h
    exact decide_eq_false (by omega)
  · have a := of_decide_eq_false h1
    have b := of_decide_eq_false h2
    exact decide_eq_false (by omega)
theorem tups_cmp {d : Nat} {B : Int} {vs : List Value} (x : TupsOk s.heap d B vs) (c : Value → Int) (hr : ∀ v, v ∈ vs → ∀ ns, TupInts s.heap v ns → c v = code B ns) : Cmp prog w A s (tuples' true) (fun p => p.1 ∈ vs) (lt2 fun v u => decide (c v < c u)) := by
  intro p q hm hm'
  obtain ⟨ns, tp, lp, bp⟩ := x _ hm
  obtain ⟨ms, tq, lq, bq⟩ := x _ hm'
  have ep := hr _ hm _ tp
  have eq2 := hr _ hm' _ tq
  show wpAny (model prog w) A (keyLt' (tuples' true) p.1 q.1) (fun r s' => s' = s ∧ r = decide (c p.1 < c q.1)) (fun _ _ => False) s
  rw [ep, eq2]
  obtain ⟨a, xs, e1, ⟨o, ho, hc, n, hdt⟩, i⟩ := tp
  obtain ⟨a', ys, e2, ⟨o', ho', hc', n', hdt'⟩, i'⟩ := tq
  rw [e1, e2]
  refine PySem.W.kat_lt ho hdt ho' hdt' ?_
  have sz : decide (xs.size < ys.size) = false := by
    have l1 := i.length
    have l2 := i'.length
    rw [Array.length_toList] at l1 l2
    exact decide_eq_false (by omega)
  rw [sz]
  exact lex_ints (Q := fun r s' => s' = s ∧ r = decide (code B ns < code B ms)) 0 i i' (by omega) bp bq ⟨rfl, rfl⟩
theorem tups_sortable {a : Addr} {d : Nat} {B : Int} {vs : List Value} (hd : 1 ≤ d) (h0 : 0 < vs.length) (x : TupsOk s.heap d B vs) (ha : ∀ o, s.heap.get? a = some o → o.cls ≠ .type "tuple") (c : Value → Int) (hr : ∀ h' : Heap, (∀ b o, s.heap.get? b = some o → o.cls = .type "tuple" → h'.get? b = some o) → ∀ v, v ∈ vs → ∀ ns, TupInts h' v ns → c v = code B ns) :
    SortableO prog w A s a vs fun v u => decide (c v < c u) := by
  intro h' keep
  have kk : ∀ b o, s.heap.get? b = some o → o.cls = .type "tuple" → h'.get? b = some o := fun b o e cl => keep b o (fun z => by subst z; exact ha o e cl) e
  have x' := x.keeps kk
  obtain ⟨fs, k, hl, hi⟩ := TS.firsts_of hd vs x'
  refine ⟨tuples' true, fun Q E hq => ?_, tups_cmp (s := { s with heap := h' }) x' c (hr h' kk)⟩
  refine PySem.W.kat_kind (T := .type "int") k (by omega) (fun f hm => ?_) (by rfl) ?_
  · obtain ⟨n, t, rfl⟩ := hi f hm
    exact PySem.W.Looks.now
  · have e : (Value.type "int" != Value.type "tuple") = true := by first | decide +kernel | rfl | decide
    rw [e]
    exact hq
end
end SrtO
namespace SW
open PySem PySem.Spec PyProof.Rows L2
def rSortA (K : PySem.W.Frag) : List V → Hp → VK → Prop := fun vs H Q => ∃ (d : Nat) (B : Int) (a : Addr) (xs : List V), 1 ≤ d ∧ vs = [V.ref a] ∧ SqL K H a xs ∧ (∀ x ∈ xs, ∃ ns, TupI K H x ns ∧ ns.length = d ∧ TS.Bd B ns) ∧
  ∀ (ys : List V) (p : Addr), ys.Perm xs → ys.Pairwise (fun x y => ∀ n m, TupI K H x n → TupI K H y m → TS.code B n ≤ TS.code B m) → H p = none → Q (.ref p) (upd H p (.lst ys))
theorem cr_sortA {X : Cx} : CallR X (.builtin "sorted") (rSortA X.K) := by
  intro pins s σ H vs us Q I r h
  obtain ⟨d, B, a, xs, hd, rfl, hs, hx, q⟩ := h
  obtain ⟨its, rv, hl, hz⟩ := I.list hs
  rw [Vals.ref1 r]
  obtain ⟨e1, e2⟩ := bkV_refs rv fun x m => by
    obtain ⟨ns, ⟨t, e, _⟩, _⟩ := hx x m
    exact ⟨t, e⟩
  have hT : TS.TupsOk s.heap d B its := fun v hv => by
    obtain ⟨t, rfl⟩ := e2 v hv
    have hm : V.ref t ∈ xs := by
      rw [e1]
      exact List.mem_map.mpr ⟨_, hv, rfl⟩
    obtain ⟨ns, ⟨t', e, ht⟩, hn, hb⟩ := hx _ hm
    cases e
    exact ⟨ns, tupI_raw I ht, hn, hb⟩
  refine SrtO.sorted_ord (ltv := fun v u => decide (TS.code B (TS.intsOf s.heap v) < TS.code B (TS.intsOf s.heap u))) (SrtO.swo_key fun v => TS.code B (TS.intsOf s.heap v)) hl.isList (by rw [← rv.length]; exact hz) (fun h2 h₁ a' ha' kk => ?_) fun out h1 h2 => ?_
  · have k1 : ∀ b o, s.heap.get? b = some o → o.cls = .type "tuple" → h₁.get? b = some o := fun b o e _ => (kk b o e).2
    refine SrtO.tups_sortable (s := { s with heap := h₁ }) hd (by omega) (hT.keeps k1) (fun o e => ?_) _ fun h' keep v hv ns t => ?_
    · have e' : some o = some (seqObj "list" its.toArray 0) := e.symm.trans ha'
      cases e'
      intro c
      exact absurd (Value.type.inj c) (by decide)
    · obtain ⟨ns0, t0, _⟩ := hT v hv
      have e : ns = ns0 := t.ints.symm.trans ((t0.keeps k1).keeps keep).ints
      rw [e]
      show TS.code B (TS.intsOf s.heap v) = TS.code B ns0
      rw [t0.ints]
  · obtain ⟨ep, he'⟩ := PyProof.Rows.sortedAll_at s.heap its out.toArray
    have h3 : ∀ u ∈ out, ∃ a, u = Value.ref a := fun u hu => e2 u (h2.perm.mem_iff.mp hu)
    have hp : (out.map bkV).Perm xs := by
      rw [e1]
      exact h2.perm.map bkV
    have hlen : (out.map bkV).length ≤ sizeLine := by
      rw [hp.length_eq]
      exact hz
    refine ⟨.ref _, upd H (s.heap.objs.size + 1) (.lst (out.map bkV)), I.laid (t' := s.toks) (fun _ _ => PyProof.Rows.sortedAll_old) (Nat.le_succ _) ⟨hlen, out, ep, bkV_vals h3, he'⟩, rfl, q _ _ hp ?_ (I.hok.fresh (Nat.le_succ _))⟩
    rw [List.pairwise_map]
    refine List.Pairwise.imp (fun {u v} huv n m hn hm => ?_) h1
    obtain ⟨t, et, ht⟩ := hn
    obtain ⟨t', et', ht'⟩ := hm
    have eu := bkV_ref et
    have ev := bkV_ref et'
    have i1 : TS.intsOf s.heap u = n := by
      rw [eu]
      exact (tupI_raw I ht).ints
    have i2 : TS.intsOf s.heap v = m := by
      rw [ev]
      exact (tupI_raw I ht').ints
    have huv := of_decide_eq_false huv
    rw [i1, i2] at huv
    omega
/-! ### read over data -/
def iVs : List V → List Int
  | [] => []
  | .int i :: xs => i :: iVs xs
  | _ :: xs => iVs xs
theorem iVs_map : ∀ ns : List Int, iVs (ns.map V.int) = ns
  | [] => rfl
  | n :: ns => by simp only [List.map_cons, iVs, iVs_map ns]
/-- the ints of a tuple that stands for good -/
def keyV (S : Hp) : V → List Int
  | .ref a => match S a with
    | some (.frz _ (.tup xs)) => iVs xs
    | _ => []
  | _ => []
theorem keyV_is {S : Hp} {k : List Int} {v : V} (h : RI S (tupI k) v) : keyV S v = k ∧ ∃ a, v = .ref a ∧ TupAt S a (k.map V.int) := by
  unfold tupI at h
  simp only [RI] at h
  obtain ⟨a, xs, rfl, ⟨ob, e, d⟩, r⟩ := h
  have e2 := r.ints
  subst e2
  refine ⟨?_, a, rfl, ob, e, d⟩
  simp only [keyV, e]
  exact iVs_map k
theorem keys_is {S : Hp} : ∀ {kss : List (List Int)} {xs : List V}, RIs S (kss.map tupI) xs → kss = xs.map (keyV S) ∧ ∀ x ∈ xs, RI S (tupI (keyV S x)) x
  | [], _, h => by simp only [List.map_nil, RIs] at h; subst h; exact ⟨rfl, fun x hx => nomatch hx⟩
  | k :: kss, _, h => by
    simp only [List.map_cons, RIs] at h
    obtain ⟨y, ys, rfl, h1, h2⟩ := h
    obtain ⟨a, b⟩ := keys_is h2
    obtain ⟨c, _⟩ := keyV_is h1
    refine ⟨by rw [List.map_cons, c, ← a], fun x hx => ?_⟩
    rcases List.mem_cons.mp hx with rfl | hx
    · rw [c]; exact h1
    · exact b x hx
theorem keys_of {S : Hp} : ∀ {ys : List V}, (∀ x ∈ ys, RI S (tupI (keyV S x)) x) → RIs S ((ys.map (keyV S)).map tupI) ys
  | [], _ => .nil
  | y :: ys, h => .cons (h y (by simp)) (keys_of fun x hx => h x (List.mem_cons_of_mem _ hx))
def sortTD : D → (O → Prop) → Prop
  | .lst ds, q => ∃ (n : Nat) (B : Int) (kss : List (List Int)), 1 ≤ n ∧ ds = kss.map tupI ∧ (∀ k ∈ kss, k.length = n ∧ TS.Bd B k) ∧ ∀ ms : List (List Int), ms.Perm kss → ms.Pairwise (fun a b => TS.code B a ≤ TS.code B b) → q (.lst (ms.map tupI))
  | _, _ => False
section
variable {X : Cx} {K : PySem.W.Frag} {o e : Expr} {y : Str} {apos apos2 pos cpos : Pos} {p : Bool} {q : TE} {u : DT}
theorem c1_sortT : Call1F (rSortA K) sortTD := by
  intro S T H σ δ fp x v Q Q' s rx q k
  unfold sortTD at q
  split at q
  · obtain ⟨c, xs, rfl, h1, h2⟩ := rx
    obtain ⟨n, B, kss, hn, rfl, hb, q⟩ := q
    obtain ⟨ek, hk⟩ := keys_is h2
    refine ⟨n, B, c, xs, hn, rfl, SqL.of h1, fun x hx => ?_, fun ys p hp hs hn' => ?_⟩
    · obtain ⟨_, a, rfl, t⟩ := keyV_is (hk x hx)
      have hm : keyV S (.ref a) ∈ kss := by rw [ek]; exact List.mem_map.mpr ⟨_, hx, rfl⟩
      obtain ⟨b1, b2⟩ := hb _ hm
      exact ⟨_, ⟨a, rfl, t.sq s.s⟩, b1, b2⟩
    · have hy : ∀ x ∈ ys, RI S (tupI (keyV S x)) x := fun x hx => hk x (hp.mem_iff.mp hx)
      obtain ⟨a1, a2, a3⟩ := s.frLst (keys_of hy) hn'
      refine k _ _ _ a1 a2 a3 hn' (q _ (by rw [ek]; exact hp.map _) ?_)
      rw [List.pairwise_map]
      refine List.Pairwise.imp_of_mem (fun {x z} hx hz h => ?_) hs
      obtain ⟨_, a, e1, t1⟩ := keyV_is (hy x hx)
      obtain ⟨_, b, e2, t2⟩ := keyV_is (hy z hz)
      exact h _ _ ⟨a, e1, t1.sq s.s⟩ ⟨b, e2, t2.sq s.s⟩
  · exact q.elim
/-! ### xs.remove(y), xs a list of plain data -/
def rRemD (K : PySem.W.Frag) : V → List V → Hp → VK → Prop := fun x xs H Q => ∃ (a : Addr) (y : V) (ys : List V) (d : PyData) (ds : List PyData) (j : Nat) (z : PyData), x = V.ref a ∧ xs = [y] ∧ H a = some (.lst ys) ∧ DpAll K H ys ds ∧ Dp K H y d ∧
  SeqAt.shaped (.list ds) = true ∧ SeqAt.shaped d = true ∧ ds[j]? = some z ∧ PyData.eqv z d = true ∧ (∀ (m : Nat) (z' : PyData), m < j → ds[m]? = some z' → PyData.eqv z' d = false) ∧ Q .non (upd H a (.lst (ys.eraseIdx j)))
theorem mt_removeD (hu : X.A.units + 65 < cLine) : MtM X "list.remove" (rRemD X.K) := by
  intro pins s σ H x xs v us Q I rx rxs h
  obtain ⟨a, y, ys, d, ds, j, z, rfl, rfl, hH, ha, hy, sl, sd, hz, hzj, hno, q⟩ := h
  cases rx
  cases rxs with
  | cons ry rt =>
    rename_i uy ut
    cases rt
    obtain ⟨bs, r1⟩ := Dp.reads I d y uy hy ry
    have hxs : PyData.canLayAll0 ds = true := SeqAt.canLay_of_shaped sl
    have hroom : X.A.units + 1 + min (PyData.depthAll ds) d.depth < cLine := room_in_shaped sd hu
    obtain ⟨zz, its, n, rv, hl, e⟩ := I.lstM hH
    obtain ⟨as, h4⟩ := Dp.readsAll I ds _ its ha rv
    have hn : its.length = ds.length := SeqAt.ReadsAll.length ds its as h4
    have hmap : its.map (SeqAt.readOf s.heap) = ds := SeqAt.readsAll_map ds its as hxs h4
    obtain ⟨hjd, _⟩ := List.getElem?_eq_some_iff.mp hz
    have hjl : j < its.length := by omega
    have hj : j < its.toArray.size := by simpa using hjl
    have at_ : ∀ (m : Nat) (hm : m < its.toArray.size) (z' : PyData), ds[m]? = some z' → SeqAt.readOf s.heap its.toArray[m] = z' := by
      intro m hm z' hz'
      have hml : m < its.length := by simpa using hm
      rw [← hmap, List.getElem?_map, List.getElem?_eq_getElem hml] at hz'
      have e1 : SeqAt.readOf s.heap its[m] = z' := Option.some.inj (show some (SeqAt.readOf s.heap its[m]) = some z' from hz')
      simpa using e1
    refine call_meets PySem.F.slot_list_remove ⟨_, e, rfl⟩ PySem.F.entry_list_remove (PySem.F.args_list_remove_2 _ _)
      (SeqAt.list_removeAt a its.toArray n none #[] uy (fun u => PyData.eqv (SeqAt.readOf s.heap u) d) j hj ?_ ?_ (by rw [List.size_toArray]; omega)) ⟨e, SeqAt.items_eqAt (vs := its.toArray) (show ReadsAll s.heap its.toArray.toList ds as from h4) r1 hxs (SeqAt.canLay_of_shaped sd) hroom, ?_⟩
    · show PyData.eqv (SeqAt.readOf s.heap its.toArray[j]) d = true
      rw [at_ j hj z hz]
      exact hzj
    · intro m hm hmj
      have hmd : m < ds.length := by omega
      have hz' : ds[m]? = some ds[m] := List.getElem?_eq_getElem hmd
      show PyData.eqv (SeqAt.readOf s.heap its.toArray[m]) d = false
      rw [at_ m hm _ hz']
      exact hno m _ hmj hz'
    · have rr := rv.eraseIdx j
      refine ⟨.non, _, I.lset (its' := its.eraseIdx j) (t' := s.toks) hH e ?_ rr ?_, rfl, q⟩
      · show its.toArray.eraseIdxIfInBounds j = (its.eraseIdx j).toArray
        rw [List.eraseIdxIfInBounds_toArray]
      · have := List.length_eraseIdx_le ys j
        omega
def dRemD (i : Nat) (u : DT) : DS := fun Dn δ => match δ[i]? with
  | some (some (.o _ (.lst _))) => u δ fun d δ1 => match δ1[i]? with
    | some (some (.o a (.lst ds))) => okq d = true ∧ okq (.lst ds) = true ∧ ∃ (j : Nat) (z : D), ds[j]? = some z ∧ PyData.eqv (py z) (py d) = true ∧ (∀ (m : Nat) (z' : D), m < j → ds[m]? = some z' → PyData.eqv (py z') (py d) = false) ∧ Dn.nx (δ1.set i (some (.o a (.lst (ds.eraseIdx j)))))
    | _ => False
  | _ => False
theorem sim_removeD (i : Nat) (h : SimE p q u) : SimS (tDrop (tBM K "list" (rRemD K) (tVar i) (tCons q tNil))) (dRemD i u) := by
  intro S T H σ δ fp Dn D' s g k
  unfold dRemD at g
  split at g
  · rename_i a0 ds0 e0
    have hv := s.sl i
    rw [e0] at hv
    obtain ⟨ev, xs0, hx0, _, _⟩ := hv
    refine ⟨.ref a0, ev, .inl ⟨rfl, xs0, SqL.of hx0⟩, ?_⟩
    refine h S T H σ δ fp _ _ s g fun S1 H1 fp1 v d δ1 l1 s1 r1 u1 q1 => ?_
    split at q1
    · rename_i a ds ei
      have hv1 := s1.sl i
      rw [ei] at hv1
      obtain ⟨ev1, xs, hx, rx, hfp⟩ := hv1
      have ea : a0 = a := by have := ev.symm.trans ev1; cases this; rfl
      subst ea
      obtain ⟨o1, o2, j, z, hz, hzd, hno, q1⟩ := q1
      unfold okq at o1 o2
      rw [Bool.and_eq_true] at o1 o2
      have o21 : plains ds = true := by simpa only [plain] using o2.1
      have o22 : SeqAt.shaped (.list (pys ds)) = true := by simpa only [py] using o2.2
      refine ⟨a0, v, xs, py d, pys ds, j, py z, rfl, rfl, hx, rx.dp s1.s o21, r1.dp s1.s o1.1, o22, o1.2, by rw [pys_map, List.getElem?_map, hz]; rfl, hzd, fun m z' hm hz' => ?_, ?_⟩
      · rw [pys_map, List.getElem?_map] at hz'
        cases e : ds[m]? with
        | none => rw [e] at hz'; cases hz'
        | some c => rw [e] at hz'; cases hz'; exact hno m c hm e
      have s2 := s1.mut (H' := upd H1 a0 (.lst (xs.eraseIdx j))) ev1 (w' := .lst (ds.eraseIdx j)) (l := [a0]) ⟨_, upd_same, rx.eraseIdx j, rfl⟩ (fun b w hb hbw => by rw [upd_ne (fun z => hb (by rw [hfp, z]; exact List.mem_singleton.mpr rfl))]; exact hbw) fun b hb => .inl (by rw [hfp]; exact hb)
      exact k.nx S1 _ σ _ _ l1 s2 q1
    · exact q1.elim
  · exact g.elim
theorem ds_removeD (i : Nat) {k : Nat} (hr : Room k X.A) (ho : PE X (.Name y apos) (tVar i)) (h : DE X e p q u)
    (hs : swapsWith (.Call (.Attribute (.Name y apos) "remove" apos2) [e] [] cpos) none pos.line X.env = pure false := by rfl)
    (hbase : attributeBase (.Name y apos) "remove" X.env (eval (.Name y apos) X.env) = eval (.Name y apos) X.env := by rfl)
    (hfew : ((backTo cpos (starEach [e] X.env)).all (fun x => !x.1) && (backToKw cpos (keywordEach [] X.env)).all (fun x => x.1.isSome)
      && decide (([e] : List Expr).length + ([] : List Keyword).length + (if ([] : List Keyword).isEmpty then 0 else 1) < 30)) = true := by rfl)
    (hline : (apos2.endLine == cpos.line) = true := by rfl) (hst : starEach [e] X.env = (false, eval e X.env) :: starEach [] X.env := by rfl) (hplain : (backTo cpos (starEach [] X.env)).any (·.1) = false := by rfl) :
    DSt X (.Expr (.Call (.Attribute (.Name y apos) "remove" apos2) [e] [] cpos) pos) (tDrop (tBM X.K "list" (rRemD X.K) (tVar i) (tCons q tNil))) (dRemD i u) :=
  ⟨ps_expr (pe_bm PySem.F.plainAttrs_list PySem.F.slot_list_remove PySem.F.type_list_remove (mt_removeD (by have := hr.un; omega)) ho (pa_cons h.pe pa_nil hst) hbase hfew hline hst hplain) hs, sim_removeD i h.sim⟩
end
end SW

namespace SW
open PySem PySem.Spec PyProof.Rows L2
/-! ### a valid sequence from the start swaps the inversions of its end, each once -/
section
variable {rk : List (List Int)} {m n s : Nat} {row : List Int} {held : List (List Int)} {wy : Int → Int} {pr : Int → List Int}
theorem Vs.up (h : Vs rk m n row held wy pr) (g : Ss m row wy pr) (hs : s + 1 < m) (hm : mayI rk row s = true) : row.getD s 0 < row.getD (s + 1) 0 := by
  have hl := h.r.len
  have hhl := h.hl
  obtain ⟨_, _, _, _, p1, _⟩ := h.look hs hm (List.getElem?_eq_getElem (by omega)) (List.getElem?_eq_getElem (by omega))
  have at1 := at_getD (row := row) (j := s) (by omega)
  have at2 := at_getD (row := row) (j := s + 1) (by omega)
  have i1 := h.r.idx at1
  have i2 := h.r.idx at2
  rcases Int.lt_trichotomy (row.getD s 0) (row.getD (s + 1) 0) with c | c | c
  · exact c
  · rw [c, i2] at i1; omega
  · exact absurd ((g.a _ _ (List.mem_of_getElem? at2) (List.mem_of_getElem? at1) c).mpr (by omega)) p1
theorem inv_step (h : Row row m) (hs : s + 1 < m) (hlt : row.getD s 0 < row.getD (s + 1) 0) {x z : Int} (hx : x ∈ span m) (hz : z ∈ span m) (hxz : x < z) :
    (swp row s).idxOf z < (swp row s).idxOf x ↔ row.idxOf z < row.idxOf x ∨ (x = row.getD s 0 ∧ z = row.getD (s + 1) 0) := by
  have hl := h.len
  have at1 := at_getD (row := row) (j := s) (by omega)
  have at2 := at_getD (row := row) (j := s + 1) (by omega)
  have i1 := h.idx at1
  have i2 := h.idx at2
  have hx' := h.p.mem_iff.mpr hx
  have hz' := h.p.mem_iff.mpr hz
  rw [swp_idx h hs hx', swp_idx h hs hz']
  generalize row.getD s 0 = t at *
  generalize row.getD (s + 1) 0 = f at *
  have other : ∀ y, y ∈ row → y ≠ t → y ≠ f → row.idxOf y ≠ s ∧ row.idxOf y ≠ s + 1 := fun y hy a b => by
    refine ⟨fun e => ?_, fun e => ?_⟩
    · have := idxOf_at hy; rw [e, at1] at this; exact a (Option.some.inj this).symm
    · have := idxOf_at hy; rw [e, at2] at this; exact b (Option.some.inj this).symm
  have ox := other x hx'
  have oz := other z hz'
  by_cases x1 : x = t
  · subst x1
    by_cases z2 : z = f
    · subst z2
      rw [if_pos rfl, if_neg (by omega), if_pos rfl]
      exact ⟨fun _ => .inr ⟨rfl, rfl⟩, fun _ => by omega⟩
    · have := oz (by omega) z2
      rw [if_pos rfl, if_neg (by omega), if_neg z2]
      refine ⟨fun q => .inl (by omega), fun q => ?_⟩
      rcases q with q | ⟨_, q⟩
      · omega
      · exact absurd q z2
  · by_cases x2 : x = f
    · subst x2
      have z1 : z ≠ t := by omega
      have := oz z1 (by omega)
      rw [if_neg x1, if_pos rfl, if_neg z1, if_neg (by omega)]
      refine ⟨fun q => .inl (by omega), fun q => ?_⟩
      rcases q with q | ⟨q, _⟩
      · omega
      · exact absurd q x1
    · have h1 := ox x1 x2
      by_cases z1 : z = t
      · subst z1
        rw [if_neg x1, if_neg x2, if_pos rfl]
        refine ⟨fun q => .inl (by omega), fun q => ?_⟩
        rcases q with q | ⟨q, _⟩
        · omega
        · exact absurd q x1
      · by_cases z2 : z = f
        · subst z2
          rw [if_neg x1, if_neg x2, if_neg z1, if_pos rfl]
          refine ⟨fun q => .inl (by omega), fun q => ?_⟩
          rcases q with q | ⟨q, _⟩
          · omega
          · exact absurd q x1
        · rw [if_neg x1, if_neg x2, if_neg z1, if_neg z2]
          refine ⟨.inl, fun q => ?_⟩
          rcases q with q | ⟨q, _⟩
          · exact q
          · exact absurd q x1
end
/-- along a valid sequence to fin, from the start -/
theorem seq_all {rk : List (List Int)} {m : Nat} (h0 : 1 ≤ m) (h1 : m ≤ 40) {mv : List Nat} (hv : Vld rk (span m) mv) :
    (∀ i, i ≤ mv.length → Sq m (runI (span m) mv) (runI (span m) (mv.take i)) i) ∧
    (∀ i s, mv[i]? = some s → s + 1 < m ∧ (runI (span m) (mv.take i)).getD s 0 < (runI (span m) (mv.take i)).getD (s + 1) 0 ∧
      (runI (span m) mv).idxOf ((runI (span m) (mv.take i)).getD (s + 1) 0) < (runI (span m) mv).idxOf ((runI (span m) (mv.take i)).getD s 0)) := by
  have hr : Row (span m) m := ⟨List.Perm.refl _, h0, h1⟩
  have up : ∀ i s, mv[i]? = some s → Row (runI (span m) (mv.take i)) m ∧ s + 1 < m ∧ (runI (span m) (mv.take i)).getD s 0 < (runI (span m) (mv.take i)).getD (s + 1) 0 ∧ runI (span m) (mv.take (i + 1)) = swp (runI (span m) (mv.take i)) s := fun i s e => by
    obtain ⟨v1, v2, v3⟩ := hv.here e
    obtain ⟨held, wy, pr, a, b, _⟩ := run_all h0 h1 _ v3
    have hs : s + 1 < m := by have := hr.len; omega
    exact ⟨a.r, hs, a.up b hs v2, by rw [take_succ_of e, runI_snoc]⟩
  have grow : ∀ k i, i + k ≤ mv.length → ∀ x z : Int, x ∈ span m → z ∈ span m → x < z → (runI (span m) (mv.take i)).idxOf z < (runI (span m) (mv.take i)).idxOf x → (runI (span m) (mv.take (i + k))).idxOf z < (runI (span m) (mv.take (i + k))).idxOf x := by
    intro k
    induction k with
    | zero => intro i _ x z _ _ _ h; exact h
    | succ k ih =>
      intro i hi x z hx hz hxz h
      have e := ih i (by omega) x z hx hz hxz h
      obtain ⟨s, hs⟩ : ∃ s, mv[i + k]? = some s := ⟨_, List.getElem?_eq_getElem (by omega)⟩
      obtain ⟨u1, u2, u3, u4⟩ := up _ _ hs
      have : i + (k + 1) = i + k + 1 := by omega
      rw [this, u4]
      exact (inv_step u1 u2 u3 hx hz hxz).mpr (.inl e)
  have fin : ∀ i, i ≤ mv.length → ∀ x z : Int, x ∈ span m → z ∈ span m → x < z → (runI (span m) (mv.take i)).idxOf z < (runI (span m) (mv.take i)).idxOf x → (runI (span m) mv).idxOf z < (runI (span m) mv).idxOf x := fun i hi x z hx hz hxz h => by
    have := grow (mv.length - i) i (by omega) x z hx hz hxz h
    have e : i + (mv.length - i) = mv.length := by omega
    rwa [e, List.take_length] at this
  refine ⟨fun i => ?_, fun i s e => ?_⟩
  · induction i with
    | zero => intro _; rw [List.take_zero]; exact ⟨hr, fun x z hx hz hxz h => fin 0 (Nat.zero_le _) x z hx hz hxz (by rw [List.take_zero]; exact h), (Sq.start (m := m) hr).c⟩
    | succ i ih =>
      intro hi
      obtain ⟨s, hs⟩ : ∃ s, mv[i]? = some s := ⟨_, List.getElem?_eq_getElem (by omega)⟩
      obtain ⟨u1, u2, u3, u4⟩ := up _ _ hs
      have := ih (by omega)
      refine ⟨?_, fin (i + 1) hi, ?_⟩
      · rw [u4]; exact u1.swp u2
      · rw [u4, inv_up u1 u2 u3, this.c]
  · obtain ⟨u1, u2, u3, u4⟩ := up _ _ e
    have hl := u1.len
    have at1 := at_getD (row := runI (span m) (mv.take i)) (j := s) (by omega)
    have at2 := at_getD (row := runI (span m) (mv.take i)) (j := s + 1) (by omega)
    have m1 := u1.p.subset (List.mem_of_getElem? at1)
    have m2 := u1.p.subset (List.mem_of_getElem? at2)
    refine ⟨u2, u3, fin (i + 1) (by have := (List.getElem?_eq_some_iff.mp e).1; omega) _ _ m1 m2 u3 ?_⟩
    rw [u4]
    exact (inv_step u1 u2 u3 m1 m2 u3).mpr (.inr ⟨rfl, rfl⟩)
theorem seq_len {rk : List (List Int)} {m : Nat} (h0 : 1 ≤ m) (h1 : m ≤ 40) {mv : List Nat} (hv : Vld rk (span m) mv) : mv.length = invN m (endsOf (runI (span m) mv)) := by
  have := ((seq_all h0 h1 hv).1 mv.length (Nat.le_refl _)).c
  rw [List.take_length] at this
  exact this.symm
/-! ### the swaps as triples (x, z, place), in ascending order -/
def trK (E : List Int) : List Int → List Int
  | [x, z] => [x, z, placeI E x z]
  | k => k
/-- the triples of the inversions -/
def trL (E : List Int) : List (List Int) := (ksOf E).map (trK E)
theorem ks_is {E : List Int} {k : List Int} (h : k ∈ ksOf E) : ∃ x z : Int, k = [x, z] ∧ 0 ≤ x ∧ x < z ∧ z < E.length := by
  obtain ⟨d, hd, rfl⟩ := List.mem_map.mp h
  obtain ⟨x, y, rfl, x0, xy, yl, _⟩ := pairs_is hd
  exact ⟨x, y, rfl, x0, xy, yl⟩
theorem ks_asc (E : List Int) : (ksOf E).Pairwise fun a b => ∃ x z x' z' : Int, a = [x, z] ∧ b = [x', z'] ∧ (x < x' ∨ (x = x' ∧ z < z')) := by
  unfold ksOf pairsOf
  rw [List.pairwise_map, List.pairwise_flatMap]
  refine ⟨fun d hd => ?_, ?_⟩
  · obtain ⟨i, hi⟩ := List.getElem?_of_mem hd
    obtain ⟨hlt, rfl⟩ := rangeD_is hi
    rw [Int.zero_add, pairsRow_eq (m := E.length) rfl, List.pairwise_map]
    exact ((span_asc _).filter _).imp fun {a b} hab => ⟨_, _, _, _, rfl, rfl, .inr ⟨rfl, hab⟩⟩
  · rw [rangeD_eq, List.pairwise_map]
    refine List.pairwise_lt_range.imp fun {a b} hab x hx y hy => ?_
    rw [pairsRow_eq (m := E.length) rfl] at hx hy
    obtain ⟨_, _, rfl⟩ := List.mem_map.mp hx
    obtain ⟨_, _, rfl⟩ := List.mem_map.mp hy
    exact ⟨_, _, _, _, rfl, rfl, .inl (by omega)⟩
theorem code3 (B x z p : Int) : TS.code B [x, z, p] = x * (B * B) + z * B + p := by
  have e : B ^ 2 = B * B := by rw [Int.pow_succ, Int.pow_succ, Int.pow_zero, Int.one_mul]
  show x * B ^ 2 + (z * B ^ 1 + (p * B ^ 0 + 0)) = _
  rw [e, Int.pow_succ, Int.pow_zero, Int.one_mul, Int.mul_one, Int.add_zero, Int.add_assoc]
theorem code3_lt {x z p x' z' p' : Int} (h0 : 0 ≤ z ∧ z < 64) (h1 : 0 ≤ p ∧ p < 64) (h2 : 0 ≤ z' ∧ z' < 64) (h3 : 0 ≤ p' ∧ p' < 64) (h : x < x' ∨ (x = x' ∧ (z < z' ∨ (z = z' ∧ p < p')))) : TS.code 64 [x, z, p] < TS.code 64 [x', z', p'] := by
  rw [code3, code3]
  omega
/-- sorted triples are the triples of the inversions -/
theorem tr_uniq {m : Nat} {row : List Int} (hr : Row row m) {ms : List (List Int)} (hp : ms.Perm (trL (endsOf row))) (hs : ms.Pairwise fun a b => TS.code 64 a ≤ TS.code 64 b) : ms = trL (endsOf row) := by
  have hE : (endsOf row).length = m := by rw [endsOf_len, hr.len]
  have m1 := hr.m1
  have shp : ∀ k ∈ trL (endsOf row), ∃ x z p : Int, k = [x, z, p] ∧ 0 ≤ x ∧ x < 64 ∧ 0 ≤ z ∧ z < 64 ∧ 0 ≤ p ∧ p < 64 := fun k hk => by
    obtain ⟨k0, hk0, rfl⟩ := List.mem_map.mp hk
    obtain ⟨x, z, rfl, x0, xz, zl⟩ := ks_is hk0
    obtain ⟨p, e, hpm⟩ := place_in hr (x := x) (z := z) (span_mem.mpr ⟨by omega, by omega⟩) (span_mem.mpr ⟨by omega, by omega⟩) xz
    exact ⟨x, z, placeI (endsOf row) x z, rfl, by omega, by omega, by omega, by omega, by omega, by omega⟩
  have inj : ∀ a ∈ trL (endsOf row), ∀ b ∈ trL (endsOf row), TS.code 64 a = TS.code 64 b → a = b := fun a ha b hb e => by
    obtain ⟨x, z, p, rfl, _⟩ := shp a ha
    obtain ⟨x', z', p', rfl, _⟩ := shp b hb
    rw [code3, code3] at e
    have e1 : x = x' := by omega
    have e2 : z = z' := by omega
    have e3 : p = p' := by omega
    rw [e1, e2, e3]
  have asc : (trL (endsOf row)).Pairwise fun a b => TS.code 64 a < TS.code 64 b := by
    unfold trL
    rw [List.pairwise_map]
    refine List.Pairwise.imp_of_mem (fun {a b} ha hb h => ?_) (ks_asc (endsOf row))
    have sa := shp _ (List.mem_map.mpr ⟨a, ha, rfl⟩)
    have sb := shp _ (List.mem_map.mpr ⟨b, hb, rfl⟩)
    obtain ⟨x, z, x', z', rfl, rfl, hh⟩ := h
    obtain ⟨_, _, p, e, h1, h2, h3, h4, h5, h6⟩ := sa
    obtain ⟨_, _, p', e', g1, g2, g3, g4, g5, g6⟩ := sb
    rw [e, e']
    simp only [trK, List.cons.injEq, and_true] at e e'
    obtain ⟨rfl, rfl, rfl⟩ := e
    obtain ⟨rfl, rfl, rfl⟩ := e'
    exact code3_lt ⟨h3, h4⟩ ⟨h5, h6⟩ ⟨g3, g4⟩ ⟨g5, g6⟩ (by rcases hh with hh | ⟨hh, hh2⟩ <;> omega)
  have ndT : (trL (endsOf row)).Nodup := List.nodup_iff_pairwise_ne.mpr (asc.imp fun {a b} h e => by rw [e] at h; omega)
  have ndM : ms.Nodup := hp.nodup_iff.mpr ndT
  have ascM : ms.Pairwise fun a b => TS.code 64 a < TS.code 64 b := by
    refine List.Pairwise.imp_of_mem (fun {a b} ha hb h => ?_) (hs.and (List.nodup_iff_pairwise_ne.mp ndM))
    have hne : TS.code 64 a ≠ TS.code 64 b := fun e => h.2 (inj a (hp.subset ha) b (hp.subset hb) e)
    have := h.1
    omega
  have ec : ms.map (TS.code 64) = (trL (endsOf row)).map (TS.code 64) := asc_eq (List.pairwise_map.mpr ascM) (List.pairwise_map.mpr asc) fun c => (hp.map _).mem_iff
  have back : ∀ {a b : List (List Int)}, (∀ k ∈ a, k ∈ trL (endsOf row)) → (∀ k ∈ b, k ∈ trL (endsOf row)) → a.map (TS.code 64) = b.map (TS.code 64) → a = b := fun {a} => by
    induction a with
    | nil => intro b _ _ h; cases b with | nil => rfl | cons _ _ => cases h
    | cons k a ih =>
      intro b ha hb h
      cases b with
      | nil => cases h
      | cons k' b =>
        rw [List.map_cons, List.map_cons] at h
        injection h with h1 h2
        rw [inj k (ha k (by simp)) k' (hb k' (by simp)) h1, ih (fun y hy => ha y (List.mem_cons_of_mem _ hy)) (fun y hy => hb y (List.mem_cons_of_mem _ hy)) h2]
  exact back (fun k hk => hp.subset hk) (fun k hk => hk) ec
/-- what is known of the triples found along a sequence to fin -/
structure Spt (m : Nat) (fin here : List Int) (F : List (List Int)) : Prop where
  nd : F.Nodup
  mem : ∀ k, k ∈ F ↔ ∃ x z : Int, x ∈ span m ∧ z ∈ span m ∧ x < z ∧ here.idxOf z < here.idxOf x ∧ k = [x, z, placeI (endsOf fin) x z]
theorem Spt.start (m : Nat) (fin : List Int) : Spt m fin (span m) [] where
  nd := List.nodup_nil
  mem := fun k => by
    constructor
    · intro h; cases h
    · rintro ⟨x, z, hx, hz, hxz, h, _⟩
      have := span_idx hx
      have := span_idx hz
      omega
theorem Spt.step {m n s : Nat} {fin here : List Int} {F : List (List Int)} (q : Spt m fin here F) (g : Sq m fin here n) (hf : Row fin m) (nt : NoTr m fin) (hs : s + 1 < m) (hlt : here.getD s 0 < here.getD (s + 1) 0)
    (hn : fin.idxOf (here.getD (s + 1) 0) < fin.idxOf (here.getD s 0)) : Spt m fin (swp here s) (F ++ [[here.getD s 0, here.getD (s + 1) 0, (s : Nat)]]) := by
  have hr := g.r
  have hl := hr.len
  have at1 := at_getD (row := here) (j := s) (by omega)
  have at2 := at_getD (row := here) (j := s + 1) (by omega)
  have i1 := hr.idx at1
  have i2 := hr.idx at2
  have m1 := hr.p.subset (List.mem_of_getElem? at1)
  have m2 := hr.p.subset (List.mem_of_getElem? at2)
  have hp := g.place hf nt hs hlt hn
  refine ⟨List.nodup_append.mpr ⟨q.nd, by simp, fun a ha b hb e => ?_⟩, fun k => ?_⟩
  · simp only [List.mem_singleton] at hb
    obtain ⟨x, z, _, _, _, h, rfl⟩ := (q.mem a).mp ha
    rw [hb] at e
    simp only [List.cons.injEq, and_true] at e
    rw [e.1, e.2.1] at h
    omega
  · rw [List.mem_append, List.mem_singleton, q.mem]
    constructor
    · rintro (⟨x, z, hx, hz, hxz, h, rfl⟩ | rfl)
      · exact ⟨x, z, hx, hz, hxz, (inv_step hr hs hlt hx hz hxz).mpr (.inl h), rfl⟩
      · exact ⟨_, _, m1, m2, hlt, (inv_step hr hs hlt m1 m2 hlt).mpr (.inr ⟨rfl, rfl⟩), by rw [hp]⟩
    · rintro ⟨x, z, hx, hz, hxz, h, rfl⟩
      rcases (inv_step hr hs hlt hx hz hxz).mp h with h | ⟨rfl, rfl⟩
      · exact .inl ⟨x, z, hx, hz, hxz, h, rfl⟩
      · exact .inr (by rw [hp])
theorem trL_mem {m : Nat} {fin : List Int} (hf : Row fin m) (k : List Int) : k ∈ trL (endsOf fin) ↔ ∃ x z : Int, x ∈ span m ∧ z ∈ span m ∧ x < z ∧ fin.idxOf z < fin.idxOf x ∧ k = [x, z, placeI (endsOf fin) x z] := by
  have hE : (endsOf fin).length = m := by rw [endsOf_len, hf.len]
  constructor
  · intro h
    obtain ⟨k0, hk0, rfl⟩ := List.mem_map.mp h
    obtain ⟨x, z, rfl, x0, xz, zl⟩ := ks_is hk0
    have hx : x ∈ span m := span_mem.mpr ⟨by omega, by omega⟩
    have hz : z ∈ span m := span_mem.mpr ⟨by omega, by omega⟩
    exact ⟨x, z, hx, hz, xz, ((ks_mem hf hx hz).mp hk0).2, rfl⟩
  · rintro ⟨x, z, hx, hz, hxz, h, rfl⟩
    exact List.mem_map.mpr ⟨[x, z], (ks_mem hf hx hz).mpr ⟨hxz, h⟩, rfl⟩
theorem Spt.perm {m : Nat} {fin : List Int} {F : List (List Int)} (q : Spt m fin fin F) (hf : Row fin m) : F.Perm (trL (endsOf fin)) := by
  have nd : (trL (endsOf fin)).Nodup := nodup_map_on (ks_nodup _) fun a ha b hb e => by
    obtain ⟨x, z, rfl, _⟩ := ks_is ha
    obtain ⟨x', z', rfl, _⟩ := ks_is hb
    simp only [trK, List.cons.injEq, and_true] at e
    rw [e.1, e.2.1]
  exact (List.perm_ext_iff_of_nodup q.nd nd).mpr fun k => (q.mem k).trans (trL_mem hf k).symm
/-- from (x, z, place) to (place, x, z) -/
def rot3 : D → D
  | .tup [a, b, c] => .tup [c, a, b]
  | d => d
theorem rot_tr (E : List Int) : (trL E).map (fun k => rot3 (tupI k)) = swL E := by
  unfold trL swL ksOf
  rw [List.map_map, List.map_map]
  refine List.map_congr_left fun d hd => ?_
  obtain ⟨x, z, rfl, _⟩ := pairs_is hd
  rfl
theorem trL_ok {m : Nat} {fin : List Int} (hf : Row fin m) : ∀ k ∈ trL (endsOf fin), k.length = 3 ∧ TS.Bd 64 k := fun k hk => by
  have m1 := hf.m1
  obtain ⟨x, z, hx, hz, hxz, _, rfl⟩ := (trL_mem hf k).mp hk
  obtain ⟨p, e, hpm⟩ := place_in hf hx hz hxz
  have h1 := span_mem.mp hx
  have h2 := span_mem.mp hz
  refine ⟨rfl, fun c hc => ?_⟩
  simp only [List.mem_cons, List.not_mem_nil, or_false] at hc
  rcases hc with rfl | rfl | rfl <;> omega
end SW

namespace SW
open PySem PySem.Spec PyProof.Rows L2
/-! ### xs + ys, a new list of one's own -/
def dCatF (t u : DT) : DTF := fun δ Q => t δ fun x δ1 => u δ1 fun y δ2 => match x, y with
  | .lst xs, .lst ys => xs.length + ys.length ≤ sizeLine ∧ ∀ c, Q c (.lst (xs ++ ys)) δ2
  | _, _ => False
theorem op_inDAK {X : Cx} {K : PySem.W.Frag} {k : Nat} (hK : X.K = K) (hr : Room k X.A) : OpR X (compareOp .In) (rInD K) := by subst hK; exact op_inDA hr
theorem op_notInDAK {X : Cx} {K : PySem.W.Frag} {k : Nat} (hK : X.K = K) (hr : Room k X.A) : OpR X (compareOp .NotIn) (rNotInD K) := by subst hK; exact op_notInDA hr
section
variable {X : Cx} {a b : Expr} {pos : Pos} {p1 p2 : Bool} {ra rb : TE} {ta tb : DT}
theorem df_cat (ha : DV X a p1 ra ta) (hb : DV X b true rb tb) : DF X (.BinOp a .Add b pos) p1 (tOp rCat ra rb) (dCatF ta tb) := by
  refine ⟨pe_op op_cat ha.pe hb.pe, ?_⟩
  intro S T H σ δ fp Q Q' s q k
  refine ha.sim S T H σ δ fp _ _ s q fun S1 H1 fp1 v x δ1 l1 s1 r1 u1 q1 => ?_
  refine hb.sim S1 T H1 σ δ1 fp1 _ _ s1 q1 fun S2 H2 fp2 w y δ2 l2 s2 r2 u2 q2 => ?_
  obtain ⟨rfl, x2⟩ := u2.tt
  cases x with
  | lst xs =>
    cases y with
    | lst ys =>
      obtain ⟨a1, us, rfl, h1, h2⟩ := r1.grow l2 x2.le
      obtain ⟨a2, ws, rfl, h3, h4⟩ := r2
      refine ⟨a1, a2, us, ws, rfl, rfl, h1, h3, by rw [← h2.len, ← h4.len]; exact q2.1, fun c hc => ?_⟩
      obtain ⟨b1, b2, b3⟩ := s2.frLst (h2.append h4) hc
      exact k S2 _ fp2 c _ δ2 (l1.trans l2) b1 b2 ((u1.grow x2).grow b3) (fun e => le_none ((u1.grow x2) e).2.le hc) (q2.2 c)
    | _ => exact q2.elim
  | _ => exact q2.elim
theorem de_indexTK {K : PySem.W.Frag} {apos cpos : Pos} (hK : X.K = K) (ha : DV X a p1 ra ta) (hb : DE X b p2 rb tb)
    (hbase : attributeBase a "index" X.env (eval a X.env) = eval a X.env := by rfl)
    (hfew : ((backTo cpos (starEach [b] X.env)).all (fun x => !x.1) && (backToKw cpos (keywordEach [] X.env)).all (fun x => x.1.isSome)
      && decide (([b] : List Expr).length + ([] : List Keyword).length + (if ([] : List Keyword).isEmpty then 0 else 1) < 30)) = true := by rfl)
    (hline : (apos.endLine == cpos.line) = true := by rfl) (hst : starEach [b] X.env = (false, eval b X.env) :: starEach [] X.env := by rfl) (hplain : (backTo cpos (starEach [] X.env)).any (·.1) = false := by rfl) :
    DE X (.Call (.Attribute a "index" apos) [b] [] cpos) (p1 && p2) (tMG tyTx (rIxT K) ra (tCons rb tNil)) (dIxT ta tb) := by
  subst hK; exact de_indexT ha hb hbase hfew hline hst hplain
end
end SW

namespace SW
open PySem PySem.Spec PyProof.Rows L2
theorem tupI_inj {a b : List Int} (h : tupI a = tupI b) : a = b := by
  injection h with h
  induction a generalizing b with
  | nil => cases b with | nil => rfl | cons _ _ => cases h
  | cons x a ih => cases b with
    | nil => cases h
    | cons y b => rw [List.map_cons, List.map_cons] at h; injection h with h1 h2; injection h1 with h1; rw [h1, ih h2]
theorem any_tups {k : List Int} {ls : List (List Int)} : ((ls.map tupI).any fun z => PyData.eqv (py z) (py (tupI k))) = decide (k ∈ ls) := by
  have h := any_num (x := tupI k) (num_ti k).1 (ds := ls.map tupI) fun d hd => by
    obtain ⟨q, _, rfl⟩ := List.mem_map.mp hd
    exact (num_ti q).1
  rw [Bool.eq_iff_iff, h, decide_eq_true_eq]
  constructor
  · intro hm
    obtain ⟨q, hq, e⟩ := List.mem_map.mp hm
    rw [tupI_inj e] at hq; exact hq
  · exact fun hm => List.mem_map.mpr ⟨k, hm, rfl⟩
theorem ite_inS {kss : List (List Int)} {c : List D} {k : List Int} (e : c = k.map D.int) {P Q : Prop} (h1 : k ∈ kss → P) (h2 : k ∉ kss → Q) :
    if ((kss.map tupI).any fun z => PyData.eqv (py z) (py (.tup c))) = true then P else Q := by
  subst e
  have := any_tups (k := k) (ls := kss)
  unfold tupI at this
  unfold tupI
  rw [this]
  exact ite_d h1 h2
theorem num_tups (ls : List (List Int)) : okq (.lst (ls.map tupI)) = true := by
  have h1 : ∀ d ∈ ls.map tupI, num d = true ∧ dep d ≤ 1 := fun d hd => by
    obtain ⟨r, _, rfl⟩ := List.mem_map.mp hd
    exact ⟨(num_ti r).1, Nat.le_of_eq (num_ti r).2⟩
  have n1 : ∀ {ds : List D}, (∀ d ∈ ds, num d = true) → nums ds = true := fun {ds} => by
    induction ds with
    | nil => intro _; rfl
    | cons d ds ih => intro h; simp only [nums, h d (by simp), ih fun x hx => h x (List.mem_cons_of_mem _ hx), Bool.and_self]
  have n2 : ∀ {ds : List D}, (∀ d ∈ ds, dep d ≤ 1) → deps ds ≤ 1 := fun {ds} => by
    induction ds with
    | nil => intro _; simp [deps]
    | cons d ds ih => intro h; have a := h d (by simp); have b := ih fun x hx => h x (List.mem_cons_of_mem _ hx); simp only [deps]; omega
  refine num_okq (n1 fun d hd => (h1 d hd).1) ?_
  have := n2 fun d hd => (h1 d hd).2
  show dep (.lst _) ≤ 60
  simp only [dep]; omega
theorem map_erase {α β : Type} (f : α → β) : ∀ (l : List α) (j : Nat), (l.map f).eraseIdx j = (l.eraseIdx j).map f
  | [], _ => rfl
  | _ :: _, 0 => rfl
  | a :: l, j + 1 => by simp only [List.map_cons, List.eraseIdx_cons_succ, map_erase f l j]
theorem mem_eraseN {α : Type} : ∀ {l : List α} (_ : l.Nodup) {j : Nat} {k : α}, l[j]? = some k → ∀ y, y ∈ l.eraseIdx j ↔ y ∈ l ∧ y ≠ k
  | [], _, _, _, h, _ => by simp at h
  | a :: l, nd, 0, k, h, y => by
    simp at h; subst h
    have h1 := (List.nodup_cons.mp nd).1
    simp only [List.eraseIdx_cons_zero, List.mem_cons]
    exact ⟨fun q => ⟨.inr q, fun e => h1 (e ▸ q)⟩, fun ⟨q, n⟩ => q.resolve_left n⟩
  | a :: l, nd, j + 1, k, h, y => by
    simp only [List.getElem?_cons_succ] at h
    have h1 := (List.nodup_cons.mp nd).1
    have ih := mem_eraseN (List.nodup_cons.mp nd).2 h y
    simp only [List.eraseIdx_cons_succ, List.mem_cons, ih]
    constructor
    · rintro (rfl | ⟨q, n⟩)
      · exact ⟨.inl rfl, fun e => h1 (e ▸ List.mem_of_getElem? h)⟩
      · exact ⟨.inr q, n⟩
    · rintro ⟨q | q, n⟩
      · exact .inl q
      · exact .inr ⟨q, n⟩
theorem nd_at {α : Type} {l : List α} (nd : l.Nodup) {i j : Nat} {k : α} (h1 : l[i]? = some k) (h2 : l[j]? = some k) : i = j := by
  obtain ⟨a1, b1⟩ := List.getElem?_eq_some_iff.mp h1
  obtain ⟨a2, b2⟩ := List.getElem?_eq_some_iff.mp h2
  exact (List.getElem_inj nd).mp (b1.trans b2.symm)
/-- a pair is taken out of a list of pairs -/
theorem rem_at {lf : List (List Int)} {c : List D} {k : List Int} (nd : lf.Nodup) (hk : k ∈ lf) (e : c = k.map D.int) :
    okq (.tup c) = true ∧ okq (.lst (lf.map tupI)) = true ∧ ∃ (j : Nat) (z : D), (lf.map tupI)[j]? = some z ∧ PyData.eqv (py z) (py (.tup c)) = true ∧ (∀ (m : Nat) (z' : D), m < j → (lf.map tupI)[m]? = some z' → PyData.eqv (py z') (py (.tup c)) = false) ∧ ∃ lf' : List (List Int), (lf.map tupI).eraseIdx j = lf'.map tupI ∧ lf'.Nodup ∧ lf'.length + 1 = lf.length ∧ (∀ y, y ∈ lf' ↔ y ∈ lf ∧ y ≠ k) := by
  subst e
  obtain ⟨j, hj⟩ := List.getElem?_of_mem hk
  refine ⟨num_okq (num_ti k).1 (by have := (num_ti k).2; show dep (.tup (k.map .int)) ≤ 60; omega), num_tups _, j, tupI k, by rw [List.getElem?_map, hj]; rfl, num_eqv_same (num_ti k).1, fun m z' hm hz => ?_, ?_⟩
  · obtain ⟨k', hk', rfl⟩ := seq_is hz
    cases c : PyData.eqv (py (tupI k')) (py (.tup (k.map .int))) with
    | false => rfl
    | true =>
      have e := tupI_inj (num_eqv (tupI k') (tupI k) (num_ti k').1 (num_ti k).1 c)
      subst e
      have := nd_at nd hk' hj
      omega
  · rw [map_erase]
    refine ⟨_, rfl, nd.sublist (List.eraseIdx_sublist _ _), ?_, mem_eraseN nd hj⟩
    have hl := (List.getElem?_eq_some_iff.mp hj).1
    rw [List.length_eraseIdx_of_lt hl]
    omega
theorem ks_tup (E : List Int) : (ksOf E).map tupI = pairsOf E := by
  unfold ksOf
  rw [List.map_map]
  have : ∀ l : List D, (∀ d ∈ l, d ∈ pairsOf E) → l.map (tupI ∘ keyF) = l := fun l => by
    induction l with
    | nil => intro _; rfl
    | cons d l ih => intro h; rw [List.map_cons, ih fun x hx => h x (List.mem_cons_of_mem _ hx)]; show tupI (keyF d) :: l = _; rw [tup_keyF (h d (by simp))]
  exact this _ fun d hd => hd
theorem ok_swL {row : List Int} {m : Nat} (h : Row row m) : Ok (.tup (swL (endsOf row))) 120000 ∧ dep (.tup (swL (endsOf row))) ≤ 3 := by
  have hE : (endsOf row).length = m := by rw [endsOf_len, h.len]
  have m1 := h.m1
  obtain ⟨a, b, c⟩ := smls_each (ds := swL (endsOf row)) (B := 70) (C := 2) fun d hd => by
    obtain ⟨d0, hd0, rfl⟩ := List.mem_map.mp hd
    obtain ⟨x, z, rfl, x0, xz, zl, _⟩ := pairs_is hd0
    obtain ⟨p, e, hp⟩ := place_in h (x := x) (z := z) (span_mem.mpr ⟨by omega, by omega⟩) (span_mem.mpr ⟨by omega, by omega⟩) xz
    refine ⟨?_, by simp only [plF, nod, nods]; omega, by simp only [plF, dep, deps]; omega⟩
    show sml (.tup [.int (placeI (endsOf row) x z), .int x, .int z]) = true
    rw [e]
    simp only [sml, smls, Bool.and_true, Bool.and_eq_true, decide_eq_true_eq]
    omega
  have hl : (swL (endsOf row)).length ≤ 1600 := by unfold swL; rw [List.length_map]; exact pairsOf_len _ (by omega)
  refine ⟨⟨by simpa only [sml] using a, ?_, ?_⟩, ?_⟩
  · show nod (.tup _) ≤ _
    simp only [nod]
    have : (swL (endsOf row)).length * (70 + 1) ≤ 1600 * 71 := Nat.mul_le_mul_right _ hl
    omega
  · show dep (.tup _) ≤ _
    simp only [dep]; omega
  · simp only [dep]; omega
end SW

namespace SW
open PySem PySem.Spec PyProof.Rows L2
/-! ### defs that may raise -/
abbrev DX := Addr → List Str → List D → DEnv → Prop
def LkE (W : WX) (S T : Hp) (ex : DX) : Prop := ∀ (S' H' : Hp) (σ' : St) (δ' : DEnv) (fp' : Nat → List Addr) (C d : Addr) (ks : List Str) (es : List D) (xs : List V),
  Le S S' → SR S' T H' σ' δ' fp' → S' d = some (.xd (ks.zip xs)) → ks.length = es.length → RIs S' es xs → ex C ks es δ' → W (.ref C) (some d) σ' H'
theorem LkE.mono {W : WX} {S S1 T : Hp} {ex : DX} (k : LkE W S T ex) (l : Le S S1) : LkE W S1 T ex := fun S' H' σ' δ' fp' C d ks es xs g => k S' H' σ' δ' fp' C d ks es xs (l.trans g)
def SimSX (W : WX) (r : TS) (t : DS) : Prop := ∀ (S T H : Hp) (σ : St) (δ : DEnv) (fp : Nat → List Addr) (D : Ends) (D' : DEnds), SR S T H σ δ fp → t D' δ → Lk S T D D' → LkE W S T D'.ex → r D σ H
structure DStX (W : WX) (X : Cx) (st : Stmt) (r : TS) (t : DS) : Prop where
  ps : PS X st r
  sim : SimSX W r t
structure DSsX (W : WX) (X : Cx) (st : List Stmt) (r : TS) (t : DS) : Prop where
  ps : PSs X st r
  sim : SimSX W r t
abbrev DTX := DX → DT
def SimEX (W : WX) (r : TE) (t : DTX) : Prop := ∀ (S T H : Hp) (σ : St) (δ : DEnv) (fp : Nat → List Addr) (Q : VK) (Q' : D → DEnv → Prop) (ex : DX), SR S T H σ δ fp → t ex δ Q' → LkE W S T ex →
  (∀ (S' H' : Hp) (fp' : Nat → List Addr) (v : V) (d : D) (δ' : DEnv), Le S S' → SR S' T H' σ δ' fp' → RI S' d v → Q' d δ' → Q v H') → r σ H Q
structure DEX (W : WX) (X : Cx) (e : Expr) (r : TE) (t : DTX) : Prop where
  pe : PE X e r
  sim : SimEX W r t
section
variable {W : WX} {X : Cx} {st : Stmt} {rest : List Stmt} {r r1 r2 : TS} {t t1 t2 : DS} {e a b c : Expr} {pos pos' : Pos} {p p1 p2 : Bool} {q ra rb : TE} {u ta tb : DT} {ux uy : DTX} {qc : TT} {uc : DTB}
theorem DSt.x (h : DSt X st r t) : DStX W X st r t := ⟨h.ps, fun S T H σ δ fp D D' s q k _ => h.sim S T H σ δ fp D D' s q k⟩
theorem DSs.x {st : List Stmt} (h : DSs X st r t) : DSsX W X st r t := ⟨h.ps, fun S T H σ δ fp D D' s q k _ => h.sim S T H σ δ fp D D' s q k⟩
theorem DE.x (h : DE X e p q u) : DEX W X e q (fun _ => u) := ⟨h.pe, fun S T H σ δ fp Q Q' ex s g _ k => h.sim S T H σ δ fp Q Q' s g fun S' H' fp' v d δ' l s' r' _ q' => k S' H' fp' v d δ' l s' r' q'⟩
theorem dssx_nil : DSsX W X [] tNext dNext := DSs.x dss_nil
theorem dssx_cons (h1 : DStX W X st r1 t1) (h2 : DSsX W X rest r2 t2) : DSsX W X (st :: rest) (tSeq r1 r2) (dSeq t1 t2) := ⟨pss_cons h1.ps h2.ps, fun S T H σ δ fp D D' s q k kx =>
  h1.sim S T H σ δ fp _ { D' with nx := t2 D' } s q ⟨fun S' H' σ' δ' fp' l s' q' => h2.sim S' T H' σ' δ' fp' D D' s' q' (k.mono l) (kx.mono l), k.bk, k.ct, k.rt⟩ kx⟩
theorem dssx_one (h1 : DStX W X st r t) : DSsX W X [st] r t := ⟨pss_one h1.ps, h1.sim⟩
theorem dsx_if {as bs : List Stmt} (hc : DB X c p qc uc) (ha : DSsX W X as r1 t1) (hb : DSsX W X bs r2 t2) : DStX W X (.If c as bs pos) (tIfS qc r1 r2) (dIfS uc t1 t2) := by
  refine ⟨ps_if hc.pe ha.ps hb.ps, ?_⟩
  intro S T H σ δ fp D D' s q k kx
  refine hc.sim S T H σ δ fp _ _ s q fun S1 H1 fp1 d δ1 l1 s1 _ q1 => ?_
  cases d with
  | true => exact ha.sim S1 T H1 σ δ1 fp1 D D' s1 q1 (k.mono l1) (kx.mono l1)
  | false => exact hb.sim S1 T H1 σ δ1 fp1 D D' s1 q1 (k.mono l1) (kx.mono l1)
def dForX (ti : DI) (h : DG) (tb : DS) : DS := fun Dn δ => ti δ fun ds δ1 => ∃ Pv : Nat → DEnv → Prop, Pv 0 δ1 ∧
  (∀ (i : Nat) (d : D) (δ2 : DEnv), ds[i]? = some d → Pv i δ2 → h d δ2 fun δ3 => tb { nx := Pv (i + 1), ct := Pv (i + 1), bk := Dn.nx, rt := Dn.rt, ex := Dn.ex } δ3) ∧ ∀ δ2, Pv ds.length δ2 → Dn.nx δ2
theorem dsx_for {tg : Expr} {body : List Stmt} {wi : TI} {ti : DI} {g : TG} {h : DG} (hp : PassesOwn (model X.prog X.w) X.A X.env X.xe) (hc : X.calm = true) (hi : DIt X tg e p wi ti) (hg : DGt X tg p1 g h) (hb : DSsX W X body r t)
    (hs : ∀ x, foldedSetIterable e X.env x = pure x := by intro _; rfl) : DStX W X (.For tg e body [] pos) (tFor wi g r) (dForX ti h t) := by
  refine ⟨ps_for hp hc hi.pi hg.pg hb.ps hs, ?_⟩
  intro S T H σ δ fp D D' s gg k kx
  refine hi.sim S T H σ δ fp _ _ s gg fun S1 H1 fp1 J ds δ1 l1 s1 wk _ q1 => ?_
  obtain ⟨Pv, h0, hs, hd⟩ := q1
  refine ⟨fun i m σ' H' => m = ds.length - i ∧ i ≤ ds.length ∧ ∃ S2 δ2 fp2, Le S1 S2 ∧ SR S2 T H' σ' δ2 fp2 ∧ Pv i δ2, ⟨_, rfl, Nat.zero_le _, S1, δ1, fp1, Le.refl _, s1, h0⟩, ?_⟩
  rintro i m σ' H' ⟨rfl, hi, S2, δ2, fp2, l2, s2, pv⟩
  obtain ⟨w1, w2, w3⟩ := wk S2 T H' σ' δ2 fp2 l2 s2 i
  by_cases hlt : i < ds.length
  · refine .inr ⟨w1 hlt, fun σ3 H3 => ∃ S3 δ3 fp3, Le S1 S3 ∧ SR S3 T H3 σ3 δ3 fp3 ∧ Pv (i + 1) δ3, fun σ3 H3 ⟨S3, δ3, fp3, l3, s3, p3⟩ => ⟨ds.length - (i + 1), by omega, rfl, hlt, S3, δ3, fp3, l3, s3, p3⟩, fun x H3 hy => ?_⟩
    obtain ⟨S3, d, l3, s3, g3, e3, r3⟩ := w3 x H3 hlt hy
    refine hg.sim S3 T H3 σ' δ2 fp2 x d _ _ s3 r3 (hs i d δ2 e3 pv) fun S4 H4 σ4 δ4 fp4 l4 s4 _ q4 => ?_
    have lk : Le S1 S4 := l2.trans (l3.trans l4)
    exact hb.sim S4 T H4 σ4 δ4 fp4 _ _ s4 q4 ⟨fun S' H' σ' δ' fp' l' s' q' => ⟨S', δ', fp', lk.trans l', s', q'⟩, fun S' H' σ' δ' fp' l' s' q' => k.nx S' H' σ' δ' fp' (l1.trans (lk.trans l')) s' q',
      fun S' H' σ' δ' fp' l' s' q' => ⟨S', δ', fp', lk.trans l', s', q'⟩, fun S' H' σ' δ' fp' v w l' s' r' q' => k.rt S' H' σ' δ' fp' v w (l1.trans (lk.trans l')) s' r' q'⟩ (kx.mono (l1.trans lk))
  · have e : i = ds.length := by omega
    subst e
    exact .inl ⟨w2 (Nat.le_refl _), k.nx S2 H' σ' δ2 fp2 (l1.trans l2) s2 (hd δ2 pv)⟩
/-! ### statements of one expression that may raise -/
def dDropX (u : DTX) : DS := fun D δ => u D.ex δ fun _ δ1 => D.nx δ1
theorem dsx_expr (h : DEX W X e q ux) (hs : swapsWith e none pos.line X.env = pure false := by rfl) : DStX W X (.Expr e pos) (tDrop q) (dDropX ux) :=
  ⟨ps_expr h.pe hs, fun S T H σ δ fp D D' s g k kx => h.sim S T H σ δ fp _ _ _ s g kx fun S1 H1 fp1 v d δ1 l1 s1 _ q1 => k.nx S1 H1 σ δ1 fp1 l1 s1 q1⟩
def dRetX (u : DTX) : DS := fun D δ => u D.ex δ fun d δ1 => D.rt (.i d) δ1
theorem dsx_ret (h : DEX W X e q ux) : DStX W X (.Return (some e) pos) (tRet q) (dRetX ux) :=
  ⟨ps_ret h.pe, fun S T H σ δ fp D D' s g k kx => h.sim S T H σ δ fp _ _ _ s g kx fun S1 H1 fp1 v d δ1 l1 s1 r1 q1 => k.rt S1 H1 σ δ1 fp1 v (.i d) l1 s1 (.i r1) q1⟩
def dAsgX (u : DTX) (t : DG) : DS := fun D δ => u D.ex δ fun d δ1 => t d δ1 D.nx
theorem dsx_set (i : Nat) {x : Str} (hN : X.N.Nodup) (he : DEX W X e q ux) (hi : X.N[i]? = some x := by rfl) (hx : Loc X.env.scope x := by first | exact Or.inl rfl | exact Or.inr rfl) (hs : swapsWith e (some (.Name x pos')) pos.line X.env = pure false := by rfl)
    (hf : X.fn x = true ∨ X.env.scope.names.lookup x = some .local := by first | exact .inl rfl | exact .inr rfl | assumption) : DStX W X (.Assign [.Name x pos'] e pos) (tAsg q (gName i)) (dAsgX ux (dgName i)) :=
  ⟨ps_set hN hi hx he.pe hs hf, fun S T H σ δ fp D D' s gg k kx => he.sim S T H σ δ fp _ _ _ s gg kx fun S1 H1 fp1 v d δ1 l1 s1 r1 q1 =>
    sim_gName i S1 T H1 σ δ1 fp1 v d _ _ s1 r1 q1 fun S' H' σ' δ' fp' l' s' _ q' => k.nx S' H' σ' δ' fp' (l1.trans l') s' q'⟩
def dIfX (c : DTB) (ta tb : DTX) : DTX := fun ex δ Q => c δ fun b δ1 => if b = true then ta ex δ1 Q else tb ex δ1 Q
theorem dex_if (hc : DB X c p qc uc) (ha : DEX W X a ra ux) (hb : DEX W X b rb uy) : DEX W X (.IfExp c a b pos) (tIf qc ra rb) (dIfX uc ux uy) := by
  refine ⟨pe_ifExp hc.pe ha.pe hb.pe, ?_⟩
  intro S T H σ δ fp Q Q' ex s q kx k
  refine hc.sim S T H σ δ fp _ _ s q fun S1 H1 fp1 c δ1 l1 s1 u1 q1 => ?_
  cases c with
  | true => exact ha.sim S1 T H1 σ δ1 fp1 _ _ ex s1 q1 (kx.mono l1) fun S2 H2 fp2 w d δ2 l2 s2 r2 q2 => k S2 H2 fp2 w d δ2 (l1.trans l2) s2 r2 q2
  | false => exact hb.sim S1 T H1 σ δ1 fp1 _ _ ex s1 q1 (kx.mono l1) fun S2 H2 fp2 w d δ2 l2 s2 r2 q2 => k S2 H2 fp2 w d δ2 (l1.trans l2) s2 r2 q2
/-- a[i] where a may raise -/
def dIxX (o : D → D → (D → Prop) → Prop) (ta : DTX) (tb : DT) : DTX := fun ex δ Q => ta ex δ fun x δ1 => tb δ1 fun y δ2 => o x y fun d => Q d δ2
theorem dex_ix {rr : R2} (hr : IxR X rr) (ho : OpS rr idxD) (ha : DEX W X a ra ux) (hb : DE X b true rb tb) (hs : PlainIx b := by exact fun _ _ => rfl) : DEX W X (.Subscript a b pos) (tOp rr ra rb) (dIxX idxD ux tb) := by
  refine ⟨pe_ix hr ha.pe hb.pe hs, ?_⟩
  intro S T H σ δ fp Q Q' ex s q kx k
  refine ha.sim S T H σ δ fp _ _ ex s q kx fun S1 H1 fp1 v x δ1 l1 s1 r1 q1 => ?_
  refine hb.sim S1 T H1 σ δ1 fp1 _ _ s1 q1 fun S2 H2 fp2 w y δ2 l2 s2 r2 u2 q2 => ?_
  refine ho S2 T H2 σ _ fp2 x y v w _ _ s2 ((r1.mono l2).view s2.s) (r2.view s2.s) q2 fun S3 H3 u d l3 s3 r3 g3 q3 => ?_
  exact k S3 H3 fp2 u d _ (l1.trans (l2.trans l3)) s3 r3 q3
/-! ### calls -/
variable {k : Nat} {f : Addr} {fd : FuncData} {ps : List Str} {sp : DSp} {x : Str} {es : List Expr} {n : Nat} {wa : TA} {va : DTA} {CX : CXT} {E : St → XK}
def dCallX (sp : DSp) (dvD : List D) (va : DTA) : DTX := fun ex δ Q => va δ fun ds δ1 => sp ((ds ++ dvD).map .i) (fun w _ => resD w fun d => Q d δ1) fun C ks es _ => ex C ks es δ1
def tCallSD (sp : Sp) (dvs : List V) (E : St → XK) (t : TA) : TE := fun σ H Q => t σ H fun vs H1 => sp (vs ++ dvs) H1 Q (E σ)
theorem sim_callX {dvD : List D} {dvs : List V} (hdv : ∀ S, RIs S dvD dvs) (ha : SimA n p wa va) : SimEX W (tCallSD (lift sp) dvs (WE W) wa) (dCallX sp dvD va) := by
  intro S T H σ δ fp Q Q' ex s q kx k
  refine ha S T H σ δ fp _ _ s q fun S1 H1 fp1 vs ds δ1 l1 s1 r1 e1 u1 q1 => ?_
  refine ⟨S1, outOf S1 H1 [], _, fun _ => [], _, _, s1.callee (r1.append (hdv S1)), q1, fun S2 H2 σ2 δ2 fp2 v w l2 s2 rr q2 => ?_, fun S2 H2 σ2 δ2 fp2 C d ks es xs l2 s2 hd hl hr hE => ?_⟩
  · obtain ⟨s3, x3⟩ := s1.called l2 s2
    have rr3 := RR.called s1 l2 s2 rr
    obtain ⟨S4, d, l4, s4, r4, q4, f4⟩ := res_frz s3 rr3 q2
    exact k S4 H2 fp1 v d δ1 (l1.trans (l2.trans l4)) s4 r4 q4
  · obtain ⟨s3, x3⟩ := s1.called l2 s2
    exact kx S2 H2 σ δ1 fp1 C d ks es xs (l1.trans l2) s3 hd hl hr hE
theorem goesUS {sp : Sp} {E : XK} {dvs : List V} {dsv : List Value} {pins : List (Addr × Obj)} {σ : St} {H : Hp} {s : Shared} {Q : VK} {us : List Value} {vs : List V} (F : FnG X.prog X.w X.K X.mg X.base CX k f fd ps sp) (hr : Room k X.A) (gd : X.A.guards = some []) (hb : Binds X.K fd ps dsv) (hd : Vals dvs dsv) (hx : PassesAt CX X σ E)
    (I : Inv X pins σ H s) (r : Vals vs us) (h : sp (vs ++ dvs) H Q E) : wpAny (model X.prog X.w) X.A (call (.ref f) us []) (EP X pins σ Q) X.xe s := by
  have rel : Vals (vs ++ dvs) (us ++ dsv) := r.append hd
  have lenU : (us ++ dsv).length = ps.length := rel.length.symm.trans (F.many _ _ _ _ h)
  refine wpAny_call (codeAny_mono (F.goes X.A X.stack gd hr s H I.env0 ⟨us, []⟩ (us ++ dsv) (hb s us I.kIn lenU) (vs ++ dvs) Q E rel h) fun res s2 got => ?_)
  match res, got with
  | .error err, got => exact hx pins H s err s2 I got
  | .ok (.ret u), got => exact I.after got
  | .ok .next, got => exact got.elim
  | .ok .brk, got => exact got.elim
  | .ok .cont, got => exact got.elim
theorem dex_call {dvD : List D} {dvs : List V} {dsv : List Value} (tk : Takes X W) (F : FnG X.prog X.w X.K X.mg X.base (L2.CX X.prog X.w) k f fd ps (lift sp)) (hr : Room k X.A) (gd : X.A.guards = some []) (hg : Gl X x) (hm : X.mg x = some (.ref f)) (hk : PySem.W.keepIn X.K (.ref f) = true) (hb : Binds X.K fd ps dsv) (hd : Vals dvs dsv) (hdv : ∀ S, RIs S dvD dvs)
    (ha : DA X (e :: es) n p wa va) (hdb : (x == ("__debug__" : Str)) = false := by decide) (he : starEach (e :: es) X.env = (false, eval e X.env) :: starEach es X.env := by rfl) (hpl : (backTo pos (starEach es X.env)).any (·.1) = false := by rfl) :
    DEX W X (.Call (.Name x pos') (e :: es) [] pos) (tCallSD (lift sp) dvs (WE W) wa) (dCallX sp dvD va) := by
  refine ⟨⟨fun pins s σ H Q I h => wpAny_Call_Name_kw (ld_glob I hg hm (PySem.W.callWith_K (h₀ := X.base) I.ok.mod.kin hk (thn (ha.pe.run pos pins s σ H _ I h) ?_) he hpl) hdb)⟩, sim_callX hdv ha.sim⟩
  intro us s1 ⟨vs, H1, I1, r, q⟩
  exact ⟨I1.kIn, goesUS F hr gd hb hd (passAt tk σ) I1 r q⟩
theorem dex_callK {kws : List Keyword} {ks : List Str} (tk : Takes X W) (F : FnG X.prog X.w X.K X.mg X.base (L2.CX X.prog X.w) k f fd ps (lift sp)) (hr : Room k X.A) (gd : X.A.guards = some []) (hg : Gl X x) (hm : X.mg x = some (.ref f)) (hk : PySem.W.keepIn X.K (.ref f) = true)
    (hb : ∀ (s : Shared) (ws : List Value), ws.length = ps.length → BindsTo s fd ⟨[], ks.zip ws⟩ (ps.zip ws)) (hkw : DK X kws n p wa va) (hall : (backToKw pos (keywordEach kws X.env)).all (·.1.isSome) = true := by rfl) (hks : (backToKw pos (keywordEach kws X.env)).filterMap (·.1) = ks := by rfl)
    (hdb : (x == ("__debug__" : Str)) = false := by decide) (hpl : ((backTo pos (starEach [] X.env)).any (·.1) || (backToKw pos (keywordEach kws X.env)).any (·.1.isNone)) = false := by rfl) :
    DEX W X (.Call (.Name x pos') [] kws pos) (tCallSD (lift sp) [] (WE W) wa) (dCallX sp [] va) := by
  refine ⟨⟨fun pins s σ H Q I h => wpAny_Call_Name_kw (ld_glob I hg hm (PySem.W.callWith_KW0 (h₀ := X.base) I.ok.mod.kin hk hall (thn (hkw.pk.run pos pins s σ H _ I h) ?_) hpl) hdb)⟩, sim_callX (fun _ => RIs.nil) hkw.sim⟩
  intro ws s1 ⟨zs, H1, I1, r, q⟩
  rw [hks]
  refine ⟨I1.kIn, ?_⟩
  have q : lift sp (zs ++ []) H1 Q (WE W σ) := q
  rw [List.append_nil] at q
  have lenU : ws.length = ps.length := r.length.symm.trans (F.many _ _ _ _ q)
  refine wpAny_call (codeAny_mono (F.goes X.A X.stack gd hr s1 H1 I1.env0 ⟨[], ks.zip ws⟩ ws (hb s1 ws lenU) zs Q (WE W σ) r q) fun res s2 got => ?_)
  match res, got with
  | .error err, got => exact passAt tk σ pins H1 s1 err s2 I1 got
  | .ok (.ret u), got => exact I1.after got
  | .ok .next, got => exact got.elim
  | .ok .brk, got => exact got.elim
  | .ok .cont, got => exact got.elim
end
/-! ### a def that may raise -/
theorem dfnX {P : Program} {w : World} {K : PySem.W.Frag} {mg : Str → Option Value} {base : Heap} {x qual : Str} {st : Stmt} {f : Addr} {fd : FuncData} {N ps : List Str} {k : Nat} {ds : DSp} (F : Fun K x qual st f fd) (Sc : FnScope N ps (defScope st)) (len : ∀ args Q E, ds args Q E → args.length = ps.length)
    (hbody : ∀ (cdv : Value) (A : Around) (outer : List Env) (s : Shared) (H : Hp) (E : XK), A.guards = some [] → Room k (A.deeper (envOfC qual (defScope st) s.heap.objs.size f cdv)) →
      ∃ r t, DSsX (fun cls d _ H => E cls d H) (cxOf (L2.CX P w) P w K mg base N qual (defScope st) f cdv A outer s H E) (defBody st) r t ∧
        ∀ args Q' E', ds args Q' E' → t { nx := fun δ => Q' (.i .non) (δ.take ps.length), rt := fun w δ => Q' w (δ.take ps.length), ex := fun C ks es δ => E' C ks es (δ.take ps.length) } (startD N args)) : FnG P w K mg base (L2.CX P w) (k + 1) f fd ps (lift ds) := by
  have hl : ∀ vs H Q E, lift ds vs H Q E → vs.length = ps.length := fun vs H Q E ⟨S, T, args, fp, Q', E', s, h, _⟩ => by
    have := s.len; simp at this; rw [this]; exact len _ _ _ h
  refine fnG_of F Sc hl (fun cdv A outer s H vs Q E gd hr h => ?_)
  obtain ⟨S, T, args, fp, Q', E', sr, hd, hq, he⟩ := h
  obtain ⟨r, t, d, hb⟩ := hbody cdv A outer s H E gd hr
  refine ⟨r, d.ps, ?_⟩
  have sr0 := sr.len; simp at sr0
  have s0 : SR S T H (L2.start N vs) (startD N args) fp := by
    unfold L2.start startD; rw [sr0]; exact sr.pad _
  refine d.sim S T H _ _ fp _ _ s0 (hb args Q' E' hd) ⟨fun S' H' σ' δ' fp' l s' q => ?_, fun _ _ _ _ _ _ _ q => q, fun _ _ _ _ _ _ _ q => q, fun S' H' σ' δ' fp' v w l s' rr q => ?_⟩ fun S' H' σ' δ' fp' C d ks es xs l s' h1 h2 h3 q => ?_
  · exact hq S' H' _ _ _ .non (.i .non) l (s'.cut ps.length) (.i ri_non) q
  · exact hq S' H' _ _ _ v w l (s'.cut ps.length) (rr.cut _) q
  · exact he S' H' _ _ _ C d ks es xs l (s'.cut ps.length) h1 h2 h3 q
/-! ### raise C(e), C's __init__ keeping its one argument in one field -/
def spInit (C : Addr) (f : Str) : Sp := fun vs H Q _ => ∃ (a : Addr) (v : V), vs = [.ref a, v] ∧ H a = some (exo a C none) ∧ ∀ dx, H dx = none → dx ≠ a → Q .non (upd (upd H dx (exd dx [(f, v)])) a (exo a C (some dx)))
/-- what is known of an exception class: its address, its field -/
structure ExK (P : Program) (w : World) (K : PySem.W.Frag) (mg : Str → Option Value) (base : Heap) (x f : Str) (dsv : List Value) where
  C : Addr
  fI : Addr
  fd : FuncData
  g : mg x = some (.ref C)
  T : OexC K C
  iC : PySem.W.findIn K (.ref C) "__init__" = some (some (.ref fI))
  tI : PySem.W.typeIn K (.ref fI) = some (.type "function")
  F : FnOk P w K mg base CX0 1 fI fd ["self", f] (spInit C f)
  b : Binds K fd ["self", f] dsv
  xf : XfC K C
  nf : PySem.W.findIn K (.ref C) f = some none
/-- .. of a class that an except clause names -/
structure ExN (K : PySem.W.Frag) (mg : Str → Option Value) (x : Str) where
  C : Addr
  g : mg x = some (.ref C)
/-- what a def's facts are, of one that may raise -/
structure KFX (P : Program) (w : World) (K : PySem.W.Frag) (mg : Str → Option Value) (base : Heap) (n : Nat) (x : Str) (st : Stmt) (ps : List Str) (ko : List (List Str × List Nat)) (sp : DSp) : Type extends KR K mg x st ps ko where
  G : FnG P w K mg base (L2.CX P w) n f fd ps (lift sp)
def clsBody : Stmt → List Stmt
  | .ClassDef (body := b) .. => b
  | _ => []
def dRaise (C : Addr) (f : Str) (va : DTA) (dvD : List D) : DS := fun D δ => va δ fun ds δ1 => ∃ d, ds ++ dvD = [d] ∧ D.ex C [f] [d] δ1
section
variable {W : WX} {X : Cx} {e : Expr} {es : List Expr} {pos pos2 p0 : Pos} {p : Bool} {n : Nat} {wa : TA} {va : DTA} {x f : Str}
theorem sim_raise {C : Addr} {dvD : List D} {dvs : List V} (hdv : ∀ S, RIs S dvD dvs) (ha : SimA n p wa va) (hn : n ≤ 1) : SimSX W (fun _ σ H => tMkO C (spInit C f) dvs wa σ H fun cls d H' => W cls d σ H') (dRaise C f va dvD) := by
  intro S T H σ δ fp D D' s g k kx
  refine ha S T H σ δ fp _ _ s g fun S1 H1 fp1 vs ds δ1 l1 s1 r1 e1 u1 q1 => ?_
  obtain ⟨d, ed, q1⟩ := q1
  have rr := r1.append (hdv S1)
  rw [ed] at rr
  have hvl := r1.len
  simp only [RIs] at rr
  obtain ⟨v, ys, ev, rv, rfl⟩ := rr
  refine ⟨by omega, fun a na => ⟨a, v, by rw [ev], upd_same, fun dx nd hda => ⟨rfl, dx, [(f, v)], upd_same, by rw [upd_ne hda, upd_same], ?_, ?_⟩⟩⟩
  · rw [upd_ne hda] at nd; exact nd
  · have nd' : H1 dx = none := by rw [upd_ne hda] at nd; exact nd
    have eH : upd (del (upd (upd (upd H1 a (exo a C none)) dx (exd dx [(f, v)])) a (exo a C (some dx))) a) dx (.xd [(f, v)]) = upd H1 dx (.xd [(f, v)]) := by
      funext b
      by_cases hb : b = dx
      · subst hb; rw [upd_same, upd_same]
      · rw [upd_ne hb, upd_ne hb]
        by_cases hb2 : b = a
        · subst hb2; rw [del_same, na]
        · rw [del_ne hb2, upd_ne hb2, upd_ne hb, upd_ne hb2]
    rw [eH]
    have f1 := s1.fresh nd'
    exact kx _ _ σ δ1 fp1 C dx [f] [d] [v] (l1.trans (le_upd f1.1)) (s1.frz nd') upd_same rfl (.cons (rv.mono (le_upd f1.1)) .nil) q1
theorem dsx_raise {dsv : List Value} {dvD : List D} {dvs : List V} (T : ExK X.prog X.w X.K X.mg X.base x f dsv) (hd : Vals dvs dsv) (hdv : ∀ S, RIs S dvD dvs) (hc : X.calm = true) (tk : Takes X W) (hr : Room 2 X.A) (hg : Gl X x) (ha : DA X (e :: es) n p wa va) (hn : n ≤ 1 := by decide)
    (hdb : (x == ("__debug__" : Str)) = false := by decide) (he : starEach (e :: es) X.env = (false, eval e X.env) :: starEach es X.env := by rfl) (hpl : (backTo pos (starEach es X.env)).any (·.1) = false := by rfl) :
    DStX W X (.Raise (some (.Call (.Name x p0) (e :: es) [] pos)) none pos2) (fun _ σ H => tMkO T.C (spInit T.C f) dvs wa σ H fun cls d H' => W cls d σ H') (dRaise T.C f va dvD) :=
  ⟨ps_raise hc tk (pmk_oex T.T T.iC T.tI T.F hr T.b hd (pass0) hg T.g ha.pe hdb he hpl), sim_raise hdv ha.sim hn⟩
end
end SW

namespace SW
open PySem PySem.Spec PyProof.Rows L2
/-! ### try: body, except C as n: y = n -/
def dTryK (ok : Addr → Prop) (i j : Nat) (t : DS) : DS := fun Dn δ => t { Dn with ex := fun C ks es δ1 => ok C ∧ Dn.nx (((δ1.set i none).set j (some (.i (.exc C ks es)))).set i none) } δ
section
variable {X : Cx} {x n y : Str} {body : List Stmt} {np p1 p2 p3 pos pos' : Pos} {tb : WX → TS} {t : DS}
theorem ds_tryK {Cc : Addr} {ok : Addr → Prop} (i j : Nat) (hok : ∀ C, ok C → PySem.W.exmOne X.K (.ref C) (.ref Cc) = some true) (hcn : Names X x (.ref Cc)) (hN : X.N.Nodup)
    (hb : ∀ (W : WX) (pn : List (Addr × Obj)) (xe : Value → Shared → Prop), Takes (X.tr pn xe) W → DSsX W (X.tr pn xe) body (tb W) t)
    (hsu : ∀ (a : Addr) (pn : List (Addr × Obj)), PS (X.suite a pn) (.Assign [.Name y p1] (.Name n p2) p3) (tAsg (tVar i) (gName j)))
    (hij : i ≠ j := by decide) (hex : X.ex = [] := by rfl) (hs : X.stack = X.env :: X.outer := by rfl) (hf : X.env.frame = some X.env.locals := by rfl) (hi : X.N[i]? = some n := by rfl) (hln : X.env.kindOf n = some .local := by rfl) :
    DSt X (.Try body [.ExceptHandler (some (.Name x np)) (some n) [.Assign [.Name y p1] (.Name n p2) p3] pos'] [] [] pos) (fun D σ H => tb (wKeep X.K (.ref Cc) i j (fun _ _ _ _ => False) D) D σ H) (dTryK ok i j t) := by
  refine ⟨ps_try_keep hex hs hf hN hi hln hcn takes0 (fun W pn xe tk _ => (hb W pn xe tk).ps) (fun a pn => pss_one (hsu a pn)) (fun D σ H a hlt q => ⟨.ref a, List.getElem?_set_self hlt, q⟩), ?_⟩
  intro S T H σ δ fp Dn D' s g k
  refine (hb (wKeep X.K (.ref Cc) i j (fun _ _ _ _ => False) Dn) [] (fun _ _ => True) (fun _ _ _ => trivial)).sim S T H σ δ fp Dn _ s g ⟨k.nx, k.bk, k.ct, k.rt⟩ ?_
  intro S' H' σ' δ' fp' C d ks es xs l s' hd hl hr q
  obtain ⟨oC, q⟩ := q
  refine ⟨true, hok C oC, fun _ a na => ?_, fun z => nomatch z⟩
  have s1 := s'.frz (o := exvO a (.ref C) (some d)) na
  have f := s'.fresh na
  obtain ⟨fp1, s2⟩ := s1.putN i (v := some (.ref a))
  have r : RI (upd S' a (exvO a (.ref C) (some d))) (.exc C ks es) (.ref a) := by
    simp only [RI]
    exact ⟨a, d, xs, rfl, upd_same, le_upd f.1 _ _ hd, hl, hr.mono (le_upd f.1)⟩
  obtain ⟨fp2, s3⟩ := s2.putI j r
  obtain ⟨fp3, s4⟩ := s3.putN i (v := none)
  exact k.nx _ _ _ _ fp3 (l.trans (le_upd f.1)) s4 q
theorem names_cls {C : Addr} (hg : Gl X x) (hm : X.mg x = some (.ref C)) (hd : (x == ("__debug__" : Str)) = false := by decide) : Names X x (.ref C) := ⟨hg, hd, .inl hm⟩
end
/-! ### x.f of a caught exception -/
def lookD (f : Str) : List Str → List D → Option D
  | k :: ks, e :: es => if f = k then some e else lookD f ks es
  | _, _ => none
theorem look_ris {S : Hp} {f : Str} : ∀ {ks : List Str} {es : List D} {xs : List V} {d : D}, RIs S es xs → lookD f ks es = some d → ∃ v, (ks.zip xs).lookup f = some v ∧ RI S d v
  | [], _, _, _, _, h => by simp [lookD] at h
  | _ :: _, [], _, _, _, h => by simp [lookD] at h
  | k :: ks, e :: es, xs, d, r, h => by
    simp only [RIs] at r
    obtain ⟨y, ys, rfl, r1, r2⟩ := r
    unfold lookD at h
    by_cases c : f = k
    · rw [if_pos c] at h; cases h
      exact ⟨y, by rw [List.zip_cons_cons, c, List.lookup_cons_self], r1⟩
    · rw [if_neg c] at h
      obtain ⟨v, e1, e2⟩ := look_ris r2 h
      refine ⟨v, ?_, e2⟩
      rw [List.zip_cons_cons, List.lookup_cons, beq_eq_false_iff_ne.mpr c]
      exact e1
def dExf (ok : Addr → Prop) (f : Str) (t : DT) : DT := fun δ Q => t δ fun x δ1 => match x with
  | .exc C ks es => ok C ∧ ∃ d, lookD f ks es = some d ∧ Q d δ1
  | _ => False
theorem de_exf {X : Cx} {e : Expr} {p : Bool} {r : TE} {t : DT} {pos : Pos} {f : Str} {ok : Addr → Prop} (hok : ∀ C, ok C → XfC X.K C ∧ PySem.W.findIn X.K (.ref C) f = some none) (h : DE X e p r t) (hb : attributeBase e f X.env (eval e X.env) = eval e X.env := by rfl) :
    DE X (.Attribute e f pos) p (tExf X.K f r) (dExf ok f t) := by
  refine ⟨pe_exf h.pe hb, ?_⟩
  intro S T H σ δ fp Q Q' s q k
  refine h.sim S T H σ δ fp _ _ s q fun S1 H1 fp1 v x δ1 l1 s1 r1 u1 q1 => ?_
  split at q1
  · rename_i C ks es
    obtain ⟨oC, d, hd, q1⟩ := q1
    simp only [RI] at r1
    obtain ⟨a, dd, xs, rfl, e1, e2, hl, rr⟩ := r1
    obtain ⟨w, hw, rw'⟩ := look_ris rr hd
    exact ⟨a, C, dd, _, w, rfl, (hok C oC).1, (hok C oC).2, s1.s _ _ e1, s1.s _ _ e2, hw, k S1 H1 fp1 w d δ1 l1 s1 rw' u1 q1⟩
  · exact q1.elim
end SW

namespace SW
open PySem PySem.Spec PySem.W PyProof.Rows L2
/-! ### min of tuples of whole numbers, the least of which stands first -/
def rMinT (K : PySem.W.Frag) : List V → Hp → VK → Prop := fun vs H Q => ∃ (a : Addr) (xs : List V) (d0 : PyData) (ds : List PyData), vs = [.ref a] ∧ SqL K H a xs ∧ DpAll K H xs (d0 :: ds) ∧ AlikeAll (d0 :: ds) ∧ PyData.canLayAll0 (d0 :: ds) = true ∧ PyData.depthAll (d0 :: ds) ≤ 60 ∧
  ∀ (i : Nat) (v : V), xs[i]? = some v → (d0 :: ds)[i]? = some (minD d0 ds) → Q v H
theorem cr_minT {X : Cx} {k : Nat} (hr : Room k X.A) (hc : X.calm = true) : CallR X (.builtin "min") (rMinT X.K) := by
  intro pins s σ H vs us Q I r h
  obtain ⟨a, xs, d0, ds, rfl, hs, hd, ha, hl0, hdep, q⟩ := h
  obtain ⟨its, rv, hl, hz⟩ := I.list hs
  rw [Vals.ref1 r]
  obtain ⟨as, rs⟩ := Dp.readsAll I (d0 :: ds) xs its hd rv
  have hun := hr.units
  have hlen : its.length = (d0 :: ds).length := SeqAt.ReadsAll.length _ its as rs
  refine min_list_data (vs := its.toArray) (I.ok.hd hc) hl.isList (by simpa using rs) ha (by omega) fun i v h' tk bs hv hrd kp => ?_
  have hv' : its[i]? = some v := by simpa using hv
  have hi : i < its.length := (List.getElem?_eq_some_iff.mp hv').1
  obtain ⟨d, hd'⟩ : ∃ d, (d0 :: ds)[i]? = some d := ⟨_, List.getElem?_eq_getElem (by omega)⟩
  have hmap := SeqAt.readsAll_map (h := s.heap) (d0 :: ds) its as hl0 rs
  obtain ⟨bs2, r2, _⟩ := readsAll_at rs i v hv'
  have ed : (d0 :: ds).getD i .none = d := by rw [List.getD_eq_getElem?_getD, hd']; rfl
  rw [ed] at r2
  have hlay : d.canLay0 = true := by
    have hm : d ∈ d0 :: ds := List.mem_of_getElem? hd'
    have key : ∀ l : List PyData, PyData.canLayAll0 l = true → ∀ x ∈ l, x.canLay0 = true := fun l => by
      induction l with
      | nil => intro _ x hx; cases hx
      | cons y l ih =>
        intro h x hx
        simp only [PyData.canLayAll0, Bool.and_eq_true] at h
        rcases List.mem_cons.mp hx with rfl | hx
        · exact h.1
        · exact ih h.2 x hx
    exact key _ hl0 d hm
  have e := PySem.SeqAt.Reads.unique (h := h') d (minD d0 ds) v _ _ hlay (reads_keeps kp r2) hrd
  have hx : xs[i]? = some (xs.getD i .non) := by
    have hil : i < xs.length := by have := rv.length; omega
    rw [List.getD_eq_getElem?_getD, List.getElem?_eq_getElem hil]; rfl
  obtain ⟨u, hu, ru⟩ := rv.get hx
  rw [hv'] at hu; cases hu
  exact ⟨_, H, I.kept (t' := tk) kp, ru, q i _ hx (by rw [hd', e])⟩
/-- tuples of whole numbers, compared -/
theorem py_tupI (k : List Int) : py (tupI k) = .tuple (k.map PyData.int) := by
  show PyData.tuple (pys (k.map .int)) = _
  rw [pys_map, List.map_map]
  congr 1
theorem alike_ints : ∀ {a b : List Int}, a.length = b.length → PySem.W.alikeAll (a.map PyData.int) (b.map PyData.int) = true
  | [], [], _ => rfl
  | [], _ :: _, h => by simp at h
  | _ :: _, [], h => by simp at h
  | x :: a, y :: b, h => by
    simp only [List.map_cons, PySem.W.alikeAll, PySem.W.alike, Bool.true_and]
    exact alike_ints (by simpa using h)
theorem minD_head {k : List Int} : ∀ {ks : List (List Int)}, (∀ y ∈ ks, ¬ y < k) → minD (py (tupI k)) (ks.map fun y => py (tupI y)) = py (tupI k)
  | [], _ => rfl
  | y :: ks, h => by
    have h1 := h y (by simp)
    have ih := minD_head (k := k) (ks := ks) fun z hz => h z (List.mem_cons_of_mem _ hz)
    unfold minD at ih ⊢
    rw [List.map_cons, List.foldl_cons]
    have e : PySem.W.dataLt (py (tupI y)) (py (tupI k)) = false := by
      rw [py_tupI, py_tupI, PySem.W.dataLt_tuple]
      have := PySem.W.dataLt_ints y k
      unfold PySem.W.rowLt at this
      rw [this]
      exact decide_eq_false h1
    rw [e]
    exact ih
def minTD : D → (D → Prop) → Prop
  | .lst ds, q => ∃ (n : Nat) (k : List Int) (ks : List (List Int)), ds = (k :: ks).map tupI ∧ (∀ y ∈ k :: ks, y.length = n) ∧ (∀ y ∈ ks, ¬ y < k) ∧ q (tupI k)
  | _, _ => False
theorem ris_at {S : Hp} {kss : List (List Int)} {xs : List V} {i : Nat} {v : V} {k : List Int} (r : RIs S (kss.map tupI) xs) (hv : xs[i]? = some v) (hk : kss[i]? = some k) : RI S (tupI k) v := by
  obtain ⟨x, e, rx⟩ := r.get (i := i) (d := tupI k) (by rw [List.getElem?_map, hk]; rfl)
  rw [hv] at e; cases e; exact rx
theorem c1_minT {K : PySem.W.Frag} : Call1 (rMinT K) minTD := by
  intro S T H σ δ fp x v Q Q' s rx q k
  unfold minTD at q
  split at q
  · rename_i ds
    obtain ⟨a, xs, rfl, h1, h2⟩ := rx
    obtain ⟨n, k0, ks, rfl, hn, hlt, q⟩ := q
    have hnum : ∀ d ∈ (k0 :: ks).map tupI, num d = true ∧ dep d = 1 := fun d hd => by
      obtain ⟨y, _, rfl⟩ := List.mem_map.mp hd
      exact num_ti y
    have nums' : nums ((k0 :: ks).map tupI) = true := by
      have n1 : ∀ {ds : List D}, (∀ d ∈ ds, num d = true) → nums ds = true := fun {ds} => by
        induction ds with
        | nil => intro _; rfl
        | cons d ds ih => intro h; simp only [nums, h d (by simp), ih fun x hx => h x (List.mem_cons_of_mem _ hx), Bool.and_self]
      exact n1 fun d hd => (hnum d hd).1
    obtain ⟨p1, p2, p3⟩ := nums_plain _ nums'
    have hdep : deps ((k0 :: ks).map tupI) ≤ 1 := by
      have n2 : ∀ {ds : List D}, (∀ d ∈ ds, dep d ≤ 1) → deps ds ≤ 1 := fun {ds} => by
        induction ds with
        | nil => intro _; simp [deps]
        | cons d ds ih => intro h; have a := h d (by simp); have b := ih fun x hx => h x (List.mem_cons_of_mem _ hx); simp only [deps]; omega
      exact n2 fun d hd => Nat.le_of_eq (hnum d hd).2
    have epys : pys ((k0 :: ks).map tupI) = py (tupI k0) :: ks.map fun y => py (tupI y) := by
      rw [pys_map, List.map_map]; rfl
    have hdp := h2.dp (K := K) s.s p1
    rw [epys] at hdp p2 p3
    refine ⟨a, xs, _, _, rfl, SqL.of h1, hdp, ⟨fun x hx y hy => ?_, fun x hx e => ?_⟩, p2, by omega, fun i v hv hi => ?_⟩
    · have mem : ∀ z ∈ py (tupI k0) :: ks.map fun y => py (tupI y), ∃ y ∈ k0 :: ks, z = py (tupI y) := fun z hz => by
        rcases List.mem_cons.mp hz with rfl | hz
        · exact ⟨k0, by simp, rfl⟩
        · obtain ⟨y, hy, rfl⟩ := List.mem_map.mp hz; exact ⟨y, List.mem_cons_of_mem _ hy, rfl⟩
      obtain ⟨u, hu, rfl⟩ := mem x hx
      obtain ⟨w, hw, rfl⟩ := mem y hy
      rw [py_tupI, py_tupI]
      show PySem.W.alikeAll _ _ = true
      exact alike_ints (by rw [hn u hu, hn w hw])
    · have mem : ∃ y, x = py (tupI y) := by
        rcases List.mem_cons.mp hx with rfl | hx
        · exact ⟨k0, rfl⟩
        · obtain ⟨y, hy, rfl⟩ := List.mem_map.mp hx; exact ⟨y, rfl⟩
      obtain ⟨y, rfl⟩ := mem
      rw [py_tupI] at e; cases e
    · rw [minD_head hlt] at hi
      have hik : ∃ y, (k0 :: ks)[i]? = some y ∧ py (tupI y) = py (tupI k0) := by
        have e2 : (py (tupI k0) :: ks.map fun y => py (tupI y)) = (k0 :: ks).map fun y => py (tupI y) := rfl
        rw [e2, List.getElem?_map] at hi
        cases e : (k0 :: ks)[i]? with
        | none => rw [e] at hi; cases hi
        | some y => rw [e] at hi; injection hi with hi; exact ⟨y, rfl, hi⟩
      obtain ⟨y, hy, ey⟩ := hik
      have eyk : y = k0 := tupI_inj (num_eqv _ _ (num_ti y).1 (num_ti k0).1 (by rw [ey]; exact num_eqv_same (num_ti k0).1))
      subst eyk
      exact k S H _ _ (Le.refl _) s (ris_at h2 hv hy) (Ex.refl _ _) q
  · exact q.elim
end SW

namespace SW
open PySem PySem.Spec PyProof.Rows L2
/-! ### all decreasing triples, in ascending order -/
def nextI (E : List Int) (y : Int) : List Int := (zss (y + 1) (E.length : Nat)).filter fun z => decide (E.getD z.toNat 0 < E.getD y.toNat 0)
theorem fm_if {F : D → Option D} {p : Int → Bool} {g : Int → D} (h : ∀ z, F (.int z) = if p z = true then some (g z) else none) : ∀ l : List Int, (l.map D.int).filterMap F = (l.filter p).map g
  | [] => rfl
  | z :: l => by
    rw [List.map_cons, List.filterMap_cons, h z, List.filter_cons, fm_if h l]
    cases p z <;> rfl
theorem nexts_eq (E : List Int) (y : Int) : nexts E y = (nextI E y).map D.int := by
  unfold nexts nextI
  rw [rangeD_ints]
  refine fm_if (fun z => ?_) _
  show (if _ < _ then _ else _) = _
  by_cases c : E.getD z.toNat 0 < E.getD y.toNat 0
  · rw [if_pos c, if_pos (decide_eq_true c)]
  · rw [if_neg c, if_neg (by rw [decide_eq_false c]; decide)]
def trRow (E : List Int) : D → List (List Int)
  | .tup [.int x, .int y] => (nextI E y).map fun z => [x, y, z]
  | _ => []
def trK3 (E : List Int) : List (List Int) := (pairsOf E).flatMap (trRow E)
theorem find_map {α β γ : Type} {f : α → Option β} {g : β → γ} : ∀ {l : List α}, (l.findSome? fun a => (f a).map g) = (l.findSome? f).map g
  | [] => rfl
  | a :: l => by
    rw [List.findSome?_cons, List.findSome?_cons]
    cases f a with
    | none => exact find_map
    | some b => rfl
theorem find_congr {α β : Type} {f g : α → Option β} : ∀ {l : List α}, (∀ a ∈ l, f a = g a) → l.findSome? f = l.findSome? g
  | [], _ => rfl
  | a :: l, h => by
    rw [List.findSome?_cons, List.findSome?_cons, h a (by simp), find_congr fun x hx => h x (List.mem_cons_of_mem _ hx)]
theorem trip_head (E : List Int) : tripOf E = ((trK3 E).head?.map tupI).getD .non := by
  unfold tripOf trK3
  rw [List.head?_flatMap, ← find_map]
  congr 1
  refine find_congr fun d hd => ?_
  obtain ⟨x, y, rfl, _⟩ := pairs_is hd
  show (nexts E y).head?.map (fun z => D.tup [.int x, .int y, z]) = ((nextI E y).map fun z => [x, y, z]).head?.map tupI
  rw [nexts_eq, List.head?_map, List.head?_map, Option.map_map, Option.map_map]
  rfl
theorem zss_asc (a b : Int) : (zss a b).Pairwise (· < ·) := by
  unfold zss
  rw [List.pairwise_map]
  exact List.pairwise_lt_range.imp fun {i j} h => by omega
theorem lt3 {x y z x' y' z' : Int} (h : x < x' ∨ (x = x' ∧ (y < y' ∨ (y = y' ∧ z < z')))) : ¬ ([x', y', z'] : List Int) < [x, y, z] := by
  intro c
  rw [List.cons_lt_cons_iff, List.cons_lt_cons_iff, List.cons_lt_cons_iff] at c
  have : ¬ ([] : List Int) < [] := fun z => by cases z
  rcases c with c | ⟨c, c2 | ⟨c2, c3 | ⟨_, c4⟩⟩⟩
  · omega
  · omega
  · omega
  · exact this c4
theorem tr3_is {E : List Int} {k : List Int} (h : k ∈ trK3 E) : ∃ x y z : Int, k = [x, y, z] := by
  unfold trK3 at h
  obtain ⟨d, hd, hk⟩ := List.mem_flatMap.mp h
  obtain ⟨x, y, rfl, _⟩ := pairs_is hd
  obtain ⟨z, _, rfl⟩ := List.mem_map.mp (show k ∈ (nextI E y).map fun z => [x, y, z] from hk)
  exact ⟨x, y, z, rfl⟩
theorem tr3_asc (E : List Int) : (trK3 E).Pairwise fun a b => ¬ b < a := by
  unfold trK3
  rw [List.pairwise_flatMap]
  refine ⟨fun d hd => ?_, ?_⟩
  · obtain ⟨x, y, rfl, _⟩ := pairs_is hd
    show ((nextI E y).map fun z => [x, y, z]).Pairwise _
    rw [List.pairwise_map]
    exact ((zss_asc _ _).filter _).imp fun {a b} h => lt3 (.inr ⟨rfl, .inr ⟨rfl, h⟩⟩)
  · have ha := ks_asc E
    unfold ksOf at ha
    rw [List.pairwise_map] at ha
    refine List.Pairwise.imp_of_mem (fun {d d'} hd hd' h a h1 b h2 => ?_) ha
    obtain ⟨x, y, rfl, _⟩ := pairs_is hd
    obtain ⟨x', y', rfl, _⟩ := pairs_is hd'
    obtain ⟨z, _, rfl⟩ := List.mem_map.mp (show a ∈ (nextI E y).map fun z => [x, y, z] from h1)
    obtain ⟨z', _, rfl⟩ := List.mem_map.mp (show b ∈ (nextI E y').map fun z => [x', y', z] from h2)
    obtain ⟨u, v, u', v', e1, e2, hh⟩ := h
    simp only [keyF, intOf, List.cons.injEq, and_true] at e1 e2
    obtain ⟨rfl, rfl⟩ := e1
    obtain ⟨rfl, rfl⟩ := e2
    refine lt3 ?_
    rcases hh with hh | ⟨hh, hh2⟩
    · exact .inl hh
    · exact .inr ⟨hh, .inl hh2⟩
/-- what is told of an arrangement: its places, or its least decreasing triple -/
def toldD (row : List Int) : D := match trK3 (endsOf row) with
  | [] => .tup (swL (endsOf row))
  | k :: _ => .lst [tupI k]
theorem num_tupsN (ls : List (List Int)) : num (.lst (ls.map tupI)) = true := by
  have h1 : ∀ d ∈ ls.map tupI, num d = true := fun d hd => by
    obtain ⟨r, _, rfl⟩ := List.mem_map.mp hd
    exact (num_ti r).1
  have n1 : ∀ {ds : List D}, (∀ d ∈ ds, num d = true) → nums ds = true := fun {ds} => by
    induction ds with
    | nil => intro _; rfl
    | cons d ds ih => intro h; simp only [nums, h d (by simp), ih fun x hx => h x (List.mem_cons_of_mem _ hx), Bool.and_self]
  exact n1 h1
/-- from (x, z, place) to (place, x, z) -/
def rotA : List Int → List Int
  | [x, z, p] => [p, x, z]
  | k => k
def rot3B : D → D
  | .tup [a, b, c] => .tup [b, c, a]
  | d => d
theorem rotB_swL {m : Nat} {row : List Int} (hr : Row row m) : (swL (endsOf row)).map rot3B = (trL (endsOf row)).map tupI := by
  rw [← rot_tr, List.map_map]
  refine List.map_congr_left fun k hk => ?_
  obtain ⟨x, z, _, _, _, _, rfl⟩ := (trL_mem hr k).mp hk
  rfl
theorem swL_num {m : Nat} {row : List Int} (hr : Row row m) : ∀ d ∈ swL (endsOf row), ∃ a b c : Int, d = .tup [.int a, .int b, .int c] := fun d hd => by
  obtain ⟨d0, hd0, rfl⟩ := List.mem_map.mp hd
  obtain ⟨x, z, rfl, _⟩ := pairs_is hd0
  exact ⟨_, _, _, rfl⟩
end SW

set_option maxHeartbeats 4000000
namespace SW
open PySem PySem.Spec PyProof.Rows L2
def top (i : Nat) : Stmt := PySem.Challenge.pw_swaprow_k05_places.main.body.getD i (.Pass ⟨0, 0, 0, 0⟩)
structure Blt (mg : Str → Option Value) : Prop where
  bool_ : mg "bool" = none
  enumerate_ : mg "enumerate" = none
  int_ : mg "int" = none
  isinstance_ : mg "isinstance" = none
  len_ : mg "len" = none
  list_ : mg "list" = none
  min_ : mg "min" = none
  range_ : mg "range" = none
  repr_ : mg "repr" = none
  sorted_ : mg "sorted" = none
  tuple_ : mg "tuple" = none
  x_MAX_PEOPLE : ∃ t, mg "MAX_PEOPLE" = some (.int 40 t)
abbrev s_i_DecreasingTriple : Stmt := (clsBody (top 3)).getD 0 (.Pass ⟨0, 0, 0, 0⟩)
theorem init_DecreasingTriple {P : Program} {w : World} {K : PySem.W.Frag} {mg : Str → Option Value} {base : Heap} {C fI B : Addr} {fd : FuncData} (F : Fun K "__init__" "DecreasingTriple.__init__" s_i_DecreasingTriple fI fd) (T : OexC K C) (hno : PySem.W.findIn K (.ref C) "triple" = some none) (gB : mg "SwaprowError" = some (.ref B)) (TB : BaseI K B) : FnOk P w K mg base CX0 1 fI fd ["self", "triple"] (spInit C "triple") := by
  refine F.ok (N := ["self", "triple"]) ⟨rfl, rfl, rfl, by decide +kernel, rfl, by decide +kernel, by decide +kernel⟩ (fun vs H Q E h => by obtain ⟨_, _, rfl, _⟩ := h; rfl) fun cdv A outer s H vs Q E hr h => ⟨_, pss_cons (ps_expr (pe_binit rfl gB TB (pa_cons (pv 0) (pa_cons pe_str pa_nil)))) (pss_one (ps_ost (pv 0) (pv 1))), ?_⟩
  obtain ⟨a, v, rfl, ha, q⟩ := h
  exact ⟨_, rfl, a, C, _, rfl, by decide, T, ha, _, rfl, _, rfl, a, C, rfl, T, hno, .inl ⟨ha, fun dx h1 h2 => q dx h1 h2⟩⟩
structure XS (P : Program) (w : World) (K : PySem.W.Frag) (mg : Str → Option Value) (base : Heap) where
  x_DecreasingTriple : ExK P w K mg base "DecreasingTriple" "triple" []
  n_DecreasingTriple : ExN K mg "DecreasingTriple"
  m_DecreasingTriple_DecreasingTriple : PySem.W.exmOne K (.ref x_DecreasingTriple.C) (.ref n_DecreasingTriple.C) = some true
section
variable {P : Program} {w : World} {K : PySem.W.Frag} {mg : Str → Option Value} {base : Heap}
abbrev s_mixed : Stmt := top 16
abbrev N_mixed : List Str := ["_law_cell", "_law_n", "_law_turned"]
abbrev p_mixed : List Str := ["_law_cell", "_law_n"]
abbrev ko_mixed : List (List Str × List Nat) := []
theorem sc_mixed : FnScope N_mixed p_mixed (defScope s_mixed) := ⟨rfl, rfl, rfl, by decide +kernel, rfl, by decide +kernel, by decide +kernel⟩
def sp_mixed : DSp := fun args Q _ => ∃ c n : Int, args = [.i (.int c), .i (.int n)] ∧ 0 ≤ c ∧ c < 2 ^ 41 ∧ 0 ≤ n ∧ n < 2 ^ 41 ∧ ∀ (r : Int) (δ : DEnv), 0 ≤ r → r < 2 ^ 31 → Q (.i (.int r)) δ
theorem ok_mixed (B : Blt mg) (R : KR K mg "_law_mixed" s_mixed p_mixed ko_mixed) : FnG P w K mg base CX0 1 R.f R.fd p_mixed (lift sp_mixed) := by
  refine dfn R.F sc_mixed (by intro args Q E h; first | (obtain ⟨_, rfl, _⟩ := h; rfl) | (obtain ⟨_, _, rfl, _⟩ := h; rfl) | (obtain ⟨_, _, _, rfl, _⟩ := h; rfl) | (obtain ⟨_, _, _, _, rfl, _⟩ := h; rfl) | (obtain ⟨_, _, _, _, _, rfl, _⟩ := h; rfl) | (obtain ⟨_, _, _, _, _, _, rfl, _⟩ := h; rfl) | (obtain ⟨_, _, _, _, _, _, _, rfl, _⟩ := h; rfl) | (obtain ⟨_, _, _, _, _, _, _, _, rfl, _⟩ := h; rfl) | (obtain ⟨_, _, _, _, _, _, _, _, _, rfl, _⟩ := h; rfl) | (obtain ⟨_, _, _, _, _, _, _, _, _, _, rfl, _⟩ := h; rfl) | (obtain ⟨_, _, _, _, _, _, _, _, _, _, _, rfl, _⟩ := h; rfl) | (obtain ⟨_, _, _, _, _, _, _, _, _, _, _, _, rfl, _⟩ := h; rfl) | (obtain ⟨_, _, _, _, _, _, _, _, _, _, _, _, _, rfl, _⟩ := h; rfl) | (obtain ⟨_, _, _, _, _, _, _, _, _, _, _, _, _, _, rfl, _⟩ := h; rfl) | (obtain ⟨_, _, _, _, _, _, _, _, _, _, _, _, _, _, _, rfl, _⟩ := h; rfl)) fun cdv A outer s H E gd hr => ⟨_, _, (dss_cons
      (ds_set 2 sc_mixed.nd (de_op or_add os_add (DE.dv (de_op or_add os_add (DE.dv (de_op op_mod os_mod (DE.dv (de_op op_mul os_mul (DE.dv (de_op op_mul os_mul (DE.dv (dv 0)) (DE.dv (de_op or_add os_add (DE.dv de_int) (DE.dv (de_op op_mul os_mul (DE.dv de_int) (DE.dv (dv 1)))))))) (DE.dv de_int))) (DE.dv de_int))) (DE.dv (de_op op_mul os_mul (DE.dv (de_op op_mul os_mul (DE.dv de_int) (DE.dv (dv 1)))) (DE.dv (dv 1)))))) (DE.dv (de_op op_mul os_mul (DE.dv de_int) (DE.dv (dv 1))))))
      (dss_one
      (ds_ret (de_op op_fdiv os_fdiv (DE.dv (de_op op_mod os_mod (DE.dv (de_op op_mul os_mul (DE.dv (dv 2)) (DE.dv de_int))) (DE.dv de_int))) (DE.dv de_int))))), fun args Q' E' h => ?_⟩
  obtain ⟨c, n, rfl, hc0, hc1, hn0, hn1, k⟩ := h
  refine ⟨cm_r (by omega), cm_r (by omega), cm_r (by omega), by show (0 : Int) < 2147483647; decide, cm_l (by omega), cm_r (by omega), cm_l (by omega), cm_r (by omega), by show (0 : Int) < 2147483629; decide, ⟨by decide, by decide⟩, ?_⟩
  refine k _ _ (by omega) (by omega)
def kf_mixed (B : Blt mg) (R : KR K mg "_law_mixed" s_mixed p_mixed ko_mixed) : KF P w K mg base 1 "_law_mixed" s_mixed p_mixed ko_mixed sp_mixed := { R with G := ok_mixed B R }
abbrev s_folded : Stmt := top 17
abbrev N_folded : List Str := ["_law_script", "_law_found", "_law_n", "_law_cell"]
abbrev p_folded : List Str := ["_law_script"]
abbrev ko_folded : List (List Str × List Nat) := []
theorem sc_folded : FnScope N_folded p_folded (defScope s_folded) := ⟨rfl, rfl, rfl, by decide +kernel, rfl, by decide +kernel, by decide +kernel⟩
def sp_folded (K : PySem.W.Frag) : DSp := fun args Q _ => ∃ (sa : Addr) (ns : List Int) (sc : Prop), args = [.i (.scr sa ns sc)] ∧ ns.length ≤ 63 ∧ (sc → ∀ H, SqL K H sa (ns.map V.int)) ∧ ∀ (a : Addr) (cs : List Int) (δ : DEnv), cs.length = 64 → (∀ c ∈ cs, 0 ≤ c ∧ c < 2 ^ 31) → Q (.o a (.lst (cs.map .int))) δ
theorem ok_folded (B : Blt mg) (R : KR K mg "_law_folded" s_folded p_folded ko_folded) : FnG P w K mg base CX0 1 R.f R.fd p_folded (lift (sp_folded K)) := by
  refine dfn R.F sc_folded (by intro args Q E h; first | (obtain ⟨_, rfl, _⟩ := h; rfl) | (obtain ⟨_, _, rfl, _⟩ := h; rfl) | (obtain ⟨_, _, _, rfl, _⟩ := h; rfl) | (obtain ⟨_, _, _, _, rfl, _⟩ := h; rfl) | (obtain ⟨_, _, _, _, _, rfl, _⟩ := h; rfl) | (obtain ⟨_, _, _, _, _, _, rfl, _⟩ := h; rfl) | (obtain ⟨_, _, _, _, _, _, _, rfl, _⟩ := h; rfl) | (obtain ⟨_, _, _, _, _, _, _, _, rfl, _⟩ := h; rfl) | (obtain ⟨_, _, _, _, _, _, _, _, _, rfl, _⟩ := h; rfl) | (obtain ⟨_, _, _, _, _, _, _, _, _, _, rfl, _⟩ := h; rfl) | (obtain ⟨_, _, _, _, _, _, _, _, _, _, _, rfl, _⟩ := h; rfl) | (obtain ⟨_, _, _, _, _, _, _, _, _, _, _, _, rfl, _⟩ := h; rfl) | (obtain ⟨_, _, _, _, _, _, _, _, _, _, _, _, _, rfl, _⟩ := h; rfl) | (obtain ⟨_, _, _, _, _, _, _, _, _, _, _, _, _, _, rfl, _⟩ := h; rfl) | (obtain ⟨_, _, _, _, _, _, _, _, _, _, _, _, _, _, _, rfl, _⟩ := h; rfl)) fun cdv A outer s H E gd hr => ⟨_, _, (dss_cons
      (ds_setLcF 1 rfl sc_folded.nd rfl (sw_true rfl rfl rfl (by decide +kernel)) (blkOk_by (own := [("_law_n", 2)]) (N := N_folded) (sc := defScope s_folded) (by decide +kernel)) (di_range1 rfl B.range_ de_int) (fun _ _ _ _ _ => (dg 2 sc_folded.nd)) (fun _ _ _ _ _ => dts_nil) (fun _ _ _ _ _ => (depur (de_op or_add os_add (DE.dv de_int) (DE.dv (dv 2))))) gin_name)
      (dss_cons
      (ds_for PassesOwn.never rfl (di_enum rfl B.enumerate_ (dv 0)) (dg_tup2 2 rfl rfl (dgs_cons (dg 2 sc_folded.nd) (dgs_cons (dg 3 sc_folded.nd) dgs_nil))) (dss_one
        (ds_asg (de_op op_mod os_mod (DE.dv (de_op or_add os_add (DE.dv (de_op op_mul os_mul (DE.dv (de_ix ix_seq os_idx (vv 1) (de_op op_mod os_mod (DE.dv (dv 2)) (DE.dv de_int)))) (DE.dv de_int))) (DE.dv (dv 3)))) (DE.dv de_int)) (dg_sub 1 (pv 1) (de_op op_mod os_mod (DE.dv (dv 2)) (DE.dv de_int))))))
      (dss_cons
      (ds_for PassesOwn.never rfl (di_range2 rfl B.range_ de_int de_int) (dg 2 sc_folded.nd) (dss_one
        (ds_asg (de_op op_mod os_mod (DE.dv (de_op or_add os_add (DE.dv (de_ix ix_seq os_idx (vv 1) (dv 2))) (DE.dv (de_op op_mul os_mul (DE.dv (de_ix ix_seq os_idx (vv 1) (de_op op_sub os_sub (DE.dv (dv 2)) (DE.dv de_int)))) (DE.dv de_int))))) (DE.dv de_int)) (dg_sub 1 (pv 1) (dv 2)))))
      (dss_one
      (ds_retO 1))))), fun args Q' E' h => ?_⟩
  obtain ⟨sa, ns, sc, rfl, hl, hsc, k⟩ := h
  refine ⟨⟨by decide, by decide⟩, by rw [rangeD_len, sizeLine_eq]; decide, fun d => some (.int (17 + intOf d)), fun i d hd => ?_, fun a => ?_⟩
  · obtain ⟨_, rfl⟩ := rangeD_is hd
    rfl
  rw [filterMap_some]
  have e0 : (rangeD 0 64).map (fun d => D.int (17 + intOf d)) = ((List.range 64).map fun k => (17 + (k : Nat) : Int)).map D.int := by
    rw [show (64 : Int) = ((64 : Nat) : Int) from rfl, rangeD_eq, List.map_map, List.map_map]; rfl
  rw [e0]
  refine ⟨hsc, fun i δ => ∃ (cs : List Int) (v2 v3 : Option Sl), δ = [some (.i (.scr sa ns sc)), some (.o a (.lst (cs.map .int))), v2, v3] ∧ cs.length = 64 ∧ ∀ c ∈ cs, 0 ≤ c ∧ c < 2 ^ 31,
    ⟨(List.range 64).map fun k => (17 + (k : Nat) : Int), _, _, rfl, by simp, fun c hc => ?_⟩, ?_, ?_⟩
  · simp only [List.mem_map, List.mem_range] at hc
    obtain ⟨x, hx, rfl⟩ := hc
    omega
  · rintro i d δ2 hd ⟨cs, v2, v3, rfl, hcl, hcr⟩
    obtain ⟨x, hx, rfl⟩ := enumD_is hd
    obtain ⟨c, hc, rfl⟩ := seq_is hx
    have hi0 : 0 ≤ (i : Int) % 64 := by omega
    have hi1 : (i : Int) % 64 < cs.length := by omega
    have hm := hcr _ (getD_mem (ns := cs) (i := ((i : Int) % 64).toNat) (by omega))
    refine ⟨rfl, rfl, by show (0 : Int) < 64; decide, _, atI_ints hi0 hi1, cm_r (by omega), by show (0 : Int) < 2147483647; decide, by show (0 : Int) < 64; decide, _, by rw [List.length_map]; exact ixN_of hi0 hi1, ?_⟩
    refine ⟨cs.set ((i : Int) % 64).toNat ((cs.getD ((i : Int) % 64).toNat 0 * 48271 + c) % 2147483647), _, _, by rw [List.map_set]; rfl, by rw [List.length_set]; exact hcl, set_mem hcr (by omega)⟩
  · rintro δ2 ⟨cs, v2, v3, rfl, hcl, hcr⟩
    refine ⟨⟨by decide, by decide, by decide, by decide⟩, fun i δ => ∃ (cs : List Int) (v2 v3 : Option Sl), δ = [some (.i (.scr sa ns sc)), some (.o a (.lst (cs.map .int))), v2, v3] ∧ cs.length = 64 ∧ ∀ c ∈ cs, 0 ≤ c ∧ c < 2 ^ 31,
      ⟨cs, _, _, rfl, hcl, hcr⟩, ?_, ?_⟩
    · rintro i d δ2 hd ⟨cs, v2, v3, rfl, hcl, hcr⟩
      obtain ⟨hi, rfl⟩ := rangeD_is hd
      have h1 : (1 : Int) + (i : Nat) < cs.length := by omega
      have h2 : (1 : Int) + (i : Nat) - 1 < cs.length := by omega
      refine ⟨_, atI_ints (by omega) h1, _, atI_ints (by omega) h2, cm_r (by omega), by show (0 : Int) < 2147483647; decide, _, by rw [List.length_map]; exact ixN_of (by omega) h1, ?_⟩
      refine ⟨cs.set ((1 : Int) + (i : Nat)).toNat ((cs.getD ((1 : Int) + (i : Nat)).toNat 0 + cs.getD ((1 : Int) + (i : Nat) - 1).toNat 0 * 16807) % 2147483647), _, _, by rw [List.map_set]; rfl, by rw [List.length_set]; exact hcl, set_mem hcr (by omega)⟩
    · rintro δ2 ⟨cs, v2, v3, rfl, hcl, hcr⟩
      exact k a cs _ hcl hcr
def kf_folded (B : Blt mg) (R : KR K mg "_law_folded" s_folded p_folded ko_folded) : KF P w K mg base 1 "_law_folded" s_folded p_folded ko_folded (sp_folded K) := { R with G := ok_folded B R }
abbrev s_draw : Stmt := top 18
abbrev N_draw : List Str := ["_law_m", "_law_top", "_law_n", "_law_at", "_law_cell"]
abbrev p_draw : List Str := ["_law_m", "_law_top"]
abbrev ko_draw : List (List Str × List Nat) := []
theorem sc_draw : FnScope N_draw p_draw (defScope s_draw) := ⟨rfl, rfl, rfl, by decide +kernel, rfl, by decide +kernel, by decide +kernel⟩
def sp_draw : DSp := fun args Q _ => ∃ (a : Addr) (cs gs : List Int) (n top : Int) (k : Nat), args = [.o a (.rng cs gs n), .i (.int top)] ∧ Rn cs gs n (k + 1) ∧ 0 < top ∧ top < 1000000 ∧
  ∀ (r : Int) (gs' : List Int) (δ : DEnv), 0 ≤ r → r < top → Rn cs gs' (n + 1) k → δ[0]? = some (some (.o a (.rng cs gs' (n + 1)))) → Q (.i (.int r)) δ
theorem ok_draw (B : Blt mg) (R : KR K mg "_law_draw" s_draw p_draw ko_draw) (K_mixed : KF P w K mg base 1 "_law_mixed" s_mixed p_mixed ko_mixed sp_mixed) : FnG P w K mg base CX0 2 R.f R.fd p_draw (lift sp_draw) := by
  refine dfn R.F sc_draw (by intro args Q E h; first | (obtain ⟨_, rfl, _⟩ := h; rfl) | (obtain ⟨_, _, rfl, _⟩ := h; rfl) | (obtain ⟨_, _, _, rfl, _⟩ := h; rfl) | (obtain ⟨_, _, _, _, rfl, _⟩ := h; rfl) | (obtain ⟨_, _, _, _, _, rfl, _⟩ := h; rfl) | (obtain ⟨_, _, _, _, _, _, rfl, _⟩ := h; rfl) | (obtain ⟨_, _, _, _, _, _, _, rfl, _⟩ := h; rfl) | (obtain ⟨_, _, _, _, _, _, _, _, rfl, _⟩ := h; rfl) | (obtain ⟨_, _, _, _, _, _, _, _, _, rfl, _⟩ := h; rfl) | (obtain ⟨_, _, _, _, _, _, _, _, _, _, rfl, _⟩ := h; rfl) | (obtain ⟨_, _, _, _, _, _, _, _, _, _, _, rfl, _⟩ := h; rfl) | (obtain ⟨_, _, _, _, _, _, _, _, _, _, _, _, rfl, _⟩ := h; rfl) | (obtain ⟨_, _, _, _, _, _, _, _, _, _, _, _, _, rfl, _⟩ := h; rfl) | (obtain ⟨_, _, _, _, _, _, _, _, _, _, _, _, _, _, rfl, _⟩ := h; rfl) | (obtain ⟨_, _, _, _, _, _, _, _, _, _, _, _, _, _, _, rfl, _⟩ := h; rfl)) fun cdv A outer s H E gd hr => ⟨_, _, (dss_cons
      (ds_set 2 sc_draw.nd (de_spot 0 hr.units (pv 0)))
      (dss_cons
      (ds_putSpot 0 hr.units (pv 0) (de_op or_add os_add (DE.dv (dv 2)) (DE.dv de_int)))
      (dss_cons
      (ds_if (db_cmp (op_neB hr.units) os_neB (dv_great 0 hr.units (pv 0)) (DE.dv (DF.de (df_lst da_nil))) (nomark _)) (dss_cons
        (ds_set 3 sc_draw.nd (de_op op_mod os_mod (DE.dv (dv 2)) (DE.dv (de_B1 call_len c1_len rfl B.len_ boot_len (dv_great 0 hr.units (pv 0))))))
        (dss_cons
        (ds_set 4 sc_draw.nd (de_ix ix_seq os_idx (dv_great 0 hr.units (pv 0)) (dv 3)))
        (dss_one
        (ds_if (db_cmp op_gt os_gt (DE.dv (dv 4)) (DE.dv de_int) (nomark _)) (dss_cons
          (ds_asg (de_op op_fdiv os_fdiv (DE.dv (dv 4)) (DE.dv (dv 1))) (dg_great 0 hr.units (pv 0) (dv 3)))
          (dss_one
          (ds_ret (de_op op_mod os_mod (DE.dv (dv 4)) (DE.dv (dv 1)))))) dss_nil)))) dss_nil)
      (dss_one
      (ds_ret (de_op op_mod os_mod (DE.dv (de_call K_mixed.G (hr.mono (by decide)) gd rfl K_mixed.g K_mixed.k K_mixed.b .nil (fun _ => RIs.nil) pass0 (dapur (da_cons (de_call K_mixed.G (hr.mono (by decide)) gd rfl K_mixed.g K_mixed.k K_mixed.b .nil (fun _ => RIs.nil) pass0 (dapur (da_cons (de_op or_add os_add (DE.dv (de_ix ix_seq os_idx (dv_cells 0 hr.units (pv 0)) (de_op op_mod os_mod (DE.dv (dv 2)) (DE.dv de_int)))) (DE.dv (de_op op_mul os_mul (DE.dv de_int) (DE.dv (de_op op_fdiv os_fdiv (DE.dv (dv 2)) (DE.dv de_int)))))) (da_cons (dv 2) da_nil)))) (da_cons (de_op or_add os_add (DE.dv (dv 2)) (DE.dv de_int)) da_nil))))) (DE.dv (dv 1)))))))), fun args Q' E' h => ?_⟩
  obtain ⟨a, cs, gs, n, top, k, rfl, R0, ht0, ht1, q⟩ := h
  obtain ⟨r1, r2, r3, r4, r5, r6⟩ := R0
  have fin : ∀ (v3 v4 : Option Sl), dRet (dOp modD (dCall sp_mixed [] (dCons (dCall sp_mixed [] (dCons (dOp addD (dOp idxD (dRngD 0 fun cs _ _ => .lst (cs.map .int)) (dOp modD (dVar 2) (dC (.int 64)))) (dOp mulID (dC (.int 31)) (dOp fdivD (dVar 2) (dC (.int 64))))) (dCons (dVar 2) dNil))) (dCons (dOp addD (dVar 2) (dC (.int 7))) dNil))) (dVar 1))
      { nx := fun δ => Q' (.i .non) (δ.take 2), rt := fun w δ => Q' w (δ.take 2) } [some (.o a (.rng cs gs (n + 1))), some (.i (.int top)), some (.i (.int n)), v3, v4] := fun v3 v4 => by
    have h1 : n % 64 < cs.length := by omega
    have hm := r2 _ (getD_mem (ns := cs) (i := (n % 64).toNat) (by omega))
    refine ⟨by show (0 : Int) < 64; decide, _, atI_ints (by omega) h1, ⟨by decide, by decide⟩, cm_l (by decide), _, _, rfl, by omega, by omega, by omega, by omega, fun x δ' x0 x1 => ?_⟩
    refine ⟨_, _, rfl, x0, by omega, by omega, by omega, fun y δ' y0 y1 => ?_⟩
    refine ⟨ht0, q _ gs _ (Int.emod_nonneg _ (by omega)) (Int.emod_lt_of_pos _ ht0) ⟨r1, r2, r3, r4, by omega, by omega⟩ rfl⟩
  refine fun _ => ⟨num_okq (num_li gs).1 (by rw [(num_li gs).2]; decide), by decide, ite_ne (num_li gs).1 rfl (fun e => ?_) (fun e => ?_)⟩
  · exact fin _ _
  have gl : 0 < gs.length := by
    cases gs with
    | nil => exact absurd rfl e
    | cons _ _ => simp
  have h0 : (0 : Int) ≤ n % (gs.length : Int) := Int.emod_nonneg _ (by omega)
  have h1 : n % (gs.length : Int) < gs.length := Int.emod_lt_of_pos _ (by omega)
  have hg := r4 _ (getD_mem (ns := gs) (i := (n % (gs.length : Int)).toNat) (by omega))
  refine ⟨by rw [List.length_map]; omega, ?_⟩
  rw [List.length_map]
  refine ⟨_, atI_ints h0 h1, ite_d (fun hc => ?_) (fun hc => fin _ _)⟩
  refine ⟨⟨ht0, by omega⟩, _, ixN_of h0 h1, ht0, ?_⟩
  refine q _ (gs.set (n % (gs.length : Int)).toNat (gs.getD (n % (gs.length : Int)).toNat 0 / top)) _ (Int.emod_nonneg _ (by omega)) (Int.emod_lt_of_pos _ ht0) ⟨r1, r2, by rw [List.length_set]; exact r3, set_mem r4 (Int.ediv_nonneg hg (by omega)), by omega, by omega⟩ rfl
def kf_draw (B : Blt mg) (R : KR K mg "_law_draw" s_draw p_draw ko_draw) (K_mixed : KF P w K mg base 1 "_law_mixed" s_mixed p_mixed ko_mixed sp_mixed) : KF P w K mg base 2 "_law_draw" s_draw p_draw ko_draw sp_draw := { R with G := ok_draw B R K_mixed }
abbrev s_begun : Stmt := top 19
abbrev N_begun : List Str := ["_law_script", "_law_m", "_law_cell"]
abbrev p_begun : List Str := ["_law_script"]
abbrev ko_begun : List (List Str × List Nat) := []
theorem sc_begun : FnScope N_begun p_begun (defScope s_begun) := ⟨rfl, rfl, rfl, by decide +kernel, rfl, by decide +kernel, by decide +kernel⟩
def sp_begun (K : PySem.W.Frag) : DSp := fun args Q _ => ∃ (sa : Addr) (ns : List Int) (sc : Prop), args = [.i (.scr sa ns sc)] ∧ ns.length ≤ 63 ∧ (sc → ∀ H, SqL K H sa (ns.map V.int)) ∧ ∀ (a : Addr) (cs gs : List Int) (δ : DEnv), Rn cs gs 0 (2 ^ 40) → Q (.o a (.rng cs gs 0)) δ
theorem ok_begun (B : Blt mg) (R : KR K mg "_law_begun" s_begun p_begun ko_begun) (K_folded : KF P w K mg base 1 "_law_folded" s_folded p_folded ko_folded (sp_folded K)) : FnG P w K mg base CX0 2 R.f R.fd p_begun (lift (sp_begun K)) := by
  refine dfn R.F sc_begun (by intro args Q E h; first | (obtain ⟨_, rfl, _⟩ := h; rfl) | (obtain ⟨_, _, rfl, _⟩ := h; rfl) | (obtain ⟨_, _, _, rfl, _⟩ := h; rfl) | (obtain ⟨_, _, _, _, rfl, _⟩ := h; rfl) | (obtain ⟨_, _, _, _, _, rfl, _⟩ := h; rfl) | (obtain ⟨_, _, _, _, _, _, rfl, _⟩ := h; rfl) | (obtain ⟨_, _, _, _, _, _, _, rfl, _⟩ := h; rfl) | (obtain ⟨_, _, _, _, _, _, _, _, rfl, _⟩ := h; rfl) | (obtain ⟨_, _, _, _, _, _, _, _, _, rfl, _⟩ := h; rfl) | (obtain ⟨_, _, _, _, _, _, _, _, _, _, rfl, _⟩ := h; rfl) | (obtain ⟨_, _, _, _, _, _, _, _, _, _, _, rfl, _⟩ := h; rfl) | (obtain ⟨_, _, _, _, _, _, _, _, _, _, _, _, rfl, _⟩ := h; rfl) | (obtain ⟨_, _, _, _, _, _, _, _, _, _, _, _, _, rfl, _⟩ := h; rfl) | (obtain ⟨_, _, _, _, _, _, _, _, _, _, _, _, _, _, rfl, _⟩ := h; rfl) | (obtain ⟨_, _, _, _, _, _, _, _, _, _, _, _, _, _, _, rfl, _⟩ := h; rfl)) fun cdv A outer s H E gd hr => ⟨_, _, (dss_cons
      (ds_newRng 1 sc_begun.nd (df_call K_folded.G (hr.mono (by decide)) gd rfl K_folded.g K_folded.k K_folded.b .nil (fun _ => RIs.nil) pass0 (dapur (da_cons (dv 0) da_nil))))
      (dss_cons
      (ds_putGreat 1 hr.units (pv 1) (dfpur (df_lc (own := [("_law_cell", 2)]) rfl sc_begun.nd (blkOk_by (own := [("_law_cell", 2)]) (N := N_begun) (sc := defScope s_begun) (by decide +kernel)) (di_seq (dv 0)) (fun _ _ _ _ _ => (dg 2 sc_begun.nd)) (fun _ _ _ _ _ => dts_nil) (fun _ _ _ _ _ => (depur (de_if (db_cmp op_ge os_ge (DE.dv (dv 2)) (DE.dv (de_op op_pow os_pow (DE.dv de_int) (DE.dv de_int))) (nomark _)) (dv 2) de_int))) gin_name)))
      (dss_one
      (ds_retO 1)))), fun args Q' E' h => ?_⟩
  obtain ⟨sa, ns, sc, rfl, hl, hsc, k⟩ := h
  refine ⟨sa, ns, sc, rfl, hl, hsc, fun c cs δ' hc1 hc2 => ⟨cs, rfl, fun a => ?_⟩⟩
  refine ⟨hsc, by rw [List.length_map, sizeLine_eq]; omega, fun d => some (.int (if intOf d ≥ 10 ^ 18 then intOf d else 0)), fun i d hd => ?_, fun g => ?_⟩
  · obtain ⟨x, _, rfl⟩ := seq_is hd
    refine ⟨⟨by decide, by decide, by decide⟩, ite_d (fun h => ?_) (fun h => ?_)⟩
    · show some (D.int (if x ≥ 10 ^ 18 then x else 0)) = some (D.int x)
      rw [if_pos (by simpa using h)]
    · show some (D.int (if x ≥ 10 ^ 18 then x else 0)) = some (D.int 0)
      rw [if_neg (by simpa using h)]
  · rw [filterMap_some, List.map_map]
    refine ⟨ns.map fun x => if x ≥ 10 ^ 18 then x else 0, by rw [List.map_map]; rfl, ?_⟩
    refine k a cs _ _ ⟨hc1, hc2, by rw [List.length_map]; exact hl, fun c hc => ?_, by decide, by decide⟩
    simp only [List.mem_map] at hc
    obtain ⟨x, _, rfl⟩ := hc
    by_cases h : x ≥ 10 ^ 18
    · rw [if_pos h]; omega
    · rw [if_neg h]; exact Int.le_refl _
def kf_begun (B : Blt mg) (R : KR K mg "_law_begun" s_begun p_begun ko_begun) (K_folded : KF P w K mg base 1 "_law_folded" s_folded p_folded ko_folded (sp_folded K)) : KF P w K mg base 2 "_law_begun" s_begun p_begun ko_begun (sp_begun K) := { R with G := ok_begun B R K_folded }
end
end SW

set_option maxHeartbeats 4000000
namespace SW
open PySem PySem.Spec PyProof.Rows L2
section
variable {P : Program} {w : World} {K : PySem.W.Frag} {mg : Str → Option Value} {base : Heap}
theorem erase_perm {α : Type} : ∀ {st : List α} {j : Nat} {y : α}, st[j]? = some y → (y :: st.eraseIdx j).Perm st
  | [], j, y, h => by simp at h
  | x :: st, 0, y, h => by simp at h; subst h; exact List.Perm.refl _
  | x :: st, j + 1, y, h => by
    simp at h
    exact (List.Perm.swap x y _).trans ((erase_perm h).cons x)
abbrev s_mixed_up : Stmt := top 20
abbrev N_mixed_up : List Str := ["_law_m", "_law_things", "_law_stock", "_law_found", "_law_n"]
abbrev p_mixed_up : List Str := ["_law_m", "_law_things"]
abbrev ko_mixed_up : List (List Str × List Nat) := []
theorem sc_mixed_up : FnScope N_mixed_up p_mixed_up (defScope s_mixed_up) := ⟨rfl, rfl, rfl, by decide +kernel, rfl, by decide +kernel, by decide +kernel⟩
def sp_mixed_up : DSp := fun args Q _ => ∃ (a : Addr) (cs gs : List Int) (n : Int) (k : Nat) (ds : List D), args = [.o a (.rng cs gs n), .i (.lst ds)] ∧ ds.length ≤ 900 ∧ Rn cs gs n (k + 1000) ∧
  ∀ (b : Addr) (es : List D) (gs' : List Int) (n' : Int) (δ : DEnv), es.Perm ds → Rn cs gs' n' k → δ[0]? = some (some (.o a (.rng cs gs' n'))) → Q (.o b (.lst es)) δ
theorem ok_mixed_up (B : Blt mg) (R : KR K mg "_law_mixed_up" s_mixed_up p_mixed_up ko_mixed_up) (K_draw : KF P w K mg base 2 "_law_draw" s_draw p_draw ko_draw sp_draw) : FnG P w K mg base CX0 3 R.f R.fd p_mixed_up (lift sp_mixed_up) := by
  refine dfn R.F sc_mixed_up (by intro args Q E h; first | (obtain ⟨_, rfl, _⟩ := h; rfl) | (obtain ⟨_, _, rfl, _⟩ := h; rfl) | (obtain ⟨_, _, _, rfl, _⟩ := h; rfl) | (obtain ⟨_, _, _, _, rfl, _⟩ := h; rfl) | (obtain ⟨_, _, _, _, _, rfl, _⟩ := h; rfl) | (obtain ⟨_, _, _, _, _, _, rfl, _⟩ := h; rfl) | (obtain ⟨_, _, _, _, _, _, _, rfl, _⟩ := h; rfl) | (obtain ⟨_, _, _, _, _, _, _, _, rfl, _⟩ := h; rfl) | (obtain ⟨_, _, _, _, _, _, _, _, _, rfl, _⟩ := h; rfl) | (obtain ⟨_, _, _, _, _, _, _, _, _, _, rfl, _⟩ := h; rfl) | (obtain ⟨_, _, _, _, _, _, _, _, _, _, _, rfl, _⟩ := h; rfl) | (obtain ⟨_, _, _, _, _, _, _, _, _, _, _, _, rfl, _⟩ := h; rfl) | (obtain ⟨_, _, _, _, _, _, _, _, _, _, _, _, _, rfl, _⟩ := h; rfl) | (obtain ⟨_, _, _, _, _, _, _, _, _, _, _, _, _, _, rfl, _⟩ := h; rfl) | (obtain ⟨_, _, _, _, _, _, _, _, _, _, _, _, _, _, _, rfl, _⟩ := h; rfl)) fun cdv A outer s H E gd hr => ⟨_, _, (dss_cons
      (ds_parFF (i := 2) (j := 3) rfl sc_mixed_up.nd rfl rfl (by decide) rfl rfl rfl rfl rfl rfl (df_T1 call_list_of c1_list rfl B.list_ (by decide +kernel) (DE.dv (dv 1))) (df_lst da_nil))
      (dss_cons
      (ds_for PassesOwn.never rfl (di_range1 rfl B.range_ (de_B1 call_len c1_len rfl B.len_ boot_len (vv 2))) (dg 4 sc_mixed_up.nd) (dss_one
        (ds_app 3 (pv 3) (de_popAt 2 (pv 2) (de_callM 0 K_draw.G (hr.mono (by decide)) gd rfl K_draw.g K_draw.k K_draw.b .nil (fun _ => RIs.nil) pass0 (pv 0) (dapur (da_cons (de_B1 call_len c1_len rfl B.len_ boot_len (vv 2)) da_nil)))))))
      (dss_one
      (ds_retO 3)))), fun args Q' E' h => ?_⟩
  obtain ⟨a, cs, gs, n, k, ds, rfl, hl, R0, q⟩ := h
  refine fun b1 b2 => ⟨⟨by omega, by omega⟩, ?_⟩
  refine ⟨fun i δ => ∃ (gs : List Int) (n : Int) (st fd : List D) (v4 : Option Sl), δ = [some (.o a (.rng cs gs n)), some (.i (.lst ds)), some (.o b1 (.lst st)), some (.o b2 (.lst fd)), v4] ∧ (fd ++ st).Perm ds ∧ fd.length = i ∧ Rn cs gs n (k + 1000 - i),
    ⟨gs, n, ds, [], _, rfl, List.Perm.refl _, rfl, R0⟩, ?_, ?_⟩
  · rintro i d δ2 hd ⟨gs, n, st, fd, v4, rfl, hp, hfl, R⟩
    obtain ⟨hi, rfl⟩ := rangeD_is hd
    have hpl := hp.length_eq
    rw [List.length_append] at hpl
    have hst : 0 < st.length := by omega
    refine ⟨a, cs, gs, n, (st.length : Int), k + 1000 - (i + 1), rfl, R.mono (by omega), by omega, by omega, fun r gs' δ' r0 r1 R' hδ => outM_of hδ ?_⟩
    have hj : r.toNat < st.length := by omega
    obtain ⟨y, hy⟩ : ∃ y, st[r.toNat]? = some y := ⟨_, List.getElem?_eq_getElem hj⟩
    refine ⟨⟨by omega, by omega⟩, r.toNat, y, seqIndex_of r0 r1, hy, by rw [sizeLine_eq]; omega, ?_⟩
    refine ⟨gs', n + 1, st.eraseIdx r.toNat, fd ++ [y], _, rfl, ?_, by rw [List.length_append, hfl]; rfl, R'⟩
    rw [List.append_assoc]
    exact (List.Perm.append_left fd (erase_perm hy)).trans hp
  · rintro δ2 ⟨gs, n, st, fd, v4, rfl, hp, hfl, R⟩
    rw [rangeD_len] at hfl R
    have hpl := hp.length_eq
    rw [List.length_append] at hpl
    have e : st = [] := List.eq_nil_of_length_eq_zero (by omega)
    subst e
    rw [List.append_nil] at hp
    exact q b2 fd gs n _ hp (R.mono (by omega)) rfl
def kf_mixed_up (B : Blt mg) (R : KR K mg "_law_mixed_up" s_mixed_up p_mixed_up ko_mixed_up) (K_draw : KF P w K mg base 2 "_law_draw" s_draw p_draw ko_draw sp_draw) : KF P w K mg base 3 "_law_mixed_up" s_mixed_up p_mixed_up ko_mixed_up sp_mixed_up := { R with G := ok_mixed_up B R K_draw }
/-- each person's things end with what stands in the row -/
def LastOk (row : List Int) (held : List (List D)) : Prop := held.length = row.length ∧ ∀ (i : Nat) (x : Int), row[i]? = some x → ∃ pre, held[i]? = some (pre ++ [D.int x])
theorem Wlk.lastOk {m : Nat} {row : List Int} {held : List (List Int)} {mv : Int → Int} (h : Wlk m row held mv) : LastOk row (held.map fun l => l.map D.int) := by
  refine ⟨by rw [List.length_map, h.l, h.rowlen], fun i x hx => ?_⟩
  obtain ⟨pre, hp⟩ := h.last i x hx
  exact ⟨pre.map D.int, by rw [List.getElem?_map, hp]; simp⟩
theorem mv_get {ks : List Key} {ds : List D} {x w z : Int} (e : (valD ks ds (.inl x)).getD (.int w) = .int z) (h : AllI ds) : mvOf ks ds x = z ∨ (mvOf ks ds x = 0 ∧ z = w) := by
  unfold mvOf
  cases q : valD ks ds (.inl x) with
  | none => rw [q] at e; cases e; exact .inr ⟨rfl, rfl⟩
  | some d =>
    rw [q] at e
    have e : d = .int z := e
    subst e
    exact .inl rfl
abbrev s_walked : Stmt := top 21
abbrev N_walked : List Str := ["_law_m", "_law_many", "_law_row", "_law_held", "_law_moved", "_law_who", "_law_n", "_law_at", "_law_thing", "_law_far"]
abbrev p_walked : List Str := ["_law_m", "_law_many"]
abbrev ko_walked : List (List Str × List Nat) := []
theorem sc_walked : FnScope N_walked p_walked (defScope s_walked) := ⟨rfl, rfl, rfl, by decide +kernel, rfl, by decide +kernel, by decide +kernel⟩
def sp_walked : DSp := fun args Q _ => ∃ (a : Addr) (cs gs : List Int) (n : Int) (k m : Nat), args = [.o a (.rng cs gs n), .i (.int (m : Nat))] ∧ 1 ≤ m ∧ m ≤ 60 ∧ Rn cs gs n (k + 1000) ∧
  ∀ (row : List Int) (held : List (List Int)) (mv : Int → Int) (gs' : List Int) (n' : Int) (δ : DEnv), Wlk m row held mv → Rn cs gs' n' k → δ[0]? = some (some (.o a (.rng cs gs' n'))) → Q (.i (.lst ((held.map fun l => l.map D.int).map .lst))) δ
theorem ok_walked (B : Blt mg) (R : KR K mg "_law_walked" s_walked p_walked ko_walked) (K_draw : KF P w K mg base 2 "_law_draw" s_draw p_draw ko_draw sp_draw) : FnG P w K mg base CX0 3 R.f R.fd p_walked (lift sp_walked) := by
  refine dfn R.F sc_walked (by intro args Q E h; first | (obtain ⟨_, rfl, _⟩ := h; rfl) | (obtain ⟨_, _, rfl, _⟩ := h; rfl) | (obtain ⟨_, _, _, rfl, _⟩ := h; rfl) | (obtain ⟨_, _, _, _, rfl, _⟩ := h; rfl) | (obtain ⟨_, _, _, _, _, rfl, _⟩ := h; rfl) | (obtain ⟨_, _, _, _, _, _, rfl, _⟩ := h; rfl) | (obtain ⟨_, _, _, _, _, _, _, rfl, _⟩ := h; rfl) | (obtain ⟨_, _, _, _, _, _, _, _, rfl, _⟩ := h; rfl) | (obtain ⟨_, _, _, _, _, _, _, _, _, rfl, _⟩ := h; rfl) | (obtain ⟨_, _, _, _, _, _, _, _, _, _, rfl, _⟩ := h; rfl) | (obtain ⟨_, _, _, _, _, _, _, _, _, _, _, rfl, _⟩ := h; rfl) | (obtain ⟨_, _, _, _, _, _, _, _, _, _, _, _, rfl, _⟩ := h; rfl) | (obtain ⟨_, _, _, _, _, _, _, _, _, _, _, _, _, rfl, _⟩ := h; rfl) | (obtain ⟨_, _, _, _, _, _, _, _, _, _, _, _, _, _, rfl, _⟩ := h; rfl) | (obtain ⟨_, _, _, _, _, _, _, _, _, _, _, _, _, _, _, rfl, _⟩ := h; rfl)) fun cdv A outer s H E gd hr => ⟨_, _, (dss_cons
      (ds_par3 (i := 2) (j := 3) (m := 4) rfl sc_walked.nd rfl rfl rfl (by decide) (by decide) (by decide) rfl rfl rfl rfl rfl rfl rfl rfl (DF.l (df_listRg1 rfl rfl B.list_ rfl B.range_ (dv 1))) (dfl_lcL (own := [("_law_who", 5)]) rfl sc_walked.nd (blkOk_by (own := [("_law_who", 5)]) (N := N_walked) (sc := defScope s_walked) (by decide +kernel)) (di_range1 rfl B.range_ (dv 1)) (fun _ _ _ _ _ => (dg 5 sc_walked.nd)) (fun _ _ _ _ _ => (depur (dv 5))) gin_name) dfl_dict)
      (dss_cons
      (ds_for PassesOwn.never rfl (di_range1 rfl B.range_ (de_if (db_cmp op_gt os_gt (DE.dv (dv 1)) (DE.dv de_int) (nomark _)) (de_callM 0 K_draw.G (hr.mono (by decide)) gd rfl K_draw.g K_draw.k K_draw.b .nil (fun _ => RIs.nil) pass0 (pv 0) (dapur (da_cons (de_op op_mul os_mul (DE.dv de_int) (DE.dv (dv 1))) da_nil))) de_int)) (dg 6 sc_walked.nd) (dss_cons
        (ds_set 7 sc_walked.nd (de_callM 0 K_draw.G (hr.mono (by decide)) gd rfl K_draw.g K_draw.k K_draw.b .nil (fun _ => RIs.nil) pass0 (pv 0) (dapur (da_cons (de_op op_sub os_sub (DE.dv (dv 1)) (DE.dv de_int)) da_nil))))
        (dss_cons
        (ds_parII (i := 8) (j := 9) rfl sc_walked.nd rfl rfl (by decide) rfl rfl rfl rfl rfl rfl (de_ix ix_seq os_idx (vv 2) (dv 7)) (de_ix ix_seq os_idx (vv 2) (de_op or_add os_add (DE.dv (dv 7)) (DE.dv de_int))))
        (dss_one
        (ds_if (DW.db (dw_and (db_cmp (op_eqB hr.units) os_eqB (DE.dv (de_get2 4 hr.units (pv 4) (dv 8) de_int)) (DE.dv de_int) (nomark _)) (dw_and1 (db_cmp (op_eqB hr.units) os_eqB (DE.dv (de_get2 4 hr.units (pv 4) (dv 9) (de_op op_sub os_sub (DE.dv de_int) (DE.dv de_int)))) (DE.dv (de_op op_sub os_sub (DE.dv de_int) (DE.dv de_int))) (nomark _))))) (dss_cons
          (ds_asg (de_tup (dapur (da_cons de_int (da_cons (de_op op_sub os_sub (DE.dv de_int) (DE.dv de_int)) da_nil)))) (dg_tup2 2 rfl rfl (dgs_cons (dg_put 4 hr.units (pv 4) (dv 8)) (dgs_cons (dg_put 4 hr.units (pv 4) (dv 9)) dgs_nil))))
          (dss_cons
          (ds_asg (de_tup (dapur (da_cons (dv 9) (da_cons (dv 8) da_nil)))) (dg_tup2 2 rfl rfl (dgs_cons (dg_sub 2 (pv 2) (dv 7)) (dgs_cons (dg_sub 2 (pv 2) (de_op or_add os_add (DE.dv (dv 7)) (DE.dv de_int))) dgs_nil))))
          (dss_cons
          (ds_appLL 3 (pv 3) (dv 7) (dv 9))
          (dss_one
          (ds_appLL 3 (pv 3) (de_op or_add os_add (DE.dv (dv 7)) (DE.dv de_int)) (dv 8)))))) dss_nil)))))
      (dss_one
      (ds_ret (dvl 3 (pv 3)))))), fun args Q' E' h => ?_⟩
  obtain ⟨a, cs, gs, n, k, m, rfl, hm0, hm1, R0, q⟩ := h
  refine ⟨⟨by omega, by omega⟩, fun b1 => ⟨⟨by omega, by omega⟩, by rw [rangeD_len, sizeLine_eq]; omega, fun d => d, fun i d hd => rfl, fun b2 b3 => ?_⟩⟩
  have eh : (rangeD 0 (m : Int)).map (fun d => [d]) = ((span m).map fun x => [x]).map fun l => l.map D.int := by rw [rangeD_span, List.map_map, List.map_map]; rfl
  rw [eh]
  have er : rangeD 0 (m : Int) = (span m).map D.int := rangeD_span m
  rw [er]
  refine ite_d (fun hm => ?_) (fun hm => ?_)
  · refine ⟨cm_l (by decide), a, cs, gs, n, 3 * (m : Int), k + 999, rfl, R0, by omega, by omega, fun N gs1 δ1 N0 N1 R1 hδ => outM_of hδ ⟨⟨by omega, by omega⟩, ?_⟩⟩
    refine ⟨fun i δ => ∃ (row : List Int) (held : List (List Int)) (ks : List Key) (ds : List D) (gs : List Int) (n : Int) (v5 v6 v7 v8 v9 : Option Sl),
        δ = [some (.o a (.rng cs gs n)), some (.i (.int (m : Nat))), some (.o b1 (.lst (row.map .int))), some (.o b2 (.ll (held.map fun l => l.map D.int))), some (.o b3 (.dK ks ds)), v5, v6, v7, v8, v9] ∧
        Wlk m row held (mvOf ks ds) ∧ AllI ds ∧ ks.length = ds.length ∧ ks.length ≤ 2 * i ∧ Rn cs gs n (k + 999 - i),
      ⟨span m, _, [], [], gs1, n + 1, _, _, _, _, _, rfl, Wlk.start m, (fun d hd => nomatch hd), rfl, Nat.le_refl _, R1⟩, ?_, ?_⟩
    · rintro i d δ2 hd ⟨row, held, ks, ds, gs, n, v5, v6, v7, v8, v9, rfl, hW, hai, hkd, hkl, R⟩
      obtain ⟨hi, rfl⟩ := rangeD_is hd
      have hrl : row.length = m := hW.rowlen
      refine ⟨a, cs, gs, n, (m : Int) - 1, k + 999 - (i + 1), rfl, R.mono (by omega), by omega, by omega, fun at_ gs' δ' a0 a1 R' hδ => outM_of hδ ?_⟩
      obtain ⟨j, rfl⟩ := Int.eq_ofNat_of_zero_le a0
      have h1 : j < row.length := by omega
      have h2 : j + 1 < row.length := by omega
      refine ⟨_, atI_intsN h1, _, atI_intsS h2, ?_⟩
      have keep : ∀ (v6 v7 v8 v9 : Option Sl), ∃ (row' : List Int) (held' : List (List Int)) (ks' : List Key) (ds' : List D) (gs2 : List Int) (n2 : Int) (w5 w6 w7 w8 w9 : Option Sl),
          ([some (.o a (.rng cs gs' (n + 1))), some (.i (.int (m : Nat))), some (.o b1 (.lst (row.map .int))), some (.o b2 (.ll (held.map fun l => l.map D.int))), some (.o b3 (.dK ks ds)), v5, v6, v7, v8, v9] : DEnv) = [some (.o a (.rng cs gs2 n2)), some (.i (.int (m : Nat))), some (.o b1 (.lst (row'.map .int))), some (.o b2 (.ll (held'.map fun l => l.map D.int))), some (.o b3 (.dK ks' ds')), w5, w6, w7, w8, w9] ∧
          Wlk m row' held' (mvOf ks' ds') ∧ AllI ds' ∧ ks'.length = ds'.length ∧ ks'.length ≤ 2 * (i + 1) ∧ Rn cs gs2 n2 (k + 999 - (i + 1)) := fun v6 v7 v8 v9 =>
        ⟨row, held, ks, ds, gs', n + 1, _, _, _, _, _, rfl, hW, hai, hkd, by omega, R'⟩
      obtain ⟨z1, e1⟩ := val_int (ks := ks) (k := .inl (row.getD j 0)) (w := 1) hai
      obtain ⟨z2, e2⟩ := val_int (ks := ks) (k := .inl (row.getD (j + 1) 0)) (w := 0 - 1) hai
      refine ⟨_, e1, rfl, rfl, ite_eqI (fun c1 => ⟨_, e2, rfl, rfl, ite_eqI (fun c2 => ?_) (fun _ => ?_)⟩) (fun _ => ite_f ?_)⟩
      · have hhl := hW.l
        have l1 : j < held.length := by omega
        have l2 : j + 1 < held.length := by omega
        obtain ⟨r1, g1⟩ : ∃ r, held[j]? = some r := ⟨_, List.getElem?_eq_getElem l1⟩
        obtain ⟨r2, g2⟩ : ∃ r, held[j + 1]? = some r := ⟨_, List.getElem?_eq_getElem l2⟩
        have b1' := hW.heldlen g1
        have b2' := hW.heldlen g2
        have pk1 := putKs_len (ks := ks) (k := .inl (row.getD j 0))
        have pk2 := putKs_len (ks := putKs ks (.inl (row.getD j 0))) (k := .inl (row.getD (j + 1) 0))
        have hl1 := put_len (k := .inl (row.getD j 0)) (d := .int 1) hkd
        have hl2 := put_len (k := .inl (row.getD (j + 1) 0)) (d := .int (0 - 1)) hl1
        refine ⟨rfl, by rw [sizeLine_eq]; omega, by rw [sizeLine_eq]; omega, rfl, ?_⟩
        refine ⟨rfl, _, by rw [List.length_map]; exact ixN_nat h1, _, by rw [List.length_set, List.length_map]; exact ixN_S h2, rfl, ?_⟩
        refine ⟨_, r1.map D.int, by rw [List.length_map]; exact ixN_nat l1, by rw [List.getElem?_map, g1]; rfl, by rw [List.length_map, sizeLine_eq]; omega, ?_⟩
        refine ⟨_, r2.map D.int, by rw [List.length_set, List.length_map]; exact ixN_S l2, by rw [List.getElem?_set_ne (by omega), List.getElem?_map, g2]; rfl, by rw [List.length_map, sizeLine_eq]; omega, ?_⟩
        have m1 : mvOf ks ds (row.getD j 0) ≠ -1 := by rcases mv_get e1 hai with z | ⟨z, _⟩ <;> omega
        have m2 : mvOf ks ds (row.getD (j + 1) 0) ≠ 1 := by rcases mv_get e2 hai with z | ⟨z, _⟩ <;> omega
        refine ⟨swp row j, (held.set j (r1 ++ [row.getD (j + 1) 0])).set (j + 1) (r2 ++ [row.getD j 0]), _, _, gs', n + 1, _, _, _, _, _, by unfold swp; rw [List.map_set, List.map_set, List.map_set, List.map_set, List.map_append, List.map_append]; rfl,
          hW.step (by omega) g1 g2 m1 m2 (fun x => by rw [mvOf_put hl1, mvOf_put hkd]; rfl), (hai.put (z := 1)).put (z := 0 - 1), hl2, by omega, R'⟩
      · exact keep _ _ _ _
      · exact keep _ _ _ _
    · rintro δ2 ⟨row, held, ks, ds, gs, n, v5, v6, v7, v8, v9, rfl, hW, hai, hkd, hkl, R⟩
      exact q row held _ gs n _ hW (R.mono (by rw [rangeD_len]; omega)) rfl
  · refine ⟨⟨by decide, by decide⟩, fun i δ => δ = [some (.o a (.rng cs gs n)), some (.i (.int (m : Nat))), some (.o b1 (.lst ((span m).map .int))), some (.o b2 (.ll (((span m).map fun x => [x]).map fun l => l.map D.int))), some (.o b3 (.dK [] [])), none, none, none, none, none],
      rfl, fun i d δ2 hd => ?_, ?_⟩
    · obtain ⟨hi, _⟩ := rangeD_is hd
      omega
    · rintro δ2 rfl
      exact q _ _ _ gs n _ (Wlk.start m) (R0.mono (by omega)) rfl
def kf_walked (B : Blt mg) (R : KR K mg "_law_walked" s_walked p_walked ko_walked) (K_draw : KF P w K mg base 2 "_law_draw" s_draw p_draw ko_draw sp_draw) : KF P w K mg base 3 "_law_walked" s_walked p_walked ko_walked sp_walked := { R with G := ok_walked B R K_draw }
theorem perm_ints {es : List D} {l : List Int} (h : es.Perm (l.map D.int)) : ∃ row : List Int, es = row.map D.int ∧ row.Perm l := by
  have hm := h.map intOf
  rw [List.map_map] at hm
  have e1 : l.map (intOf ∘ D.int) = l := by
    have : (intOf ∘ D.int) = id := rfl
    rw [this, List.map_id]
  rw [e1] at hm
  refine ⟨es.map intOf, ?_, hm⟩
  rw [List.map_map]
  have e2 : ∀ d ∈ es, (D.int ∘ intOf) d = d := fun d hd => by
    have := h.subset hd
    simp only [List.mem_map] at this
    obtain ⟨x, _, rfl⟩ := this
    rfl
  rw [List.map_congr_left e2, List.map_id']
def lastD : D → D
  | .lst l => l.getLast?.getD .non
  | _ => .non
theorem atI_last {pre : List D} {x : D} : atI (pre ++ [x]) (-1) = some x := by
  unfold atI ixN
  rw [if_neg (by decide), if_pos (by rw [List.length_append]; simp; omega)]
  show (pre ++ [x])[_]? = some x
  have : ((-1 : Int) + ((pre ++ [x]).length : Nat)).toNat = pre.length := by rw [List.length_append]; simp; omega
  rw [this]; simp
theorem LastOk.row {row : List Int} {held : List (List D)} (h : LastOk row held) : (held.map D.lst).map lastD = row.map D.int := by
  rw [List.map_map]
  apply List.ext_getElem?
  intro i
  rw [List.getElem?_map, List.getElem?_map]
  cases e : row[i]? with
  | none =>
    have : held[i]? = none := by
      rw [List.getElem?_eq_none_iff] at e ⊢
      rw [h.1]; exact e
    rw [this]; rfl
  | some x =>
    obtain ⟨pre, hp⟩ := h.2 i x e
    rw [hp]
    show some ((pre ++ [D.int x]).getLast?.getD .non) = some (D.int x)
    simp
theorem at_ints {l : List (List Int)} {i : Nat} {r : List Int} (h : l[i]? = some r) : atI ((l.map fun l => l.map D.int).map D.lst) (i : Int) = some (.lst (r.map D.int)) := atI_nat (by rw [List.getElem?_map, List.getElem?_map, h]; rfl)
end
end SW

set_option maxHeartbeats 4000000
namespace SW
open PySem PySem.Spec PyProof.Rows L2
section
variable {P : Program} {w : World} {K : PySem.W.Frag} {mg : Str → Option Value} {base : Heap}
abbrev s_is_integer : Stmt := top 6
abbrev N_is_integer : List Str := ["value"]
abbrev p_is_integer : List Str := ["value"]
abbrev ko_is_integer : List (List Str × List Nat) := []
theorem sc_is_integer : FnScope N_is_integer p_is_integer (defScope s_is_integer) := ⟨rfl, rfl, rfl, by decide +kernel, rfl, by decide +kernel, by decide +kernel⟩
def isInt : D → Bool
  | .int _ => true
  | _ => false
def sp_is_integer : DSp := fun args Q _ => ∃ d : D, args = [.i d] ∧ tyKnown d = true ∧ ∀ δ : DEnv, Q (.i (.bl (isInt d))) δ
theorem ok_is_integer (B : Blt mg) (R : KR K mg "is_integer" s_is_integer p_is_integer ko_is_integer) : FnG P w K mg base CX0 1 R.f R.fd p_is_integer (lift sp_is_integer) := by
  refine dfn R.F sc_is_integer (by intro args Q E h; first | (obtain ⟨_, rfl, _⟩ := h; rfl) | (obtain ⟨_, _, rfl, _⟩ := h; rfl) | (obtain ⟨_, _, _, rfl, _⟩ := h; rfl) | (obtain ⟨_, _, _, _, rfl, _⟩ := h; rfl) | (obtain ⟨_, _, _, _, _, rfl, _⟩ := h; rfl) | (obtain ⟨_, _, _, _, _, _, rfl, _⟩ := h; rfl) | (obtain ⟨_, _, _, _, _, _, _, rfl, _⟩ := h; rfl) | (obtain ⟨_, _, _, _, _, _, _, _, rfl, _⟩ := h; rfl) | (obtain ⟨_, _, _, _, _, _, _, _, _, rfl, _⟩ := h; rfl) | (obtain ⟨_, _, _, _, _, _, _, _, _, _, rfl, _⟩ := h; rfl) | (obtain ⟨_, _, _, _, _, _, _, _, _, _, _, rfl, _⟩ := h; rfl) | (obtain ⟨_, _, _, _, _, _, _, _, _, _, _, _, rfl, _⟩ := h; rfl) | (obtain ⟨_, _, _, _, _, _, _, _, _, _, _, _, _, rfl, _⟩ := h; rfl) | (obtain ⟨_, _, _, _, _, _, _, _, _, _, _, _, _, _, rfl, _⟩ := h; rfl) | (obtain ⟨_, _, _, _, _, _, _, _, _, _, _, _, _, _, _, rfl, _⟩ := h; rfl)) fun cdv A outer s H E gd hr => ⟨_, _, (dss_one
      (ds_ret (de_and (de_isi (T := "int") rfl B.isinstance_ rfl B.int_ (by decide +kernel) (by decide +kernel) (dv 0)) (de_one (de_not (de_isi (T := "bool") rfl B.isinstance_ rfl B.bool_ (by decide +kernel) (by decide +kernel) (dv 0))))))), fun args Q' E' h => ?_⟩
  obtain ⟨d, rfl, hk, q⟩ := h
  cases d with
  | int i => exact ⟨rfl, true, by simp [isB], ite_T rfl ⟨rfl, false, by simp [isB], q _⟩⟩
  | bl i => exact ⟨rfl, true, by simp [isB], ite_T rfl ⟨rfl, true, by simp [isB], q _⟩⟩
  | non => exact ⟨rfl, false, by simp [isB], ite_F rfl (q _)⟩
  | str i => exact ⟨rfl, false, by simp [isB], ite_F rfl (q _)⟩
  | lst i => exact ⟨rfl, false, by simp [isB], ite_F rfl (q _)⟩
  | tup i => exact ⟨rfl, false, by simp [isB], ite_F rfl (q _)⟩
  | dK _ _ => exact ⟨rfl, false, by simp [isB], ite_F rfl (q _)⟩
  | dT _ _ => cases hk
  | opq _ => cases hk
  | scr _ _ _ => cases hk
  | exc _ _ _ => cases hk
def kf_is_integer (B : Blt mg) (R : KR K mg "is_integer" s_is_integer p_is_integer ko_is_integer) : KF P w K mg base 1 "is_integer" s_is_integer p_is_integer ko_is_integer sp_is_integer := { R with G := ok_is_integer B R }
abbrev s_is_number_below : Stmt := top 7
abbrev N_is_number_below : List Str := ["value", "limit"]
abbrev p_is_number_below : List Str := ["value", "limit"]
abbrev ko_is_number_below : List (List Str × List Nat) := []
theorem sc_is_number_below : FnScope N_is_number_below p_is_number_below (defScope s_is_number_below) := ⟨rfl, rfl, rfl, by decide +kernel, rfl, by decide +kernel, by decide +kernel⟩
def sp_is_number_below : DSp := fun args Q _ => ∃ i l : Int, args = [.i (.int i), .i (.int l)] ∧ ∀ (b : Bool) (δ : DEnv), (b = true ↔ 0 ≤ i ∧ i < l) → Q (.i (.bl b)) δ
theorem ok_is_number_below (B : Blt mg) (R : KR K mg "is_number_below" s_is_number_below p_is_number_below ko_is_number_below) (K_is_integer : KF P w K mg base 1 "is_integer" s_is_integer p_is_integer ko_is_integer sp_is_integer) : FnG P w K mg base CX0 2 R.f R.fd p_is_number_below (lift sp_is_number_below) := by
  refine dfn R.F sc_is_number_below (by intro args Q E h; first | (obtain ⟨_, rfl, _⟩ := h; rfl) | (obtain ⟨_, _, rfl, _⟩ := h; rfl) | (obtain ⟨_, _, _, rfl, _⟩ := h; rfl) | (obtain ⟨_, _, _, _, rfl, _⟩ := h; rfl) | (obtain ⟨_, _, _, _, _, rfl, _⟩ := h; rfl) | (obtain ⟨_, _, _, _, _, _, rfl, _⟩ := h; rfl) | (obtain ⟨_, _, _, _, _, _, _, rfl, _⟩ := h; rfl) | (obtain ⟨_, _, _, _, _, _, _, _, rfl, _⟩ := h; rfl) | (obtain ⟨_, _, _, _, _, _, _, _, _, rfl, _⟩ := h; rfl) | (obtain ⟨_, _, _, _, _, _, _, _, _, _, rfl, _⟩ := h; rfl) | (obtain ⟨_, _, _, _, _, _, _, _, _, _, _, rfl, _⟩ := h; rfl) | (obtain ⟨_, _, _, _, _, _, _, _, _, _, _, _, rfl, _⟩ := h; rfl) | (obtain ⟨_, _, _, _, _, _, _, _, _, _, _, _, _, rfl, _⟩ := h; rfl) | (obtain ⟨_, _, _, _, _, _, _, _, _, _, _, _, _, _, rfl, _⟩ := h; rfl) | (obtain ⟨_, _, _, _, _, _, _, _, _, _, _, _, _, _, _, rfl, _⟩ := h; rfl)) fun cdv A outer s H E gd hr => ⟨_, _, (dss_one
      (ds_ret (de_and (de_call K_is_integer.G (hr.mono (by decide)) gd rfl K_is_integer.g K_is_integer.k K_is_integer.b .nil (fun _ => RIs.nil) pass0 (dapur (da_cons (dv 0) da_nil))) (de_one (de_chain op_le op_lt os_le os_lt de_int (dv 0) (dv 1)))))), fun args Q' E' h => ?_⟩
  obtain ⟨i, l, rfl, q⟩ := h
  refine ⟨.int i, rfl, rfl, fun δ => ?_⟩
  refine ite_d (fun h1 => ?_) (fun h1 => ?_)
  · exact q _ _ (by simp; omega)
  · exact q _ _ (by simp; omega)
def kf_is_number_below (B : Blt mg) (R : KR K mg "is_number_below" s_is_number_below p_is_number_below ko_is_number_below) (K_is_integer : KF P w K mg base 1 "is_integer" s_is_integer p_is_integer ko_is_integer sp_is_integer) : KF P w K mg base 2 "is_number_below" s_is_number_below p_is_number_below ko_is_number_below sp_is_number_below := { R with G := ok_is_number_below B R K_is_integer }
abbrev s_check_arrangement : Stmt := top 9
abbrev N_check_arrangement : List Str := ["value", "position", "item"]
abbrev p_check_arrangement : List Str := ["value"]
abbrev ko_check_arrangement : List (List Str × List Nat) := []
theorem sc_check_arrangement : FnScope N_check_arrangement p_check_arrangement (defScope s_check_arrangement) := ⟨rfl, rfl, rfl, by decide +kernel, rfl, by decide +kernel, by decide +kernel⟩
def sp_check_arrangement : DSp := fun args Q _ => ∃ (row : List Int) (m : Nat), args = [.i (.tup (row.map .int))] ∧ Row row m ∧ ∀ δ : DEnv, Q (.i .non) δ
theorem ok_check_arrangement (B : Blt mg) (R : KR K mg "check_arrangement" s_check_arrangement p_check_arrangement ko_check_arrangement) (K_is_number_below : KF P w K mg base 2 "is_number_below" s_is_number_below p_is_number_below ko_is_number_below sp_is_number_below) : FnG P w K mg base CX0 3 R.f R.fd p_check_arrangement (lift sp_check_arrangement) := by
  obtain ⟨t_MAX_PEOPLE, hc_MAX_PEOPLE⟩ := B.x_MAX_PEOPLE
  refine dfn R.F sc_check_arrangement (by intro args Q E h; first | (obtain ⟨_, rfl, _⟩ := h; rfl) | (obtain ⟨_, _, rfl, _⟩ := h; rfl) | (obtain ⟨_, _, _, rfl, _⟩ := h; rfl) | (obtain ⟨_, _, _, _, rfl, _⟩ := h; rfl) | (obtain ⟨_, _, _, _, _, rfl, _⟩ := h; rfl) | (obtain ⟨_, _, _, _, _, _, rfl, _⟩ := h; rfl) | (obtain ⟨_, _, _, _, _, _, _, rfl, _⟩ := h; rfl) | (obtain ⟨_, _, _, _, _, _, _, _, rfl, _⟩ := h; rfl) | (obtain ⟨_, _, _, _, _, _, _, _, _, rfl, _⟩ := h; rfl) | (obtain ⟨_, _, _, _, _, _, _, _, _, _, rfl, _⟩ := h; rfl) | (obtain ⟨_, _, _, _, _, _, _, _, _, _, _, rfl, _⟩ := h; rfl) | (obtain ⟨_, _, _, _, _, _, _, _, _, _, _, _, rfl, _⟩ := h; rfl) | (obtain ⟨_, _, _, _, _, _, _, _, _, _, _, _, _, rfl, _⟩ := h; rfl) | (obtain ⟨_, _, _, _, _, _, _, _, _, _, _, _, _, _, rfl, _⟩ := h; rfl) | (obtain ⟨_, _, _, _, _, _, _, _, _, _, _, _, _, _, _, rfl, _⟩ := h; rfl)) fun cdv A outer s H E gd hr => ⟨_, _, (dss_cons
      (ds_if (DW.db (dw_or (db_not (db_val (de_isi (T := "tuple") rfl B.isinstance_ rfl B.tuple_ (by decide +kernel) (by decide +kernel) (dv 0)))) (dw_or1 (db_not (db_chain op_le op_le os_le os_le de_int (de_B1 call_len c1_len rfl B.len_ boot_len (DE.dv (dv 0))) (de_globI rfl hc_MAX_PEOPLE ⟨_, rfl⟩)))))) (dss_one
        ds_never) dss_nil)
      (dss_one
      (ds_for PassesOwn.never rfl (di_enum rfl B.enumerate_ (dv 0)) (dg_tup2 2 rfl rfl (dgs_cons (dg 1 sc_check_arrangement.nd) (dgs_cons (dg 2 sc_check_arrangement.nd) dgs_nil))) (dss_one
        (ds_if (DW.db (dw_or (db_not (db_val (de_call K_is_number_below.G (hr.mono (by decide)) gd rfl K_is_number_below.g K_is_number_below.k K_is_number_below.b .nil (fun _ => RIs.nil) pass0 (dapur (da_cons (dv 2) (da_cons (de_B1 call_len c1_len rfl B.len_ boot_len (DE.dv (dv 0))) da_nil)))))) (dw_or1 (db_cmp op_in_seq os_in (DE.dv (dv 2)) (DE.dv (de_sl (DE.dv (dv 0)) do_none (do_some (dv 1)))) rfl)))) (dss_one
          ds_never) dss_nil))))), fun args Q' E' h => ?_⟩
  obtain ⟨row, m, rfl, hr, q⟩ := h
  have hl := hr.len
  have m0 := hr.m0
  have m1 := hr.m1
  refine ⟨rfl, true, by simp [isB], ite_F rfl (ite_d (fun h1 => ite_nd (fun h2 => ?_) (fun h2 => ?_)) (fun h1 => ?_))⟩
  · refine ⟨fun i δ => ∃ v1 v2 : Option Sl, δ = [some (.i (.tup (row.map .int))), v1, v2], ⟨_, _, rfl⟩, ?_, ?_⟩
    · rintro i d δ2 hd ⟨v1, v2, rfl⟩
      obtain ⟨x, hx, rfl⟩ := enumD_is hd
      obtain ⟨c, hc, rfl⟩ := seq_is hx
      have hb := hr.at_mem hc
      have hi : i < row.length := (List.getElem?_eq_some_iff.mp hc).1
      refine ⟨rfl, rfl, c, _, rfl, fun b δ' hb2 => ?_⟩
      have eb : b = true := hb2.mpr ⟨hb.1, by rw [List.length_map]; omega⟩
      subst eb
      refine ⟨row.take i, by rw [cutL_to (by rw [List.length_map]; omega), List.map_take], ?_⟩
      refine ite_d (fun h => ?_) (fun h => ⟨_, _, rfl⟩)
      obtain ⟨j, hj, ej⟩ := List.getElem_of_mem h
      rw [List.length_take] at hj
      rw [List.getElem_take] at ej
      have := hr.inj hc (List.getElem?_eq_some_iff.mpr ⟨by omega, ej⟩)
      omega
    · rintro δ2 ⟨v1, v2, rfl⟩
      exact q _
  · exact absurd (by rw [List.length_map]; omega) h2
  · exact absurd (by rw [List.length_map]; omega) h1
def kf_check_arrangement (B : Blt mg) (R : KR K mg "check_arrangement" s_check_arrangement p_check_arrangement ko_check_arrangement) (K_is_number_below : KF P w K mg base 2 "is_number_below" s_is_number_below p_is_number_below ko_is_number_below sp_is_number_below) : KF P w K mg base 3 "check_arrangement" s_check_arrangement p_check_arrangement ko_check_arrangement sp_check_arrangement := { R with G := ok_check_arrangement B R K_is_number_below }
abbrev s_goals_of : Stmt := top 10
abbrev N_goals_of : List Str := ["arrangement", "found", "person", "item"]
abbrev p_goals_of : List Str := ["arrangement"]
abbrev ko_goals_of : List (List Str × List Nat) := []
theorem sc_goals_of : FnScope N_goals_of p_goals_of (defScope s_goals_of) := ⟨rfl, rfl, rfl, by decide +kernel, rfl, by decide +kernel, by decide +kernel⟩
def sp_goals_of : DSp := fun args Q _ => ∃ (row : List Int) (m : Nat), args = [.i (.tup (row.map .int))] ∧ Row row m ∧ ∀ δ : DEnv, Q (.i (.tup ((endsOf row).map .int))) δ
theorem ok_goals_of (B : Blt mg) (R : KR K mg "goals_of" s_goals_of p_goals_of ko_goals_of) : FnG P w K mg base CX0 1 R.f R.fd p_goals_of (lift sp_goals_of) := by
  refine dfn R.F sc_goals_of (by intro args Q E h; first | (obtain ⟨_, rfl, _⟩ := h; rfl) | (obtain ⟨_, _, rfl, _⟩ := h; rfl) | (obtain ⟨_, _, _, rfl, _⟩ := h; rfl) | (obtain ⟨_, _, _, _, rfl, _⟩ := h; rfl) | (obtain ⟨_, _, _, _, _, rfl, _⟩ := h; rfl) | (obtain ⟨_, _, _, _, _, _, rfl, _⟩ := h; rfl) | (obtain ⟨_, _, _, _, _, _, _, rfl, _⟩ := h; rfl) | (obtain ⟨_, _, _, _, _, _, _, _, rfl, _⟩ := h; rfl) | (obtain ⟨_, _, _, _, _, _, _, _, _, rfl, _⟩ := h; rfl) | (obtain ⟨_, _, _, _, _, _, _, _, _, _, rfl, _⟩ := h; rfl) | (obtain ⟨_, _, _, _, _, _, _, _, _, _, _, rfl, _⟩ := h; rfl) | (obtain ⟨_, _, _, _, _, _, _, _, _, _, _, _, rfl, _⟩ := h; rfl) | (obtain ⟨_, _, _, _, _, _, _, _, _, _, _, _, _, rfl, _⟩ := h; rfl) | (obtain ⟨_, _, _, _, _, _, _, _, _, _, _, _, _, _, rfl, _⟩ := h; rfl) | (obtain ⟨_, _, _, _, _, _, _, _, _, _, _, _, _, _, _, rfl, _⟩ := h; rfl)) fun cdv A outer s H E gd hr => ⟨_, _, (dss_cons
      (ds_setF 1 sc_goals_of.nd (df_rep (df_lst (dapur (da_cons de_int da_nil))) (de_B1 call_len c1_len rfl B.len_ boot_len (DE.dv (dv 0)))))
      (dss_cons
      (ds_for PassesOwn.never rfl (di_enum rfl B.enumerate_ (dv 0)) (dg_tup2 2 rfl rfl (dgs_cons (dg 2 sc_goals_of.nd) (dgs_cons (dg 3 sc_goals_of.nd) dgs_nil))) (dss_one
        (ds_asg (dv 2) (dg_sub 1 (pv 1) (dv 3)))))
      (dss_one
      (ds_ret (de_T1 call_tupleX c1_tuple rfl B.tuple_ (by decide +kernel) (vv 1)))))), fun args Q' E' h => ?_⟩
  obtain ⟨row, m, rfl, hr, q⟩ := h
  have hl := hr.len
  have m1 := hr.m1
  refine fun b0 => ⟨⟨by rw [List.length_map]; omega, by rw [List.length_map]; omega, by rw [List.length_map, sizeLine_eq]; simp; omega⟩, fun c => ?_⟩
  refine ⟨fun i δ => ∃ (found : List Int) (v2 v3 : Option Sl), δ = [some (.i (.tup (row.map .int))), some (.o c (.lst (found.map .int))), v2, v3] ∧ found.length = m ∧ ∀ (j : Nat) (x : Int), j < i → row[j]? = some x → found[x.toNat]? = some (j : Int),
    ⟨List.replicate m 0, _, _, by rw [rep_ints, List.length_map, hl]; rfl, by simp, fun j x hj => by omega⟩, ?_, ?_⟩
  · rintro i d δ2 hd ⟨found, v2, v3, rfl, hfl, hf⟩
    obtain ⟨y, hy, rfl⟩ := enumD_is hd
    obtain ⟨x, hx, rfl⟩ := seq_is hy
    have hb := hr.at_mem hx
    refine ⟨rfl, rfl, _, by rw [List.length_map]; exact ixN_of hb.1 (by omega), ?_⟩
    refine ⟨found.set x.toNat i, _, _, by rw [List.map_set]; rfl, by rw [List.length_set]; exact hfl, fun j z hj hz => ?_⟩
    by_cases e : j = i
    · subst e
      rw [hx] at hz; cases hz
      rw [List.getElem?_set_self (by omega)]
    · have hz2 := hr.at_mem hz
      have hne : x.toNat ≠ z.toNat := fun ee => by
        have : x = z := by omega
        subst this
        exact e (hr.inj hz hx)
      rw [List.getElem?_set_ne hne]
      exact hf j z (by omega) hz
  · rintro δ2 ⟨found, v2, v3, rfl, hfl, hf⟩
    have e : found = endsOf row := hr.ends hfl fun j x hx => hf j x (by rw [enumFrom_len, List.length_map]; exact (List.getElem?_eq_some_iff.mp hx).1) hx
    subst e
    exact q _
def kf_goals_of (B : Blt mg) (R : KR K mg "goals_of" s_goals_of p_goals_of ko_goals_of) : KF P w K mg base 1 "goals_of" s_goals_of p_goals_of ko_goals_of sp_goals_of := { R with G := ok_goals_of B R }
end
end SW

set_option maxHeartbeats 4000000
namespace SW
open PySem PySem.Spec PyProof.Rows L2
section
variable {P : Program} {w : World} {K : PySem.W.Frag} {mg : Str → Option Value} {base : Heap}
abbrev s_inversions_of : Stmt := top 11
abbrev N_inversions_of : List Str := ["arrangement", "ends", "size", "x", "z"]
abbrev p_inversions_of : List Str := ["arrangement"]
abbrev ko_inversions_of : List (List Str × List Nat) := []
theorem sc_inversions_of : FnScope N_inversions_of p_inversions_of (defScope s_inversions_of) := ⟨rfl, rfl, rfl, by decide +kernel, rfl, by decide +kernel, by decide +kernel⟩
def sp_inversions_of : DSp := fun args Q _ => ∃ (row : List Int) (m : Nat), args = [.i (.tup (row.map .int))] ∧ Row row m ∧ ∀ δ : DEnv, Q (.i (.tup (pairsOf (endsOf row)))) δ
theorem ok_inversions_of (B : Blt mg) (R : KR K mg "inversions_of" s_inversions_of p_inversions_of ko_inversions_of) (K_goals_of : KF P w K mg base 1 "goals_of" s_goals_of p_goals_of ko_goals_of sp_goals_of) : FnG P w K mg base CX0 2 R.f R.fd p_inversions_of (lift sp_inversions_of) := by
  refine dfn R.F sc_inversions_of (by intro args Q E h; first | (obtain ⟨_, rfl, _⟩ := h; rfl) | (obtain ⟨_, _, rfl, _⟩ := h; rfl) | (obtain ⟨_, _, _, rfl, _⟩ := h; rfl) | (obtain ⟨_, _, _, _, rfl, _⟩ := h; rfl) | (obtain ⟨_, _, _, _, _, rfl, _⟩ := h; rfl) | (obtain ⟨_, _, _, _, _, _, rfl, _⟩ := h; rfl) | (obtain ⟨_, _, _, _, _, _, _, rfl, _⟩ := h; rfl) | (obtain ⟨_, _, _, _, _, _, _, _, rfl, _⟩ := h; rfl) | (obtain ⟨_, _, _, _, _, _, _, _, _, rfl, _⟩ := h; rfl) | (obtain ⟨_, _, _, _, _, _, _, _, _, _, rfl, _⟩ := h; rfl) | (obtain ⟨_, _, _, _, _, _, _, _, _, _, _, rfl, _⟩ := h; rfl) | (obtain ⟨_, _, _, _, _, _, _, _, _, _, _, _, rfl, _⟩ := h; rfl) | (obtain ⟨_, _, _, _, _, _, _, _, _, _, _, _, _, rfl, _⟩ := h; rfl) | (obtain ⟨_, _, _, _, _, _, _, _, _, _, _, _, _, _, rfl, _⟩ := h; rfl) | (obtain ⟨_, _, _, _, _, _, _, _, _, _, _, _, _, _, _, rfl, _⟩ := h; rfl)) fun cdv A outer s H E gd hr => ⟨_, _, (dss_cons
      (ds_set 1 sc_inversions_of.nd (de_call K_goals_of.G (hr.mono (by decide)) gd rfl K_goals_of.g K_goals_of.k K_goals_of.b .nil (fun _ => RIs.nil) pass0 (dapur (da_cons (dv 0) da_nil))))
      (dss_cons
      (ds_set 2 sc_inversions_of.nd (de_B1 call_len c1_len rfl B.len_ boot_len (DE.dv (dv 1))))
      (dss_one
      (ds_ret (de_T1 call_tupleX c1_tuple rfl B.tuple_ (by decide +kernel) (DE.dv (DF.de (dfpur (df_lc2 (own := [("x", 3), ("z", 4)]) (vs1 := [4]) rfl sc_inversions_of.nd (blkOk_by (own := [("x", 3), ("z", 4)]) (N := N_inversions_of) (sc := defScope s_inversions_of) (by decide +kernel)) (by decide) (di_range1 rfl B.range_ (dv 2)) (fun _ _ _ _ _ => (dg 3 sc_inversions_of.nd)) (fun _ _ _ _ _ => dts_nil) (fun _ _ _ _ _ => (dipur (di_range2 rfl B.range_ (de_op or_add os_add (DE.dv (dv 3)) (DE.dv de_int)) (dv 2)))) (fun _ _ _ _ _ => (dg 4 sc_inversions_of.nd)) (fun _ _ _ _ _ => (dtpur (dts_one (db_cmp op_gt os_gt (DE.dv (de_ix ix_seq os_idx (DE.dv (dv 1)) (dv 3))) (DE.dv (de_ix ix_seq os_idx (DE.dv (dv 1)) (dv 4))) (nomark _))))) (fun _ _ _ _ _ => (depur (de_tup (dapur (da_cons (dv 3) (da_cons (dv 4) da_nil)))))) gin_name gin_name))))))))), fun args Q' E' h => ?_⟩
  obtain ⟨row, m, rfl, hr, q⟩ := h
  have hE : (endsOf row).length = m := by rw [endsOf_len, hr.len]
  have m1 := hr.m1
  refine ⟨row, m, rfl, hr, fun _ => ?_⟩
  have el : ((List.map D.int (endsOf row)).length : Int) = ((endsOf row).length : Nat) := by rw [List.length_map]
  refine ⟨⟨by omega, by omega⟩, 40, pairsRow (endsOf row), by rw [rangeD_len, sizeLine_eq]; omega, fun i d hd => ?_, fun a => ?_⟩
  · obtain ⟨hi, rfl⟩ := rangeD_is hd
    rw [el, hE] at hi
    refine ⟨⟨by omega, by omega, by omega, by omega⟩, by rw [rangeD_len]; omega, pairF (endsOf row) (0 + (i : Nat)), fun j c hc => ?_, ?_⟩
    · obtain ⟨hj, rfl⟩ := rangeD_is hc
      rw [el, hE] at hj
      refine ⟨_, atI_ints (by omega) (by omega), _, atI_ints (by omega) (by omega), ite_d (fun h => ?_) (fun h => ?_)⟩
      · show (if _ < _ then _ else _) = _
        rw [if_pos h]
      · show (if _ < _ then _ else _) = _
        rw [if_neg h]
    · rw [el]; rfl
  · rw [el]; exact q _
def kf_inversions_of (B : Blt mg) (R : KR K mg "inversions_of" s_inversions_of p_inversions_of ko_inversions_of) (K_goals_of : KF P w K mg base 1 "goals_of" s_goals_of p_goals_of ko_goals_of sp_goals_of) : KF P w K mg base 2 "inversions_of" s_inversions_of p_inversions_of ko_inversions_of sp_inversions_of := { R with G := ok_inversions_of B R K_goals_of }
theorem pairF_yes {E : List Int} {x z : Int} (h : E.getD z.toNat 0 < E.getD x.toNat 0) : pairF E x (.int z) = some (.tup [.int x, .int z]) := if_pos h
theorem pairF_no {E : List Int} {x z : Int} (h : ¬ E.getD z.toNat 0 < E.getD x.toNat 0) : pairF E x (.int z) = none := if_neg h
theorem nextF_yes {E : List Int} {x z : Int} (h : E.getD z.toNat 0 < E.getD x.toNat 0) : nextF E x (.int z) = some (.int z) := if_pos h
theorem nextF_no {E : List Int} {x z : Int} (h : ¬ E.getD z.toNat 0 < E.getD x.toNat 0) : nextF E x (.int z) = none := if_neg h
theorem trip_at {E : List Int} {x y : Int} {z : D} (h : (nexts E y).head? = some z) : tripH E (.tup [.int x, .int y]) = some (.tup [.int x, .int y, z]) := by
  show (nexts E y).head?.map _ = _
  rw [h]; rfl
theorem trip_no {E : List Int} {x y : Int} (h : (nexts E y).head? = none) : tripH E (.tup [.int x, .int y]) = none := by
  show (nexts E y).head?.map _ = _
  rw [h]; rfl
abbrev s_least_triple : Stmt := top 12
abbrev N_least_triple : List Str := ["arrangement", "ends", "pairs", "x", "y", "z"]
abbrev p_least_triple : List Str := ["arrangement"]
abbrev ko_least_triple : List (List Str × List Nat) := []
theorem sc_least_triple : FnScope N_least_triple p_least_triple (defScope s_least_triple) := ⟨rfl, rfl, rfl, by decide +kernel, rfl, by decide +kernel, by decide +kernel⟩
def sp_least_triple : DSp := fun args Q _ => ∃ (row : List Int) (m : Nat), args = [.i (.tup (row.map .int))] ∧ Row row m ∧ ∀ δ : DEnv, Q (.i (tripOf (endsOf row))) δ
theorem ok_least_triple (B : Blt mg) (R : KR K mg "least_triple" s_least_triple p_least_triple ko_least_triple) (K_goals_of : KF P w K mg base 1 "goals_of" s_goals_of p_goals_of ko_goals_of sp_goals_of) (K_inversions_of : KF P w K mg base 2 "inversions_of" s_inversions_of p_inversions_of ko_inversions_of sp_inversions_of) : FnG P w K mg base CX0 3 R.f R.fd p_least_triple (lift sp_least_triple) := by
  refine dfn R.F sc_least_triple (by intro args Q E h; first | (obtain ⟨_, rfl, _⟩ := h; rfl) | (obtain ⟨_, _, rfl, _⟩ := h; rfl) | (obtain ⟨_, _, _, rfl, _⟩ := h; rfl) | (obtain ⟨_, _, _, _, rfl, _⟩ := h; rfl) | (obtain ⟨_, _, _, _, _, rfl, _⟩ := h; rfl) | (obtain ⟨_, _, _, _, _, _, rfl, _⟩ := h; rfl) | (obtain ⟨_, _, _, _, _, _, _, rfl, _⟩ := h; rfl) | (obtain ⟨_, _, _, _, _, _, _, _, rfl, _⟩ := h; rfl) | (obtain ⟨_, _, _, _, _, _, _, _, _, rfl, _⟩ := h; rfl) | (obtain ⟨_, _, _, _, _, _, _, _, _, _, rfl, _⟩ := h; rfl) | (obtain ⟨_, _, _, _, _, _, _, _, _, _, _, rfl, _⟩ := h; rfl) | (obtain ⟨_, _, _, _, _, _, _, _, _, _, _, _, rfl, _⟩ := h; rfl) | (obtain ⟨_, _, _, _, _, _, _, _, _, _, _, _, _, rfl, _⟩ := h; rfl) | (obtain ⟨_, _, _, _, _, _, _, _, _, _, _, _, _, _, rfl, _⟩ := h; rfl) | (obtain ⟨_, _, _, _, _, _, _, _, _, _, _, _, _, _, _, rfl, _⟩ := h; rfl)) fun cdv A outer s H E gd hr => ⟨_, _, (dss_cons
      (ds_set 1 sc_least_triple.nd (de_call K_goals_of.G (hr.mono (by decide)) gd rfl K_goals_of.g K_goals_of.k K_goals_of.b .nil (fun _ => RIs.nil) pass0 (dapur (da_cons (dv 0) da_nil))))
      (dss_cons
      (ds_set 2 sc_least_triple.nd (de_call K_inversions_of.G (hr.mono (by decide)) gd rfl K_inversions_of.g K_inversions_of.k K_inversions_of.b .nil (fun _ => RIs.nil) pass0 (dapur (da_cons (dv 0) da_nil))))
      (dss_cons
      (ds_for PassesOwn.never rfl (di_seq (dv 2)) (dg_tup2 2 rfl rfl (dgs_cons (dg 3 sc_least_triple.nd) (dgs_cons (dg 4 sc_least_triple.nd) dgs_nil))) (dss_one
        (ds_for PassesOwn.never rfl (di_range2 rfl B.range_ (de_op or_add os_add (DE.dv (dv 4)) (DE.dv de_int)) (de_B1 call_len c1_len rfl B.len_ boot_len (DE.dv (dv 1)))) (dg 5 sc_least_triple.nd) (dss_one
          (ds_if (db_cmp op_gt os_gt (DE.dv (de_ix ix_seq os_idx (DE.dv (dv 1)) (dv 4))) (DE.dv (de_ix ix_seq os_idx (DE.dv (dv 1)) (dv 5))) (nomark _)) (dss_one
            (ds_ret (de_tup (dapur (da_cons (dv 3) (da_cons (dv 4) (da_cons (dv 5) da_nil))))))) dss_nil)))))
      (dss_one
      (ds_ret de_non))))), fun args Q' E' h => ?_⟩
  obtain ⟨row, m, rfl, hr, q⟩ := h
  have hE : (endsOf row).length = m := by rw [endsOf_len, hr.len]
  have m1 := hr.m1
  refine ⟨row, m, rfl, hr, fun _ => ⟨row, m, rfl, hr, fun _ => ?_⟩⟩
  have el : ((List.map D.int (endsOf row)).length : Int) = ((endsOf row).length : Nat) := by rw [List.length_map]
  refine ⟨fun i δ => ∃ v3 v4 v5 : Option Sl, δ = [some (.i (.tup (row.map .int))), some (.i (.tup ((endsOf row).map .int))), some (.i (.tup (pairsOf (endsOf row)))), v3, v4, v5] ∧ ((pairsOf (endsOf row)).take i).findSome? (tripH (endsOf row)) = none,
    ⟨_, _, _, rfl, rfl⟩, ?_, ?_⟩
  · rintro i d δ2 hd ⟨v3, v4, v5, rfl, hf⟩
    obtain ⟨x, y, rfl, x0, xy, yl, hlt⟩ := pairs_is (List.mem_of_getElem? hd)
    refine ⟨rfl, rfl, ⟨by omega, by omega, by omega, by omega⟩, fun j δ => ∃ v5 : Option Sl, δ = [some (.i (.tup (row.map .int))), some (.i (.tup ((endsOf row).map .int))), some (.i (.tup (pairsOf (endsOf row)))), some (.i (.int x)), some (.i (.int y)), v5] ∧ ((rangeD (y + 1) ((endsOf row).length : Nat)).take j).findSome? (nextF (endsOf row) y) = none,
      ⟨_, rfl, rfl⟩, ?_, ?_⟩
    · rintro j c δ2 hc ⟨v5, rfl, hg⟩
      rw [el] at hc
      obtain ⟨hj, rfl⟩ := rangeD_is hc
      refine ⟨_, atI_ints (by omega) (by omega), _, atI_ints (by omega) (by omega), ite_d (fun h => ?_) (fun h => ?_)⟩
      · have e1 := trip_at (x := x) (by rw [nexts_head]; exact find_at hg hc (nextF_yes h))
        have e2 : tripOf (endsOf row) = .tup [.int x, .int y, .int (y + 1 + (j : Nat))] := by unfold tripOf; rw [find_at hf hd e1]; rfl
        have := q
        rw [e2] at this
        exact this _
      · exact ⟨_, rfl, find_next hg hc (nextF_no h)⟩
    · rintro δ2 ⟨v5, rfl, hg⟩
      rw [el, List.take_length] at hg
      exact ⟨_, _, _, rfl, find_next hf hd (trip_no (by rw [nexts_head]; exact hg))⟩
  · rintro δ2 ⟨v3, v4, v5, rfl, hf⟩
    rw [List.take_length] at hf
    have e2 : tripOf (endsOf row) = .non := by unfold tripOf; rw [hf]; rfl
    have := q
    rw [e2] at this
    exact this _
def kf_least_triple (B : Blt mg) (R : KR K mg "least_triple" s_least_triple p_least_triple ko_least_triple) (K_goals_of : KF P w K mg base 1 "goals_of" s_goals_of p_goals_of ko_goals_of sp_goals_of) (K_inversions_of : KF P w K mg base 2 "inversions_of" s_inversions_of p_inversions_of ko_inversions_of sp_inversions_of) : KF P w K mg base 3 "least_triple" s_least_triple p_least_triple ko_least_triple sp_least_triple := { R with G := ok_least_triple B R K_goals_of K_inversions_of }
end
end SW

set_option maxHeartbeats 4000000
namespace SW
open PySem PySem.Spec PyProof.Rows L2
section
variable {P : Program} {w : World} {K : PySem.W.Frag} {mg : Str → Option Value} {base : Heap}
abbrev sc1_swap_list : Scope := { kind := ScopeKind.function, names := [(".0", NameKind.local), ("x", NameKind.cell), ("z", NameKind.cell), ("len", NameKind.globalImplicit), ("left", NameKind.cell)], isGenerator := false, isCoroutine := false }
theorem tbl_at {rk : List (List Int)} {m p : Nat} (h : Rk rk m) (hp : p < m) : ∃ r, rk[p]? = some r ∧ (rk.map tblD)[p]? = some (tblD r) ∧ Row r m ∧ ∀ x, rkAt rk p x = r.idxOf x := by
  obtain ⟨r, e, g⟩ := h.get hp
  exact ⟨r, e, by rw [List.getElem?_map, e]; rfl, h.at e, fun x => by unfold rkAt; rw [g]⟩
def mvF (p : Int → Int → Bool) : D → Option D
  | .tup [.int i, .int g] => if p i g = true then some (.int i) else none
  | _ => none
theorem mv_left (E : List Int) : (enumD (E.map D.int)).filterMap (mvF fun i g => decide (g < i)) = (ltI E).map D.int := by
  rw [enum_range (G := selF fun t => decide (E.getD t.toNat 0 < t)) (fun i x hx => ?_), rangeD_span, sel_span]; rfl
  show (if decide (x < (i : Int)) = true then _ else _) = if decide (E.getD ((i : Int)).toNat 0 < (i : Int)) = true then _ else _
  rw [Int.toNat_natCast, List.getD_eq_getElem?_getD, hx]; rfl
abbrev s_swap_list : Stmt := top 13
abbrev N_swap_list : List Str := ["arrangement", "ends", "left", "item", "goal", "x", "z", "y"]
abbrev p_swap_list : List Str := ["arrangement"]
abbrev ko_swap_list : List (List Str × List Nat) := []
theorem sc_swap_list : FnScope N_swap_list p_swap_list (defScope s_swap_list) := ⟨rfl, rfl, rfl, by decide +kernel, rfl, by decide +kernel, by decide +kernel⟩
def sp_swap_list : DSp := fun args Q _ => ∃ (row : List Int) (m : Nat), args = [.i (rowD row)] ∧ Row row m ∧ ∀ δ : DEnv, Q (.i (.tup (swL (endsOf row)))) δ
theorem ok_swap_list (B : Blt mg) (R : KR K mg "swap_list" s_swap_list p_swap_list ko_swap_list) (K_goals_of : KF P w K mg base 1 "goals_of" s_goals_of p_goals_of ko_goals_of sp_goals_of) (K_inversions_of : KF P w K mg base 2 "inversions_of" s_inversions_of p_inversions_of ko_inversions_of sp_inversions_of) : FnG P w K mg base CX0 3 R.f R.fd p_swap_list (lift sp_swap_list) := by
  refine dfn R.F sc_swap_list (by intro args Q E h; first | (obtain ⟨_, rfl, _⟩ := h; rfl) | (obtain ⟨_, _, rfl, _⟩ := h; rfl) | (obtain ⟨_, _, _, rfl, _⟩ := h; rfl) | (obtain ⟨_, _, _, _, rfl, _⟩ := h; rfl) | (obtain ⟨_, _, _, _, _, rfl, _⟩ := h; rfl) | (obtain ⟨_, _, _, _, _, _, rfl, _⟩ := h; rfl) | (obtain ⟨_, _, _, _, _, _, _, rfl, _⟩ := h; rfl) | (obtain ⟨_, _, _, _, _, _, _, _, rfl, _⟩ := h; rfl) | (obtain ⟨_, _, _, _, _, _, _, _, _, rfl, _⟩ := h; rfl) | (obtain ⟨_, _, _, _, _, _, _, _, _, _, rfl, _⟩ := h; rfl) | (obtain ⟨_, _, _, _, _, _, _, _, _, _, _, rfl, _⟩ := h; rfl) | (obtain ⟨_, _, _, _, _, _, _, _, _, _, _, _, rfl, _⟩ := h; rfl) | (obtain ⟨_, _, _, _, _, _, _, _, _, _, _, _, _, rfl, _⟩ := h; rfl) | (obtain ⟨_, _, _, _, _, _, _, _, _, _, _, _, _, _, rfl, _⟩ := h; rfl) | (obtain ⟨_, _, _, _, _, _, _, _, _, _, _, _, _, _, _, rfl, _⟩ := h; rfl)) fun cdv A outer s H E gd hr => ⟨_, _, (dss_cons
      (ds_set 1 sc_swap_list.nd (de_call K_goals_of.G (hr.mono (by decide)) gd rfl K_goals_of.g K_goals_of.k K_goals_of.b .nil (fun _ => RIs.nil) pass0 (dapur (da_cons (dv 0) da_nil))))
      (dss_cons
      (ds_set 2 sc_swap_list.nd (DF.de (dfpur (df_lc (own := [("item", 3), ("goal", 4)]) rfl sc_swap_list.nd (blkOk_by (own := [("item", 3), ("goal", 4)]) (N := N_swap_list) (sc := defScope s_swap_list) (by decide +kernel)) (di_enum rfl B.enumerate_ (dv 1)) (fun _ _ _ _ _ => (dg_tup2 2 rfl rfl (dgs_cons (dg 3 sc_swap_list.nd) (dgs_cons (dg 4 sc_swap_list.nd) dgs_nil)))) (fun _ _ _ _ _ => (dtpur (dts_one (db_cmp op_lt os_lt (DE.dv (dv 4)) (DE.dv (dv 3)) (nomark _))))) (fun _ _ _ _ _ => (depur (dv 3))) (gin_tup (gin_cons gin_name (gin_cons gin_name gin_nil)))))))
      (dss_one
      (ds_ret (de_T1 call_tupleX c1_tuple rfl B.tuple_ (by decide +kernel) (DE.dv (DF.de (dfpur (df_lc (own := [("x", 5), ("z", 6)]) rfl sc_swap_list.nd (blkOk_by (own := [("x", 5), ("z", 6)]) (N := N_swap_list) (sc := defScope s_swap_list) (by decide +kernel)) (di_seq (de_call K_inversions_of.G (hr.mono (by decide)) gd rfl K_inversions_of.g K_inversions_of.k K_inversions_of.b .nil (fun _ => RIs.nil) pass0 (dapur (da_cons (dv 0) da_nil)))) (fun _ _ _ _ _ => (dg_tup2 2 rfl rfl (dgs_cons (dg 5 sc_swap_list.nd) (dgs_cons (dg 6 sc_swap_list.nd) dgs_nil)))) (fun _ _ _ _ _ => dts_nil) (fun _ _ _ _ _ => (depur (de_tup (dapur (da_cons (de_op or_add os_add (DE.dv (dv 5)) (DE.dv (de_B1 call_len c1_len rfl B.len_ boot_len (DE.dv (DF.de (dfpur (df_lc (own := [("y", 7)]) rfl sc_swap_list.nd (blkOk_by (own := [("y", 7)]) (N := N_swap_list) (sc := sc1_swap_list) (by decide +kernel)) (di_seqK rfl (dv 2)) (fun _ _ _ _ _ => (dg 7 sc_swap_list.nd)) (fun _ _ _ _ _ => (dtpur (dts_one (db_chain op_lt op_lt os_lt os_lt (dv 5) (dv 7) (dv 6))))) (fun _ _ _ _ _ => (depur (dv 7))) gin_name))))))) (da_cons (dv 5) (da_cons (dv 6) da_nil))))))) (gin_tup (gin_cons gin_name (gin_cons gin_name gin_nil)))))))))))), fun args Q' E' h => ?_⟩
  obtain ⟨row, m, rfl, hr, q⟩ := h
  have hE : (endsOf row).length = m := by rw [endsOf_len, hr.len]
  have m1 := hr.m1
  refine ⟨row, m, rfl, hr, fun _ => ?_⟩
  refine ⟨by rw [enumFrom_len, List.length_map, sizeLine_eq]; omega, mvF fun i g => decide (g < i), fun i d hd => ?_, fun _ => ?_⟩
  · obtain ⟨y, hy, rfl⟩ := enumD_is hd
    obtain ⟨x, hx, rfl⟩ := seq_is hy
    refine ⟨rfl, rfl, ite_d (fun h => ?_) (fun h => ?_)⟩
    · show (if decide (x < (i : Int)) = true then _ else _) = _
      rw [if_pos (by simpa using h)]
    · show (if decide (x < (i : Int)) = true then _ else _) = _
      rw [if_neg (by simpa using h)]
  rw [mv_left]
  have hlt : (ltI (endsOf row)).length ≤ m := by
    unfold ltI
    have := List.length_filter_le (fun t => decide ((endsOf row).getD t.toNat 0 < t)) (span (endsOf row).length)
    rw [span_len, hE] at this
    rw [hE]; exact this
  refine ⟨row, m, rfl, hr, fun _ => ⟨by have := pairsOf_len (endsOf row) (by omega); rw [sizeLine_eq]; omega, fun d => some (plF (endsOf row) d), fun i d hd => ?_, fun _ => ?_⟩⟩
  · obtain ⟨x, z, rfl, x0, xz, zl, hlt2⟩ := pairs_is (List.mem_of_getElem? hd)
    refine ⟨rfl, rfl, by rw [List.length_map, sizeLine_eq]; omega, selF fun y => decide (x < y) && decide (y < z), fun j d hd2 => ?_, fun _ => ?_⟩
    · obtain ⟨y, hy, rfl⟩ := seq_is hd2
      refine ite_d (fun h1 => ite_d (fun h2 => ?_) (fun h2 => ?_)) (fun h1 => ?_)
      · show (if (decide _ && decide _) = true then _ else _) = _
        rw [if_pos (by rw [decide_eq_true h1, decide_eq_true h2]; rfl)]
      · show (if (decide _ && decide _) = true then _ else _) = _
        rw [if_neg (by rw [decide_eq_false h2, Bool.and_false]; exact Bool.false_ne_true)]
      · show (if (decide _ && decide _) = true then _ else _) = _
        rw [if_neg (by rw [decide_eq_false h1, Bool.false_and]; exact Bool.false_ne_true)]
    rw [sel_span]
    show some (D.tup [.int (placeI (endsOf row) x z), .int x, .int z]) = some (D.tup [.int (x + _), .int x, .int z])
    unfold placeI
    rw [List.length_map]
  rw [filterMap_some]
  exact q _
def kf_swap_list (B : Blt mg) (R : KR K mg "swap_list" s_swap_list p_swap_list ko_swap_list) (K_goals_of : KF P w K mg base 1 "goals_of" s_goals_of p_goals_of ko_goals_of sp_goals_of) (K_inversions_of : KF P w K mg base 2 "inversions_of" s_inversions_of p_inversions_of ko_inversions_of sp_inversions_of) : KF P w K mg base 3 "swap_list" s_swap_list p_swap_list ko_swap_list sp_swap_list := { R with G := ok_swap_list B R K_goals_of K_inversions_of }
theorem okq_row (r : List Int) : okq (rowD r) = true := num_okq (num_ti r).1 (by show dep (.tup (r.map .int)) ≤ 60; rw [(num_ti r).2]; decide)
abbrev s_ends : Stmt := top 22
abbrev N_ends : List Str := ["_law_row", "_law_thing"]
abbrev p_ends : List Str := ["_law_row"]
abbrev ko_ends : List (List Str × List Nat) := []
theorem sc_ends : FnScope N_ends p_ends (defScope s_ends) := ⟨rfl, rfl, rfl, by decide +kernel, rfl, by decide +kernel, by decide +kernel⟩
def sp_ends : DSp := fun args Q _ => ∃ (row : List Int) (m : Nat), args = [.i (rowD row)] ∧ Row row m ∧ ∀ δ : DEnv, Q (.i (.lst ((endsOf row).map .int))) δ
theorem ok_ends (B : Blt mg) (R : KR K mg "_law_ends" s_ends p_ends ko_ends) : FnG P w K mg base CX0 1 R.f R.fd p_ends (lift sp_ends) := by
  refine dfn R.F sc_ends (by intro args Q E h; first | (obtain ⟨_, rfl, _⟩ := h; rfl) | (obtain ⟨_, _, rfl, _⟩ := h; rfl) | (obtain ⟨_, _, _, rfl, _⟩ := h; rfl) | (obtain ⟨_, _, _, _, rfl, _⟩ := h; rfl) | (obtain ⟨_, _, _, _, _, rfl, _⟩ := h; rfl) | (obtain ⟨_, _, _, _, _, _, rfl, _⟩ := h; rfl) | (obtain ⟨_, _, _, _, _, _, _, rfl, _⟩ := h; rfl) | (obtain ⟨_, _, _, _, _, _, _, _, rfl, _⟩ := h; rfl) | (obtain ⟨_, _, _, _, _, _, _, _, _, rfl, _⟩ := h; rfl) | (obtain ⟨_, _, _, _, _, _, _, _, _, _, rfl, _⟩ := h; rfl) | (obtain ⟨_, _, _, _, _, _, _, _, _, _, _, rfl, _⟩ := h; rfl) | (obtain ⟨_, _, _, _, _, _, _, _, _, _, _, _, rfl, _⟩ := h; rfl) | (obtain ⟨_, _, _, _, _, _, _, _, _, _, _, _, _, rfl, _⟩ := h; rfl) | (obtain ⟨_, _, _, _, _, _, _, _, _, _, _, _, _, _, rfl, _⟩ := h; rfl) | (obtain ⟨_, _, _, _, _, _, _, _, _, _, _, _, _, _, _, rfl, _⟩ := h; rfl)) fun cdv A outer s H E gd hr => ⟨_, _, (dss_one
      (ds_ret (DF.de (dfpur (df_lc (own := [("_law_thing", 1)]) rfl sc_ends.nd (blkOk_by (own := [("_law_thing", 1)]) (N := N_ends) (sc := defScope s_ends) (by decide +kernel)) (di_range1 rfl B.range_ (de_B1 call_len c1_len rfl B.len_ boot_len (DE.dv (dv 0)))) (fun _ _ _ _ _ => (dg 1 sc_ends.nd)) (fun _ _ _ _ _ => dts_nil) (fun _ _ _ _ _ => (depur (de_indexTK rfl (DE.dv (dv 0)) (dv 1)))) gin_name))))), fun args Q' E' h => ?_⟩
  obtain ⟨row, m, rfl, hr, q⟩ := h
  have hl := hr.len
  have m1 := hr.m1
  have el : ((List.map D.int row).length : Int) = (row.length : Nat) := by rw [List.length_map]
  refine ⟨⟨by omega, by omega⟩, by rw [rangeD_len, sizeLine_eq]; omega, fun d => some (.int ((row.idxOf (intOf d) : Nat) : Int)), fun i d hd => ?_, fun _ => ?_⟩
  · obtain ⟨hi, rfl⟩ := rangeD_is hd
    rw [el] at hi
    exact ⟨row, rfl, hr.mem.mpr ⟨by omega, by omega⟩, rfl⟩
  rw [filterMap_some, el, rangeD_eq, List.map_map]
  unfold endsOf at q
  rw [List.map_map] at q
  exact q _
def kf_ends (B : Blt mg) (R : KR K mg "_law_ends" s_ends p_ends ko_ends) : KF P w K mg base 1 "_law_ends" s_ends p_ends ko_ends sp_ends := { R with G := ok_ends B R }
abbrev s_lpairs : Stmt := top 23
abbrev N_lpairs : List Str := ["_law_row", "_law_ends_here", "_law_found", "_law_thing", "_law_far"]
abbrev p_lpairs : List Str := ["_law_row"]
abbrev ko_lpairs : List (List Str × List Nat) := []
theorem sc_lpairs : FnScope N_lpairs p_lpairs (defScope s_lpairs) := ⟨rfl, rfl, rfl, by decide +kernel, rfl, by decide +kernel, by decide +kernel⟩
def sp_lpairs : DSp := fun args Q _ => ∃ (row : List Int) (m : Nat), args = [.i (rowD row)] ∧ Row row m ∧ ∀ (a : Addr) (δ : DEnv), Q (.o a (.lst (pairsOf (endsOf row)))) δ
theorem ok_lpairs (B : Blt mg) (R : KR K mg "_law_pairs" s_lpairs p_lpairs ko_lpairs) (K_ends : KF P w K mg base 1 "_law_ends" s_ends p_ends ko_ends sp_ends) : FnG P w K mg base CX0 2 R.f R.fd p_lpairs (lift sp_lpairs) := by
  refine dfn R.F sc_lpairs (by intro args Q E h; first | (obtain ⟨_, rfl, _⟩ := h; rfl) | (obtain ⟨_, _, rfl, _⟩ := h; rfl) | (obtain ⟨_, _, _, rfl, _⟩ := h; rfl) | (obtain ⟨_, _, _, _, rfl, _⟩ := h; rfl) | (obtain ⟨_, _, _, _, _, rfl, _⟩ := h; rfl) | (obtain ⟨_, _, _, _, _, _, rfl, _⟩ := h; rfl) | (obtain ⟨_, _, _, _, _, _, _, rfl, _⟩ := h; rfl) | (obtain ⟨_, _, _, _, _, _, _, _, rfl, _⟩ := h; rfl) | (obtain ⟨_, _, _, _, _, _, _, _, _, rfl, _⟩ := h; rfl) | (obtain ⟨_, _, _, _, _, _, _, _, _, _, rfl, _⟩ := h; rfl) | (obtain ⟨_, _, _, _, _, _, _, _, _, _, _, rfl, _⟩ := h; rfl) | (obtain ⟨_, _, _, _, _, _, _, _, _, _, _, _, rfl, _⟩ := h; rfl) | (obtain ⟨_, _, _, _, _, _, _, _, _, _, _, _, _, rfl, _⟩ := h; rfl) | (obtain ⟨_, _, _, _, _, _, _, _, _, _, _, _, _, _, rfl, _⟩ := h; rfl) | (obtain ⟨_, _, _, _, _, _, _, _, _, _, _, _, _, _, _, rfl, _⟩ := h; rfl)) fun cdv A outer s H E gd hr => ⟨_, _, (dss_cons
      (ds_parN rfl (nms_cons 1 sc_lpairs.nd (nms_cons 2 sc_lpairs.nd nms_nil)) (dls_cons (DE.dl (de_call K_ends.G (hr.mono (by decide)) gd rfl K_ends.g K_ends.k K_ends.b .nil (fun _ => RIs.nil) pass0 (dapur (da_cons (dv 0) da_nil)))) (dls_cons (DFl.dl (DF.l (df_lst da_nil))) dls_nil)) rfl (by decide) rfl rfl rfl rfl rfl)
      (dss_cons
      (ds_for PassesOwn.never rfl (di_range1 rfl B.range_ (de_B1 call_len c1_len rfl B.len_ boot_len (DE.dv (dv 0)))) (dg 3 sc_lpairs.nd) (dss_one
        (ds_setF 2 sc_lpairs.nd (df_cat (vv 2) (DE.dv (DF.de (dfpur (df_lc (own := [("_law_far", 4)]) rfl sc_lpairs.nd (blkOk_by (own := [("_law_far", 4)]) (N := N_lpairs) (sc := defScope s_lpairs) (by decide +kernel)) (di_range2 rfl B.range_ (de_op or_add os_add (DE.dv (dv 3)) (DE.dv de_int)) (de_B1 call_len c1_len rfl B.len_ boot_len (DE.dv (dv 0)))) (fun _ _ _ _ _ => (dg 4 sc_lpairs.nd)) (fun _ _ _ _ _ => (dtpur (dts_one (db_cmp op_gt os_gt (DE.dv (de_ix ix_seq os_idx (DE.dv (dv 1)) (dv 3))) (DE.dv (de_ix ix_seq os_idx (DE.dv (dv 1)) (dv 4))) (nomark _))))) (fun _ _ _ _ _ => (depur (de_tup (dapur (da_cons (dv 3) (da_cons (dv 4) da_nil)))))) gin_name))))))))
      (dss_one
      (ds_retO 2)))), fun args Q' E' h => ?_⟩
  obtain ⟨row, m, rfl, hr, q⟩ := h
  have hl := hr.len
  have hE : (endsOf row).length = m := by rw [endsOf_len, hr.len]
  have m1 := hr.m1
  have elr : ((List.map D.int row).length : Int) = (m : Nat) := by rw [List.length_map, hl]
  refine ⟨row, m, rfl, hr, fun _ a => ⟨⟨by omega, by omega⟩, fun i δ => ∃ (b : Addr) (v3 v4 : Option Sl), δ = [some (.i (rowD row)), some (.i (.lst ((endsOf row).map .int))), some (.o b (.lst (((rangeD 0 (m : Nat)).take i).flatMap (pairsRow (endsOf row))))), v3, v4] ∧ (((rangeD 0 (m : Nat)).take i).flatMap (pairsRow (endsOf row))).length ≤ i * 40, ⟨a, _, _, rfl, by simp⟩, ?_, ?_⟩⟩
  · rintro i d δ2 hd ⟨b, v3, v4, rfl, hln⟩
    rw [elr] at hd
    obtain ⟨hi, rfl⟩ := rangeD_is hd
    refine ⟨⟨by omega, by omega, by omega, by omega⟩, by rw [rangeD_len, sizeLine_eq]; omega, pairF (endsOf row) (0 + (i : Nat)), fun j c hc => ?_, ?_⟩
    · obtain ⟨hj, rfl⟩ := rangeD_is hc
      rw [elr] at hj
      refine ⟨_, atI_ints (by omega) (by omega), _, atI_ints (by omega) (by omega), ite_d (fun h => ?_) (fun h => ?_)⟩
      · show (if _ < _ then _ else _) = _
        rw [if_pos h]
      · show (if _ < _ then _ else _) = _
        rw [if_neg h]
    · intro c
      rw [elr]
      have e1 : List.filterMap (pairF (endsOf row) (0 + (i : Nat))) (rangeD (0 + (i : Nat) + 1) (m : Nat)) = pairsRow (endsOf row) (.int (0 + (i : Nat))) := by
        show _ = List.filterMap (pairF (endsOf row) (0 + (i : Nat))) (rangeD (0 + (i : Nat) + 1) ((endsOf row).length : Nat))
        rw [hE]
      have e2 : (pairsRow (endsOf row) (.int (0 + (i : Nat)))).length ≤ 40 := by
        rw [← e1]
        have := List.length_filterMap_le (pairF (endsOf row) (0 + (i : Nat))) (rangeD (0 + (i : Nat) + 1) (m : Nat))
        rw [rangeD_len] at this
        omega
      rw [e1]
      have e3 : ((rangeD 0 (m : Nat)).take (i + 1)).flatMap (pairsRow (endsOf row)) = ((rangeD 0 (m : Nat)).take i).flatMap (pairsRow (endsOf row)) ++ pairsRow (endsOf row) (.int (0 + (i : Nat))) := by
        rw [take_succ_of hd, List.flatMap_append]; simp
      have hln2 : i * 40 ≤ 40 * 40 := Nat.mul_le_mul_right _ (by omega)
      refine ⟨by rw [sizeLine_eq]; omega, fun c2 => ⟨c2, _, _, by rw [e3]; rfl, ?_⟩⟩
      rw [e3, List.length_append]
      omega
  · rintro δ2 ⟨b, v3, v4, rfl, hln⟩
    rw [elr, List.take_length]
    have := q b
    unfold pairsOf at this
    rw [hE] at this
    exact this _
def kf_lpairs (B : Blt mg) (R : KR K mg "_law_pairs" s_lpairs p_lpairs ko_lpairs) (K_ends : KF P w K mg base 1 "_law_ends" s_ends p_ends ko_ends sp_ends) : KF P w K mg base 2 "_law_pairs" s_lpairs p_lpairs ko_lpairs sp_lpairs := { R with G := ok_lpairs B R K_ends }
end
end SW

set_option maxHeartbeats 4000000
namespace SW
open PySem PySem.Spec PyProof.Rows L2
section
variable {P : Program} {w : World} {K : PySem.W.Frag} {mg : Str → Option Value} {base : Heap}
abbrev s_places : Stmt := top 14
abbrev N_places : List Str := ["arrangement", "triple"]
abbrev p_places : List Str := ["arrangement"]
abbrev ko_places : List (List Str × List Nat) := []
theorem sc_places : FnScope N_places p_places (defScope s_places) := ⟨rfl, rfl, rfl, by decide +kernel, rfl, by decide +kernel, by decide +kernel⟩
def sp_places (C : Addr) : DSp := fun args Q E => ∃ (row : List Int) (m : Nat), args = [.i (rowD row)] ∧ Row row m ∧ (tripOf (endsOf row) = .non → ∀ δ : DEnv, Q (.i (.tup (swL (endsOf row)))) δ) ∧ (∀ es, tripOf (endsOf row) = .tup es → ∀ δ : DEnv, E C ["triple"] [.tup es] δ)
theorem ok_places (B : Blt mg) (R : KR K mg "places" s_places p_places ko_places) (XX : XS P w K mg base) (K_check_arrangement : KF P w K mg base 3 "check_arrangement" s_check_arrangement p_check_arrangement ko_check_arrangement sp_check_arrangement) (K_least_triple : KF P w K mg base 3 "least_triple" s_least_triple p_least_triple ko_least_triple sp_least_triple) (K_swap_list : KF P w K mg base 3 "swap_list" s_swap_list p_swap_list ko_swap_list sp_swap_list) : FnG P w K mg base (L2.CX P w) 4 R.f R.fd p_places (lift (sp_places XX.x_DecreasingTriple.C)) := by
  refine dfnX R.F sc_places (by intro args Q E h; first | (obtain ⟨_, rfl, _⟩ := h; rfl) | (obtain ⟨_, _, rfl, _⟩ := h; rfl) | (obtain ⟨_, _, _, rfl, _⟩ := h; rfl) | (obtain ⟨_, _, _, _, rfl, _⟩ := h; rfl) | (obtain ⟨_, _, _, _, _, rfl, _⟩ := h; rfl) | (obtain ⟨_, _, _, _, _, _, rfl, _⟩ := h; rfl) | (obtain ⟨_, _, _, _, _, _, _, rfl, _⟩ := h; rfl) | (obtain ⟨_, _, _, _, _, _, _, _, rfl, _⟩ := h; rfl) | (obtain ⟨_, _, _, _, _, _, _, _, _, rfl, _⟩ := h; rfl) | (obtain ⟨_, _, _, _, _, _, _, _, _, _, rfl, _⟩ := h; rfl) | (obtain ⟨_, _, _, _, _, _, _, _, _, _, _, rfl, _⟩ := h; rfl) | (obtain ⟨_, _, _, _, _, _, _, _, _, _, _, _, rfl, _⟩ := h; rfl) | (obtain ⟨_, _, _, _, _, _, _, _, _, _, _, _, _, rfl, _⟩ := h; rfl) | (obtain ⟨_, _, _, _, _, _, _, _, _, _, _, _, _, _, rfl, _⟩ := h; rfl) | (obtain ⟨_, _, _, _, _, _, _, _, _, _, _, _, _, _, _, rfl, _⟩ := h; rfl)) fun cdv A outer s H E gd hr => ⟨_, _, (dssx_cons
      (DSt.x (ds_expr (de_call K_check_arrangement.G (hr.mono (by decide)) gd rfl K_check_arrangement.g K_check_arrangement.k K_check_arrangement.b .nil (fun _ => RIs.nil) pass0 (dapur (da_cons (dv 0) da_nil)))))
      (dssx_cons
      (DSt.x (ds_set 1 sc_places.nd (de_call K_least_triple.G (hr.mono (by decide)) gd rfl K_least_triple.g K_least_triple.k K_least_triple.b .nil (fun _ => RIs.nil) pass0 (dapur (da_cons (dv 0) da_nil)))))
      (dssx_cons
      (dsx_if (db_notN (DE.dv (dv 1))) (dssx_one
        (dsx_raise XX.x_DecreasingTriple .nil (fun _ => RIs.nil) rfl (takes_of rfl rfl rfl rfl) (hr.mono (by decide)) rfl (dapur (da_cons (dv 1) da_nil)))) dssx_nil)
      (dssx_one
      (DSt.x (ds_ret (de_call K_swap_list.G (hr.mono (by decide)) gd rfl K_swap_list.g K_swap_list.k K_swap_list.b .nil (fun _ => RIs.nil) pass0 (dapur (da_cons (dv 0) da_nil))))))))), fun args Q' E' h => ?_⟩
  obtain ⟨row, m, rfl, hr, q1, q2⟩ := h
  refine ⟨row, m, rfl, hr, fun _ => ⟨row, m, rfl, hr, fun _ => ?_⟩⟩
  rcases trip_is (endsOf row) with ht | ⟨es, ht⟩
  · rw [ht]; exact ⟨row, m, rfl, hr, fun _ => q1 ht _⟩
  · rw [ht]; exact ⟨_, rfl, q2 es ht _⟩
def kf_places (B : Blt mg) (R : KR K mg "places" s_places p_places ko_places) (XX : XS P w K mg base) (K_check_arrangement : KF P w K mg base 3 "check_arrangement" s_check_arrangement p_check_arrangement ko_check_arrangement sp_check_arrangement) (K_least_triple : KF P w K mg base 3 "least_triple" s_least_triple p_least_triple ko_least_triple sp_least_triple) (K_swap_list : KF P w K mg base 3 "swap_list" s_swap_list p_swap_list ko_swap_list sp_swap_list) : KFX P w K mg base 4 "places" s_places p_places ko_places (sp_places XX.x_DecreasingTriple.C) := { R with G := ok_places B R XX K_check_arrangement K_least_triple K_swap_list }
abbrev s_told : Stmt := top 27
abbrev N_told : List Str := ["_law_row_here", "_law_by_name", "_law_error", "_law_found", "e"]
abbrev p_told : List Str := ["_law_row_here", "_law_by_name"]
abbrev ko_told : List (List Str × List Nat) := []
theorem sc_told : FnScope N_told p_told (defScope s_told) := ⟨rfl, rfl, rfl, by decide +kernel, rfl, by decide +kernel, by decide +kernel⟩
def sp_told : DSp := fun args Q _ => ∃ (row : List Int) (m : Nat) (b : Bool), args = [.i (rowD row), .i (.bl b)] ∧ Row row m ∧ ∀ (d : D) (δ : DEnv), d = toldD row → Q (.i d) δ
theorem ok_told (B : Blt mg) (R : KR K mg "_law_told" s_told p_told ko_told) (XX : XS P w K mg base) (K_places : KFX P w K mg base 4 "places" s_places p_places ko_places (sp_places XX.x_DecreasingTriple.C)) : FnG P w K mg base CX0 5 R.f R.fd p_told (lift sp_told) := by
  refine dfn R.F sc_told (by intro args Q E h; first | (obtain ⟨_, rfl, _⟩ := h; rfl) | (obtain ⟨_, _, rfl, _⟩ := h; rfl) | (obtain ⟨_, _, _, rfl, _⟩ := h; rfl) | (obtain ⟨_, _, _, _, rfl, _⟩ := h; rfl) | (obtain ⟨_, _, _, _, _, rfl, _⟩ := h; rfl) | (obtain ⟨_, _, _, _, _, _, rfl, _⟩ := h; rfl) | (obtain ⟨_, _, _, _, _, _, _, rfl, _⟩ := h; rfl) | (obtain ⟨_, _, _, _, _, _, _, _, rfl, _⟩ := h; rfl) | (obtain ⟨_, _, _, _, _, _, _, _, _, rfl, _⟩ := h; rfl) | (obtain ⟨_, _, _, _, _, _, _, _, _, _, rfl, _⟩ := h; rfl) | (obtain ⟨_, _, _, _, _, _, _, _, _, _, _, rfl, _⟩ := h; rfl) | (obtain ⟨_, _, _, _, _, _, _, _, _, _, _, _, rfl, _⟩ := h; rfl) | (obtain ⟨_, _, _, _, _, _, _, _, _, _, _, _, _, rfl, _⟩ := h; rfl) | (obtain ⟨_, _, _, _, _, _, _, _, _, _, _, _, _, _, rfl, _⟩ := h; rfl) | (obtain ⟨_, _, _, _, _, _, _, _, _, _, _, _, _, _, _, rfl, _⟩ := h; rfl)) fun cdv A outer s H E gd hr => ⟨_, _, (dss_cons
      (ds_set 2 sc_told.nd de_non)
      (dss_cons
      (ds_set 3 sc_told.nd de_non)
      (dss_cons
      (ds_tryK 4 2 (fun _ h => h) (names_cls rfl XX.n_DecreasingTriple.g) sc_told.nd (fun W pn xe tk => (dssx_one
          (dsx_set 3 sc_told.nd (dex_if (db_val (dv 1)) (dex_callK tk K_places.G (hr.mono (by decide)) gd rfl K_places.g K_places.k K_places.kb (dk_cons (dv 0) dk_nil)) (dex_call tk K_places.G (hr.mono (by decide)) gd rfl K_places.g K_places.k K_places.b .nil (fun _ => RIs.nil) (dapur (da_cons (dv 0) da_nil))))))) (fun a pn => ps_set sc_told.nd rfl (by first | exact Or.inl rfl | exact Or.inr rfl) (pv 4)))
      (dss_one
      (ds_ret (de_if (db_isN (DE.dv (dv 2))) (dv 3) (DF.de (df_lst (dapur (da_cons (de_exf (fun _ h => h) (dv 2)) da_nil)))))))))), fun args Q' E' h => ?_⟩
  obtain ⟨row, m, b, rfl, hr, q⟩ := h
  have key : ∀ {P : Prop}, ((tripOf (endsOf row) = .non → D.tup (swL (endsOf row)) = toldD row) → (∀ es, tripOf (endsOf row) = .tup es → D.lst [.tup es] = toldD row) → P) → P := fun {P} hP => by
    refine hP (fun ht => ?_) (fun es ht => ?_)
    · rw [trip_head] at ht
      unfold toldD
      cases e : trK3 (endsOf row) with
      | nil => rfl
      | cons k l => rw [e] at ht; cases ht
    · rw [trip_head] at ht
      unfold toldD
      cases e : trK3 (endsOf row) with
      | nil => rw [e] at ht; cases ht
      | cons k l =>
        rw [e] at ht
        have ht : tupI k = .tup es := ht
        rw [← ht]
  refine key fun k1 k2 => ?_
  cases b with
  | true => exact ⟨row, m, rfl, hr, fun ht _ => q _ _ (k1 ht), fun es ht _ => ⟨XX.m_DecreasingTriple_DecreasingTriple, ⟨XX.x_DecreasingTriple.xf, XX.x_DecreasingTriple.nf⟩, _, rfl, fun _ => q _ _ (k2 es ht)⟩⟩
  | false => exact ⟨row, m, rfl, hr, fun ht _ => q _ _ (k1 ht), fun es ht _ => ⟨XX.m_DecreasingTriple_DecreasingTriple, ⟨XX.x_DecreasingTriple.xf, XX.x_DecreasingTriple.nf⟩, _, rfl, fun _ => q _ _ (k2 es ht)⟩⟩
def kf_told (B : Blt mg) (R : KR K mg "_law_told" s_told p_told ko_told) (XX : XS P w K mg base) (K_places : KFX P w K mg base 4 "places" s_places p_places ko_places (sp_places XX.x_DecreasingTriple.C)) : KF P w K mg base 5 "_law_told" s_told p_told ko_told sp_told := { R with G := ok_told B R XX K_places }
def triF (E : List Int) (x y : Int) : D → Option D
  | .int z => if E.getD z.toNat 0 < E.getD y.toNat 0 then some (tupI [x, y, z]) else none
  | _ => none
theorem triF_row (E : List Int) (x y : Int) : (rangeD (y + 1) (E.length : Nat)).filterMap (triF E x y) = (trRow E (.tup [.int x, .int y])).map tupI := by
  show _ = ((nextI E y).map fun z => [x, y, z]).map tupI
  rw [rangeD_ints, List.map_map]
  unfold nextI
  refine fm_if (fun z => ?_) _
  show (if _ < _ then _ else _) = _
  by_cases c : E.getD z.toNat 0 < E.getD y.toNat 0
  · rw [if_pos c, if_pos (decide_eq_true c)]; rfl
  · rw [if_neg c, if_neg (by rw [decide_eq_false c]; decide)]
abbrev s_triples : Stmt := top 24
abbrev N_triples : List Str := ["_law_row", "_law_ends_here", "_law_found", "_law_thing", "_law_mid", "_law_far"]
abbrev p_triples : List Str := ["_law_row"]
abbrev ko_triples : List (List Str × List Nat) := []
theorem sc_triples : FnScope N_triples p_triples (defScope s_triples) := ⟨rfl, rfl, rfl, by decide +kernel, rfl, by decide +kernel, by decide +kernel⟩
def sp_triples : DSp := fun args Q _ => ∃ (row : List Int) (m : Nat), args = [.i (rowD row)] ∧ Row row m ∧ ∀ (a : Addr) (δ : DEnv), Q (.o a (.lst ((trK3 (endsOf row)).map tupI))) δ
theorem ok_triples (B : Blt mg) (R : KR K mg "_law_triples" s_triples p_triples ko_triples) (K_ends : KF P w K mg base 1 "_law_ends" s_ends p_ends ko_ends sp_ends) (K_lpairs : KF P w K mg base 2 "_law_pairs" s_lpairs p_lpairs ko_lpairs sp_lpairs) : FnG P w K mg base CX0 3 R.f R.fd p_triples (lift sp_triples) := by
  refine dfn R.F sc_triples (by intro args Q E h; first | (obtain ⟨_, rfl, _⟩ := h; rfl) | (obtain ⟨_, _, rfl, _⟩ := h; rfl) | (obtain ⟨_, _, _, rfl, _⟩ := h; rfl) | (obtain ⟨_, _, _, _, rfl, _⟩ := h; rfl) | (obtain ⟨_, _, _, _, _, rfl, _⟩ := h; rfl) | (obtain ⟨_, _, _, _, _, _, rfl, _⟩ := h; rfl) | (obtain ⟨_, _, _, _, _, _, _, rfl, _⟩ := h; rfl) | (obtain ⟨_, _, _, _, _, _, _, _, rfl, _⟩ := h; rfl) | (obtain ⟨_, _, _, _, _, _, _, _, _, rfl, _⟩ := h; rfl) | (obtain ⟨_, _, _, _, _, _, _, _, _, _, rfl, _⟩ := h; rfl) | (obtain ⟨_, _, _, _, _, _, _, _, _, _, _, rfl, _⟩ := h; rfl) | (obtain ⟨_, _, _, _, _, _, _, _, _, _, _, _, rfl, _⟩ := h; rfl) | (obtain ⟨_, _, _, _, _, _, _, _, _, _, _, _, _, rfl, _⟩ := h; rfl) | (obtain ⟨_, _, _, _, _, _, _, _, _, _, _, _, _, _, rfl, _⟩ := h; rfl) | (obtain ⟨_, _, _, _, _, _, _, _, _, _, _, _, _, _, _, rfl, _⟩ := h; rfl)) fun cdv A outer s H E gd hr => ⟨_, _, (dss_cons
      (ds_parN rfl (nms_cons 1 sc_triples.nd (nms_cons 2 sc_triples.nd nms_nil)) (dls_cons (DE.dl (de_call K_ends.G (hr.mono (by decide)) gd rfl K_ends.g K_ends.k K_ends.b .nil (fun _ => RIs.nil) pass0 (dapur (da_cons (dv 0) da_nil)))) (dls_cons (DFl.dl (DF.l (df_lst da_nil))) dls_nil)) rfl (by decide) rfl rfl rfl rfl rfl)
      (dss_cons
      (ds_for PassesOwn.never rfl (di_seq (DF.de (df_call K_lpairs.G (hr.mono (by decide)) gd rfl K_lpairs.g K_lpairs.k K_lpairs.b .nil (fun _ => RIs.nil) pass0 (dapur (da_cons (dv 0) da_nil))))) (dg_tup2 2 rfl rfl (dgs_cons (dg 3 sc_triples.nd) (dgs_cons (dg 4 sc_triples.nd) dgs_nil))) (dss_one
        (ds_setF 2 sc_triples.nd (df_cat (vv 2) (DE.dv (DF.de (dfpur (df_lc (own := [("_law_far", 5)]) rfl sc_triples.nd (blkOk_by (own := [("_law_far", 5)]) (N := N_triples) (sc := defScope s_triples) (by decide +kernel)) (di_range2 rfl B.range_ (de_op or_add os_add (DE.dv (dv 4)) (DE.dv de_int)) (de_B1 call_len c1_len rfl B.len_ boot_len (DE.dv (dv 0)))) (fun _ _ _ _ _ => (dg 5 sc_triples.nd)) (fun _ _ _ _ _ => (dtpur (dts_one (db_cmp op_gt os_gt (DE.dv (de_ix ix_seq os_idx (DE.dv (dv 1)) (dv 4))) (DE.dv (de_ix ix_seq os_idx (DE.dv (dv 1)) (dv 5))) (nomark _))))) (fun _ _ _ _ _ => (depur (de_tup (dapur (da_cons (dv 3) (da_cons (dv 4) (da_cons (dv 5) da_nil))))))) gin_name))))))))
      (dss_one
      (ds_retO 2)))), fun args Q' E' h => ?_⟩
  obtain ⟨row, m, rfl, hr, q⟩ := h
  have hl := hr.len
  have hE : (endsOf row).length = m := by rw [endsOf_len, hr.len]
  have m1 := hr.m1
  have elr : ((List.map D.int row).length : Int) = (m : Nat) := by rw [List.length_map, hl]
  have hP := pairsOf_len (endsOf row) (by omega)
  refine ⟨row, m, rfl, hr, fun _ a => ⟨row, m, rfl, hr, fun _ _ => ⟨fun i δ => ∃ (b : Addr) (v3 v4 v5 : Option Sl), δ = [some (.i (rowD row)), some (.i (.lst ((endsOf row).map .int))), some (.o b (.lst ((((pairsOf (endsOf row)).take i).flatMap (trRow (endsOf row))).map tupI))), v3, v4, v5] ∧ (((pairsOf (endsOf row)).take i).flatMap (trRow (endsOf row))).length ≤ i * 40, ⟨a, _, _, _, rfl, by simp⟩, ?_, ?_⟩⟩⟩
  · rintro i d δ2 hd ⟨b, v3, v4, v5, rfl, hln⟩
    have hi : i < (pairsOf (endsOf row)).length := (List.getElem?_eq_some_iff.mp hd).1
    obtain ⟨x, y, rfl, x0, xy, yl, _⟩ := pairs_is (List.mem_of_getElem? hd)
    refine ⟨rfl, rfl, ⟨by omega, by omega, by omega, by omega⟩, by rw [rangeD_len, sizeLine_eq]; omega, triF (endsOf row) x y, fun j c hc => ?_, ?_⟩
    · rw [elr] at hc
      obtain ⟨hj, rfl⟩ := rangeD_is hc
      refine ⟨_, atI_ints (by omega) (by omega), _, atI_ints (by omega) (by omega), ite_d (fun h => ?_) (fun h => ?_)⟩
      · show (if _ < _ then _ else _) = _
        rw [if_pos h]; rfl
      · show (if _ < _ then _ else _) = _
        rw [if_neg h]
    · intro c
      have e1 : List.filterMap (triF (endsOf row) x y) (rangeD (y + 1) ((List.map D.int row).length : Nat)) = (trRow (endsOf row) (.tup [.int x, .int y])).map tupI := by
        rw [← triF_row, elr, hE]
      have e2 : (trRow (endsOf row) (.tup [.int x, .int y])).length ≤ 40 := by
        have e0 : (trRow (endsOf row) (.tup [.int x, .int y])).length = (List.filterMap (triF (endsOf row) x y) (rangeD (y + 1) ((List.map D.int row).length : Nat))).length := by rw [e1, List.length_map]
        rw [e0]
        have := List.length_filterMap_le (triF (endsOf row) x y) (rangeD (y + 1) ((List.map D.int row).length : Nat))
        rw [rangeD_len] at this
        omega
      rw [e1]
      have e3 : ((pairsOf (endsOf row)).take (i + 1)).flatMap (trRow (endsOf row)) = ((pairsOf (endsOf row)).take i).flatMap (trRow (endsOf row)) ++ trRow (endsOf row) (.tup [.int x, .int y]) := by
        rw [take_succ_of hd, List.flatMap_append]; simp
      have hln2 : i * 40 ≤ 1600 * 40 := Nat.mul_le_mul_right _ (by omega)
      refine ⟨by rw [List.length_map, List.length_map, sizeLine_eq]; omega, fun c2 => ⟨c2, _, _, _, by rw [e3, List.map_append]; rfl, ?_⟩⟩
      rw [e3, List.length_append]
      omega
  · rintro δ2 ⟨b, v3, v4, v5, rfl, hln⟩
    rw [List.take_length]
    exact q b _
def kf_triples (B : Blt mg) (R : KR K mg "_law_triples" s_triples p_triples ko_triples) (K_ends : KF P w K mg base 1 "_law_ends" s_ends p_ends ko_ends sp_ends) (K_lpairs : KF P w K mg base 2 "_law_pairs" s_lpairs p_lpairs ko_lpairs sp_lpairs) : KF P w K mg base 3 "_law_triples" s_triples p_triples ko_triples sp_triples := { R with G := ok_triples B R K_ends K_lpairs }
abbrev s_spots : Stmt := top 25
abbrev N_spots : List Str := ["_law_row", "_law_ends_here", "_law_found", "_law_lefts", "_law_thing", "_law_far", "_law_mid"]
abbrev p_spots : List Str := ["_law_row"]
abbrev ko_spots : List (List Str × List Nat) := []
theorem sc_spots : FnScope N_spots p_spots (defScope s_spots) := ⟨rfl, rfl, rfl, by decide +kernel, rfl, by decide +kernel, by decide +kernel⟩
def sp_spots : DSp := fun args Q _ => ∃ (row : List Int) (m : Nat), args = [.i (rowD row)] ∧ Row row m ∧ ∀ (a : Addr) (δ : DEnv), Q (.o a (.lst (swL (endsOf row)))) δ
theorem ok_spots (B : Blt mg) (R : KR K mg "_law_spots" s_spots p_spots ko_spots) (K_ends : KF P w K mg base 1 "_law_ends" s_ends p_ends ko_ends sp_ends) (K_lpairs : KF P w K mg base 2 "_law_pairs" s_lpairs p_lpairs ko_lpairs sp_lpairs) : FnG P w K mg base CX0 3 R.f R.fd p_spots (lift sp_spots) := by
  refine dfn R.F sc_spots (by intro args Q E h; first | (obtain ⟨_, rfl, _⟩ := h; rfl) | (obtain ⟨_, _, rfl, _⟩ := h; rfl) | (obtain ⟨_, _, _, rfl, _⟩ := h; rfl) | (obtain ⟨_, _, _, _, rfl, _⟩ := h; rfl) | (obtain ⟨_, _, _, _, _, rfl, _⟩ := h; rfl) | (obtain ⟨_, _, _, _, _, _, rfl, _⟩ := h; rfl) | (obtain ⟨_, _, _, _, _, _, _, rfl, _⟩ := h; rfl) | (obtain ⟨_, _, _, _, _, _, _, _, rfl, _⟩ := h; rfl) | (obtain ⟨_, _, _, _, _, _, _, _, _, rfl, _⟩ := h; rfl) | (obtain ⟨_, _, _, _, _, _, _, _, _, _, rfl, _⟩ := h; rfl) | (obtain ⟨_, _, _, _, _, _, _, _, _, _, _, rfl, _⟩ := h; rfl) | (obtain ⟨_, _, _, _, _, _, _, _, _, _, _, _, rfl, _⟩ := h; rfl) | (obtain ⟨_, _, _, _, _, _, _, _, _, _, _, _, _, rfl, _⟩ := h; rfl) | (obtain ⟨_, _, _, _, _, _, _, _, _, _, _, _, _, _, rfl, _⟩ := h; rfl) | (obtain ⟨_, _, _, _, _, _, _, _, _, _, _, _, _, _, _, rfl, _⟩ := h; rfl)) fun cdv A outer s H E gd hr => ⟨_, _, (dss_cons
      (ds_parN rfl (nms_cons 1 sc_spots.nd (nms_cons 2 sc_spots.nd nms_nil)) (dls_cons (DE.dl (de_call K_ends.G (hr.mono (by decide)) gd rfl K_ends.g K_ends.k K_ends.b .nil (fun _ => RIs.nil) pass0 (dapur (da_cons (dv 0) da_nil)))) (dls_cons (DFl.dl (DF.l (df_lst da_nil))) dls_nil)) rfl (by decide) rfl rfl rfl rfl rfl)
      (dss_cons
      (ds_setLc 3 rfl sc_spots.nd rfl (sw_true rfl rfl rfl (by decide +kernel)) (blkOk_by (own := [("_law_thing", 4)]) (N := N_spots) (sc := defScope s_spots) (by decide +kernel)) (di_range1 rfl B.range_ (de_B1 call_len c1_len rfl B.len_ boot_len (DE.dv (dv 0)))) (fun _ _ _ _ _ => (dg 4 sc_spots.nd)) (fun _ _ _ _ _ => (dtpur (dts_one (db_cmp op_lt os_lt (DE.dv (de_ix ix_seq os_idx (DE.dv (dv 1)) (dv 4))) (DE.dv (dv 4)) (nomark _))))) (fun _ _ _ _ _ => (depur (dv 4))) gin_name)
      (dss_cons
      (ds_for PassesOwn.never rfl (di_seq (DF.de (df_call K_lpairs.G (hr.mono (by decide)) gd rfl K_lpairs.g K_lpairs.k K_lpairs.b .nil (fun _ => RIs.nil) pass0 (dapur (da_cons (dv 0) da_nil))))) (dg_tup2 2 rfl rfl (dgs_cons (dg 4 sc_spots.nd) (dgs_cons (dg 5 sc_spots.nd) dgs_nil))) (dss_one
        (ds_app 2 (pv 2) (de_tup (dapur (da_cons (de_op or_add os_add (DE.dv (dv 4)) (DE.dv (de_B1 call_len c1_len rfl B.len_ boot_len (DE.dv (DF.de (dfpur (df_lc (own := [("_law_mid", 6)]) rfl sc_spots.nd (blkOk_by (own := [("_law_mid", 6)]) (N := N_spots) (sc := defScope s_spots) (by decide +kernel)) (di_seq (dv 3)) (fun _ _ _ _ _ => (dg 6 sc_spots.nd)) (fun _ _ _ _ _ => (dtpur (dts_one (db_chain op_lt op_lt os_lt os_lt (dv 4) (dv 6) (dv 5))))) (fun _ _ _ _ _ => (depur (dv 6))) gin_name))))))) (da_cons (dv 4) (da_cons (dv 5) da_nil))))))))
      (dss_one
      (ds_retO 2))))), fun args Q' E' h => ?_⟩
  obtain ⟨row, m, rfl, hr, q⟩ := h
  have hl := hr.len
  have hE : (endsOf row).length = m := by rw [endsOf_len, hr.len]
  have m1 := hr.m1
  have elr : ((List.map D.int row).length : Int) = (m : Nat) := by rw [List.length_map, hl]
  have hP := pairsOf_len (endsOf row) (by omega)
  refine ⟨row, m, rfl, hr, fun _ a => ⟨⟨by omega, by omega⟩, by rw [rangeD_len, sizeLine_eq]; omega, selF fun t => decide ((endsOf row).getD t.toNat 0 < t), fun i d hd => ?_, fun _ => ?_⟩⟩
  · rw [elr] at hd
    obtain ⟨hi, rfl⟩ := rangeD_is hd
    refine ⟨_, atI_ints (by omega) (by omega), ite_d (fun h => ?_) (fun h => ?_)⟩
    · show (if decide _ = true then _ else _) = _
      rw [if_pos (decide_eq_true h)]
    · show (if decide _ = true then _ else _) = _
      rw [if_neg (by rw [decide_eq_false h]; decide)]
  have elt : (rangeD 0 ((List.map D.int row).length : Nat)).filterMap (selF fun t => decide ((endsOf row).getD t.toNat 0 < t)) = (ltI (endsOf row)).map D.int := by
    rw [elr, rangeD_span, sel_span]; unfold ltI; rw [hE]
  rw [elt]
  have hlt : (ltI (endsOf row)).length ≤ m := by
    unfold ltI
    have := List.length_filter_le (fun t => decide ((endsOf row).getD t.toNat 0 < t)) (span (endsOf row).length)
    rw [span_len, hE] at this
    rw [hE]; exact this
  refine ⟨row, m, rfl, hr, fun _ _ => ⟨fun i δ => ∃ (v4 v5 v6 : Option Sl), δ = [some (.i (rowD row)), some (.i (.lst ((endsOf row).map .int))), some (.o a (.lst (((pairsOf (endsOf row)).take i).map (plF (endsOf row))))), some (.i (.lst ((ltI (endsOf row)).map .int))), v4, v5, v6], ⟨_, _, _, rfl⟩, ?_, ?_⟩⟩
  · rintro i d δ2 hd ⟨v4, v5, v6, rfl⟩
    have hi : i < (pairsOf (endsOf row)).length := (List.getElem?_eq_some_iff.mp hd).1
    obtain ⟨x, z, rfl, x0, xz, zl, _⟩ := pairs_is (List.mem_of_getElem? hd)
    refine ⟨rfl, rfl, by rw [List.length_map, sizeLine_eq]; omega, selF fun y => decide (x < y) && decide (y < z), fun j d hd2 => ?_, fun _ => ?_⟩
    · obtain ⟨y, hy, rfl⟩ := seq_is hd2
      refine ite_d (fun h1 => ite_d (fun h2 => ?_) (fun h2 => ?_)) (fun h1 => ?_)
      · show (if (decide _ && decide _) = true then _ else _) = _
        rw [if_pos (by rw [decide_eq_true h1, decide_eq_true h2]; rfl)]
      · show (if (decide _ && decide _) = true then _ else _) = _
        rw [if_neg (by rw [decide_eq_false h2, Bool.and_false]; exact Bool.false_ne_true)]
      · show (if (decide _ && decide _) = true then _ else _) = _
        rw [if_neg (by rw [decide_eq_false h1, Bool.false_and]; exact Bool.false_ne_true)]
    rw [sel_span]
    refine ⟨by rw [List.length_map, List.length_take, sizeLine_eq]; omega, some (.i (.int x)), some (.i (.int z)), v6, ?_⟩
    rw [take_succ_of hd, List.map_append]
    simp only [List.map_cons, List.map_nil, plF, placeI, List.length_map]
    rfl
  · rintro δ2 ⟨v4, v5, v6, rfl⟩
    rw [List.take_length]
    exact q a _
def kf_spots (B : Blt mg) (R : KR K mg "_law_spots" s_spots p_spots ko_spots) (K_ends : KF P w K mg base 1 "_law_ends" s_ends p_ends ko_ends sp_ends) (K_lpairs : KF P w K mg base 2 "_law_pairs" s_lpairs p_lpairs ko_lpairs sp_lpairs) : KF P w K mg base 3 "_law_spots" s_spots p_spots ko_spots sp_spots := { R with G := ok_spots B R K_ends K_lpairs }
abbrev s_way : Stmt := top 26
abbrev N_way : List Str := ["_law_m", "_law_row_here", "_law_ends_here", "_law_line", "_law_found", "_law_n", "_law_some", "_law_at"]
abbrev p_way : List Str := ["_law_m", "_law_row_here"]
abbrev ko_way : List (List Str × List Nat) := []
theorem sc_way : FnScope N_way p_way (defScope s_way) := ⟨rfl, rfl, rfl, by decide +kernel, rfl, by decide +kernel, by decide +kernel⟩
def sp_way : DSp := fun args Q _ => ∃ (a : Addr) (cs gs : List Int) (n : Int) (k m : Nat) (row : List Int), args = [.o a (.rng cs gs n), .i (rowD row)] ∧ Row row m ∧ NoTr m row ∧ Rn cs gs n (k + 2000) ∧
  ∀ (G : List (List Int)) (gs' : List Int) (n' : Int) (δ : DEnv), G.Perm (trL (endsOf row)) → Rn cs gs' n' k → δ[0]? = some (some (.o a (.rng cs gs' n'))) → Q (.i (.lst ((G.map rotA).map tupI))) δ
theorem ok_way (B : Blt mg) (R : KR K mg "_law_way" s_way p_way ko_way) (K_draw : KF P w K mg base 2 "_law_draw" s_draw p_draw ko_draw sp_draw) (K_ends : KF P w K mg base 1 "_law_ends" s_ends p_ends ko_ends sp_ends) (K_lpairs : KF P w K mg base 2 "_law_pairs" s_lpairs p_lpairs ko_lpairs sp_lpairs) : FnG P w K mg base CX0 3 R.f R.fd p_way (lift sp_way) := by
  refine dfn R.F sc_way (by intro args Q E h; first | (obtain ⟨_, rfl, _⟩ := h; rfl) | (obtain ⟨_, _, rfl, _⟩ := h; rfl) | (obtain ⟨_, _, _, rfl, _⟩ := h; rfl) | (obtain ⟨_, _, _, _, rfl, _⟩ := h; rfl) | (obtain ⟨_, _, _, _, _, rfl, _⟩ := h; rfl) | (obtain ⟨_, _, _, _, _, _, rfl, _⟩ := h; rfl) | (obtain ⟨_, _, _, _, _, _, _, rfl, _⟩ := h; rfl) | (obtain ⟨_, _, _, _, _, _, _, _, rfl, _⟩ := h; rfl) | (obtain ⟨_, _, _, _, _, _, _, _, _, rfl, _⟩ := h; rfl) | (obtain ⟨_, _, _, _, _, _, _, _, _, _, rfl, _⟩ := h; rfl) | (obtain ⟨_, _, _, _, _, _, _, _, _, _, _, rfl, _⟩ := h; rfl) | (obtain ⟨_, _, _, _, _, _, _, _, _, _, _, _, rfl, _⟩ := h; rfl) | (obtain ⟨_, _, _, _, _, _, _, _, _, _, _, _, _, rfl, _⟩ := h; rfl) | (obtain ⟨_, _, _, _, _, _, _, _, _, _, _, _, _, _, rfl, _⟩ := h; rfl) | (obtain ⟨_, _, _, _, _, _, _, _, _, _, _, _, _, _, _, rfl, _⟩ := h; rfl)) fun cdv A outer s H E gd hr => ⟨_, _, (dss_cons
      (ds_parN rfl (nms_cons 2 sc_way.nd (nms_cons 3 sc_way.nd (nms_cons 4 sc_way.nd nms_nil))) (dls_cons (DE.dl (de_call K_ends.G (hr.mono (by decide)) gd rfl K_ends.g K_ends.k K_ends.b .nil (fun _ => RIs.nil) pass0 (dapur (da_cons (dv 1) da_nil)))) (dls_cons (DFl.dl (DF.l (df_listRg1 rfl rfl B.list_ rfl B.range_ (de_B1 call_len c1_len rfl B.len_ boot_len (DE.dv (dv 1)))))) (dls_cons (DFl.dl (DF.l (df_lst da_nil))) dls_nil))) rfl (by decide) rfl rfl rfl rfl rfl)
      (dss_cons
      (ds_for PassesOwn.never rfl (di_range1 rfl B.range_ (de_B1 call_len c1_len rfl B.len_ boot_len (DE.dv (DF.de (df_call K_lpairs.G (hr.mono (by decide)) gd rfl K_lpairs.g K_lpairs.k K_lpairs.b .nil (fun _ => RIs.nil) pass0 (dapur (da_cons (dv 1) da_nil))))))) (dg 5 sc_way.nd) (dss_cons
        (ds_setLc 6 rfl sc_way.nd rfl (sw_true rfl rfl rfl (by decide +kernel)) (blkOk_by (own := [("_law_at", 7)]) (N := N_way) (sc := defScope s_way) (by decide +kernel)) (di_range1 rfl B.range_ (de_op op_sub os_sub (DE.dv (de_B1 call_len c1_len rfl B.len_ boot_len (vv 3))) (DE.dv de_int))) (fun _ _ _ _ _ => (dg 7 sc_way.nd)) (fun _ _ _ _ _ => (dtpur (dts_one (db_cmp op_gt os_gt (DE.dv (de_ix ix_seq os_idx (DE.dv (dv 2)) (de_ix ix_seq os_idx (vv 3) (dv 7)))) (DE.dv (de_ix ix_seq os_idx (DE.dv (dv 2)) (de_ix ix_seq os_idx (vv 3) (de_op or_add os_add (DE.dv (dv 7)) (DE.dv de_int))))) (nomark _))))) (fun _ _ _ _ _ => (depur (dv 7))) gin_name)
        (dss_cons
        (ds_set 7 sc_way.nd (de_ixm ix_seq os_idx (dv 6) (de_callM 0 K_draw.G (hr.mono (by decide)) gd rfl K_draw.g K_draw.k K_draw.b .nil (fun _ => RIs.nil) pass0 (pv 0) (dapur (da_cons (de_B1 call_len c1_len rfl B.len_ boot_len (DE.dv (dv 6))) da_nil)))))
        (dss_cons
        (ds_app 4 (pv 4) (de_tup (dapur (da_cons (dv 7) (da_cons (de_ix ix_seq os_idx (vv 3) (dv 7)) (da_cons (de_ix ix_seq os_idx (vv 3) (de_op or_add os_add (DE.dv (dv 7)) (DE.dv de_int))) da_nil))))))
        (dss_one
        (ds_asg (de_tup (dapur (da_cons (de_ix ix_seq os_idx (vv 3) (de_op or_add os_add (DE.dv (dv 7)) (DE.dv de_int))) (da_cons (de_ix ix_seq os_idx (vv 3) (dv 7)) da_nil)))) (dg_tup2 2 rfl rfl (dgs_cons (dg_sub 3 (pv 3) (dv 7)) (dgs_cons (dg_sub 3 (pv 3) (de_op or_add os_add (DE.dv (dv 7)) (DE.dv de_int))) dgs_nil)))))))))
      (dss_one
      (ds_ret (de_if (db_cmp (op_eqB hr.units) os_eqB (DE.dv (de_T1 call_tupleX c1_tuple rfl B.tuple_ (by decide +kernel) (vv 3))) (DE.dv (dv 1)) (nomark _)) (dvo 4 (pv 4)) de_non))))), fun args Q' E' h => ?_⟩
  obtain ⟨a, cs, gs, n, k, m, row, rfl, hr, nt, R0, q⟩ := h
  have hl := hr.len
  have hE : (endsOf row).length = m := by rw [endsOf_len, hr.len]
  have m1 := hr.m1
  have m0 := hr.m0
  have elr : ((List.map D.int row).length : Int) = (m : Nat) := by rw [List.length_map, hl]
  have hP := pairsOf_len (endsOf row) (by omega)
  have hPl : (pairsOf (endsOf row)).length = invN m (endsOf row) := by rw [pairs_len, hE]
  have ends : ∀ x : Int, x ∈ span m → (endsOf row).getD x.toNat 0 = ((row.idxOf x : Nat) : Int) := fun x hx => ends_at hr (hr.p.mem_iff.mpr hx)
  refine ⟨row, m, rfl, hr, fun _ => ⟨⟨by rw [elr]; omega, by rw [elr]; omega⟩, fun b1 b2 => ?_⟩⟩
  refine ⟨row, m, rfl, hr, fun _ _ => ⟨⟨by omega, by omega⟩, fun i δ => ∃ (here : List Int) (G : List (List Int)) (gs : List Int) (n : Int) (v5 v6 v7 : Option Sl), δ = [some (.o a (.rng cs gs n)), some (.i (rowD row)), some (.i (.lst ((endsOf row).map .int))), some (.o b1 (.lst (here.map .int))), some (.o b2 (.lst ((G.map rotA).map tupI))), v5, v6, v7] ∧
      Sq m row here i ∧ Spt m row here G ∧ G.length = i ∧ Rn cs gs n (k + 2000 - i),
    ⟨span m, [], gs, n, _, _, _, by rw [elr, rangeD_span]; rfl, Sq.start hr, Spt.start m row, rfl, R0⟩, ?_, ?_⟩⟩
  · rintro i d δ2 hd ⟨here, G, gs, n, v5, v6, v7, rfl, hS, hG, hGl, R⟩
    obtain ⟨hi, rfl⟩ := rangeD_is hd
    have hh := hS.r
    have hhl := hh.len
    have hlm : ((here.map D.int).length : Int) - 1 = ((m - 1 : Nat) : Int) := by rw [List.length_map, hhl]; omega
    have hmem : ∀ j, j < m → here.getD j 0 ∈ span m := fun j hj => hh.p.subset (getD_mem (by omega))
    refine ⟨⟨by omega, by omega⟩, by rw [rangeD_len, sizeLine_eq]; omega, selF fun x => decide ((endsOf row).getD (here.getD (x.toNat + 1) 0).toNat 0 < (endsOf row).getD (here.getD x.toNat 0).toNat 0), fun j c hc => ?_, fun c1 => ?_⟩
    · rw [hlm] at hc
      obtain ⟨hj, rfl⟩ := rangeD_is hc
      have hx0 : ((0 : Int) + (j : Nat)) = (j : Nat) := Int.zero_add _
      rw [hx0]
      have s1 := span_mem.mp (hmem j (by omega))
      have s2 := span_mem.mp (hmem (j + 1) (by omega))
      refine ⟨_, atI_intsN (by omega), _, atI_ints s1.1 (by omega), _, atI_intsS (by omega), _, atI_ints s2.1 (by omega), ite_d (fun h => ?_) (fun h => ?_)⟩
      · show (if decide _ = true then _ else _) = _
        rw [Int.toNat_natCast, if_pos (decide_eq_true h)]
      · show (if decide _ = true then _ else _) = _
        rw [Int.toNat_natCast, if_neg (by rw [decide_eq_false h]; decide)]
    rw [hlm, rangeD_span, sel_span]
    have hfl := List.length_filter_le (fun x : Int => decide ((endsOf row).getD (here.getD (x.toNat + 1) 0).toNat 0 < (endsOf row).getD (here.getD x.toNat 0).toNat 0)) (span (m - 1))
    rw [span_len] at hfl
    have hpos : 0 < ((span (m - 1)).filter fun x => decide ((endsOf row).getD (here.getD (x.toNat + 1) 0).toNat 0 < (endsOf row).getD (here.getD x.toNat 0).toNat 0)).length := by
      obtain ⟨j, p1, p2, p3⟩ := hS.prog hr (by omega)
      refine List.length_pos_of_mem (a := (j : Int)) (List.mem_filter.mpr ⟨span_mem.mpr ⟨by omega, by omega⟩, decide_eq_true ?_⟩)
      rw [Int.toNat_natCast, ends _ (hmem j (by omega)), ends _ (hmem (j + 1) p1)]
      omega
    refine ⟨a, cs, gs, n, _, k + 2000 - (i + 1), rfl, R.mono (by omega), by rw [List.length_map]; omega, by rw [List.length_map]; omega, fun r gs' δ' r0 r1 R' hδ => outM_of hδ ?_⟩
    rw [List.length_map] at r1
    refine ⟨_, atI_ints r0 r1, ?_⟩
    have hsm := List.mem_filter.mp (getD_mem (ns := (span (m - 1)).filter fun x => decide ((endsOf row).getD (here.getD (x.toNat + 1) 0).toNat 0 < (endsOf row).getD (here.getD x.toNat 0).toNat 0)) (i := r.toNat) (by omega))
    obtain ⟨s, es⟩ : ∃ s : Nat, ((span (m - 1)).filter fun x => decide ((endsOf row).getD (here.getD (x.toNat + 1) 0).toNat 0 < (endsOf row).getD (here.getD x.toNat 0).toNat 0)).getD r.toNat 0 = (s : Int) := ⟨_, (Int.toNat_of_nonneg (span_mem.mp hsm.1).1).symm⟩
    rw [es] at hsm ⊢
    have hs1 : s + 1 < m := by have := span_mem.mp hsm.1; omega
    have hcond := of_decide_eq_true hsm.2
    rw [Int.toNat_natCast, ends _ (hmem s (by omega)), ends _ (hmem (s + 1) hs1)] at hcond
    have at1 := at_getD (row := here) (j := s) (by omega)
    have at2 := at_getD (row := here) (j := s + 1) (by omega)
    have i1 := hh.idx at1
    have i2 := hh.idx at2
    have hlt : here.getD s 0 < here.getD (s + 1) 0 := by
      rcases Int.lt_trichotomy (here.getD s 0) (here.getD (s + 1) 0) with c | c | c
      · exact c
      · rw [c, i2] at i1; omega
      · have := hS.sub _ _ (hmem (s + 1) hs1) (hmem s (by omega)) c (by omega)
        omega
    have hfin : row.idxOf (here.getD (s + 1) 0) < row.idxOf (here.getD s 0) := by omega
    refine ⟨_, atI_intsN (by omega), _, atI_intsS (by omega), by rw [List.length_map, List.length_map, sizeLine_eq]; omega, ?_⟩
    refine ⟨_, atI_intsS (by omega), _, atI_intsN (by omega), rfl, _, by rw [List.length_map]; exact ixN_nat (by omega), _, by rw [List.length_set, List.length_map]; exact ixN_S (by omega), rfl, ?_⟩
    exact ⟨swp here s, G ++ [[here.getD s 0, here.getD (s + 1) 0, (s : Nat)]], gs', n + 1, _, _, _, by unfold swp; rw [List.map_set, List.map_set, List.map_append, List.map_append]; rfl, hS.step hs1 hlt hfin, hG.step hS hr nt hs1 hlt hfin, by rw [List.length_append, hGl]; rfl, R'⟩
  · rintro δ2 ⟨here, G, gs, n, v5, v6, v7, rfl, hS, hG, hGl, R⟩
    rw [rangeD_len] at hS hGl R
    have hd := hS.done hr (by omega)
    subst hd
    refine ⟨okq_row _, okq_row _, ite_eq (num_ti _).1 (num_ti _).1 (fun _ => ?_) (fun h => absurd rfl h)⟩
    exact q G gs n _ (hG.perm hr) (R.mono (by omega)) rfl

def kf_way (B : Blt mg) (R : KR K mg "_law_way" s_way p_way ko_way) (K_draw : KF P w K mg base 2 "_law_draw" s_draw p_draw ko_draw sp_draw) (K_ends : KF P w K mg base 1 "_law_ends" s_ends p_ends ko_ends sp_ends) (K_lpairs : KF P w K mg base 2 "_law_pairs" s_lpairs p_lpairs ko_lpairs sp_lpairs) : KF P w K mg base 3 "_law_way" s_way p_way ko_way sp_way := { R with G := ok_way B R K_draw K_ends K_lpairs }
end
end SW

set_option maxHeartbeats 4000000
namespace SW
open PySem PySem.Spec PyProof.Rows L2
section
variable {P : Program} {w : World} {K : PySem.W.Frag} {mg : Str → Option Value} {base : Heap}
theorem ok_trip3 {x y z : Int} (hx : x.natAbs < 1000000) (hy : y.natAbs < 1000000) (hz : z.natAbs < 1000000) : reprOk (.lst [tupI [x, y, z]]) = true := by
  refine reprOk_of ?_ ?_ ?_
  · simp only [tupI, List.map_cons, List.map_nil, sml, smls, Bool.and_true, Bool.and_eq_true, decide_eq_true_eq]
    exact ⟨hx, hy, hz⟩
  · simp only [tupI, List.map_cons, List.map_nil, dep, deps]; omega
  · simp only [tupI, List.map_cons, List.map_nil, nod, nods]; omega
theorem tr3_small {E : List Int} (hE : E.length ≤ 40) {k : List Int} (h : k ∈ trK3 E) : ∃ x y z : Int, k = [x, y, z] ∧ x.natAbs < 1000000 ∧ y.natAbs < 1000000 ∧ z.natAbs < 1000000 := by
  unfold trK3 at h
  obtain ⟨d, hd, hk⟩ := List.mem_flatMap.mp h
  obtain ⟨x, y, rfl, x0, xy, yl, _⟩ := pairs_is hd
  obtain ⟨z, hz, rfl⟩ := List.mem_map.mp (show k ∈ (nextI E y).map fun z => [x, y, z] from hk)
  unfold nextI at hz
  have := mem_ints.mp (List.mem_filter.mp hz).1
  exact ⟨x, y, z, rfl, by omega, by omega, by omega⟩
abbrev s_right : Stmt := top 28
abbrev N_right : List Str := ["_law_m", "_law_row_here", "_law_kept", "_law_told_here", "_law_triples_here", "_law_trial", "_law_way_here", "_law_due", "_law_at", "_law_thing", "_law_far", "_law_p", "_law_x", "_law_z"]
abbrev p_right : List Str := ["_law_m", "_law_row_here"]
abbrev ko_right : List (List Str × List Nat) := []
theorem sc_right : FnScope N_right p_right (defScope s_right) := ⟨rfl, rfl, rfl, by decide +kernel, rfl, by decide +kernel, by decide +kernel⟩
def sp_right : DSp := fun args Q _ => ∃ (a : Addr) (cs gs : List Int) (n : Int) (k m : Nat) (row : List Int), args = [.o a (.rng cs gs n), .i (rowD row)] ∧ Row row m ∧ Rn cs gs n (k + 10000) ∧
  ∀ (b : Bool) (gs' : List Int) (n' : Int) (δ : DEnv), b = true → Rn cs gs' n' k → δ[0]? = some (some (.o a (.rng cs gs' n'))) → Q (.i (.bl b)) δ
theorem ok_right (B : Blt mg) (R : KR K mg "_law_right" s_right p_right ko_right) (K_spots : KF P w K mg base 3 "_law_spots" s_spots p_spots ko_spots sp_spots) (K_told : KF P w K mg base 5 "_law_told" s_told p_told ko_told sp_told) (K_triples : KF P w K mg base 3 "_law_triples" s_triples p_triples ko_triples sp_triples) (K_way : KF P w K mg base 3 "_law_way" s_way p_way ko_way sp_way) : FnG P w K mg base CX0 6 R.f R.fd p_right (lift sp_right) := by
  refine dfn R.F sc_right (by intro args Q E h; first | (obtain ⟨_, rfl, _⟩ := h; rfl) | (obtain ⟨_, _, rfl, _⟩ := h; rfl) | (obtain ⟨_, _, _, rfl, _⟩ := h; rfl) | (obtain ⟨_, _, _, _, rfl, _⟩ := h; rfl) | (obtain ⟨_, _, _, _, _, rfl, _⟩ := h; rfl) | (obtain ⟨_, _, _, _, _, _, rfl, _⟩ := h; rfl) | (obtain ⟨_, _, _, _, _, _, _, rfl, _⟩ := h; rfl) | (obtain ⟨_, _, _, _, _, _, _, _, rfl, _⟩ := h; rfl) | (obtain ⟨_, _, _, _, _, _, _, _, _, rfl, _⟩ := h; rfl) | (obtain ⟨_, _, _, _, _, _, _, _, _, _, rfl, _⟩ := h; rfl) | (obtain ⟨_, _, _, _, _, _, _, _, _, _, _, rfl, _⟩ := h; rfl) | (obtain ⟨_, _, _, _, _, _, _, _, _, _, _, _, rfl, _⟩ := h; rfl) | (obtain ⟨_, _, _, _, _, _, _, _, _, _, _, _, _, rfl, _⟩ := h; rfl) | (obtain ⟨_, _, _, _, _, _, _, _, _, _, _, _, _, _, rfl, _⟩ := h; rfl) | (obtain ⟨_, _, _, _, _, _, _, _, _, _, _, _, _, _, _, rfl, _⟩ := h; rfl)) fun cdv A outer s H E gd hr => ⟨_, _, (dss_cons
      (ds_parII (i := 2) (j := 3) rfl sc_right.nd rfl rfl (by decide) rfl rfl rfl rfl rfl rfl (de_repr hr gd rfl B.repr_ (DE.dv (dv 1))) (de_call K_told.G (hr.mono (by decide)) gd rfl K_told.g K_told.k K_told.b .nil (fun _ => RIs.nil) pass0 (dapur (da_cons (dv 1) (da_cons de_bl da_nil)))))
      (dss_cons
      (ds_if (DW.db (dw_or (db_cmp (op_neB hr.units) os_neB (DE.dv (de_repr hr gd rfl B.repr_ (DE.dv (de_call K_told.G (hr.mono (by decide)) gd rfl K_told.g K_told.k K_told.b .nil (fun _ => RIs.nil) pass0 (dapur (da_cons (dv 1) (da_cons de_bl da_nil))))))) (DE.dv (de_repr hr gd rfl B.repr_ (DE.dv (dv 3)))) (nomark _)) (dw_or1 (db_cmp (op_neB hr.units) os_neB (DE.dv (de_repr hr gd rfl B.repr_ (DE.dv (dv 1)))) (DE.dv (dv 2)) (nomark _))))) (dss_one
        (ds_ret de_bl)) dss_nil)
      (dss_cons
      (ds_set 4 sc_right.nd (DF.de (df_call K_triples.G (hr.mono (by decide)) gd rfl K_triples.g K_triples.k K_triples.b .nil (fun _ => RIs.nil) pass0 (dapur (da_cons (dv 1) da_nil)))))
      (dss_cons
      (ds_if (db_cmp (op_neB hr.units) os_neB (DE.dv (dv 4)) (DE.dv (DF.de (df_lst da_nil))) (nomark _)) (dss_one
        (ds_ret (de_cmp (op_eqB hr.units) os_eqB (DE.dv (de_repr hr gd rfl B.repr_ (DE.dv (dv 3)))) (DE.dv (de_repr hr gd rfl B.repr_ (DE.dv (DF.de (df_lst (dapur (da_cons (de_B1 (cr_minT hr rfl) c1_minT rfl B.min_ (by decide +kernel) (DE.dv (dv 4))) da_nil))))))) (nomark _)))) dss_nil)
      (dss_cons
      (ds_if (db_cmp (op_neB hr.units) os_neB (DE.dv (de_repr hr gd rfl B.repr_ (DE.dv (dv 3)))) (DE.dv (de_repr hr gd rfl B.repr_ (DE.dv (de_T1 call_tupleX c1_tuple rfl B.tuple_ (by decide +kernel) (DE.dv (de_call K_spots.G (hr.mono (by decide)) gd rfl K_spots.g K_spots.k K_spots.b .nil (fun _ => RIs.nil) pass0 (dapur (da_cons (dv 1) da_nil)))))))) (nomark _)) (dss_one
        (ds_ret de_bl)) dss_nil)
      (dss_cons
      (ds_for PassesOwn.never rfl (di_range1 rfl B.range_ de_int) (dg 5 sc_right.nd) (dss_cons
        (ds_set 6 sc_right.nd (de_callM 0 K_way.G (hr.mono (by decide)) gd rfl K_way.g K_way.k K_way.b .nil (fun _ => RIs.nil) pass0 (pv 0) (dapur (da_cons (dv 1) da_nil))))
        (dss_cons
        (ds_if (db_isN (DE.dv (dv 6))) (dss_one
          (ds_ret de_bl)) dss_nil)
        (dss_cons
        (ds_set 7 sc_right.nd (DF.de (df_B1 cr_sortA c1_sortT rfl B.sorted_ (by decide +kernel) (DE.dv (DF.de (dfpur (df_lc (own := [("_law_at", 8), ("_law_thing", 9), ("_law_far", 10)]) rfl sc_right.nd (blkOk_by (own := [("_law_at", 8), ("_law_thing", 9), ("_law_far", 10)]) (N := N_right) (sc := defScope s_right) (by decide +kernel)) (di_seq (dv 6)) (fun _ _ _ _ _ => (dg_tup2 3 rfl rfl (dgs_cons (dg 8 sc_right.nd) (dgs_cons (dg 9 sc_right.nd) (dgs_cons (dg 10 sc_right.nd) dgs_nil))))) (fun _ _ _ _ _ => dts_nil) (fun _ _ _ _ _ => (depur (de_tup (dapur (da_cons (dv 9) (da_cons (dv 10) (da_cons (dv 8) da_nil))))))) (gin_tup (gin_cons gin_name (gin_cons gin_name (gin_cons gin_name gin_nil)))))))))))
        (dss_one
        (ds_if (db_cmp (op_neB hr.units) os_neB (DE.dv (DF.de (dfpur (df_lc (own := [("_law_p", 11), ("_law_x", 12), ("_law_z", 13)]) rfl sc_right.nd (blkOk_by (own := [("_law_p", 11), ("_law_x", 12), ("_law_z", 13)]) (N := N_right) (sc := defScope s_right) (by decide +kernel)) (di_seq (dv 3)) (fun _ _ _ _ _ => (dg_tup2 3 rfl rfl (dgs_cons (dg 11 sc_right.nd) (dgs_cons (dg 12 sc_right.nd) (dgs_cons (dg 13 sc_right.nd) dgs_nil))))) (fun _ _ _ _ _ => dts_nil) (fun _ _ _ _ _ => (depur (de_tup (dapur (da_cons (dv 12) (da_cons (dv 13) (da_cons (dv 11) da_nil))))))) (gin_tup (gin_cons gin_name (gin_cons gin_name (gin_cons gin_name gin_nil)))))))) (DE.dv (dv 7)) (nomark _)) (dss_one
          (ds_ret de_bl)) dss_nil))))))
      (dss_one
      (ds_ret de_bl)))))))), fun args Q' E' h => ?_⟩
  obtain ⟨a, cs, gs, n, k, m, row, rfl, hr, R0, q⟩ := h
  have hl := hr.len
  have hE : (endsOf row).length = m := by rw [endsOf_len, hr.len]
  have m1 := hr.m1
  have rp0 := hr.okD.1.repr (by decide)
  cases e3 : trK3 (endsOf row) with
  | cons k0 ks =>
    have hmem : ∀ y ∈ k0 :: ks, y ∈ trK3 (endsOf row) := fun y hy => by rw [e3]; exact hy
    obtain ⟨x, y, z, rfl, hx, hy, hz⟩ := tr3_small (by omega) (hmem k0 (by simp))
    have etd : toldD row = .lst [tupI [x, y, z]] := by unfold toldD; rw [e3]
    have rp := ok_trip3 hx hy hz
    refine ⟨rp0, fun s0 h0 => ⟨row, m, false, rfl, hr, fun d1 _ e1 => ?_⟩⟩
    rw [etd] at e1
    subst e1
    refine ⟨row, m, true, rfl, hr, fun d2 _ e2 => ?_⟩
    rw [etd] at e2
    subst e2
    refine ⟨rp, fun s1 h1 => ⟨rp, fun s2 h2 => ite_nd (fun _ => ?_) (fun h => absurd (h1.trans h2.symm) h)⟩⟩
    refine ⟨rp0, fun s3 h3 => ite_nd (fun _ => ?_) (fun h => absurd (h3.trans h0.symm) h)⟩
    refine ⟨row, m, rfl, hr, fun _ _ _ => ⟨num_tups _, by decide, ite_ne (num_tupsN _) rfl (fun e => ?_) (fun _ => ?_)⟩⟩
    · rw [e3] at e; cases e
    · rw [e3]
      refine ⟨rp, fun s4 h4 => ⟨3, [x, y, z], ks, rfl, fun u hu => ?_, fun u hu => ?_, fun _ => ⟨rp, fun s5 h5 => q _ gs n _ (decide_eq_true (h4.trans h5.symm)) (R0.mono (by omega)) rfl⟩⟩⟩
      · obtain ⟨_, _, _, rfl⟩ := tr3_is (hmem u hu); rfl
      · have := tr3_asc (endsOf row)
        rw [e3] at this
        exact (List.pairwise_cons.mp this).1 u hu
  | nil =>
    have etd : toldD row = .tup (swL (endsOf row)) := by unfold toldD; rw [e3]
    have ht : tripOf (endsOf row) = .non := by rw [trip_head, e3]; rfl
    have nt := noTr_of hr ht
    obtain ⟨o1, o2⟩ := ok_swL hr
    have rp := o1.repr (by decide)
    refine ⟨rp0, fun s0 h0 => ⟨row, m, false, rfl, hr, fun d1 _ e1 => ?_⟩⟩
    rw [etd] at e1
    subst e1
    refine ⟨row, m, true, rfl, hr, fun d2 _ e2 => ?_⟩
    rw [etd] at e2
    subst e2
    refine ⟨rp, fun s1 h1 => ⟨rp, fun s2 h2 => ite_nd (fun _ => ?_) (fun h => absurd (h1.trans h2.symm) h)⟩⟩
    refine ⟨rp0, fun s3 h3 => ite_nd (fun _ => ?_) (fun h => absurd (h3.trans h0.symm) h)⟩
    refine ⟨row, m, rfl, hr, fun _ _ _ => ⟨num_tups _, by decide, ite_ne (num_tupsN _) rfl (fun _ => ?_) (fun e => ?_)⟩⟩
    · rw [e3]
      refine ⟨rp, fun s4 h4 => ⟨row, m, rfl, hr, fun _ _ => ⟨rp, fun s5 h5 => ite_nd (fun _ => ?_) (fun h => absurd (h4.trans h5.symm) h)⟩⟩⟩
      refine ⟨⟨by decide, by decide⟩, fun i δ => ∃ (gs : List Int) (n : Int) (v5 v6 v7 v8 v9 v10 v11 v12 v13 : Option Sl), δ = [some (.o a (.rng cs gs n)), some (.i (rowD row)), some (.i (.str s0)), some (.i (.tup (swL (endsOf row)))), some (.i (.lst [])), v5, v6, v7, v8, v9, v10, v11, v12, v13] ∧ Rn cs gs n (k + 10000 - 2000 * i),
        ⟨gs, n, _, _, _, _, _, _, _, _, _, rfl, R0⟩, ?_, ?_⟩
      · rintro i d δ2 hd ⟨gs, n, v5, v6, v7, v8, v9, v10, v11, v12, v13, rfl, R⟩
        obtain ⟨hi, rfl⟩ := rangeD_is hd
        have hi3 : i < 3 := by omega
        refine ⟨a, cs, gs, n, k + 10000 - 2000 * (i + 1), m, row, rfl, hr, nt, R.mono (by omega), fun G gs1 n1 δ1 hp R1 hδ1 => outM_of hδ1 ?_⟩
        have hT := hp.length_eq
        have hTl : (trL (endsOf row)).length = (pairsOf (endsOf row)).length := by unfold trL ksOf; rw [List.length_map, List.length_map]
        have hP := pairsOf_len (endsOf row) (by omega)
        have hG3 : ∀ g ∈ G, ∃ x z p : Int, g = [x, z, p] := fun g hg => by
          obtain ⟨x, z, _, _, _, _, rfl⟩ := (trL_mem hr g).mp (hp.subset hg)
          exact ⟨_, _, _, rfl⟩
        refine ⟨by rw [List.length_map, List.length_map, sizeLine_eq]; omega, fun d => some (rot3B d), fun j d hd2 => ?_, fun _ => ?_⟩
        · obtain ⟨u, hu, rfl⟩ := seq_is hd2
          obtain ⟨g, hg, rfl⟩ : ∃ g, G[j]? = some g ∧ u = rotA g := by
            rw [List.getElem?_map] at hu
            cases e : G[j]? with
            | none => rw [e] at hu; cases hu
            | some g => rw [e] at hu; cases hu; exact ⟨g, rfl, rfl⟩
          obtain ⟨x, z, p, rfl⟩ := hG3 g (List.mem_of_getElem? hg)
          exact ⟨rfl, rfl, rfl⟩
        have eback : ((G.map rotA).map tupI).map rot3B = G.map tupI := by
          rw [List.map_map, List.map_map]
          refine List.map_congr_left fun g hg => ?_
          obtain ⟨x, z, p, rfl⟩ := hG3 g hg
          rfl
        rw [filterMap_some, eback]
        refine ⟨3, 64, G, by decide, rfl, fun g hg => trL_ok hr g (hp.subset hg), fun ms hms hs _ => ?_⟩
        have ems := tr_uniq hr (hms.trans hp) hs
        subst ems
        refine ⟨by have : (swL (endsOf row)).length = (pairsOf (endsOf row)).length := by unfold swL; rw [List.length_map]
                   rw [this, sizeLine_eq]; omega, fun d => some (rot3B d), fun j d hd2 => ?_, fun _ => ?_⟩
        · obtain ⟨x, z, p, rfl⟩ := swL_num hr d (List.mem_of_getElem? hd2)
          exact ⟨rfl, rfl, rfl⟩
        rw [filterMap_some, rotB_swL hr]
        refine ⟨num_tups _, num_tups _, ite_ne (num_tupsN _) (num_tupsN _) (fun _ => ?_) (fun h => absurd rfl h)⟩
        exact ⟨gs1, n1, _, _, _, _, _, _, _, _, _, rfl, R1⟩
      · rintro δ2 ⟨gs, n, v5, v6, v7, v8, v9, v10, v11, v12, v13, rfl, R⟩
        rw [rangeD_len] at R
        exact q _ gs n _ rfl (R.mono (by omega)) rfl
    · rw [e3] at e; exact absurd rfl e

def kf_right (B : Blt mg) (R : KR K mg "_law_right" s_right p_right ko_right) (K_spots : KF P w K mg base 3 "_law_spots" s_spots p_spots ko_spots sp_spots) (K_told : KF P w K mg base 5 "_law_told" s_told p_told ko_told sp_told) (K_triples : KF P w K mg base 3 "_law_triples" s_triples p_triples ko_triples sp_triples) (K_way : KF P w K mg base 3 "_law_way" s_way p_way ko_way sp_way) : KF P w K mg base 6 "_law_right" s_right p_right ko_right sp_right := { R with G := ok_right B R K_spots K_told K_triples K_way }
end
end SW

set_option maxHeartbeats 4000000
namespace SW
open PySem PySem.Spec PyProof.Rows L2
section
variable {P : Program} {w : World} {K : PySem.W.Frag} {mg : Str → Option Value} {base : Heap}
/-- the last items of the lists of a walk -/
theorem last_row {m : Nat} {row : List Int} {held0 : List (List Int)} {mv : Int → Int} (hW : Wlk m row held0 mv) :
    ((held0.map fun l => l.map D.int).map D.lst).length = m ∧ (∀ (i : Nat) (d : D), ((held0.map fun l => l.map D.int).map D.lst)[i]? = some d → ∃ (l : List D) (x : Int), d = .lst l ∧ atI l (-1) = some (.int x) ∧ lastD d = .int x) ∧
    ((held0.map fun l => l.map D.int).map D.lst).map lastD = row.map D.int := by
  have hp := hW.p
  have hlo := hW.lastOk
  generalize held0.map (fun l => l.map D.int) = held at hlo ⊢
  have hl : held.length = m := by rw [hlo.1, hp.length_eq, span_len]
  refine ⟨by rw [List.length_map, hl], fun i d hd => ?_, hlo.row⟩
  obtain ⟨l, hl2, rfl⟩ := seq_is hd
  have hi : i < row.length := by
    have := (List.getElem?_eq_some_iff.mp hl2).1
    rw [← hlo.1]; exact this
  obtain ⟨pre, hpre⟩ := hlo.2 i _ (List.getElem?_eq_getElem hi)
  rw [hpre] at hl2
  cases hl2
  refine ⟨_, _, rfl, atI_last, ?_⟩
  show ((pre ++ [D.int _]).getLast?.getD .non) = _
  simp
abbrev s_law : Stmt := top 29
abbrev N_law : List Str := ["_law_script", "_law_m", "_law_trial", "_law_many", "_law_held"]
abbrev p_law : List Str := ["_law_script"]
abbrev ko_law : List (List Str × List Nat) := []
theorem sc_law : FnScope N_law p_law (defScope s_law) := ⟨rfl, rfl, rfl, by decide +kernel, rfl, by decide +kernel, by decide +kernel⟩
def sp_law (K : PySem.W.Frag) : DSp := fun args Q _ => ∃ (sa : Addr) (ns : List Int) (sc : Prop), args = [.i (.scr sa ns sc)] ∧ ns.length ≤ 63 ∧ (sc → ∀ H, SqL K H sa (ns.map V.int)) ∧ ∀ (b : Bool) (δ : DEnv), b = true → Q (.i (.bl b)) δ
theorem ok_law (B : Blt mg) (R : KR K mg "law" s_law p_law ko_law) (K_begun : KF P w K mg base 2 "_law_begun" s_begun p_begun ko_begun (sp_begun K)) (K_draw : KF P w K mg base 2 "_law_draw" s_draw p_draw ko_draw sp_draw) (K_mixed_up : KF P w K mg base 3 "_law_mixed_up" s_mixed_up p_mixed_up ko_mixed_up sp_mixed_up) (K_right : KF P w K mg base 6 "_law_right" s_right p_right ko_right sp_right) (K_walked : KF P w K mg base 3 "_law_walked" s_walked p_walked ko_walked sp_walked) : FnG P w K mg base CX0 7 R.f R.fd p_law (lift (sp_law K)) := by
  refine dfn R.F sc_law (by intro args Q E h; first | (obtain ⟨_, rfl, _⟩ := h; rfl) | (obtain ⟨_, _, rfl, _⟩ := h; rfl) | (obtain ⟨_, _, _, rfl, _⟩ := h; rfl) | (obtain ⟨_, _, _, _, rfl, _⟩ := h; rfl) | (obtain ⟨_, _, _, _, _, rfl, _⟩ := h; rfl) | (obtain ⟨_, _, _, _, _, _, rfl, _⟩ := h; rfl) | (obtain ⟨_, _, _, _, _, _, _, rfl, _⟩ := h; rfl) | (obtain ⟨_, _, _, _, _, _, _, _, rfl, _⟩ := h; rfl) | (obtain ⟨_, _, _, _, _, _, _, _, _, rfl, _⟩ := h; rfl) | (obtain ⟨_, _, _, _, _, _, _, _, _, _, rfl, _⟩ := h; rfl) | (obtain ⟨_, _, _, _, _, _, _, _, _, _, _, rfl, _⟩ := h; rfl) | (obtain ⟨_, _, _, _, _, _, _, _, _, _, _, _, rfl, _⟩ := h; rfl) | (obtain ⟨_, _, _, _, _, _, _, _, _, _, _, _, _, rfl, _⟩ := h; rfl) | (obtain ⟨_, _, _, _, _, _, _, _, _, _, _, _, _, _, rfl, _⟩ := h; rfl) | (obtain ⟨_, _, _, _, _, _, _, _, _, _, _, _, _, _, _, rfl, _⟩ := h; rfl)) fun cdv A outer s H E gd hr => ⟨_, _, (dss_cons
      (ds_setL 1 sc_law.nd (dfl_call K_begun.G (hr.mono (by decide)) gd rfl K_begun.g K_begun.k K_begun.b .nil (fun _ => RIs.nil) pass0 (dapur (da_cons (dv 0) da_nil))))
      (dss_cons
      (ds_for PassesOwn.never rfl (di_range1 rfl B.range_ de_int) (dg 2 sc_law.nd) (dss_cons
        (ds_set 3 sc_law.nd (de_opm or_add os_add de_int (DE.dv (de_op op_mod os_mod (DE.dv (de_opm or_add os_add (dv 2) (DE.dv (de_callM 1 K_draw.G (hr.mono (by decide)) gd rfl K_draw.g K_draw.k K_draw.b .nil (fun _ => RIs.nil) pass0 (pv 1) (dapur (da_cons de_int da_nil)))))) (DE.dv de_int)))))
        (dss_cons
        (ds_if (db_not (db_val (de_callM 1 K_right.G (hr.mono (by decide)) gd rfl K_right.g K_right.k K_right.b .nil (fun _ => RIs.nil) pass0 (pv 1) (da_cons (de_T1 call_tupleX c1_tuple rfl B.tuple_ (by decide +kernel) (DE.dv (DF.de (df_lc (own := [("_law_held", 4)]) rfl sc_law.nd (blkOk_by (own := [("_law_held", 4)]) (N := N_law) (sc := defScope s_law) (by decide +kernel)) (di_seq (de_callM 1 K_walked.G (hr.mono (by decide)) gd rfl K_walked.g K_walked.k K_walked.b .nil (fun _ => RIs.nil) pass0 (pv 1) (dapur (da_cons (dv 3) da_nil)))) (fun _ _ _ _ _ => (dg 4 sc_law.nd)) (fun _ _ _ _ _ => dts_nil) (fun _ _ _ _ _ => (depur (de_ix ix_seq os_idx (DE.dv (dv 4)) (de_neg de_int)))) gin_name)))) da_nil)))) (dss_one
          (ds_ret de_bl)) dss_nil)
        (dss_one
        (ds_if (db_not (db_val (de_callM 1 K_right.G (hr.mono (by decide)) gd rfl K_right.g K_right.k K_right.b .nil (fun _ => RIs.nil) pass0 (pv 1) (da_cons (de_T1 call_tupleX c1_tuple rfl B.tuple_ (by decide +kernel) (DE.dv (de_callM 1 K_mixed_up.G (hr.mono (by decide)) gd rfl K_mixed_up.g K_mixed_up.k K_mixed_up.b .nil (fun _ => RIs.nil) pass0 (pv 1) (da_cons (DF.de (df_listRg1 rfl rfl B.list_ rfl B.range_ (de_opm or_add os_add de_int (DE.dv (de_callM 1 K_draw.G (hr.mono (by decide)) gd rfl K_draw.g K_draw.k K_draw.b .nil (fun _ => RIs.nil) pass0 (pv 1) (dapur (da_cons de_int da_nil))))))) da_nil)))) da_nil)))) (dss_one
          (ds_ret de_bl)) dss_nil)))))
      (dss_one
      (ds_ret (de_callM 1 K_right.G (hr.mono (by decide)) gd rfl K_right.g K_right.k K_right.b .nil (fun _ => RIs.nil) pass0 (pv 1) (da_cons (de_T1 call_tupleX c1_tuple rfl B.tuple_ (by decide +kernel) (DE.dv (DF.de (df_lc (own := [("_law_held", 4)]) rfl sc_law.nd (blkOk_by (own := [("_law_held", 4)]) (N := N_law) (sc := defScope s_law) (by decide +kernel)) (di_seq (de_callM 1 K_walked.G (hr.mono (by decide)) gd rfl K_walked.g K_walked.k K_walked.b .nil (fun _ => RIs.nil) pass0 (pv 1) (da_cons (de_opm or_add os_add de_int (DE.dv (de_callM 1 K_draw.G (hr.mono (by decide)) gd rfl K_draw.g K_draw.k K_draw.b .nil (fun _ => RIs.nil) pass0 (pv 1) (dapur (da_cons de_int da_nil))))) da_nil))) (fun _ _ _ _ _ => (dg 4 sc_law.nd)) (fun _ _ _ _ _ => dts_nil) (fun _ _ _ _ _ => (depur (de_ix ix_seq os_idx (DE.dv (dv 4)) (de_neg de_int)))) gin_name)))) da_nil)))))), fun args Q' E' h => ?_⟩
  obtain ⟨sa, ns, sc, rfl, hl, hsc, q⟩ := h
  refine ⟨sa, ns, sc, rfl, hl, hsc, fun a cs gs _ R0 => ?_⟩
  refine ⟨⟨by decide, by decide⟩, fun i δ => ∃ (gs : List Int) (n : Int) (v2 v3 v4 : Option Sl), δ = [some (.i (.scr sa ns sc)), some (.o a (.rng cs gs n)), v2, v3, v4] ∧ Rn cs gs n (1000000 - 50000 * i),
    ⟨gs, 0, _, _, _, rfl, R0.mono (by decide)⟩, ?_, ?_⟩
  · rintro i d δ2 hd ⟨gs, n, v2, v3, v4, rfl, R⟩
    obtain ⟨hi, rfl⟩ := rangeD_is hd
    refine ⟨a, cs, gs, n, 12, 1000000 - 50000 * i - 1, rfl, R.mono (by omega), by decide, by decide, fun r gs1 δ1 r0 r1 R1 hδ => outM_of hδ ⟨by show (0 : Int) < 12; decide, ?_⟩⟩
    obtain ⟨mm, hmm⟩ : ∃ mm : Nat, 1 + (0 + (i : Nat) + r) % 12 = (mm : Int) := ⟨(1 + (0 + (i : Nat) + r) % 12).toNat, by omega⟩
    refine ⟨a, cs, gs1, n + 1, 1000000 - 50000 * i - 1100, mm, by rw [← hmm]; rfl, by omega, by omega, R1.mono (by omega), fun row held mv gs2 n2 δ2 hW R2 hδ2 => outM_of hδ2 ?_⟩
    obtain ⟨w1, w2, w3⟩ := last_row hW
    refine ⟨by rw [w1, sizeLine_eq]; omega, fun d => some (lastD d), fun j d hd2 => ?_, fun _ => ?_⟩
    · obtain ⟨l, x, rfl, e1, e2⟩ := w2 j d hd2
      exact ⟨_, e1, congrArg some e2⟩
    rw [filterMap_some, w3]
    refine ⟨a, cs, gs2, n2, 1000000 - 50000 * i - 12000, mm, row, rfl, ⟨hW.p, by omega, by omega⟩, R2.mono (by omega), fun b gs3 n3 δ3 hb R3 hδ3 => outM_of hδ3 ?_⟩
    subst hb
    refine ⟨a, cs, gs3, n3, 9, 1000000 - 50000 * i - 12001, rfl, R3.mono (by omega), by decide, by decide, fun r' gs4 δ4 r0' r1' R4 hδ4 => outM_of hδ4 ?_⟩
    obtain ⟨m2, hm2⟩ : ∃ m2 : Nat, 1 + r' = (m2 : Int) := ⟨(1 + r').toNat, by omega⟩
    refine ⟨⟨by omega, by omega⟩, fun _ => ⟨a, cs, gs4, n3 + 1, 1000000 - 50000 * i - 13100, rangeD 0 (m2 : Int), by rw [← hm2]; rfl, by rw [rangeD_len]; omega, R4.mono (by omega), fun b2 es gs5 n5 δ5 hp R5 hδ5 => outM_of hδ5 ?_⟩⟩
    rw [rangeD_span] at hp
    obtain ⟨row2, rfl, hr2⟩ := perm_ints hp
    refine ⟨a, cs, gs5, n5, 1000000 - 50000 * i - 24000, m2, row2, rfl, ⟨hr2, by omega, by omega⟩, R5.mono (by omega), fun b gs6 n6 δ6 hb R6 hδ6 => outM_of hδ6 ?_⟩
    subst hb
    exact ⟨gs6, n6, _, _, _, rfl, R6.mono (by omega)⟩
  · rintro δ2 ⟨gs, n, v2, v3, v4, rfl, R⟩
    rw [rangeD_len] at R
    refine ⟨a, cs, gs, n, 40, 500000, rfl, R.mono (by decide), by decide, by decide, fun r gs1 δ1 r0 r1 R1 hδ => outM_of hδ ?_⟩
    obtain ⟨mm, hmm⟩ : ∃ mm : Nat, 1 + r = (mm : Int) := ⟨(1 + r).toNat, by omega⟩
    refine ⟨a, cs, gs1, n + 1, 450000, mm, by rw [← hmm]; rfl, by omega, by omega, R1.mono (by omega), fun row held mv gs2 n2 δ2 hW R2 hδ2 => outM_of hδ2 ?_⟩
    obtain ⟨w1, w2, w3⟩ := last_row hW
    refine ⟨by rw [w1, sizeLine_eq]; omega, fun d => some (lastD d), fun j d hd2 => ?_, fun _ => ?_⟩
    · obtain ⟨l, x, rfl, e1, e2⟩ := w2 j d hd2
      exact ⟨_, e1, congrArg some e2⟩
    rw [filterMap_some, w3]
    exact ⟨a, cs, gs2, n2, 400000, mm, row, rfl, ⟨hW.p, by omega, by omega⟩, R2.mono (by omega), fun b gs3 n3 δ3 hb R3 hδ3 => outM_of hδ3 (q _ _ hb)⟩

def kf_law (B : Blt mg) (R : KR K mg "law" s_law p_law ko_law) (K_begun : KF P w K mg base 2 "_law_begun" s_begun p_begun ko_begun (sp_begun K)) (K_draw : KF P w K mg base 2 "_law_draw" s_draw p_draw ko_draw sp_draw) (K_mixed_up : KF P w K mg base 3 "_law_mixed_up" s_mixed_up p_mixed_up ko_mixed_up sp_mixed_up) (K_right : KF P w K mg base 6 "_law_right" s_right p_right ko_right sp_right) (K_walked : KF P w K mg base 3 "_law_walked" s_walked p_walked ko_walked sp_walked) : KF P w K mg base 7 "law" s_law p_law ko_law (sp_law K) := { R with G := ok_law B R K_begun K_draw K_mixed_up K_right K_walked }
end
end SW

set_option maxHeartbeats 4000000
namespace SW
open PySem PySem.Spec PyProof.Rows L2
theorem binds1 {K : PySem.W.Frag} {fd : FuncData} {ps : List Str} (h : ∀ us : List Value, us.length = ps.length → bindArgs fd ⟨us, []⟩ = pure (ps.zip us)) : Binds K fd ps [] := .all h
set_option linter.unusedVariables false in
theorem law_all {l : PySem.W.OpenLaw} {w : World} {K : PySem.W.Frag} {h : Heap} {mg : Str → Option Value} {fa : Addr} (X : K.In h) (G : h.Ns mainGlobals mg) (hfa : mg "law" = some (.ref fa))
    {f_mixed : Addr} {od_mixed an_mixed : Option Addr} {sl_mixed : Array (Option Value)} {oc_mixed kV_mixed dc_mixed pm_mixed cd_mixed ct_mixed : Value}
    {f_folded : Addr} {od_folded an_folded : Option Addr} {sl_folded : Array (Option Value)} {oc_folded kV_folded dc_folded pm_folded cd_folded ct_folded : Value}
    {f_draw : Addr} {od_draw an_draw : Option Addr} {sl_draw : Array (Option Value)} {oc_draw kV_draw dc_draw pm_draw cd_draw ct_draw : Value}
    {f_begun : Addr} {od_begun an_begun : Option Addr} {sl_begun : Array (Option Value)} {oc_begun kV_begun dc_begun pm_begun cd_begun ct_begun : Value}
    {f_mixed_up : Addr} {od_mixed_up an_mixed_up : Option Addr} {sl_mixed_up : Array (Option Value)} {oc_mixed_up kV_mixed_up dc_mixed_up pm_mixed_up cd_mixed_up ct_mixed_up : Value}
    {f_walked : Addr} {od_walked an_walked : Option Addr} {sl_walked : Array (Option Value)} {oc_walked kV_walked dc_walked pm_walked cd_walked ct_walked : Value}
    {f_is_integer : Addr} {od_is_integer an_is_integer : Option Addr} {sl_is_integer : Array (Option Value)} {oc_is_integer kV_is_integer dc_is_integer pm_is_integer cd_is_integer ct_is_integer : Value}
    {f_is_number_below : Addr} {od_is_number_below an_is_number_below : Option Addr} {sl_is_number_below : Array (Option Value)} {oc_is_number_below kV_is_number_below dc_is_number_below pm_is_number_below cd_is_number_below ct_is_number_below : Value}
    {f_check_arrangement : Addr} {od_check_arrangement an_check_arrangement : Option Addr} {sl_check_arrangement : Array (Option Value)} {oc_check_arrangement kV_check_arrangement dc_check_arrangement pm_check_arrangement cd_check_arrangement ct_check_arrangement : Value}
    {f_goals_of : Addr} {od_goals_of an_goals_of : Option Addr} {sl_goals_of : Array (Option Value)} {oc_goals_of kV_goals_of dc_goals_of pm_goals_of cd_goals_of ct_goals_of : Value}
    {f_inversions_of : Addr} {od_inversions_of an_inversions_of : Option Addr} {sl_inversions_of : Array (Option Value)} {oc_inversions_of kV_inversions_of dc_inversions_of pm_inversions_of cd_inversions_of ct_inversions_of : Value}
    {f_least_triple : Addr} {od_least_triple an_least_triple : Option Addr} {sl_least_triple : Array (Option Value)} {oc_least_triple kV_least_triple dc_least_triple pm_least_triple cd_least_triple ct_least_triple : Value}
    {f_swap_list : Addr} {od_swap_list an_swap_list : Option Addr} {sl_swap_list : Array (Option Value)} {oc_swap_list kV_swap_list dc_swap_list pm_swap_list cd_swap_list ct_swap_list : Value}
    {f_ends : Addr} {od_ends an_ends : Option Addr} {sl_ends : Array (Option Value)} {oc_ends kV_ends dc_ends pm_ends cd_ends ct_ends : Value}
    {f_lpairs : Addr} {od_lpairs an_lpairs : Option Addr} {sl_lpairs : Array (Option Value)} {oc_lpairs kV_lpairs dc_lpairs pm_lpairs cd_lpairs ct_lpairs : Value}
    {f_places : Addr} {od_places an_places : Option Addr} {sl_places : Array (Option Value)} {oc_places kV_places dc_places pm_places cd_places ct_places : Value}
    {f_told : Addr} {od_told an_told : Option Addr} {sl_told : Array (Option Value)} {oc_told kV_told dc_told pm_told cd_told ct_told : Value}
    {f_triples : Addr} {od_triples an_triples : Option Addr} {sl_triples : Array (Option Value)} {oc_triples kV_triples dc_triples pm_triples cd_triples ct_triples : Value}
    {f_spots : Addr} {od_spots an_spots : Option Addr} {sl_spots : Array (Option Value)} {oc_spots kV_spots dc_spots pm_spots cd_spots ct_spots : Value}
    {f_way : Addr} {od_way an_way : Option Addr} {sl_way : Array (Option Value)} {oc_way kV_way dc_way pm_way cd_way ct_way : Value}
    {f_right : Addr} {od_right an_right : Option Addr} {sl_right : Array (Option Value)} {oc_right kV_right dc_right pm_right cd_right ct_right : Value}
    {f_law : Addr} {od_law an_law : Option Addr} {sl_law : Array (Option Value)} {oc_law kV_law dc_law pm_law cd_law ct_law : Value}
    {t_MAX_PEOPLE : Tok}
    {C_SwaprowError : Addr}
    {C_DecreasingTriple fI_DecreasingTriple N_DecreasingTriple : Addr} {nm_DecreasingTriple q_DecreasingTriple : Str} {bs_DecreasingTriple bm_DecreasingTriple sub_DecreasingTriple : List Value} {sn_DecreasingTriple : List Str} {ab_DecreasingTriple : Bool} {col_DecreasingTriple : Option Bool} {dd_DecreasingTriple : Option Addr} {m0_DecreasingTriple m1_DecreasingTriple m2_DecreasingTriple m3_DecreasingTriple m5_DecreasingTriple : Option Value}
    {od_i_DecreasingTriple an_i_DecreasingTriple : Option Addr} {sl_i_DecreasingTriple : Array (Option Value)} {oc_i_DecreasingTriple kV_i_DecreasingTriple dc_i_DecreasingTriple pm_i_DecreasingTriple cd_i_DecreasingTriple ct_i_DecreasingTriple : Value}
    (a_mixed : PySem.W.nsIn K mainGlobals "_law_mixed" = some (some (.ref f_mixed))) (l_mixed : K.lookup f_mixed = some ⟨oc_mixed, od_mixed, .func (PySem.W.fnOf "_law_mixed" "_law_mixed" (defArgs s_mixed) (defBody s_mixed) (defScope s_mixed) .none kV_mixed dc_mixed pm_mixed an_mixed cd_mixed ct_mixed), sl_mixed⟩) (c_mixed : PySem.W.codeIn K cd_mixed "_law_mixed" = true) (k_mixed : PySem.W.keepIn K (.ref f_mixed) = true)
    (a_folded : PySem.W.nsIn K mainGlobals "_law_folded" = some (some (.ref f_folded))) (l_folded : K.lookup f_folded = some ⟨oc_folded, od_folded, .func (PySem.W.fnOf "_law_folded" "_law_folded" (defArgs s_folded) (defBody s_folded) (defScope s_folded) .none kV_folded dc_folded pm_folded an_folded cd_folded ct_folded), sl_folded⟩) (c_folded : PySem.W.codeIn K cd_folded "_law_folded" = true) (k_folded : PySem.W.keepIn K (.ref f_folded) = true)
    (a_draw : PySem.W.nsIn K mainGlobals "_law_draw" = some (some (.ref f_draw))) (l_draw : K.lookup f_draw = some ⟨oc_draw, od_draw, .func (PySem.W.fnOf "_law_draw" "_law_draw" (defArgs s_draw) (defBody s_draw) (defScope s_draw) .none kV_draw dc_draw pm_draw an_draw cd_draw ct_draw), sl_draw⟩) (c_draw : PySem.W.codeIn K cd_draw "_law_draw" = true) (k_draw : PySem.W.keepIn K (.ref f_draw) = true)
    (a_begun : PySem.W.nsIn K mainGlobals "_law_begun" = some (some (.ref f_begun))) (l_begun : K.lookup f_begun = some ⟨oc_begun, od_begun, .func (PySem.W.fnOf "_law_begun" "_law_begun" (defArgs s_begun) (defBody s_begun) (defScope s_begun) .none kV_begun dc_begun pm_begun an_begun cd_begun ct_begun), sl_begun⟩) (c_begun : PySem.W.codeIn K cd_begun "_law_begun" = true) (k_begun : PySem.W.keepIn K (.ref f_begun) = true)
    (a_mixed_up : PySem.W.nsIn K mainGlobals "_law_mixed_up" = some (some (.ref f_mixed_up))) (l_mixed_up : K.lookup f_mixed_up = some ⟨oc_mixed_up, od_mixed_up, .func (PySem.W.fnOf "_law_mixed_up" "_law_mixed_up" (defArgs s_mixed_up) (defBody s_mixed_up) (defScope s_mixed_up) .none kV_mixed_up dc_mixed_up pm_mixed_up an_mixed_up cd_mixed_up ct_mixed_up), sl_mixed_up⟩) (c_mixed_up : PySem.W.codeIn K cd_mixed_up "_law_mixed_up" = true) (k_mixed_up : PySem.W.keepIn K (.ref f_mixed_up) = true)
    (a_walked : PySem.W.nsIn K mainGlobals "_law_walked" = some (some (.ref f_walked))) (l_walked : K.lookup f_walked = some ⟨oc_walked, od_walked, .func (PySem.W.fnOf "_law_walked" "_law_walked" (defArgs s_walked) (defBody s_walked) (defScope s_walked) .none kV_walked dc_walked pm_walked an_walked cd_walked ct_walked), sl_walked⟩) (c_walked : PySem.W.codeIn K cd_walked "_law_walked" = true) (k_walked : PySem.W.keepIn K (.ref f_walked) = true)
    (a_is_integer : PySem.W.nsIn K mainGlobals "is_integer" = some (some (.ref f_is_integer))) (l_is_integer : K.lookup f_is_integer = some ⟨oc_is_integer, od_is_integer, .func (PySem.W.fnOf "is_integer" "is_integer" (defArgs s_is_integer) (defBody s_is_integer) (defScope s_is_integer) .none kV_is_integer dc_is_integer pm_is_integer an_is_integer cd_is_integer ct_is_integer), sl_is_integer⟩) (c_is_integer : PySem.W.codeIn K cd_is_integer "is_integer" = true) (k_is_integer : PySem.W.keepIn K (.ref f_is_integer) = true)
    (a_is_number_below : PySem.W.nsIn K mainGlobals "is_number_below" = some (some (.ref f_is_number_below))) (l_is_number_below : K.lookup f_is_number_below = some ⟨oc_is_number_below, od_is_number_below, .func (PySem.W.fnOf "is_number_below" "is_number_below" (defArgs s_is_number_below) (defBody s_is_number_below) (defScope s_is_number_below) .none kV_is_number_below dc_is_number_below pm_is_number_below an_is_number_below cd_is_number_below ct_is_number_below), sl_is_number_below⟩) (c_is_number_below : PySem.W.codeIn K cd_is_number_below "is_number_below" = true) (k_is_number_below : PySem.W.keepIn K (.ref f_is_number_below) = true)
    (a_check_arrangement : PySem.W.nsIn K mainGlobals "check_arrangement" = some (some (.ref f_check_arrangement))) (l_check_arrangement : K.lookup f_check_arrangement = some ⟨oc_check_arrangement, od_check_arrangement, .func (PySem.W.fnOf "check_arrangement" "check_arrangement" (defArgs s_check_arrangement) (defBody s_check_arrangement) (defScope s_check_arrangement) .none kV_check_arrangement dc_check_arrangement pm_check_arrangement an_check_arrangement cd_check_arrangement ct_check_arrangement), sl_check_arrangement⟩) (c_check_arrangement : PySem.W.codeIn K cd_check_arrangement "check_arrangement" = true) (k_check_arrangement : PySem.W.keepIn K (.ref f_check_arrangement) = true)
    (a_goals_of : PySem.W.nsIn K mainGlobals "goals_of" = some (some (.ref f_goals_of))) (l_goals_of : K.lookup f_goals_of = some ⟨oc_goals_of, od_goals_of, .func (PySem.W.fnOf "goals_of" "goals_of" (defArgs s_goals_of) (defBody s_goals_of) (defScope s_goals_of) .none kV_goals_of dc_goals_of pm_goals_of an_goals_of cd_goals_of ct_goals_of), sl_goals_of⟩) (c_goals_of : PySem.W.codeIn K cd_goals_of "goals_of" = true) (k_goals_of : PySem.W.keepIn K (.ref f_goals_of) = true)
    (a_inversions_of : PySem.W.nsIn K mainGlobals "inversions_of" = some (some (.ref f_inversions_of))) (l_inversions_of : K.lookup f_inversions_of = some ⟨oc_inversions_of, od_inversions_of, .func (PySem.W.fnOf "inversions_of" "inversions_of" (defArgs s_inversions_of) (defBody s_inversions_of) (defScope s_inversions_of) .none kV_inversions_of dc_inversions_of pm_inversions_of an_inversions_of cd_inversions_of ct_inversions_of), sl_inversions_of⟩) (c_inversions_of : PySem.W.codeIn K cd_inversions_of "inversions_of" = true) (k_inversions_of : PySem.W.keepIn K (.ref f_inversions_of) = true)
    (a_least_triple : PySem.W.nsIn K mainGlobals "least_triple" = some (some (.ref f_least_triple))) (l_least_triple : K.lookup f_least_triple = some ⟨oc_least_triple, od_least_triple, .func (PySem.W.fnOf "least_triple" "least_triple" (defArgs s_least_triple) (defBody s_least_triple) (defScope s_least_triple) .none kV_least_triple dc_least_triple pm_least_triple an_least_triple cd_least_triple ct_least_triple), sl_least_triple⟩) (c_least_triple : PySem.W.codeIn K cd_least_triple "least_triple" = true) (k_least_triple : PySem.W.keepIn K (.ref f_least_triple) = true)
    (a_swap_list : PySem.W.nsIn K mainGlobals "swap_list" = some (some (.ref f_swap_list))) (l_swap_list : K.lookup f_swap_list = some ⟨oc_swap_list, od_swap_list, .func (PySem.W.fnOf "swap_list" "swap_list" (defArgs s_swap_list) (defBody s_swap_list) (defScope s_swap_list) .none kV_swap_list dc_swap_list pm_swap_list an_swap_list cd_swap_list ct_swap_list), sl_swap_list⟩) (c_swap_list : PySem.W.codeIn K cd_swap_list "swap_list" = true) (k_swap_list : PySem.W.keepIn K (.ref f_swap_list) = true)
    (a_ends : PySem.W.nsIn K mainGlobals "_law_ends" = some (some (.ref f_ends))) (l_ends : K.lookup f_ends = some ⟨oc_ends, od_ends, .func (PySem.W.fnOf "_law_ends" "_law_ends" (defArgs s_ends) (defBody s_ends) (defScope s_ends) .none kV_ends dc_ends pm_ends an_ends cd_ends ct_ends), sl_ends⟩) (c_ends : PySem.W.codeIn K cd_ends "_law_ends" = true) (k_ends : PySem.W.keepIn K (.ref f_ends) = true)
    (a_lpairs : PySem.W.nsIn K mainGlobals "_law_pairs" = some (some (.ref f_lpairs))) (l_lpairs : K.lookup f_lpairs = some ⟨oc_lpairs, od_lpairs, .func (PySem.W.fnOf "_law_pairs" "_law_pairs" (defArgs s_lpairs) (defBody s_lpairs) (defScope s_lpairs) .none kV_lpairs dc_lpairs pm_lpairs an_lpairs cd_lpairs ct_lpairs), sl_lpairs⟩) (c_lpairs : PySem.W.codeIn K cd_lpairs "_law_pairs" = true) (k_lpairs : PySem.W.keepIn K (.ref f_lpairs) = true)
    (a_places : PySem.W.nsIn K mainGlobals "places" = some (some (.ref f_places))) (l_places : K.lookup f_places = some ⟨oc_places, od_places, .func (PySem.W.fnOf "places" "places" (defArgs s_places) (defBody s_places) (defScope s_places) .none kV_places dc_places pm_places an_places cd_places ct_places), sl_places⟩) (c_places : PySem.W.codeIn K cd_places "places" = true) (k_places : PySem.W.keepIn K (.ref f_places) = true)
    (a_told : PySem.W.nsIn K mainGlobals "_law_told" = some (some (.ref f_told))) (l_told : K.lookup f_told = some ⟨oc_told, od_told, .func (PySem.W.fnOf "_law_told" "_law_told" (defArgs s_told) (defBody s_told) (defScope s_told) .none kV_told dc_told pm_told an_told cd_told ct_told), sl_told⟩) (c_told : PySem.W.codeIn K cd_told "_law_told" = true) (k_told : PySem.W.keepIn K (.ref f_told) = true)
    (a_triples : PySem.W.nsIn K mainGlobals "_law_triples" = some (some (.ref f_triples))) (l_triples : K.lookup f_triples = some ⟨oc_triples, od_triples, .func (PySem.W.fnOf "_law_triples" "_law_triples" (defArgs s_triples) (defBody s_triples) (defScope s_triples) .none kV_triples dc_triples pm_triples an_triples cd_triples ct_triples), sl_triples⟩) (c_triples : PySem.W.codeIn K cd_triples "_law_triples" = true) (k_triples : PySem.W.keepIn K (.ref f_triples) = true)
    (a_spots : PySem.W.nsIn K mainGlobals "_law_spots" = some (some (.ref f_spots))) (l_spots : K.lookup f_spots = some ⟨oc_spots, od_spots, .func (PySem.W.fnOf "_law_spots" "_law_spots" (defArgs s_spots) (defBody s_spots) (defScope s_spots) .none kV_spots dc_spots pm_spots an_spots cd_spots ct_spots), sl_spots⟩) (c_spots : PySem.W.codeIn K cd_spots "_law_spots" = true) (k_spots : PySem.W.keepIn K (.ref f_spots) = true)
    (a_way : PySem.W.nsIn K mainGlobals "_law_way" = some (some (.ref f_way))) (l_way : K.lookup f_way = some ⟨oc_way, od_way, .func (PySem.W.fnOf "_law_way" "_law_way" (defArgs s_way) (defBody s_way) (defScope s_way) .none kV_way dc_way pm_way an_way cd_way ct_way), sl_way⟩) (c_way : PySem.W.codeIn K cd_way "_law_way" = true) (k_way : PySem.W.keepIn K (.ref f_way) = true)
    (a_right : PySem.W.nsIn K mainGlobals "_law_right" = some (some (.ref f_right))) (l_right : K.lookup f_right = some ⟨oc_right, od_right, .func (PySem.W.fnOf "_law_right" "_law_right" (defArgs s_right) (defBody s_right) (defScope s_right) .none kV_right dc_right pm_right an_right cd_right ct_right), sl_right⟩) (c_right : PySem.W.codeIn K cd_right "_law_right" = true) (k_right : PySem.W.keepIn K (.ref f_right) = true)
    (a_law : PySem.W.nsIn K mainGlobals "law" = some (some (.ref f_law))) (l_law : K.lookup f_law = some ⟨oc_law, od_law, .func (PySem.W.fnOf "law" "law" (defArgs s_law) (defBody s_law) (defScope s_law) .none kV_law dc_law pm_law an_law cd_law ct_law), sl_law⟩) (c_law : PySem.W.codeIn K cd_law "law" = true) (k_law : PySem.W.keepIn K (.ref f_law) = true)
    (z_bool : PySem.W.nsIn K mainGlobals "bool" = some none)
    (z_enumerate : PySem.W.nsIn K mainGlobals "enumerate" = some none)
    (z_int : PySem.W.nsIn K mainGlobals "int" = some none)
    (z_isinstance : PySem.W.nsIn K mainGlobals "isinstance" = some none)
    (z_len : PySem.W.nsIn K mainGlobals "len" = some none)
    (z_list : PySem.W.nsIn K mainGlobals "list" = some none)
    (z_min : PySem.W.nsIn K mainGlobals "min" = some none)
    (z_range : PySem.W.nsIn K mainGlobals "range" = some none)
    (z_repr : PySem.W.nsIn K mainGlobals "repr" = some none)
    (z_sorted : PySem.W.nsIn K mainGlobals "sorted" = some none)
    (z_tuple : PySem.W.nsIn K mainGlobals "tuple" = some none)
    (y_MAX_PEOPLE : PySem.W.nsIn K mainGlobals "MAX_PEOPLE" = some (some (.int 40 t_MAX_PEOPLE)))
    (gB : PySem.W.nsIn K mainGlobals "SwaprowError" = some (some (.ref C_SwaprowError)))
    (bg : PySem.W.specialIn K (.ref C_SwaprowError) "__getattribute__" = some (some (.builtin "type.__getattribute__")))
    (br : PySem.W.readsIn K C_SwaprowError (.type "type") = true)
    (bv : PySem.W.findCls K (.ref C_SwaprowError) (.type "type") "__init__" = some (.val (.builtin "ValueError.__init__")))
    (gc_DecreasingTriple : PySem.W.nsIn K mainGlobals "DecreasingTriple" = some (some (.ref C_DecreasingTriple)))
    (xL_DecreasingTriple : K.lookup C_DecreasingTriple = some (excClassObj nm_DecreasingTriple q_DecreasingTriple C_DecreasingTriple N_DecreasingTriple bs_DecreasingTriple bm_DecreasingTriple true sn_DecreasingTriple sub_DecreasingTriple ab_DecreasingTriple col_DecreasingTriple dd_DecreasingTriple m0_DecreasingTriple m1_DecreasingTriple m2_DecreasingTriple m3_DecreasingTriple m5_DecreasingTriple "ValueError.__new__"))
    (bm_ok_DecreasingTriple : PySem.HandSPX.refsVE bm_DecreasingTriple = true)
    (sa_DecreasingTriple : PySem.W.findIn K (.ref C_DecreasingTriple) "__setattr__" = some (some (.builtin "object.__setattr__")))
    (ga_DecreasingTriple : PySem.W.findIn K (.ref C_DecreasingTriple) "__getattribute__" = some (some (.builtin "BaseException.__getattribute__")))
    (gg_DecreasingTriple : PySem.W.findIn K (.ref C_DecreasingTriple) "__getattr__" = some none)
    (nf_DecreasingTriple : PySem.W.findIn K (.ref C_DecreasingTriple) "triple" = some none)
    (ic_DecreasingTriple : PySem.W.findIn K (.ref C_DecreasingTriple) "__init__" = some (some (.ref fI_DecreasingTriple)))
    (ti_DecreasingTriple : PySem.W.typeIn K (.ref fI_DecreasingTriple) = some (.type "function"))
    (li_DecreasingTriple : K.lookup fI_DecreasingTriple = some ⟨oc_i_DecreasingTriple, od_i_DecreasingTriple, .func (PySem.W.fnOf "__init__" "DecreasingTriple.__init__" (defArgs s_i_DecreasingTriple) (defBody s_i_DecreasingTriple) (defScope s_i_DecreasingTriple) .none kV_i_DecreasingTriple dc_i_DecreasingTriple pm_i_DecreasingTriple an_i_DecreasingTriple cd_i_DecreasingTriple ct_i_DecreasingTriple), sl_i_DecreasingTriple⟩)
    (ci_DecreasingTriple : PySem.W.codeIn K cd_i_DecreasingTriple "DecreasingTriple.__init__" = true)
    (ki_DecreasingTriple : PySem.W.keepIn K (.ref fI_DecreasingTriple) = true)
    (kc_DecreasingTriple : PySem.W.keepIn K (.ref C_DecreasingTriple) = true)
    (eC_DecreasingTriple : PySem.W.subIn K (.ref C_DecreasingTriple) (.type "BaseException") = some true)
    (tC_DecreasingTriple : PySem.W.typeIn K (.ref C_DecreasingTriple) = some (.type "type"))
    (hC_DecreasingTriple : PySem.W.hasDictIn K C_DecreasingTriple = true)
    (s_DecreasingTriple_DecreasingTriple : PySem.W.subIn K (.ref C_DecreasingTriple) (.ref C_DecreasingTriple) = some true)
    : ∃ fd : FuncData, (∀ (s : Shared) (v : Value), BindsTo s fd ⟨[v], []⟩ [("_law_script", v)]) ∧ ∀ base : Heap, K.In base → base.Ns mainGlobals mg → FnG l.prog w K mg base CX0 7 fa fd ["_law_script"] (lift (sp_law K)) := by
  have e := hfa.symm.trans (PySem.W.mg_of X G a_law)
  cases e
  have B : Blt mg := ⟨PySem.W.mg_none_of X G z_bool, PySem.W.mg_none_of X G z_enumerate, PySem.W.mg_none_of X G z_int, PySem.W.mg_none_of X G z_isinstance, PySem.W.mg_none_of X G z_len, PySem.W.mg_none_of X G z_list, PySem.W.mg_none_of X G z_min, PySem.W.mg_none_of X G z_range, PySem.W.mg_none_of X G z_repr, PySem.W.mg_none_of X G z_sorted, PySem.W.mg_none_of X G z_tuple, ⟨_, PySem.W.mg_of X G y_MAX_PEOPLE⟩⟩
  have F_mixed := fun_mk (st := s_mixed) l_mixed c_mixed k_mixed
  have b_mixed := F_mixed.binds (ps := p_mixed) fun _ _ _ _ _ _ us hl => match us, hl with | [_, _], _ => rfl
  let R_mixed : KR K mg "_law_mixed" s_mixed p_mixed ko_mixed := ⟨_, _, F_mixed, PySem.W.mg_of X G a_mixed, k_mixed, b_mixed, fun s ws hl => match ws, hl with | [_, _], _ => .of_eq rfl, fun o ho => nomatch ho⟩
  have F_folded := fun_mk (st := s_folded) l_folded c_folded k_folded
  have b_folded := F_folded.binds (ps := p_folded) fun _ _ _ _ _ _ us hl => match us, hl with | [_], _ => rfl
  let R_folded : KR K mg "_law_folded" s_folded p_folded ko_folded := ⟨_, _, F_folded, PySem.W.mg_of X G a_folded, k_folded, b_folded, fun s ws hl => match ws, hl with | [_], _ => .of_eq rfl, fun o ho => nomatch ho⟩
  have F_draw := fun_mk (st := s_draw) l_draw c_draw k_draw
  have b_draw := F_draw.binds (ps := p_draw) fun _ _ _ _ _ _ us hl => match us, hl with | [_, _], _ => rfl
  let R_draw : KR K mg "_law_draw" s_draw p_draw ko_draw := ⟨_, _, F_draw, PySem.W.mg_of X G a_draw, k_draw, b_draw, fun s ws hl => match ws, hl with | [_, _], _ => .of_eq rfl, fun o ho => nomatch ho⟩
  have F_begun := fun_mk (st := s_begun) l_begun c_begun k_begun
  have b_begun := F_begun.binds (ps := p_begun) fun _ _ _ _ _ _ us hl => match us, hl with | [_], _ => rfl
  let R_begun : KR K mg "_law_begun" s_begun p_begun ko_begun := ⟨_, _, F_begun, PySem.W.mg_of X G a_begun, k_begun, b_begun, fun s ws hl => match ws, hl with | [_], _ => .of_eq rfl, fun o ho => nomatch ho⟩
  have F_mixed_up := fun_mk (st := s_mixed_up) l_mixed_up c_mixed_up k_mixed_up
  have b_mixed_up := F_mixed_up.binds (ps := p_mixed_up) fun _ _ _ _ _ _ us hl => match us, hl with | [_, _], _ => rfl
  let R_mixed_up : KR K mg "_law_mixed_up" s_mixed_up p_mixed_up ko_mixed_up := ⟨_, _, F_mixed_up, PySem.W.mg_of X G a_mixed_up, k_mixed_up, b_mixed_up, fun s ws hl => match ws, hl with | [_, _], _ => .of_eq rfl, fun o ho => nomatch ho⟩
  have F_walked := fun_mk (st := s_walked) l_walked c_walked k_walked
  have b_walked := F_walked.binds (ps := p_walked) fun _ _ _ _ _ _ us hl => match us, hl with | [_, _], _ => rfl
  let R_walked : KR K mg "_law_walked" s_walked p_walked ko_walked := ⟨_, _, F_walked, PySem.W.mg_of X G a_walked, k_walked, b_walked, fun s ws hl => match ws, hl with | [_, _], _ => .of_eq rfl, fun o ho => nomatch ho⟩
  have F_is_integer := fun_mk (st := s_is_integer) l_is_integer c_is_integer k_is_integer
  have b_is_integer := F_is_integer.binds (ps := p_is_integer) fun _ _ _ _ _ _ us hl => match us, hl with | [_], _ => rfl
  let R_is_integer : KR K mg "is_integer" s_is_integer p_is_integer ko_is_integer := ⟨_, _, F_is_integer, PySem.W.mg_of X G a_is_integer, k_is_integer, b_is_integer, fun s ws hl => match ws, hl with | [_], _ => .of_eq rfl, fun o ho => nomatch ho⟩
  have F_is_number_below := fun_mk (st := s_is_number_below) l_is_number_below c_is_number_below k_is_number_below
  have b_is_number_below := F_is_number_below.binds (ps := p_is_number_below) fun _ _ _ _ _ _ us hl => match us, hl with | [_, _], _ => rfl
  let R_is_number_below : KR K mg "is_number_below" s_is_number_below p_is_number_below ko_is_number_below := ⟨_, _, F_is_number_below, PySem.W.mg_of X G a_is_number_below, k_is_number_below, b_is_number_below, fun s ws hl => match ws, hl with | [_, _], _ => .of_eq rfl, fun o ho => nomatch ho⟩
  have F_check_arrangement := fun_mk (st := s_check_arrangement) l_check_arrangement c_check_arrangement k_check_arrangement
  have b_check_arrangement := F_check_arrangement.binds (ps := p_check_arrangement) fun _ _ _ _ _ _ us hl => match us, hl with | [_], _ => rfl
  let R_check_arrangement : KR K mg "check_arrangement" s_check_arrangement p_check_arrangement ko_check_arrangement := ⟨_, _, F_check_arrangement, PySem.W.mg_of X G a_check_arrangement, k_check_arrangement, b_check_arrangement, fun s ws hl => match ws, hl with | [_], _ => .of_eq rfl, fun o ho => nomatch ho⟩
  have F_goals_of := fun_mk (st := s_goals_of) l_goals_of c_goals_of k_goals_of
  have b_goals_of := F_goals_of.binds (ps := p_goals_of) fun _ _ _ _ _ _ us hl => match us, hl with | [_], _ => rfl
  let R_goals_of : KR K mg "goals_of" s_goals_of p_goals_of ko_goals_of := ⟨_, _, F_goals_of, PySem.W.mg_of X G a_goals_of, k_goals_of, b_goals_of, fun s ws hl => match ws, hl with | [_], _ => .of_eq rfl, fun o ho => nomatch ho⟩
  have F_inversions_of := fun_mk (st := s_inversions_of) l_inversions_of c_inversions_of k_inversions_of
  have b_inversions_of := F_inversions_of.binds (ps := p_inversions_of) fun _ _ _ _ _ _ us hl => match us, hl with | [_], _ => rfl
  let R_inversions_of : KR K mg "inversions_of" s_inversions_of p_inversions_of ko_inversions_of := ⟨_, _, F_inversions_of, PySem.W.mg_of X G a_inversions_of, k_inversions_of, b_inversions_of, fun s ws hl => match ws, hl with | [_], _ => .of_eq rfl, fun o ho => nomatch ho⟩
  have F_least_triple := fun_mk (st := s_least_triple) l_least_triple c_least_triple k_least_triple
  have b_least_triple := F_least_triple.binds (ps := p_least_triple) fun _ _ _ _ _ _ us hl => match us, hl with | [_], _ => rfl
  let R_least_triple : KR K mg "least_triple" s_least_triple p_least_triple ko_least_triple := ⟨_, _, F_least_triple, PySem.W.mg_of X G a_least_triple, k_least_triple, b_least_triple, fun s ws hl => match ws, hl with | [_], _ => .of_eq rfl, fun o ho => nomatch ho⟩
  have F_swap_list := fun_mk (st := s_swap_list) l_swap_list c_swap_list k_swap_list
  have b_swap_list := F_swap_list.binds (ps := p_swap_list) fun _ _ _ _ _ _ us hl => match us, hl with | [_], _ => rfl
  let R_swap_list : KR K mg "swap_list" s_swap_list p_swap_list ko_swap_list := ⟨_, _, F_swap_list, PySem.W.mg_of X G a_swap_list, k_swap_list, b_swap_list, fun s ws hl => match ws, hl with | [_], _ => .of_eq rfl, fun o ho => nomatch ho⟩
  have F_ends := fun_mk (st := s_ends) l_ends c_ends k_ends
  have b_ends := F_ends.binds (ps := p_ends) fun _ _ _ _ _ _ us hl => match us, hl with | [_], _ => rfl
  let R_ends : KR K mg "_law_ends" s_ends p_ends ko_ends := ⟨_, _, F_ends, PySem.W.mg_of X G a_ends, k_ends, b_ends, fun s ws hl => match ws, hl with | [_], _ => .of_eq rfl, fun o ho => nomatch ho⟩
  have F_lpairs := fun_mk (st := s_lpairs) l_lpairs c_lpairs k_lpairs
  have b_lpairs := F_lpairs.binds (ps := p_lpairs) fun _ _ _ _ _ _ us hl => match us, hl with | [_], _ => rfl
  let R_lpairs : KR K mg "_law_pairs" s_lpairs p_lpairs ko_lpairs := ⟨_, _, F_lpairs, PySem.W.mg_of X G a_lpairs, k_lpairs, b_lpairs, fun s ws hl => match ws, hl with | [_], _ => .of_eq rfl, fun o ho => nomatch ho⟩
  have F_places := fun_mk (st := s_places) l_places c_places k_places
  have b_places := F_places.binds (ps := p_places) fun _ _ _ _ _ _ us hl => match us, hl with | [_], _ => rfl
  let R_places : KR K mg "places" s_places p_places ko_places := ⟨_, _, F_places, PySem.W.mg_of X G a_places, k_places, b_places, fun s ws hl => match ws, hl with | [_], _ => .of_eq rfl, fun o ho => nomatch ho⟩
  have F_told := fun_mk (st := s_told) l_told c_told k_told
  have b_told := F_told.binds (ps := p_told) fun _ _ _ _ _ _ us hl => match us, hl with | [_, _], _ => rfl
  let R_told : KR K mg "_law_told" s_told p_told ko_told := ⟨_, _, F_told, PySem.W.mg_of X G a_told, k_told, b_told, fun s ws hl => match ws, hl with | [_, _], _ => .of_eq rfl, fun o ho => nomatch ho⟩
  have F_triples := fun_mk (st := s_triples) l_triples c_triples k_triples
  have b_triples := F_triples.binds (ps := p_triples) fun _ _ _ _ _ _ us hl => match us, hl with | [_], _ => rfl
  let R_triples : KR K mg "_law_triples" s_triples p_triples ko_triples := ⟨_, _, F_triples, PySem.W.mg_of X G a_triples, k_triples, b_triples, fun s ws hl => match ws, hl with | [_], _ => .of_eq rfl, fun o ho => nomatch ho⟩
  have F_spots := fun_mk (st := s_spots) l_spots c_spots k_spots
  have b_spots := F_spots.binds (ps := p_spots) fun _ _ _ _ _ _ us hl => match us, hl with | [_], _ => rfl
  let R_spots : KR K mg "_law_spots" s_spots p_spots ko_spots := ⟨_, _, F_spots, PySem.W.mg_of X G a_spots, k_spots, b_spots, fun s ws hl => match ws, hl with | [_], _ => .of_eq rfl, fun o ho => nomatch ho⟩
  have F_way := fun_mk (st := s_way) l_way c_way k_way
  have b_way := F_way.binds (ps := p_way) fun _ _ _ _ _ _ us hl => match us, hl with | [_, _], _ => rfl
  let R_way : KR K mg "_law_way" s_way p_way ko_way := ⟨_, _, F_way, PySem.W.mg_of X G a_way, k_way, b_way, fun s ws hl => match ws, hl with | [_, _], _ => .of_eq rfl, fun o ho => nomatch ho⟩
  have F_right := fun_mk (st := s_right) l_right c_right k_right
  have b_right := F_right.binds (ps := p_right) fun _ _ _ _ _ _ us hl => match us, hl with | [_, _], _ => rfl
  let R_right : KR K mg "_law_right" s_right p_right ko_right := ⟨_, _, F_right, PySem.W.mg_of X G a_right, k_right, b_right, fun s ws hl => match ws, hl with | [_, _], _ => .of_eq rfl, fun o ho => nomatch ho⟩
  have F_law := fun_mk (st := s_law) l_law c_law k_law
  have b_law := F_law.binds (ps := p_law) fun _ _ _ _ _ _ us hl => match us, hl with | [_], _ => rfl
  let R_law : KR K mg "law" s_law p_law ko_law := ⟨_, _, F_law, PySem.W.mg_of X G a_law, k_law, b_law, fun s ws hl => match ws, hl with | [_], _ => .of_eq rfl, fun o ho => nomatch ho⟩
  refine ⟨PySem.W.fnOf "law" "law" (defArgs s_law) (defBody s_law) (defScope s_law) .none kV_law dc_law pm_law an_law cd_law ct_law, fun s v => .of_eq rfl, fun base _ _ => ?_⟩
  have T_DecreasingTriple : OexC K C_DecreasingTriple := ⟨⟨_, _, _, _, _, _, _, _, _, _, _, _, _, _, _, xL_DecreasingTriple, bm_ok_DecreasingTriple⟩, sa_DecreasingTriple, eC_DecreasingTriple, tC_DecreasingTriple, kc_DecreasingTriple⟩
  have FI_DecreasingTriple := fun_mk (st := s_i_DecreasingTriple) li_DecreasingTriple ci_DecreasingTriple ki_DecreasingTriple
  let XX : XS l.prog w K mg base := ⟨⟨C_DecreasingTriple, fI_DecreasingTriple, _, PySem.W.mg_of X G gc_DecreasingTriple, T_DecreasingTriple, ic_DecreasingTriple, ti_DecreasingTriple, init_DecreasingTriple (P := l.prog) (w := w) (base := base) FI_DecreasingTriple T_DecreasingTriple nf_DecreasingTriple (PySem.W.mg_of X G gB) ⟨bg, br, bv⟩, FI_DecreasingTriple.binds (fun _ _ _ _ _ _ us hl => match us, hl with | [_, _], _ => rfl), ⟨ga_DecreasingTriple, gg_DecreasingTriple, eC_DecreasingTriple, hC_DecreasingTriple⟩, nf_DecreasingTriple⟩,
    ⟨C_DecreasingTriple, PySem.W.mg_of X G gc_DecreasingTriple⟩,
    PySem.W.exm_ref eC_DecreasingTriple hC_DecreasingTriple tC_DecreasingTriple s_DecreasingTriple_DecreasingTriple⟩
  let K_mixed := kf_mixed (P := l.prog) (w := w) (base := base) B R_mixed
  let K_folded := kf_folded (P := l.prog) (w := w) (base := base) B R_folded
  let K_draw := kf_draw (P := l.prog) (w := w) (base := base) B R_draw K_mixed
  let K_begun := kf_begun (P := l.prog) (w := w) (base := base) B R_begun K_folded
  let K_mixed_up := kf_mixed_up (P := l.prog) (w := w) (base := base) B R_mixed_up K_draw
  let K_walked := kf_walked (P := l.prog) (w := w) (base := base) B R_walked K_draw
  let K_is_integer := kf_is_integer (P := l.prog) (w := w) (base := base) B R_is_integer
  let K_is_number_below := kf_is_number_below (P := l.prog) (w := w) (base := base) B R_is_number_below K_is_integer
  let K_check_arrangement := kf_check_arrangement (P := l.prog) (w := w) (base := base) B R_check_arrangement K_is_number_below
  let K_goals_of := kf_goals_of (P := l.prog) (w := w) (base := base) B R_goals_of
  let K_inversions_of := kf_inversions_of (P := l.prog) (w := w) (base := base) B R_inversions_of K_goals_of
  let K_least_triple := kf_least_triple (P := l.prog) (w := w) (base := base) B R_least_triple K_goals_of K_inversions_of
  let K_swap_list := kf_swap_list (P := l.prog) (w := w) (base := base) B R_swap_list K_goals_of K_inversions_of
  let K_ends := kf_ends (P := l.prog) (w := w) (base := base) B R_ends
  let K_lpairs := kf_lpairs (P := l.prog) (w := w) (base := base) B R_lpairs K_ends
  let K_places := kf_places (P := l.prog) (w := w) (base := base) B R_places XX K_check_arrangement K_least_triple K_swap_list
  let K_told := kf_told (P := l.prog) (w := w) (base := base) B R_told XX K_places
  let K_triples := kf_triples (P := l.prog) (w := w) (base := base) B R_triples K_ends K_lpairs
  let K_spots := kf_spots (P := l.prog) (w := w) (base := base) B R_spots K_ends K_lpairs
  let K_way := kf_way (P := l.prog) (w := w) (base := base) B R_way K_draw K_ends K_lpairs
  let K_right := kf_right (P := l.prog) (w := w) (base := base) B R_right K_spots K_told K_triples K_way
  exact ok_law (P := l.prog) (w := w) (base := base) B R_law K_begun K_draw K_mixed_up K_right K_walked
theorem law_script {K : PySem.W.Frag} {H : Hp} {a : Addr} {ns : List Int} (hl : ns.length ≤ 63) (ho : Only H) (hs : SqL K H a (ns.map V.int)) : lift (sp_law K) [.ref a] H (fun v _ => v = .bl true) fun _ _ _ => False := by
  have alt : (∃ ob, H a = some (.frz ob (.lst (ns.map V.int)))) ∨ ∀ H, SqL K H a (ns.map V.int) := by
    rcases hs with (h | h) | h
    · rcases ho a with z | ⟨ob, u, z⟩
      · rw [z] at h; cases h
      · rw [z] at h; cases h
    · exact .inl h
    · exact .inr fun H => .inr h
  refine ⟨H, fun _ => none, [.i (.scr a ns (∀ H, SqL K H a (ns.map V.int)))], fun _ => [], fun w _ => w = .i (.bl true), fun _ _ _ _ => False, ?_, ⟨a, ns, _, rfl, hl, id, fun b δ hb => by rw [hb]⟩, ?_, fun _ _ _ _ _ _ _ _ _ _ _ _ _ _ _ z => z.elim⟩
  · refine ⟨Le.refl H, (fun _ _ e => by cases e), (fun _ _ e => by cases e), rfl, fun i => ?_, (fun _ _ _ q => by cases q), fun _ _ q => by cases q⟩
    cases i with
    | zero => exact ⟨⟨_, rfl, by first | (simp only [RI]; exact ⟨trivial, alt⟩) | (simp only [RI]; exact ⟨rfl, alt⟩)⟩, rfl⟩
    | succ i => exact rfl
  · intro S' H' σ' δ' fp' v w _ _ r e
    subst e
    obtain ⟨_, ⟨⟨x, e1, r1⟩, _⟩, _⟩ := r
    cases e1
    simpa only [RI] using r1
end SW
open PySem PySem.W PyProof.Rows
set_option maxRecDepth 100000 in
set_option maxHeartbeats 0 in
theorem PySem.Challenge.cw_swaprow_k05_places_holds : PySem.Challenge.rw_swaprow_k05_places.Holds := by
  w_on; o_law; k_head; (case hw => w_witness2)
  k_fill
  refine SW.law_end (l := PySem.Challenge.rw_swaprow_k05_places) (n := 63) (k := 7) (x := "_law_script") (sp := fun K => SW.lift (SW.sp_law K)) rfl (by decide) rfl ⟨rfl, by decide, by decide⟩ (fun w h Y => PySem.W.kIn_of Y) ?F (fun K H a ns hl ho hs => SW.law_script hl ho hs)
  case F =>
    intro w mg fa h KX G hmg
    refine' SW.law_all KX G hmg ?a_mixed ?l_mixed ?c_mixed ?k_mixed ?a_folded ?l_folded ?c_folded ?k_folded ?a_draw ?l_draw ?c_draw ?k_draw ?a_begun ?l_begun ?c_begun ?k_begun ?a_mixed_up ?l_mixed_up ?c_mixed_up ?k_mixed_up ?a_walked ?l_walked ?c_walked ?k_walked ?a_is_integer ?l_is_integer ?c_is_integer ?k_is_integer ?a_is_number_below ?l_is_number_below ?c_is_number_below ?k_is_number_below ?a_check_arrangement ?l_check_arrangement ?c_check_arrangement ?k_check_arrangement ?a_goals_of ?l_goals_of ?c_goals_of ?k_goals_of ?a_inversions_of ?l_inversions_of ?c_inversions_of ?k_inversions_of ?a_least_triple ?l_least_triple ?c_least_triple ?k_least_triple ?a_swap_list ?l_swap_list ?c_swap_list ?k_swap_list ?a_ends ?l_ends ?c_ends ?k_ends ?a_lpairs ?l_lpairs ?c_lpairs ?k_lpairs ?a_places ?l_places ?c_places ?k_places ?a_told ?l_told ?c_told ?k_told ?a_triples ?l_triples ?c_triples ?k_triples ?a_spots ?l_spots ?c_spots ?k_spots ?a_way ?l_way ?c_way ?k_way ?a_right ?l_right ?c_right ?k_right ?a_law ?l_law ?c_law ?k_law ?z_bool ?z_enumerate ?z_int ?z_isinstance ?z_len ?z_list ?z_min ?z_range ?z_repr ?z_sorted ?z_tuple ?y_MAX_PEOPLE ?gB ?bg ?br ?bv ?gc_DecreasingTriple ?xL_DecreasingTriple ?bm_ok_DecreasingTriple ?sa_DecreasingTriple ?ga_DecreasingTriple ?gg_DecreasingTriple ?nf_DecreasingTriple ?ic_DecreasingTriple ?ti_DecreasingTriple ?li_DecreasingTriple ?ci_DecreasingTriple ?ki_DecreasingTriple ?kc_DecreasingTriple ?eC_DecreasingTriple ?tC_DecreasingTriple ?hC_DecreasingTriple ?s_DecreasingTriple_DecreasingTriple
    (case a_mixed => k_is)
    (case l_mixed => k_is)
    (case c_mixed => k_is)
    (case k_mixed => k_is)
    (case a_folded => k_is)
    (case l_folded => k_is)
    (case c_folded => k_is)
    (case k_folded => k_is)
    (case a_draw => k_is)
    (case l_draw => k_is)
    (case c_draw => k_is)
    (case k_draw => k_is)
    (case a_begun => k_is)
    (case l_begun => k_is)
    (case c_begun => k_is)
    (case k_begun => k_is)
    (case a_mixed_up => k_is)
    (case l_mixed_up => k_is)
    (case c_mixed_up => k_is)
    (case k_mixed_up => k_is)
    (case a_walked => k_is)
    (case l_walked => k_is)
    (case c_walked => k_is)
    (case k_walked => k_is)
    (case a_is_integer => k_is)
    (case l_is_integer => k_is)
    (case c_is_integer => k_is)
    (case k_is_integer => k_is)
    (case a_is_number_below => k_is)
    (case l_is_number_below => k_is)
    (case c_is_number_below => k_is)
    (case k_is_number_below => k_is)
    (case a_check_arrangement => k_is)
    (case l_check_arrangement => k_is)
    (case c_check_arrangement => k_is)
    (case k_check_arrangement => k_is)
    (case a_goals_of => k_is)
    (case l_goals_of => k_is)
    (case c_goals_of => k_is)
    (case k_goals_of => k_is)
    (case a_inversions_of => k_is)
    (case l_inversions_of => k_is)
    (case c_inversions_of => k_is)
    (case k_inversions_of => k_is)
    (case a_least_triple => k_is)
    (case l_least_triple => k_is)
    (case c_least_triple => k_is)
    (case k_least_triple => k_is)
    (case a_swap_list => k_is)
    (case l_swap_list => k_is)
    (case c_swap_list => k_is)
    (case k_swap_list => k_is)
    (case a_ends => k_is)
    (case l_ends => k_is)
    (case c_ends => k_is)
    (case k_ends => k_is)
    (case a_lpairs => k_is)
    (case l_lpairs => k_is)
    (case c_lpairs => k_is)
    (case k_lpairs => k_is)
    (case a_places => k_is)
    (case l_places => k_is)
    (case c_places => k_is)
    (case k_places => k_is)
    (case a_told => k_is)
    (case l_told => k_is)
    (case c_told => k_is)
    (case k_told => k_is)
    (case a_triples => k_is)
    (case l_triples => k_is)
    (case c_triples => k_is)
    (case k_triples => k_is)
    (case a_spots => k_is)
    (case l_spots => k_is)
    (case c_spots => k_is)
    (case k_spots => k_is)
    (case a_way => k_is)
    (case l_way => k_is)
    (case c_way => k_is)
    (case k_way => k_is)
    (case a_right => k_is)
    (case l_right => k_is)
    (case c_right => k_is)
    (case k_right => k_is)
    (case a_law => k_is)
    (case l_law => k_is)
    (case c_law => k_is)
    (case k_law => k_is)
    (case z_bool => k_is)
    (case z_enumerate => k_is)
    (case z_int => k_is)
    (case z_isinstance => k_is)
    (case z_len => k_is)
    (case z_list => k_is)
    (case z_min => k_is)
    (case z_range => k_is)
    (case z_repr => k_is)
    (case z_sorted => k_is)
    (case z_tuple => k_is)
    (case y_MAX_PEOPLE => k_is)
    (case gB => k_is)
    (case bg => k_is)
    (case br => k_is)
    (case bv => k_is)
    (case gc_DecreasingTriple => k_is)
    (case xL_DecreasingTriple => k_is)
    (case bm_ok_DecreasingTriple => first | rfl | decide +kernel)
    (case sa_DecreasingTriple => k_is)
    (case ga_DecreasingTriple => k_is)
    (case gg_DecreasingTriple => k_is)
    (case nf_DecreasingTriple => k_is)
    (case ic_DecreasingTriple => k_is)
    (case ti_DecreasingTriple => k_is)
    (case li_DecreasingTriple => k_is)
    (case ci_DecreasingTriple => k_is)
    (case ki_DecreasingTriple => k_is)
    (case kc_DecreasingTriple => k_is)
    (case eC_DecreasingTriple => k_is)
    (case tC_DecreasingTriple => k_is)
    (case hC_DecreasingTriple => k_is)
    (case s_DecreasingTriple_DecreasingTriple => k_is)
#print axioms PySem.Challenge.cw_swaprow_k05_places_holds
