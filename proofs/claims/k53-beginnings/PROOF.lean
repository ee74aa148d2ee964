import PyProof.Rows.All
import Wide.All
import OpenK.AllK
import Wide.FinOn
import HandS.ForMost
import HandS.ForExc
import HandS.CallSlots
import HandS.TupAny
import HandS.SortInts
import HandS.TupLe
import HandS.Deep
import HandS.IsInst
import KE.DataCmp
import KE.DataMinMax
import KE.DataFind
import KE.DatumIndex
import KE.DatumMoreOrd
import HandS.Nested
import HandS.ExcInit
import HandS.ExcOwn
import KE.KExcSuper
import KE.KSuper
import HandS.ExcField
import HandS.ExcIs
import KE.KExcIs
import PySem.Challenge.RW_calmhouse_k53_beginnings
set_option Elab.async false
set_option linter.all false
set_option maxRecDepth 100000
/-! L3t: tuples whose object is known to be bare, dicts under such tuples of ints. -/
namespace L3
open PySem PySem.Spec L2
open PyProof.Rows hiding St

/-- at a: a tuple of vs without a dict of its own -/
def Tp (H : Hp) (a : Addr) (vs : List V) : Prop := ∃ o : Obj, o.dict = none ∧ H a = some (.frz o (.tup vs))
theorem Tp.sq {K : PySem.W.Frag} {H : Hp} {a : Addr} {vs : List V} (t : Tp H a vs) : SqT K H a vs := by
  obtain ⟨o, _, h⟩ := t
  exact .inl (.inr ⟨o, h⟩)
theorem Tp.mono {H H' : Hp} {a : Addr} {vs : List V} (e : Same H H') (t : Tp H a vs) : Tp H' a vs := by
  obtain ⟨o, d, h⟩ := t
  exact ⟨o, d, e _ _ h⟩
theorem Tp.inj {H : Hp} {a : Addr} {vs ws : List V} (t : Tp H a vs) (u : Tp H a ws) : vs = ws := by
  obtain ⟨o, d, h⟩ := t
  obtain ⟨o', d', h'⟩ := u
  rw [h] at h'
  cases h'
  rfl
theorem Tp.new {H : Hp} {p : Addr} {o : Obj} {vs : List V} (d : o.dict = none) : Tp (upd H p (.frz o (.tup vs))) p vs := ⟨o, d, upd_same⟩
theorem tup_ok {P : Program} {w : World} {H : Hp} {h : Heap} {a : Addr} {vs : List V} {us : List Value} (hz : vs.length ≤ sizeLine) (r : Vals vs us) (e : h.get? a = some { cls := .type "tuple", data := .seq us.toArray }) :
    ObjOk P w H h a (.frz { cls := .type "tuple", data := .seq us.toArray } (.tup vs)) := ⟨e, hz, us, r, _, e, rfl, _, rfl⟩
section
variable {X : Cx} {a b c e : Expr} {es : List Expr} {ta tb : TE} {t : TA} {pos : Pos}
/-- (a, b) -/
def tTupF (t : TA) : TE := fun σ H Q => t σ H fun xs H1 => xs.length ≤ sizeLine ∧ ∀ p o, H1 p = none → o.dict = none → Q (.ref p) (upd H1 p (.frz o (.tup xs)))
theorem pe_tupF {x1} (h : PA X es t) : PE X (.Tuple es x1 pos) (tTupF t) := by
  refine ⟨fun pins s σ H Q I hq => wpAny_Tuple_spliced (thn (h.run pos pins s σ H _ I hq) fun us s1 h1 => ?_)⟩
  obtain ⟨xs, H1, I1, r, z, q⟩ := h1
  refine ⟨by rw [← r.length]; exact z, .ref s1.heap.objs.size, _, I1.laid (t' := s1.toks) (fun b u e => Heap.get?_push_of_some _ e) (Nat.le_refl _) (tup_ok z r (Heap.get?_push_size _ rfl)), rfl, q _ _ (I1.hok.fresh (Nat.le_refl _)) rfl⟩
/-- tuple(xs) -/
theorem call_tupF : CallR X (.type "tuple") (fun xs H Q => ∃ p ys, xs = [.ref p] ∧ SqL X.K H p ys ∧ ∀ l o, H l = none → o.dict = none → Q (.ref l) (upd H l (.frz o (.tup ys)))) := by
  intro pins s σ H xs us Q I r ⟨p, ys, e, hq, q⟩
  subst e
  obtain ⟨u, rfl, rx⟩ := vals1 r
  cases rx
  obtain ⟨its, r', pl, hz⟩ := I.list hq
  have hlen := r'.length
  refine call_tuple_list pl.isList (fun h' kp => ?_) (by simp only [List.size_toArray] <;> omega)
  have I1 : Inv X pins σ H { s with heap := h' } := I.kept (t' := s.toks) kp
  exact ⟨.ref h'.objs.size, _, I1.laid (t' := s.toks) (h' := h'.push { cls := .type "tuple", data := .seq its.toArray }) (fun b o e => Heap.get?_push_of_some _ e) (Nat.le_refl _) (tup_ok hz r' (Heap.get?_push_size _ rfl)), rfl, q _ _ (I1.hok.fresh (Nat.le_refl _)) rfl⟩
theorem call_tupT : CallR X (.type "tuple") (fun xs H Q => ∃ p ys, xs = [.ref p] ∧ SqT X.K H p ys ∧ Q (.ref p) H) := by
  intro pins s σ H xs us Q I r ⟨p, ys, e, hq, q⟩
  subst e
  obtain ⟨u, rfl, rx⟩ := vals1 r
  cases rx
  obtain ⟨its, r', pl, hz⟩ := I.tuple hq
  exact call_tuple_same pl ⟨.ref p, H, I, rfl, q⟩
/-- t + u -/
theorem op_catF : OpR X (binaryOp .Add) (fun x y H Q => ∃ a b xs ys, x = .ref a ∧ y = .ref b ∧ SqT X.K H a xs ∧ SqT X.K H b ys ∧ xs.length + ys.length ≤ sizeLine ∧
    (xs = [] → Q (.ref b) H) ∧ (xs ≠ [] → ys = [] → Q (.ref a) H) ∧ (xs ≠ [] → ys ≠ [] → ∀ p o, H p = none → o.dict = none → Q (.ref p) (upd H p (.frz o (.tup (xs ++ ys)))))) := by
  intro pins s σ H x y v u Q I rx ry ⟨a, b, xs, ys, e1, e2, ha, hb, hz, q0, q1, q2⟩
  subst e1 e2
  cases rx
  cases ry
  obtain ⟨its, r1, p1, _⟩ := I.tuple ha
  obtain ⟨its2, r2, p2, _⟩ := I.tuple hb
  by_cases hx : xs = []
  · subst hx
    cases r1
    exact cat_tup0 p1 p2 ⟨.ref b, H, I, rfl, q0 rfl⟩
  · have hi : its ≠ [] := fun z => by subst z; cases r1; exact hx rfl
    refine HT.cat_tup p1 p2 hi (fun hw => ?_) (fun hw => ?_) (by rw [← r1.length, ← r2.length]; exact hz)
    · subst hw
      cases r2
      exact ⟨.ref a, H, I, rfl, q1 hx rfl⟩
    · have hy : ys ≠ [] := fun z => by subst z; cases r2; exact hw rfl
      exact ⟨.ref s.heap.objs.size, _, I.laid (t' := s.toks) (fun b u e => Heap.get?_push_of_some _ e) (Nat.le_refl _) (tup_ok (by rw [List.length_append]; exact hz) (r1.append r2) (Heap.get?_push_size _ rfl)), rfl, q2 hx hy _ _ (I.hok.fresh (Nat.le_refl _)) rfl⟩
/-- t[lo:hi] -/
theorem sl_tupF : SlR X (fun x lo hi H Q => ∃ a xs, x = .ref a ∧ SqT X.K H a xs ∧ (HT.sIx xs.length 0 lo = 0 ∧ HT.sIx xs.length xs.length hi = xs.length → Q (.ref a) H) ∧
    (¬ (HT.sIx xs.length 0 lo = 0 ∧ HT.sIx xs.length xs.length hi = xs.length) → ∀ p o, H p = none → o.dict = none → Q (.ref p) (upd H p (.frz o (.tup (cutV xs lo hi)))))) := by
  intro pins s σ H x v vl vu lo hi sl Q I rx hs pl pu ⟨a, xs, e, hx, q1, q2⟩
  subst e
  cases rx
  obtain ⟨its, r, ht, hz⟩ := I.tuple hx
  have hlen : its.toArray.size = xs.length := by
    rw [List.size_toArray]
    exact r.length.symm
  refine ⟨"tuple", _, PyProof.Rows.slot_tuple_getitem.lookup, ht.typeIs, ?_⟩
  by_cases hw : HT.sIx xs.length 0 lo = 0 ∧ HT.sIx xs.length xs.length hi = xs.length
  · exact getItem_tuple_whole ht hs pl pu (by rw [hlen]; exact hw) ⟨.ref a, H, I, rfl, q1 hw⟩
  · refine HT.getItem_tuple_cut ht hs pl pu (by rw [hlen]; exact hw) ?_ (by rw [hlen]; exact hz)
    rw [hlen]
    exact ⟨.ref s.heap.objs.size, _, I.laid (t' := s.toks) (fun b u e => Heap.get?_push_of_some _ e) (Nat.le_refl _) (tup_ok (Nat.le_trans (cutV_length xs lo hi) hz) ((r.drop _).take _) (Heap.get?_push_size _ rfl)), rfl, q2 hw _ _ (I.hok.fresh (Nat.le_refl _)) rfl⟩
end

/-! ### dicts under tuples of ints -/
def hshI (ks : List Int) : Int := reduceHash (Builtin.Tuple.tupleHashOf (ks.map hashInt))
abbrev kI (P : Program) (w : World) : HeapKind P w (List Int) := tupleKind (PySem.intKind P w)
def DctAt (h : Heap) (a : Addr) (xs : List (List Int × Addr × Value)) : Prop := ∃ o es ep, h.get? a = some o ∧ o.ExactDict ∧ o.data = .dict es ep ∧ es.toList = xs.map (fun x => (⟨hshI x.1, .ref x.2.1, x.2.2⟩ : DictEntry)) ∧ (xs.map (·.1)).Nodup
abbrev TW := List (List Int × Addr × V)
abbrev RelT : TW → List (List Int × Addr × Value) → Prop := Paired fun p q => p.1 = q.1 ∧ p.2.1 = q.2.1 ∧ L2.RelV p.2.2 q.2.2
def dto (a : Addr) (ws : TW) : HO := .ext fun h => ws.length ≤ sizeLine ∧ (a == sysModules) = false ∧ ∃ xs, RelT ws xs ∧ DctAt h a xs
theorem dto_ok {P : Program} {w : World} {H : Hp} {h : Heap} {a : Addr} {ws : TW} {xs : List (List Int × Addr × Value)} (z : ws.length ≤ sizeLine) (y : (a == sysModules) = false) (r : RelT ws xs) (d : DctAt h a xs) : ObjOk P w H h a (dto a ws) := by
  refine ⟨⟨z, y, xs, r, d⟩, ?_, ?_⟩
  · obtain ⟨o, _, _, e, _⟩ := d
    exact ⟨o, e⟩
  · rintro h1 h2 ⟨z, y, xs, r, o, es, ep, e, q⟩ k
    exact ⟨z, y, xs, r, o, es, ep, k _ e, q⟩
def KeysT (H : Hp) (ws : TW) : Prop := ∀ p ∈ ws, Tp H p.2.1 (p.1.map V.int)
theorem RelT.len {ws : TW} {xs : List (List Int × Addr × Value)} (r : RelT ws xs) : ws.length = xs.length := Paired.length r
def atT (ws : TW) (k : List Int) : Option V := (ws.find? fun p => decide (p.1 = k)).map (·.2.2)
def puT (ws : TW) (k : List Int) (b : Addr) (v : V) : TW := if (atT ws k).isSome = true then ws.map (fun p => if p.1 = k then (p.1, p.2.1, v) else p) else ws ++ [(k, b, v)]
theorem RelT.at (k : List Int) : ∀ {ws : TW} {xs : List (List Int × Addr × Value)}, RelT ws xs → RelO (atT ws k) ((atKey xs k).map (·.2))
  | _, _, .nil => True.intro
  | p :: ps, q :: qs, .cons h t => by
    obtain ⟨h1, h2, h3⟩ := h
    by_cases e : p.1 = k
    · have e' : q.1 = k := h1.symm.trans e
      simp only [atT, atKey, List.find?_cons, e, e', decide_true, Option.map_some]
      exact h3
    · have e' : ¬ q.1 = k := fun z => e (h1.trans z)
      have ih := RelT.at k t
      simp only [atT, atKey, List.find?_cons, e, e', decide_false]
      exact ih
theorem RelT.put {ws : TW} {xs : List (List Int × Addr × Value)} (r : RelT ws xs) (k : List Int) (b : Addr) {v : V} {u : Value} (rv : L2.RelV v u) : RelT (puT ws k b v) (storedH xs k b u) := by
  have e := (r.at k).isSome_eq
  rw [Option.isSome_map] at e
  unfold puT storedH
  rw [e]
  by_cases q : (atKey xs k).isSome = true
  · rw [if_pos q, if_pos q]
    clear e q
    induction r with
    | nil => exact .nil
    | @cons p x ps xs h t ih =>
      rw [List.map_cons, List.map_cons]
      refine .cons ?_ ih
      obtain ⟨h1, h2, h3⟩ := h
      unfold putAt
      by_cases e : p.1 = k
      · rw [if_pos e, if_pos (h1.symm.trans e)]
        exact ⟨h1, h2, rv⟩
      · rw [if_neg e, if_neg (fun z => e (h1.trans z))]
        exact ⟨h1, h2, h3⟩
  · rw [if_neg q, if_neg q]
    exact Paired.snoc r ⟨rfl, rfl, rv⟩
theorem puT_len (ws : TW) (k : List Int) (b : Addr) (v : V) : (puT ws k b v).length ≤ ws.length + 1 := by
  unfold puT
  split
  · rw [List.length_map]
    omega
  · rw [List.length_append]
    exact Nat.le_refl _
theorem ints_key {P : Program} {w : World} : ∀ {ks : List Int} {us : List Value}, Vals (ks.map V.int) us → ItemsAre (PySem.intKind P w) ks us
  | [], _, r => by
    rw [List.map_nil] at r
    cases r
    exact .nil
  | k :: ks, _, r => by
    rw [List.map_cons] at r
    cases r with
    | cons h t =>
      obtain ⟨tk, e⟩ := (show ∃ t, _ = Value.int k t from h)
      subst e
      exact .cons (by show Value.isInt k (.int k tk) = true; simp [Value.isInt]) (ints_key t)
section
variable {X : Cx} {pins : List (Addr × Obj)} {σ : St} {H : Hp} {s : Shared} {a b : Addr} {ws : TW} {ks : List Int}
theorem Tp.key (I : Inv X pins σ H s) (t : Tp H b (ks.map V.int)) : (kI X.prog X.w).is s.heap ks b := by
  obtain ⟨its, r, ⟨o, h1, h2, n, h3⟩, _⟩ := I.tuple (t.sq (K := X.K))
  exact ⟨o, its.toArray, n, h1, h2, h3, by simpa using ints_key r⟩
theorem dto_at (I : Inv X pins σ H s) (e : H a = some (dto a ws)) (hk : KeysT H ws) : ws.length ≤ sizeLine ∧ (a == sysModules) = false ∧ ∃ xs, RelT ws xs ∧ s.heap.DictOfH (kI X.prog X.w) a xs := by
  obtain ⟨⟨z, y, xs, r, o, es, ep, h1, h2, h3, h4, h5⟩, _, _⟩ := (show ObjOk X.prog X.w H s.heap a (dto a ws) from I.hok a _ e)
  refine ⟨z, y, xs, r, o, es, ep, h1, h2, h3, h4, ?_, h5⟩
  have all : ∀ {l : TW} {m : List (List Int × Addr × Value)}, RelT l m → (∀ p ∈ l, Tp H p.2.1 (p.1.map V.int)) → ∀ x ∈ m, (kI X.prog X.w).is s.heap x.1 x.2.1 := by
    intro l m q
    induction q with
    | nil => intro _ x hx; exact nomatch hx
    | @cons p q ps qs hq t ih =>
      intro hp x hx
      rcases List.mem_cons.mp hx with e | hx
      · subst e
        rw [← hq.1, ← hq.2.1]
        exact Tp.key I (hp _ List.mem_cons_self)
      · exact ih (fun z hz => hp z (List.mem_cons_of_mem _ hz)) x hx
  exact all r hk
end
section
variable {X : Cx}
theorem op_tin (hu : X.A.units + 1 < cLine) : OpR X (compareOp .In) (fun y x H Q => ∃ a b ws ks, x = .ref a ∧ y = .ref b ∧ H a = some (dto a ws) ∧ KeysT H ws ∧ Tp H b (ks.map V.int) ∧ Q (.bl (atT ws ks).isSome) H) := by
  intro pins s σ H x y v u Q I rx ry ⟨a, b, ws, ks, e1, e2, ha, hk, hb, q⟩
  subst e1 e2
  cases rx
  cases ry
  obtain ⟨z, y, xs, r, d⟩ := dto_at I ha hk
  refine wpAny_in_heap (tupleKind_room_in1 hu) (hb.key I) y d ?_
  have e := (r.at ks).isSome_eq
  rw [Option.isSome_map] at e
  rw [← e]
  exact ⟨.bl _, H, I.tok _, rfl, q⟩
theorem op_tnotin (hu : X.A.units + 1 < cLine) : OpR X (compareOp .NotIn) (fun y x H Q => ∃ a b ws ks, x = .ref a ∧ y = .ref b ∧ H a = some (dto a ws) ∧ KeysT H ws ∧ Tp H b (ks.map V.int) ∧ Q (.bl (!(atT ws ks).isSome)) H) := by
  intro pins s σ H x y v u Q I rx ry ⟨a, b, ws, ks, e1, e2, ha, hk, hb, q⟩
  subst e1 e2
  cases rx
  cases ry
  obtain ⟨z, y, xs, r, d⟩ := dto_at I ha hk
  refine wpAny_notIn_heap (tupleKind_room_in1 hu) (hb.key I) y d ?_
  have e := (r.at ks).isSome_eq
  rw [Option.isSome_map] at e
  rw [← e]
  exact ⟨.bl _, H, I.tok _, rfl, q⟩
theorem get_t {pins : List (Addr × Obj)} {s : Shared} {σ : St} {H : Hp} {a b : Addr} {ws : TW} {ks : List Int} {v : V} {Q : VK} (hu : X.A.units + 1 < cLine) (I : Inv X pins σ H s) (ha : H a = some (dto a ws)) (hk : KeysT H ws) (hb : Tp H b (ks.map V.int)) (hv : atT ws ks = some v) (q : Q v H) :
    wpAny (model X.prog X.w) X.A (getItem (.ref a) (.ref b)) (EP X pins σ Q) X.xe s := by
  obtain ⟨z, y, xs, r, d⟩ := dto_at I ha hk
  obtain ⟨w', hw, rw'⟩ := RelO.some_of (v := v) (o := (atKey xs ks).map (·.2)) (by rw [← hv]; exact r.at ks)
  obtain ⟨p, hp, hp2⟩ := Option.map_eq_some_iff.mp hw
  refine wpAny_getItem_heap (tupleKind_room_in1 hu) (hb.key I) d hp ?_
  rw [hp2]
  exact ⟨v, H, I.tok _, rw', q⟩
theorem ix_t (hu : X.A.units + 1 < cLine) : IxR X (fun x y H Q => ∃ a b ws ks v, x = .ref a ∧ y = .ref b ∧ H a = some (dto a ws) ∧ KeysT H ws ∧ Tp H b (ks.map V.int) ∧ atT ws ks = some v ∧ Q v H) := by
  intro value slice pins s σ H x y v u Q I rx ry ⟨a, b, ws, ks, w, e1, e2, ha, hk, hb, hv, q⟩ hs
  subst e1 e2
  cases rx
  cases ry
  obtain ⟨_, _, _, _, d⟩ := dto_at I ha hk
  have hT := d.typeIs (s := s)
  unfold subscriptTail
  refine wpAny_bind ?_
  rw [getitemInPython_of_ne hT.not_modules]
  refine wpAny_bind (wpAny_specialOf hT PySem.F.slot_dict_getitem.lookup ?_)
  have fin : wpAny (model X.prog X.w) X.A (subscripted slice false (.ref a) (.ref b)) (fun r s₃ => wpAny (model X.prog X.w) X.A (letTemporaryGo value (.ref a) r >>= fun _ => pure r) (EP X pins σ Q) X.xe s₃) X.xe s := by
    rw [hs]
    exact wpAny_operating (thn (get_t (Q := Q) hu I ha hk hb hv q) fun r s3 h3 => wpAny_bind (wpAny_letTemporaryGo (wpAny_pure h3)))
  first
    | exact wpAny_pure (wpAny_bind fin)
    | exact wpAny_bind (wpAny_pure (wpAny_bind fin))
    | exact wpAny_bind fin
theorem set_t (hu : X.A.units + 1 < cLine) : PSet X (fun o i v H Q => ∃ a b ws ks, o = .ref a ∧ i = .ref b ∧ H a = some (dto a ws) ∧ KeysT H ws ∧ Tp H b (ks.map V.int) ∧ ws.length < sizeLine ∧ Q (upd H a (dto a (puT ws ks b v)))) := by
  intro pins s σ H o i v ov iv u Q I ro ri rv ⟨a, b, ws, ks, e1, e2, ha, hk, hb, hl, q⟩
  subst e1 e2
  cases ro
  cases ri
  obtain ⟨z, y, xs, r, d⟩ := dto_at I ha hk
  have hz : xs.length ≤ sizeLine := by
    rw [← r.len]
    exact z
  refine wpAny_setItem_heap (hsz := hz) (tupleKind_room_in1 hu) (hb.key I) d fun h' dd' hs => ⟨upd H a (dto a (puT ws ks b v)), ?_, q⟩
  obtain ⟨o, es, ep, hq, h2, h3, h4, _, h5⟩ := dd'
  have hl2 : (puT ws ks b v).length ≤ sizeLine := Nat.le_trans (puT_len ..) hl
  exact I.write (x := a) (e := a) (t' := _) (by rw [ha]; exact True.intro) (.inl rfl) (fun b q hb z => (hs.2 b hb).trans z) ⟨o, hq⟩ (dto_ok hl2 y (r.put ks b rv) ⟨o, es, ep, hq, h2, h3, h4, h5⟩)
/-- {} -/
def tDNewF : TE := fun _ H Q => ∀ p, H p = none → Q (.ref p) (upd H p (dto p []))
theorem pe_dnewF {pos : Pos} : PE X (.Dict [] [] pos) tDNewF := ⟨fun pins s σ H Q I h =>
  wpAny_Dict_empty ⟨.ref s.heap.objs.size, _, I.laid (t' := s.toks) (fun _ _ q => Heap.get?_push_of_some _ q) (Nat.le_refl _)
    (dto_ok (Nat.zero_le _) (beq_eq_false_iff_ne.mpr (Ne.symm (Nat.ne_of_lt I.big))) .nil ⟨_, #[], 0, Heap.get?_push_size _ rfl, ⟨rfl, rfl, rfl⟩, rfl, rfl, List.nodup_nil⟩), rfl, h _ (I.hok.fresh (Nat.le_refl _))⟩⟩
end
end L3

/-! L3a: plain data over the abstract heap; what a slot owns. -/
namespace L3
open PySem PySem.Spec L2
open PyProof.Rows hiding St

/-- plain data -/
inductive D where
  | non | bl (b : Bool) | int (i : Int) | str (x : Str)
  | tup (ds : List D) | lst (ds : List D) | frl (ds : List D)
  | dT (kvs : List (List Int × D)) | dK (kvs : List (Key × D))
  | ins (C : Addr) (fs : List (Str × D))

def D.flat : D → Bool
  | .non => true | .bl _ => true | .int _ => true | .str _ => true
  | _ => false

mutual
inductive Rep (H : Hp) : V → D → Prop
  | non : Rep H .non .non
  | bl (b : Bool) : Rep H (.bl b) (.bl b)
  | int (i : Int) : Rep H (.int i) (.int i)
  | str (x : Str) : Rep H (.str x) (.str x)
  | tup {a : Addr} {vs : List V} {ds : List D} : Tp H a vs → Reps H vs ds → Rep H (.ref a) (.tup ds)
  | lst {a : Addr} {vs : List V} {ds : List D} : H a = some (.lst vs) → Reps H vs ds → Rep H (.ref a) (.lst ds)
  | frl {a : Addr} {o : Obj} {vs : List V} {ds : List D} : H a = some (.frz o (.lst vs)) → Reps H vs ds → Rep H (.ref a) (.frl ds)
  | dT {a : Addr} {ws : TW} {kvs : List (List Int × D)} : H a = some (dto a ws) → RepKV H ws kvs → Rep H (.ref a) (.dT kvs)
  | dK {a : Addr} {ws : List (Key × V)} {kvs : List (Key × D)} : H a = some (.dK ws) → RepKK H ws kvs → Rep H (.ref a) (.dK kvs)
  | ins {a C dx : Addr} {fs : List (Str × V)} {gs : List (Str × D)} : H a = some (.ins C dx fs) → RepFs H fs gs → Rep H (.ref a) (.ins C gs)
inductive Reps (H : Hp) : List V → List D → Prop
  | nil : Reps H [] []
  | cons {v : V} {d : D} {vs : List V} {ds : List D} : Rep H v d → Reps H vs ds → Reps H (v :: vs) (d :: ds)
inductive RepKV (H : Hp) : TW → List (List Int × D) → Prop
  | nil : RepKV H [] []
  | cons {k : List Int} {b : Addr} {v : V} {d : D} {vs : TW} {ds : List (List Int × D)} : Tp H b (k.map V.int) → Rep H v d → RepKV H vs ds → RepKV H ((k, b, v) :: vs) ((k, d) :: ds)
inductive RepKK (H : Hp) : List (Key × V) → List (Key × D) → Prop
  | nil : RepKK H [] []
  | cons {k : Key} {v : V} {d : D} {vs : List (Key × V)} {ds : List (Key × D)} : Rep H v d → RepKK H vs ds → RepKK H ((k, v) :: vs) ((k, d) :: ds)
inductive RepFs (H : Hp) : List (Str × V) → List (Str × D) → Prop
  | nil : RepFs H [] []
  | cons {k : Str} {v : V} {d : D} {vs : List (Str × V)} {ds : List (Str × D)} : Rep H v d → RepFs H vs ds → RepFs H ((k, v) :: vs) ((k, d) :: ds)
end

section
variable {H H' : Hp}
mutual
theorem Rep.mono (e : Same H H') : ∀ {v : V} {d : D}, Rep H v d → Rep H' v d
  | _, _, .non => .non
  | _, _, .bl b => .bl b
  | _, _, .int i => .int i
  | _, _, .str x => .str x
  | _, _, .tup h r => .tup (h.mono e) (Reps.mono e r)
  | _, _, .lst h r => .lst (e _ _ h) (Reps.mono e r)
  | _, _, .frl h r => .frl (e _ _ h) (Reps.mono e r)
  | _, _, .dT h r => .dT (e _ _ h) (RepKV.mono e r)
  | _, _, .dK h r => .dK (e _ _ h) (RepKK.mono e r)
  | _, _, .ins h r => .ins (e _ _ h) (RepFs.mono e r)
theorem Reps.mono (e : Same H H') : ∀ {vs : List V} {ds : List D}, Reps H vs ds → Reps H' vs ds
  | _, _, .nil => .nil
  | _, _, .cons a r => .cons (Rep.mono e a) (Reps.mono e r)
theorem RepKV.mono (e : Same H H') : ∀ {vs : TW} {ds : List (List Int × D)}, RepKV H vs ds → RepKV H' vs ds
  | _, _, .nil => .nil
  | _, _, .cons t a r => .cons (t.mono e) (Rep.mono e a) (RepKV.mono e r)
theorem RepKK.mono (e : Same H H') : ∀ {vs : List (Key × V)} {ds : List (Key × D)}, RepKK H vs ds → RepKK H' vs ds
  | _, _, .nil => .nil
  | _, _, .cons a r => .cons (Rep.mono e a) (RepKK.mono e r)
theorem RepFs.mono (e : Same H H') : ∀ {vs : List (Str × V)} {ds : List (Str × D)}, RepFs H vs ds → RepFs H' vs ds
  | _, _, .nil => .nil
  | _, _, .cons a r => .cons (Rep.mono e a) (RepFs.mono e r)
end
theorem Rep.any (h : Rep H v d) (f : d.flat = true) : Rep H' v d := by
  cases h <;> first | exact .non | exact .bl _ | exact .int _ | exact .str _ | cases f
theorem Reps.length : ∀ {vs : List V} {ds : List D}, Reps H vs ds → vs.length = ds.length
  | _, _, .nil => rfl
  | _, _, .cons _ r => by rw [List.length_cons, List.length_cons, Reps.length r]
theorem Reps.get : ∀ {vs : List V} {ds : List D} {i : Nat} {d : D}, Reps H vs ds → ds[i]? = some d → ∃ v, vs[i]? = some v ∧ Rep H v d
  | _, _, _, _, .nil, e => by simp at e
  | _, _, 0, _, .cons a _, e => by
    have e' := Option.some.inj e
    subst e'
    exact ⟨_, rfl, a⟩
  | _, _, i + 1, _, .cons _ r, e => Reps.get (i := i) r e
theorem Reps.getV : ∀ {vs : List V} {ds : List D} {i : Nat} {v : V}, Reps H vs ds → vs[i]? = some v → ∃ d, ds[i]? = some d ∧ Rep H v d
  | _, _, _, _, .nil, e => by simp at e
  | _, _, 0, _, .cons a _, e => by
    have e' := Option.some.inj e
    subst e'
    exact ⟨_, rfl, a⟩
  | _, _, i + 1, _, .cons _ r, e => Reps.getV (i := i) r e
theorem Reps.app : ∀ {vs ws : List V} {ds es : List D}, Reps H vs ds → Reps H ws es → Reps H (vs ++ ws) (ds ++ es)
  | _, _, _, _, .nil, r => r
  | _, _, _, _, .cons a q, r => .cons a (Reps.app q r)
theorem Reps.take : ∀ {vs : List V} {ds : List D} (n : Nat), Reps H vs ds → Reps H (vs.take n) (ds.take n)
  | _, _, 0, _ => .nil
  | _, _, _ + 1, .nil => .nil
  | _, _, n + 1, .cons a r => .cons a (Reps.take n r)
theorem Reps.drop : ∀ {vs : List V} {ds : List D} (n : Nat), Reps H vs ds → Reps H (vs.drop n) (ds.drop n)
  | _, _, 0, r => r
  | _, _, _ + 1, .nil => .nil
  | _, _, n + 1, .cons _ r => Reps.drop n r
theorem Reps.set {v : V} {d : D} (a : Rep H v d) : ∀ {vs : List V} {ds : List D} (n : Nat), Reps H vs ds → Reps H (vs.set n v) (ds.set n d)
  | _, _, _, .nil => .nil
  | _, _, 0, .cons _ r => .cons a r
  | _, _, n + 1, .cons b r => .cons b (Reps.set a n r)
theorem Reps.rev : ∀ {vs : List V} {ds : List D}, Reps H vs ds → Reps H vs.reverse ds.reverse
  | _, _, .nil => .nil
  | _, _, .cons a r => by
    rw [List.reverse_cons, List.reverse_cons]
    exact Reps.app (Reps.rev r) (.cons a .nil)
theorem Reps.one (a : Rep H v d) : Reps H [v] [d] := .cons a .nil
theorem Reps.ints : ∀ {vs : List V} {ns : List Int}, Reps H vs (ns.map D.int) → vs = ns.map V.int
  | _, [], .nil => rfl
  | _, n :: ns, .cons a r => by
    cases a
    rw [Reps.ints r]
    rfl
theorem Reps.of_ints : ∀ (ns : List Int), Reps H (ns.map V.int) (ns.map D.int)
  | [] => .nil
  | n :: ns => .cons (.int n) (Reps.of_ints ns)
/-- every item of flat data -/
theorem Reps.anyF (f : ∀ d ∈ ds, D.flat d = true) : Reps H vs ds → Reps H' vs ds := by
  intro h
  induction vs generalizing ds with
  | nil => cases h; exact .nil
  | cons v vs ih =>
    cases h with
    | cons a r => exact .cons (a.any (f _ List.mem_cons_self)) (ih (fun d hd => f d (List.mem_cons_of_mem _ hd)) r)
end

/-- the value of a key, the dict with a pair put -/
def atK {κ : Type} [DecidableEq κ] (kvs : List (κ × D)) (k : κ) : Option D := (kvs.find? fun p => decide (p.1 = k)).map (·.2)
def puK {κ : Type} [DecidableEq κ] (kvs : List (κ × D)) (k : κ) (d : D) : List (κ × D) :=
  if (kvs.any fun p => decide (p.1 = k)) = true then kvs.map (fun p => if p.1 = k then (p.1, d) else p) else kvs ++ [(k, d)]

section
variable {H : Hp}
theorem RepKV.length : ∀ {ws : TW} {ks : List (List Int × D)}, RepKV H ws ks → ws.length = ks.length
  | _, _, .nil => rfl
  | _, _, .cons _ _ r => by rw [List.length_cons, List.length_cons, RepKV.length r]
theorem RepKV.keys : ∀ {ws : TW} {ks : List (List Int × D)}, RepKV H ws ks → KeysT H ws
  | _, _, .nil => fun p hp => nomatch hp
  | _, _, .cons t _ r => fun p hp => by
    rcases List.mem_cons.mp hp with e | hp
    · subst e
      exact t
    · exact RepKV.keys r p hp
theorem RepKK.length : ∀ {ws : List (Key × V)} {ks : List (Key × D)}, RepKK H ws ks → ws.length = ks.length
  | _, _, .nil => rfl
  | _, _, .cons _ r => by rw [List.length_cons, List.length_cons, RepKK.length r]
/-- what a lookup finds on both sides -/
inductive RepOp (H : Hp) : Option V → Option D → Prop
  | none : RepOp H none none
  | some {v : V} {d : D} : Rep H v d → RepOp H (some v) (some d)
theorem RepOp.isSome {o : Option V} {p : Option D} (h : RepOp H o p) : o.isSome = p.isSome := by cases h <;> rfl
theorem RepKV.at (k : List Int) : ∀ {ws : TW} {ks : List (List Int × D)}, RepKV H ws ks → RepOp H (atT ws k) (atK ks k)
  | _, _, .nil => .none
  | _, _, .cons (k := j) _ a r => by
    by_cases e : j = k
    · simp only [atT, atK, List.find?_cons, e, decide_true, Option.map_some]
      exact .some a
    · have q := RepKV.at k r
      simpa only [atT, atK, List.find?_cons, e, decide_false] using q
theorem RepKK.at (k : Key) : ∀ {ws : List (Key × V)} {ks : List (Key × D)}, RepKK H ws ks → RepOp H (valV ws k) (atK ks k)
  | _, _, .nil => .none
  | _, _, .cons (k := j) a r => by
    by_cases e : j = k
    · simp only [valV, atK, List.find?_cons, e, decide_true, Option.map_some]
      exact .some a
    · have q := RepKK.at k r
      simpa only [valV, atK, List.find?_cons, e, decide_false] using q
theorem atK_any {κ : Type} [DecidableEq κ] (k : κ) : ∀ (ks : List (κ × D)), (ks.any fun p => decide (p.1 = k)) = (atK ks k).isSome
  | [] => rfl
  | p :: r => by
    have q := atK_any k r
    unfold atK at q ⊢
    rw [List.any_cons, List.find?_cons, q]
    by_cases e : p.1 = k
    · simp [e]
    · simp [e]
theorem RepKK.anyK (k : Key) : ∀ {ws : List (Key × V)} {ks : List (Key × D)}, RepKK H ws ks → (ws.any fun p => decide (p.1 = k)) = ks.any fun p => decide (p.1 = k)
  | _, _, .nil => rfl
  | _, _, .cons _ r => by rw [List.any_cons, List.any_cons, RepKK.anyK k r]
theorem RepKV.app : ∀ {ws us : TW} {ks js : List (List Int × D)}, RepKV H ws ks → RepKV H us js → RepKV H (ws ++ us) (ks ++ js)
  | _, _, _, _, .nil, r => r
  | _, _, _, _, .cons t a q, r => .cons t a (RepKV.app q r)
theorem RepKK.app : ∀ {ws us : List (Key × V)} {ks js : List (Key × D)}, RepKK H ws ks → RepKK H us js → RepKK H (ws ++ us) (ks ++ js)
  | _, _, _, _, .nil, r => r
  | _, _, _, _, .cons a q, r => .cons a (RepKK.app q r)
theorem RepKV.over {v : V} {d : D} (k : List Int) (a : Rep H v d) : ∀ {ws : TW} {ks : List (List Int × D)}, RepKV H ws ks →
    RepKV H (ws.map fun p => if p.1 = k then (p.1, p.2.1, v) else p) (ks.map fun p => if p.1 = k then (p.1, d) else p)
  | _, _, .nil => .nil
  | _, _, .cons (k := j) t b r => by
    rw [List.map_cons, List.map_cons]
    by_cases e : j = k
    · simp only [e, if_pos]
      exact .cons (e ▸ t) a (RepKV.over k a r)
    · simp only [if_neg e]
      exact .cons t b (RepKV.over k a r)
theorem RepKK.over {v : V} {d : D} (k : Key) (a : Rep H v d) : ∀ {ws : List (Key × V)} {ks : List (Key × D)}, RepKK H ws ks →
    RepKK H (ws.map fun p => if p.1 = k then (p.1, v) else p) (ks.map fun p => if p.1 = k then (p.1, d) else p)
  | _, _, .nil => .nil
  | _, _, .cons (k := j) b r => by
    rw [List.map_cons, List.map_cons]
    by_cases e : j = k
    · simp only [e, if_pos]
      exact .cons a (RepKK.over k a r)
    · simp only [if_neg e]
      exact .cons b (RepKK.over k a r)
theorem RepKV.put {v : V} {d : D} {ws : TW} {ks : List (List Int × D)} (k : List Int) {b : Addr} (t : Tp H b (k.map V.int)) (a : Rep H v d) (r : RepKV H ws ks) : RepKV H (puT ws k b v) (puK ks k d) := by
  unfold puT puK
  rw [atK_any, (r.at k).isSome]
  split
  · exact r.over k a
  · exact r.app (.cons t a .nil)
theorem RepKK.put {v : V} {d : D} {ws : List (Key × V)} {ks : List (Key × D)} (k : Key) (a : Rep H v d) (r : RepKK H ws ks) : RepKK H (putK ws k v) (puK ks k d) := by
  unfold putK puK
  rw [r.anyK k]
  split
  · exact r.over k a
  · exact r.app (.cons a .nil)
end

/-! ### growing heaps, slots -/
structure Grow (H B H1 B1 : Hp) : Prop where
  h : Same H H1
  b : Same B B1
  bh : Same B1 H1
  new : ∀ a o, H a = some o → B a = none → B1 a = none
theorem Grow.refl {H B : Hp} (e : Same B H) : Grow H B H B := ⟨.refl _, .refl _, e, fun _ _ _ n => n⟩
theorem Grow.trans {H B H1 B1 H2 B2 : Hp} (x : Grow H B H1 B1) (y : Grow H1 B1 H2 B2) : Grow H B H2 B2 :=
  ⟨x.h.trans y.h, x.b.trans y.b, y.bh, fun a o e n => y.new a o (x.h a o e) (x.new a o e n)⟩
theorem same_upd {H : Hp} {p : Addr} {o : HO} (h : H p = none) : Same H (upd H p o) := fun b u e => by
  rw [upd_ne (ne_of_none e h)]
  exact e
/-- a new object that is not put on the base -/
theorem Grow.drop {H B : Hp} {p : Addr} {o : HO} (e : Same B H) (h : H p = none) : Grow H B (upd H p o) B :=
  ⟨same_upd h, .refl _, e.trans (same_upd h), fun _ _ _ n => n⟩
/-- a new object, on the base too -/
theorem Grow.add {H B : Hp} {p : Addr} {o : HO} (e : Same B H) (h : H p = none) : Grow H B (upd H p o) (upd B p o) := by
  refine ⟨same_upd h, same_upd (e.free h), fun b u q => ?_, fun a u q n => ?_⟩
  · by_cases hb : b = p
    · subst hb
      rw [upd_same] at q ⊢
      exact q
    · rw [upd_ne hb] at q ⊢
      exact e _ _ q
  · rw [upd_ne (ne_of_none q h)]
    exact n
/-- an object that stands outside of the base is put on it -/
theorem Grow.up {H B H1 B1 : Hp} {p : Addr} {o : HO} (g : Grow H B H1 B1) (h : H p = none) (h1 : H1 p = some o) : Grow H B H1 (upd B1 p o) := by
  refine ⟨g.h, fun b u q => ?_, fun b u q => ?_, fun a u q n => ?_⟩
  · by_cases hb : b = p
    · subst hb
      have q2 := g.bh _ _ (g.b _ _ q)
      rw [h1] at q2
      rw [upd_same]
      exact q2
    · rw [upd_ne hb]
      exact g.b _ _ q
  · by_cases hb : b = p
    · subst hb
      rw [upd_same] at q
      rw [h1]
      exact q
    · rw [upd_ne hb] at q
      exact g.bh _ _ q
  · rw [upd_ne (ne_of_none q h)]
    exact g.new a u q n

/-- an exception: its class, its fields (flat ones) -/
structure Exn where
  C : Addr
  fs : List (Str × D)
def RepX (H : Hp) (x : Exn) (cls : Value) (dx : Option Addr) : Prop :=
  cls = .ref x.C ∧ match x.fs with
    | [] => dx = none
    | f :: r => ∃ a fs, dx = some a ∧ H a = some (.xd fs) ∧ RepFs H fs (f :: r) ∧ ∀ p ∈ f :: r, p.2.flat = true
theorem RepFs.anyF {H H' : Hp} : ∀ {fs : List (Str × V)} {gs : List (Str × D)}, RepFs H fs gs → (∀ p ∈ gs, p.2.flat = true) → RepFs H' fs gs
  | _, _, .nil, _ => .nil
  | _, _, .cons a r, f => .cons (a.any (f _ List.mem_cons_self)) (RepFs.anyF r fun p hp => f p (List.mem_cons_of_mem _ hp))
/-- its dict stays -/
theorem RepX.else {H H' : Hp} {x : Exn} {cls : Value} {dx : Option Addr} (h : RepX H x cls dx) (k : ∀ a fs, H a = some (.xd fs) → H' a = some (.xd fs)) : RepX H' x cls dx := by
  refine ⟨h.1, ?_⟩
  have h2 := h.2
  split at h2
  · exact h2
  · obtain ⟨a, fs, e, ha, r, f⟩ := h2
    exact ⟨a, fs, e, k _ _ ha, r.anyF f, f⟩
/-- a slot: nothing known, a value on the base, a list or a dict of its own, a caught exception -/
inductive Sl where
  | un | va (d : D) | ow (ds : List D) | oT (kvs : List (List Int × D)) | oK (kvs : List (Key × D)) | ex (a : Addr) (d : Option Addr) (e : Exn)
abbrev Store := List Sl
def Sl.own : Sl → Bool
  | .ow _ => true | .oT _ => true | .oK _ => true
  | _ => false
def SlOk (H0 H B : Hp) (x : Option V) : Sl → Prop
  | .un => True
  | .va d => ∃ v, x = some v ∧ Rep B v d
  | .ow ds => ∃ a vs, x = some (.ref a) ∧ H0 a = none ∧ B a = none ∧ H a = some (.lst vs) ∧ Reps B vs ds
  | .oT kvs => ∃ a ws, x = some (.ref a) ∧ H0 a = none ∧ B a = none ∧ H a = some (dto a ws) ∧ RepKV B ws kvs
  | .oK kvs => ∃ a ws, x = some (.ref a) ∧ H0 a = none ∧ B a = none ∧ H a = some (.dK ws) ∧ RepKK B ws kvs
  | .ex a d e => x = some (.ref a) ∧ RepX H e (.ref e.C) d
theorem SlOk.grow {H0 H B H1 B1 : Hp} {x : Option V} (g : Grow H B H1 B1) : ∀ {l : Sl}, SlOk H0 H B x l → SlOk H0 H1 B1 x l
  | .un, _ => trivial
  | .va _, ⟨v, e, r⟩ => ⟨v, e, r.mono g.b⟩
  | .ow _, ⟨a, vs, e, z, n, h, r⟩ => ⟨a, vs, e, z, g.new _ _ h n, g.h _ _ h, r.mono g.b⟩
  | .oT _, ⟨a, vs, e, z, n, h, r⟩ => ⟨a, vs, e, z, g.new _ _ h n, g.h _ _ h, r.mono g.b⟩
  | .oK _, ⟨a, vs, e, z, n, h, r⟩ => ⟨a, vs, e, z, g.new _ _ h n, g.h _ _ h, r.mono g.b⟩
  | .ex _ _ _, ⟨e, r⟩ => ⟨e, r.else fun a fs h => g.h _ _ h⟩
/-- an owned slot stands at an address outside of the base, younger than the entry, that is there -/
theorem SlOk.at {H0 H B : Hp} {x : Option V} : ∀ {l : Sl}, SlOk H0 H B x l → l.own = true → ∃ a o, x = some (.ref a) ∧ H0 a = none ∧ B a = none ∧ H a = some o ∧ ∀ fs, o ≠ .xd fs
  | .ow _, ⟨a, _, e, z, n, h, _⟩, _ => ⟨a, _, e, z, n, h, fun _ z => by cases z⟩
  | .oT _, ⟨a, _, e, z, n, h, _⟩, _ => ⟨a, _, e, z, n, h, fun _ z => by unfold dto at z; cases z⟩
  | .oK _, ⟨a, _, e, z, n, h, _⟩, _ => ⟨a, _, e, z, n, h, fun _ z => by cases z⟩
/-- another object changes -/
theorem SlOk.else {H0 H B H1 B1 : Hp} {x : Option V} (hb : Same B B1) (kx : ∀ a fs, H a = some (.xd fs) → H1 a = some (.xd fs)) (k : ∀ a o, x = some (.ref a) → B a = none → H a = some o → H1 a = some o ∧ B1 a = none) : ∀ {l : Sl}, SlOk H0 H B x l → SlOk H0 H1 B1 x l
  | .un, _ => trivial
  | .va _, ⟨v, e, r⟩ => ⟨v, e, r.mono hb⟩
  | .ow _, ⟨a, vs, e, z, n, h, r⟩ => ⟨a, vs, e, z, (k a _ e n h).2, (k a _ e n h).1, r.mono hb⟩
  | .oT _, ⟨a, vs, e, z, n, h, r⟩ => ⟨a, vs, e, z, (k a _ e n h).2, (k a _ e n h).1, r.mono hb⟩
  | .oK _, ⟨a, vs, e, z, n, h, r⟩ => ⟨a, vs, e, z, (k a _ e n h).2, (k a _ e n h).1, r.mono hb⟩
  | .ex _ _ _, ⟨e, r⟩ => ⟨e, r.else kx⟩

/-- the entry's heap and base, the present ones -/
structure Good (H0 B0 H B : Hp) (σ : St) (s : Store) : Prop where
  len : σ.length = s.length
  g : Grow H0 B0 H B
  sl : ∀ (i : Nat) x l, σ[i]? = some x → s[i]? = some l → SlOk H0 H B x l
  ap : ∀ (i j : Nat) li lj a, s[i]? = some li → s[j]? = some lj → li.own = true → lj.own = true → σ[i]? = some (some (.ref a)) → σ[j]? = some (some (.ref a)) → i = j

section
variable {H0 B0 H B H1 B1 : Hp} {σ : St} {s : Store}
theorem Good.hb (G : Good H0 B0 H B σ s) : Same B H := G.g.bh
theorem Good.grow (G : Good H0 B0 H B σ s) (g : Grow H B H1 B1) : Good H0 B0 H1 B1 σ s :=
  ⟨G.len, G.g.trans g, fun i x l e1 e2 => (G.sl i x l e1 e2).grow g, G.ap⟩
theorem Good.self (G : Good H0 B0 H B σ s) : Grow H B H B := .refl G.hb
theorem Good.slot (G : Good H0 B0 H B σ s) {i : Nat} {l : Sl} (e : s[i]? = some l) : ∃ x, σ[i]? = some x ∧ SlOk H0 H B x l := by
  have hi : i < σ.length := by
    rw [G.len]
    exact (List.getElem?_eq_some_iff.mp e).1
  exact ⟨σ[i], List.getElem?_eq_getElem hi, G.sl i _ l (List.getElem?_eq_getElem hi) e⟩
theorem set_get {α : Type} {l : List α} {i j : Nat} {x y : α} (e : (l.set i x)[j]? = some y) : (j = i ∧ y = x) ∨ (j ≠ i ∧ l[j]? = some y) := by
  by_cases h : j = i
  · subst h
    have hl : j < l.length := by
      have z := (List.getElem?_eq_some_iff.mp e).1
      rwa [List.length_set] at z
    rw [List.getElem?_set_self hl] at e
    exact .inl ⟨rfl, (Option.some.inj e).symm⟩
  · rw [List.getElem?_set_ne (Ne.symm h)] at e
    exact .inr ⟨h, e⟩
theorem set_len (G : Good H0 B0 H B σ s) (i : Nat) (x : Option V) (l : Sl) : (σ.set i x).length = (s.set i l).length := by
  rw [List.length_set, List.length_set]
  exact G.len
/-- a slot gets anything that is no list of its own -/
theorem Good.put (G : Good H0 B0 H B σ s) {i : Nat} {x : Option V} {l : Sl} (h : SlOk H0 H B x l) (n : l.own = false) : Good H0 B0 H B (σ.set i x) (s.set i l) := by
  refine ⟨set_len G .., G.g, fun j y k e1 e2 => ?_, fun j k lj lk a e1 e2 o1 o2 f1 f2 => ?_⟩
  · rcases set_get e1 with ⟨rfl, rfl⟩ | ⟨hj, e1⟩
    · rcases set_get e2 with ⟨_, rfl⟩ | ⟨z, _⟩
      · exact h
      · exact absurd rfl z
    · rcases set_get e2 with ⟨z, _⟩ | ⟨_, e2⟩
      · exact absurd z hj
      · exact G.sl j y k e1 e2
  · rcases set_get e1 with ⟨rfl, rfl⟩ | ⟨hj, e1⟩
    · rw [n] at o1; cases o1
    · rcases set_get e2 with ⟨rfl, rfl⟩ | ⟨hk, e2⟩
      · rw [n] at o2; cases o2
      · rw [List.getElem?_set_ne (Ne.symm hj)] at f1
        rw [List.getElem?_set_ne (Ne.symm hk)] at f2
        exact G.ap j k lj lk a e1 e2 o1 o2 f1 f2
theorem Good.putV (G : Good H0 B0 H B σ s) {i : Nat} {v : V} {d : D} (r : Rep B v d) : Good H0 B0 H B (σ.set i (some v)) (s.set i (.va d)) := G.put ⟨v, rfl, r⟩ rfl
theorem ref_inj {a b : Addr} (e : some (V.ref a) = some (V.ref b)) : a = b := V.ref.inj (Option.some.inj e)
/-- a slot gets an object of its own that no other slot owns -/
theorem Good.putO (G : Good H0 B0 H B σ s) {i : Nat} {p : Addr} {l : Sl} (h : SlOk H0 H B (some (.ref p)) l) (n : ∀ (j : Nat) (lj : Sl), j ≠ i → s[j]? = some lj → lj.own = true → σ[j]? ≠ some (some (.ref p))) :
    Good H0 B0 H B (σ.set i (some (.ref p))) (s.set i l) := by
  refine ⟨set_len G .., G.g, fun j y k e1 e2 => ?_, fun j k lj lk a e1 e2 o1 o2 f1 f2 => ?_⟩
  · rcases set_get e1 with ⟨rfl, rfl⟩ | ⟨hj, e1⟩
    · rcases set_get e2 with ⟨_, rfl⟩ | ⟨z, _⟩
      · exact h
      · exact absurd rfl z
    · rcases set_get e2 with ⟨z, _⟩ | ⟨_, e2⟩
      · exact absurd z hj
      · exact G.sl j y k e1 e2
  · by_cases hj : j = i
    · by_cases hk : k = i
      · rw [hj, hk]
      · rcases set_get f1 with ⟨_, z⟩ | ⟨z, _⟩
        · rw [List.getElem?_set_ne (Ne.symm hk)] at f2 e2
          rw [ref_inj z] at f2
          exact absurd f2 (n k lk hk e2 o2)
        · exact absurd hj z
    · rw [List.getElem?_set_ne (Ne.symm hj)] at e1 f1
      by_cases hk : k = i
      · rcases set_get f2 with ⟨_, z⟩ | ⟨z, _⟩
        · rw [ref_inj z] at f1
          exact absurd f1 (n j lj hj e1 o1)
        · exact absurd hk z
      · rw [List.getElem?_set_ne (Ne.symm hk)] at e2 f2
        exact G.ap j k lj lk a e1 e2 o1 o2 f1 f2
/-- a new object is owned by no slot -/
theorem Good.fresh (G : Good H0 B0 H B σ s) {p : Addr} (hp : H p = none) : ∀ (j : Nat) (lj : Sl), s[j]? = some lj → lj.own = true → σ[j]? ≠ some (some (.ref p)) := fun j lj e o z => by
  obtain ⟨x, ex, hx⟩ := G.slot e
  rw [z] at ex
  have ex := Option.some.inj ex
  subst ex
  obtain ⟨a, o', ea, _, _, h, _⟩ := hx.at o
  rw [← ref_inj ea, hp] at h
  cases h
/-- the object of an owned slot changes -/
theorem Good.change (G : Good H0 B0 H B σ s) {i : Nat} {p : Addr} {li l : Sl} {o : HO} (ei : s[i]? = some li) (oi : li.own = true) (ep : σ[i]? = some (some (.ref p))) (h : SlOk H0 (upd H p o) B (some (.ref p)) l) (ol : l.own = true) :
    Good H0 B0 (upd H p o) B σ (s.set i l) := by
  obtain ⟨x, ex, hx⟩ := G.slot ei
  rw [ep] at ex
  have ex := Option.some.inj ex
  subst ex
  obtain ⟨a, o', ea, z0, nb, ho', hxd⟩ := hx.at oi
  have ea' : p = a := ref_inj ea
  subst ea'
  have keep : ∀ {C : Hp}, C p = none → Same C H → Same C (upd H p o) := fun {C} n e b u q => by
    rw [upd_ne (ne_of_none q n)]
    exact e _ _ q
  refine ⟨by rw [List.length_set]; exact G.len, ⟨keep z0 G.g.h, G.g.b, keep nb G.g.bh, G.g.new⟩, fun j y k e1 e2 => ?_, fun j k lj lk a e1 e2 o1 o2 f1 f2 => ?_⟩
  · rcases set_get e2 with ⟨rfl, rfl⟩ | ⟨hj, e2⟩
    · rw [ep] at e1
      have e1 := Option.some.inj e1
      subst e1
      exact h
    · have q := G.sl j y k e1 e2
      by_cases ok : k.own = true
      · refine q.else (.refl _) (fun b fs hb => by rw [upd_ne (fun z => hxd fs (Option.some.inj ((by rw [← ho', ← z, hb]) : some o' = some (.xd fs))))]; exact hb) fun a u e n hu => ⟨?_, n⟩
        have na : a ≠ p := fun z => by
          subst z
          rw [e] at e1
          exact hj (G.ap j i k li a e2 ei ok oi e1 ep)
        rw [upd_ne na]
        exact hu
      · cases k with
        | un => trivial
        | va d => exact q
        | ex b d e => exact ⟨q.1, q.2.else fun b fs hb => by rw [upd_ne (fun z => hxd fs (Option.some.inj ((by rw [← ho', ← z, hb]) : some o' = some (.xd fs))))]; exact hb⟩
        | _ => exact absurd rfl ok
  · have own : ∀ (m : Nat) lm, (s.set i l)[m]? = some lm → lm.own = true → ∃ lm', s[m]? = some lm' ∧ lm'.own = true := fun m lm e o => by
      rcases set_get e with ⟨rfl, rfl⟩ | ⟨_, e⟩
      · exact ⟨li, ei, oi⟩
      · exact ⟨lm, e, o⟩
    obtain ⟨lj', e1', o1'⟩ := own j lj e1 o1
    obtain ⟨lk', e2', o2'⟩ := own k lk e2 o2
    exact G.ap j k lj' lk' a e1' e2' o1' o2' f1 f2
/-- an owned slot's object is put on the base, for good -/
theorem Good.freeze (G : Good H0 B0 H B σ s) {i : Nat} {p : Addr} {li : Sl} {o : HO} {d : D} (ei : s[i]? = some li) (oi : li.own = true) (ep : σ[i]? = some (some (.ref p))) (ho : H p = some o) (r : Rep (upd B p o) (.ref p) d) :
    Good H0 B0 H (upd B p o) σ (s.set i (.va d)) := by
  obtain ⟨x, ex, hx⟩ := G.slot ei
  rw [ep] at ex
  have ex := Option.some.inj ex
  subst ex
  obtain ⟨a, o', ea, z0, nb, ho', hxd⟩ := hx.at oi
  have ea' : p = a := ref_inj ea
  subst ea'
  refine ⟨by rw [List.length_set]; exact G.len, G.g.up z0 ho, fun j y k e1 e2 => ?_, fun j k lj lk a e1 e2 o1 o2 f1 f2 => ?_⟩
  · rcases set_get e2 with ⟨rfl, rfl⟩ | ⟨hj, e2⟩
    · rw [ep] at e1
      have e1 := Option.some.inj e1
      subst e1
      exact ⟨_, rfl, r⟩
    · have q := G.sl j y k e1 e2
      by_cases ok : k.own = true
      · refine q.else (same_upd nb) (fun _ _ z => z) fun a u e n hu => ⟨hu, ?_⟩
        have na : a ≠ p := fun z => by
          subst z
          rw [e] at e1
          exact hj (G.ap j i k li a e2 ei ok oi e1 ep)
        rw [upd_ne na]
        exact n
      · cases k with
        | un => trivial
        | va d =>
          obtain ⟨v, e', r'⟩ := q
          exact ⟨v, e', r'.mono (same_upd nb)⟩
        | ex b d e => exact q
        | _ => exact absurd rfl ok
  · have own : ∀ (m : Nat) lm, (s.set i (.va d))[m]? = some lm → lm.own = true → s[m]? = some lm := fun m lm e o => by
      rcases set_get e with ⟨rfl, rfl⟩ | ⟨_, e⟩
      · cases o
      · exact e
    exact G.ap j k lj lk a (own j lj e1 o1) (own k lk e2 o2) o1 o2 f1 f2
end

/-- how a value stands: on the base; an owned object itself; anywhere -/
inductive Fl where
  | st | el | bo
def Fl.isSt : Fl → Bool
  | .st => true
  | _ => false
def RepF (H0 H B : Hp) (f : Fl) (v : V) (d : D) : Prop :=
  Rep H v d ∧ match f with
    | .st => Rep B v d
    | .el => ∃ a, v = .ref a ∧ H0 a = none ∧ B a = none ∧ ((∃ vs ds, d = .lst ds ∧ H a = some (.lst vs) ∧ Reps B vs ds) ∨ (∃ ws kvs, d = .dT kvs ∧ H a = some (dto a ws) ∧ RepKV B ws kvs) ∨ ∃ ws kvs, d = .dK kvs ∧ H a = some (.dK ws) ∧ RepKK B ws kvs)
    | .bo => True
theorem RepF.grow {H0 H B H1 B1 : Hp} {v : V} {d : D} (g : Grow H B H1 B1) : ∀ {f : Fl}, RepF H0 H B f v d → RepF H0 H1 B1 f v d
  | .st, ⟨r, q⟩ => ⟨r.mono g.h, q.mono g.b⟩
  | .el, ⟨r, a, e, z, n, h⟩ => by
    rcases h with ⟨vs, ds, e2, h, q⟩ | ⟨vs, ds, e2, h, q⟩ | ⟨vs, ds, e2, h, q⟩
    · exact ⟨r.mono g.h, a, e, z, g.new _ _ h n, .inl ⟨vs, ds, e2, g.h _ _ h, q.mono g.b⟩⟩
    · exact ⟨r.mono g.h, a, e, z, g.new _ _ h n, .inr (.inl ⟨vs, ds, e2, g.h _ _ h, q.mono g.b⟩)⟩
    · exact ⟨r.mono g.h, a, e, z, g.new _ _ h n, .inr (.inr ⟨vs, ds, e2, g.h _ _ h, q.mono g.b⟩)⟩
  | .bo, ⟨r, q⟩ => ⟨r.mono g.h, trivial⟩
theorem RepF.of {H0 H B : Hp} {v : V} {d : D} (e : Same B H) (r : Rep B v d) : RepF H0 H B .st v d := ⟨r.mono e, r⟩
theorem RepF.flat {H0 H B : Hp} {f : Fl} {v : V} {d : D} (r : RepF H0 H B f v d) (h : d.flat = true) : Rep B v d := r.1.any h
theorem RepF.stab {H0 H B : Hp} {f : Fl} {v : V} {d : D} (r : RepF H0 H B f v d) (h : (f.isSt || d.flat) = true) : Rep B v d := by
  cases f with
  | st => exact r.2
  | el => exact r.1.any h
  | bo => exact r.1.any h
/-- a list whose items stand on the base -/
theorem RepF.lst {H0 H B : Hp} {f : Fl} {v : V} {ds : List D} (e : Same B H) (r : RepF H0 H B f v (.lst ds)) (h : f ≠ .bo) : ∃ a vs, v = .ref a ∧ H a = some (.lst vs) ∧ Reps B vs ds := by
  cases f with
  | st =>
    cases r.2 with
    | lst h q => exact ⟨_, _, rfl, e _ _ h, q⟩
  | el =>
    obtain ⟨_, a, e1, _, _, ⟨vs, ds', e2, h, q⟩ | ⟨_, _, e2, _⟩ | ⟨_, _, e2, _⟩⟩ := r
    · cases e2
      exact ⟨a, vs, e1, h, q⟩
    · cases e2
    · cases e2
  | bo => exact absurd rfl h
theorem RepF.dT {H0 H B : Hp} {f : Fl} {v : V} {kvs : List (List Int × D)} (e : Same B H) (r : RepF H0 H B f v (.dT kvs)) (h : f ≠ .bo) : ∃ a ws, v = .ref a ∧ H a = some (dto a ws) ∧ RepKV B ws kvs := by
  cases f with
  | st =>
    cases r.2 with
    | dT h q => exact ⟨_, _, rfl, e _ _ h, q⟩
  | el =>
    obtain ⟨_, a, e1, _, _, ⟨_, _, e2, _⟩ | ⟨vs, ds', e2, h, q⟩ | ⟨_, _, e2, _⟩⟩ := r
    · cases e2
    · cases e2
      exact ⟨a, vs, e1, h, q⟩
    · cases e2
  | bo => exact absurd rfl h
theorem RepF.dK {H0 H B : Hp} {f : Fl} {v : V} {kvs : List (Key × D)} (e : Same B H) (r : RepF H0 H B f v (.dK kvs)) (h : f ≠ .bo) : ∃ a ws, v = .ref a ∧ H a = some (.dK ws) ∧ RepKK B ws kvs := by
  cases f with
  | st =>
    cases r.2 with
    | dK h q => exact ⟨_, _, rfl, e _ _ h, q⟩
  | el =>
    obtain ⟨_, a, e1, _, _, ⟨_, _, e2, _⟩ | ⟨_, _, e2, _⟩ | ⟨vs, ds', e2, h, q⟩⟩ := r
    · cases e2
    · cases e2
    · cases e2
      exact ⟨a, vs, e1, h, q⟩
  | bo => exact absurd rfl h
/-- any value may be put on the base, unless it is only borrowed -/
theorem RepF.up {H0 B0 H B : Hp} {f : Fl} {v : V} {d : D} (g : Grow H0 B0 H B) (r : RepF H0 H B f v d) (h : f ≠ .bo) : ∃ B1, Grow H0 B0 H B1 ∧ Rep B1 v d := by
  cases f with
  | st => exact ⟨B, g, r.2⟩
  | el =>
    obtain ⟨_, a, e1, z, n, ⟨_, _, rfl, h, q⟩ | ⟨_, _, rfl, h, q⟩ | ⟨_, _, rfl, h, q⟩⟩ := r
    · subst e1; exact ⟨_, g.up z h, .lst upd_same (q.mono (same_upd n))⟩
    · subst e1; exact ⟨_, g.up z h, .dT upd_same (q.mono (same_upd n))⟩
    · subst e1; exact ⟨_, g.up z h, .dK upd_same (q.mono (same_upd n))⟩
  | bo => exact absurd rfl h

end L3

/-! L3b: expressions over stores of plain data. -/
namespace L3
open PySem PySem.Spec L2
open PyProof.Rows hiding St

/-! ### the widest reading of a piece of the text -/
def CanE (X : Cx) (e : Expr) : TE := fun σ H Q => ∃ t, PE X e t ∧ t σ H Q
theorem can (X : Cx) (e : Expr) : PE X e (CanE X e) := ⟨fun pins s σ H Q I ⟨_, h, q⟩ => h.run pins s σ H Q I q⟩
def CanT (X : Cx) (e : Expr) : TT := fun σ H Q => ∃ t, PT X e t ∧ t σ H Q
theorem canT (X : Cx) (e : Expr) : PT X e (CanT X e) := ⟨fun pins s σ H Q I ⟨_, h, q⟩ => h.run pins s σ H Q I q⟩
def CanW (X : Cx) (e : Expr) : TT := fun σ H Q => ∃ t, PW X e t ∧ t σ H Q
theorem canW (X : Cx) (e : Expr) : PW X e (CanW X e) := ⟨fun w pins s σ H Q I ⟨_, h, q⟩ => h.run w pins s σ H Q I q⟩
def CanA (X : Cx) (es : List Expr) : TA := fun σ H Q => ∃ t, PA X es t ∧ t σ H Q
theorem canA (X : Cx) (es : List Expr) : PA X es (CanA X es) := ⟨fun pos pins s σ H Q I ⟨_, h, q⟩ => h.run pos pins s σ H Q I q⟩
def CanO (X : Cx) (e : Option Expr) : TO := fun σ H Q => ∃ t, PO X e t ∧ t σ H Q
theorem canO (X : Cx) (e : Option Expr) : PO X e (CanO X e) := ⟨fun pins s σ H Q I ⟨_, h, q⟩ => h.run pins s σ H Q I q⟩
def CanR (X : Cx) (f : Value → Value → Sem Value) : R2 := fun x y H Q => ∃ r, OpR X f r ∧ r x y H Q
theorem canR (X : Cx) (f : Value → Value → Sem Value) : OpR X f (CanR X f) := fun pins s σ H x y v u Q I r1 r2 ⟨_, h, q⟩ => h pins s σ H x y v u Q I r1 r2 q
def CanC (X : Cx) (f : Value) : List V → Hp → VK → Prop := fun xs H Q => ∃ r, CallR X f r ∧ r xs H Q
theorem canC (X : Cx) (f : Value) : CallR X f (CanC X f) := fun pins s σ H xs us Q I r ⟨_, h, q⟩ => h pins s σ H xs us Q I r q
def CanX (X : Cx) : R2 := fun x y H Q => ∃ r, IxR X r ∧ r x y H Q
theorem canX (X : Cx) : IxR X (CanX X) := fun va sl pins s σ H x y v u Q I r1 r2 ⟨_, h, q⟩ hs => h va sl pins s σ H x y v u Q I r1 r2 q hs
def CanL (X : Cx) : V → Option Int → Option Int → Hp → VK → Prop := fun x lo hi H Q => ∃ r, SlR X r ∧ r x lo hi H Q
theorem canL (X : Cx) : SlR X (CanL X) := fun pins s σ H x v vl vu lo hi sl Q I rx hs pl pu ⟨_, h, q⟩ => h pins s σ H x v vl vu lo hi sl Q I rx hs pl pu q

/-! ### judgements -/
abbrev TE3 := Store → (Fl → D → Prop) → (Exn → Prop) → Prop
abbrev TT3 := Store → (Bool → Prop) → (Exn → Prop) → Prop
abbrev TA3 := Store → (Bool → List D → Prop) → (Exn → Prop) → Prop
/-- what is wanted of exceptions, at these slots -/
def ExK (W : WX) (H B : Hp) (σ : St) (x : Exn → Prop) : Prop := ∀ e cls dx H1 B1, Grow H B H1 B1 → RepX H1 e cls dx → x e → W cls dx σ H1
theorem ExK.grow {W : WX} {H B H1 B1 : Hp} {σ : St} {x : Exn → Prop} (k : ExK W H B σ x) (g : Grow H B H1 B1) : ExK W H1 B1 σ x := fun e cls dx H2 B2 g2 => k e cls dx H2 B2 (g.trans g2)
structure PE3 (X : Cx) (W : WX) (e : Expr) (t : TE3) : Prop where
  run : ∀ (H0 B0 H B : Hp) (σ : St) (s : Store) (q : Fl → D → Prop) (x : Exn → Prop) (Q : VK), Good H0 B0 H B σ s → t s q x →
    (∀ v H1 B1 f d, Grow H B H1 B1 → RepF H0 H1 B1 f v d → q f d → Q v H1) → ExK W H B σ x → CanE X e σ H Q
structure PT3 (X : Cx) (W : WX) (e : Expr) (t : TT3) : Prop where
  run : ∀ (H0 B0 H B : Hp) (σ : St) (s : Store) (q : Bool → Prop) (x : Exn → Prop) (Q : Bool → Hp → Prop), Good H0 B0 H B σ s → t s q x →
    (∀ b H1 B1, Grow H B H1 B1 → q b → Q b H1) → ExK W H B σ x → CanT X e σ H Q
structure PW3 (X : Cx) (W : WX) (e : Expr) (t : TT3) : Prop where
  run : ∀ (H0 B0 H B : Hp) (σ : St) (s : Store) (q : Bool → Prop) (x : Exn → Prop) (Q : Bool → Hp → Prop), Good H0 B0 H B σ s → t s q x →
    (∀ b H1 B1, Grow H B H1 B1 → q b → Q b H1) → ExK W H B σ x → CanW X e σ H Q
structure PA3 (X : Cx) (W : WX) (es : List Expr) (t : TA3) : Prop where
  run : ∀ (H0 B0 H B : Hp) (σ : St) (s : Store) (q : Bool → List D → Prop) (x : Exn → Prop) (Q : List V → Hp → Prop), Good H0 B0 H B σ s → t s q x →
    (∀ vs H1 B1 b ds, Grow H B H1 B1 → Reps H1 vs ds → (b = true → Reps B1 vs ds) → vs.length = es.length → q b ds → Q vs H1) → ExK W H B σ x → CanA X es σ H Q
/-- a new list: it stands at an address that is not on the base; its items do -/
abbrev TL3 := Store → (List D → Prop) → (Exn → Prop) → Prop
structure PL3 (X : Cx) (W : WX) (e : Expr) (t : TL3) : Prop where
  run : ∀ (H0 B0 H B : Hp) (σ : St) (s : Store) (q : List D → Prop) (x : Exn → Prop) (Q : VK), Good H0 B0 H B σ s → t s q x →
    (∀ p H1 B1 vs ds, Grow H B H1 B1 → H p = none → H1 p = some (.lst vs) → B1 p = none → Reps B1 vs ds → q ds → Q (.ref p) H1) → ExK W H B σ x → CanE X e σ H Q

section
variable {X : Cx} {W : WX} {a b c e : Expr} {es : List Expr} {ta tb tc te : TE3} {tA tB' : TT3} {tas : TA3} {pos : Pos}

/-- a new list as a value -/
def tOfL (t : TL3) : TE3 := fun s q x => t s (fun ds => q .st (.lst ds)) x
theorem PL3.val {t : TL3} (h : PL3 X W e t) : PE3 X W e (tOfL t) :=
  ⟨fun H0 B0 H B σ s q x Q G ht k kx => h.run H0 B0 H B σ s _ x Q G ht (fun p H1 B1 vs ds g hp h1 hb r hq =>
    k _ H1 (upd B1 p (.lst vs)) .st _ (g.up hp h1) (RepF.of (g.up hp h1).bh (.lst upd_same (r.mono (same_upd hb)))) hq) kx⟩

/-! ### names, constants -/
def tV3 (i : Nat) : TE3 := fun s q _ => match s[i]? with
  | some (.va d) => q .st d
  | some (.ow ds) => q .el (.lst ds)
  | some (.oT kvs) => q .el (.dT kvs)
  | some (.oK kvs) => q .el (.dK kvs)
  | _ => False
theorem p3v (i : Nat) {x : Str} {pos : Pos} (hN : X.N[i]? = some x := by rfl) (hv : Vis X.env.scope x := by first | exact Or.inl rfl | exact Or.inr (Or.inl rfl) | exact Or.inr (Or.inr rfl)) (hd : (x == ("__debug__" : Str)) = false := by decide)
    (hcd : (x == ("__classdict__" : Str)) = false := by decide) : PE3 X W (.Name x pos) (tV3 i) := by
  refine ⟨fun H0 B0 H B σ s q x Q G ht k kx => ⟨_, pe_var hN hv hd hcd, ?_⟩⟩
  unfold tV3 at ht
  split at ht
  · rename_i d e
    obtain ⟨y, e1, v, rfl, r⟩ := G.slot e
    exact ⟨v, e1, k v H B .st d G.self (RepF.of G.hb r) ht⟩
  · rename_i ds e
    obtain ⟨y, e1, a, vs, rfl, z, n, h, r⟩ := G.slot e
    exact ⟨_, e1, k _ H B .el _ G.self ⟨.lst h (r.mono G.hb), a, rfl, z, n, .inl ⟨vs, ds, rfl, h, r⟩⟩ ht⟩
  · rename_i ds e
    obtain ⟨y, e1, a, vs, rfl, z, n, h, r⟩ := G.slot e
    exact ⟨_, e1, k _ H B .el _ G.self ⟨.dT h (r.mono G.hb), a, rfl, z, n, .inr (.inl ⟨vs, ds, rfl, h, r⟩)⟩ ht⟩
  · rename_i ds e
    obtain ⟨y, e1, a, vs, rfl, z, n, h, r⟩ := G.slot e
    exact ⟨_, e1, k _ H B .el _ G.self ⟨.dK h (r.mono G.hb), a, rfl, z, n, .inr (.inr ⟨vs, ds, rfl, h, r⟩)⟩ ht⟩
  · exact ht.elim
def tC3 (d : D) : TE3 := fun _ q _ => q .st d
theorem p3c {v : V} {d : D} (h : PE X e (tC v)) (r : ∀ H, Rep H v d) : PE3 X W e (tC3 d) :=
  ⟨fun H0 B0 H B σ s q x Q G ht k kx => ⟨_, h, k v H B .st d G.self (RepF.of G.hb (r B)) ht⟩⟩
theorem p3int {i j pos} : PE3 X W (.Constant (.int i) j pos) (tC3 (.int i)) := p3c pe_int fun _ => .int i
theorem p3bl {b j pos} : PE3 X W (.Constant (.bool b) j pos) (tC3 (.bl b)) := p3c pe_bl fun _ => .bl b
theorem p3non {j pos} : PE3 X W (.Constant .none j pos) (tC3 .non) := p3c pe_non fun _ => .non
theorem p3str {x j pos} : PE3 X W (.Constant (.str x) j pos) (tC3 (.str x)) := p3c pe_str fun _ => .str x
/-- a constant of the module, an int -/
theorem p3glob {x : Str} {i : Int} {t : Tok} (hg : Gl X x) (hm : X.mg x = some (.int i t)) (hd : (x == ("__debug__" : Str)) = false := by decide) : PE3 X W (.Name x pos) (tC3 (.int i)) :=
  p3c (pe_glob hg hm (v := .int i) ⟨t, rfl⟩ hd) fun _ => .int i

/-! ### operators -/
abbrev O3 := Fl → D → Fl → D → (Fl → D → Prop) → Prop
def tB3 (o : O3) (ta tb : TE3) : TE3 := fun s q x => ta s (fun f d => tb s (fun g e => o f d g e q) x) x
/-- the operation o is what f does -/
def Op3 (X : Cx) (f : Value → Value → Sem Value) (o : O3) : Prop := ∀ (H0 H B : Hp) (v u : V) (f1 : Fl) (d : D) (f2 : Fl) (e : D) (q : Fl → D → Prop) (Q : VK), Same B H → RepF H0 H B f1 v d → RepF H0 H B f2 u e → o f1 d f2 e q →
  (∀ w H1 B1 h c, Grow H B H1 B1 → RepF H0 H1 B1 h w c → q h c → Q w H1) → CanR X f v u H Q
theorem bin3 (ha : PE3 X W a ta) (hb : PE3 X W b tb) {H0 B0 H B : Hp} {σ : St} {s : Store} {x : Exn → Prop} {q : Fl → D → Fl → D → Prop} {R : V → V → Hp → Prop} (G : Good H0 B0 H B σ s) (ht : ta s (fun f d => tb s (fun g e => q f d g e) x) x) (kx : ExK W H B σ x)
    (k : ∀ v u H1 B1 f d g e, Grow H B H1 B1 → RepF H0 H1 B1 f v d → RepF H0 H1 B1 g u e → q f d g e → R v u H1) : CanE X a σ H fun v H1 => CanE X b σ H1 fun u H2 => R v u H2 :=
  ha.run H0 B0 H B σ s _ x _ G ht (fun v H1 B1 f d g1 r1 q1 => hb.run H0 B0 H1 B1 σ s _ x _ (G.grow g1) q1 (fun u H2 B2 g e g2 r2 q2 =>
    k v u H2 B2 f d g e (g1.trans g2) (r1.grow g2) r2 q2) (kx.grow g1)) kx
theorem p3op {op : Operator} {o : O3} (ho : Op3 X (binaryOp op) o) (ha : PE3 X W a ta) (hb : PE3 X W b tb) : PE3 X W (.BinOp a op b pos) (tB3 o ta tb) :=
  ⟨fun H0 B0 H B σ s q x Q G ht k kx => ⟨_, pe_op (canR X _) (can X a) (can X b), bin3 ha hb G ht kx fun v u H1 B1 f d g e g1 r1 r2 hq =>
    ho H0 H1 B1 v u f d g e q Q g1.bh r1 r2 hq fun w H2 B2 h c g2 r3 q3 => k w H2 B2 h c (g1.trans g2) r3 q3⟩⟩
theorem p3cmp {op : CmpOp} {o : O3} (ho : Op3 X (compareOp op) o) (ha : PE3 X W a ta) (hb : PE3 X W b tb) (hm : behindInMarks op b = false := by first | exact nomark _ | with_unfolding_all rfl) : PE3 X W (.Compare a [op] [b] pos) (tB3 o ta tb) :=
  ⟨fun H0 B0 H B σ s q x Q G ht k kx => ⟨_, pe_cmpR (canR X _) (can X a) (can X b) hm, bin3 ha hb G ht kx fun v u H1 B1 f d g e g1 r1 r2 hq =>
    ho H0 H1 B1 v u f d g e q Q g1.bh r1 r2 hq fun w H2 B2 h c g2 r3 q3 => k w H2 B2 h c (g1.trans g2) r3 q3⟩⟩
/-- a truth value -/
def isB (q : Bool → Prop) : Fl → D → Prop := fun _ d => match d with
  | .bl b => q b
  | _ => False
theorem isB_of {q : Bool → Prop} {f : Fl} {d : D} {H0 H B : Hp} {v : V} (h : isB q f d) (r : RepF H0 H B f v d) : ∃ b, v = .bl b ∧ q b := by
  cases d with
  | bl b => cases r.1; exact ⟨b, rfl, h⟩
  | _ => exact h.elim
def tT3 (t : TE3) : TT3 := fun s q x => t s (isB q) x
theorem t3cmp {op : CmpOp} {o : O3} (ho : Op3 X (compareOp op) o) (ha : PE3 X W a ta) (hb : PE3 X W b tb) (hm : behindInMarks op b = false := by first | exact nomark _ | with_unfolding_all rfl) : PT3 X W (.Compare a [op] [b] pos) (tT3 (tB3 o ta tb)) :=
  ⟨fun H0 B0 H B σ s q x Q G ht k kx => ⟨_, pt_cmpR (canR X _) (can X a) (can X b) hm, bin3 ha hb G ht kx fun v u H1 B1 f d g e g1 r1 r2 hq =>
    ho H0 H1 B1 v u f d g e _ _ g1.bh r1 r2 hq fun w H2 B2 h c g2 r3 q3 => by
      obtain ⟨b, rfl, q4⟩ := isB_of q3 r3
      exact ⟨b, rfl, k b H2 B2 (g1.trans g2) q4⟩⟩⟩
theorem t3val (ha : PE3 X W a ta) (he : ∀ whole, isTrue a X.env whole = (do let v ← whole; standAt a.pos; holding [v] (truthy v)) := by intro _; rfl) : PT3 X W a (tT3 ta) :=
  ⟨fun H0 B0 H B σ s q x Q G ht k kx => ⟨_, pt_val (can X a) he, ha.run H0 B0 H B σ s _ x _ G ht (fun v H1 B1 f d g1 r1 q1 => by
    obtain ⟨b, rfl, q4⟩ := isB_of q1 r1
    exact ⟨b, rfl, k b H1 B1 g1 q4⟩) kx⟩⟩
/-- a < b < c -/
def tCh3 (o o' : O3) (ta tb tc : TE3) : TE3 := fun s q x => ta s (fun f d => tb s (fun g e => o f d g e (isB fun k => if k = true then tc s (fun h c => o' g e h c q) x else q .st (.bl false))) x) x
theorem chain3 {op op' : CmpOp} {o o' : O3} (ho : Op3 X (compareOp op) o) (ho' : Op3 X (compareOp op') o') (ha : PE3 X W a ta) (hb : PE3 X W b tb) (hc : PE3 X W c tc) {H0 B0 H B : Hp} {σ : St} {s : Store} {q : Fl → D → Prop} {x : Exn → Prop} {Q : VK}
    (G : Good H0 B0 H B σ s) (ht : tCh3 o o' ta tb tc s q x) (k : ∀ v H1 B1 f d, Grow H B H1 B1 → RepF H0 H1 B1 f v d → q f d → Q v H1) (kx : ExK W H B σ x) :
    tChain (CanR X (compareOp op)) (CanR X (compareOp op')) (CanE X a) (CanE X b) (CanE X c) σ H Q :=
  bin3 ha hb G ht kx fun v u H1 B1 f d g e g1 r1 r2 hq => ho H0 H1 B1 v u f d g e _ _ g1.bh r1 r2 hq fun w H2 B2 h c g2 r3 q3 => by
    obtain ⟨b, rfl, q4⟩ := isB_of q3 r3
    refine ⟨b, rfl, ?_⟩
    cases b with
    | false => exact iteF (k _ H2 B2 .st _ (g1.trans g2) (RepF.of g2.bh (.bl false)) q4)
    | true =>
      refine iteT (hc.run H0 B0 H2 B2 σ s _ x _ (G.grow (g1.trans g2)) q4 (fun z H3 B3 i y g3 r4 q5 => ?_) (kx.grow (g1.trans g2)))
      exact ho' H0 H3 B3 u z g e i y q Q g3.bh ((r2.grow g2).grow g3) r4 q5 fun w H4 B4 h c g4 r5 q6 => k w H4 B4 h c (((g1.trans g2).trans g3).trans g4) r5 q6
theorem p3chain {op op' : CmpOp} {o o' : O3} (ho : Op3 X (compareOp op) o) (ho' : Op3 X (compareOp op') o') (ha : PE3 X W a ta) (hb : PE3 X W b tb) (hc : PE3 X W c tc) (hm : lastMarks [op, op'] [b, c] = false := by with_unfolding_all rfl) :
    PE3 X W (.Compare a [op, op'] [b, c] pos) (tCh3 o o' ta tb tc) :=
  ⟨fun H0 B0 H B σ s q x Q G ht k kx => ⟨_, pe_chain (canR X _) (canR X _) (can X a) (can X b) (can X c) hm, chain3 ho ho' ha hb hc G ht k kx⟩⟩
theorem t3chain {op op' : CmpOp} {o o' : O3} (ho : Op3 X (compareOp op) o) (ho' : Op3 X (compareOp op') o') (ha : PE3 X W a ta) (hb : PE3 X W b tb) (hc : PE3 X W c tc) (hm : lastMarks [op, op'] [b, c] = false := by with_unfolding_all rfl) :
    PT3 X W (.Compare a [op, op'] [b, c] pos) (tT3 (tCh3 o o' ta tb tc)) :=
  ⟨fun H0 B0 H B σ s q x Q G ht k kx => ⟨_, pt_chain (canR X _) (canR X _) (can X a) (can X b) (can X c) hm, chain3 ho ho' ha hb hc G ht (fun v H1 B1 f d g r q1 => by
    obtain ⟨b, rfl, q2⟩ := isB_of q1 r
    exact ⟨b, rfl, k b H1 B1 g q2⟩) kx⟩⟩

/-! ### and, or, not, if -/
def tAnd3 (t u : TT3) : TT3 := fun s q x => t s (fun b => if b = true then u s q x else q false) x
def tOr3 (t u : TT3) : TT3 := fun s q x => t s (fun b => if b = true then q true else u s q x) x
def tNot3 (t : TT3) : TT3 := fun s q x => t s (fun b => q (!b)) x
variable {rest : List Expr}
theorem w3and1 (ha : PT3 X W a tA) : PW3 X W (.BoolOp .And [a] pos) tA := ⟨fun H0 B0 H B σ s q x Q G ht k kx => ⟨_, pw_and1 (canT X a), ha.run H0 B0 H B σ s q x Q G ht k kx⟩⟩
theorem w3or1 (ha : PT3 X W a tA) : PW3 X W (.BoolOp .Or [a] pos) tA := ⟨fun H0 B0 H B σ s q x Q G ht k kx => ⟨_, pw_or1 (canT X a), ha.run H0 B0 H B σ s q x Q G ht k kx⟩⟩
theorem w3and (ha : PT3 X W a tA) (hb : PW3 X W (.BoolOp .And (b :: rest) pos) tB') : PW3 X W (.BoolOp .And (a :: b :: rest) pos) (tAnd3 tA tB') :=
  ⟨fun H0 B0 H B σ s q x Q G ht k kx => ⟨_, pw_and (canT X a) (canW X _), ha.run H0 B0 H B σ s _ x _ G ht (fun b H1 B1 g q1 => by
    cases b with
    | true => exact iteT (hb.run H0 B0 H1 B1 σ s q x Q (G.grow g) q1 (fun b H2 B2 g2 q2 => k b H2 B2 (g.trans g2) q2) (kx.grow g))
    | false => exact iteF (k false H1 B1 g q1)) kx⟩⟩
theorem w3or (ha : PT3 X W a tA) (hb : PW3 X W (.BoolOp .Or (b :: rest) pos) tB') : PW3 X W (.BoolOp .Or (a :: b :: rest) pos) (tOr3 tA tB') :=
  ⟨fun H0 B0 H B σ s q x Q G ht k kx => ⟨_, pw_or (canT X a) (canW X _), ha.run H0 B0 H B σ s _ x _ G ht (fun b H1 B1 g q1 => by
    cases b with
    | false => exact iteF (hb.run H0 B0 H1 B1 σ s q x Q (G.grow g) q1 (fun b H2 B2 g2 q2 => k b H2 B2 (g.trans g2) q2) (kx.grow g))
    | true => exact iteT (k true H1 B1 g q1)) kx⟩⟩
theorem PW3.t (h : PW3 X W a tA) : PT3 X W a tA := ⟨fun H0 B0 H B σ s q x Q G ht k kx => ⟨_, (canW X a).pt, h.run H0 B0 H B σ s q x Q G ht k kx⟩⟩
theorem t3not (ha : PT3 X W a tA) : PT3 X W (.UnaryOp .Not a pos) (tNot3 tA) := ⟨fun H0 B0 H B σ s q x Q G ht k kx => ⟨_, pt_not (canT X a), ha.run H0 B0 H B σ s _ x _ G ht (fun b H1 B1 g q1 => k _ H1 B1 g q1) kx⟩⟩
/-- .. as values -/
def tAndV3 (t u : TE3) : TE3 := fun s q x => t s (isB fun b => if b = true then u s q x else q .st (.bl false)) x
def tOrV3 (t u : TE3) : TE3 := fun s q x => t s (isB fun b => if b = true then q .st (.bl true) else u s q x) x
def tNotV3 (t : TE3) : TE3 := fun s q x => t s (isB fun b => q .st (.bl (!b))) x
theorem p3one {op} (h : PE3 X W a ta) : PE3 X W (.BoolOp op [a] pos) ta := ⟨fun H0 B0 H B σ s q x Q G ht k kx => ⟨_, pe_one (can X a), h.run H0 B0 H B σ s q x Q G ht k kx⟩⟩
theorem p3and (ha : PE3 X W a ta) (hb : PE3 X W (.BoolOp .And (b :: rest) pos) tb) : PE3 X W (.BoolOp .And (a :: b :: rest) pos) (tAndV3 ta tb) :=
  ⟨fun H0 B0 H B σ s q x Q G ht k kx => ⟨_, pe_and (can X a) (can X _), ha.run H0 B0 H B σ s _ x _ G ht (fun v H1 B1 f d g r q1 => by
    obtain ⟨b, rfl, q2⟩ := isB_of q1 r
    refine ⟨b, rfl, ?_⟩
    cases b with
    | true => exact iteT (hb.run H0 B0 H1 B1 σ s q x Q (G.grow g) q2 (fun v H2 B2 f d g2 r2 q3 => k v H2 B2 f d (g.trans g2) r2 q3) (kx.grow g))
    | false => exact iteF (k _ H1 B1 .st _ g (RepF.of g.bh (.bl false)) q2)) kx⟩⟩
theorem p3or (ha : PE3 X W a ta) (hb : PE3 X W (.BoolOp .Or (b :: rest) pos) tb) : PE3 X W (.BoolOp .Or (a :: b :: rest) pos) (tOrV3 ta tb) :=
  ⟨fun H0 B0 H B σ s q x Q G ht k kx => ⟨_, pe_or (can X a) (can X _), ha.run H0 B0 H B σ s _ x _ G ht (fun v H1 B1 f d g r q1 => by
    obtain ⟨b, rfl, q2⟩ := isB_of q1 r
    refine ⟨b, rfl, ?_⟩
    cases b with
    | false => exact iteF (hb.run H0 B0 H1 B1 σ s q x Q (G.grow g) q2 (fun v H2 B2 f d g2 r2 q3 => k v H2 B2 f d (g.trans g2) r2 q3) (kx.grow g))
    | true => exact iteT (k _ H1 B1 .st _ g (RepF.of g.bh (.bl true)) q2)) kx⟩⟩
theorem p3not (ha : PE3 X W a ta) : PE3 X W (.UnaryOp .Not a pos) (tNotV3 ta) :=
  ⟨fun H0 B0 H B σ s q x Q G ht k kx => ⟨_, pe_not (can X a), ha.run H0 B0 H B σ s _ x _ G ht (fun v H1 B1 f d g r q1 => by
    obtain ⟨b, rfl, q2⟩ := isB_of q1 r
    exact ⟨b, rfl, k _ H1 B1 .st _ g (RepF.of g.bh (.bl _)) q2⟩) kx⟩⟩
def tIf3E (t : TT3) (ta tb : TE3) : TE3 := fun s q x => t s (fun b => if b = true then ta s q x else tb s q x) x
theorem p3ifExp (hc : PT3 X W c tA) (ha : PE3 X W a ta) (hb : PE3 X W b tb) : PE3 X W (.IfExp c a b pos) (tIf3E tA ta tb) :=
  ⟨fun H0 B0 H B σ s q x Q G ht k kx => ⟨_, pe_ifExp (canT X c) (can X a) (can X b), hc.run H0 B0 H B σ s _ x _ G ht (fun t H1 B1 g q1 => by
    cases t with
    | true => exact iteT (ha.run H0 B0 H1 B1 σ s q x Q (G.grow g) q1 (fun v H2 B2 f d g2 r2 q3 => k v H2 B2 f d (g.trans g2) r2 q3) (kx.grow g))
    | false => exact iteF (hb.run H0 B0 H1 B1 σ s q x Q (G.grow g) q1 (fun v H2 B2 f d g2 r2 q3 => k v H2 B2 f d (g.trans g2) r2 q3) (kx.grow g))) kx⟩⟩
/-- -a -/
def tNeg3 (t : TE3) : TE3 := fun s q x => t s (fun _ d => match d with
  | .int i => q .st (.int (-i))
  | _ => False) x
theorem p3neg (ha : PE3 X W a ta) : PE3 X W (.UnaryOp .USub a pos) (tNeg3 ta) :=
  ⟨fun H0 B0 H B σ s q x Q G ht k kx => ⟨_, pe_un un_neg (can X a), ha.run H0 B0 H B σ s _ x _ G ht (fun v H1 B1 f d g r q1 => by
    cases d with
    | int i => cases r.1; exact ⟨i, rfl, k _ H1 B1 .st _ g (RepF.of g.bh (.int _)) q1⟩
    | _ => exact q1.elim) kx⟩⟩

/-! ### arguments, displays -/
def tNil3 : TA3 := fun _ q _ => q true []
def tCons3 (ta : TE3) (tr : TA3) : TA3 := fun s q x => ta s (fun f d => tr s (fun b ds => q ((f.isSt || d.flat) && b) (d :: ds)) x) x
theorem a3nil : PA3 X W [] tNil3 := ⟨fun H0 B0 H B σ s q x Q G ht k kx => ⟨_, pa_nil, k [] H B true [] G.self .nil (fun _ => .nil) rfl ht⟩⟩
theorem a3cons (ha : PE3 X W e te) (hr : PA3 X W es tas) (hs : starEach (e :: es) X.env = (false, eval e X.env) :: starEach es X.env := by rfl) : PA3 X W (e :: es) (tCons3 te tas) :=
  ⟨fun H0 B0 H B σ s q x Q G ht k kx => ⟨_, pa_cons (can X e) (canA X es) hs, ha.run H0 B0 H B σ s _ x _ G ht (fun v H1 B1 f d g1 r1 q1 =>
    hr.run H0 B0 H1 B1 σ s _ x _ (G.grow g1) q1 (fun vs H2 B2 b ds g2 r2 rb hl q2 => k (v :: vs) H2 B2 _ (d :: ds) (g1.trans g2) (.cons (r1.1.mono g2.h) r2) (fun hb => by
      rw [Bool.and_eq_true] at hb
      exact .cons ((r1.stab hb.1).mono g2.b) (rb hb.2)) (by rw [List.length_cons, List.length_cons, hl]) q2) (kx.grow g1)) kx⟩⟩
/-- (a, b): all items on the base -/
def tTup3 (t : TA3) : TE3 := fun s q x => t s (fun b ds => cond b (ds.length ≤ sizeLine ∧ q .st (.tup ds)) False) x
theorem p3tup {x1} (h : PA3 X W es tas) : PE3 X W (.Tuple es x1 pos) (tTup3 tas) :=
  ⟨fun H0 B0 H B σ s q x Q G ht k kx => ⟨_, pe_tupF (canA X es), h.run H0 B0 H B σ s _ x _ G ht (fun vs H1 B1 b ds g r rb hl q1 => by
    cases b with
    | false => exact q1.elim
    | true =>
      obtain ⟨hz, q1⟩ := q1
      refine ⟨by rw [(rb rfl).length]; exact hz, fun p o hp hd => ?_⟩
      have g2 : Grow H1 B1 (upd H1 p (.frz o (.tup vs))) (upd B1 p (.frz o (.tup vs))) := .add g.bh hp
      exact k _ _ _ .st _ (g.trans g2) (RepF.of g2.bh (.tup (Tp.new hd) ((rb rfl).mono g2.b))) q1) kx⟩⟩
def tLst3 (t : TA3) : TL3 := fun s q x => t s (fun b ds => cond b (ds.length ≤ sizeLine ∧ q ds) False) x
theorem l3lst (h : PA3 X W es tas) : PL3 X W (.List es pos) (tLst3 tas) :=
  ⟨fun H0 B0 H B σ s q x Q G ht k kx => ⟨_, pe_lst (canA X es), h.run H0 B0 H B σ s _ x _ G ht (fun vs H1 B1 b ds g r rb hl q1 => by
    cases b with
    | false => exact q1.elim
    | true =>
      obtain ⟨hz, q1⟩ := q1
      refine ⟨by rw [(rb rfl).length]; exact hz, fun p hp => ?_⟩
      exact k p _ B1 vs ds (g.trans (.drop g.bh hp)) (g.h.free hp) upd_same (g.bh.free hp) (rb rfl) q1) kx⟩⟩

/-! ### calls of defs -/
/-- what a def does, over plain data -/
abbrev FS := List D → (D → Prop) → (Exn → Prop) → Prop
def spOf (n : Nat) (fs : FS) : Sp := fun vs H Q E => vs.length = n ∧ ∃ B ds q x, Same B H ∧ Reps B vs ds ∧ fs ds q x ∧ (∀ d v H1 B1, q d → Grow H B H1 B1 → Rep B1 v d → Q v H1) ∧
  ∀ e cls dx H1 B1, x e → Grow H B H1 B1 → RepX H1 e cls dx → E cls dx H1
def tCall3 (fs : FS) (t : TA3) : TE3 := fun s q x => t s (fun b ds => fs ds (fun d => q (if b = true then .st else if d.flat = true then .st else .bo) d) x) x
theorem call3 {n : Nat} {fs : FS} (hn : es.length = n) (h : PA3 X W es tas) {H0 B0 H B : Hp} {σ : St} {s : Store} {q : Fl → D → Prop} {x : Exn → Prop} {Q : VK} (G : Good H0 B0 H B σ s) (ht : tCall3 fs tas s q x)
    (k : ∀ v H1 B1 f d, Grow H B H1 B1 → RepF H0 H1 B1 f v d → q f d → Q v H1) (kx : ExK W H B σ x) : tCallSD (spOf n fs) [] (WE W) (CanA X es) σ H Q :=
  h.run H0 B0 H B σ s _ x _ G ht (fun vs H1 B1 b ds g r rb hl hq => by
    rw [List.append_nil]
    refine ⟨hl.trans hn, ?_⟩
    cases b with
    | true =>
      refine ⟨B1, ds, _, x, g.bh, rb rfl, hq, fun d v H2 B2 q2 g2 r2 => ?_, fun e cls dx H2 B2 xe g2 r2 => kx e cls dx H2 B2 (g.trans g2) r2 xe⟩
      exact k v H2 B2 .st d (g.trans g2) (RepF.of g2.bh r2) q2
    | false =>
      have dr : ∀ {H2 B2 : Hp}, Grow H1 H1 H2 B2 → Grow H1 B1 H2 B1 := fun {H2 B2} g2 => ⟨g2.h, .refl _, g.bh.trans g2.h, fun _ _ _ n => n⟩
      refine ⟨H1, ds, _, x, .refl _, r, hq, fun d v H2 B2 q2 g2 r2 => ?_, fun e cls dx H2 B2 xe g2 r2 => kx e cls dx H2 B1 (g.trans (dr g2)) r2 xe⟩
      cases hf : d.flat with
      | true =>
        rw [hf] at q2
        exact k v H2 B1 .st d (g.trans (dr g2)) (RepF.of (dr g2).bh (r2.any hf)) q2
      | false =>
        rw [hf] at q2
        exact k v H2 B1 .bo d (g.trans (dr g2)) ⟨r2.mono g2.bh, trivial⟩ q2) kx
theorem p3call {k : Nat} {f : Addr} {fd : FuncData} {ps : List Str} {n : Nat} {fs : FS} {x : Str} {p : Pos} (F : FnOk X.prog X.w X.K X.mg X.base (L2.CX X.prog X.w) k f fd ps (spOf n fs)) (hr : Room k X.A) (tk : Takes X W) (hg : Gl X x) (hm : X.mg x = some (.ref f)) (hk : PySem.W.keepIn X.K (.ref f) = true)
    (hb : Binds X.K fd ps []) (ha : PA3 X W (e :: es) tas) (hn : (e :: es).length = n := by rfl) (hdb : (x == ("__debug__" : Str)) = false := by decide) (he : starEach (e :: es) X.env = (false, eval e X.env) :: starEach es X.env := by rfl)
    (hpl : (backTo pos (starEach es X.env)).any (·.1) = false := by rfl) : PE3 X W (.Call (.Name x p) (e :: es) [] pos) (tCall3 fs tas) :=
  ⟨fun H0 B0 H B σ s q z Q G ht k kx => ⟨_, pe_callSD F hr hg hm hk hb .nil (fun σ => passAt tk σ) (canA X _) hdb he hpl, call3 hn ha G ht k kx⟩⟩
end
end L3

/-! L3c: operators, subscripts, slices, built-ins over plain data. -/
namespace L3
open PySem PySem.Spec L2 PySem.W
open PyProof.Rows hiding St

/-! ### plain data as the library's data -/
mutual
def D.py : D → Option PyData
  | .non => some .none
  | .bl b => some (.bool b)
  | .int i => some (.int i)
  | .str x => some (.str x)
  | .tup ds => (pys ds).map .tuple
  | .lst ds => (pys ds).map .list
  | .frl ds => (pys ds).map .list
  | .dT _ => none
  | .dK _ => none
  | .ins _ _ => none
def pys : List D → Option (List PyData)
  | [] => some []
  | d :: ds => d.py.bind fun p => (pys ds).map fun r => p :: r
end
theorem map_some {α β : Type} {o : Option α} {f : α → β} {y : β} (e : o.map f = some y) : ∃ x, o = some x ∧ f x = y := by
  cases o with
  | none => cases e
  | some x => exact ⟨x, rfl, Option.some.inj e⟩
section
variable {K : PySem.W.Frag} {H : Hp}
mutual
theorem Rep.dp : ∀ {v : V} {d : D} {p : PyData}, Rep H v d → d.py = some p → Dp K H v p
  | _, _, _, .non, e => by rw [D.py] at e; cases e; exact .non
  | _, _, _, .bl b, e => by rw [D.py] at e; cases e; exact .bl b
  | _, _, _, .int i, e => by rw [D.py] at e; cases e; exact .int i
  | _, _, _, .str x, e => by rw [D.py] at e; cases e; exact .str x
  | _, _, _, .tup h r, e => by
    rw [D.py] at e
    obtain ⟨q, e1, rfl⟩ := map_some e
    exact .tup h.sq (Reps.dp r e1)
  | _, _, _, .lst h r, e => by
    rw [D.py] at e
    obtain ⟨q, e1, rfl⟩ := map_some e
    exact .lst (SqL.of h) (Reps.dp r e1)
  | _, _, _, .frl h r, e => by
    rw [D.py] at e
    obtain ⟨q, e1, rfl⟩ := map_some e
    exact .lst (.inl (.inr ⟨_, h⟩)) (Reps.dp r e1)
  | _, _, _, .dT h r, e => by rw [D.py] at e; cases e
  | _, _, _, .dK h r, e => by rw [D.py] at e; cases e
  | _, _, _, .ins h r, e => by rw [D.py] at e; cases e
theorem Reps.dp : ∀ {vs : List V} {ds : List D} {ps : List PyData}, Reps H vs ds → pys ds = some ps → DpAll K H vs ps
  | _, _, _, .nil, e => by rw [pys] at e; cases e; exact .nil
  | _, _, _, .cons a r, e => by
    rw [pys] at e
    cases ha : D.py _ with
    | none => rw [ha] at e; cases e
    | some p =>
      rw [ha] at e
      obtain ⟨q, e1, rfl⟩ := map_some (show Option.map _ _ = some _ from e)
      exact .cons (Rep.dp a ha) (Reps.dp r e1)
end
end
/-- a type whose values are plain data -/
class EncD (α : Type) [DecidableEq α] [Datum α] where
  enc : α → D
  py : ∀ a, (enc a).py = some (Datum.toD a)
open EncD (enc)
instance : EncD Int := ⟨.int, fun _ => by rw [D.py]; rfl⟩
instance : EncD Bool := ⟨.bl, fun _ => by rw [D.py]; rfl⟩
instance : EncD Str := ⟨.str, fun _ => by rw [D.py]; rfl⟩
instance : EncD Unit := ⟨fun _ => .non, fun _ => by rw [D.py]; rfl⟩
section
variable {α β : Type} [DecidableEq α] [Datum α] [EncD α] [DecidableEq β] [Datum β] [EncD β]
theorem pys_enc : ∀ xs : List α, pys (xs.map enc) = some (xs.map Datum.toD)
  | [] => by rw [List.map_nil, pys]; rfl
  | x :: xs => by
    rw [List.map_cons, pys, EncD.py, pys_enc xs]
    rfl
instance : EncD (List α) := ⟨fun xs => .lst (xs.map enc), fun xs => by rw [D.py, pys_enc]; rfl⟩
instance : EncD (Tup α) := ⟨fun t => .tup (t.items.map enc), fun t => by rw [D.py, pys_enc]; rfl⟩
instance : EncD (α × β) := ⟨fun p => .tup [enc p.1, enc p.2], fun p => by
  rw [D.py, pys, EncD.py, pys, EncD.py, pys]
  rfl⟩
instance [SomeDatum α] : EncD (Option α) := ⟨fun o => match o with
  | none => .non
  | some a => enc a, fun o => by
  cases o with
  | none => show D.py .non = _; rw [D.py]; rfl
  | some a => exact EncD.py a⟩
theorem Rep.holds {X : Cx} {pins : List (Addr × Obj)} {σ : St} {H : Hp} {s : Shared} {v : V} {u : Value} {a : α} (I : Inv X pins σ H s) (r : Rep H v (enc a)) (rv : RelV v u) : PySem.W.Holds s.heap u a :=
  Dp.reads I (Datum.toD a) v u (r.dp (EncD.py a)) rv
theorem Reps.holds {X : Cx} {pins : List (Addr × Obj)} {σ : St} {H : Hp} {s : Shared} {vs : List V} {us : List Value} {xs : List α} (I : Inv X pins σ H s) (r : Reps H vs (xs.map enc)) (rv : Vals vs us) : PySem.W.HoldAll s.heap us xs :=
  Dp.readsAll I (xs.map Datum.toD) vs us (r.dp (pys_enc xs)) rv
end
/-- room for data -/
def deep (X : Cx) : Prop := X.A.units + 66 < cLine
theorem deep_of {A : Around} {k : Nat} (hr : Room k A) : A.units + 66 < cLine := by
  have := hr.un
  omega

section
variable {X : Cx} {W : WX} {a b c e : Expr} {es : List Expr} {ta tb tc te : TE3} {tas : TA3} {pos : Pos}

def Fl.nb : Fl → Bool
  | .bo => false
  | _ => true
theorem Fl.nb_ne {f : Fl} (h : f.nb = true) : f ≠ .bo := by rintro rfl; cases h
theorem Fl.st_of {f : Fl} (h : f.isSt = true) : f = .st := by cases f <;> first | rfl | cases h
/-- an item of a list or tuple -/
def Fl.item (f : Fl) (d : D) : Fl := if f.nb = true then .st else if d.flat = true then .st else .bo

/-! ### == and != -/
def eqG (d e : D) (k : Bool → Prop) : Prop := ∃ (α : Type) (i1 : DecidableEq α) (i2 : Datum α) (i3 : EncD α) (x y : α), d = enc x ∧ e = enc y ∧ Datum.depth α ≤ 64 ∧ k (decide (x = y))
def eqD (d e : D) (k : Bool → Prop) : Prop := match d, e with
  | .int i, .int j => k (decide (i = j))
  | .str x, .str y => k (decide (x = y))
  | .bl x, .bl y => k (decide (x = y))
  | .non, .non => k true
  | d, e => eqG d e k
def oEq : O3 := fun _ d _ e q => eqD d e fun b => q .st (.bl b)
def oNe : O3 := fun _ d _ e q => eqD d e fun b => q .st (.bl (!b))
theorem eqG_of {α : Type} [DecidableEq α] [Datum α] [EncD α] {x y : α} {k : Bool → Prop} (h : k (decide (x = y))) (hd : Datum.depth α ≤ 64 := by decide) : eqG (enc x) (enc y) k := ⟨α, _, _, _, x, y, rfl, rfl, hd, h⟩
theorem eqD_G {d e : D} {k : Bool → Prop} (h : eqD d e k) : eqG d e k := by
  unfold eqD at h
  split at h
  · exact ⟨Int, _, inferInstance, inferInstance, _, _, rfl, rfl, by decide, h⟩
  · exact ⟨Str, _, inferInstance, inferInstance, _, _, rfl, rfl, by decide, h⟩
  · exact ⟨Bool, _, inferInstance, inferInstance, _, _, rfl, rfl, by decide, h⟩
  · exact ⟨Unit, _, inferInstance, inferInstance, (), (), rfl, rfl, by decide, by rw [decide_eq_true rfl]; exact h⟩
  · exact h
theorem op3eq (hu : deep X) : Op3 X (compareOp .Eq) oEq := fun H0 H B v u f1 d f2 e q Q hB r1 r2 h k => by
  obtain ⟨α, i1, i2, i3, x, y, rfl, rfl, hd, h⟩ := eqD_G h
  refine ⟨fun x' y' H' Q' => Rep H' x' (enc x) ∧ Rep H' y' (enc y) ∧ Q' (.bl (decide (x = y))) H', ?_, r1.1, r2.1, k _ H B .st _ (.refl hB) (RepF.of hB (.bl _)) h⟩
  intro pins s σ H v u v' u' Q I rv ru ⟨z1, z2, q⟩
  exact PySem.W.eq_datum (z1.holds I rv) (z2.holds I ru) (by have := hu; unfold deep at this; omega) ⟨.bl _, H, I, rfl, q⟩
theorem op3ne (hu : deep X) : Op3 X (compareOp .NotEq) oNe := fun H0 H B v u f1 d f2 e q Q hB r1 r2 h k => by
  obtain ⟨α, i1, i2, i3, x, y, rfl, rfl, hd, h⟩ := eqD_G h
  refine ⟨fun x' y' H' Q' => Rep H' x' (enc x) ∧ Rep H' y' (enc y) ∧ Q' (.bl (!decide (x = y))) H', ?_, r1.1, r2.1, k _ H B .st _ (.refl hB) (RepF.of hB (.bl _)) h⟩
  intro pins s σ H v u v' u' Q I rv ru ⟨z1, z2, q⟩
  exact PySem.W.ne_datum (z1.holds I rv) (z2.holds I ru) (by have := hu; unfold deep at this; omega) ⟨.bl _, H, I, by simp [L2.RelV], q⟩

/-! ### <, <=, >, >= -/
def ltG (d e : D) (k : Bool → Bool → Prop) : Prop := ∃ (α : Type) (i1 : DecidableEq α) (i2 : DatumOrd α) (i3 : EncD α) (x y : α), d = enc x ∧ e = enc y ∧ Datum.depth α ≤ 64 ∧ k (DatumOrd.lt x y) (DatumOrd.lt y x)
theorem ltG_of {α : Type} [DecidableEq α] [DatumOrd α] [EncD α] {x y : α} {k : Bool → Bool → Prop} (h : k (DatumOrd.lt x y) (DatumOrd.lt y x)) (hd : Datum.depth α ≤ 64 := by decide) : ltG (enc x) (enc y) k := ⟨α, _, _, _, x, y, rfl, rfl, hd, h⟩
def oLt : O3 := fun _ d _ e q => match d, e with
  | .int i, .int j => q .st (.bl (decide (i < j)))
  | d, e => ltG d e fun b _ => q .st (.bl b)
def oGt : O3 := fun _ d _ e q => match d, e with
  | .int i, .int j => q .st (.bl (decide (j < i)))
  | d, e => ltG d e fun _ b => q .st (.bl b)
def oLe : O3 := fun _ d _ e q => match d, e with
  | .int i, .int j => q .st (.bl (decide (i ≤ j)))
  | d, e => ltG d e fun _ b => q .st (.bl (!b))
def oGe : O3 := fun _ d _ e q => match d, e with
  | .int i, .int j => q .st (.bl (decide (j ≤ i)))
  | d, e => ltG d e fun b _ => q .st (.bl (!b))
theorem ord3 {op : CmpOp} {g : Bool → Bool → Bool} (hu : deep X)
    (rule : ∀ {α : Type} [DecidableEq α] [DatumOrd α] {x y : α} {s : Shared} {a b : Value} {Q : Value → Shared → Prop}, PySem.W.Holds s.heap a x → PySem.W.Holds s.heap b y → X.A.units + Datum.depth α < cLine → Q (.bool (g (DatumOrd.lt x y) (DatumOrd.lt y x))) s → wpAny (model X.prog X.w) X.A (compareOp op a b) Q X.xe s)
    {H0 H B : Hp} {v u : V} {f1 : Fl} {d : D} {f2 : Fl} {e : D} {q : Fl → D → Prop} {Q : VK} (hB : Same B H) (r1 : RepF H0 H B f1 v d) (r2 : RepF H0 H B f2 u e) (h : ltG d e fun a b => q .st (.bl (g a b)))
    (k : ∀ w H1 B1 h c, Grow H B H1 B1 → RepF H0 H1 B1 h w c → q h c → Q w H1) : CanR X (compareOp op) v u H Q := by
  obtain ⟨α, i1, i2, i3, x, y, rfl, rfl, hd, h⟩ := h
  refine ⟨fun x' y' H' Q' => Rep H' x' (enc x) ∧ Rep H' y' (enc y) ∧ Q' (.bl (g (DatumOrd.lt x y) (DatumOrd.lt y x))) H', ?_, r1.1, r2.1, k _ H B .st _ (.refl hB) (RepF.of hB (.bl _)) h⟩
  intro pins s σ H v u v' u' Q I rv ru ⟨z1, z2, q⟩
  exact rule (z1.holds I rv) (z2.holds I ru) (by have := hu; unfold deep at this; omega) ⟨.bl _, H, I, rfl, q⟩
theorem int3 {f : Value → Value → Sem Value} {g : Int → Int → V} {g' : Int → Int → D} (ho : OpR X f (rI0 g)) (hg : ∀ H i j, Rep H (g i j) (g' i j)) {H0 H B : Hp} {v u : V} {f1 f2 : Fl} {i j : Int} {q : Fl → D → Prop} {Q : VK} (hB : Same B H)
    (r1 : RepF H0 H B f1 v (.int i)) (r2 : RepF H0 H B f2 u (.int j)) (h : q .st (g' i j)) (k : ∀ w H1 B1 h c, Grow H B H1 B1 → RepF H0 H1 B1 h w c → q h c → Q w H1) : CanR X f v u H Q := by
  cases r1.1
  cases r2.1
  exact ⟨_, ho, i, j, rfl, rfl, k _ H B .st _ (.refl hB) (RepF.of hB (hg B i j)) h⟩
theorem op3lt (hu : deep X) : Op3 X (compareOp .Lt) oLt := fun H0 H B v u f1 d f2 e q Q hB r1 r2 h k => by
  unfold oLt at h
  split at h
  · exact int3 op_lt (fun _ _ _ => .bl _) hB r1 r2 h k
  · exact ord3 (g := fun a _ => a) hu (fun a b c d => PySem.W.lt_datum a b c d) hB r1 r2 h k
theorem op3gt (hu : deep X) : Op3 X (compareOp .Gt) oGt := fun H0 H B v u f1 d f2 e q Q hB r1 r2 h k => by
  unfold oGt at h
  split at h
  · exact int3 op_gt (fun _ _ _ => .bl _) hB r1 r2 h k
  · exact ord3 (g := fun _ b => b) hu (fun a b c d => PySem.W.gt_datum a b c d) hB r1 r2 h k
theorem op3le (hu : deep X) : Op3 X (compareOp .LtE) oLe := fun H0 H B v u f1 d f2 e q Q hB r1 r2 h k => by
  unfold oLe at h
  split at h
  · exact int3 op_le (fun _ _ _ => .bl _) hB r1 r2 h k
  · exact ord3 (g := fun _ b => !b) hu (fun a b c d => PySem.W.le_datum a b c d) hB r1 r2 h k
theorem op3ge (hu : deep X) : Op3 X (compareOp .GtE) oGe := fun H0 H B v u f1 d f2 e q Q hB r1 r2 h k => by
  unfold oGe at h
  split at h
  · exact int3 op_ge (fun _ _ _ => .bl _) hB r1 r2 h k
  · exact ord3 (g := fun a _ => !a) hu (fun a b c d => PySem.W.ge_datum a b c d) hB r1 r2 h k

/-! ### + - * // % ** -/
def oAdd : O3 := fun f d g e q => match d, e with
  | .int i, .int j => q .st (.int (i + j))
  | .str x, .str y => x.length + y.length ≤ sizeLine ∧ q .st (.str (x ++ y))
  | .tup x, .tup y => cond (f.isSt && g.isSt) (x.length + y.length ≤ sizeLine ∧ q .st (.tup (x ++ y))) False
  | .lst x, .lst y => cond (f.nb && g.nb) (x.length + y.length ≤ sizeLine ∧ q .st (.lst (x ++ y))) False
  | _, _ => False
theorem op3add : Op3 X (binaryOp .Add) oAdd := fun H0 H B v u f1 d f2 e q Q hB r1 r2 h k => by
  unfold oAdd at h
  split at h
  · exact int3 op_add (fun _ _ _ => .int _) hB r1 r2 h k
  · cases r1.1
    cases r2.1
    exact ⟨_, op_add_str, _, _, rfl, rfl, h.1, k _ H B .st _ (.refl hB) (RepF.of hB (.str _)) h.2⟩
  · rename_i x y
    cases hc : (f1.isSt && f2.isSt) with
    | false => rw [hc] at h; exact h.elim
    | true =>
      rw [hc] at h
      rw [Bool.and_eq_true] at hc
      obtain ⟨c1, c2⟩ := hc
      cases Fl.st_of c1
      cases Fl.st_of c2
      obtain ⟨hz, h⟩ := h
      have q1 := r1.2
      have q2 := r2.2
      cases q1 with
      | @tup a1 vs1 _ h1 s1 =>
        cases q2 with
        | @tup a2 vs2 _ h2 s2 =>
          refine ⟨_, op_catF, _, _, _, _, rfl, rfl, (h1.mono hB).sq, (h2.mono hB).sq, by rw [s1.length, s2.length]; exact hz, fun e1 => ?_, fun _ e1 => ?_, fun _ _ p o hp hd => ?_⟩
          · subst e1
            cases s1
            exact k _ H B .st _ (.refl hB) (RepF.of hB (.tup h2 s2)) h
          · subst e1
            cases s2
            rw [List.append_nil] at h
            exact k _ H B .st _ (.refl hB) (RepF.of hB (.tup h1 s1)) h
          · have g : Grow H B (upd H p (.frz o (.tup (vs1 ++ vs2)))) (upd B p (.frz o (.tup (vs1 ++ vs2)))) := .add hB hp
            exact k _ _ _ .st _ g (RepF.of g.bh (.tup (Tp.new hd) ((s1.app s2).mono g.b))) h
  · cases hn : (f1.nb && f2.nb) with
    | false => rw [hn] at h; exact h.elim
    | true =>
      rw [hn] at h
      rw [Bool.and_eq_true] at hn
      obtain ⟨p1, vs1, rfl, h1, s1⟩ := r1.lst hB (Fl.nb_ne hn.1)
      obtain ⟨p2, vs2, rfl, h2, s2⟩ := r2.lst hB (Fl.nb_ne hn.2)
      refine ⟨_, op_cat, _, _, _, _, rfl, rfl, h1, h2, by rw [s1.length, s2.length]; exact h.1, fun p hp => ?_⟩
      have g : Grow H B (upd H p (.lst (vs1 ++ vs2))) (upd B p (.lst (vs1 ++ vs2))) := .add hB hp
      exact k _ _ _ .st _ g (RepF.of g.bh (.lst upd_same ((s1.app s2).mono g.b))) h.2
  · exact h.elim
def oSub : O3 := fun _ d _ e q => match d, e with
  | .int i, .int j => q .st (.int (i - j))
  | _, _ => False
theorem op3sub : Op3 X (binaryOp .Sub) oSub := fun H0 H B v u f1 d f2 e q Q hB r1 r2 h k => by
  unfold oSub at h
  split at h
  · exact int3 op_sub (fun _ _ _ => .int _) hB r1 r2 h k
  · exact h.elim
theorem intC3 {f : Value → Value → Sem Value} {C : Int → Int → Prop} {g : Int → Int → Int} (ho : OpR X f (rI C fun i j => .int (g i j))) {H0 H B : Hp} {v u : V} {f1 f2 : Fl} {i j : Int} {q : Fl → D → Prop} {Q : VK} (hB : Same B H)
    (r1 : RepF H0 H B f1 v (.int i)) (r2 : RepF H0 H B f2 u (.int j)) (hc : C i j) (h : q .st (.int (g i j))) (k : ∀ w H1 B1 h c, Grow H B H1 B1 → RepF H0 H1 B1 h w c → q h c → Q w H1) : CanR X f v u H Q := by
  cases r1.1
  cases r2.1
  exact ⟨_, ho, i, j, rfl, rfl, hc, k _ H B .st _ (.refl hB) (RepF.of hB (.int _)) h⟩
theorem Reps.rep {H : Hp} {vs : List V} {ds : List D} (r : Reps H vs ds) : ∀ n : Nat, Reps H (List.replicate n vs).flatten (List.replicate n ds).flatten
  | 0 => .nil
  | n + 1 => by
    rw [List.replicate_succ, List.replicate_succ, List.flatten_cons, List.flatten_cons]
    exact r.app (Reps.rep r n)
def oMul : O3 := fun f d _ e q => match d, e with
  | .int i, .int j => CMul i j ∧ q .st (.int (i * j))
  | .lst a, .int n => cond f.nb ((-(2 ^ 63) ≤ n ∧ n < 2 ^ 63 ∧ a.length * n.toNat ≤ sizeLine) ∧ q .st (.lst (List.replicate n.toNat a).flatten)) False
  | _, _ => False
theorem op3mul : Op3 X (binaryOp .Mult) oMul := fun H0 H B v u f1 d f2 e q Q hB r1 r2 h k => by
  unfold oMul at h
  split at h
  · exact intC3 op_mul hB r1 r2 h.1 h.2 k
  · cases hn : f1.nb with
    | false => rw [hn] at h; exact h.elim
    | true =>
      rw [hn] at h
      obtain ⟨p1, vs1, rfl, h1, s1⟩ := r1.lst hB (Fl.nb_ne hn)
      cases r2.1
      obtain ⟨⟨z1, z2, z3⟩, h⟩ := h
      refine ⟨_, op_rep, _, _, _, rfl, rfl, h1, z1, z2, by rw [s1.length]; exact z3, fun p hp => ?_⟩
      rename_i a n
      have g : Grow H B (upd H p (.lst (List.replicate n.toNat vs1).flatten)) (upd B p (.lst (List.replicate n.toNat vs1).flatten)) := .add hB hp
      exact k _ _ _ .st _ g (RepF.of g.bh (.lst upd_same ((s1.rep _).mono g.b))) h
  · exact h.elim
def oDiv : O3 := fun _ d _ e q => match d, e with
  | .int i, .int j => (0 < j ∧ j < 1073741824) ∧ q .st (.int (i / j))
  | _, _ => False
theorem op3div : Op3 X (binaryOp .FloorDiv) oDiv := fun H0 H B v u f1 d f2 e q Q hB r1 r2 h k => by
  unfold oDiv at h
  split at h
  · exact intC3 op_fdiv hB r1 r2 h.1 h.2 k
  · exact h.elim
def oMod : O3 := fun _ d _ e q => match d, e with
  | .int i, .int j => 0 < j ∧ q .st (.int (i % j))
  | _, _ => False
theorem op3mod : Op3 X (binaryOp .Mod) oMod := fun H0 H B v u f1 d f2 e q Q hB r1 r2 h k => by
  unfold oMod at h
  split at h
  · exact intC3 op_mod hB r1 r2 h.1 h.2 k
  · exact h.elim
def oPow : O3 := fun _ d _ e q => match d, e with
  | .int i, .int j => CPow i j ∧ q .st (.int (i ^ j.toNat))
  | _, _ => False
theorem op3pow : Op3 X (binaryOp .Pow) oPow := fun H0 H B v u f1 d f2 e q Q hB r1 r2 h k => by
  unfold oPow at h
  split at h
  · exact intC3 op_pow hB r1 r2 h.1 h.2 k
  · exact h.elim

/-! ### is None -/
def isNon : D → Bool
  | .non => true
  | _ => false
def oIs : O3 := fun _ d _ e q => match e with
  | .non => q .st (.bl (isNon d))
  | .bl y => match d with
    | .bl x => q .st (.bl (decide (x = y)))
    | _ => False
  | _ => False
def oIsnt : O3 := fun _ d _ e q => match e with
  | .non => q .st (.bl (!isNon d))
  | .bl y => match d with
    | .bl x => q .st (.bl (!decide (x = y)))
    | _ => False
  | _ => False
theorem non_dec {H : Hp} {v : V} {d : D} (r : Rep H v d) : decide (v = .non) = isNon d := by
  cases r <;> first | rfl | (exact decide_eq_false fun z => by cases z)
theorem op3is : Op3 X (compareOp .Is) oIs := fun H0 H B v u f1 d f2 e q Q hB r1 r2 h k => by
  unfold oIs at h
  split at h
  · cases r2.1
    exact ⟨_, op_isN, rfl, k _ H B .st _ (.refl hB) (RepF.of hB (.bl _)) (by rw [non_dec r1.1]; exact h)⟩
  · split at h
    · cases r1.1
      cases r2.1
      exact ⟨_, op_is_bl, _, _, rfl, rfl, k _ H B .st _ (.refl hB) (RepF.of hB (.bl _)) h⟩
    · exact h.elim
  · exact h.elim
theorem op3isnt : Op3 X (compareOp .IsNot) oIsnt := fun H0 H B v u f1 d f2 e q Q hB r1 r2 h k => by
  unfold oIsnt at h
  split at h
  · cases r2.1
    refine ⟨_, op_notN, rfl, k _ H B .st _ (.refl hB) (RepF.of hB (.bl _)) ?_⟩
    rw [non_dec r1.1]
    exact h
  · split at h
    · cases r1.1
      cases r2.1
      exact ⟨_, op_isnot_bl, _, _, rfl, rfl, k _ H B .st _ (.refl hB) (RepF.of hB (.bl _)) h⟩
    · exact h.elim
  · exact h.elim

/-! ### in, not in -/
def keyOf : D → Option Key
  | .int i => some (.inl i)
  | .str x => some (.inr x)
  | _ => none
theorem keyOf_rep {H : Hp} {v : V} {d : D} {k : Key} (r : Rep H v d) (e : keyOf d = some k) : v = kV k := by
  cases r <;> first | (cases e; rfl) | cases e
/-- what is looked up under a key -/
def lookD (x c : D) (k : Option D → Prop) : Prop := match c with
  | .dT kvs => match x with
    | .tup ds => ∃ ks : List Int, ds = ks.map D.int ∧ k (atK kvs ks)
    | _ => False
  | .dK kvs => ∃ ks, keyOf x = some ks ∧ k (atK kvs ks)
  | _ => False
/-- .. found: in a dict under tuples, or in one under ints and texts; its value on the base where the dict's are -/
theorem lookD_at {H0 H B : Hp} {f : Fl} {v u : V} {x c : D} {k : Option D → Prop} (hB : Same B H) (rx : Rep H v x) (rc : RepF H0 H B f u c) (h : lookD x c k) :
    (∃ a b ws ks p, u = .ref a ∧ v = .ref b ∧ H a = some (dto a ws) ∧ KeysT H ws ∧ Tp H b (ks.map V.int) ∧ RepOp H (atT ws ks) p ∧ (f.nb = true → RepOp B (atT ws ks) p) ∧ k p) ∨
    ∃ a o p, u = .ref a ∧ DGet H a v o ∧ RepOp H o p ∧ (f.nb = true → RepOp B o p) ∧ k p := by
  unfold lookD at h
  split at h
  · split at h
    · obtain ⟨ks, rfl, h⟩ := h
      cases rx with
      | tup hx rs =>
        rw [rs.ints] at hx
        by_cases hn : f.nb = true
        · obtain ⟨a, ws, rfl, hc, rk⟩ := rc.dT hB (Fl.nb_ne hn)
          exact .inl ⟨a, _, ws, ks, _, rfl, rfl, hc, (rk.mono hB).keys, hx, (rk.mono hB).at ks, fun _ => rk.at ks, h⟩
        · cases rc.1 with
          | dT hc rk => exact .inl ⟨_, _, _, ks, _, rfl, rfl, hc, rk.keys, hx, rk.at ks, fun z => absurd z hn, h⟩
    · exact h.elim
  · obtain ⟨ks, e, h⟩ := h
    rw [keyOf_rep rx e]
    by_cases hn : f.nb = true
    · obtain ⟨a, ws, rfl, hc, rk⟩ := rc.dK hB (Fl.nb_ne hn)
      exact .inr ⟨a, _, _, rfl, .k hc, (rk.mono hB).at ks, fun _ => rk.at ks, h⟩
    · cases rc.1 with
      | dK hc rk => exact .inr ⟨_, _, _, rfl, .k hc, rk.at ks, fun z => absurd z hn, h⟩
  · exact h.elim
def inG (d : D) (ds : List D) (k : Bool → Prop) : Prop := ∃ (α : Type) (i1 : DecidableEq α) (i2 : Datum α) (i3 : EncD α) (x : α) (xs : List α), d = enc x ∧ ds = xs.map enc ∧ Datum.depth α ≤ 64 ∧ k (decide (x ∈ xs))
theorem inG_of {α : Type} [DecidableEq α] [Datum α] [EncD α] {x : α} {xs : List α} {k : Bool → Prop} (h : k (decide (x ∈ xs))) (hd : Datum.depth α ≤ 64 := by decide) : inG (enc x) (xs.map enc) k := ⟨α, _, _, _, x, xs, rfl, rfl, hd, h⟩
def inD (d c : D) (k : Bool → Prop) : Prop := match c with
  | .lst ds => inG d ds k
  | .tup ds => inG d ds k
  | c => lookD d c fun o => k o.isSome
def oIn : O3 := fun _ d _ e q => inD d e fun b => q .st (.bl b)
def oNotIn : O3 := fun _ d _ e q => inD d e fun b => q .st (.bl (!b))
theorem op_din (hu : X.A.units + 1 < cLine) : OpR X (compareOp .In) (fun y x H Q => ∃ a o, x = .ref a ∧ DGet H a y o ∧ Q (.bl o.isSome) H) := by
  intro pins s σ H x y v u Q I rx ry ⟨a, o, e, g, q⟩
  subst e
  cases ry
  exact d_in hu I g rx fun s3 I3 => ⟨.bl _, H, I3, rfl, q⟩
theorem op_dnotin (hu : X.A.units + 1 < cLine) : OpR X (compareOp .NotIn) (fun y x H Q => ∃ a o, x = .ref a ∧ DGet H a y o ∧ Q (.bl (!o.isSome)) H) := by
  intro pins s σ H x y v u Q I rx ry ⟨a, o, e, g, q⟩
  subst e
  cases ry
  exact d_notIn hu I g rx fun s3 I3 => ⟨.bl _, H, I3, rfl, q⟩
theorem op3in (hu : deep X) : Op3 X (compareOp .In) oIn := fun H0 H B v u f1 d f2 e q Q hB r1 r2 h k => by
  have hu' := hu
  unfold deep at hu'
  unfold oIn inD at h
  split at h
  · obtain ⟨α, i1, i2, i3, x, xs, rfl, rfl, hd, h⟩ := h
    refine ⟨fun x' y' H' Q' => Rep H' x' (enc x) ∧ Rep H' y' (.lst (xs.map enc)) ∧ Q' (.bl (decide (x ∈ xs))) H', ?_, r1.1, r2.1, k _ H B .st _ (.refl hB) (RepF.of hB (.bl _)) h⟩
    intro pins s σ H v u v' u' Q I rv ru ⟨z1, z2, q⟩
    cases z2 with
    | lst hl rl =>
      cases ru
      obtain ⟨its, rv2, p, hz⟩ := I.list (SqL.of hl)
      exact PySem.W.in_list_datum p.isList (rl.holds I (by simpa using rv2)) (z1.holds I rv) (by omega) ⟨.bl _, H, I, rfl, q⟩
  · obtain ⟨α, i1, i2, i3, x, xs, rfl, rfl, hd, h⟩ := h
    refine ⟨fun x' y' H' Q' => Rep H' x' (enc x) ∧ Rep H' y' (.tup (xs.map enc)) ∧ Q' (.bl (decide (x ∈ xs))) H', ?_, r1.1, r2.1, k _ H B .st _ (.refl hB) (RepF.of hB (.bl _)) h⟩
    intro pins s σ H v u v' u' Q I rv ru ⟨z1, z2, q⟩
    cases z2 with
    | tup hl rl =>
      cases ru
      obtain ⟨its, rv2, p, hz⟩ := I.tuple (hl.sq (K := X.K))
      exact PySem.W.in_tuple_datum (show s.heap.IsTuple _ its.toArray from p) (rl.holds I (by simpa using rv2)) (z1.holds I rv) (by omega) ⟨.bl _, H, I, rfl, q⟩
  · rcases lookD_at hB r1.1 r2 h with ⟨a, b, ws, ks, p, rfl, rfl, hc, hk, hb, rp, _, h⟩ | ⟨a, o, p, rfl, g, rp, _, h⟩
    · exact ⟨_, op_tin (by omega), a, b, ws, ks, rfl, rfl, hc, hk, hb, k _ H B .st _ (.refl hB) (RepF.of hB (.bl _)) (by rw [rp.isSome]; exact h)⟩
    · exact ⟨_, op_din (by omega), a, o, rfl, g, k _ H B .st _ (.refl hB) (RepF.of hB (.bl _)) (by rw [rp.isSome]; exact h)⟩
theorem op3notin (hu : deep X) : Op3 X (compareOp .NotIn) oNotIn := fun H0 H B v u f1 d f2 e q Q hB r1 r2 h k => by
  have hu' := hu
  unfold deep at hu'
  unfold oNotIn inD at h
  split at h
  · obtain ⟨α, i1, i2, i3, x, xs, rfl, rfl, hd, h⟩ := h
    refine ⟨fun x' y' H' Q' => Rep H' x' (enc x) ∧ Rep H' y' (.lst (xs.map enc)) ∧ Q' (.bl (!decide (x ∈ xs))) H', ?_, r1.1, r2.1, k _ H B .st _ (.refl hB) (RepF.of hB (.bl _)) h⟩
    intro pins s σ H v u v' u' Q I rv ru ⟨z1, z2, q⟩
    cases z2 with
    | lst hl rl =>
      cases ru
      obtain ⟨its, rv2, p, hz⟩ := I.list (SqL.of hl)
      exact PySem.W.notIn_list_datum p.isList (rl.holds I (by simpa using rv2)) (z1.holds I rv) (by omega) ⟨.bl _, H, I, by simp [L2.RelV], q⟩
  · obtain ⟨α, i1, i2, i3, x, xs, rfl, rfl, hd, h⟩ := h
    refine ⟨fun x' y' H' Q' => Rep H' x' (enc x) ∧ Rep H' y' (.tup (xs.map enc)) ∧ Q' (.bl (!decide (x ∈ xs))) H', ?_, r1.1, r2.1, k _ H B .st _ (.refl hB) (RepF.of hB (.bl _)) h⟩
    intro pins s σ H v u v' u' Q I rv ru ⟨z1, z2, q⟩
    cases z2 with
    | tup hl rl =>
      cases ru
      obtain ⟨its, rv2, p, hz⟩ := I.tuple (hl.sq (K := X.K))
      exact PySem.W.notIn_tuple_datum (show s.heap.IsTuple _ its.toArray from p) (rl.holds I (by simpa using rv2)) (z1.holds I rv) (by omega) ⟨.bl _, H, I, by simp [L2.RelV], q⟩
  · rcases lookD_at hB r1.1 r2 h with ⟨a, b, ws, ks, p, rfl, rfl, hc, hk, hb, rp, _, h⟩ | ⟨a, o, p, rfl, g, rp, _, h⟩
    · exact ⟨_, op_tnotin (by omega), a, b, ws, ks, rfl, rfl, hc, hk, hb, k _ H B .st _ (.refl hB) (RepF.of hB (.bl _)) (by rw [rp.isSome]; exact h)⟩
    · exact ⟨_, op_dnotin (by omega), a, o, rfl, g, k _ H B .st _ (.refl hB) (RepF.of hB (.bl _)) (by rw [rp.isSome]; exact h)⟩
end
end L3

/-! L3d: subscripts, slices, built-ins, lists joined and repeated. -/
namespace L3
open PySem PySem.Spec L2 PySem.W
open PyProof.Rows hiding St
open EncD (enc)

section
variable {X : Cx} {W : WX} {a b c e o : Expr} {es : List Expr} {ta tb tc te : TE3} {tas : TA3} {pos : Pos}

/-! ### places of items -/
theorem Reps.at {H : Hp} {vs : List V} {ds : List D} {i : Int} {d : D} (r : Reps H vs ds) (e : atI ds i = some d) : ∃ v, atI vs i = some v ∧ Rep H v d := by
  unfold atI at e ⊢
  rw [r.length]
  cases h : ixN ds.length i with
  | none => rw [h] at e; cases e
  | some j =>
    rw [h] at e
    exact r.get (show ds[j]? = some d from e)
mutual
/-- a value is one piece of data -/
theorem Rep.inj {H : Hp} : ∀ {v : V} {d e : D} {p : PyData}, Rep H v d → Rep H v e → d.py = some p → d = e
  | _, _, _, _, .non, r, _ => by cases r; rfl
  | _, _, _, _, .bl b, r, _ => by cases r; rfl
  | _, _, _, _, .int i, r, _ => by cases r; rfl
  | _, _, _, _, .str x, r, _ => by cases r; rfl
  | _, _, _, _, .tup h q, r, ep => by
    rw [D.py] at ep
    obtain ⟨_, ep, _⟩ := map_some ep
    cases r with
    | tup h' q' => rw [h.inj h'] at q; rw [Reps.inj q q' ep]
    | lst h' q' => obtain ⟨_, _, h⟩ := h; rw [h] at h'; cases h'
    | frl h' q' => obtain ⟨_, _, h⟩ := h; rw [h] at h'; cases h'
    | dT h' q' => obtain ⟨_, _, h⟩ := h; rw [h] at h'; cases h'
    | dK h' q' => obtain ⟨_, _, h⟩ := h; rw [h] at h'; cases h'
    | ins h' q' => obtain ⟨_, _, h⟩ := h; rw [h] at h'; cases h'
  | _, _, _, _, .lst h q, r, ep => by
    rw [D.py] at ep
    obtain ⟨_, ep, _⟩ := map_some ep
    cases r with
    | tup h' q' => obtain ⟨_, _, h'⟩ := h'; rw [h] at h'; cases h'
    | lst h' q' => rw [h] at h'; cases h'; rw [Reps.inj q q' ep]
    | frl h' q' => rw [h] at h'; cases h'
    | dT h' q' => rw [h] at h'; cases h'
    | dK h' q' => rw [h] at h'; cases h'
    | ins h' q' => rw [h] at h'; cases h'
  | _, _, _, _, .frl h q, r, ep => by
    rw [D.py] at ep
    obtain ⟨_, ep, _⟩ := map_some ep
    cases r with
    | tup h' q' => obtain ⟨_, _, h'⟩ := h'; rw [h] at h'; cases h'
    | lst h' q' => rw [h] at h'; cases h'
    | frl h' q' => rw [h] at h'; cases h'; rw [Reps.inj q q' ep]
    | dT h' q' => rw [h] at h'; cases h'
    | dK h' q' => rw [h] at h'; cases h'
    | ins h' q' => rw [h] at h'; cases h'
  | _, _, _, _, .dT h q, r, ep => by rw [D.py] at ep; cases ep
  | _, _, _, _, .dK h q, r, ep => by rw [D.py] at ep; cases ep
  | _, _, _, _, .ins h q, r, ep => by rw [D.py] at ep; cases ep
theorem Reps.inj {H : Hp} : ∀ {vs : List V} {ds es : List D} {ps : List PyData}, Reps H vs ds → Reps H vs es → pys ds = some ps → ds = es
  | _, _, _, _, .nil, r, _ => by cases r; rfl
  | _, _, _, _, .cons a q, r, ep => by
    rw [pys] at ep
    cases ha : D.py _ with
    | none => rw [ha] at ep; cases ep
    | some p =>
      rw [ha] at ep
      obtain ⟨_, e1, _⟩ := map_some (show Option.map _ _ = some _ from ep)
      cases r with
      | cons a' q' => rw [Rep.inj a a' ha, Reps.inj q q' e1]
end
/-- an item is where its container is -/
theorem item_rep {H0 H B H1 : Hp} {f : Fl} {v : V} {d : D} (r : Rep H v d) (rb : f.nb = true → Rep B v d) : RepF H0 H B (f.item d) v d := by
  unfold Fl.item
  by_cases h : f.nb = true
  · rw [if_pos h]
    exact ⟨r, rb h⟩
  · rw [if_neg h]
    by_cases hf : d.flat = true
    · rw [if_pos hf]
      exact ⟨r, r.any hf⟩
    · rw [if_neg hf]
      exact ⟨r, trivial⟩
def getD (x : D) (f : Fl) (c : D) (q : Fl → D → Prop) : Prop := lookD x c fun o => ∃ d, o = some d ∧ q (f.item d) d
def oIx : O3 := fun f c _ i q => match c with
  | .lst ds => match i with
    | .int k => ∃ d, atI ds k = some d ∧ q (f.item d) d
    | _ => False
  | .tup ds => match i with
    | .int k => ∃ d, atI ds k = some d ∧ q (f.item d) d
    | _ => False
  | .frl ds => match i with
    | .int k => ∃ d, atI ds k = some d ∧ q (f.item d) d
    | _ => False
  | c => getD i f c q
theorem ix_dict (hu : X.A.units + 1 < cLine) : IxR X (fun x y H Q => ∃ a v, x = .ref a ∧ DGet H a y (some v) ∧ Q v H) := by
  intro value slice pins s σ H x y v u Q I rx ry ⟨a, w, e, g, q⟩ hs
  subst e
  cases rx
  have hT := dict_typeIs I g
  unfold subscriptTail
  refine wpAny_bind ?_
  rw [getitemInPython_of_ne hT.not_modules]
  refine wpAny_bind (wpAny_specialOf hT PySem.F.slot_dict_getitem.lookup ?_)
  have fin : wpAny (model X.prog X.w) X.A (subscripted slice false (.ref a) u) (fun r s₃ => wpAny (model X.prog X.w) X.A (letTemporaryGo value (.ref a) r >>= fun _ => pure r) (EP X pins σ Q) X.xe s₃) X.xe s := by
    rw [hs]
    exact wpAny_operating (d_getItem hu I g ry fun w' s3 I3 rw' => wpAny_bind (wpAny_letTemporaryGo (wpAny_pure ⟨w, H, I3, rw', q⟩)))
  first
    | exact wpAny_pure (wpAny_bind fin)
    | exact wpAny_bind (wpAny_pure (wpAny_bind fin))
    | exact wpAny_bind fin
theorem ix3 (hu : deep X) {H0 H B : Hp} {v u : V} {f1 f2 : Fl} {d e : D} {q : Fl → D → Prop} {Q : VK} (hB : Same B H) (r1 : RepF H0 H B f1 v d) (r2 : RepF H0 H B f2 u e) (h : oIx f1 d f2 e q)
    (k : ∀ w H1 B1 h c, Grow H B H1 B1 → RepF H0 H1 B1 h w c → q h c → Q w H1) : CanX X v u H Q := by
  have hu' := hu
  unfold deep at hu'
  have go : ∀ {vs : List V} {ds : List D} {j : Int}, Reps H vs ds → (f1.nb = true → Reps B vs ds) → (∃ d, atI ds j = some d ∧ q (f1.item d) d) → ∃ w, atI vs j = some w ∧ Q w H := fun {vs ds j} r rb ⟨d, e1, e2⟩ => by
    obtain ⟨w, e3, r3⟩ := r.at e1
    refine ⟨w, e3, k w H B _ d (.refl hB) (item_rep (H1 := H) r3 fun hn => ?_) e2⟩
    obtain ⟨w', e4, r4⟩ := (rb hn).at e1
    rw [e3] at e4
    rw [Option.some.inj e4]
    exact r4
  unfold oIx at h
  split at h
  · split at h
    · cases r2.1
      cases r1.1 with
      | lst hl rl =>
        obtain ⟨w, e1, hq⟩ := go rl (fun hn => by
          obtain ⟨a', vs', ea, h2, r5⟩ := r1.lst hB (Fl.nb_ne hn)
          cases ea
          rw [hl] at h2
          cases h2
          exact r5) h
        exact ⟨_, ix_list, _, _, _, w, rfl, rfl, SqL.of hl, e1, hq⟩
    · exact h.elim
  · split at h
    · cases r2.1
      cases r1.1 with
      | tup hl rl =>
        obtain ⟨w, e1, hq⟩ := go rl (fun hn => by
          cases f1 with
          | st =>
            cases r1.2 with
            | tup h2 r5 =>
              rw [hl.inj (h2.mono hB)]
              exact r5
          | el => obtain ⟨_, _, _, _, _, ⟨_, _, z, _⟩ | ⟨_, _, z, _⟩ | ⟨_, _, z, _⟩⟩ := r1 <;> cases z
          | bo => cases hn) h
        exact ⟨_, ix_tup, _, _, _, w, rfl, rfl, hl.sq, e1, hq⟩
    · exact h.elim
  · split at h
    · cases r2.1
      cases r1.1 with
      | frl hl rl =>
        obtain ⟨w, e1, hq⟩ := go rl (fun hn => by
          cases f1 with
          | st =>
            cases r1.2 with
            | frl h2 r5 =>
              have z := hB _ _ h2
              rw [hl] at z
              cases z
              exact r5
          | el => obtain ⟨_, _, _, _, _, ⟨_, _, z, _⟩ | ⟨_, _, z, _⟩ | ⟨_, _, z, _⟩⟩ := r1 <;> cases z
          | bo => cases hn) h
        exact ⟨_, ix_list, _, _, _, w, rfl, rfl, .inl (.inr ⟨_, hl⟩), e1, hq⟩
    · exact h.elim
  · have fin : ∀ {o : Option V} {p : Option D}, RepOp H o p → (f1.nb = true → RepOp B o p) → (∃ d, p = some d ∧ q (f1.item d) d) → ∃ w, o = some w ∧ Q w H := fun {o p} rp rb ⟨d', ed, hq⟩ => by
      subst ed
      cases rp with
      | @some w' _ rv => exact ⟨w', rfl, k w' H B _ d' (.refl hB) (item_rep (H1 := H) rv fun hn => by
          cases rb hn with
          | some z => exact z) hq⟩
    rcases lookD_at hB r2.1 r1 h with ⟨a, b, ws, ks, p, rfl, rfl, hc, hk, hb, rp, rb, h⟩ | ⟨a, o, p, rfl, g, rp, rb, h⟩
    · obtain ⟨w, e1, hq⟩ := fin rp rb h
      exact ⟨_, ix_t (by omega), a, b, ws, ks, w, rfl, rfl, hc, hk, hb, e1, hq⟩
    · obtain ⟨w, e1, hq⟩ := fin rp rb h
      subst e1
      exact ⟨_, ix_dict (by omega), a, w, rfl, g, hq⟩
def tIx3 (ta tb : TE3) : TE3 := tB3 oIx ta tb
theorem p3ix (hu : deep X) (ha : PE3 X W a ta) (hb : PE3 X W b tb) (hs : PlainIx b := by intro _ _; rfl) : PE3 X W (.Subscript a b pos) (tIx3 ta tb) :=
  ⟨fun H0 B0 H B σ s q x Q G ht k kx => ⟨_, pe_ix (canX X) (can X a) (can X b) hs, bin3 ha hb G ht kx fun v u H1 B1 f d g e g1 r1 r2 hq =>
    ix3 hu g1.bh r1 r2 hq fun w H2 B2 h c g2 r3 q3 => k w H2 B2 h c (g1.trans g2) r3 q3⟩⟩

/-! ### slices -/
abbrev TO3 := Store → (Option Int → Prop) → (Exn → Prop) → Prop
structure PO3 (X : Cx) (W : WX) (e : Option Expr) (t : TO3) : Prop where
  run : ∀ (H0 B0 H B : Hp) (σ : St) (s : Store) (q : Option Int → Prop) (x : Exn → Prop) (Q : Option Int → Hp → Prop), Good H0 B0 H B σ s → t s q x →
    (∀ o H1 B1, Grow H B H1 B1 → q o → Q o H1) → ExK W H B σ x → CanO X e σ H Q
def tNo3 : TO3 := fun _ q _ => q none
def tSome3 (t : TE3) : TO3 := fun s q x => t s (fun _ d => match d with
  | .int i => q (some i)
  | _ => False) x
theorem o3none : PO3 X W none tNo3 := ⟨fun H0 B0 H B σ s q x Q G ht k kx => ⟨_, po_none, k none H B G.self ht⟩⟩
theorem o3some (ha : PE3 X W a ta) : PO3 X W (some a) (tSome3 ta) := ⟨fun H0 B0 H B σ s q x Q G ht k kx => ⟨_, po_some (can X a), ha.run H0 B0 H B σ s _ x _ G ht (fun v H1 B1 f d g r q1 => by
    cases d with
    | int i => cases r.1; exact ⟨i, rfl, k _ H1 B1 g q1⟩
    | _ => exact q1.elim) kx⟩⟩
def cutD (ds : List D) (lo hi : Option Int) : List D := (ds.drop (HT.sIx ds.length 0 lo)).take (HT.sIx ds.length ds.length hi - HT.sIx ds.length 0 lo)
theorem cutD_none_nat (ds : List D) (k : Nat) : cutD ds none (some (k : Int)) = ds.take k := by
  unfold cutD
  rw [HT.sIx_none, HT.sIx_nat, List.drop_zero, Nat.sub_zero]
  by_cases h : k ≤ ds.length
  · rw [Nat.min_eq_left h]
  · rw [Nat.min_eq_right (by omega), List.take_of_length_le (Nat.le_refl _), List.take_of_length_le (by omega)]
theorem cutD_nat_none (ds : List D) (k : Nat) : cutD ds (some (k : Int)) none = ds.drop k := by
  unfold cutD
  rw [HT.sIx_none, HT.sIx_nat]
  by_cases h : k ≤ ds.length
  · rw [Nat.min_eq_left h, List.take_of_length_le (by rw [List.length_drop]; exact Nat.le_refl _)]
  · rw [Nat.min_eq_right (by omega), Nat.sub_self, List.take_zero, List.drop_eq_nil_of_le (by omega)]
theorem Reps.cut {H : Hp} {vs : List V} {ds : List D} (r : Reps H vs ds) (lo hi : Option Int) : Reps H (cutV vs lo hi) (cutD ds lo hi) := by
  unfold cutV cutD
  rw [r.length]
  exact (r.drop _).take _
def oSl (f : Fl) (c : D) (lo hi : Option Int) (q : Fl → D → Prop) : Prop := match c with
  | .lst ds => cond f.nb (q .st (.lst (cutD ds lo hi))) False
  | .tup ds => cond f.isSt (q .st (.tup (cutD ds lo hi))) False
  | _ => False
theorem cut_whole {vs : List V} {lo hi : Option Int} (h : HT.sIx vs.length 0 lo = 0 ∧ HT.sIx vs.length vs.length hi = vs.length) : cutV vs lo hi = vs := by
  unfold cutV
  rw [h.1, h.2, List.drop_zero, Nat.sub_zero, List.take_of_length_le (Nat.le_refl _)]
theorem sl3 {H0 H B : Hp} {v : V} {f : Fl} {d : D} {lo hi : Option Int} {q : Fl → D → Prop} {Q : VK} (hB : Same B H) (r : RepF H0 H B f v d) (h : oSl f d lo hi q) (k : ∀ w H1 B1 h c, Grow H B H1 B1 → RepF H0 H1 B1 h w c → q h c → Q w H1) : CanL X v lo hi H Q := by
  unfold oSl at h
  split at h
  · cases hn : f.nb with
    | false => rw [hn] at h; exact h.elim
    | true =>
      rw [hn] at h
      obtain ⟨a, vs, rfl, hl, rl⟩ := r.lst hB (Fl.nb_ne hn)
      refine ⟨_, sl_list, a, vs, rfl, SqL.of hl, fun p hp => ?_⟩
      have g : Grow H B (upd H p (.lst (cutV vs lo hi))) (upd B p (.lst (cutV vs lo hi))) := .add hB hp
      exact k _ _ _ .st _ g (RepF.of g.bh (.lst upd_same ((rl.cut lo hi).mono g.b))) h
  · cases hn : f.isSt with
    | false => rw [hn] at h; exact h.elim
    | true =>
      rw [hn] at h
      cases Fl.st_of hn
      have q1 := r.2
      cases q1 with
      | @tup a vs _ ht rt =>
        refine ⟨_, sl_tupF, a, vs, rfl, (ht.mono hB).sq, fun hw => ?_, fun _ p o hp hd => ?_⟩
        · have z := rt.cut lo hi
          rw [cut_whole hw] at z
          exact k _ H B .st _ (.refl hB) (RepF.of hB (.tup ht z)) h
        · have g : Grow H B (upd H p (.frz o (.tup (cutV vs lo hi)))) (upd B p (.frz o (.tup (cutV vs lo hi)))) := .add hB hp
          exact k _ _ _ .st _ g (RepF.of g.bh (.tup (Tp.new hd) ((rt.cut lo hi).mono g.b))) h
  · exact h.elim
def tSl3 (te : TE3) (tl th : TO3) : TE3 := fun s q x => te s (fun f d => tl s (fun l => th s (fun u => oSl f d l u q) x) x) x
theorem p3sl {lo hi : Option Expr} {tl th : TO3} {p2 : Pos} (he : PE3 X W e te) (hl : PO3 X W lo tl) (hu : PO3 X W hi th) : PE3 X W (.Subscript e (.Slice lo hi none p2) pos) (tSl3 te tl th) :=
  ⟨fun H0 B0 H B σ s q x Q G ht k kx => ⟨_, pe_slice (canL X) (can X e) (canO X lo) (canO X hi), he.run H0 B0 H B σ s _ x _ G ht (fun v H1 B1 f d g1 r1 q1 =>
    hl.run H0 B0 H1 B1 σ s _ x _ (G.grow g1) q1 (fun l H2 B2 g2 q2 => hu.run H0 B0 H2 B2 σ s _ x _ ((G.grow g1).grow g2) q2 (fun u H3 B3 g3 q3 =>
      sl3 g3.bh ((r1.grow g2).grow g3) q3 fun w H4 B4 h c g4 r4 q4 => k w H4 B4 h c (((g1.trans g2).trans g3).trans g4) r4 q4) ((kx.grow g1).grow g2)) (kx.grow g1)) kx⟩⟩

/-! ### lists joined and repeated -/
def tCat3 (ta tb : TE3) : TL3 := fun s q x => ta s (fun f d => tb s (fun g e => match d, e with
  | .lst a, .lst b => cond (f.nb && g.nb) (a.length + b.length ≤ sizeLine ∧ q (a ++ b)) False
  | _, _ => False) x) x
theorem l3cat (ha : PE3 X W a ta) (hb : PE3 X W b tb) : PL3 X W (.BinOp a .Add b pos) (tCat3 ta tb) :=
  ⟨fun H0 B0 H B σ s q x Q G ht k kx => ⟨_, pe_op op_cat (can X a) (can X b), bin3 ha hb G ht kx fun v u H1 B1 f d g e g1 r1 r2 hq => by
    split at hq
    · cases hn : (f.nb && g.nb) with
      | false => rw [hn] at hq; exact hq.elim
      | true =>
        rw [hn] at hq
        rw [Bool.and_eq_true] at hn
        obtain ⟨p1, vs1, rfl, h1, s1⟩ := r1.lst g1.bh (Fl.nb_ne hn.1)
        obtain ⟨p2, vs2, rfl, h2, s2⟩ := r2.lst g1.bh (Fl.nb_ne hn.2)
        refine ⟨_, _, _, _, rfl, rfl, h1, h2, by rw [s1.length, s2.length]; exact hq.1, fun p hp => ?_⟩
        exact k p _ B1 _ _ (g1.trans (.drop g1.bh hp)) (g1.h.free hp) upd_same (g1.bh.free hp) (s1.app s2) hq.2
    · exact hq.elim⟩⟩
def tRep3 (ta tb : TE3) : TL3 := fun s q x => ta s (fun f d => tb s (fun _ e => match d, e with
  | .lst a, .int n => cond f.nb ((-(2 ^ 63) ≤ n ∧ n < 2 ^ 63 ∧ a.length * n.toNat ≤ sizeLine) ∧ q (List.replicate n.toNat a).flatten) False
  | _, _ => False) x) x
theorem l3rep (ha : PE3 X W a ta) (hb : PE3 X W b tb) : PL3 X W (.BinOp a .Mult b pos) (tRep3 ta tb) :=
  ⟨fun H0 B0 H B σ s q x Q G ht k kx => ⟨_, pe_op op_rep (can X a) (can X b), bin3 ha hb G ht kx fun v u H1 B1 f d g e g1 r1 r2 hq => by
    split at hq
    · cases hn : f.nb with
      | false => rw [hn] at hq; exact hq.elim
      | true =>
        rw [hn] at hq
        obtain ⟨p1, vs1, rfl, h1, s1⟩ := r1.lst g1.bh (Fl.nb_ne hn)
        cases r2.1
        obtain ⟨⟨z1, z2, z3⟩, hq⟩ := hq
        refine ⟨_, _, _, rfl, rfl, h1, z1, z2, by rw [s1.length]; exact z3, fun p hp => ?_⟩
        exact k p _ B1 _ _ (g1.trans (.drop g1.bh hp)) (g1.h.free hp) upd_same (g1.bh.free hp) (s1.rep _) hq
    · exact hq.elim⟩⟩

/-! ### built-ins with one argument -/
abbrev O1 := Fl → D → (Fl → D → Prop) → Prop
def tU3 (o : O1) (ta : TE3) : TE3 := fun s q x => ta s (fun f d => o f d q) x
def Call1 (X : Cx) (f : Value) (o : O1) : Prop := ∀ (H0 H B : Hp) (v : V) (g : Fl) (d : D) (q : Fl → D → Prop) (Q : VK), Same B H → RepF H0 H B g v d → o g d q → (∀ w H1 B1 h c, Grow H B H1 B1 → RepF H0 H1 B1 h w c → q h c → Q w H1) → CanC X f [v] H Q
theorem p3b1 {x : Str} {id : String} {p : Pos} {o : O1} (ho : Call1 X (.builtin id) o) (hg : Gl X x) (hm : X.mg x = none) (hv : bootBuiltins x = some (.builtin id)) (ha : PE3 X W a ta) (hn : x ≠ "__name__" := by decide) (hdb : (x == ("__debug__" : Str)) = false := by decide)
    (hs : starEach [a] X.env = (false, eval a X.env) :: starEach [] X.env := by rfl) (he : starEach [a] X.env = (false, eval a X.env) :: starEach [] X.env := by rfl) (hpl : (backTo pos (starEach [] X.env)).any (·.1) = false := by rfl) : PE3 X W (.Call (.Name x p) [a] [] pos) (tU3 o ta) :=
  ⟨fun H0 B0 H B σ s q z Q G ht k kx => ⟨_, pe_callB (canC X _) hg hm hv (pa_cons (can X a) pa_nil hs) hn hdb he hpl, ha.run H0 B0 H B σ s _ z _ G ht (fun v H1 B1 f d g r q1 =>
    ho H0 H1 B1 v f d q Q g.bh r q1 fun w H2 B2 h c g2 r2 q2 => k w H2 B2 h c (g.trans g2) r2 q2) kx⟩⟩
theorem p3t1 {x : Str} {T : String} {p : Pos} {o : O1} (ho : Call1 X (.type T) o) (hg : Gl X x) (hm : X.mg x = none) (hv : bootBuiltins x = some (.type T)) (ha : PE3 X W a ta) (hn : x ≠ "__name__" := by decide) (hdb : (x == ("__debug__" : Str)) = false := by decide)
    (hs : starEach [a] X.env = (false, eval a X.env) :: starEach [] X.env := by rfl) (he : starEach [a] X.env = (false, eval a X.env) :: starEach [] X.env := by rfl) (hpl : (backTo pos (starEach [] X.env)).any (·.1) = false := by rfl) : PE3 X W (.Call (.Name x p) [a] [] pos) (tU3 o ta) :=
  ⟨fun H0 B0 H B σ s q z Q G ht k kx => ⟨_, pe_callTy (canC X _) hg hm hv (pa_cons (can X a) pa_nil hs) hn hdb he hpl, ha.run H0 B0 H B σ s _ z _ G ht (fun v H1 B1 f d g r q1 =>
    ho H0 H1 B1 v f d q Q g.bh r q1 fun w H2 B2 h c g2 r2 q2 => k w H2 B2 h c (g.trans g2) r2 q2) kx⟩⟩
/-- .. that give a new list -/
abbrev OL := Fl → D → (List D → Prop) → Prop
def tUL (o : OL) (ta : TE3) : TL3 := fun s q x => ta s (fun f d => o f d q) x
def CallL (X : Cx) (f : Value) (o : OL) : Prop := ∀ (H0 H B : Hp) (v : V) (g : Fl) (d : D) (q : List D → Prop) (Q : VK), Same B H → RepF H0 H B g v d → o g d q →
  (∀ p H1 vs ds, Same H H1 → H p = none → H1 p = some (.lst vs) → Reps B vs ds → q ds → Q (.ref p) H1) → CanC X f [v] H Q
theorem callL_run {f : Value} {o : OL} (ho : CallL X f o) {H0 B0 H B : Hp} {σ : St} {s : Store} {q : List D → Prop} {z : Exn → Prop} {Q : VK} (ha : PE3 X W a ta) (G : Good H0 B0 H B σ s) (ht : tUL o ta s q z)
    (k : ∀ p H1 B1 vs ds, Grow H B H1 B1 → H p = none → H1 p = some (.lst vs) → B1 p = none → Reps B1 vs ds → q ds → Q (.ref p) H1) (kx : ExK W H B σ z) : tCB (CanC X f) (tCons (CanE X a) tNil) σ H Q :=
  ha.run H0 B0 H B σ s _ z _ G ht (fun v H1 B1 f d g r q1 => ho H0 H1 B1 v f d q Q g.bh r q1 fun p H2 vs ds e hp h2 rs hq =>
    k p H2 B1 vs ds (g.trans ⟨e, .refl _, g.bh.trans e, fun _ _ _ n => n⟩) (g.h.free hp) h2 (g.bh.free hp) rs hq) kx
theorem l3b1 {x : Str} {id : String} {p : Pos} {o : OL} (ho : CallL X (.builtin id) o) (hg : Gl X x) (hm : X.mg x = none) (hv : bootBuiltins x = some (.builtin id)) (ha : PE3 X W a ta) (hn : x ≠ "__name__" := by decide) (hdb : (x == ("__debug__" : Str)) = false := by decide)
    (hs : starEach [a] X.env = (false, eval a X.env) :: starEach [] X.env := by rfl) (he : starEach [a] X.env = (false, eval a X.env) :: starEach [] X.env := by rfl) (hpl : (backTo pos (starEach [] X.env)).any (·.1) = false := by rfl) : PL3 X W (.Call (.Name x p) [a] [] pos) (tUL o ta) :=
  ⟨fun H0 B0 H B σ s q z Q G ht k kx => ⟨_, pe_callB (canC X _) hg hm hv (pa_cons (can X a) pa_nil hs) hn hdb he hpl, callL_run ho ha G ht k kx⟩⟩
theorem l3t1 {x : Str} {T : String} {p : Pos} {o : OL} (ho : CallL X (.type T) o) (hg : Gl X x) (hm : X.mg x = none) (hv : bootBuiltins x = some (.type T)) (ha : PE3 X W a ta) (hn : x ≠ "__name__" := by decide) (hdb : (x == ("__debug__" : Str)) = false := by decide)
    (hs : starEach [a] X.env = (false, eval a X.env) :: starEach [] X.env := by rfl) (he : starEach [a] X.env = (false, eval a X.env) :: starEach [] X.env := by rfl) (hpl : (backTo pos (starEach [] X.env)).any (·.1) = false := by rfl) : PL3 X W (.Call (.Name x p) [a] [] pos) (tUL o ta) :=
  ⟨fun H0 B0 H B σ s q z Q G ht k kx => ⟨_, pe_callTy (canC X _) hg hm hv (pa_cons (can X a) pa_nil hs) hn hdb he hpl, callL_run ho ha G ht k kx⟩⟩

def oLen : O1 := fun _ d q => match d with
  | .lst ds => q .st (.int ds.length)
  | .tup ds => q .st (.int ds.length)
  | .frl ds => q .st (.int ds.length)
  | .str x => x.length ≤ sizeLine ∧ q .st (.int x.length)
  | _ => False
theorem c3len : Call1 X (.builtin "len") oLen := fun H0 H B v g d q Q hB r h k => by
  unfold oLen at h
  split at h
  · cases r.1 with
    | lst hl rl => exact ⟨_, call_len_seq, _, _, rfl, .inl (SqL.of hl), k _ H B .st _ (.refl hB) (RepF.of hB (.int _)) (by rw [rl.length]; exact h)⟩
  · cases r.1 with
    | tup hl rl => exact ⟨_, call_len_seq, _, _, rfl, .inr hl.sq, k _ H B .st _ (.refl hB) (RepF.of hB (.int _)) (by rw [rl.length]; exact h)⟩
  · cases r.1 with
    | frl hl rl => exact ⟨_, call_len_seq, _, _, rfl, .inl (.inl (.inr ⟨_, hl⟩)), k _ H B .st _ (.refl hB) (RepF.of hB (.int _)) (by rw [rl.length]; exact h)⟩
  · cases r.1
    exact ⟨_, call_len_str, _, rfl, h.1, k _ H B .st _ (.refl hB) (RepF.of hB (.int _)) h.2⟩
  · exact h.elim
def oInt : O1 := fun _ d q => match d with
  | .int i => q .st (.int i)
  | .bl b => q .st (.int (if b = true then 1 else 0))
  | _ => False
theorem c3int : Call1 X (.type "int") oInt := fun H0 H B v g d q Q hB r h k => by
  unfold oInt at h
  split at h
  · cases r.1
    exact ⟨_, call_int1, .inl ⟨_, rfl, k _ H B .st _ (.refl hB) (RepF.of hB (.int _)) h⟩⟩
  · cases r.1
    exact ⟨_, call_int1, .inr ⟨_, rfl, k _ H B .st _ (.refl hB) (RepF.of hB (.int _)) h⟩⟩
  · exact h.elim
def oTup : O1 := fun f d q => match d with
  | .lst ds => cond f.nb (q .st (.tup ds)) False
  | .tup ds => cond f.isSt (q .st (.tup ds)) False
  | _ => False
theorem c3tup : Call1 X (.type "tuple") oTup := fun H0 H B v g d q Q hB r h k => by
  unfold oTup at h
  split at h
  · cases hn : g.nb with
    | false => rw [hn] at h; exact h.elim
    | true =>
      rw [hn] at h
      obtain ⟨a, vs, rfl, hl, rl⟩ := r.lst hB (Fl.nb_ne hn)
      refine ⟨_, call_tupF, a, vs, rfl, SqL.of hl, fun p o hp hd => ?_⟩
      have g : Grow H B (upd H p (.frz o (.tup vs))) (upd B p (.frz o (.tup vs))) := .add hB hp
      exact k _ _ _ .st _ g (RepF.of g.bh (.tup (Tp.new hd) (rl.mono g.b))) h
  · cases hn : g.isSt with
    | false => rw [hn] at h; exact h.elim
    | true =>
      rw [hn] at h
      cases Fl.st_of hn
      have q1 := r.2
      cases q1 with
      | @tup a vs _ ht rt => exact ⟨_, call_tupT, a, vs, rfl, (ht.mono hB).sq, k _ H B .st _ (.refl hB) (RepF.of hB (.tup ht rt)) h⟩
  · exact h.elim
def oList : OL := fun f d q => match d with
  | .lst ds => cond f.nb (q ds) False
  | .tup ds => cond f.isSt (q ds) False
  | _ => False
theorem c3list : CallL X (.type "list") oList := fun H0 H B v g d q Q hB r h k => by
  unfold oList at h
  split at h
  · cases hn : g.nb with
    | false => rw [hn] at h; exact h.elim
    | true =>
      rw [hn] at h
      obtain ⟨a, vs, rfl, hl, rl⟩ := r.lst hB (Fl.nb_ne hn)
      exact ⟨_, call_list_of, a, vs, rfl, .inl (SqL.of hl), fun p hp => k p _ vs _ (same_upd hp) hp upd_same rl h⟩
  · cases hn : g.isSt with
    | false => rw [hn] at h; exact h.elim
    | true =>
      rw [hn] at h
      cases Fl.st_of hn
      have q1 := r.2
      cases q1 with
      | @tup a vs _ ht rt => exact ⟨_, call_list_of, a, vs, rfl, .inr (ht.mono hB).sq, fun p hp => k p _ vs _ (same_upd hp) hp upd_same rt h⟩
  · exact h.elim
/-- sorted: ints -/
def oSorted : OL := fun _ d q => match d with
  | .lst ds => ∃ ns : List Int, ds = ns.map D.int ∧ ∀ ns' : List Int, ns'.Perm ns → ns'.Pairwise (· ≤ ·) → q (ns'.map D.int)
  | _ => False
theorem c3sorted : CallL X (.builtin "sorted") oSorted := fun H0 H B v g d q Q hB r h k => by
  unfold oSorted at h
  split at h
  · obtain ⟨ns, rfl, h⟩ := h
    cases r.1 with
    | lst hl rl =>
      have e := rl.ints
      subst e
      exact ⟨_, cr_sortedI, _, ns, rfl, SqL.of hl, fun ns' p hp1 hp2 hp => k p _ _ _ (same_upd hp) hp upd_same (.of_ints ns') (h ns' hp1 hp2)⟩
  · exact h.elim
/-- min of a list, of data with an order -/
def oMin : O1 := fun f d q => match d with
  | .lst ds => ∃ (α : Type) (i1 : DecidableEq α) (i2 : DatumOrd α) (i3 : EncD α) (x : α) (xs : List α), ds = (x :: xs).map enc ∧ Datum.depth α ≤ 60 ∧ q (f.item (enc (minOf x xs))) (enc (minOf x xs))
  | _ => False
theorem toD_inj {α : Type} [DecidableEq α] [Datum α] {x y : α} (e : Datum.toD x = Datum.toD y) : x = y := by
  have h := Datum.eqv x y
  rw [e, Datum.eqv] at h
  simpa using h
theorem c3min (hc : X.calm = true) (hu : deep X) : Call1 X (.builtin "min") oMin := fun H0 H B v g d q Q hB r h k => by
  have hu' := hu
  unfold deep at hu'
  unfold oMin at h
  split at h
  · obtain ⟨α, i1, i2, i3, x, xs, rfl, hd, h⟩ := h
    have r1 := r.1
    cases r1 with
    | @lst a vs _ hl rl =>
      refine ⟨fun xs' H' Q' => xs' = [.ref a] ∧ H' = H ∧ ∀ (i : Nat) (w : V), vs[i]? = some w → Rep H w (enc (minOf x xs)) → Q' w H', ?_, rfl, rfl, fun i w hi rw' => ?_⟩
      · intro pins s σ H' xs' us Q' I rv ⟨e1, e2, hq⟩
        subst e1 e2
        rw [Vals.ref1 rv]
        obtain ⟨its, rv2, p, hz⟩ := I.list (SqL.of hl)
        refine PySem.W.min_list_datum (I.ok.hd hc) p.isList (rl.holds I (by simpa using rv2)) (by omega) fun i u h' tk hi hH kk => ?_
        have hi' : its[i]? = some u := by simpa using hi
        obtain ⟨w, hw, rw'⟩ : ∃ w, vs[i]? = some w ∧ L2.RelV w u := by
          have hlen := rv2.length
          have hi2 : i < vs.length := by
            rw [hlen]
            exact (List.getElem?_eq_some_iff.mp hi').1
          obtain ⟨u2, e3, e4⟩ := rv2.get (List.getElem?_eq_getElem hi2)
          rw [hi'] at e3
          rw [Option.some.inj e3]
          exact ⟨_, List.getElem?_eq_getElem hi2, e4⟩
        refine ⟨w, _, I.kept kk, rw', hq i w hw ?_⟩
        obtain ⟨d, ed, rd⟩ := rl.getV hw
        rw [List.getElem?_map] at ed
        obtain ⟨y, ey, rfl⟩ := map_some ed
        obtain ⟨as, h1⟩ := Rep.holds (I.kept (t' := tk) kk) rd rw'
        obtain ⟨bs, h2⟩ := hH
        have z := SeqAt.plain_unique _ _ _ _ _ (Datum.plain y) h1 h2
        rw [← toD_inj z]
        exact rd
      · refine k w H B _ _ (.refl hB) (item_rep (H1 := H) rw' fun hn => ?_) h
        obtain ⟨a2, vs2, ea, h2, r5⟩ := r.lst hB (Fl.nb_ne hn)
        cases ea
        rw [hl] at h2
        cases h2
        obtain ⟨d, ed, rd⟩ := r5.getV hi
        obtain ⟨d2, ed2, rd2⟩ := rl.getV hi
        rw [ed] at ed2
        cases ed2
        rw [List.getElem?_map] at ed
        obtain ⟨y, ey, e8⟩ := map_some ed
        rw [← e8] at rd rd2
        rw [rd2.inj rw' (EncD.py y)] at rd
        exact rd
  · exact h.elim
end
end L3

/-! L3e: methods, isinstance, what is walked, comprehensions. -/
namespace L3
open PySem PySem.Spec L2 PySem.W
open PyProof.Rows hiding St
open EncD (enc)

section
variable {X : Cx} {W : WX} {a b c e o : Expr} {es : List Expr} {ta tb tc te : TE3} {tas : TA3} {pos : Pos}

theorem bt_min : bootBuiltins "min" = some (.builtin "min") := by decide +kernel
theorem bt_max : bootBuiltins "max" = some (.builtin "max") := by decide +kernel
theorem bt_len : bootBuiltins "len" = some (.builtin "len") := by decide +kernel
theorem bt_sum : bootBuiltins "sum" = some (.builtin "sum") := by decide +kernel
theorem bt_sorted : bootBuiltins "sorted" = some (.builtin "sorted") := by decide +kernel
theorem bt_isi : bootBuiltins "isinstance" = some (.builtin "isinstance") := by decide +kernel
theorem bt_int : bootBuiltins "int" = some (.type "int") := by decide +kernel
theorem bt_str : bootBuiltins "str" = some (.type "str") := by decide +kernel
theorem bt_bool : bootBuiltins "bool" = some (.type "bool") := by decide +kernel
theorem bt_tuple : bootBuiltins "tuple" = some (.type "tuple") := by decide +kernel
theorem bt_list : bootBuiltins "list" = some (.type "list") := by decide +kernel
/-! ### min and max of two ints -/
def tMin2 (ta tb : TE3) : TE3 := fun s q x => ta s (fun _ d => tb s (fun _ e => match d, e with
  | .int i, .int j => q .st (.int (if j < i then j else i))
  | _, _ => False) x) x
def tMax2 (ta tb : TE3) : TE3 := fun s q x => ta s (fun _ d => tb s (fun _ e => match d, e with
  | .int i, .int j => q .st (.int (if j > i then j else i))
  | _, _ => False) x) x
theorem p3min2 {p : Pos} (hc : X.calm = true) (hg : Gl X "min") (hm : X.mg "min" = none) (ha : PE3 X W a ta) (hb : PE3 X W b tb) (h1 : starEach [a, b] X.env = (false, eval a X.env) :: starEach [b] X.env := by rfl) (h2 : starEach [b] X.env = (false, eval b X.env) :: starEach [] X.env := by rfl)
    (hpl : (backTo pos (starEach [b] X.env)).any (·.1) = false := by rfl) : PE3 X W (.Call (.Name "min" p) [a, b] [] pos) (tMin2 ta tb) :=
  ⟨fun H0 B0 H B σ s q z Q G ht k kx => ⟨_, pe_callB (call_min2 hc) hg hm bt_min (pa_cons (can X a) (pa_cons (can X b) pa_nil h2) h1) (by decide) (by decide) h1 hpl, bin3 ha hb G ht kx fun v u H1 B1 f d g e g1 r1 r2 hq => by
    split at hq
    · cases r1.1
      cases r2.1
      exact ⟨_, _, rfl, k _ H1 B1 .st _ g1 (RepF.of g1.bh (.int _)) hq⟩
    · exact hq.elim⟩⟩
theorem p3max2 {p : Pos} (hc : X.calm = true) (hg : Gl X "max") (hm : X.mg "max" = none) (ha : PE3 X W a ta) (hb : PE3 X W b tb) (h1 : starEach [a, b] X.env = (false, eval a X.env) :: starEach [b] X.env := by rfl) (h2 : starEach [b] X.env = (false, eval b X.env) :: starEach [] X.env := by rfl)
    (hpl : (backTo pos (starEach [b] X.env)).any (·.1) = false := by rfl) : PE3 X W (.Call (.Name "max" p) [a, b] [] pos) (tMax2 ta tb) :=
  ⟨fun H0 B0 H B σ s q z Q G ht k kx => ⟨_, pe_callB (call_max2 hc) hg hm bt_max (pa_cons (can X a) (pa_cons (can X b) pa_nil h2) h1) (by decide) (by decide) h1 hpl, bin3 ha hb G ht kx fun v u H1 B1 f d g e g1 r1 r2 hq => by
    split at hq
    · cases r1.1
      cases r2.1
      exact ⟨_, _, rfl, k _ H1 B1 .st _ g1 (RepF.of g1.bh (.int _)) hq⟩
    · exact hq.elim⟩⟩

/-! ### isinstance with a built-in class -/
def tyN : D → String
  | .non => "NoneType"
  | .bl _ => "bool"
  | .int _ => "int"
  | .str _ => "str"
  | .tup _ => "tuple"
  | .lst _ => "list"
  | .frl _ => "list"
  | .dT _ => "dict"
  | .dK _ => "dict"
  | .ins _ _ => ""
def isTy (T : String) (d : D) : Bool := tyN d == T || (tyN d == "bool" && T == "int")
def noIns : D → Bool
  | .ins _ _ => false
  | .dT _ => false
  | _ => true
theorem tyOf {K : PySem.W.Frag} {H : Hp} {v : V} {d : D} (r : Rep H v d) (h : noIns d = true) : TyX K H v (.type (tyN d)) := by
  cases r with
  | non => exact .base .non
  | bl b => exact .base (.bl b)
  | int i => exact .base (.int i)
  | str x => exact .base (.str x)
  | tup z _ =>
    obtain ⟨o, _, z⟩ := z
    exact .fTuple z
  | lst z _ => exact .base (.lst z)
  | frl z _ => exact .base (.frz z)
  | dT _ _ => cases h
  | dK z _ => exact .base (.dK z)
  | ins _ _ => cases h
def kitsB (T : String) : Bool := ["NoneType", "bool", "int", "str", "tuple", "list", "dict"].all fun t => decide (kitB t T = some (t == T || (t == "bool" && T == "int")))
theorem kits_of {T : String} (h : kitsB T = true) {d : D} (n : noIns d = true) : kitB (tyN d) T = some (isTy T d) := by
  unfold kitsB at h
  rw [List.all_eq_true] at h
  have z := h (tyN d) (by cases d <;> first | (exact absurd n Bool.false_ne_true) | simp [tyN])
  exact of_decide_eq_true z
def tIsi (T : String) (ta : TE3) : TE3 := fun s q x => ta s (fun _ d => noIns d = true ∧ q .st (.bl (isTy T d))) x
theorem p3isi {T : String} {x : Str} {p p2 : Pos} (hg : Gl X "isinstance") (hm : X.mg "isinstance" = none) (hgT : Gl X x) (hmT : X.mg x = none) (hvT : bootBuiltins x = some (.type T)) (hk : kitsB T = true) (ha : PE3 X W a ta) (hn : x ≠ "__name__" := by decide) (hdb : (x == ("__debug__" : Str)) = false := by decide)
    (h1 : starEach [a, .Name x p2] X.env = (false, eval a X.env) :: starEach [.Name x p2] X.env := by rfl) (h2 : starEach [.Name x p2] X.env = (false, eval (.Name x p2) X.env) :: starEach [] X.env := by rfl)
    (hpl : (backTo pos (starEach [.Name x p2] X.env)).any (·.1) = false := by rfl) : PE3 X W (.Call (.Name "isinstance" p) [a, .Name x p2] [] pos) (tIsi T ta) :=
  ⟨fun H0 B0 H B σ s q z Q G ht k kx => ⟨_, pe_callB call_isi hg hm bt_isi (pa_cons (can X a) (pa_cons (pe_bltn (v := .ty T) hgT hmT hvT rfl hn hdb) pa_nil h2) h1) (by decide) (by decide) h1 hpl, ha.run H0 B0 H B σ s _ z _ G ht (fun v H1 B1 f d g r q1 =>
    ⟨v, .ty T, _, _, isTy T d, rfl, .ty T, tyOf r.1 q1.1, kit_ty (kits_of hk q1.1), k _ H1 B1 .st _ g (RepF.of g.bh (.bl _)) q1.2⟩) kx⟩⟩

/-! ### methods of built-in types, the type known when the receiver is -/
/-- a value of the built-in type T, without a dict of its own -/
def TyIs (X : Cx) (T : String) (x : V) (H : Hp) : Prop := ∀ (pins : List (Addr × Obj)) (σ : St) (s : Shared) (v : Value), Inv X pins σ H s → L2.RelV x v → s.TypeIs v T ∧ ∀ a, v = .ref a → ∃ ob, s.heap.get? a = some ob ∧ ob.dict = none
theorem pe_bmX {name : Str} {to : TE} {t : TA} {apos cpos : Pos} (ho : PE X o to) (ha : PA X (e :: es) t) (hbase : attributeBase o name X.env (eval o X.env) = eval o X.env)
    (hfew : ((backTo cpos (starEach (e :: es) X.env)).all (fun x => !x.1) && (backToKw cpos (keywordEach [] X.env)).all (fun x => x.1.isSome) && decide ((e :: es).length + ([] : List Keyword).length + (if ([] : List Keyword).isEmpty then 0 else 1) < 30)) = true)
    (hline : (apos.endLine == cpos.line) = true) (hs : starEach (e :: es) X.env = (false, eval e X.env) :: starEach es X.env) (hplain : (backTo cpos (starEach es X.env)).any (·.1) = false) :
    PE X (.Call (.Attribute o name apos) (e :: es) [] cpos) (fun σ H Q => to σ H fun x H1 => ∃ (T id : String) (r : V → List V → Hp → VK → Prop), PlainAttrs T ∧ Slot T name id ∧ typeOf (.builtin id) = pure (.type "method_descriptor") ∧ MtR X id r ∧ TyIs X T x H1 ∧ t σ H1 fun xs H2 => r x xs H2 Q) := by
  refine ⟨fun pins s σ H Q I h => wpAny_Call_method_late hbase hfew hline rfl (thn (ho.run pins s σ H _ I h) fun v s1 h1 => ?_)⟩
  obtain ⟨x, H1, I1, r1, T, id, r, pa, slot, hty, hm, ty, q1⟩ := h1
  obtain ⟨z1, z2⟩ := ty pins σ s1 v I1 r1
  refine ⟨T, id, pa, slot, hty, z1, z2, ?_⟩
  have hA := ha.run cpos pins s1 σ H1 _ I1 q1
  rw [hs] at hA ⊢
  refine Calls.callWith_builtin (by show (false || (backTo cpos (starEach es X.env)).any (·.1)) = false; rw [hplain] <;> rfl) (Calls.evalArgs_plain (thn hA fun us s2 h2 => ?_))
  obtain ⟨vs, H2, I2, r2, q2⟩ := h2
  exact hm pins s2 σ H2 x vs v us Q I2 r1 r2 q2
/-- the place of x among the items -/
def idxG (d : D) (ds : List D) (k : Nat → Prop) : Prop := ∃ (α : Type) (i1 : DecidableEq α) (i2 : Datum α) (i3 : EncD α) (x : α) (xs : List α), d = enc x ∧ ds = xs.map enc ∧ Datum.depth α ≤ 60 ∧ x ∈ xs ∧ k (xs.idxOf x)
theorem idxG_of {α : Type} [DecidableEq α] [Datum α] [EncD α] {x : α} {xs : List α} {k : Nat → Prop} (hx : x ∈ xs) (h : k (xs.idxOf x)) (hd : Datum.depth α ≤ 60 := by decide) : idxG (enc x) (xs.map enc) k := ⟨α, _, _, _, x, xs, rfl, rfl, hd, hx, h⟩
/-- row.index(x), x in the row -/
def tIndex3 (to te : TE3) : TE3 := fun s q z => to s (fun _ c => match c with
  | .lst ds => te s (fun _ d => idxG d ds fun j => q .st (.int j)) z
  | .tup ds => te s (fun _ d => idxG d ds fun j => q .st (.int j)) z
  | _ => False) z
theorem tyT {H : Hp} {a : Addr} {vs : List V} (h : Tp H a vs) : TyIs X "tuple" (.ref a) H := fun pins σ s v I r => by
  cases r
  obtain ⟨o, hd, h⟩ := h
  obtain ⟨e, _, its, _, o', e', hc, _⟩ := (show ObjOk X.prog X.w H s.heap a (.frz o (.tup vs)) from I.hok a _ h)
  refine ⟨⟨o', e', hc⟩, fun b eb => ?_⟩
  cases eb
  exact ⟨o, e, hd⟩
theorem tyL {H : Hp} {a : Addr} {vs : List V} (h : H a = some (.lst vs)) : TyIs X "list" (.ref a) H := fun pins σ s v I r => tyV_is I r (.inl ⟨rfl, _, SqL.of h⟩)
theorem p3index {to : TE3} {apos cpos : Pos} (hu : deep X) (ho : PE3 X W o to) (ha : PE3 X W a ta) (hbase : attributeBase o "index" X.env (eval o X.env) = eval o X.env := by rfl)
    (hfew : ((backTo cpos (starEach [a] X.env)).all (fun x => !x.1) && (backToKw cpos (keywordEach [] X.env)).all (fun x => x.1.isSome) && decide (([a] : List Expr).length + ([] : List Keyword).length + (if ([] : List Keyword).isEmpty then 0 else 1) < 30)) = true := by rfl)
    (hline : (apos.endLine == cpos.line) = true := by rfl) (hs : starEach [a] X.env = (false, eval a X.env) :: starEach [] X.env := by rfl) (hplain : (backTo cpos (starEach [] X.env)).any (·.1) = false := by rfl) :
    PE3 X W (.Call (.Attribute o "index" apos) [a] [] cpos) (tIndex3 to ta) := by
  refine ⟨fun H0 B0 H B σ s q z Q G ht k kx => ⟨_, pe_bmX (can X o) (pa_cons (can X a) pa_nil hs) hbase hfew hline hs hplain, ho.run H0 B0 H B σ s _ z _ G ht (fun v H1 B1 f c g1 r1 q1 => ?_) kx⟩⟩
  have hu' := hu
  unfold deep at hu'
  cases c with
  | lst ds =>
    cases r1.1 with
    | @lst p vs _ hl rl =>
      refine ⟨"list", "list.index", fun x xs H' Q' => ∃ w, x = .ref p ∧ xs = [w] ∧ ∃ (α : Type) (i1 : DecidableEq α) (i2 : Datum α) (i3 : EncD α) (y : α) (ys : List α), H' p = some (.lst vs) ∧ Reps H' vs (ys.map (enc (α := α))) ∧ Rep H' w (enc y) ∧ Datum.depth α ≤ 60 ∧ y ∈ ys ∧ Q' (.int (ys.idxOf y : Nat)) H',
        PySem.F.plainAttrs_list, PySem.F.slot_list_index, PySem.F.type_list_index, ?_, tyL hl, ha.run H0 B0 H1 B1 σ s _ z _ (G.grow g1) q1 (fun w H2 B2 f2 d g2 r2 q2 => ?_) (kx.grow g1)⟩
      · intro pins s' σ' H' x xs v' us Q' I rx rxs ⟨w, ex, exs, α, i1, i2, i3, y, ys, h1, h2, h3, hd, hy, hq⟩
        subst ex exs
        cases rx
        obtain ⟨u, rfl, ru⟩ := vals1 rxs
        obtain ⟨its, rv2, pl, hz⟩ := I.list (SqL.of h1)
        have hlen : ys.length ≤ sizeLine := by
          have z1 := h2.length
          rw [List.length_map] at z1
          rw [← z1]
          exact hz
        exact PySem.W.index_list_datum pl.isList (h2.holds I rv2) (h3.holds I ru) (by omega) hlen hy ⟨.int _, H', I.tok _, ⟨_, rfl⟩, hq⟩
      · obtain ⟨α, i1, i2, i3, y, ys, rfl, rfl, hd, hy, hq⟩ := q2
        exact ⟨w, rfl, rfl, α, i1, i2, i3, y, ys, g2.h _ _ hl, rl.mono g2.h, r2.1, hd, hy, k _ H2 B2 .st _ (g1.trans g2) (RepF.of g2.bh (.int _)) hq⟩
  | tup ds =>
    cases r1.1 with
    | @tup p vs _ hl rl =>
      refine ⟨"tuple", "tuple.index", fun x xs H' Q' => ∃ w, x = .ref p ∧ xs = [w] ∧ ∃ (α : Type) (i1 : DecidableEq α) (i2 : Datum α) (i3 : EncD α) (y : α) (ys : List α), Tp H' p vs ∧ Reps H' vs (ys.map (enc (α := α))) ∧ Rep H' w (enc y) ∧ Datum.depth α ≤ 60 ∧ y ∈ ys ∧ Q' (.int (ys.idxOf y : Nat)) H',
        PySem.F.plainAttrs_tuple, PySem.F.slot_tuple_index, PySem.F.type_tuple_index, ?_, tyT hl, ha.run H0 B0 H1 B1 σ s _ z _ (G.grow g1) q1 (fun w H2 B2 f2 d g2 r2 q2 => ?_) (kx.grow g1)⟩
      · intro pins s' σ' H' x xs v' us Q' I rx rxs ⟨w, ex, exs, α, i1, i2, i3, y, ys, h1, h2, h3, hd, hy, hq⟩
        subst ex exs
        cases rx
        obtain ⟨u, rfl, ru⟩ := vals1 rxs
        obtain ⟨its, rv2, pl, hz⟩ := I.tuple (h1.sq (K := X.K))
        exact PySem.W.index_tuple_datum (show s'.heap.IsTuple _ its.toArray from pl) (h2.holds I rv2) (h3.holds I ru) (by omega) hy ⟨.int _, H', I.tok _, ⟨_, rfl⟩, hq⟩
      · obtain ⟨α, i1, i2, i3, y, ys, rfl, rfl, hd, hy, hq⟩ := q2
        exact ⟨w, rfl, rfl, α, i1, i2, i3, y, ys, hl.mono g2.h, rl.mono g2.h, r2.1, hd, hy, k _ H2 B2 .st _ (g1.trans g2) (RepF.of g2.bh (.int _)) hq⟩
  | _ => exact q1.elim
end
end L3

/-! L3f: what is walked, targets, comprehensions. -/
namespace L3
open PySem PySem.Spec L2 PySem.W
open PyProof.Rows hiding St
open EncD (enc)

def CanI (X : Cx) (tg iter : Expr) : TI := fun σ H R => ∃ t, PI X tg iter t ∧ t σ H R
theorem canI (X : Cx) (tg iter : Expr) : PI X tg iter (CanI X tg iter) := ⟨fun pins s σ H R I ⟨_, h, q⟩ => h.run pins s σ H R I q⟩
def CanG (X : Cx) (tg : Expr) : TG := fun v σ H Q => ∃ t, PG X tg t ∧ t v σ H Q
theorem canG (X : Cx) (tg : Expr) : PG X tg (CanG X tg) := ⟨fun pins s σ H v u Q I r ⟨_, h, q⟩ => h.run pins s σ H v u Q I r q⟩
def CanGs (X : Cx) (tgs : List Expr) : TGs := fun v σ H Q => ∃ t, PGs X tgs t ∧ t v σ H Q
theorem canGs (X : Cx) (tgs : List Expr) : PGs X tgs (CanGs X tgs) := ⟨fun pins s σ H v u Q I r ⟨_, h, q⟩ => h.run pins s σ H v u Q I r q⟩
def CanTs (X : Cx) (ifs : List Expr) : TT := fun σ H Q => ∃ t, PTs X ifs t ∧ t σ H Q
theorem canTs (X : Cx) (ifs : List Expr) : PTs X ifs (CanTs X ifs) := ⟨fun pins s σ H Q I ⟨_, h, q⟩ => h.run pins s σ H Q I q⟩

/-- an item as it comes to the target: a value, or a tuple just made that is unpacked at once -/
inductive Itm where
  | d (x : D) | u (xs : List D)
def RepI (K : PySem.W.Frag) (H B : Hp) (v : V) : Itm → Prop
  | .d x => Rep B v x
  | .u xs => ∃ a vs, v = .ref a ∧ SqT K H a vs ∧ Reps B vs xs
/-- the walk J gives these items while the base stands -/
def Walks (K : PySem.W.Frag) (J : It) (B : Hp) (items : List Itm) : Prop := ∀ (i : Nat) (H' B' : Hp), Same B B' → Same B' H' →
  (∀ m, items[i]? = some m → J.go i H' ∧ ∀ x H'', J.yld i H' x H'' → ∃ B'', Grow H' B' H'' B'' ∧ RepI K H'' B'' x m) ∧ (items.length ≤ i → J.stop i H')
abbrev TI3 := Store → (List Itm → Prop) → (Exn → Prop) → Prop
structure PI3 (X : Cx) (W : WX) (tg iter : Expr) (t : TI3) : Prop where
  run : ∀ (H0 B0 H B : Hp) (σ : St) (s : Store) (q : List Itm → Prop) (x : Exn → Prop) (R : It → Hp → Prop), Good H0 B0 H B σ s → t s q x →
    (∀ J H1 B1 items, Grow H B H1 B1 → Walks X.K J B1 items → q items → R J H1) → ExK W H B σ x → CanI X tg iter σ H R

section
variable {X : Cx} {W : WX} {tg a b c e o : Expr} {es : List Expr} {ta tb tc te : TE3} {tas : TA3} {pos : Pos}

/-! ### walks -/
/-- a list or a tuple, whichever it is -/
theorem pi_seq {l : Expr} {tl : TE} (hl : PE X l tl) : PI X tg l (fun σ H R => tl σ H fun x H1 => ∃ a, x = .ref a ∧ ((∃ xs, SqL X.K H1 a xs ∧ R (Itl X.K a) H1) ∨ ∃ xs, SqT X.K H1 a xs ∧ R (Itt X.K a) H1)) := by
  refine ⟨fun pins s σ H R I h => thn (hl.run pins s σ H _ I h) fun v s1 h1 => ?_⟩
  obtain ⟨x, H1, I1, r1, a, e, hq⟩ := h1
  subst e
  cases r1
  have one : ∀ (b : Addr) (o : Obj), b ∈ [s1.heap.objs.size] → FpOk X pins H1 b := fun b o hb => by
    have e : b = s1.heap.objs.size := by simpa using hb
    subst e
    exact I1.fpOk (Nat.le_refl _) (I1.hok.fresh (Nat.le_refl _))
  rcases hq with ⟨xs, hq, q⟩ | ⟨xs, hq, q⟩
  · obtain ⟨its, rv, p, hz⟩ := I1.list hq
    exact wpAny_pyIter_list p.isList ⟨s1.heap.objs.size, [s1.heap.objs.size], _, _, H1, rfl, I1.kept (t' := s1.toks) fun b o e => Heap.get?_push_of_some _ e, turn_list a _, ⟨_, Heap.get?_push_size _ rfl, rfl, rfl⟩, fun b hb => one b { cls := .none, data := .fields #[] } hb, q⟩
  · obtain ⟨its, rv, p, hz⟩ := I1.tuple hq
    exact wpAny_pyIter_tuple (show s1.heap.IsTuple a its.toArray from p) ⟨s1.heap.objs.size, [s1.heap.objs.size], _, _, H1, rfl, I1.kept (t' := s1.toks) fun b o e => Heap.get?_push_of_some _ e, turn_tuple a _, ⟨_, Heap.get?_push_size _ rfl, rfl, rfl⟩, fun b hb => one b { cls := .none, data := .fields #[] } hb, q⟩
theorem itm_get {ds : List D} {i : Nat} {m : Itm} (e : (ds.map Itm.d)[i]? = some m) : ∃ d, ds[i]? = some d ∧ m = .d d := by
  rw [List.getElem?_map] at e
  obtain ⟨d, e1, e2⟩ := map_some e
  exact ⟨d, e1, e2.symm⟩
theorem walks_list {K : PySem.W.Frag} {B : Hp} {a : Addr} {vs : List V} {ds : List D} (h : ∀ B', Same B B' → SqL K B' a vs) (up : ∀ B' H' : Hp, Same B' H' → SqL K B' a vs → SqL K H' a vs) (r : Reps B vs ds) : Walks K (Itl K a) B (ds.map .d) := fun i H' B' e1 e2 => by
  have hs := up B' H' e2 (h B' e1)
  refine ⟨fun m em => ?_, fun hl => ⟨vs, hs, by rw [r.length]; rw [List.length_map] at hl; exact hl⟩⟩
  obtain ⟨d, ed, rfl⟩ := itm_get em
  obtain ⟨v, ev, rv⟩ := r.get ed
  refine ⟨⟨vs, v, hs, ev⟩, fun x H'' hy => ?_⟩
  obtain ⟨rfl, hx⟩ := hy
  have e3 := hx vs hs
  rw [ev] at e3
  cases e3
  exact ⟨B', .refl e2, rv.mono e1⟩
theorem walks_tup {K : PySem.W.Frag} {B : Hp} {a : Addr} {vs : List V} {ds : List D} (h : Tp B a vs) (r : Reps B vs ds) : Walks K (Itt K a) B (ds.map .d) := fun i H' B' e1 e2 => by
  have hs : SqT K H' a vs := ((h.mono e1).mono e2).sq
  refine ⟨fun m em => ?_, fun hl => ⟨vs, hs, by rw [r.length]; rw [List.length_map] at hl; exact hl⟩⟩
  obtain ⟨d, ed, rfl⟩ := itm_get em
  obtain ⟨v, ev, rv⟩ := r.get ed
  refine ⟨⟨vs, v, hs, ev⟩, fun x H'' hy => ?_⟩
  obtain ⟨rfl, hx⟩ := hy
  have e3 := hx vs hs
  rw [ev] at e3
  cases e3
  exact ⟨B', .refl e2, rv.mono e1⟩
/-- for x in a list or a tuple that stands on the base -/
def tSeq3I (ta : TE3) : TI3 := fun s q x => ta s (fun f d => match d with
  | .lst ds => cond f.isSt (q (ds.map .d)) False
  | .tup ds => cond f.isSt (q (ds.map .d)) False
  | .frl ds => cond f.isSt (q (ds.map .d)) False
  | _ => False) x
theorem sq_up {K : PySem.W.Frag} {a : Addr} {vs : List V} (B' H' : Hp) (e : Same B' H') (h : SqL K B' a vs) : SqL K H' a vs := e.seq h
theorem i3seq (ha : PE3 X W a ta) : PI3 X W tg a (tSeq3I ta) :=
  ⟨fun H0 B0 H B σ s q x R G ht k kx => ⟨_, pi_seq (can X a), ha.run H0 B0 H B σ s _ x _ G ht (fun v H1 B1 f d g r q1 => by
    cases hf : f.isSt with
    | false => rw [hf] at q1; cases d <;> exact q1.elim
    | true =>
      rw [hf] at q1
      cases Fl.st_of hf
      cases r.2 with
      | lst hl rl => exact ⟨_, rfl, .inl ⟨_, SqL.of (g.bh _ _ hl), k _ H1 B1 _ g (walks_list (fun B' e => SqL.of (e _ _ hl)) sq_up rl) q1⟩⟩
      | frl hl rl => exact ⟨_, rfl, .inl ⟨_, .inl (.inr ⟨_, g.bh _ _ hl⟩), k _ H1 B1 _ g (walks_list (fun B' e => .inl (.inr ⟨_, e _ _ hl⟩)) sq_up rl) q1⟩⟩
      | tup hl rl => exact ⟨_, rfl, .inr ⟨_, (hl.mono g.bh).sq, k _ H1 B1 _ g (walks_tup hl rl) q1⟩⟩
      | _ => exact q1.elim) kx⟩⟩
/-- range -/
def rgD (lo : Int) (n : Nat) : List D := (List.range n).map fun i => .int (lo + (i : Nat))
theorem walks_range {K : PySem.W.Frag} {B : Hp} (lo : Int) (n : Nat) : Walks K (Itr lo n) B ((rgD lo n).map .d) := fun i H' B' e1 e2 => by
  refine ⟨fun m em => ?_, fun hl => ?_⟩
  · obtain ⟨d, ed, rfl⟩ := itm_get em
    unfold rgD at ed
    rw [List.getElem?_map] at ed
    obtain ⟨j, ej, rfl⟩ := map_some ed
    obtain ⟨hj, e3⟩ := List.getElem?_eq_some_iff.mp ej
    rw [List.length_range] at hj
    rw [List.getElem_range] at e3
    subst e3
    refine ⟨hj, fun x H'' hy => ?_⟩
    obtain ⟨rfl, rfl⟩ := hy
    exact ⟨B', .refl e2, .int _⟩
  · unfold rgD at hl
    rw [List.length_map, List.length_map, List.length_range] at hl
    exact hl
def tRg1 (ta : TE3) : TI3 := fun s q x => ta s (fun _ d => match d with
  | .int n => (-(2 ^ 62) ≤ n ∧ n < 2 ^ 62) ∧ q ((rgD 0 n.toNat).map .d)
  | _ => False) x
theorem i3range1 {p : Pos} (hg : Gl X "range") (hm : X.mg "range" = none) (ha : PE3 X W a ta) (hs : starEach [a] X.env = [(false, eval a X.env)] := by rfl) (hs2 : starEach [a] X.env = (false, eval a X.env) :: starEach [] X.env := by rfl) : PI3 X W tg (.Call (.Name "range" p) [a] [] pos) (tRg1 ta) :=
  ⟨fun H0 B0 H B σ s q x R G ht k kx => ⟨_, pi_range1 hg hm (pa_cons (can X a) pa_nil hs2) hs, ha.run H0 B0 H B σ s _ x _ G ht (fun v H1 B1 f d g r q1 => by
    cases d with
    | int n =>
      cases r.1
      exact ⟨n, rfl, q1.1.1, q1.1.2, k _ H1 B1 _ g (walks_range 0 n.toNat) q1.2⟩
    | _ => exact q1.elim) kx⟩⟩
def tRg2 (ta tb : TE3) : TI3 := fun s q x => ta s (fun _ d => tb s (fun _ e => match d, e with
  | .int m, .int n => (-(2 ^ 62) ≤ m ∧ m < 2 ^ 62 ∧ -(2 ^ 62) ≤ n ∧ n < 2 ^ 62) ∧ q ((rgD m (n - m).toNat).map .d)
  | _, _ => False) x) x
theorem i3range2 {p : Pos} (hg : Gl X "range") (hm : X.mg "range" = none) (ha : PE3 X W a ta) (hb : PE3 X W b tb) (hs : starEach [a, b] X.env = [(false, eval a X.env), (false, eval b X.env)] := by rfl) (hs2 : starEach [b] X.env = [(false, eval b X.env)] := by rfl)
    (h1 : starEach [a, b] X.env = (false, eval a X.env) :: starEach [b] X.env := by rfl) (h2 : starEach [b] X.env = (false, eval b X.env) :: starEach [] X.env := by rfl) : PI3 X W tg (.Call (.Name "range" p) [a, b] [] pos) (tRg2 ta tb) :=
  ⟨fun H0 B0 H B σ s q x R G ht k kx => ⟨_, pi_range2 hg hm (pa_cons (can X a) (pa_cons (can X b) pa_nil h2) h1) hs hs2, bin3 ha hb G ht kx fun v u H1 B1 f d g e g1 r1 r2 hq => by
    split at hq
    · cases r1.1
      cases r2.1
      exact ⟨_, _, rfl, hq.1, k _ H1 B1 _ g1 (walks_range _ _) hq.2⟩
    · exact hq.elim⟩⟩

/-! ### targets -/
/-- what a target stores stays within the base -/
abbrev TG3 := Itm → Store → (Store → Prop) → Prop
/-- the slots but those of js are as they were -/
structure Agree (js : List Nat) (σ σ' : St) (s s' : Store) : Prop where
  len : σ'.length = σ.length
  out : ∀ j, j ∉ js → σ'[j]? = σ[j]?
  own : ∀ (j : Nat) l, s'[j]? = some l → l.own = true → s[j]? = some l
theorem Agree.refl (σ : St) (s : Store) : Agree [] σ σ s s := ⟨rfl, fun _ _ => rfl, fun _ _ e _ => e⟩
theorem Agree.set (σ : St) (s : Store) (i : Nat) (x : Option V) (d : D) : Agree [i] σ (σ.set i x) s (s.set i (.va d)) := ⟨List.length_set, fun j h => List.getElem?_set_ne (fun z => h (by rw [z]; exact List.mem_cons_self)), fun j l e o => by
  rcases set_get e with ⟨_, rfl⟩ | ⟨_, e⟩
  · cases o
  · exact e⟩
theorem Agree.trans {js ks : List Nat} {σ σ1 σ2 : St} {s s1 s2 : Store} (a : Agree js σ σ1 s s1) (b : Agree ks σ1 σ2 s1 s2) : Agree (js ++ ks) σ σ2 s s2 :=
  ⟨b.len.trans a.len, fun j h => (b.out j fun z => h (List.mem_append_right _ z)).trans (a.out j fun z => h (List.mem_append_left _ z)), fun j l e o => a.own j l (b.own j l e o) o⟩
structure PG3 (X : Cx) (tg : Expr) (js : List Nat) (t : TG3) : Prop where
  run : ∀ (H0 B0 H B : Hp) (σ : St) (s : Store) (v : V) (m : Itm) (q : Store → Prop) (Q : St → Hp → Prop), Good H0 B0 H B σ s → RepI X.K H B v m → t m s q →
    (∀ σ' s', Good H0 B0 H B σ' s' → Agree js σ σ' s s' → q s' → Q σ' H) → CanG X tg v σ H Q
def gN3 (i : Nat) : TG3 := fun m s q => match m with
  | .d x => q (s.set i (.va x))
  | _ => False
theorem g3name {i : Nat} {x : Str} {p : Pos} (hN : X.N.Nodup) (hi : X.N[i]? = some x) (hx : Loc X.env.scope x) (hf : X.fn x = true ∨ X.env.scope.names.lookup x = some .local := by first | exact .inl rfl | exact .inr rfl | assumption) : PG3 X (.Name x p) [i] (gN3 i) :=
  ⟨fun H0 B0 H B σ s v m q Q G r ht k => ⟨_, pg_name hN hi hx hf, by
    cases m with
    | d x => exact k _ _ (G.putV r) (.set σ s i _ _) ht
    | u xs => exact ht.elim⟩⟩
abbrev TGs3 := List D → Store → (Store → Prop) → Prop
structure PGs3 (X : Cx) (ts : List Expr) (js : List Nat) (t : TGs3) : Prop where
  run : ∀ (H0 B0 H B : Hp) (σ : St) (s : Store) (vs : List V) (ds : List D) (q : Store → Prop) (Q : St → Hp → Prop), Good H0 B0 H B σ s → Reps B vs ds → t ds s q →
    (∀ σ' s', Good H0 B0 H B σ' s' → Agree js σ σ' s s' → q s' → Q σ' H) → CanGs X ts vs σ H Q
def gNil3 : TGs3 := fun ds s q => match ds with
  | [] => q s
  | _ => False
def gCons3 (t : TG3) (u : TGs3) : TGs3 := fun ds s q => match ds with
  | d :: r => t (.d d) s fun s' => u r s' q
  | [] => False
theorem gs3nil : PGs3 X [] [] gNil3 := ⟨fun H0 B0 H B σ s vs ds q Q G r ht k => ⟨_, pgs_nil, by
  cases r with
  | nil => exact ⟨rfl, k _ _ G (.refl σ s) ht⟩
  | cons _ _ => exact ht.elim⟩⟩
theorem gs3cons {t : TG3} {u : TGs3} {js ks : List Nat} (h1 : PG3 X e js t) (h2 : PGs3 X es ks u) (hs : (assignEach (e :: es) X.env).map (·.2) = assign e X.env :: (assignEach es X.env).map (·.2) := by rfl) : PGs3 X (e :: es) (js ++ ks) (gCons3 t u) :=
  ⟨fun H0 B0 H B σ s vs ds q Q G r ht k => ⟨_, pgs_cons (canG X e) (canGs X es) hs, by
    cases r with
    | nil => exact ht.elim
    | @cons v d _ _ a r => exact ⟨_, _, rfl, h1.run H0 B0 H B σ s v (.d d) _ _ G a ht fun σ' s' G' a1 q' => h2.run H0 B0 H B σ' s' _ _ _ _ G' r q' fun σ2 s2 G2 a2 q2 => k σ2 s2 G2 (a1.trans a2) q2⟩⟩⟩
def gT3 (n : Nat) (t : TGs3) : TG3 := fun m s q => match m with
  | .d (.tup ds) => ds.length = n ∧ t ds s q
  | .u ds => ds.length = n ∧ t ds s q
  | _ => False
theorem g3tup {k0 : Nat} {t : TGs3} {n : Nat} {js : List Nat} (hc : X.calm = true) (h : PGs3 X es js t) (hn : (assignEach es X.env).length = n := by rfl) (hst : (assignEach es X.env).findIdx? (·.1) = none := by rfl) : PG3 X (.Tuple es k0 pos) js (gT3 n t) :=
  ⟨fun H0 B0 H B σ s v m q Q G r ht k => ⟨_, pg_tup hc (canGs X es) hn hst, by
    cases m with
    | u ds =>
      obtain ⟨a, vs, rfl, hq, rs⟩ := r
      exact ⟨a, vs, rfl, hq, by rw [rs.length]; exact ht.1, h.run H0 B0 H B σ s _ _ _ _ G rs ht.2 k⟩
    | d x =>
      cases x with
      | tup ds =>
        cases (show Rep B v (.tup ds) from r) with
        | tup ht' rs => exact ⟨_, _, rfl, (ht'.mono G.hb).sq, by rw [rs.length]; exact ht.1, h.run H0 B0 H B σ s _ _ _ _ G rs ht.2 k⟩
      | _ => exact ht.elim⟩⟩

/-! ### comprehensions -/
abbrev W0 : WX := fun _ _ _ _ => False
structure PTs3 (X : Cx) (W : WX) (ifs : List Expr) (t : TT3) : Prop where
  run : ∀ (H0 B0 H B : Hp) (σ : St) (s : Store) (q : Bool → Prop) (x : Exn → Prop) (Q : Bool → Hp → Prop), Good H0 B0 H B σ s → t s q x →
    (∀ b H1 B1, Grow H B H1 B1 → q b → Q b H1) → ExK W H B σ x → CanTs X ifs σ H Q
def tYes3 : TT3 := fun _ q _ => q true
theorem ts3nil : PTs3 X W [] tYes3 := ⟨fun H0 B0 H B σ s q x Q G ht k kx => ⟨_, pts_nil, k true H B G.self ht⟩⟩
theorem ts3one {t : TT3} (h : PT3 X W a t) : PTs3 X W [a] t := ⟨fun H0 B0 H B σ s q x Q G ht k kx => ⟨_, pts_one (canT X a), h.run H0 B0 H B σ s q x Q G ht k kx⟩⟩
def wipe3 (s : Store) : List Nat → Store
  | [] => s
  | v :: vs => (wipe3 s vs).set v .un
theorem Good.wipe {H0 B0 H B : Hp} {σ : St} {s : Store} (G : Good H0 B0 H B σ s) : ∀ vs : List Nat, Good H0 B0 H B (L2.wipe σ vs) (wipe3 s vs)
  | [] => G
  | v :: vs => (Good.wipe G vs).put (l := .un) True.intro rfl
theorem wipe_get (σ : St) : ∀ (vs : List Nat) (j : Nat), (L2.wipe σ vs)[j]? = if j ∈ vs then (σ[j]?).map fun _ => none else σ[j]?
  | [], j => by
    rw [if_neg (by simp)]
    rfl
  | v :: vs, j => by
    unfold L2.wipe
    by_cases h : v = j
    · subst h
      rw [if_pos List.mem_cons_self, List.getElem?_set]
      simp only [if_true]
      by_cases hl : v < σ.length
      · rw [if_pos (by rw [L2.wipe_length]; exact hl), List.getElem?_eq_getElem hl]
        rfl
      · rw [if_neg (by rw [L2.wipe_length]; exact hl), List.getElem?_eq_none (by omega)]
        rfl
    · rw [List.getElem?_set_ne h, wipe_get σ vs j]
      by_cases hj : j ∈ vs
      · rw [if_pos hj, if_pos (List.mem_cons_of_mem _ hj)]
      · rw [if_neg hj, if_neg (fun z => by
          rcases List.mem_cons.mp z with z | z
          · exact h z.symm
          · exact hj z)]
theorem wipe_agree {js vs : List Nat} {σ σ' : St} {s s' : Store} (a : Agree js (L2.wipe σ vs) σ' s s') (h : ∀ j ∈ js, j ∈ vs) : L2.wipe σ' vs = L2.wipe σ vs := by
  refine List.ext_getElem? fun j => ?_
  rw [wipe_get, wipe_get]
  by_cases hj : j ∈ vs
  · rw [if_pos hj, if_pos hj]
    have hl := a.len
    rw [L2.wipe_length] at hl
    by_cases hlt : j < σ.length
    · rw [List.getElem?_eq_getElem (by omega), List.getElem?_eq_getElem hlt]
      rfl
    · rw [List.getElem?_eq_none (by omega), List.getElem?_eq_none (by omega)]
  · rw [if_neg hj, if_neg hj, a.out j fun z => hj (h j z), wipe_get, if_neg hj]
/-- [te for tg in it if tt]: P by the turn and what is made so far -/
def tLc3 (it : TI3) (g : TG3) (tt : TT3) (te : TE3) (vs : List Nat) : TL3 := fun s q x => it s (fun items => ∃ P : Nat → List D → Prop, P 0 [] ∧
  (∀ (i : Nat) m acc, items[i]? = some m → P i acc → g m (wipe3 s vs) fun s2 => tt s2 (fun b => if b = true then te s2 (fun f d => (f.isSt || d.flat) = true ∧ acc.length < sizeLine ∧ P (i + 1) (acc ++ [d])) (fun _ => False) else P (i + 1) acc) (fun _ => False)) ∧
  ∀ acc, P items.length acc → q acc) x
/-- the widest readings over all the contexts that a block may have -/
def BlkG (X : Cx) (scope : Scope) (tg : Expr) : TG := fun v σ H Q => ∀ (sh : Shared) (H' : Hp) (C : Addr) (cl : List (Str × Addr)) (fp : List Addr), CanG (X.blk sh H' scope (compEnvC scope cl C X.env) fp) tg v σ H Q
def BlkT (X : Cx) (scope : Scope) (ifs : List Expr) : TT := fun σ H Q => ∀ (sh : Shared) (H' : Hp) (C : Addr) (cl : List (Str × Addr)) (fp : List Addr), CanTs (X.blk sh H' scope (compEnvC scope cl C X.env) fp) ifs σ H Q
def BlkE (X : Cx) (scope : Scope) (elt : Expr) : TE := fun σ H Q => ∀ (sh : Shared) (H' : Hp) (C : Addr) (cl : List (Str × Addr)) (fp : List Addr), CanE (X.blk sh H' scope (compEnvC scope cl C X.env) fp) elt σ H Q
theorem blkG (X : Cx) (scope : Scope) (tg : Expr) (sh : Shared) (H' : Hp) (C : Addr) (cl : List (Str × Addr)) (fp : List Addr) : PG (X.blk sh H' scope (compEnvC scope cl C X.env) fp) tg (BlkG X scope tg) := ⟨fun pins s σ H v u Q I r h => (canG _ tg).run pins s σ H v u Q I r (h sh H' C cl fp)⟩
theorem blkT (X : Cx) (scope : Scope) (ifs : List Expr) (sh : Shared) (H' : Hp) (C : Addr) (cl : List (Str × Addr)) (fp : List Addr) : PTs (X.blk sh H' scope (compEnvC scope cl C X.env) fp) ifs (BlkT X scope ifs) := ⟨fun pins s σ H Q I h => (canTs _ ifs).run pins s σ H Q I (h sh H' C cl fp)⟩
theorem blkE (X : Cx) (scope : Scope) (elt : Expr) (sh : Shared) (H' : Hp) (C : Addr) (cl : List (Str × Addr)) (fp : List Addr) : PE (X.blk sh H' scope (compEnvC scope cl C X.env) fp) elt (BlkE X scope elt) := ⟨fun pins s σ H Q I h => (can _ elt).run pins s σ H Q I (h sh H' C cl fp)⟩
theorem lc3 {elt tg iter : Expr} {ifs : List Expr} {scope : Scope} {own : List (Str × Nat)} {it : TI3} {g : TG3} {tt : TT3} {te : TE3} {js : List Nat} (hi : PI3 X W tg iter it) (hj : ∀ j ∈ js, j ∈ own.map (·.2))
    (hg : ∀ (s : Shared) (H : Hp) (C : Addr) (cl : List (Str × Addr)) (fp : List Addr), PG3 (X.blk s H scope (compEnvC scope cl C X.env) fp) tg js g) (ht : ∀ (s : Shared) (H : Hp) (C : Addr) (cl : List (Str × Addr)) (fp : List Addr), PTs3 (X.blk s H scope (compEnvC scope cl C X.env) fp) W0 ifs tt)
    (he : ∀ (s : Shared) (H : Hp) (C : Addr) (cl : List (Str × Addr)) (fp : List Addr), PE3 (X.blk s H scope (compEnvC scope cl C X.env) fp) W0 elt te)
    {H0 B0 H B : Hp} {σ : St} {s : Store} {q : List D → Prop} {x : Exn → Prop} {Q : VK} (G : Good H0 B0 H B σ s) (h : tLc3 it g tt te (own.map (·.2)) s q x)
    (k : ∀ p H1 B1 vs ds, Grow H B H1 B1 → H p = none → H1 p = some (.lst vs) → B1 p = none → Reps B1 vs ds → q ds → Q (.ref p) H1) (kx : ExK W H B σ x) :
    tLc (CanI X tg iter) (BlkG X scope tg) (BlkT X scope ifs) (BlkE X scope elt) (own.map (·.2)) σ H Q := by
  refine hi.run H0 B0 H B σ s _ x _ G h (fun J H1 B1 items g1 wk ⟨P, p0, turn, fin⟩ D hD => ?_) kx
  have G1 := G.grow g1
  have gone : ∀ {o : HO}, Grow H1 B1 (upd H1 D o) B1 := fun {o} => .drop g1.bh hD
  refine ⟨fun i m H' => m = items.length - i ∧ i ≤ items.length ∧ ∃ B' acc vs, Grow H1 B1 H' B' ∧ B' D = none ∧ H' D = some (.lst vs) ∧ Reps B' vs acc ∧ P i acc, ⟨items.length, rfl, Nat.zero_le _, B1, [], [], gone, g1.bh.free hD, upd_same, .nil, p0⟩, ?_⟩
  rintro i m H' ⟨rfl, hi', B', acc, vs, g2, hBD, hHD, rs, pi⟩
  obtain ⟨w1, w2⟩ := wk i H' B' g2.b g2.bh
  by_cases hlt : i < items.length
  · obtain ⟨hgo, hyld⟩ := w1 items[i] (List.getElem?_eq_getElem hlt)
    refine .inr ⟨hgo, fun H2 => ∃ B2 acc2 vs2, Grow H1 B1 H2 B2 ∧ B2 D = none ∧ H2 D = some (.lst vs2) ∧ Reps B2 vs2 acc2 ∧ P (i + 1) acc2, fun H2 ⟨B2, acc2, vs2, z⟩ => ⟨items.length - (i + 1), by omega, rfl, hlt, B2, acc2, vs2, z⟩, fun y H3 hy => ?_⟩
    obtain ⟨B3, g3, ri⟩ := hyld y H3 hy
    have G3 := ((G1.grow g2).wipe (own.map (·.2))).grow g3
    intro sh Hh C cl fp
    refine (hg sh Hh C cl fp).run H0 B0 H3 B3 _ _ y items[i] _ _ G3 ri (turn i items[i] acc (List.getElem?_eq_getElem hlt) pi) fun σ' s' G4 ag tq => ⟨wipe_agree ag hj, ?_⟩
    intro sh Hh C cl fp
    refine (ht sh Hh C cl fp).run H0 B0 H3 B3 σ' s' _ _ _ G4 tq (fun b H4 B4 g4 q4 => ?_) fun _ _ _ _ _ _ _ z => z.elim
    have g24 := (g2.trans g3).trans g4
    have hD4 : H4 D = some (.lst vs) := g4.h _ _ (g3.h _ _ hHD)
    have hB4 : B4 D = none := g4.new _ _ (g3.h _ _ hHD) (g3.new _ _ hHD hBD)
    cases b with
    | false => exact iteF ⟨B4, acc, vs, g24, hB4, hD4, (rs.mono g3.b).mono g4.b, q4⟩
    | true =>
      refine iteT ?_
      intro sh Hh C cl fp
      refine (he sh Hh C cl fp).run H0 B0 H4 B4 σ' s' _ _ _ (G4.grow g4) q4 (fun v H5 B5 f d g5 r5 q5 => ?_) fun _ _ _ _ _ _ _ z => z.elim
      obtain ⟨hf, hz, hp⟩ := q5
      have rs5 := ((rs.mono g3.b).mono g4.b).mono g5.b
      refine ⟨vs, g5.h _ _ hD4, by rw [rs.length]; exact hz, B5, acc ++ [d], vs ++ [v], ?_, g5.new _ _ hD4 hB4, upd_same, rs5.app (.one (r5.stab hf)), hp⟩
      have g25 := g24.trans g5
      have hB5 : B5 D = none := g5.new _ _ hD4 hB4
      refine ⟨fun b u e => ?_, g25.b, fun b u e => ?_, g25.new⟩
      · rw [upd_ne (ne_of_none e hD)]
        exact g25.h _ _ e
      · rw [upd_ne (ne_of_none e hB5)]
        exact g25.bh _ _ e
  · have e : i = items.length := by omega
    subst e
    exact .inl ⟨w2 (Nat.le_refl _), k D H' B' vs acc (g1.trans g2) (g1.h.free hD) hHD hBD rs (fin acc pi)⟩
theorem l3lc {elt tg iter : Expr} {ifs : List Expr} {scope : Scope} {own : List (Str × Nat)} {it : TI3} {g : TG3} {tt : TT3} {te : TE3} {js : List Nat} (hc : X.calm = true) (hN : X.N.Nodup) (ok : BlkOk X.N X.env.scope scope own) (hi : PI3 X W tg iter it) (hj : ∀ j ∈ js, j ∈ own.map (·.2))
    (hg : ∀ (s : Shared) (H : Hp) (C : Addr) (cl : List (Str × Addr)) (fp : List Addr), PG3 (X.blk s H scope (compEnvC scope cl C X.env) fp) tg js g) (ht : ∀ (s : Shared) (H : Hp) (C : Addr) (cl : List (Str × Addr)) (fp : List Addr), PTs3 (X.blk s H scope (compEnvC scope cl C X.env) fp) W0 ifs tt)
    (he : ∀ (s : Shared) (H : Hp) (C : Addr) (cl : List (Str × Addr)) (fp : List Addr), PE3 (X.blk s H scope (compEnvC scope cl C X.env) fp) W0 elt te) (hs : ∀ x, foldedSetIterable iter X.env x = pure x := by intro _; rfl) :
    PL3 X W (.ListComp elt [⟨tg, iter, ifs, 0⟩] scope pos) (tLc3 it g tt te (own.map (·.2))) :=
  ⟨fun H0 B0 H B σ s q x Q G h k kx => ⟨_, pe_lc hc hN (canI X tg iter) ok (blkG X scope tg) (blkT X scope ifs) (blkE X scope elt) hs, lc3 hi hj hg ht he G h k kx⟩⟩
end
end L3

/-! L3g: statements, and the rule for a def. -/
namespace L3
open PySem PySem.Spec L2 PySem.W
open PyProof.Rows hiding St
open EncD (enc)

structure Ends3 where
  nx : Store → Prop
  rt : D → Prop
  bk : Store → Prop := fun _ => False
  ct : Store → Prop := fun _ => False
  ex : Exn → Store → Prop := fun _ _ => False
abbrev TS3 := Ends3 → Store → Prop
/-- what the plain ends mean over the heaps -/
structure Lk (W : WX) (H0 B0 B : Hp) (E : Ends3) (D : Ends) : Prop where
  nx : ∀ σ H B1 s, Good H0 B0 H B1 σ s → Same B B1 → E.nx s → D.nx σ H
  rt : ∀ v H B1 d, Grow H0 B0 H B1 → Rep B1 v d → E.rt d → D.rt v H
  bk : ∀ σ H B1 s, Good H0 B0 H B1 σ s → Same B B1 → E.bk s → D.bk σ H
  ct : ∀ σ H B1 s, Good H0 B0 H B1 σ s → Same B B1 → E.ct s → D.ct σ H
  ex : ∀ e cls dx σ H B1 s, Good H0 B0 H B1 σ s → Same B B1 → RepX H e cls dx → E.ex e s → W cls dx σ H
theorem Lk.up {W : WX} {H0 B0 B B1 : Hp} {E : Ends3} {D : Ends} (l : Lk W H0 B0 B E D) (e : Same B B1) : Lk W H0 B0 B1 E D :=
  ⟨fun σ H B2 s g e2 => l.nx σ H B2 s g (e.trans e2), l.rt, fun σ H B2 s g e2 => l.bk σ H B2 s g (e.trans e2), fun σ H B2 s g e2 => l.ct σ H B2 s g (e.trans e2), fun e' cls dx σ H B2 s g e2 => l.ex e' cls dx σ H B2 s g (e.trans e2)⟩
theorem Lk.exk {W : WX} {H0 B0 H B : Hp} {E : Ends3} {D : Ends} {σ : St} {s : Store} (l : Lk W H0 B0 B E D) (G : Good H0 B0 H B σ s) : ExK W H B σ (fun e => E.ex e s) := fun e cls dx H1 B1 g r x => l.ex e cls dx σ H1 B1 s (G.grow g) g.b r x
def CanS (X : Cx) (st : Stmt) : TS := fun D σ H => ∃ t, PS X st t ∧ t D σ H
theorem canS (X : Cx) (st : Stmt) : PS X st (CanS X st) := ⟨fun pins s σ H D I ⟨_, h, q⟩ => h.run pins s σ H D I q⟩
def CanSs (X : Cx) (st : List Stmt) : TS := fun D σ H => ∃ t, PSs X st t ∧ t D σ H
theorem canSs (X : Cx) (st : List Stmt) : PSs X st (CanSs X st) := ⟨fun pins s σ H D I ⟨_, h, q⟩ => h.run pins s σ H D I q⟩
structure PS3 (X : Cx) (W : WX) (st : Stmt) (t : TS3) : Prop where
  run : ∀ (H0 B0 H B : Hp) (σ : St) (s : Store) (E : Ends3) (D : Ends), Good H0 B0 H B σ s → t E s → Lk W H0 B0 B E D → CanS X st D σ H
structure PSs3 (X : Cx) (W : WX) (st : List Stmt) (t : TS3) : Prop where
  run : ∀ (H0 B0 H B : Hp) (σ : St) (s : Store) (E : Ends3) (D : Ends), Good H0 B0 H B σ s → t E s → Lk W H0 B0 B E D → CanSs X st D σ H

section
variable {X : Cx} {W : WX} {st : Stmt} {rest : List Stmt} {t u : TS3} {a b c e o : Expr} {es : List Expr} {ta tb tc te : TE3} {pos : Pos}

/-! ### blocks -/
def tSeq3 (t u : TS3) : TS3 := fun E s => t { E with nx := u E } s
def tNx3 : TS3 := fun E s => E.nx s
theorem ss3nil : PSs3 X W [] tNx3 := ⟨fun H0 B0 H B σ s E D G h l => ⟨_, pss_nil, l.nx σ H B s G (.refl _) h⟩⟩
theorem ss3cons (h1 : PS3 X W st t) (h2 : PSs3 X W rest u) : PSs3 X W (st :: rest) (tSeq3 t u) :=
  ⟨fun H0 B0 H B σ s E D G h l => ⟨_, pss_cons (canS X st) (canSs X rest), h1.run H0 B0 H B σ s { E with nx := u E } { D with nx := CanSs X rest D } G h
    ⟨fun σ1 H1 B1 s1 G1 e1 q => h2.run H0 B0 H1 B1 σ1 s1 E D G1 q (l.up e1), l.rt, l.bk, l.ct, l.ex⟩⟩⟩
theorem ss3one (h1 : PS3 X W st t) : PSs3 X W [st] t := ⟨fun H0 B0 H B σ s E D G h l => ⟨_, pss_one (canS X st), h1.run H0 B0 H B σ s E D G h l⟩⟩
/-- a list or dict of its own becomes a value, for good -/
def frzS (s : Store) (i : Nat) : Store := match s[i]? with
  | some (.ow ds) => s.set i (.va (.lst ds))
  | some (.oT kvs) => s.set i (.va (.dT kvs))
  | some (.oK kvs) => s.set i (.va (.dK kvs))
  | _ => s
def tFrz (i : Nat) (t : TS3) : TS3 := fun E s => t E (frzS s i)
theorem Good.frz {H0 B0 H B : Hp} {σ : St} {s : Store} (G : Good H0 B0 H B σ s) (i : Nat) : ∃ B1, Same B B1 ∧ Good H0 B0 H B1 σ (frzS s i) := by
  unfold frzS
  split
  · rename_i ds e
    obtain ⟨x, e1, a, vs, rfl, z, n, h, r⟩ := G.slot e
    exact ⟨_, same_upd n, G.freeze e rfl e1 h (.lst upd_same (r.mono (same_upd n)))⟩
  · rename_i ds e
    obtain ⟨x, e1, a, vs, rfl, z, n, h, r⟩ := G.slot e
    exact ⟨_, same_upd n, G.freeze e rfl e1 h (.dT upd_same (r.mono (same_upd n)))⟩
  · rename_i ds e
    obtain ⟨x, e1, a, vs, rfl, z, n, h, r⟩ := G.slot e
    exact ⟨_, same_upd n, G.freeze e rfl e1 h (.dK upd_same (r.mono (same_upd n)))⟩
  · exact ⟨B, .refl _, G⟩
theorem ss3frz (i : Nat) (h : PSs3 X W rest t) : PSs3 X W rest (tFrz i t) :=
  ⟨fun H0 B0 H B σ s E D G ht l => by
    obtain ⟨B1, e, G1⟩ := G.frz i
    exact h.run H0 B0 H B1 σ _ E D G1 ht (l.up e)⟩

/-! ### small statements -/
theorem s3pass : PS3 X W (.Pass pos) tNx3 := ⟨fun H0 B0 H B σ s E D G h l => ⟨_, ps_pass, l.nx σ H B s G (.refl _) h⟩⟩
theorem s3doc {x j p} : PS3 X W (.Expr (.Constant (.str x) j pos) p) tNx3 := ⟨fun H0 B0 H B σ s E D G h l => ⟨_, ps_doc, l.nx σ H B s G (.refl _) h⟩⟩
def tBk3 : TS3 := fun E s => E.bk s
def tCt3 : TS3 := fun E s => E.ct s
theorem s3break : PS3 X W (.Break pos) tBk3 := ⟨fun H0 B0 H B σ s E D G h l => ⟨_, ps_break, l.bk σ H B s G (.refl _) h⟩⟩
theorem s3cont : PS3 X W (.Continue pos) tCt3 := ⟨fun H0 B0 H B σ s E D G h l => ⟨_, ps_continue, l.ct σ H B s G (.refl _) h⟩⟩
def tExpr3 (te : TE3) : TS3 := fun E s => te s (fun _ _ => E.nx s) (fun e => E.ex e s)
theorem s3expr (he : PE3 X W e te) (hs : swapsWith e none pos.line X.env = pure false := by rfl) : PS3 X W (.Expr e pos) (tExpr3 te) :=
  ⟨fun H0 B0 H B σ s E D G h l => ⟨_, ps_expr (can X e) hs, he.run H0 B0 H B σ s _ _ _ G h (fun v H1 B1 f d g r q => l.nx σ H1 B1 s (G.grow g) g.b q) (l.exk G)⟩⟩
/-- return: anything that is not merely borrowed -/
def tRet3 (te : TE3) : TS3 := fun E s => te s (fun f d => cond (f.nb || d.flat) (E.rt d) False) (fun e => E.ex e s)
theorem s3ret (he : PE3 X W e te) : PS3 X W (.Return (some e) pos) (tRet3 te) :=
  ⟨fun H0 B0 H B σ s E D G h l => ⟨_, ps_ret (can X e), he.run H0 B0 H B σ s _ _ _ G h (fun v H1 B1 f d g r q => by
    cases hn : f.nb with
    | true =>
      rw [hn] at q
      obtain ⟨B2, g2, r2⟩ := r.up (G.g.trans g) (Fl.nb_ne hn)
      exact l.rt v H1 B2 d g2 r2 q
    | false =>
      cases hf : d.flat with
      | true =>
        rw [hn, hf] at q
        exact l.rt v H1 B1 d (G.g.trans g) (r.1.any hf) q
      | false =>
        rw [hn, hf] at q
        exact q.elim) (l.exk G)⟩⟩
def tRetN3 : TS3 := fun E _ => E.rt .non
theorem s3retN : PS3 X W (.Return none pos) tRetN3 := ⟨fun H0 B0 H B σ s E D G h l => ⟨_, ps_retN, l.rt .non H B .non G.g .non h⟩⟩
def tIf3 (c : TT3) (t u : TS3) : TS3 := fun E s => c s (fun b => if b = true then t E s else u E s) (fun e => E.ex e s)
theorem s3if {as bs : List Stmt} {tt : TT3} (hc : PT3 X W c tt) (h1 : PSs3 X W as t) (h2 : PSs3 X W bs u) : PS3 X W (.If c as bs pos) (tIf3 tt t u) :=
  ⟨fun H0 B0 H B σ s E D G h l => ⟨_, ps_if (canT X c) (canSs X as) (canSs X bs), hc.run H0 B0 H B σ s _ _ _ G h (fun k H1 B1 g q => by
    cases k with
    | true => exact iteT (h1.run H0 B0 H1 B1 σ s E D (G.grow g) q (l.up g.b))
    | false => exact iteF (h2.run H0 B0 H1 B1 σ s E D (G.grow g) q (l.up g.b))) (l.exk G)⟩⟩

/-! ### assignments -/
/-- x = e, a value -/
def tSet3 (te : TE3) (i : Nat) : TS3 := fun E s => te s (fun f d => cond (f.isSt || d.flat) (E.nx (s.set i (.va d))) False) (fun e => E.ex e s)
theorem set_fin {H0 B0 H B : Hp} {σ : St} {s : Store} {E : Ends3} {D : Ends} {i : Nat} {v : V} {f : Fl} {d : L3.D} (l : Lk W H0 B0 B E D) (G : Good H0 B0 H B σ s) (r : RepF H0 H B f v d) (q : cond (f.isSt || d.flat) (E.nx (s.set i (.va d))) False) : D.nx (σ.set i (some v)) H := by
  cases hf : (f.isSt || d.flat) with
  | false => rw [hf] at q; exact q.elim
  | true =>
    rw [hf] at q
    exact l.nx _ _ _ _ (G.putV (r.stab hf)) (.refl _) q
theorem s3set {i : Nat} {x : Str} {p : Pos} (hN : X.N.Nodup) (hi : X.N[i]? = some x) (hx : Loc X.env.scope x) (he : PE3 X W e te) (hs : swapsWith e (some (.Name x p)) pos.line X.env = pure false := by rfl) (hf : X.fn x = true ∨ X.env.scope.names.lookup x = some .local := by first | exact .inl rfl | exact .inr rfl | assumption) :
    PS3 X W (.Assign [.Name x p] e pos) (tSet3 te i) :=
  ⟨fun H0 B0 H B σ s E D G h l => ⟨_, ps_set hN hi hx (can X e) hs hf, he.run H0 B0 H B σ s _ _ _ G h (fun v H1 B1 f d g r q => set_fin (l.up g.b) (G.grow g) r q) (l.exk G)⟩⟩
/-- x = a new list, that x owns -/
def tOwn3 (te : TL3) (i : Nat) : TS3 := fun E s => te s (fun ds => E.nx (s.set i (.ow ds))) (fun e => E.ex e s)
theorem own_fin {H0 B0 H B H1 B1 : Hp} {σ : St} {s : Store} {E : Ends3} {D : Ends} {i : Nat} {p : Addr} {vs : List V} {ds : List L3.D} (l : Lk W H0 B0 B E D) (G : Good H0 B0 H B σ s) (g : Grow H B H1 B1) (hp : H p = none) (h1 : H1 p = some (.lst vs)) (hb : B1 p = none) (r : Reps B1 vs ds) (q : E.nx (s.set i (.ow ds))) :
    D.nx (σ.set i (some (.ref p))) H1 :=
  l.nx _ H1 B1 _ ((G.grow g).putO (l := .ow ds) ⟨p, vs, rfl, G.g.h.free hp, hb, h1, r⟩ fun j lj _ e o => G.fresh hp j lj e o) g.b q
theorem s3own {i : Nat} {x : Str} {p : Pos} {tl : TL3} (hN : X.N.Nodup) (hi : X.N[i]? = some x) (hx : Loc X.env.scope x) (he : PL3 X W e tl) (hs : swapsWith e (some (.Name x p)) pos.line X.env = pure false := by rfl) (hf : X.fn x = true ∨ X.env.scope.names.lookup x = some .local := by first | exact .inl rfl | exact .inr rfl | assumption) :
    PS3 X W (.Assign [.Name x p] e pos) (tOwn3 tl i) :=
  ⟨fun H0 B0 H B σ s E D G h l => ⟨_, ps_set hN hi hx (can X e) hs hf, he.run H0 B0 H B σ s _ _ _ G h (fun p' H1 B1 vs ds g hp h1 hb r q => own_fin l G g hp h1 hb r q) (l.exk G)⟩⟩
/-- x = [.. for ..] on one line: a value, or a list of its own -/
theorem s3setLc {i : Nat} {y : Str} {py : Pos} {elt tg iter : Expr} {ifs : List Expr} {scope : Scope} {own : List (Str × Nat)} {it : TI3} {g : TG3} {tt : TT3} {te : TE3} {js : List Nat} {p2 spos : Pos} (hc : X.calm = true) (hN : X.N.Nodup) (hy : X.N[i]? = some y) (hyl : X.env.scope.names.lookup y = some .local)
    (hsw : swapsWith (.ListComp elt [⟨tg, iter, ifs, 0⟩] scope p2) (some (.Name y py)) spos.line X.env = pure true) (ok : BlkOk X.N X.env.scope scope own) (hi : PI3 X W tg iter it) (hj : ∀ j ∈ js, j ∈ own.map (·.2))
    (hg : ∀ (s : Shared) (H : Hp) (C : Addr) (cl : List (Str × Addr)) (fp : List Addr), PG3 (X.blk s H scope (compEnvC scope cl C X.env) fp) tg js g) (ht : ∀ (s : Shared) (H : Hp) (C : Addr) (cl : List (Str × Addr)) (fp : List Addr), PTs3 (X.blk s H scope (compEnvC scope cl C X.env) fp) W0 ifs tt)
    (he : ∀ (s : Shared) (H : Hp) (C : Addr) (cl : List (Str × Addr)) (fp : List Addr), PE3 (X.blk s H scope (compEnvC scope cl C X.env) fp) W0 elt te) (hs : ∀ x, foldedSetIterable iter X.env x = pure x := by intro _; rfl) :
    PS3 X W (.Assign [.Name y py] (.ListComp elt [⟨tg, iter, ifs, 0⟩] scope p2) spos) (tSet3 (tOfL (tLc3 it g tt te (own.map (·.2)))) i) :=
  ⟨fun H0 B0 H B σ s E D G h l => ⟨_, ps_setLc hc hN hy hyl hsw (canI X tg iter) ok (blkG X scope tg) (blkT X scope ifs) (blkE X scope elt) hs, lc3 hi hj hg ht he G h (fun p H1 B1 vs ds g hp h1 hb r q => by
    have g2 := g.up hp h1
    exact l.nx _ H1 _ _ ((G.grow g2).putV (.lst upd_same (r.mono (same_upd hb)))) g2.b q) (l.exk G)⟩⟩
theorem s3ownLc {i : Nat} {y : Str} {py : Pos} {elt tg iter : Expr} {ifs : List Expr} {scope : Scope} {own : List (Str × Nat)} {it : TI3} {g : TG3} {tt : TT3} {te : TE3} {js : List Nat} {p2 spos : Pos} (hc : X.calm = true) (hN : X.N.Nodup) (hy : X.N[i]? = some y) (hyl : X.env.scope.names.lookup y = some .local)
    (hsw : swapsWith (.ListComp elt [⟨tg, iter, ifs, 0⟩] scope p2) (some (.Name y py)) spos.line X.env = pure true) (ok : BlkOk X.N X.env.scope scope own) (hi : PI3 X W tg iter it) (hj : ∀ j ∈ js, j ∈ own.map (·.2))
    (hg : ∀ (s : Shared) (H : Hp) (C : Addr) (cl : List (Str × Addr)) (fp : List Addr), PG3 (X.blk s H scope (compEnvC scope cl C X.env) fp) tg js g) (ht : ∀ (s : Shared) (H : Hp) (C : Addr) (cl : List (Str × Addr)) (fp : List Addr), PTs3 (X.blk s H scope (compEnvC scope cl C X.env) fp) W0 ifs tt)
    (he : ∀ (s : Shared) (H : Hp) (C : Addr) (cl : List (Str × Addr)) (fp : List Addr), PE3 (X.blk s H scope (compEnvC scope cl C X.env) fp) W0 elt te) (hs : ∀ x, foldedSetIterable iter X.env x = pure x := by intro _; rfl) :
    PS3 X W (.Assign [.Name y py] (.ListComp elt [⟨tg, iter, ifs, 0⟩] scope p2) spos) (tOwn3 (tLc3 it g tt te (own.map (·.2))) i) :=
  ⟨fun H0 B0 H B σ s E D G h l => ⟨_, ps_setLc hc hN hy hyl hsw (canI X tg iter) ok (blkG X scope tg) (blkT X scope ifs) (blkE X scope elt) hs, lc3 hi hj hg ht he G h (fun p H1 B1 vs ds g hp h1 hb r q => own_fin l G g hp h1 hb r q) (l.exk G)⟩⟩
/-- a, b = e -/
def tAsg3 (te : TE3) (g : TG3) : TS3 := fun E s => te s (fun f d => cond (f.isSt || d.flat) (g (.d d) s E.nx) False) (fun e => E.ex e s)
theorem s3asg {tg : Expr} {g : TG3} {js : List Nat} (he : PE3 X W e te) (hg : PG3 X tg js g) (hs : swapsWithSole [tg] e pos.line X.env = pure false := by rfl) (hw : swappedStores [tg] e X.env = pure none := by rfl) (h1 : (assignEach [tg] X.env).map (·.2) = [assign tg X.env] := by rfl) : PS3 X W (.Assign [tg] e pos) (tAsg3 te g) :=
  ⟨fun H0 B0 H B σ s E D G h l => ⟨_, ps_asg (can X e) (canG X tg) hs hw h1, he.run H0 B0 H B σ s _ _ _ G h (fun v H1 B1 f d gr r q => by
    cases hf : (f.isSt || d.flat) with
    | false => rw [hf] at q; exact q.elim
    | true =>
      rw [hf] at q
      exact hg.run H0 B0 H1 B1 σ s v (.d d) _ _ (G.grow gr) (r.stab hf) q fun σ' s' G' _ q' => l.nx σ' H1 B1 s' G' gr.b q') (l.exk G)⟩⟩
/-- x = {}, a dict of its own -/
def tDicT (i : Nat) : TS3 := fun E s => E.nx (s.set i (.oT []))
def tDicK (i : Nat) : TS3 := fun E s => E.nx (s.set i (.oK []))
theorem s3dicT {i : Nat} {x : Str} {p p2 : Pos} (hN : X.N.Nodup) (hi : X.N[i]? = some x) (hx : Loc X.env.scope x) (hs : swapsWith (.Dict [] [] p2) (some (.Name x p)) pos.line X.env = pure false := by rfl) (hf : X.fn x = true ∨ X.env.scope.names.lookup x = some .local := by first | exact .inl rfl | exact .inr rfl | assumption) :
    PS3 X W (.Assign [.Name x p] (.Dict [] [] p2) pos) (tDicT i) :=
  ⟨fun H0 B0 H B σ s E D G h l => ⟨_, ps_set hN hi hx pe_dnewF hs hf, fun q hq =>
    l.nx _ _ B _ ((G.grow (.drop G.hb hq)).putO (l := .oT []) ⟨q, _, rfl, G.g.h.free hq, G.hb.free hq, upd_same, .nil⟩ fun j lj _ e o => G.fresh hq j lj e o) (.refl _) h⟩⟩
theorem s3dicK {i : Nat} {x : Str} {p p2 : Pos} (hN : X.N.Nodup) (hi : X.N[i]? = some x) (hx : Loc X.env.scope x) (hs : swapsWith (.Dict [] [] p2) (some (.Name x p)) pos.line X.env = pure false := by rfl) (hf : X.fn x = true ∨ X.env.scope.names.lookup x = some .local := by first | exact .inl rfl | exact .inr rfl | assumption) :
    PS3 X W (.Assign [.Name x p] (.Dict [] [] p2) pos) (tDicK i) :=
  ⟨fun H0 B0 H B σ s E D G h l => ⟨_, ps_set hN hi hx pe_dnewK hs hf, fun q hq =>
    l.nx _ _ B _ ((G.grow (.drop G.hb hq)).putO (l := .oK []) ⟨q, _, rfl, G.g.h.free hq, G.hb.free hq, upd_same, .nil⟩ fun j lj _ e o => G.fresh hq j lj e o) (.refl _) h⟩⟩
/-- the widest store at a subscript -/
def CanP (X : Cx) : TSet := fun o i v H Q => ∃ t, PSet X t ∧ t o i v H Q
theorem canP (X : Cx) : PSet X (CanP X) := fun pins s σ H o i v ov iv u Q I r1 r2 r3 ⟨_, h, q⟩ => h pins s σ H o i v ov iv u Q I r1 r2 r3 q
theorem set_dK (hu : X.A.units + 1 < cLine) : PSet X (fun o i v H Q => ∃ a k kvs, o = .ref a ∧ i = kV k ∧ H a = some (.dK kvs) ∧ kvs.length < sizeLine ∧ Q (upd H a (.dK (putK kvs k v)))) := by
  intro pins s σ H o i v ov iv u Q I ro ri rv ⟨a, k, kvs, e1, e2, ha, hl, q⟩
  subst e1 e2
  cases ro
  exact d_setItem hu I (.k ha hl) ri rv fun s' I' => ⟨_, I', q⟩
/-- x[i] = e, x owning its list or dict -/
def tPut3 (te ti : TE3) (i : Nat) : TS3 := fun E s => te s (fun f d => cond (f.isSt || d.flat) (match s[i]? with
  | some (.ow ds) => ti s (fun _ k => match k with
    | .int n => ∃ j, ixN ds.length n = some j ∧ E.nx (s.set i (.ow (ds.set j d)))
    | _ => False) (fun e => E.ex e s)
  | some (.oT kvs) => ti s (fun f2 k => match k with
    | .tup ks => cond f2.isSt (∃ ns : List Int, ks = ns.map D.int ∧ kvs.length < sizeLine ∧ E.nx (s.set i (.oT (puK kvs ns d)))) False
    | _ => False) (fun e => E.ex e s)
  | some (.oK kvs) => ti s (fun _ k => ∃ n, keyOf k = some n ∧ kvs.length < sizeLine ∧ E.nx (s.set i (.oK (puK kvs n d)))) (fun e => E.ex e s)
  | _ => False) False) (fun e => E.ex e s)
theorem s3put {i : Nat} {x : Str} {p p2 : Pos} {ti : TE3} (hu : deep X) (he : PE3 X W e te) (hi : PE3 X W a ti) (hN : X.N[i]? = some x := by rfl) (hv : Vis X.env.scope x := by first | exact Or.inl rfl | exact Or.inr (Or.inl rfl) | exact Or.inr (Or.inr rfl)) (hd : (x == ("__debug__" : Str)) = false := by decide) (hcd : (x == ("__classdict__" : Str)) = false := by decide)
    (hsub : ∀ v, assign (.Subscript (.Name x p) a p2) X.env v = (do
      let ov ← holding [v] (eval (.Name x p) X.env)
      let iv ← holding [v, ov] (eval a X.env)
      standAt p2
      holding [v, ov, iv] (setItem ov iv v)
      release [v, ov, iv] []) := by intro _; rfl)
    (hs : swapsWithSole [.Subscript (.Name x p) a p2] e pos.line X.env = pure false := by rfl) (hw : swappedStores [.Subscript (.Name x p) a p2] e X.env = pure none := by rfl) (h1 : (assignEach [.Subscript (.Name x p) a p2] X.env).map (·.2) = [assign (.Subscript (.Name x p) a p2) X.env] := by rfl) :
    PS3 X W (.Assign [.Subscript (.Name x p) a p2] e pos) (tPut3 te ti i) := by
  refine ⟨fun H0 B0 H B σ s E F G h l => ⟨_, ps_asg (can X e) (pg_sub (pe_var hN hv hd hcd) (can X a) (canP X) hsub) hs hw h1, he.run H0 B0 H B σ s _ _ _ G h (fun v H1 B1 f d g1 r1 q1 => ?_) (l.exk G)⟩⟩
  have hu' := hu
  unfold deep at hu'
  have G1 := G.grow g1
  show ∃ w, σ[i]? = some (some w) ∧ CanE X a σ H1 (fun u H2 => CanP X w u v H2 fun H3 => F.nx σ H3)
  have xk : ExK W H1 B1 σ (fun e => E.ex e s) := (l.exk G).grow g1
  cases hf : (f.isSt || d.flat) with
  | false => rw [hf] at q1; exact q1.elim
  | true =>
    rw [hf] at q1
    cases hsi : s[i]? with
    | none => rw [hsi] at q1; exact q1.elim
    | some sl =>
      rw [hsi] at q1
      cases sl with
      | ow ds =>
        obtain ⟨x1, e1, p1, vs, rfl, z, n, hl, rl⟩ := G1.slot hsi
        refine ⟨_, e1, hi.run H0 B0 H1 B1 σ s _ _ _ G1 q1 (fun u H2 B2 f2 k g2 r2 q2 => ?_) xk⟩
        cases k with
        | int m =>
          obtain ⟨j, hj, q3⟩ := q2
          cases r2.1
          exact ⟨_, set_list, p1, vs, m, j, rfl, rfl, g2.h _ _ hl, by rw [rl.length]; exact hj,
            l.nx σ _ B2 _ ((G1.grow g2).change hsi rfl e1 (l := .ow (ds.set j d)) ⟨p1, _, rfl, z, g2.new _ _ hl n, upd_same, (rl.mono g2.b).set ((r1.stab hf).mono g2.b) j⟩ rfl) (g1.b.trans g2.b) q3⟩
        | _ => exact q2.elim
      | oT kvs =>
        obtain ⟨x1, e1, p1, ws, rfl, z, n, hl, rl⟩ := G1.slot hsi
        refine ⟨_, e1, hi.run H0 B0 H1 B1 σ s _ _ _ G1 q1 (fun u H2 B2 f2 k g2 r2 q2 => ?_) xk⟩
        cases k with
        | tup ks =>
          cases hf2 : f2.isSt with
          | false =>
            have q2' : cond f2.isSt _ False := q2
            rw [hf2] at q2'
            exact q2'.elim
          | true =>
            have q2' : cond f2.isSt (∃ ns : List Int, ks = ns.map D.int ∧ kvs.length < sizeLine ∧ E.nx (s.set i (.oT (puK kvs ns d)))) False := q2
            rw [hf2] at q2'
            obtain ⟨ns, rfl, hz, q3⟩ := q2'
            cases Fl.st_of hf2
            cases r2.2 with
            | tup ht rt =>
              have ek := rt.ints
              subst ek
              have rl2 := (rl.mono g2.b).put ns ht ((r1.stab hf).mono g2.b)
              exact ⟨_, set_t (by omega), p1, _, ws, ns, rfl, rfl, g2.h _ _ hl, (rl.mono (g2.b.trans g2.bh)).keys, ht.mono g2.bh, by rw [rl.length]; exact hz,
                l.nx σ _ B2 _ ((G1.grow g2).change hsi rfl e1 (l := .oT (puK kvs ns d)) ⟨p1, _, rfl, z, g2.new _ _ hl n, upd_same, rl2⟩ rfl) (g1.b.trans g2.b) q3⟩
        | _ => exact q2.elim
      | oK kvs =>
        obtain ⟨x1, e1, p1, ws, rfl, z, n, hl, rl⟩ := G1.slot hsi
        refine ⟨_, e1, hi.run H0 B0 H1 B1 σ s _ _ _ G1 q1 (fun u H2 B2 f2 k g2 r2 q2 => ?_) xk⟩
        obtain ⟨m, hm, hz, q3⟩ := q2
        have ek := keyOf_rep r2.1 hm
        subst ek
        have rl2 := (rl.mono g2.b).put m ((r1.stab hf).mono g2.b)
        exact ⟨_, set_dK (by omega), p1, m, ws, rfl, rfl, g2.h _ _ hl, by rw [rl.length]; exact hz,
          l.nx σ _ B2 _ ((G1.grow g2).change hsi rfl e1 (l := .oK (puK kvs m d)) ⟨p1, _, rfl, z, g2.new _ _ hl n, upd_same, rl2⟩ rfl) (g1.b.trans g2.b) q3⟩
      | _ => exact q1.elim
/-- x.append(e), x owning its list -/
def tApp3 (te : TE3) (i : Nat) : TS3 := fun E s => match s[i]? with
  | some (.ow ds) => te s (fun f d => cond (f.isSt || d.flat) (ds.length < sizeLine ∧ E.nx (s.set i (.ow (ds ++ [d])))) False) (fun e => E.ex e s)
  | _ => False
theorem s3app {i : Nat} {x : Str} {p apos cpos : Pos} (he : PE3 X W e te) (hN : X.N[i]? = some x := by rfl) (hv : Vis X.env.scope x := by first | exact Or.inl rfl | exact Or.inr (Or.inl rfl) | exact Or.inr (Or.inr rfl)) (hd : (x == ("__debug__" : Str)) = false := by decide) (hcd : (x == ("__classdict__" : Str)) = false := by decide)
    (hbase : attributeBase (.Name x p) "append" X.env (eval (.Name x p) X.env) = eval (.Name x p) X.env := by rfl)
    (hfew : ((backTo cpos (starEach [e] X.env)).all (fun x => !x.1) && (backToKw cpos (keywordEach [] X.env)).all (fun x => x.1.isSome) && decide (([e] : List Expr).length + ([] : List Keyword).length + (if ([] : List Keyword).isEmpty then 0 else 1) < 30)) = true := by rfl)
    (hline : (apos.endLine == cpos.line) = true := by rfl) (hs : starEach [e] X.env = (false, eval e X.env) :: starEach [] X.env := by rfl) (hplain : (backTo cpos (starEach [] X.env)).any (·.1) = false := by rfl)
    (hsw : swapsWith (.Call (.Attribute (.Name x p) "append" apos) [e] [] cpos) none pos.line X.env = pure false := by rfl) :
    PS3 X W (.Expr (.Call (.Attribute (.Name x p) "append" apos) [e] [] cpos) pos) (tApp3 te i) := by
  refine ⟨fun H0 B0 H B σ s E F G h l => ⟨_, ps_expr (pe_bm PySem.F.plainAttrs_list PySem.F.slot_list_append PySem.F.type_list_append mt_append (pe_var hN hv hd hcd) (pa_cons (can X e) pa_nil hs) hbase hfew hline hs hplain) hsw, ?_⟩⟩
  unfold tApp3 at h
  split at h
  · rename_i ds hsi
    obtain ⟨x1, e1, p1, vs, rfl, z, n, hl, rl⟩ := G.slot hsi
    refine ⟨_, e1, .inl ⟨rfl, _, SqL.of hl⟩, he.run H0 B0 H B σ s _ _ _ G h (fun v H1 B1 f d g1 r1 q1 => ?_) (l.exk G)⟩
    cases hf : (f.isSt || d.flat) with
    | false => rw [hf] at q1; exact q1.elim
    | true =>
      rw [hf] at q1
      refine ⟨p1, vs, v, rfl, rfl, g1.h _ _ hl, by rw [rl.length]; exact q1.1, ?_⟩
      exact l.nx σ _ B1 _ ((G.grow g1).change hsi rfl e1 (l := .ow (ds ++ [d])) ⟨p1, _, rfl, z, g1.new _ _ hl n, upd_same, (rl.mono g1.b).app (.one (r1.stab hf))⟩ rfl) g1.b q1.2
  · exact h.elim

/-! ### loops -/
def tFor3 (it : TI3) (g : TG3) (tb : TS3) : TS3 := fun E s => it s (fun items => ∃ P : Nat → Store → Prop, P 0 s ∧
  (∀ (i : Nat) m s', items[i]? = some m → P i s' → g m s' fun s2 => tb { E with nx := P (i + 1), ct := P (i + 1), bk := E.nx } s2) ∧ ∀ s', P items.length s' → E.nx s') (fun e => E.ex e s)
theorem s3for {tg iter : Expr} {body : List Stmt} {it : TI3} {g : TG3} {tb : TS3} {js : List Nat} (hp : PassesOwn (model X.prog X.w) X.A X.env X.xe) (hc : X.calm = true) (hi : PI3 X W tg iter it) (hg : PG3 X tg js g) (hb : PSs3 X W body tb) (hs : ∀ x, foldedSetIterable iter X.env x = pure x := by intro _; rfl) :
    PS3 X W (.For tg iter body [] pos) (tFor3 it g tb) := by
  refine ⟨fun H0 B0 H B σ s E F G h l => ⟨_, ps_for hp hc (canI X tg iter) (canG X tg) (canSs X body) hs, hi.run H0 B0 H B σ s _ _ _ G h (fun J H1 B1 items g1 wk ⟨P, p0, turn, fin⟩ => ?_) (l.exk G)⟩⟩
  refine ⟨fun i m σ' H' => m = items.length - i ∧ i ≤ items.length ∧ ∃ B' s', Good H0 B0 H' B' σ' s' ∧ Same B1 B' ∧ P i s', ⟨items.length, rfl, Nat.zero_le _, B1, s, G.grow g1, .refl _, p0⟩, ?_⟩
  rintro i m σ' H' ⟨rfl, hi', B', s', G', e', pi⟩
  obtain ⟨w1, w2⟩ := wk i H' B' e' G'.hb
  by_cases hlt : i < items.length
  · obtain ⟨hgo, hyld⟩ := w1 items[i] (List.getElem?_eq_getElem hlt)
    refine .inr ⟨hgo, fun σ2 H2 => ∃ B2 s2, Good H0 B0 H2 B2 σ2 s2 ∧ Same B1 B2 ∧ P (i + 1) s2, fun σ2 H2 ⟨B2, s2, z⟩ => ⟨items.length - (i + 1), by omega, rfl, hlt, B2, s2, z⟩, fun y H3 hy => ?_⟩
    obtain ⟨B3, g3, ri⟩ := hyld y H3 hy
    refine hg.run H0 B0 H3 B3 σ' s' y items[i] _ _ (G'.grow g3) ri (turn i items[i] s' (List.getElem?_eq_getElem hlt) pi) fun σ4 s4 G4 _ q4 => ?_
    have e3 := e'.trans g3.b
    exact hb.run H0 B0 H3 B3 σ4 s4 _ _ G4 q4 ⟨fun σ5 H5 B5 s5 G5 e5 q5 => ⟨B5, s5, G5, e3.trans e5, q5⟩, l.rt, fun σ5 H5 B5 s5 G5 e5 q5 => l.nx σ5 H5 B5 s5 G5 ((g1.b.trans e3).trans e5) q5,
      fun σ5 H5 B5 s5 G5 e5 q5 => ⟨B5, s5, G5, e3.trans e5, q5⟩, fun e cls dx σ5 H5 B5 s5 G5 e5 => l.ex e cls dx σ5 H5 B5 s5 G5 ((g1.b.trans e3).trans e5)⟩
  · have e : i = items.length := by omega
    subst e
    exact .inl ⟨w2 (Nat.le_refl _), l.nx σ' H' B' s' G' (g1.b.trans e') (fin s' pi)⟩
def tWhile3 (tt : TT3) (tb : TS3) : TS3 := fun E s => ∃ (P : Store → Prop) (μ : Store → Nat), P s ∧ ∀ s', P s' → tt s' (fun b => if b = true then tb { E with nx := fun s2 => P s2 ∧ μ s2 < μ s', ct := fun s2 => P s2 ∧ μ s2 < μ s', bk := E.nx } s' else E.nx s') (fun e => E.ex e s')
theorem s3while {body : List Stmt} {tt : TT3} {tb : TS3} (hp : PassesOwn (model X.prog X.w) X.A X.env X.xe) (hc : PT3 X W c tt) (hb : PSs3 X W body tb) : PS3 X W (.While c body [] pos) (tWhile3 tt tb) := by
  refine ⟨fun H0 B0 H B σ s E F G ⟨P, μ, p0, turn⟩ l => ⟨_, ps_while hp (canT X c) (canSs X body), ?_⟩⟩
  refine ⟨fun m σ' H' => ∃ B' s', Good H0 B0 H' B' σ' s' ∧ Same B B' ∧ P s' ∧ m = μ s', ⟨_, B, s, G, .refl _, p0, rfl⟩, ?_⟩
  rintro m σ' H' ⟨B', s', G', e', ps, rfl⟩
  refine hc.run H0 B0 H' B' σ' s' _ _ _ G' (turn s' ps) (fun b H1 B1 g1 q1 => ?_) fun e cls dx H1 B1 g r x => l.ex e cls dx σ' H1 B1 s' (G'.grow g) (e'.trans g.b) r x
  cases b with
  | true =>
    refine iteT ⟨fun σ2 H2 => ∃ B2 s2, Good H0 B0 H2 B2 σ2 s2 ∧ Same B B2 ∧ P s2 ∧ μ s2 < μ s', fun σ2 H2 ⟨B2, s2, G2, e2, p2, m2⟩ => ⟨_, m2, B2, s2, G2, e2, p2, rfl⟩, ?_⟩
    have e1 := e'.trans g1.b
    exact hb.run H0 B0 H1 B1 σ' s' _ _ (G'.grow g1) q1 ⟨fun σ5 H5 B5 s5 G5 e5 q5 => ⟨B5, s5, G5, e1.trans e5, q5⟩, l.rt, fun σ5 H5 B5 s5 G5 e5 q5 => l.nx σ5 H5 B5 s5 G5 (e1.trans e5) q5,
      fun σ5 H5 B5 s5 G5 e5 q5 => ⟨B5, s5, G5, e1.trans e5, q5⟩, fun e cls dx σ5 H5 B5 s5 G5 e5 => l.ex e cls dx σ5 H5 B5 s5 G5 (e1.trans e5)⟩
  | false => exact iteF (l.nx σ' H1 B1 s' (G'.grow g1) (e'.trans g1.b) q1)
end

/-! ### a def -/
def start3 (N : List Str) (ds : List D) : Store := ds.map .va ++ List.replicate (N.length - ds.length) .un
theorem start_good {H B : Hp} {N : List Str} {vs : List V} {ds : List D} (e : Same B H) (r : Reps B vs ds) : Good H B H B (L2.start N vs) (start3 N ds) := by
  have hl := r.length
  refine ⟨?_, .refl e, fun i x l e1 e2 => ?_, fun i j li lj a e1 e2 o1 o2 f1 f2 => ?_⟩
  · unfold L2.start start3
    rw [List.length_append, List.length_append, List.length_map, List.length_map, List.length_replicate, List.length_replicate, hl]
  · unfold L2.start at e1
    unfold start3 at e2
    by_cases hi : i < ds.length
    · rw [List.getElem?_append_left (by rw [List.length_map]; omega), List.getElem?_map] at e1 e2
      obtain ⟨v, ev, rfl⟩ := map_some e1
      obtain ⟨d, ed, rfl⟩ := map_some e2
      obtain ⟨v', ev', rv⟩ := r.get ed
      rw [ev] at ev'
      cases ev'
      exact ⟨v, rfl, rv⟩
    · rw [List.getElem?_append_right (by rw [List.length_map]; omega), List.getElem?_replicate] at e2
      split at e2
      · cases e2
        trivial
      · cases e2
  · unfold start3 at e1
    have : li.own = false := by
      by_cases hi : i < ds.length
      · rw [List.getElem?_append_left (by rw [List.length_map]; omega), List.getElem?_map] at e1
        obtain ⟨d, ed, rfl⟩ := map_some e1
        rfl
      · rw [List.getElem?_append_right (by rw [List.length_map]; omega), List.getElem?_replicate] at e1
        split at e1
        · cases e1
          rfl
        · cases e1
    rw [this] at o1
    cases o1
section
variable {P : Program} {w : World} {K : PySem.W.Frag} {mg : Str → Option Value} {base : Heap}
/-- the context of a def's body -/
abbrev cxD (P : Program) (w : World) (K : PySem.W.Frag) (mg : Str → Option Value) (base : Heap) (N : List Str) (qual : Str) (st : Stmt) (f : Addr) (cdv : Value) (A : Around) (outer : List Env) (s : Shared) (H : Hp) (E : XK) : Cx := cxOf (L2.CX P w) P w K mg base N qual (defScope st) f cdv A outer s H E
/-- THE RULE for a def over plain data: its derivation, whatever surrounds the call, and its reading -/
theorem fun3 {x qual : Str} {st : Stmt} {f : Addr} {fd : FuncData} {N ps : List Str} {k : Nat} (fs : FS) (F : Fun K x qual st f fd) (S : FnScope N ps (defScope st)) (h : ∃ t : TS3,
    (∀ (cdv : Value) (A : Around) (outer : List Env) (s : Shared) (H : Hp) (E : XK), Room k (cxD P w K mg base N qual st f cdv A outer s H E).A → Takes (cxD P w K mg base N qual st f cdv A outer s H E) (fun cls d _ H => E cls d H) →
      PassesOwn (model (cxD P w K mg base N qual st f cdv A outer s H E).prog (cxD P w K mg base N qual st f cdv A outer s H E).w) (cxD P w K mg base N qual st f cdv A outer s H E).A (cxD P w K mg base N qual st f cdv A outer s H E).env (cxD P w K mg base N qual st f cdv A outer s H E).xe →
      PSs3 (cxD P w K mg base N qual st f cdv A outer s H E) (fun cls d _ H => E cls d H) (defBody st) t) ∧
    ∀ ds q z, ds.length = ps.length → fs ds q z → t { nx := fun _ => q .non, rt := q, ex := fun e _ => z e } (start3 N ds)) :
    FnOk P w K mg base (L2.CX P w) (k + 1) f fd ps (spOf ps.length fs) := by
  obtain ⟨t, der, rd⟩ := h
  refine F.okX S (fun vs H Q E h => h.1) fun cdv A outer s H vs Q E hr ⟨hlen, B, ds, q, z, e, r, hf, kq, kz⟩ => ?_
  have D3 := der cdv A outer s H E hr (takes_of rfl rfl rfl rfl) (passes_of rfl)
  refine ⟨_, canSs _ _, D3.run H B H B (L2.start N vs) (start3 N ds) _ _ (start_good e r) (rd ds q z (by rw [← r.length]; exact hlen) hf) ⟨fun σ H1 B1 s1 G1 _ q1 => kq .non .non H1 B1 q1 G1.g .non, fun v H1 B1 d g1 r1 q1 => kq d v H1 B1 q1 g1 r1, fun _ _ _ _ _ _ z => z.elim, fun _ _ _ _ _ _ z => z.elim, fun e cls dx σ H1 B1 s1 G1 _ r1 x1 => kz e cls dx H1 B1 x1 G1.g r1⟩⟩
/-- a def that keeps fs, under the name x -/
structure Callee (P : Program) (w : World) (K : PySem.W.Frag) (mg : Str → Option Value) (base : Heap) (x : Str) (k n : Nat) (fs : FS) : Prop where
  ex : ∃ (f : Addr) (fd : FuncData) (ps : List Str), FnOk P w K mg base (L2.CX P w) k f fd ps (spOf n fs) ∧ mg x = some (.ref f) ∧ PySem.W.keepIn K (.ref f) = true ∧ Binds K fd ps []
theorem p3callC {X : Cx} {W : WX} {x : Str} {k j n : Nat} {fs : FS} {e : Expr} {es : List Expr} {tas : TA3} {p pos : Pos} (C : Callee X.prog X.w X.K X.mg X.base x k n fs) (hr : Room j X.A) (hk : k ≤ j) (tk : Takes X W) (hg : Gl X x) (ha : PA3 X W (e :: es) tas) (hn : (e :: es).length = n := by rfl)
    (hdb : (x == ("__debug__" : Str)) = false := by decide) (he : starEach (e :: es) X.env = (false, eval e X.env) :: starEach es X.env := by rfl) (hpl : (backTo pos (starEach es X.env)).any (·.1) = false := by rfl) : PE3 X W (.Call (.Name x p) (e :: es) [] pos) (tCall3 fs tas) := by
  obtain ⟨f, fd, ps, F, hm, kp, hb⟩ := C.ex
  exact p3call F (hr.mono hk) tk hg hm kp hb ha hn hdb he hpl
theorem callee_mk {x qual : Str} {st : Stmt} {f : Addr} {fd : FuncData} {ps : List Str} {k n : Nat} {fs : FS} (F : Fun K x qual st f fd) (hm : mg x = some (.ref f)) (hb : Binds K fd ps []) (h : FnOk P w K mg base (L2.CX P w) k f fd ps (spOf n fs)) : Callee P w K mg base x k n fs :=
  ⟨f, fd, ps, h, hm, F.kp, hb⟩
end
end L3

/-! L3h: exceptions: an own class whose __init__ calls super().__init__(text) and stores a field; raise; except. -/
namespace L3
open PySem PySem.Spec L2 PySem.W NdefX
open PyProof.Rows hiding St
open EncD (enc)

/-- what __init__ promises -/
def spSup (C : Addr) (fld : Str) : Sp := fun vs H Q E => ∃ (a : Addr) (y : V), vs = [.ref a, y] ∧ H a = some (exo a C none) ∧ ∀ dx, H dx = none → dx ≠ a → Q .non (upd (upd H dx (exd dx [(fld, y)])) a (exo a C (some dx)))
def supBody (self pn fld tx : Str) (j : Nat) (p0 p1 p2 p3 p4 p5 q1 q2 q3 q4 : Pos) : List Stmt :=
  [.Expr (.Call (.Attribute (.Call (.Name "super" p0) [] [] p1) "__init__" p2) [.Constant (.str tx) j p3] [] p4) p5, .Assign [.Attribute (.Name self q1) fld q2] (.Name pn q3) q4]
/-- the class at C and its __init__ at f, as the top has made them -/
structure SupAt (P : Program) (K : PySem.W.Frag) (C f : Addr) (st : Stmt) (qual : Str) (fd : FuncData) : Prop where
  ex : ∃ (oc ccl cl : Value) (od cdd cld : Option Addr) (kV doc pm ct : Value) (an : Option Addr) (cda cc : Addr) (osl ccs csl : Array (Option Value)) (vs : Array Value) (file : Str) (tf : Tok),
    fd = PySem.W.fnX "__init__" qual (defArgs st) (defBody st) (defScope st) [("__class__", cc)] .none kV doc pm an (.ref cda) ct ∧ K.lookup f = some ⟨oc, od, .func fd, osl⟩ ∧ PySem.W.codeIn K (.ref cda) qual = true ∧
    K.lookup cda = some ⟨ccl, cdd, .fields vs, ccs⟩ ∧ vs[2]? = some (.str file tf) ∧ ((P.main.file : Str) == file) = true ∧ K.lookup cc = some ⟨cl, cld, .cell (some (.ref C)), csl⟩
  oex : OexC K C
  opq : PySem.W.nsIn K cStatics "thirdparty.any" = some none
  sup : ks_superIn K C C "__init__" = some (some (.builtin "ValueError.__init__"))
  sub : PySem.W.subIn K (.ref C) (.type "ValueError") = some true
  top : (P.main.scope.names.lookup ("super" : Str)).isSome = false

section
variable {P : Program} {w : World} {K : PySem.W.Frag} {mg : Str → Option Value} {base : Heap}
theorem sup_call {X : Cx} {pins : List (Addr × Obj)} {σ : St} {H : Hp} {s : Shared} {C a u : Addr} {us : List Value} {Q : Value → Shared → Prop} {E : Value → Shared → Prop} {A : Around} (T : OexC X.K C) (I : Inv X pins σ H s) (e : H a = some (exo a C none)) (hl : us.length ≤ sizeLine)
    (hu : s.heap.get? u = some (kxs_mw "ValueError.__init__" a)) (h : ∀ s', Inv X pins σ H s' → Q .none s') : wpAny (model X.prog X.w) A (call (.ref u) us) Q E s := by
  obtain ⟨nm, q, N, bs, bm, sn, sub, ab, col, dd, k0, k1, k2, k3, k5, hC, hbm⟩ := T.cls
  obtain ⟨t1, ho⟩ := exo_at I.hok e
  obtain ⟨hp, g, d, t, os⟩ := s
  refine wpAny_call (codeAny_of_tree ?_)
  show wpAny _ A.in1 (callAny (.ref u) ⟨us, []⟩) _ _ _
  simp only [callAny]
  refine wpAny_bind (wpAny_load hu ?_)
  simp only [kxs_mw, show (Value.type "method-wrapper" == Value.type "method" || Value.type "method-wrapper" == Value.type "builtin_function_or_method" || Value.type "method-wrapper" == Value.type "method-wrapper") = true by decide, if_true]
  refine KFB.if_so (by decide) ?_
  refine wpAny_bind (check_bound_init F.excBase_ValueError.toExcCallFacts (I.kIn _ _ hC) ho rfl ?_)
  refine wpAny_bind (wpAny_pure (wpAny_pure ?_))
  refine ⟨plainId_quiet F.excBase_ValueError.init.plain _, codeAny_builtin F.excBase_ValueError.initEntry ?_⟩
  refine exc_init_tree (cls := .ref C) (t0 := t1) (dv := none) (c2 := .none) (c3 := .none) (b4 := .bool false) ho hl fun h' k hx _ => ?_
  have J := I.write (t' := t) (x := a) (e := a) (o := exo a C none) (by rw [e]; exact True.intro) (.inl rfl) k ⟨_, hx⟩ (exo_ok hx)
  have eu : upd H a (exo a C none) = H := by
    funext b
    by_cases hb : b = a
    · rw [hb, upd_same, e]
    · rw [upd_ne hb]
  rw [eu] at J
  exact h _ J

/-- a further object, known to nobody -/
theorem inv_push {X : Cx} {pins : List (Addr × Obj)} {σ : St} {H : Hp} {s : Shared} {h' : Heap} {t' : Nat} (I : Inv X pins σ H s) (k : ∀ b o, s.heap.get? b = some o → h'.get? b = some o) : Inv X pins σ H { s with heap := h', toks := t' } := I.kept k
/-- super().__init__(text), in C's own __init__ -/
theorem sup_init {X : Cx} {pins : List (Addr × Obj)} {σ : St} {H : Hp} {s : Shared} {st : Stmt} {C f a cda cc : Addr} {qual self : Str} {fd : FuncData} {A : Around} {body : List Stmt} {ar : Arg} {tx : Str} {j : Nat} {p0 p1 p2 p3 p4 : Pos} {Q : Value → Shared → Prop} {E : Value → Shared → Prop}
    {oc ccl cl : Value} {od cdd cld : Option Addr} {osl ccs csl : Array (Option Value)} {vs : Array Value} {file : Str} {tf : Tok} {pl : Sem Bool} (T : SupAt X.prog X.K C f st qual fd) (I : Inv X pins σ H s) (hA : A = X.A) (e : H a = some (exo a C none))
    (hf : X.K.lookup f = some ⟨oc, od, .func fd, osl⟩) (hcode : X.K.lookup cda = some ⟨ccl, cdd, .fields vs, ccs⟩) (hvs : vs[2]? = some (.str file tf)) (hfile : ((X.prog.main.file : Str) == file) = true) (hcell : X.K.lookup cc = some ⟨cl, cld, .cell (some (.ref C)), csl⟩)
    (hfu : X.env.func = some f) (hco : X.env.code = .ref cda) (hcl : X.env.cells.lookup ("__class__" : Str) = some cc) (hp : (fd.params.posonlyargs ++ fd.params.args).head? = some ar) (hself : ar.arg = self) (hN : X.N[0]? = some self) (hs0 : σ[0]? = some (some (.ref a)))
    (hks : X.env.scope.names.lookup ("super" : Str) = some .globalImplicit) (hkc : X.env.scope.names.lookup ("__class__" : Str) = some .free) (hka : X.env.scope.names.lookup self = some .local) (hmg : X.mg "super" = none)
    (hev : eval (.Call (.Attribute (.Call (.Name "super" p0) [] [] p1) "__init__" p2) [.Constant (.str tx) j p3] [] p4) X.env = (do
      let ov ← attributeBase (.Call (.Name "super" p0) [] [] p1) "__init__" X.env (eval (.Call (.Name "super" p0) [] [] p1) X.env)
      standAt p2.atName
      let (f, first) ← holding [ov] (getMethod ov "__init__" pl)
      callWith p4 f first (backTo p4 (starEach [.Constant (.str tx) j p3] X.env)) []))
    (h : ∀ s', Inv X pins σ H s' → Q .none s') :
    _root_.PySem.wpAt (model X.prog X.w) A (.func body X.env) (eval (.Call (.Attribute (.Call (.Name "super" p0) [] [] p1) "__init__" p2) [.Constant (.str tx) j p3] [] p4) X.env) Q E s := by
  subst hA
  have hcls := T.oex.cls
  obtain ⟨nm, q, N, bs, bm, sn, sub, ab, col, dd, k0, k1, k2, k3, k5, hC, hbm⟩ := hcls
  have hclsIn : PySem.W.clsIn X.K C = some { name := nm, bases := bs, mro := .ref C :: bm, ns := N, qualname := q, hasDict := true, slotNames := sn, subclasses := sub, abstract := ab, collection := col, hasDel := false } := by unfold PySem.W.clsIn; rw [hC] <;> rfl
  have hCC : PySem.W.mroIn X.K C (.ref C) = some true := by
    unfold PySem.W.mroIn
    rw [hclsIn, Option.bind_some]
    rw [if_neg (by rw [PySem.HandSPX.refsVE_ne (show PySem.HandSPX.refsVE (.ref C :: bm) = true from hbm)]; decide)]
    simp
  refine ks_wpAt_MethodCall ?_ hev
  refine ks_wpAt_super_base (env := X.env) hks hkc (by decide) hfu (I.kIn _ _ hf) rfl hp hco (I.kIn _ _ hcode) rfl hvs hfile T.top ?_
  obtain ⟨mb, h1, h2⟩ := I.mod.blt
  refine ks_loadName_global I.ok.kind hks (Calls.loadGlobal_builtin (by rw [I.ok.glob]; exact I.mod.glob.keeps I.bk) hmg (by rw [I.ok.blt]; exact h1.keeps I.bk) ((h2 "super" (by decide)).trans (show bootBuiltins "super" = some (.type "super") from by rfl)) ⟨rfl, ?_⟩)
  refine wpAny_loadName_free I.ok.kind hkc hcl ⟨_, I.kIn _ _ hcell, rfl⟩ ?_
  obtain ⟨m, hn, hl⟩ := I.loc
  obtain ⟨u, r, l⟩ := hl 0 self (.ref a) hN hs0 (.inl hka)
  obtain rfl : u = Value.ref a := r
  have hm : m self = some (.ref a) := by
    rcases l with ⟨_, hm⟩ | ⟨hk, _⟩
    · exact hm
    · have hk : X.env.scope.names.lookup self = some .cell ∨ X.env.scope.names.lookup self = some .free := hk
      rw [hka] at hk
      rcases hk with hk | hk <;> cases hk
  rw [hself]
  refine wpAny_loadName_local I.ok.kind hka hn hm ?_
  obtain ⟨t1, ho⟩ := exo_at I.hok e
  obtain ⟨hh, g, d, t, os⟩ := s
  have hCo : hh.get? C = some _ := I.kIn _ _ hC
  refine ks_wpAny_isType_cls hCo rfl ⟨rfl, ?_⟩
  refine ks_wpAny_call_super hCo rfl ho rfl (fun c e => by cases e) (looks_mroIn I.kIn hCC) (fun h' es ks => ?_)
  have I1 : Inv X pins σ H ⟨h', g, d, t, os⟩ := I.kept ks
  have hI : Looks (model X.prog X.w) h' (isInstance (.ref a) (.type "ValueError")) true := (show PySem.W.InstAt h' a ({ cls := .ref C, dict := none, data := .fields #[.ref t1, .none, .none, .none, .bool false, .none] } : Obj) C none from ⟨ks _ _ ho, rfl, rfl, trivial⟩).type.andThen (looks_subIn I1.kIn T.sub)
  have hne : a ≠ C := fun z => by
    rw [z] at ho
    rw [hCo] at ho
    cases ho
  have hsup : alongIn X.K "__init__" (((Value.ref C :: bm).dropWhile (· != .ref C)).drop 1) = some (some (.builtin "ValueError.__init__")) := by
    have z := T.sup
    unfold ks_superIn at z
    rw [hclsIn] at z
    exact z
  refine kxs_getMethod kxs_ValueError es (looks_opaque I1.kIn T.opq) (l₀ := .ref C :: bm) ?_ rfl I1.kIn hsup hI hne (by decide) ?_
  · exact fun A Q E s k q => wpAny_bind ((looks_clsIn I1.kIn hclsIn) A _ E s k (wpAny_pure q))
  have hu : (h'.push (kxs_mw "ValueError.__init__" a)).get? h'.objs.size = some (kxs_mw "ValueError.__init__" a) := Heap.get?_push_size _ rfl
  have I2 : Inv X pins σ H ⟨h'.push (kxs_mw "ValueError.__init__" a), g, d, t + 1, os⟩ := I1.kept (t' := t + 1) fun b o e => Heap.get?_push_of_some _ e
  refine kxs_callWith (i := "ValueError.__init__") (x := a) rfl (Calls.evalArgs_plain ?_)
  show wpAny _ _ (spliced ((false, eval (.Constant (.str tx) j p3) X.env) :: backTo p4 (starEach [] X.env))) _ _ _
  refine Calls.spliced_cons (Calls.Constant_str (Calls.spliced_nil ⟨hu, ?_⟩))
  have I3 : Inv X pins σ H _ := I2.tok (t + 1 + 1)
  exact sup_call T.oex I3 e (by rw [sizeLine_eq]; show 1 ≤ _; decide) hu h

/-- THE RULE for such an __init__ -/
theorem sup_ok {st : Stmt} {C f : Addr} {qual self pn fld tx : Str} {fd : FuncData} {j : Nat} {p0 p1 p2 p3 p4 p5 q1 q2 q3 q4 : Pos} {ar : Arg} (k : Nat) (T : SupAt P K C f st qual fd) (hb : defBody st = supBody self pn fld tx j p0 p1 p2 p3 p4 p5 q1 q2 q3 q4)
    (S : NScope [self, pn, "__class__"] [self, pn] ["__class__"] (defScope st)) (hks : (defScope st).names.lookup ("super" : Str) = some .globalImplicit) (hp : ((defArgs st).posonlyargs ++ (defArgs st).args).head? = some ar) (hself : ar.arg = self) (hmg : mg "super" = none)
    (hfl : PySem.W.findIn K (.ref C) fld = some none) (hv2 : ((self == ("__debug__" : Str)) || (pn == ("__debug__" : Str)) || (self == ("__classdict__" : Str)) || (pn == ("__classdict__" : Str))) = false)
    (hev : ∀ (L f cda cc : Addr), ∃ pl, eval (.Call (.Attribute (.Call (.Name "super" p0) [] [] p1) "__init__" p2) [.Constant (.str tx) j p3] [] p4) (PySem.W.envX qual (defScope st) L f (.ref cda) [("__class__", cc)]) = (do
      let ov ← attributeBase (.Call (.Name "super" p0) [] [] p1) "__init__" (PySem.W.envX qual (defScope st) L f (.ref cda) [("__class__", cc)]) (eval (.Call (.Name "super" p0) [] [] p1) (PySem.W.envX qual (defScope st) L f (.ref cda) [("__class__", cc)]))
      standAt p2.atName
      let (g, first) ← holding [ov] (getMethod ov "__init__" pl)
      callWith p4 g first (backTo p4 (starEach [.Constant (.str tx) j p3] (PySem.W.envX qual (defScope st) L f (.ref cda) [("__class__", cc)]))) []) := by intros; exact ⟨_, rfl⟩) :
    FnOk P w K mg base (L2.CX P w) (k + 1) f fd [self, pn] (spSup C fld) := by
  simp only [Bool.or_eq_false_iff] at hv2
  obtain ⟨⟨⟨d1, d2⟩, d3⟩, d4⟩ := hv2
  obtain ⟨oc, ccl, cl, od, cdd, cld, kV, doc, pm, ct, an, cda, cc, osl, ccs, csl, vs, file, tf, rfl, lk, hcd, hcode, hvs, hfile, hcell⟩ := T.ex
  refine ⟨fun vs H Q E ⟨a, y, e, _⟩ => by rw [e]; rfl, fun A outer s H args us vs Q E hr e0 hbd r hsp => ?_⟩
  obtain ⟨a, y, rfl, ea, kq⟩ := hsp
  have KX : K.In s.heap := e0.mod.kin.keeps fun b o e => (e0.bs b o e).1
  have lim : s.heap.NoLimit := e0.mod.nolimit.keeps fun b o e => (e0.bs b o e).1
  refine ks_codeAny_call_defAt hr.depth (KX _ _ lk) rfl lim (PySem.W.codeRec_of KX hcd) rfl hbd S.nocell (fun x hx => S.par _ (List.of_mem_zip hx).1) (fun h₁ hns hk => ?_) S.co S.gen S.kind
  have CA : CellsAt (NF.mk "__init__" qual (defArgs st) (defBody st) (defScope st) [("__class__", cc)] cda).cl ["__class__"] [none] s.heap H := by
    refine ⟨rfl, fun y c e => ?_, fun x y c e1 e2 => ?_, fun i y e => ?_⟩
    · have e' : List.lookup y [(("__class__" : Str), cc)] = some c := e
      by_cases hy : y = ("__class__" : Str)
      · subst hy
        have : some cc = some c := e'
        cases this
        exact ⟨(e0.bs _ _ (e0.mod.kin _ _ hcell)).2, _, _, (e0.bs _ _ (e0.mod.kin _ _ hcell)).1, rfl⟩
      · have hb : (y == ("__class__" : Str)) = false := by simpa using hy
        simp [List.lookup, hb] at e'
    · have one : ∀ z, List.lookup z [(("__class__" : Str), cc)] = some c → z = ("__class__" : Str) := fun z e' => by
        by_cases hy : z = ("__class__" : Str)
        · exact hy
        · have hb : (z == ("__class__" : Str)) = false := by simpa using hy
          simp [List.lookup, hb] at e'
      exact (one x e1).trans (one y e2).symm
    · cases i with
      | zero =>
        have : some ("__class__" : Str) = some y := e
        cases this
        exact ⟨cc, rfl, fun v z => by cases z⟩
      | succ i => simp at e
  have I : Inv (ncx (L2.CX P w) P w K mg base [self, pn, "__class__"] (NF.mk "__init__" qual (defArgs st) (defBody st) (defScope st) [("__class__", cc)] cda) f A outer s H E) [] (startF [self, pn, "__class__"] [.ref a, y] [none]) H { s with heap := h₁, toks := s.toks + ([self, pn].zip us).length } :=
    inv_startN S hr.hd e0 rfl r CA hns hk
  show _root_.PySem.wpAt (model P w) (A.deeper (envF (NF.mk "__init__" qual (defArgs st) (defBody st) (defScope st) [("__class__", cc)] cda) f s.heap.objs.size)) (.func (defBody st) (envF (NF.mk "__init__" qual (defArgs st) (defBody st) (defScope st) [("__class__", cc)] cda) f s.heap.objs.size)) (execs (defBody st) (envF (NF.mk "__init__" qual (defArgs st) (defBody st) (defScope st) [("__class__", cc)] cda) f s.heap.objs.size)) _ _ _
  rw [hb]
  unfold supBody
  have lp : ∀ x ∈ [self, pn], (defScope st).names.lookup x = some .local := S.par
  obtain ⟨pl, hpl⟩ := hev s.heap.objs.size f cda cc
  refine ks_wpAt_execs_cons (ks_wpAt_Expr_any ?_ ?_)
  rotate_left
  · show ((defScope st).kind == .module && _) = false
    rw [S.kind]
    rfl
  refine sup_init (X := ncx (L2.CX P w) P w K mg base [self, pn, "__class__"] (NF.mk "__init__" qual (defArgs st) (defBody st) (defScope st) [("__class__", cc)] cda) f A outer s H E) (self := self) (ar := ar) (pl := pl) T I rfl ea lk hcode hvs hfile hcell rfl rfl rfl hp hself rfl rfl hks (S.frk _ (by simp)) (lp _ (by simp)) hmg hpl fun s' J => ?_
  · refine wpAt_of_wpAny ?_
    have D := pss_one (X := ncx (L2.CX P w) P w K mg base [self, pn, "__class__"] (NF.mk "__init__" qual (defArgs st) (defBody st) (defScope st) [("__class__", cc)] cda) f A outer s H E) (ps_ost (f := fld) (p' := q2) (pos := q4) (pe_var (i := 0) (x := self) (pos := q1) rfl (.inl (lp _ (by simp))) d1 d3) (pe_var (i := 1) (x := pn) (pos := q3) rfl (.inl (lp _ (by simp))) d2 d4) (by rfl))
    refine wpAny_mono (D.run [] s' _ H { nx := fun _ H' => Q .non H', rt := Q } J ⟨y, rfl, .ref a, rfl, a, C, rfl, T.oex, hfl, .inl ⟨ea, fun dx n ne => kq dx n ne⟩⟩) (fun fl s2 hs => ?_) fun e s2 hs => hs
    have fin : ∀ {σ' : St} {H' : Hp} {v : V} {u : Value}, Inv (ncx (L2.CX P w) P w K mg base [self, pn, "__class__"] (NF.mk "__init__" qual (defArgs st) (defBody st) (defScope st) [("__class__", cc)] cda) f A outer s H E) [] σ' H' s2 → L2.RelV v u → Q v H' → CE outer P w H s Q u s2 :=
      fun {σ' H' v u} J rv q => ⟨v, H', J.os, J.bare, J.base, J.hok, rv, q⟩
    cases fl with
    | ret u =>
      obtain ⟨v, σ', H', J, rv, q⟩ := hs
      exact fin J rv q
    | next =>
      obtain ⟨σ', H', J, q⟩ := hs
      exact fin (v := V.non) (u := Value.none) J rfl q
    | brk =>
      obtain ⟨_, _, _, q⟩ := hs
      exact False.elim q
    | cont =>
      obtain ⟨_, _, _, q⟩ := hs
      exact False.elim q
end
end L3

/-! L3i: raise, try .. except C as e, isinstance(e, C), e.field over plain data. -/
namespace L3
open PySem PySem.Spec L2 PySem.W
open PyProof.Rows hiding St
open EncD (enc)

section
variable {X : Cx} {W : WX} {st : Stmt} {rest : List Stmt} {t u : TS3} {a b c e o : Expr} {es : List Expr} {ta tb tc te : TE3} {pos : Pos}
/-- an own class without __init__ -/
structure Exc0 (K : PySem.W.Frag) (C : Addr) : Prop where
  ein : PySem.W.excIn K C [.type "ValueError", .type "Exception", .type "BaseException", .type "object"] "ValueError.__new__" = true
  kC : PySem.W.keepIn K (.ref C) = true
  exC : PySem.W.subIn K (.ref C) (.type "BaseException") = some true
  tyC : PySem.W.typeIn K (.ref C) = some (.type "type")
def tRaise0 (C : Addr) : TS3 := fun E s => E.ex ⟨C, []⟩ s
theorem s3raise0 {x m : Str} {j : Nat} {p p2 p3 : Pos} {C : Addr} (hc : X.calm = true) (tk : Takes X W) (hm : X.mg x = some (.ref C)) (T : Exc0 X.K C) (hg : Gl X x) (hdb : (x == ("__debug__" : Str)) = false := by decide) :
    PS3 X W (.Raise (some (.Call (.Name x p) [.Constant (.str m) j p2] [] p3)) none pos) (tRaise0 C) :=
  ⟨fun H0 B0 H B σ s E D G h l => ⟨_, ps_raise hc tk (pmk_own F.excBase_ValueError T.ein hm T.kC (raises_own T.exC T.tyC) hg hdb), l.ex ⟨C, []⟩ _ _ σ H B s G (.refl _) ⟨rfl, rfl⟩ h⟩⟩
/-- an own class whose __init__ stores one field, as the top has made it -/
structure Exc1 (P : Program) (w : World) (K : PySem.W.Frag) (mg : Str → Option Value) (base : Heap) (C : Addr) (fld : Str) : Prop where
  oex : OexC K C
  ex : ∃ (fI : Addr) (fd : FuncData) (ps : List Str), PySem.W.findIn K (.ref C) "__init__" = some (some (.ref fI)) ∧ PySem.W.typeIn K (.ref fI) = some (.type "function") ∧ FnOk P w K mg base (L2.CX P w) 1 fI fd ps (spSup C fld) ∧ Binds K fd ps []
def tRaise1 (C : Addr) (fld : Str) (te : TE3) : TS3 := fun E s => te s (fun _ d => d.flat = true ∧ E.ex ⟨C, [(fld, d)]⟩ s) (fun e => E.ex e s)
theorem del_upd {H : Hp} {a d : Addr} {o u : HO} (n : H a = none) : del (upd H a o) a = H := by
  funext b
  by_cases hb : b = a
  · rw [hb, del_same, n]
  · rw [del_ne hb, upd_ne hb]
theorem s3raise1 {x : Str} {j : Nat} {p p3 : Pos} {C : Addr} {fld : Str} (hc : X.calm = true) (tk : Takes X W) (hm : X.mg x = some (.ref C)) (T : Exc1 X.prog X.w X.K X.mg X.base C fld) (hr : Room j X.A) (hj : 2 ≤ j) (hg : Gl X x) (he : PE3 X W e te) (hps : Passes (L2.CX X.prog X.w) X (fun _ _ _ => False) := by exact passL) (hdb : (x == ("__debug__" : Str)) = false := by decide)
    (hs : starEach [e] X.env = (false, eval e X.env) :: starEach [] X.env := by rfl) (hpl : (backTo p3 (starEach [] X.env)).any (·.1) = false := by rfl) :
    PS3 X W (.Raise (some (.Call (.Name x p) [e] [] p3)) none pos) (tRaise1 C fld te) := by
  obtain ⟨fI, fd, ps, h1, h2, h3, h4⟩ := T.ex
  refine ⟨fun H0 B0 H B σ s E D G h l => ⟨_, ps_raise hc tk (pmk_oex (dvs := []) T.oex h1 h2 h3 (hr.mono hj) h4 .nil hps hg hm (pa_cons (can X e) pa_nil hs) hdb hs hpl), he.run H0 B0 H B σ s _ _ _ G h (fun v H1 B1 f d g r q => ?_) (l.exk G)⟩⟩
  refine ⟨by show 1 ≤ 1000; decide, fun a ha => ⟨a, v, rfl, upd_same, fun dx hd hda => ⟨rfl, dx, [(fld, v)], upd_same, ?_, ?_, ?_⟩⟩⟩
  · rw [upd_ne hda, upd_same]
  · rw [upd_ne hda] at hd
    exact hd
  · rw [upd_ne hda] at hd
    have na : a ≠ dx := hda.symm
    have e1 : del (upd (upd (upd H1 a (exo a C none)) dx (exd dx [(fld, v)])) a (exo a C (some dx))) a = upd H1 dx (exd dx [(fld, v)]) := by
      funext b
      by_cases hb : b = a
      · rw [hb, del_same, upd_ne na, ha]
      · rw [del_ne hb, upd_ne hb]
        by_cases hbd : b = dx
        · rw [hbd, upd_same, upd_same]
        · rw [upd_ne hbd, upd_ne hbd, upd_ne hb]
    rw [e1]
    have e2 : upd (upd H1 dx (exd dx [(fld, v)])) dx (.xd [(fld, v)]) = upd H1 dx (.xd [(fld, v)]) := by
      funext b
      by_cases hb : b = dx
      · rw [hb, upd_same, upd_same]
      · rw [upd_ne hb, upd_ne hb, upd_ne hb]
    rw [e2]
    have g2 : Grow H1 B1 (upd H1 dx (.xd [(fld, v)])) B1 := .drop g.bh hd
    refine l.ex ⟨C, [(fld, d)]⟩ _ _ σ _ B1 s (G.grow (g.trans g2)) (g.trans g2).b ⟨rfl, dx, [(fld, v)], rfl, upd_same, .cons (r.1.mono g2.h) .nil, fun p hp => ?_⟩ q.2
    simp at hp
    subst hp
    exact q.1

/-! ### try .. except C as n -/
def tTry3 (K : PySem.W.Frag) (cv : Value) (i : Nat) (tb : TS3) (ts : Addr → Value → Option Addr → TS3) : TS3 := fun E s => tb { E with ex := fun e s' => ∃ b, PySem.W.exmOne K (.ref e.C) cv = some b ∧
  (b = true → ∀ a d, ts a (.ref e.C) d { nx := fun s2 => E.nx (s2.set i .un), rt := E.rt, bk := fun s2 => E.bk (s2.set i .un), ct := fun s2 => E.ct (s2.set i .un) } (s'.set i (.ex a d e))) ∧ (b = false → E.ex e s') } s
theorem s3try {x n : Str} {cv : Value} {i : Nat} {body suite : List Stmt} {b₀ : Stmt} {np pos' : Pos} {tb : TS3} {ts : Addr → Value → Option Addr → TS3} {K : PySem.W.Frag} (hK : X.K = K) (hs : X.stack = X.env :: X.outer) (hf : X.env.frame = some X.env.locals) (hN : X.N.Nodup) (hi : X.N[i]? = some n) (hln : X.env.kindOf n = some .local) (hc : Names X x cv) (tk : Takes X W)
    (hb : ∀ (W' : WX) (pn : List (Addr × Obj)) (xe : Value → Shared → Prop), Takes (X.tr pn xe) W' → PassesOwn (model X.prog X.w) X.A X.env xe → PSs3 (X.tr pn xe) W' body tb)
    (hsu : ∀ (a : Addr) (oe : Obj) (cls : Value) (d : Option Addr) (pn : List (Addr × Obj)), Zc cls d oe → (∃ vs, oe.data = .fields vs) → PSs3 (X.suite a ((a, oe) :: pn)) W0 (b₀ :: suite) (ts a cls d)) :
    PS3 X W (.Try body [.ExceptHandler (some (.Name x np)) (some n) (b₀ :: suite) pos'] [] [] pos) (tTry3 K cv i tb ts) := by
  subst hK
  refine ⟨fun H0 B0 H B σ s E D G h l => ⟨_, ps_try_as (tb := fun W' D σ H => ∀ (pn : List (Addr × Obj)) (xe : Value → Shared → Prop), Takes (X.tr pn xe) W' → PassesOwn (model X.prog X.w) X.A X.env xe → CanSs (X.tr pn xe) body D σ H)
    (ts := fun a cls d D σ H => ∀ (oe : Obj) (pn : List (Addr × Obj)), Zc cls d oe → (∃ vs, oe.data = .fields vs) → CanSs (X.suite a ((a, oe) :: pn)) (b₀ :: suite) D σ H) (Wout := W) hs hf hN hi hln hc tk
    (fun W' pn xe tk' po => ⟨fun pins s σ H D I h => (canSs _ _).run pins s σ H D I (h pn xe tk' po)⟩) (fun a oe cls d pn hz hv => ⟨fun pins s σ H D I h => (canSs _ _).run pins s σ H D I (h oe pn hz hv)⟩), ?_⟩⟩
  intro pn xe tk' po
  refine (hb _ pn xe tk' po).run H0 B0 H B σ s _ D G h ⟨l.nx, l.rt, l.bk, l.ct, fun e cls dx σ' H' B1 s' G' e' r ⟨b, hx, h1, h2⟩ => ?_⟩
  obtain ⟨rfl, r2⟩ := id r
  refine ⟨b, hx, fun hb' a ha oe pn2 hz hv => ?_, fun hb' => l.ex e _ dx σ' H' B1 s' G' e' r (h2 hb')⟩
  refine (hsu a oe _ dx pn2 hz hv).run H0 B0 H' B1 (σ'.set i (some (.ref a))) (s'.set i (.ex a dx e)) _ _ (G'.put (l := .ex a dx e) ⟨rfl, r⟩ rfl) (h1 hb' a dx) ⟨?_, l.rt, ?_, ?_, fun _ _ _ _ _ _ _ _ _ _ z => z.elim⟩
  · exact fun σ2 H2 B2 s2 G2 e2 q => l.nx _ H2 B2 _ (G2.put (x := none) (l := .un) trivial rfl) (e'.trans e2) q
  · exact fun σ2 H2 B2 s2 G2 e2 q => l.bk _ H2 B2 _ (G2.put (x := none) (l := .un) trivial rfl) (e'.trans e2) q
  · exact fun σ2 H2 B2 s2 G2 e2 q => l.ct _ H2 B2 _ (G2.put (x := none) (l := .un) trivial rfl) (e'.trans e2) q
/-- what isinstance asks of the class of the exception -/
def ExcI (K : PySem.W.Frag) (D : Addr) : Prop := ExcC K D
theorem call_isE3 {a D : Addr} {oe : Obj} {d : Option Addr} {pn : List (Addr × Obj)} (C : ExcC X.K D) (hz : Zc (.ref D) d oe) (hf : ∃ vs, oe.data = .fields vs) : CallR (X.suite a ((a, oe) :: pn)) (.builtin "isinstance") (fun xs H Q => (∀ dd, d = some dd → ∃ fs, H dd = some (.xd fs)) ∧ rIsE X.K D a xs H Q) := by
  intro pins s σ H xs us Q I r h
  obtain ⟨hd, c, cv, b, rfl, hcv, e, q⟩ := h
  cases r with
  | cons rx rr =>
    cases rr with
    | cons rt rr =>
      cases rr
      cases rx
      have ec := hcv _ rt
      subst ec
      obtain ⟨hget, _⟩ := I.pin (a, oe) (List.mem_append.mpr (.inl List.mem_cons_self))
      obtain ⟨vs, hv⟩ := hf
      have hcl : (PySem.W.clsIn X.K D).isSome = true := by
        obtain ⟨cd, hc, _⟩ := PySem.W.any_some C.hd
        rw [hc] <;> rfl
      have J : ∃ od, PySem.W.InstAt s.heap a oe D od := by
        obtain ⟨oc, od, oda, osl⟩ := oe
        obtain ⟨h1, h2⟩ := hz
        dsimp only at h1 h2 hv
        subst h1 h2 hv
        cases od with
        | none => exact ⟨none, hget, rfl, rfl, trivial⟩
        | some dd =>
          obtain ⟨fs, hfs⟩ := hd dd rfl
          obtain ⟨mA, hns, _⟩ := (show ObjOk X.prog X.w H s.heap dd (.xd fs) from I.hok dd _ hfs)
          obtain ⟨o2, ho2, _⟩ := lookIn_ns hns
          exact ⟨some o2, hget, rfl, rfl, ho2⟩
      obtain ⟨od, J⟩ := J
      exact PySem.W.kia_one (PySem.W.kitx_exc hcl C.hg C.hk C.hs C.ha C.hn C.ht C.hm) I.kIn J e (fun z => nomatch z) fun tk => ⟨.bl b, H, I.kept (t' := tk) fun _ _ z => z, rfl, q⟩
end
/-- the class in an isinstance, however it is named -/
def ClsV (X : Cx) (x : Str) (cv : Value) : Prop := ∀ p : Pos, ∃ c : V, PE X (.Name x p) (tC c) ∧ ∀ u, RelV c u → u = cv
theorem clsV_own {X : Cx} {x : Str} {C : Addr} (hg : Gl X x) (hm : X.mg x = some (.ref C)) (hdb : (x == ("__debug__" : Str)) = false := by decide) : ClsV X x (.ref C) := fun p => ⟨.ref C, pe_glob hg hm rfl hdb, fun u r => r⟩
theorem clsV_ty {X : Cx} {x : Str} {T : String} (hg : Gl X x) (hm : X.mg x = none) (hv : bootBuiltins x = some (.type T)) (hn : x ≠ "__name__" := by decide) (hdb : (x == ("__debug__" : Str)) = false := by decide) : ClsV X x (.type T) := fun p => ⟨.ty T, pe_bltn hg hm hv rfl hn hdb, fun u r => r⟩

section
variable {X : Cx} {W : WX} {a : Addr} {cls : Value} {d : Option Addr} {oe : Obj} {pn : List (Addr × Obj)}
/-- isinstance(e, C), e the caught exception in slot i; cv: the class -/
def tIsE3 (K : PySem.W.Frag) (i : Nat) (a : Addr) (cls : Value) (d : Option Addr) (cv : Value) : TE3 := fun s q _ => match s[i]? with
  | some (.ex a' d' e) => a' = a ∧ d' = d ∧ cls = .ref e.C ∧ ExcC K e.C ∧ ∃ b, PySem.W.kitOne K (.ref e.C) cv = some b ∧ q .st (.bl b)
  | _ => False
theorem p3isE {x n : Str} {i : Nat} {cv : Value} {p p1 p2 pos : Pos} {K : PySem.W.Frag} (hK : X.K = K) (hz : Zc cls d oe) (hf : ∃ vs, oe.data = .fields vs) (hg : Gl X "isinstance") (hm : X.mg "isinstance" = none) (hN : X.N[i]? = some n) (hc : ClsV (X.suite a ((a, oe) :: pn)) x cv) (hv : Vis X.env.scope n := by first | exact Or.inl rfl | exact Or.inr (Or.inl rfl) | exact Or.inr (Or.inr rfl)) (hd : (n == ("__debug__" : Str)) = false := by decide) (hcd : (n == ("__classdict__" : Str)) = false := by decide)
    (h1 : starEach [.Name n p1, .Name x p2] X.env = (false, eval (.Name n p1) X.env) :: starEach [.Name x p2] X.env := by rfl) (h2 : starEach [.Name x p2] X.env = (false, eval (.Name x p2) X.env) :: starEach [] X.env := by rfl)
    (hpl : (backTo pos (starEach [.Name x p2] X.env)).any (·.1) = false := by rfl) : PE3 (X.suite a ((a, oe) :: pn)) W (.Call (.Name "isinstance" p) [.Name n p1, .Name x p2] [] pos) (tIsE3 K i a cls d cv) := by
  subst hK
  obtain ⟨c, hpc, hcv⟩ := hc p2
  refine ⟨fun H0 B0 H B σ s q z Q G ht k kx => ?_⟩
  unfold tIsE3 at ht
  split at ht
  · rename_i a' d' e es
    obtain ⟨rfl, rfl, rfl, hC, b, hk, hq⟩ := ht
    obtain ⟨y, e1, hy, hr⟩ := G.slot es
    subst hy
    refine ⟨_, pe_callB (call_isE3 hC hz hf) hg hm bt_isi (pa_cons (pe_var hN hv hd hcd) (pa_cons hpc pa_nil h2) h1) (by decide) (by decide) h1 hpl, ?_⟩
    refine ⟨_, e1, ?_⟩
    refine ⟨fun dd hdd => ?_, c, cv, b, rfl, hcv, hk, k _ H B .st _ G.self (RepF.of G.hb (.bl b)) hq⟩
    have r2 := hr.2
    split at r2
    · rw [r2] at hdd
      cases hdd
    · obtain ⟨a2, fs, ed, ha2, _⟩ := r2
      rw [ed] at hdd
      cases hdd
      exact ⟨fs, ha2⟩
  · exact ht.elim
/-- e.f, a field of the caught exception -/
def tXf3 (K : PySem.W.Frag) (i : Nat) (a : Addr) (cls : Value) (d : Option Addr) (f : Str) : TE3 := fun s q _ => match s[i]? with
  | some (.ex a' d' e) => a' = a ∧ d' = d ∧ cls = .ref e.C ∧ XfC K e.C ∧ PySem.W.findIn K (.ref e.C) f = some none ∧ ∃ u, e.fs.lookup f = some u ∧ q .st u
  | _ => False
theorem RepFs.lookup {H : Hp} {f : Str} {u : D} : ∀ {fs : List (Str × V)} {gs : List (Str × D)}, RepFs H fs gs → gs.lookup f = some u → ∃ v, fs.lookup f = some v ∧ Rep H v u ∧ (f, u) ∈ gs
  | _, _, .nil, e => by cases e
  | _, _, .cons (k := k) (v := v) (d := d) (vs := vs) (ds := ds) a r, e => by
    by_cases h : f = k
    · subst h
      have e1 : List.lookup f ((f, d) :: ds) = some d := by simp [List.lookup]
      rw [e1] at e
      cases e
      exact ⟨v, by simp [List.lookup], a, List.mem_cons_self⟩
    · have hb : (f == k) = false := by simpa using h
      have e1 : List.lookup f ((k, d) :: ds) = List.lookup f ds := by simp [List.lookup, hb]
      rw [e1] at e
      obtain ⟨v', l, r', m⟩ := RepFs.lookup r e
      exact ⟨v', by simp [List.lookup, hb, l], r', List.mem_cons_of_mem _ m⟩
theorem p3xf {n f : Str} {i : Nat} {p1 pos : Pos} {K : PySem.W.Frag} (hK : X.K = K) (hz : Zc cls d oe) (hf : ∃ vs, oe.data = .fields vs) (hN : X.N[i]? = some n) (hb : attributeBase (.Name n p1) f X.env (eval (.Name n p1) X.env) = eval (.Name n p1) X.env := by rfl) (hv : Vis X.env.scope n := by first | exact Or.inl rfl | exact Or.inr (Or.inl rfl) | exact Or.inr (Or.inr rfl)) (hd : (n == ("__debug__" : Str)) = false := by decide) (hcd : (n == ("__classdict__" : Str)) = false := by decide) :
    PE3 (X.suite a ((a, oe) :: pn)) W (.Attribute (.Name n p1) f pos) (tXf3 K i a cls d f) := by
  subst hK
  refine ⟨fun H0 B0 H B σ s q z Q G ht k kx => ?_⟩
  unfold tXf3 at ht
  split at ht
  · rename_i a' d' e es
    obtain ⟨rfl, rfl, rfl, hX, hno, u, hl, hq⟩ := ht
    obtain ⟨y, e1, hy, hr⟩ := G.slot es
    subst hy
    refine ⟨_, pe_xf (X := X) hX hno hz hf (pe_var (X := X.suite a' ((a', oe) :: pn)) hN hv hd hcd) hb, _, e1, rfl, rfl, ?_⟩
    have r2 := hr.2
    split at r2
    · rename_i hfs
      rw [hfs] at hl
      cases hl
    · rename_i g r hfs
      obtain ⟨a2, fs, ed, ha2, rf, fl⟩ := r2
      rw [hfs] at hl
      obtain ⟨v, lv, rv, mem⟩ := RepFs.lookup rf hl
      refine ⟨a2, fs, v, ed, ha2, lv, ?_⟩
      exact k v H B .st u G.self ⟨rv, rv.any (fl _ mem)⟩ hq
  · exact ht.elim
end
theorem names_own {X : Cx} {x : Str} {c : Value} (hg : Gl X x) (hm : X.mg x = some c) (hdb : (x == ("__debug__" : Str)) = false := by decide) : Names X x c := ⟨hg, hdb, .inl hm⟩
theorem deep_suite {X : Cx} {a : Addr} {pn : List (Addr × Obj)} (h : X.A.units + 66 < cLine) : deep (X.suite a pn) := h
end L3

/-! L3j: comprehensions with two clauses. -/
namespace L3
open PySem PySem.Spec L2 PySem.W
open PyProof.Rows hiding St
open EncD (enc)

section
variable {X : Cx} {W : WX} {tg a b c e o : Expr} {es : List Expr} {ta tb tc te : TE3} {tas : TA3} {pos : Pos}
/-- an object that no slot owns, outside of the base, changes -/
theorem Good.off {H0 B0 H B : Hp} {σ : St} {s : Store} {D : Addr} {o o' : HO} (G : Good H0 B0 H B σ s) (hD : H D = some o) (h0 : H0 D = none) (hB : B D = none) (nx : ∀ fs, o ≠ .xd fs)
    (hn : ∀ (j : Nat) (lj : Sl), s[j]? = some lj → lj.own = true → σ[j]? ≠ some (some (.ref D))) : Good H0 B0 (upd H D o') B σ s := by
  have keep : ∀ {C : Hp}, C D = none → Same C H → Same C (upd H D o') := fun {C} n e b u q => by
    rw [upd_ne (ne_of_none q n)]
    exact e _ _ q
  have kx : ∀ b fs, H b = some (.xd fs) → upd H D o' b = some (.xd fs) := fun b fs hb => by
    rw [upd_ne (fun z => nx fs (by rw [z, hD] at hb; exact Option.some.inj hb))]
    exact hb
  refine ⟨G.len, ⟨keep h0 G.g.h, G.g.b, keep hB G.g.bh, G.g.new⟩, fun j y k e1 e2 => ?_, G.ap⟩
  have q := G.sl j y k e1 e2
  by_cases ok : k.own = true
  · refine q.else (.refl _) kx fun a u e n hu => ⟨?_, n⟩
    have na : a ≠ D := fun z => by
      subst z
      rw [e] at e1
      exact hn j k e2 ok e1
    rw [upd_ne na]
    exact hu
  · cases k with
    | un => trivial
    | va d => exact q
    | ex b d e => exact ⟨q.1, q.2.else kx⟩
    | _ => exact absurd rfl ok
theorem wipe3_get (s : Store) : ∀ (vs : List Nat) (j : Nat), j ∈ vs → ∀ l, (wipe3 s vs)[j]? = some l → l = .un
  | [], j, h => by simp at h
  | v :: vs, j, h => fun l e => by
    have e' : ((wipe3 s vs).set v .un)[j]? = some l := e
    rcases set_get e' with ⟨_, rfl⟩ | ⟨hj, e'⟩
    · rfl
    · rcases List.mem_cons.mp h with z | z
      · exact absurd z hj
      · exact wipe3_get s vs j z l e'
/-- [te for g in it if tt for g1 in it1 if tt1] -/
def tLc23 (it : TI3) (g : TG3) (tt : TT3) (it1 : TI3) (g1 : TG3) (tt1 : TT3) (te : TE3) (vs vs1 : List Nat) : TL3 := fun s q x => it s (fun items => ∃ P : Nat → List D → Prop, P 0 [] ∧
  (∀ (i : Nat) m acc, items[i]? = some m → P i acc → g m (wipe3 s vs) fun s2 => tt s2 (fun b => if b = true then it1 s2 (fun items1 => ∃ P1 : Nat → List D → Prop, P1 0 acc ∧
    (∀ (j : Nat) m1 acc1, items1[j]? = some m1 → P1 j acc1 → g1 m1 (wipe3 s2 vs1) fun s3 => tt1 s3 (fun b => if b = true then te s3 (fun f d => (f.isSt || d.flat) = true ∧ acc1.length < sizeLine ∧ P1 (j + 1) (acc1 ++ [d])) (fun _ => False) else P1 (j + 1) acc1) (fun _ => False)) ∧
      ∀ acc1, P1 items1.length acc1 → P (i + 1) acc1) (fun _ => False) else P (i + 1) acc) (fun _ => False)) ∧
  ∀ acc, P items.length acc → q acc) x
def BlkI (X : Cx) (scope : Scope) (tg iter : Expr) : TI := fun σ H R => ∀ (sh : Shared) (H' : Hp) (C : Addr) (cl : List (Str × Addr)) (fp : List Addr), CanI (X.blk sh H' scope (compEnvC scope cl C X.env) fp) tg iter σ H R
theorem blkI (X : Cx) (scope : Scope) (tg iter : Expr) (sh : Shared) (H' : Hp) (C : Addr) (cl : List (Str × Addr)) (fp : List Addr) : PI (X.blk sh H' scope (compEnvC scope cl C X.env) fp) tg iter (BlkI X scope tg iter) := ⟨fun pins s σ H R I h => (canI _ tg iter).run pins s σ H R I (h sh H' C cl fp)⟩
theorem lc23 {elt tg iter tg1 iter1 : Expr} {ifs ifs1 : List Expr} {scope : Scope} {own : List (Str × Nat)} {it it1 : TI3} {g g1 : TG3} {tt tt1 : TT3} {te : TE3} {js js1 vs1 : List Nat} (hi : PI3 X W tg iter it) (hj : ∀ j ∈ js, j ∈ own.map (·.2)) (hj1 : ∀ j ∈ js1, j ∈ vs1)
    (hg : ∀ (s : Shared) (H : Hp) (C : Addr) (cl : List (Str × Addr)) (fp : List Addr), PG3 (X.blk s H scope (compEnvC scope cl C X.env) fp) tg js g) (ht : ∀ (s : Shared) (H : Hp) (C : Addr) (cl : List (Str × Addr)) (fp : List Addr), PTs3 (X.blk s H scope (compEnvC scope cl C X.env) fp) W0 ifs tt)
    (hi1 : ∀ (s : Shared) (H : Hp) (C : Addr) (cl : List (Str × Addr)) (fp : List Addr), PI3 (X.blk s H scope (compEnvC scope cl C X.env) fp) W0 tg1 iter1 it1)
    (hg1 : ∀ (s : Shared) (H : Hp) (C : Addr) (cl : List (Str × Addr)) (fp : List Addr), PG3 (X.blk s H scope (compEnvC scope cl C X.env) fp) tg1 js1 g1) (ht1 : ∀ (s : Shared) (H : Hp) (C : Addr) (cl : List (Str × Addr)) (fp : List Addr), PTs3 (X.blk s H scope (compEnvC scope cl C X.env) fp) W0 ifs1 tt1)
    (he : ∀ (s : Shared) (H : Hp) (C : Addr) (cl : List (Str × Addr)) (fp : List Addr), PE3 (X.blk s H scope (compEnvC scope cl C X.env) fp) W0 elt te)
    {H0 B0 H B : Hp} {σ : St} {s : Store} {q : List D → Prop} {x : Exn → Prop} {Q : VK} (G : Good H0 B0 H B σ s) (h : tLc23 it g tt it1 g1 tt1 te (own.map (·.2)) vs1 s q x)
    (k : ∀ p H1 B1 vs ds, Grow H B H1 B1 → H p = none → H1 p = some (.lst vs) → B1 p = none → Reps B1 vs ds → q ds → Q (.ref p) H1) (kx : ExK W H B σ x) :
    tLc2 (CanI X tg iter) (BlkG X scope tg) (BlkT X scope ifs) (BlkI X scope tg1 iter1) (BlkG X scope tg1) (BlkT X scope ifs1) (BlkE X scope elt) (own.map (·.2)) vs1 σ H Q := by
  refine hi.run H0 B0 H B σ s _ x _ G h (fun J H1 B1 items g1' wk ⟨P, p0, turn, fin⟩ D hD => ?_) kx
  have G1 := G.grow g1'
  have G1w := G1.wipe (own.map (·.2))
  have D0 : H0 D = none := G1.g.h.free hD
  have gone : ∀ {o : HO}, Grow H1 B1 (upd H1 D o) B1 := fun {o} => .drop g1'.bh hD
  refine ⟨fun i m H' => m = items.length - i ∧ i ≤ items.length ∧ ∃ B' acc vs, Grow H1 B1 H' B' ∧ B' D = none ∧ H' D = some (.lst vs) ∧ Reps B' vs acc ∧ P i acc, ⟨items.length, rfl, Nat.zero_le _, B1, [], [], gone, g1'.bh.free hD, upd_same, .nil, p0⟩, ?_⟩
  rintro i m H' ⟨rfl, hi', B', acc, vs, g2, hBD, hHD, rs, pi⟩
  obtain ⟨w1, w2⟩ := wk i H' B' g2.b g2.bh
  by_cases hlt : i < items.length
  · obtain ⟨hgo, hyld⟩ := w1 items[i] (List.getElem?_eq_getElem hlt)
    refine .inr ⟨hgo, fun H2 => ∃ B2 acc2 vs2, Grow H1 B1 H2 B2 ∧ B2 D = none ∧ H2 D = some (.lst vs2) ∧ Reps B2 vs2 acc2 ∧ P (i + 1) acc2, fun H2 ⟨B2, acc2, vs2, z⟩ => ⟨items.length - (i + 1), by omega, rfl, hlt, B2, acc2, vs2, z⟩, fun y H3 hy => ?_⟩
    obtain ⟨B3, g3, ri⟩ := hyld y H3 hy
    have G3 := ((G1.grow g2).wipe (own.map (·.2))).grow g3
    intro sh Hh C cl fp
    refine (hg sh Hh C cl fp).run H0 B0 H3 B3 _ _ y items[i] _ _ G3 ri (turn i items[i] acc (List.getElem?_eq_getElem hlt) pi) fun σ2 s2 G4 ag tq => ⟨wipe_agree ag hj, ?_⟩
    have hno : ∀ (j : Nat) (lj : Sl), s2[j]? = some lj → lj.own = true → σ2[j]? ≠ some (some (.ref D)) := fun j lj e ow z => by
      have e1 := ag.own j lj e ow
      have nj : j ∉ js := fun hjj => by
        have := wipe3_get s (own.map (·.2)) j (hj j hjj) lj e1
        rw [this] at ow
        cases ow
      rw [ag.out j nj] at z
      exact G1w.fresh hD j lj e1 ow z
    intro sh Hh C cl fp
    refine (ht sh Hh C cl fp).run H0 B0 H3 B3 σ2 s2 _ _ _ G4 tq (fun b H4 B4 g4 q4 => ?_) fun _ _ _ _ _ _ _ z => z.elim
    have g24 := (g2.trans g3).trans g4
    have hD4 : H4 D = some (.lst vs) := g4.h _ _ (g3.h _ _ hHD)
    have hB4 : B4 D = none := g4.new _ _ (g3.h _ _ hHD) (g3.new _ _ hHD hBD)
    cases b with
    | false => exact iteF ⟨B4, acc, vs, g24, hB4, hD4, (rs.mono g3.b).mono g4.b, q4⟩
    | true =>
      refine iteT ?_
      intro sh Hh C cl fp
      refine (hi1 sh Hh C cl fp).run H0 B0 H4 B4 σ2 s2 _ _ _ (G4.grow g4) q4 (fun J1 H5 B5 items1 g5 wk1 ⟨P1, p10, turn1, fin1⟩ => ?_) fun _ _ _ _ _ _ _ z => z.elim
      refine ⟨fun j k H' => k = items1.length - j ∧ j ≤ items1.length ∧ ∃ B' acc1 vs', Good H0 B0 H' B' σ2 s2 ∧ Same B5 B' ∧ Grow H1 B1 H' B' ∧ B' D = none ∧ H' D = some (.lst vs') ∧ Reps B' vs' acc1 ∧ P1 j acc1,
        ⟨items1.length, rfl, Nat.zero_le _, B5, acc, vs, (G4.grow g4).grow g5, .refl _, g24.trans g5, g5.new _ _ hD4 hB4, g5.h _ _ hD4, ((rs.mono g3.b).mono g4.b).mono g5.b, p10⟩, ?_⟩
      rintro j k1 H' ⟨rfl, hj', B', acc1, vs', Gj, eB, gD, hBD', hHD', rs', pj⟩
      obtain ⟨w3, w4⟩ := wk1 j H' B' eB Gj.hb
      by_cases hlt1 : j < items1.length
      · obtain ⟨hgo1, hyld1⟩ := w3 items1[j] (List.getElem?_eq_getElem hlt1)
        refine .inr ⟨hgo1, fun H2 => ∃ B2 acc2 vs2, Good H0 B0 H2 B2 σ2 s2 ∧ Same B5 B2 ∧ Grow H1 B1 H2 B2 ∧ B2 D = none ∧ H2 D = some (.lst vs2) ∧ Reps B2 vs2 acc2 ∧ P1 (j + 1) acc2, fun H2 ⟨B2, acc2, vs2, z⟩ => ⟨items1.length - (j + 1), by omega, rfl, hlt1, B2, acc2, vs2, z⟩, fun y1 H6 hy1 => ?_⟩
        obtain ⟨B6, g6, ri1⟩ := hyld1 y1 H6 hy1
        intro sh Hh C cl fp
        refine (hg1 sh Hh C cl fp).run H0 B0 H6 B6 _ _ y1 items1[j] _ _ ((Gj.grow g6).wipe vs1) ri1 (turn1 j items1[j] acc1 (List.getElem?_eq_getElem hlt1) pj) fun σ3 s3 G7 ag1 tq1 => ⟨wipe_agree ag1 hj1, ?_⟩
        intro sh Hh C cl fp
        refine (ht1 sh Hh C cl fp).run H0 B0 H6 B6 σ3 s3 _ _ _ G7 tq1 (fun b H7 B7 g7 q7 => ?_) fun _ _ _ _ _ _ _ z => z.elim
        have g67 := g6.trans g7
        have hD7 : H7 D = some (.lst vs') := g67.h _ _ hHD'
        have hB7 : B7 D = none := g67.new _ _ hHD' hBD'
        cases b with
        | false => exact iteF ⟨B7, acc1, vs', Gj.grow g67, eB.trans g67.b, gD.trans g67, hB7, hD7, rs'.mono g67.b, q7⟩
        | true =>
          refine iteT ?_
          intro sh Hh C cl fp
          refine (he sh Hh C cl fp).run H0 B0 H7 B7 σ3 s3 _ _ _ (G7.grow g7) q7 (fun v H8 B8 f d g8 r8 q8 => ?_) fun _ _ _ _ _ _ _ z => z.elim
          obtain ⟨hf, hz, hp⟩ := q8
          have g68 := g67.trans g8
          have hB8 : B8 D = none := g8.new _ _ hD7 hB7
          have hD8 : H8 D = some (.lst vs') := g8.h _ _ hD7
          have g28 := gD.trans g68
          refine ⟨vs', hD8, by rw [rs'.length]; exact hz, B8, acc1 ++ [d], vs' ++ [v], (Gj.grow g68).off hD8 D0 hB8 (fun _ z => by cases z) hno, eB.trans g68.b, ⟨fun b u e => ?_, g28.b, fun b u e => ?_, g28.new⟩, hB8, upd_same, (rs'.mono g68.b).app (.one (r8.stab hf)), hp⟩
          · rw [upd_ne (ne_of_none e hD)]
            exact g28.h _ _ e
          · rw [upd_ne (ne_of_none e hB8)]
            exact g28.bh _ _ e
      · have e : j = items1.length := by omega
        subst e
        exact .inl ⟨w4 (Nat.le_refl _), B', acc1, vs', gD, hBD', hHD', rs', fin1 acc1 pj⟩
  · have e : i = items.length := by omega
    subst e
    exact .inl ⟨w2 (Nat.le_refl _), k D H' B' vs acc (g1'.trans g2) (g1'.h.free hD) hHD hBD rs (fin acc pi)⟩
theorem l3lc2 {elt tg iter tg1 iter1 : Expr} {ifs ifs1 : List Expr} {scope : Scope} {own : List (Str × Nat)} {it it1 : TI3} {g g1 : TG3} {tt tt1 : TT3} {te : TE3} {js js1 vs1 : List Nat} (hc : X.calm = true) (hN : X.N.Nodup) (ok : BlkOk X.N X.env.scope scope own) (hi : PI3 X W tg iter it) (hj : ∀ j ∈ js, j ∈ own.map (·.2)) (hj1 : ∀ j ∈ js1, j ∈ vs1)
    (hg : ∀ (s : Shared) (H : Hp) (C : Addr) (cl : List (Str × Addr)) (fp : List Addr), PG3 (X.blk s H scope (compEnvC scope cl C X.env) fp) tg js g) (ht : ∀ (s : Shared) (H : Hp) (C : Addr) (cl : List (Str × Addr)) (fp : List Addr), PTs3 (X.blk s H scope (compEnvC scope cl C X.env) fp) W0 ifs tt)
    (hi1 : ∀ (s : Shared) (H : Hp) (C : Addr) (cl : List (Str × Addr)) (fp : List Addr), PI3 (X.blk s H scope (compEnvC scope cl C X.env) fp) W0 tg1 iter1 it1)
    (hg1 : ∀ (s : Shared) (H : Hp) (C : Addr) (cl : List (Str × Addr)) (fp : List Addr), PG3 (X.blk s H scope (compEnvC scope cl C X.env) fp) tg1 js1 g1) (ht1 : ∀ (s : Shared) (H : Hp) (C : Addr) (cl : List (Str × Addr)) (fp : List Addr), PTs3 (X.blk s H scope (compEnvC scope cl C X.env) fp) W0 ifs1 tt1)
    (he : ∀ (s : Shared) (H : Hp) (C : Addr) (cl : List (Str × Addr)) (fp : List Addr), PE3 (X.blk s H scope (compEnvC scope cl C X.env) fp) W0 elt te) (hv : ∀ i ∈ vs1, i ∈ own.map (·.2)) (hs : ∀ x, foldedSetIterable iter X.env x = pure x := by intro _; rfl) (hs1 : ∀ env x, foldedSetIterable iter1 env x = pure x := by intro _ _; rfl) :
    PL3 X W (.ListComp elt [⟨tg, iter, ifs, 0⟩, ⟨tg1, iter1, ifs1, 0⟩] scope pos) (tLc23 it g tt it1 g1 tt1 te (own.map (·.2)) vs1) :=
  ⟨fun H0 B0 H B σ s q x Q G h k kx => ⟨_, pe_lc2 hc hN (canI X tg iter) ok hv (blkG X scope tg) (blkT X scope ifs) (blkI X scope tg1 iter1) (blkG X scope tg1) (blkT X scope ifs1) (blkE X scope elt) hs hs1, lc23 hi hj hj1 hg ht hi1 hg1 ht1 he G h k kx⟩⟩
end
end L3

/-! L3k: readings: loops and comprehensions by what is walked; the words that unfold a reading. -/
namespace L3
open PySem PySem.Spec L2 PySem.W
open PyProof.Rows hiding St
open EncD (enc)

/-- a loop over these items -/
def forP (items : List Itm) (g : TG3) (tb : TS3) (E : Ends3) (s : Store) : Prop := ∃ P : Nat → Store → Prop, P 0 s ∧
  (∀ (i : Nat) m s', items[i]? = some m → P i s' → g m s' fun s2 => tb { E with nx := P (i + 1), ct := P (i + 1), bk := E.nx } s2) ∧ ∀ s', P items.length s' → E.nx s'
theorem tFor3_eq (it : TI3) (g : TG3) (tb : TS3) (E : Ends3) (s : Store) : tFor3 it g tb E s = it s (fun items => forP items g tb E s) (fun e => E.ex e s) := rfl
/-- .. by a list, I what holds behind a beginning of it -/
theorem forP_of {α : Type} {f : α → Itm} {xs : List α} {g : TG3} {tb : TS3} {E : Ends3} {s : Store} (I : List α → Store → Prop) (h0 : I [] s)
    (step : ∀ ys x rest s', xs = ys ++ x :: rest → I ys s' → g (f x) s' fun s2 => tb { E with nx := I (ys ++ [x]), ct := I (ys ++ [x]), bk := E.nx } s2) (fin : ∀ s', I xs s' → E.nx s') : forP (xs.map f) g tb E s := by
  refine ⟨fun i => I (xs.take i), h0, fun i m s' e hI => ?_, fun s' h => fin s' ?_⟩
  · rw [List.getElem?_map] at e
    obtain ⟨x, ex, rfl⟩ := map_some e
    obtain ⟨hi, hx⟩ := List.getElem?_eq_some_iff.mp ex
    have e1 : xs.take (i + 1) = xs.take i ++ [x] := by rw [List.take_succ, ex] <;> rfl
    show g (f x) s' fun s2 => tb { E with nx := I (xs.take (i + 1)), ct := I (xs.take (i + 1)), bk := E.nx } s2
    rw [e1]
    refine step (xs.take i) x (xs.drop (i + 1)) s' ?_ hI
    rw [← hx, List.getElem_cons_drop, List.take_append_drop]
  · have h' : I (xs.take (xs.map f).length) s' := h
    rwa [List.length_map, List.take_length] at h'
theorem forP_d {α : Type} {f : α → D} {xs : List α} {g : TG3} {tb : TS3} {E : Ends3} {s : Store} (I : List α → Store → Prop) (h0 : I [] s)
    (step : ∀ ys x rest s', xs = ys ++ x :: rest → I ys s' → g (.d (f x)) s' fun s2 => tb { E with nx := I (ys ++ [x]), ct := I (ys ++ [x]), bk := E.nx } s2) (fin : ∀ s', I xs s' → E.nx s') : forP ((xs.map f).map .d) g tb E s := by
  rw [List.map_map]
  exact forP_of (f := fun x => .d (f x)) I h0 step fin
theorem forP_rg {lo : Int} {n : Nat} {g : TG3} {tb : TS3} {E : Ends3} {s : Store} (I : Nat → Store → Prop) (h0 : I 0 s)
    (step : ∀ i s', i < n → I i s' → g (.d (.int (lo + (i : Nat)))) s' fun s2 => tb { E with nx := I (i + 1), ct := I (i + 1), bk := E.nx } s2) (fin : ∀ s', I n s' → E.nx s') : forP ((rgD lo n).map .d) g tb E s := by
  refine ⟨I, h0, fun i m s' e hI => ?_, fun s' h => fin s' ?_⟩
  · unfold rgD at e
    rw [List.map_map, List.getElem?_map] at e
    obtain ⟨j, ej, rfl⟩ := map_some e
    obtain ⟨hj, e3⟩ := List.getElem?_eq_some_iff.mp ej
    rw [List.length_range] at hj
    rw [List.getElem_range] at e3
    subst e3
    exact step i s' hj hI
  · unfold rgD at h
    rwa [List.length_map, List.length_map, List.length_range] at h
/-- a comprehension over these items -/
def lcP (items : List Itm) (g : TG3) (tt : TT3) (te : TE3) (w : Store) (q : List D → Prop) : Prop := ∃ P : Nat → List D → Prop, P 0 [] ∧
  (∀ (i : Nat) m acc, items[i]? = some m → P i acc → g m w fun s2 => tt s2 (fun b => if b = true then te s2 (fun f d => (f.isSt || d.flat) = true ∧ acc.length < sizeLine ∧ P (i + 1) (acc ++ [d])) (fun _ => False) else P (i + 1) acc) (fun _ => False)) ∧
  ∀ acc, P items.length acc → q acc
theorem tLc3_eq (it : TI3) (g : TG3) (tt : TT3) (te : TE3) (vs : List Nat) (s : Store) (q : List D → Prop) (x : Exn → Prop) : tLc3 it g tt te vs s q x = it s (fun items => lcP items g tt te (wipe3 s vs) q) x := rfl
theorem lcP_of {α : Type} {f : α → Itm} {xs : List α} {g : TG3} {tt : TT3} {te : TE3} {w : Store} {q : List D → Prop} (p : α → Bool) (h : α → D) (hz : xs.length ≤ sizeLine)
    (step : ∀ x ∈ xs, ∀ (acc : List D) (R : List D → Prop), acc.length < sizeLine → R (acc ++ if p x = true then [h x] else []) → g (f x) w fun s2 => tt s2 (fun b => if b = true then te s2 (fun fl d => (fl.isSt || d.flat) = true ∧ acc.length < sizeLine ∧ R (acc ++ [d])) (fun _ => False) else R acc) (fun _ => False))
    (fin : q ((xs.filter p).map h)) : lcP (xs.map f) g tt te w q := by
  refine ⟨fun i acc => acc = ((xs.take i).filter p).map h, rfl, fun i m acc e hI => ?_, fun acc h' => ?_⟩
  · rw [List.getElem?_map] at e
    obtain ⟨x, ex, rfl⟩ := map_some e
    obtain ⟨hi, hx⟩ := List.getElem?_eq_some_iff.mp ex
    have e1 : xs.take (i + 1) = xs.take i ++ [x] := by rw [List.take_succ, ex] <;> rfl
    refine step x (List.mem_of_getElem? ex) acc (fun acc => acc = ((xs.take (i + 1)).filter p).map h) ?_ ?_
    · rw [hI, List.length_map]
      have h1 := List.length_filter_le p (xs.take i)
      have h2 := List.length_take_le i xs
      rw [List.length_take] at h1
      omega
    · rw [e1, hI, List.filter_append, List.map_append]
      by_cases hp : p x = true
      · rw [if_pos hp, List.filter_cons_of_pos hp] <;> rfl
      · rw [if_neg hp, List.filter_cons_of_neg hp] <;> rfl
  · have h'' : acc = ((xs.take (xs.map f).length).filter p).map h := h'
    rw [List.length_map, List.take_length] at h''
    rw [h'']
    exact fin
theorem lcP_d {α : Type} {f : α → D} {xs : List α} {g : TG3} {tt : TT3} {te : TE3} {w : Store} {q : List D → Prop} (p : α → Bool) (h : α → D) (hz : xs.length ≤ sizeLine)
    (step : ∀ x ∈ xs, ∀ (acc : List D) (R : List D → Prop), acc.length < sizeLine → R (acc ++ if p x = true then [h x] else []) → g (.d (f x)) w fun s2 => tt s2 (fun b => if b = true then te s2 (fun fl d => (fl.isSt || d.flat) = true ∧ acc.length < sizeLine ∧ R (acc ++ [d])) (fun _ => False) else R acc) (fun _ => False))
    (fin : q ((xs.filter p).map h)) : lcP ((xs.map f).map .d) g tt te w q := by
  rw [List.map_map]
  exact lcP_of (f := fun x => .d (f x)) p h hz step fin
/-- .. without a test -/
theorem lcP_all {α : Type} {f : α → D} {xs : List α} {g : TG3} {te : TE3} {w : Store} {q : List D → Prop} (h : α → D) (hz : xs.length ≤ sizeLine)
    (step : ∀ x ∈ xs, ∀ (Z : Fl → D → Prop), (∀ fl, (fl.isSt || (h x).flat) = true → Z fl (h x)) → g (.d (f x)) w fun s2 => te s2 Z (fun _ => False)) (fin : q (xs.map h)) : lcP ((xs.map f).map .d) g tYes3 te w q := by
  refine lcP_d (fun _ => true) h hz (fun x hx acc R ha hR => ?_) ?_
  · simp only [tYes3, if_true] at hR ⊢
    exact step x hx _ fun fl hf => ⟨hf, ha, hR⟩
  · rw [List.filter_eq_self.mpr (fun _ _ => rfl)]
    exact fin
/-- a row, a list or a tuple -/
def sq (b : Bool) (ds : List D) : D := if b = true then .tup ds else .lst ds
abbrev intsD (xs : List Int) : List D := xs.map D.int

/-- the items of a row -/
def seqK (f : Fl) (d : D) (k : List D → Prop) : Prop := match d with
  | .lst ds => cond f.isSt (k ds) False
  | .tup ds => cond f.isSt (k ds) False
  | .frl ds => cond f.isSt (k ds) False
  | _ => False
theorem tSeq3I_eq (ta : TE3) (s : Store) (q : List Itm → Prop) (x : Exn → Prop) : tSeq3I ta s q x = ta s (fun f d => seqK f d fun ds => q (ds.map .d)) x := by
  unfold tSeq3I seqK
  congr 1
theorem seqK_lst (f : Fl) (ds : List D) (k : List D → Prop) : seqK f (.lst ds) k = cond f.isSt (k ds) False := rfl
theorem seqK_tup (f : Fl) (ds : List D) (k : List D → Prop) : seqK f (.tup ds) k = cond f.isSt (k ds) False := rfl
theorem seqK_frl (f : Fl) (ds : List D) (k : List D → Prop) : seqK f (.frl ds) k = cond f.isSt (k ds) False := rfl
theorem seqK_sq (f : Fl) (b : Bool) (ds : List D) (k : List D → Prop) : seqK f (sq b ds) k = cond f.isSt (k ds) False := by cases b <;> rfl
theorem oTup_lst (f : Fl) (ds : List D) (q : Fl → D → Prop) : oTup f (.lst ds) q = cond f.nb (q .st (.tup ds)) False := rfl
theorem oTup_tup (f : Fl) (ds : List D) (q : Fl → D → Prop) : oTup f (.tup ds) q = cond f.isSt (q .st (.tup ds)) False := rfl
theorem oTup_sq (b : Bool) (ds : List D) (q : Fl → D → Prop) : oTup .st (sq b ds) q = q .st (.tup ds) := by cases b <;> rfl
theorem oList_lst (f : Fl) (ds : List D) (q : List D → Prop) : oList f (.lst ds) q = cond f.nb (q ds) False := rfl
theorem oList_tup (f : Fl) (ds : List D) (q : List D → Prop) : oList f (.tup ds) q = cond f.isSt (q ds) False := rfl
theorem oList_sq (b : Bool) (ds : List D) (q : List D → Prop) : oList .st (sq b ds) q = q ds := by cases b <;> rfl
theorem oLen_lst (f : Fl) (ds : List D) (q : Fl → D → Prop) : oLen f (.lst ds) q = q .st (.int ds.length) := rfl
theorem oLen_tup (f : Fl) (ds : List D) (q : Fl → D → Prop) : oLen f (.tup ds) q = q .st (.int ds.length) := rfl
theorem oLen_frl (f : Fl) (ds : List D) (q : Fl → D → Prop) : oLen f (.frl ds) q = q .st (.int ds.length) := rfl
theorem oLen_sq (f : Fl) (b : Bool) (ds : List D) (q : Fl → D → Prop) : oLen f (sq b ds) q = q .st (.int ds.length) := by cases b <;> rfl
theorem oIx_lst (f g : Fl) (ds : List D) (k : Int) (q : Fl → D → Prop) : oIx f (.lst ds) g (.int k) q = ∃ d, atI ds k = some d ∧ q (f.item d) d := rfl
theorem oIx_tup (f g : Fl) (ds : List D) (k : Int) (q : Fl → D → Prop) : oIx f (.tup ds) g (.int k) q = ∃ d, atI ds k = some d ∧ q (f.item d) d := rfl
theorem oIx_frl (f g : Fl) (ds : List D) (k : Int) (q : Fl → D → Prop) : oIx f (.frl ds) g (.int k) q = ∃ d, atI ds k = some d ∧ q (f.item d) d := rfl
theorem oIx_sq (b : Bool) (f g : Fl) (ds : List D) (k : Int) (q : Fl → D → Prop) : oIx f (sq b ds) g (.int k) q = ∃ d, atI ds k = some d ∧ q (f.item d) d := by cases b <;> rfl
theorem oIx_dT (f g : Fl) (kvs : List (List Int × D)) (x : D) (q : Fl → D → Prop) : oIx f (.dT kvs) g x q = getD x f (.dT kvs) q := rfl
theorem oIx_dK (f g : Fl) (kvs : List (Key × D)) (x : D) (q : Fl → D → Prop) : oIx f (.dK kvs) g x q = getD x f (.dK kvs) q := rfl
theorem isNon_non : isNon .non = true := rfl
theorem isNon_lst (ds : List D) : isNon (.lst ds) = false := rfl
theorem isNon_tup (ds : List D) : isNon (.tup ds) = false := rfl
theorem isNon_int (i : Int) : isNon (.int i) = false := rfl
theorem isNon_bl (i : Bool) : isNon (.bl i) = false := rfl
theorem isNon_str (i : Str) : isNon (.str i) = false := rfl
theorem isNon_sq (b : Bool) (ds : List D) : isNon (sq b ds) = false := by cases b <;> rfl
theorem ty_ii (i : Int) : isTy "int" (.int i) = true := rfl
theorem ty_bi (i : Int) : isTy "bool" (.int i) = false := rfl
theorem ty_tt (ds : List D) : isTy "tuple" (.tup ds) = true := rfl
theorem ty_tl (ds : List D) : isTy "tuple" (.lst ds) = false := rfl
theorem ty_ti (i : Int) : isTy "tuple" (.int i) = false := rfl
theorem ty_tn : isTy "tuple" .non = false := rfl
theorem ty_lt (ds : List D) : isTy "list" (.tup ds) = false := rfl
theorem ty_ll (ds : List D) : isTy "list" (.lst ds) = true := rfl
theorem ty_ib (b : Bool) : isTy "int" (.bl b) = true := rfl
theorem ty_bb (b : Bool) : isTy "bool" (.bl b) = true := rfl
theorem ni_int (i : Int) : noIns (.int i) = true := rfl
theorem ni_tup (ds : List D) : noIns (.tup ds) = true := rfl
theorem ni_lst (ds : List D) : noIns (.lst ds) = true := rfl
theorem ni_bl (b : Bool) : noIns (.bl b) = true := rfl
theorem ni_non : noIns .non = true := rfl
theorem eqD_int (i j : Int) (k : Bool → Prop) : eqD (.int i) (.int j) k = k (decide (i = j)) := rfl
theorem eqD_str (i j : Str) (k : Bool → Prop) : eqD (.str i) (.str j) k = k (decide (i = j)) := rfl
theorem eqD_bl (i j : Bool) (k : Bool → Prop) : eqD (.bl i) (.bl j) k = k (decide (i = j)) := rfl
theorem eqD_non (k : Bool → Prop) : eqD .non .non k = k true := rfl
theorem eqD_tup (a b : List D) (k : Bool → Prop) : eqD (.tup a) (.tup b) k = eqG (.tup a) (.tup b) k := rfl
theorem eqD_lst (a b : List D) (k : Bool → Prop) : eqD (.lst a) (.lst b) k = eqG (.lst a) (.lst b) k := rfl
theorem oLt_int (f g : Fl) (i j : Int) (q : Fl → D → Prop) : oLt f (.int i) g (.int j) q = q .st (.bl (decide (i < j))) := rfl
theorem oLt_tup (f g : Fl) (a b : List D) (q : Fl → D → Prop) : oLt f (.tup a) g (.tup b) q = (ltG (.tup a) (.tup b) fun b _ => q .st (.bl b)) := rfl
theorem oGt_int (f g : Fl) (i j : Int) (q : Fl → D → Prop) : oGt f (.int i) g (.int j) q = q .st (.bl (decide (j < i))) := rfl
theorem oGt_tup (f g : Fl) (a b : List D) (q : Fl → D → Prop) : oGt f (.tup a) g (.tup b) q = (ltG (.tup a) (.tup b) fun _ b => q .st (.bl b)) := rfl
theorem oLe_int (f g : Fl) (i j : Int) (q : Fl → D → Prop) : oLe f (.int i) g (.int j) q = q .st (.bl (decide (i ≤ j))) := rfl
theorem oLe_tup (f g : Fl) (a b : List D) (q : Fl → D → Prop) : oLe f (.tup a) g (.tup b) q = (ltG (.tup a) (.tup b) fun _ b => q .st (.bl (!b))) := rfl
theorem oGe_int (f g : Fl) (i j : Int) (q : Fl → D → Prop) : oGe f (.int i) g (.int j) q = q .st (.bl (decide (j ≤ i))) := rfl
theorem oGe_tup (f g : Fl) (a b : List D) (q : Fl → D → Prop) : oGe f (.tup a) g (.tup b) q = (ltG (.tup a) (.tup b) fun b _ => q .st (.bl (!b))) := rfl
theorem flat_sq (b : Bool) (ds : List D) : (sq b ds).flat = false := by cases b <;> rfl
/-- a comprehension with two clauses over these items -/
def lc2P (items : List Itm) (g : TG3) (tt : TT3) (it1 : TI3) (g1 : TG3) (tt1 : TT3) (te : TE3) (w : Store) (vs1 : List Nat) (q : List D → Prop) : Prop := ∃ P : Nat → List D → Prop, P 0 [] ∧
  (∀ (i : Nat) m acc, items[i]? = some m → P i acc → g m w fun s2 => tt s2 (fun b => if b = true then it1 s2 (fun items1 => ∃ P1 : Nat → List D → Prop, P1 0 acc ∧
    (∀ (j : Nat) m1 acc1, items1[j]? = some m1 → P1 j acc1 → g1 m1 (wipe3 s2 vs1) fun s3 => tt1 s3 (fun b => if b = true then te s3 (fun f d => (f.isSt || d.flat) = true ∧ acc1.length < sizeLine ∧ P1 (j + 1) (acc1 ++ [d])) (fun _ => False) else P1 (j + 1) acc1) (fun _ => False)) ∧
      ∀ acc1, P1 items1.length acc1 → P (i + 1) acc1) (fun _ => False) else P (i + 1) acc) (fun _ => False)) ∧
  ∀ acc, P items.length acc → q acc
theorem tLc23_eq (it : TI3) (g : TG3) (tt : TT3) (it1 : TI3) (g1 : TG3) (tt1 : TT3) (te : TE3) (vs vs1 : List Nat) (s : Store) (q : List D → Prop) (x : Exn → Prop) : tLc23 it g tt it1 g1 tt1 te vs vs1 s q x = it s (fun items => lc2P items g tt it1 g1 tt1 te (wipe3 s vs) vs1 q) x := rfl
theorem length_filter_take {α : Type} (p : α → Bool) (ys : List α) (j : Nat) (hj : j ≤ ys.length) : ((ys.take j).filter p).length ≤ j := by
  have h1 := List.length_filter_le p (ys.take j)
  rw [List.length_take] at h1
  omega
theorem lc2P_d {α β : Type} {f : α → D} {xs : List α} {f1 : β → D} {ys : List β} {g : TG3} {it1 : TI3} {g1 : TG3} {tt1 : TT3} {te : TE3} {w : Store} {vs1 : List Nat} {q : List D → Prop} (w2 : α → Store) (p : α → β → Bool) (h : α → β → D) (hz : xs.length * ys.length ≤ sizeLine)
    (hg : ∀ x (Z : Store → Prop), Z (w2 x) → g (.d (f x)) w Z) (hi : ∀ x (Z : List Itm → Prop), Z ((ys.map f1).map .d) → it1 (w2 x) Z (fun _ => False))
    (step : ∀ x ∈ xs, ∀ y ∈ ys, ∀ (acc : List D) (R : List D → Prop), acc.length < sizeLine → R (acc ++ if p x y = true then [h x y] else []) → g1 (.d (f1 y)) (wipe3 (w2 x) vs1) fun s2 => tt1 s2 (fun b => if b = true then te s2 (fun fl d => (fl.isSt || d.flat) = true ∧ acc.length < sizeLine ∧ R (acc ++ [d])) (fun _ => False) else R acc) (fun _ => False))
    (fin : q (xs.flatMap fun x => (ys.filter (p x)).map (h x))) : lc2P ((xs.map f).map .d) g tYes3 it1 g1 tt1 te w vs1 q := by
  refine ⟨fun i acc => acc = (xs.take i).flatMap (fun x => (ys.filter (p x)).map (h x)) ∧ acc.length ≤ i * ys.length, ⟨rfl, Nat.zero_le _⟩, fun i m acc e hI => ?_, fun acc h' => ?_⟩
  · rw [List.map_map, List.getElem?_map] at e
    obtain ⟨x, ex, rfl⟩ := map_some e
    obtain ⟨hi', hx⟩ := List.getElem?_eq_some_iff.mp ex
    have e1 : xs.take (i + 1) = xs.take i ++ [x] := by rw [List.take_succ, ex] <;> rfl
    have hm : (i + 1) * ys.length ≤ xs.length * ys.length := Nat.mul_le_mul_right _ hi'
    rw [Nat.add_mul, Nat.one_mul] at hm
    refine hg x _ ?_
    simp only [tYes3, if_true]
    refine hi x _ ?_
    refine ⟨fun j acc1 => acc1 = acc ++ ((ys.take j).filter (p x)).map (h x), by simp, fun j m1 acc1 e' hJ => ?_, fun acc1 hJ => ?_⟩
    · rw [List.map_map, List.getElem?_map] at e'
      obtain ⟨y, ey, rfl⟩ := map_some e'
      obtain ⟨hj, hy⟩ := List.getElem?_eq_some_iff.mp ey
      have e2 : ys.take (j + 1) = ys.take j ++ [y] := by rw [List.take_succ, ey] <;> rfl
      refine step x (List.mem_of_getElem? ex) y (List.mem_of_getElem? ey) acc1 (fun acc1 => acc1 = acc ++ ((ys.take (j + 1)).filter (p x)).map (h x)) ?_ ?_
      · rw [hJ, List.length_append, List.length_map]
        have h1 := length_filter_take (p x) ys j (by omega)
        have := hI.2
        omega
      · rw [e2, hJ, List.filter_append, List.map_append, List.append_assoc]
        congr 1
        by_cases hp : p x y = true
        · rw [if_pos hp, List.filter_cons_of_pos hp] <;> rfl
        · rw [if_neg hp, List.filter_cons_of_neg hp] <;> rfl
    · have hJ' : acc1 = acc ++ ((ys.take (((ys.map f1).map Itm.d).length)).filter (p x)).map (h x) := hJ
      rw [List.length_map, List.length_map, List.take_length] at hJ'
      refine ⟨?_, ?_⟩
      · rw [e1, List.flatMap_append, ← hI.1, hJ']
        simp
      · rw [hJ', List.length_append, List.length_map, Nat.add_mul, Nat.one_mul]
        have h1 := List.length_filter_le (p x) ys
        have := hI.2
        omega
  · have h'' : acc = (xs.take (((xs.map f).map Itm.d).length)).flatMap (fun x => (ys.filter (p x)).map (h x)) := h'.1
    rw [List.length_map, List.length_map, List.take_length] at h''
    rw [h'']
    exact fin
theorem lt_line {n : Nat} (h : n ≤ 1000000) : n < sizeLine := by rw [sizeLine_eq]; omega
theorem le_line {n : Nat} (h : n ≤ 1000000) : n ≤ sizeLine := by rw [sizeLine_eq]; omega
/-- puK, atK -/
theorem atK_puK {κ : Type} [DecidableEq κ] (kvs : List (κ × D)) (k j : κ) (d : D) : atK (puK kvs k d) j = if j = k then some d else atK kvs j := by
  have app : ∀ kvs : List (κ × D), atK (kvs ++ [(k, d)]) j = match atK kvs j with
      | some e => some e
      | none => if j = k then some d else none := fun kvs => by
    induction kvs with
    | nil =>
      unfold atK
      by_cases h : k = j
      · subst h; simp
      · have h' : ¬ j = k := fun z => h z.symm
        simp [h, h']
    | cons p r ih =>
      unfold atK at ih ⊢
      rw [List.cons_append, List.find?_cons, List.find?_cons]
      by_cases h : p.1 = j
      · simp [h]
      · simp only [h, decide_false]
        exact ih
  have map : ∀ kvs : List (κ × D), (kvs.any fun p => decide (p.1 = k)) = true → atK (kvs.map fun p => if p.1 = k then (p.1, d) else p) j = if j = k then some d else atK kvs j := fun kvs => by
    induction kvs with
    | nil => intro h; simp at h
    | cons p r ih =>
      intro h
      unfold atK at ih ⊢
      rw [List.map_cons, List.find?_cons, List.find?_cons]
      by_cases hp : p.1 = k
      · simp only [hp, if_true]
        by_cases hj : k = j
        · subst hj; simp
        · have hj' : ¬ j = k := fun z => hj z.symm
          simp only [hj, decide_false, hj', if_false]
          by_cases hr : (r.any fun p => decide (p.1 = k)) = true
          · have := ih hr
            rw [if_neg hj'] at this
            exact this
          · have hr' : ∀ x ∈ r, ¬ x.1 = k := fun x hx hk => hr (List.any_eq_true.mpr ⟨x, hx, decide_eq_true hk⟩)
            have : (r.map fun p => if p.1 = k then (k, d) else p) = r := by
              conv => rhs; rw [← List.map_id r]
              refine List.map_congr_left fun x hx => ?_
              rw [if_neg (hr' x hx)] <;> rfl
            have e2 : (r.map fun p => if p.1 = k then (p.1, d) else p) = r := by
              conv => rhs; rw [← List.map_id r]
              refine List.map_congr_left fun x hx => ?_
              rw [if_neg (hr' x hx)] <;> rfl
            rw [e2]
      · simp only [hp, if_false]
        have h' : (r.any fun p => decide (p.1 = k)) = true := by simpa [hp] using h
        have := ih h'
        by_cases hj : p.1 = j
        · have hjk : ¬ j = k := fun z => hp (hj.trans z)
          simp only [hj, decide_true, if_neg hjk]
        · simp only [hj, decide_false]
          exact this
  unfold puK
  by_cases h : (kvs.any fun p => decide (p.1 = k)) = true
  · rw [if_pos h, map kvs h]
  · rw [if_neg h, app kvs]
    have hn : ¬ (atK kvs k).isSome = true := by rw [← atK_any]; exact h
    by_cases hj : j = k
    · subst hj
      cases e : atK kvs j with
      | none => rfl
      | some x => rw [e] at hn; exact absurd rfl hn
    · rw [if_neg hj]
      cases e : atK kvs j with
      | none => simp [hj]
      | some x => simp [hj]
theorem puK_length {κ : Type} [DecidableEq κ] (kvs : List (κ × D)) (k : κ) (d : D) : (puK kvs k d).length ≤ kvs.length + 1 := by
  unfold puK
  split
  · rw [List.length_map]; omega
  · rw [List.length_append]; exact Nat.le_refl _
theorem whileP {tt : TT3} {tb : TS3} {E : Ends3} {s : Store} (P : Store → Prop) (μ : Store → Nat) (h0 : P s)
    (turn : ∀ s', P s' → tt s' (fun b => if b = true then tb { E with nx := fun s2 => P s2 ∧ μ s2 < μ s', ct := fun s2 => P s2 ∧ μ s2 < μ s', bk := E.nx } s' else E.nx s') (fun e => E.ex e s')) : tWhile3 tt tb E s := ⟨P, μ, h0, turn⟩
/-- how long the row in a slot is -/
def rowLen (s : Store) (i : Nat) : Nat := match s[i]? with
  | some (.va (.tup ds)) => ds.length
  | some (.va (.lst ds)) => ds.length
  | some (.ow ds) => ds.length
  | _ => 0
theorem at0 {α : Type} (x : α) (r : List α) : atI (x :: r) 0 = some x := atI_nat (j := 0) rfl
theorem at_map {α : Type} {f : α → D} {xs : List α} {k : Nat} (h : k < xs.length) : atI (xs.map f) (k : Int) = some (f xs[k]) := atI_nat (by rw [List.getElem?_map, List.getElem?_eq_getElem h] <;> rfl)
theorem ixN_nat {n k : Nat} (h : k < n) : ixN n (k : Int) = some k := by
  unfold ixN
  rw [if_pos (by omega), if_pos (by omega)]
  rfl
theorem intsD_snoc (xs : List Int) (x : Int) : intsD (xs ++ [x]) = intsD xs ++ [D.int x] := by simp
theorem lcP_rg {lo : Int} {n : Nat} {g : TG3} {tt : TT3} {te : TE3} {w : Store} {q : List D → Prop} (p : Nat → Bool) (h : Nat → D) (hz : n ≤ sizeLine)
    (step : ∀ i, i < n → ∀ (acc : List D) (R : List D → Prop), acc.length < sizeLine → R (acc ++ if p i = true then [h i] else []) → g (.d (.int (lo + (i : Nat)))) w fun s2 => tt s2 (fun b => if b = true then te s2 (fun fl d => (fl.isSt || d.flat) = true ∧ acc.length < sizeLine ∧ R (acc ++ [d])) (fun _ => False) else R acc) (fun _ => False))
    (fin : q (((List.range n).filter p).map h)) : lcP ((rgD lo n).map .d) g tt te w q :=
  lcP_d (f := fun i : Nat => D.int (lo + (i : Nat))) (xs := List.range n) p h (by rw [List.length_range]; exact hz) (fun x hx => step x (List.mem_range.mp hx)) fin
theorem intsD_set (xs : List Int) (k : Nat) (x : Int) : intsD (xs.set k x) = (intsD xs).set k (D.int x) := List.map_set
/-- one statement, told what holds behind it -/
theorem seq_mid {t u : TS3} {E : Ends3} {s : Store} (Mid : Store → Prop) (h1 : ∀ K : Store → Prop, (∀ st, Mid st → K st) → t { E with nx := K } s) (h2 : ∀ st, Mid st → u E st) : tSeq3 t u E s := h1 (u E) h2
end L3

/-! Traces over a free relation: plain lists of whole numbers. -/
namespace Tr
variable {fr : Int → Int → Bool}
/-- the row without its first x, if all letters ahead of it are free of x -/
def taken (fr : Int → Int → Bool) : List Int → Int → Option (List Int)
  | [], _ => none
  | y :: r, x => if y = x then some r else if fr y x = true then (taken fr r x).map (y :: ·) else none
/-- what is left behind a beginning -/
def behind (fr : Int → Int → Bool) : List Int → List Int → Option (List Int)
  | [], l => some l
  | x :: s, l => (taken fr l x).bind (behind fr s)
def isF (fr : Int → Int → Bool) (row : List Int) (x : Int) : Bool := (taken fr row x).isSome
/-- the letters that may come first -/
def firsts (fr : Int → Int → Bool) (row : List Int) : List Int := row.filter (isF fr row)
def leastN (fr : Int → Int → Bool) : Nat → List Int → List Int
  | 0, _ => []
  | n + 1, row => match (firsts fr row).min? with
    | none => []
    | some x => x :: leastN fr n (row.erase x)
def least (fr : Int → Int → Bool) (row : List Int) : List Int := leastN fr row.length row
theorem taken_erase : ∀ {row : List Int} {x : Int} {l : List Int}, taken fr row x = some l → l = row.erase x ∧ x ∈ row
  | [], x, l, h => by simp [taken] at h
  | y :: r, x, l, h => by
    unfold taken at h
    by_cases e : y = x
    · subst e
      simp at h
      subst h
      simp
    · rw [if_neg e] at h
      by_cases f : fr y x = true
      · rw [if_pos f] at h
        cases q : taken fr r x with
        | none => rw [q] at h; simp at h
        | some m =>
          rw [q] at h
          simp at h
          obtain ⟨rfl, hm⟩ := taken_erase q
          subst h
          rw [List.erase_cons_tail (by simpa using e)]
          exact ⟨rfl, List.mem_cons_of_mem _ hm⟩
      · rw [if_neg f] at h; simp at h
theorem isF_mem {row : List Int} {x : Int} (h : isF fr row x = true) : x ∈ row := by
  unfold isF at h
  obtain ⟨l, hl⟩ := Option.isSome_iff_exists.mp h
  exact (taken_erase hl).2
theorem taken_of {row : List Int} {x : Int} (h : isF fr row x = true) : taken fr row x = some (row.erase x) := by
  unfold isF at h
  obtain ⟨l, hl⟩ := Option.isSome_iff_exists.mp h
  rw [hl, (taken_erase hl).1]
theorem mem_firsts {row : List Int} {x : Int} : x ∈ firsts fr row ↔ isF fr row x = true := by
  unfold firsts
  rw [List.mem_filter]
  exact ⟨fun h => h.2, fun h => ⟨isF_mem h, h⟩⟩
theorem isF_head (y : Int) (r : List Int) : isF fr (y :: r) y = true := by simp [isF, taken]
/-- .. by what stands ahead: seen -/
theorem isF_cons (y x : Int) (r : List Int) : isF fr (y :: r) x = (decide (y = x) || (fr y x && isF fr r x)) := by
  unfold isF
  rw [taken]
  by_cases e : y = x
  · simp [e]
  · rw [if_neg e]
    by_cases f : fr y x = true
    · rw [if_pos f]
      simp [e, f]
    · rw [if_neg f]
      simp [e, f]
theorem isF_append {a b : List Int} {x : Int} (hx : x ∉ a) : isF fr (a ++ b) x = (a.all (fun y => fr y x) && isF fr b x) := by
  induction a with
  | nil => simp
  | cons y r ih =>
    rw [List.cons_append, isF_cons, ih (fun h => hx (List.mem_cons_of_mem _ h))]
    have : ¬ y = x := fun e => hx (by rw [e]; exact List.mem_cons_self)
    simp [this, Bool.and_assoc]
theorem isF_append_mem {a b : List Int} {x : Int} (hx : x ∈ a) : isF fr (a ++ b) x = isF fr a x := by
  induction a with
  | nil => simp at hx
  | cons y r ih =>
    rw [List.cons_append, isF_cons, isF_cons]
    by_cases e : y = x
    · simp [e]
    · rw [ih (by rcases List.mem_cons.mp hx with h | h; exact absurd h.symm e; exact h)]
/-- the least first letter of a row that is not empty -/
theorem min_first {row : List Int} (h : row ≠ []) : ∃ x, (firsts fr row).min? = some x ∧ isF fr row x = true ∧ ∀ y, isF fr row y = true → x ≤ y := by
  cases row with
  | nil => exact absurd rfl h
  | cons y r =>
    have hm : y ∈ firsts fr (y :: r) := mem_firsts.mpr (isF_head y r)
    cases e : (firsts fr (y :: r)).min? with
    | none => rw [List.min?_eq_none_iff] at e; rw [e] at hm; simp at hm
    | some x =>
      have := List.min?_eq_some_iff.mp e
      exact ⟨x, rfl, mem_firsts.mp this.1, fun z hz => this.2 z (mem_firsts.mpr hz)⟩
theorem leastN_cons {n : Nat} {row : List Int} {x : Int} (hx : isF fr row x = true) (hm : ∀ y, isF fr row y = true → x ≤ y) : leastN fr (n + 1) row = x :: leastN fr n (row.erase x) := by
  have hne : row ≠ [] := fun e => by rw [e] at hx; simp [isF, taken] at hx
  obtain ⟨z, e1, e2, e3⟩ := min_first (fr := fr) hne
  have : z = x := by have := hm z e2; have := e3 x hx; omega
  subst this
  rw [leastN, e1]
theorem least_nil : least fr [] = [] := rfl
theorem least_cons {row : List Int} {x : Int} (hx : isF fr row x = true) (hm : ∀ y, isF fr row y = true → x ≤ y) : least fr row = x :: least fr (row.erase x) := by
  have hl := List.length_erase_of_mem (isF_mem hx)
  have hp : 0 < row.length := List.length_pos_of_mem (isF_mem hx)
  unfold least
  rw [hl]
  obtain ⟨n, hn⟩ : ∃ n, row.length = n + 1 := ⟨row.length - 1, by omega⟩
  rw [hn]
  exact leastN_cons hx hm
theorem least_ind {P : List Int → Prop} (h0 : P []) (h1 : ∀ row x, isF fr row x = true → (∀ y, isF fr row y = true → x ≤ y) → P (row.erase x) → P row) : ∀ row, P row := by
  intro row
  generalize hn : row.length = n
  induction n generalizing row with
  | zero => rw [List.length_eq_zero_iff.mp hn]; exact h0
  | succ n ih =>
    have hne : row ≠ [] := fun e => by rw [e] at hn; simp at hn
    obtain ⟨x, _, e2, e3⟩ := min_first (fr := fr) hne
    exact h1 row x e2 e3 (ih _ (by rw [List.length_erase_of_mem (isF_mem e2), hn]; rfl))

/-! ### what two rows share -/
def sharedN (fr : Int → Int → Bool) : Nat → List Int → List Int → List Int × List Int × List Int
  | 0, a, b => ([], a, b)
  | n + 1, a, b => match ((firsts fr a).filter (isF fr b)).min? with
    | none => ([], a, b)
    | some x => (x :: (sharedN fr n (a.erase x) (b.erase x)).1, (sharedN fr n (a.erase x) (b.erase x)).2)
def shared (fr : Int → Int → Bool) (a b : List Int) : List Int × List Int × List Int := sharedN fr a.length a b
theorem mem_common {a b : List Int} {x : Int} : x ∈ (firsts fr a).filter (isF fr b) ↔ isF fr a x = true ∧ isF fr b x = true := by
  rw [List.mem_filter, mem_firsts]
theorem shared_stop {a b : List Int} (h : ∀ x, isF fr a x = true → isF fr b x = true → False) : shared fr a b = ([], a, b) := by
  unfold shared
  cases e : a.length with
  | zero => rfl
  | succ n =>
    rw [sharedN]
    have : (firsts fr a).filter (isF fr b) = [] := List.eq_nil_iff_forall_not_mem.mpr fun x hx => h x (mem_common.mp hx).1 (mem_common.mp hx).2
    rw [this]
    rfl
theorem shared_step {a b : List Int} {x : Int} (hx : isF fr a x = true) (hy : isF fr b x = true) (hm : ∀ y, isF fr a y = true → isF fr b y = true → x ≤ y) :
    shared fr a b = (x :: (shared fr (a.erase x) (b.erase x)).1, (shared fr (a.erase x) (b.erase x)).2) := by
  have hl := List.length_erase_of_mem (isF_mem hx)
  have hp : 0 < a.length := List.length_pos_of_mem (isF_mem hx)
  unfold shared
  rw [hl]
  obtain ⟨n, hn⟩ : ∃ n, a.length = n + 1 := ⟨a.length - 1, by omega⟩
  rw [hn, Nat.add_sub_cancel, sharedN]
  have : ((firsts fr a).filter (isF fr b)).min? = some x := List.min?_eq_some_iff.mpr ⟨mem_common.mpr ⟨hx, hy⟩, fun y h => hm y (mem_common.mp h).1 (mem_common.mp h).2⟩
  rw [this]
theorem shared_ind {P : List Int → List Int → Prop} (h0 : ∀ a b, (∀ x, isF fr a x = true → isF fr b x = true → False) → P a b)
    (h1 : ∀ a b x, isF fr a x = true → isF fr b x = true → (∀ y, isF fr a y = true → isF fr b y = true → x ≤ y) → P (a.erase x) (b.erase x) → P a b) : ∀ a b, P a b := by
  intro a
  generalize hn : a.length = n
  induction n generalizing a with
  | zero =>
    intro b
    rw [List.length_eq_zero_iff.mp hn]
    exact h0 _ _ fun x hx _ => by simp [isF, taken] at hx
  | succ n ih =>
    intro b
    cases e : ((firsts fr a).filter (isF fr b)).min? with
    | none =>
      rw [List.min?_eq_none_iff] at e
      refine h0 _ _ fun x hx hy => ?_
      have : x ∈ (firsts fr a).filter (isF fr b) := mem_common.mpr ⟨hx, hy⟩
      rw [e] at this
      simp at this
    | some x =>
      obtain ⟨h2, h3⟩ := List.min?_eq_some_iff.mp e
      obtain ⟨h4, h5⟩ := mem_common.mp h2
      exact h1 a b x h4 h5 (fun y hy hz => h3 y (mem_common.mpr ⟨hy, hz⟩)) (ih (a.erase x) (by rw [List.length_erase_of_mem (isF_mem h4), hn]; rfl) (b.erase x))
/-- the pairs of letters that are bound -/
def boundP (fr : Int → Int → Bool) (a b : List Int) : List (Int × Int) := a.flatMap fun x => (b.filter fun y => !fr x y).map fun y => (x, y)
end Tr

/-! Traces: the count of bound letters ahead; equivalent rows; what rows share. -/
namespace Tr
variable {fr : Int → Int → Bool}
/-- what is left: letters with a number that is not negative -/
def leftZ (zs : List (Int × Int)) : List Int := (zs.filter fun p => decide (0 ≤ p.2)).map (·.1)
def cntB (fr : Int → Int → Bool) (acc : List Int) (x : Int) : Nat := (acc.filter fun y => !fr y x).length
def BInv (fr : Int → Int → Bool) : List Int → List (Int × Int) → Prop
  | _, [] => True
  | acc, (x, n) :: r => if 0 ≤ n then n = (cntB fr acc x : Int) ∧ BInv fr (acc ++ [x]) r else BInv fr acc r
theorem leftZ_cons (p : Int × Int) (r : List (Int × Int)) : leftZ (p :: r) = if 0 ≤ p.2 then p.1 :: leftZ r else leftZ r := by
  unfold leftZ
  by_cases h : 0 ≤ p.2
  · rw [if_pos h, List.filter_cons_of_pos (by simpa using h)] <;> rfl
  · rw [if_neg h, List.filter_cons_of_neg (by simpa using h)]
theorem leftZ_app (a b : List (Int × Int)) : leftZ (a ++ b) = leftZ a ++ leftZ b := by
  unfold leftZ
  rw [List.filter_append, List.map_append]
theorem binv_app : ∀ (a b : List (Int × Int)) (acc : List Int), BInv fr acc (a ++ b) ↔ BInv fr acc a ∧ BInv fr (acc ++ leftZ a) b
  | [], b, acc => by simp [BInv, leftZ]
  | (x, n) :: r, b, acc => by
    rw [List.cons_append, BInv, BInv, leftZ_cons]
    by_cases h : 0 ≤ n
    · rw [if_pos h, if_pos h, if_pos h, binv_app r b]
      simp [and_assoc]
    · rw [if_neg h, if_neg h, if_neg h, binv_app r b]
theorem cntB_app (a b : List Int) (x : Int) : cntB fr (a ++ b) x = cntB fr a x + cntB fr b x := by
  unfold cntB
  rw [List.filter_append, List.length_append]
theorem cntB_zero {acc : List Int} {x : Int} : cntB fr acc x = 0 ↔ (acc.all fun y => fr y x) = true := by
  unfold cntB
  rw [List.length_eq_zero_iff, List.filter_eq_nil_iff, List.all_eq_true]
  exact ⟨fun h y hy => by simpa using h y hy, fun h y hy => by simp [h y hy]⟩
theorem not_mem_all {acc : List Int} {x : Int} (irr : ∀ a, fr a a = false) (h : (acc.all fun y => fr y x) = true) : x ∉ acc := fun hm => by
  have := List.all_eq_true.mp h x hm
  rw [irr] at this
  cases this
/-- a letter whose count is 0 may come first -/
theorem z_first {a c : List (Int × Int)} {x : Int} (irr : ∀ a, fr a a = false) (h : BInv fr [] (a ++ (x, 0) :: c)) : isF fr (leftZ (a ++ (x, 0) :: c)) x = true ∧ x ∉ leftZ a := by
  have h2 := ((binv_app a _ []).mp h).2
  rw [List.nil_append, BInv, if_pos (Int.le_refl 0)] at h2
  have h3 : cntB fr (leftZ a) x = 0 := by have := h2.1; omega
  have h4 := cntB_zero.mp h3
  have hn := not_mem_all irr h4
  refine ⟨?_, hn⟩
  rw [leftZ_app, leftZ_cons, if_pos (Int.le_refl 0), isF_append hn, h4, isF_head]
  rfl
/-- .. and the other way -/
theorem first_z (irr : ∀ a, fr a a = false) : ∀ (zs : List (Int × Int)) (acc : List Int) (x : Int), BInv fr acc zs → (acc.all fun y => fr y x) = true → isF fr (leftZ zs) x = true → (x, (0 : Int)) ∈ zs
  | [], acc, x, _, _, h => by simp [leftZ, isF, taken] at h
  | (y, n) :: r, acc, x, h, ha, hf => by
    rw [BInv] at h
    rw [leftZ_cons] at hf
    by_cases hn : 0 ≤ n
    · rw [if_pos hn] at h hf
      rw [isF_cons] at hf
      by_cases e : y = x
      · subst e
        have := cntB_zero.mpr ha
        rw [this] at h
        have h1 : n = 0 := h.1
        rw [h1]
        exact List.mem_cons_self
      · have he : decide (y = x) = false := by simpa using e
        rw [he, Bool.false_or, Bool.and_eq_true] at hf
        exact List.mem_cons_of_mem _ (first_z irr r (acc ++ [y]) x h.2 (by rw [List.all_append, ha]; simp [hf.1]) hf.2)
    · rw [if_neg hn] at h hf
      exact List.mem_cons_of_mem _ (first_z irr r acc x h ha hf)
def lower (fr : Int → Int → Bool) (x : Int) (p : Int × Int) : Int × Int := if fr x p.1 = false then (p.1, p.2 - 1) else p
theorem lower_inv {x : Int} : ∀ (c : List (Int × Int)) (P Q : List Int), BInv fr (P ++ x :: Q) c → BInv fr (P ++ Q) (c.map (lower fr x)) ∧ leftZ (c.map (lower fr x)) = leftZ c
  | [], P, Q, _ => ⟨True.intro, rfl⟩
  | (y, n) :: r, P, Q, h => by
    rw [BInv] at h
    have hc : cntB fr (P ++ x :: Q) y = cntB fr (P ++ Q) y + (if fr x y = false then 1 else 0) := by
      rw [show P ++ x :: Q = P ++ ([x] ++ Q) by simp, cntB_app, cntB_app, cntB_app]
      have : cntB fr [x] y = if fr x y = false then 1 else 0 := by
        unfold cntB
        cases hfx : fr x y <;> simp [hfx]
      rw [this]
      omega
    by_cases hn : 0 ≤ n
    · rw [if_pos hn] at h
      obtain ⟨h1, h2⟩ := h
      rw [List.append_assoc] at h2
      obtain ⟨i1, i2⟩ := lower_inv r P (Q ++ [y]) h2
      rw [← List.append_assoc] at i1
      cases hf : fr x y with
      | false =>
        rw [hf, if_pos rfl] at hc
        have e : lower fr x (y, n) = (y, n - 1) := by simp [lower, hf]
        have hp : 0 ≤ n - 1 := by omega
        rw [List.map_cons, e, BInv, if_pos hp, leftZ_cons, leftZ_cons, if_pos hp, if_pos hn, i2]
        exact ⟨⟨by omega, i1⟩, rfl⟩
      | true =>
        rw [hf, if_neg (by decide)] at hc
        have e : lower fr x (y, n) = (y, n) := by simp [lower, hf]
        rw [List.map_cons, e, BInv, if_pos hn, leftZ_cons, leftZ_cons, if_pos hn, if_pos hn, i2]
        exact ⟨⟨by omega, i1⟩, rfl⟩
    · rw [if_neg hn] at h
      obtain ⟨i1, i2⟩ := lower_inv r P Q h
      have hp : ¬ 0 ≤ (lower fr x (y, n)).2 := by
        unfold lower
        split
        · show ¬ 0 ≤ n - 1; omega
        · exact hn
      have e : lower fr x (y, n) = (y, (lower fr x (y, n)).2) := by unfold lower; split <;> rfl
      rw [List.map_cons, e, BInv, if_neg hp, leftZ_cons, leftZ_cons, if_neg hp, if_neg hn, i2]
      exact ⟨i1, rfl⟩
/-- one turn -/
theorem z_turn {a c : List (Int × Int)} {x : Int} (irr : ∀ a, fr a a = false) (h : BInv fr [] (a ++ (x, 0) :: c)) :
    BInv fr [] (a ++ (x, -1) :: c.map (lower fr x)) ∧ leftZ (a ++ (x, -1) :: c.map (lower fr x)) = (leftZ (a ++ (x, 0) :: c)).erase x := by
  obtain ⟨_, hn⟩ := z_first irr h
  obtain ⟨h1, h2⟩ := (binv_app a _ []).mp h
  rw [List.nil_append, BInv, if_pos (Int.le_refl 0)] at h2
  have h3 := lower_inv c (leftZ a) [] h2.2
  rw [List.append_nil] at h3
  refine ⟨(binv_app a _ []).mpr ⟨h1, ?_⟩, ?_⟩
  · rw [List.nil_append, BInv, if_neg (by decide)]
    exact h3.1
  · rw [leftZ_app, leftZ_cons, if_neg (show ¬ (0 : Int) ≤ -1 by decide), h3.2, leftZ_app, leftZ_cons, if_pos (Int.le_refl 0), List.erase_append_right _ hn, List.erase_cons_head]

/-! ### by places -/
def leftB (row bs : List Int) : List Int := leftZ (row.zip bs)
theorem zip_split {row bs : List Int} (hl : bs.length = row.length) {b : Nat} (hb : b < row.length) : row.zip bs = (row.zip bs).take b ++ (row[b], bs[b]'(by omega)) :: (row.zip bs).drop (b + 1) := by
  have hz : b < (row.zip bs).length := by rw [List.length_zip]; omega
  have : (row.zip bs)[b] = (row[b], bs[b]'(by omega)) := List.getElem_zip
  rw [← this, List.getElem_cons_drop, List.take_append_drop]
theorem b_turn {row bs bs' : List Int} (irr : ∀ a, fr a a = false) (hl : bs.length = row.length) (hl' : bs'.length = row.length) (inv : BInv fr [] (row.zip bs)) {b : Nat} (hb : b < row.length) (h0 : bs[b]'(by omega) = 0)
    (hu : ∀ (p : Nat) (hp : p < row.length), bs'[p]'(by omega) = if p = b then -1 else if b < p ∧ fr row[b] row[p] = false then bs[p]'(by omega) - 1 else bs[p]'(by omega)) :
    isF fr (leftB row bs) row[b] = true ∧ BInv fr [] (row.zip bs') ∧ leftB row bs' = (leftB row bs).erase row[b] := by
  have e := zip_split hl hb
  rw [h0] at e
  have inv' := inv
  rw [e] at inv'
  have e' : row.zip bs' = (row.zip bs).take b ++ (row[b], -1) :: ((row.zip bs).drop (b + 1)).map (lower fr row[b]) := by
    refine List.ext_getElem ?_ fun p h1 h2 => ?_
    · simp only [List.length_zip, List.length_append, List.length_cons, List.length_map, List.length_take, List.length_drop]
      omega
    · have hp : p < row.length := by rw [List.length_zip] at h1; omega
      rw [List.getElem_zip, hu p hp]
      by_cases c1 : p < b
      · rw [List.getElem_append_left (by rw [List.length_take, List.length_zip]; omega), List.getElem_take, List.getElem_zip, if_neg (by omega), if_neg (by omega)]
      · have hlt : ((row.zip bs).take b).length = b := by rw [List.length_take, List.length_zip]; omega
        rw [List.getElem_append_right (by omega)]
        by_cases c2 : p = b
        · subst c2
          rw [if_pos rfl]
          simp [hlt]
        · rw [if_neg c2]
          have c3 : p - ((row.zip bs).take b).length = (p - b - 1) + 1 := by omega
          simp only [c3, List.getElem_cons_succ, List.getElem_map, List.getElem_drop, List.getElem_zip]
          have c4 : b + 1 + (p - b - 1) = p := by omega
          simp only [c4]
          unfold lower
          by_cases c5 : fr row[b] row[p] = false
          · rw [if_pos ⟨by omega, c5⟩, if_pos c5]
          · rw [if_neg (fun h => c5 h.2), if_neg c5]
  have t := z_turn irr inv'
  refine ⟨?_, ?_, ?_⟩
  · unfold leftB
    rw [e]
    exact (z_first irr inv').1
  · rw [e']
    exact t.1
  · unfold leftB
    rw [e', t.2, ← e]
theorem b_has0 {row bs : List Int} (irr : ∀ a, fr a a = false) (hl : bs.length = row.length) (inv : BInv fr [] (row.zip bs)) {x : Int} (hx : isF fr (leftB row bs) x = true) : ∃ (p : Nat) (hp : p < row.length), bs[p]'(by omega) = 0 ∧ row[p] = x := by
  have h := first_z irr _ _ _ inv rfl hx
  obtain ⟨p, hp, e⟩ := List.mem_iff_getElem.mp h
  have hp' : p < row.length := by rw [List.length_zip] at hp; omega
  rw [List.getElem_zip] at e
  exact ⟨p, hp', (Prod.mk.inj e).2, (Prod.mk.inj e).1⟩
theorem b_init : ∀ (row bs acc : List Int) (hl : bs.length = row.length), (∀ (p : Nat) (hp : p < row.length), bs[p]'(by omega) = (cntB fr (acc ++ row.take p) row[p] : Int)) → BInv fr acc (row.zip bs) ∧ leftB row bs = row
  | [], bs, acc, hl, _ => by
    unfold leftB
    simp [BInv, leftZ]
  | x :: row, [], acc, hl, _ => by simp at hl
  | x :: row, n :: bs, acc, hl, h => by
    have h0 : n = (cntB fr acc x : Int) := by
      have := h 0 (by simp)
      simp only [List.take_zero, List.append_nil] at this
      exact this
    have hn : 0 ≤ n := by omega
    obtain ⟨i1, i2⟩ := b_init row bs (acc ++ [x]) (by simpa using hl) (fun p hp => by
      have := h (p + 1) (by simpa using hp)
      simpa using this)
    unfold leftB at i2 ⊢
    rw [List.zip_cons_cons, BInv, if_pos hn, leftZ_cons, if_pos hn, i2]
    exact ⟨⟨h0, i1⟩, rfl⟩
end Tr

/-! Traces: beginnings, what two rows share, rows that are free of each other. -/
namespace Tr
variable {fr : Int → Int → Bool}
theorem isF_back {x y : Int} (hxy : fr x y = true) : ∀ {a a' : List Int}, taken fr a x = some a' → isF fr a' y = true → isF fr a y = true
  | [], a', h, _ => by simp [taken] at h
  | c :: r, a', h, hf => by
    rw [taken] at h
    by_cases e : c = x
    · rw [if_pos e] at h
      cases h
      rw [isF_cons, e, hxy, hf]
      simp
    · rw [if_neg e] at h
      by_cases f : fr c x = true
      · rw [if_pos f] at h
        cases ht : taken fr r x with
        | none => rw [ht] at h; cases h
        | some r' =>
          rw [ht] at h
          cases h
          rw [isF_cons] at hf ⊢
          rcases Bool.or_eq_true_iff.mp hf with h1 | h1
          · rw [h1]; rfl
          · obtain ⟨h2, h3⟩ := Bool.and_eq_true_iff.mp h1
            rw [h2, isF_back hxy ht h3]
            simp
      · rw [if_neg f] at h; cases h
/-- a letter that may come first in a beginning may come first in the row -/
theorem beg_first {y : Int} : ∀ {s a r : List Int}, behind fr s a = some r → isF fr s y = true → isF fr a y = true
  | [], a, r, _, h => by simp [isF, taken] at h
  | x :: s, a, r, hb, h => by
    rw [behind] at hb
    cases ht : taken fr a x with
    | none => rw [ht] at hb; cases hb
    | some a' =>
      rw [ht] at hb
      have hb' : behind fr s a' = some r := hb
      rw [isF_cons] at h
      rcases Bool.or_eq_true_iff.mp h with h1 | h1
      · have e : x = y := by simpa using h1
        rw [← e]
        unfold isF
        rw [ht]
        rfl
      · obtain ⟨h2, h3⟩ := Bool.and_eq_true_iff.mp h1
        exact isF_back h2 ht (beg_first hb' h3)
theorem behind_cons {x : Int} {s a : List Int} (h : isF fr a x = true) : behind fr (x :: s) a = behind fr s (a.erase x) := by
  rw [behind, taken_of h]
  rfl
theorem shared_facts (fr : Int → Int → Bool) : ∀ a b, behind fr (shared fr a b).1 a = some (shared fr a b).2.1 ∧ behind fr (shared fr a b).1 b = some (shared fr a b).2.2 ∧ (∀ x, isF fr (shared fr a b).2.1 x = true → isF fr (shared fr a b).2.2 x = true → False) ∧
    least fr (shared fr a b).1 = (shared fr a b).1 ∧ shared fr b a = ((shared fr a b).1, (shared fr a b).2.2, (shared fr a b).2.1) := by
  refine shared_ind (fr := fr) (fun a b h => ?_) fun a b x hx hy hm ⟨i1, i2, i3, i4, i5⟩ => ?_
  · rw [shared_stop h, shared_stop (fun x h1 h2 => h x h2 h1)]
    exact ⟨rfl, rfl, h, rfl, rfl⟩
  · rw [shared_step hx hy hm, shared_step hy hx (fun y h1 h2 => hm y h2 h1), i5]
    have b1 : behind fr (x :: (shared fr (a.erase x) (b.erase x)).1) a = some (shared fr (a.erase x) (b.erase x)).2.1 := by rw [behind_cons hx, i1]
    have b2 : behind fr (x :: (shared fr (a.erase x) (b.erase x)).1) b = some (shared fr (a.erase x) (b.erase x)).2.2 := by rw [behind_cons hy, i2]
    refine ⟨b1, b2, i3, ?_, rfl⟩
    show least fr (x :: (shared fr (a.erase x) (b.erase x)).1) = x :: (shared fr (a.erase x) (b.erase x)).1
    rw [least_cons (isF_head x _) fun y hy' => hm y (beg_first b1 hy') (beg_first b2 hy'), List.erase_cons_head, i4]
/-- rows that are free of each other may be exchanged -/
theorem isF_swap (irr : ∀ a, fr a a = false) {s p q : List Int} (h : ∀ x ∈ p, ∀ y ∈ q, fr x y = true ∧ fr y x = true) (x : Int) : isF fr (s ++ p ++ q) x = isF fr (s ++ q ++ p) x := by
  rw [List.append_assoc, List.append_assoc]
  by_cases hs : x ∈ s
  · rw [isF_append_mem hs, isF_append_mem hs]
  · rw [isF_append hs, isF_append hs]
    congr 1
    by_cases hp : x ∈ p
    · have hq : x ∉ q := fun hq => by have := (h x hp x hq).1; rw [irr] at this; cases this
      have ha : (q.all fun y => fr y x) = true := List.all_eq_true.mpr fun y hy => (h x hp y hy).2
      rw [isF_append_mem hp, isF_append hq, ha, Bool.true_and]
    · by_cases hq : x ∈ q
      · have ha : (p.all fun y => fr y x) = true := List.all_eq_true.mpr fun y hy => (h y hy x hq).1
        rw [isF_append_mem hq, isF_append hp, ha, Bool.true_and]
      · have n1 : isF fr (p ++ q) x = false := by
          cases e : isF fr (p ++ q) x with
          | false => rfl
          | true => rcases List.mem_append.mp (isF_mem e) with z | z <;> contradiction
        have n2 : isF fr (q ++ p) x = false := by
          cases e : isF fr (q ++ p) x with
          | false => rfl
          | true => rcases List.mem_append.mp (isF_mem e) with z | z <;> contradiction
        rw [n1, n2]
theorem least_swap (irr : ∀ a, fr a a = false) : ∀ (row s p q : List Int), row = s ++ p ++ q → (∀ x ∈ p, ∀ y ∈ q, fr x y = true ∧ fr y x = true) → least fr row = least fr (s ++ q ++ p) := by
  refine least_ind (fr := fr) (fun s p q e h => ?_) fun row x hx hm ih s p q e h => ?_
  · have e' : s = [] ∧ p = [] ∧ q = [] := by
      have := e.symm
      simp only [List.append_eq_nil_iff] at this
      exact ⟨this.1.1, this.1.2, this.2⟩
    obtain ⟨rfl, rfl, rfl⟩ := e'
    rfl
  · subst e
    have hx' : isF fr (s ++ q ++ p) x = true := by rw [← isF_swap irr h]; exact hx
    have hm' : ∀ y, isF fr (s ++ q ++ p) y = true → x ≤ y := fun y hy => hm y (by rw [isF_swap irr h]; exact hy)
    rw [least_cons hx hm, least_cons hx' hm']
    congr 1
    have me : ∀ {l : List Int} {y}, y ∈ l.erase x → y ∈ l := fun hy => List.mem_of_mem_erase hy
    by_cases hs : x ∈ s
    · have e1 : (s ++ p ++ q).erase x = s.erase x ++ p ++ q := by rw [List.append_assoc, List.erase_append_left _ hs, List.append_assoc]
      have e2 : (s ++ q ++ p).erase x = s.erase x ++ q ++ p := by rw [List.append_assoc, List.erase_append_left _ hs, List.append_assoc]
      rw [e2]
      exact ih _ _ _ e1 h
    · by_cases hp : x ∈ p
      · have hq : x ∉ q := fun hq => by have := (h x hp x hq).1; rw [irr] at this; cases this
        have e1 : (s ++ p ++ q).erase x = s ++ p.erase x ++ q := by rw [List.append_assoc, List.erase_append_right _ hs, List.erase_append_left _ hp, List.append_assoc]
        have e2 : (s ++ q ++ p).erase x = s ++ q ++ p.erase x := by rw [List.append_assoc, List.erase_append_right _ hs, List.erase_append_right _ hq, List.append_assoc]
        rw [e2]
        exact ih _ _ _ e1 fun y hy z hz => h y (me hy) z hz
      · have e1 : (s ++ p ++ q).erase x = s ++ p ++ q.erase x := by rw [List.append_assoc, List.erase_append_right _ hs, List.erase_append_right _ hp, List.append_assoc]
        have hq : x ∈ q := by
          have := isF_mem hx
          rw [List.append_assoc] at this
          rcases List.mem_append.mp this with z | z
          · exact absurd z hs
          · rcases List.mem_append.mp z with z | z
            · exact absurd z hp
            · exact z
        have e2 : (s ++ q ++ p).erase x = s ++ q.erase x ++ p := by rw [List.append_assoc, List.erase_append_right _ hs, List.erase_append_left _ hq, List.append_assoc]
        rw [e2]
        exact ih _ _ _ e1 fun y hy z hz => h y hy z (me hz)
theorem boundP_nil {a b : List Int} : boundP fr a b = [] ↔ ∀ x ∈ a, ∀ y ∈ b, fr x y = true := by
  unfold boundP
  rw [List.flatMap_eq_nil_iff]
  constructor
  · intro h x hx y hy
    have := h x hx
    rw [List.map_eq_nil_iff, List.filter_eq_nil_iff] at this
    simpa using this y hy
  · intro h x hx
    rw [List.map_eq_nil_iff, List.filter_eq_nil_iff]
    exact fun y hy => by simp [h x hx y hy]
theorem boundP_app (a c b : List Int) : boundP fr (a ++ c) b = boundP fr a b ++ boundP fr c b := by
  unfold boundP
  rw [List.flatMap_append]
theorem boundP_one (x : Int) (b : List Int) : boundP fr [x] b = (b.filter fun y => !fr x y).map fun y => (x, y) := by
  unfold boundP
  simp
end Tr

namespace K53
open PySem PySem.Spec L2 PySem.W L3
open PyProof.Rows hiding St
open Tr
def topS (i : Nat) : Stmt := PySem.Challenge.pw_calmhouse_k53_beginnings.main.body.getD i (.Pass ⟨0, 0, 0, 0⟩)
theorem bt_ValueError : bootBuiltins "ValueError" = some (.type "ValueError") := PyProof.Rows.Boot.«ValueError»
/-- what the top has made -/
structure Tx (P : Program) (w : World) (K : PySem.W.Frag) (mg : Str → Option Value) (base : Heap) (ex : Str → Addr) : Prop where
  b_len : mg "len" = none
  b_tuple : mg "tuple" = none
  b_sorted : mg "sorted" = none
  b_min : mg "min" = none
  b_max : mg "max" = none
  b_int : mg "int" = none
  b_bool : mg "bool" = none
  b_range : mg "range" = none
  b_list : mg "list" = none
  b_isinstance : mg "isinstance" = none
  b_ValueError : mg "ValueError" = none
  c_MOST_LETTERS : ∃ t, mg "MOST_LETTERS" = some (.int 60 t)
  c_LETTER_COUNT : ∃ t, mg "LETTER_COUNT" = some (.int 16 t)
  x_HouseError : mg "HouseError" = some (.ref (ex "HouseError"))
  x_BadLog : mg "BadLog" = some (.ref (ex "BadLog"))
  x_TooMany : mg "TooMany" = some (.ref (ex "TooMany"))
  e_BadLog : Exc0 K (ex "BadLog")
  i_TooMany : Exc1 P w K mg base (ex "TooMany") "limit"
  m_BadLog : PySem.W.exmOne K (.ref (ex "BadLog")) (.ref (ex "HouseError")) = some true
  m_TooMany : PySem.W.exmOne K (.ref (ex "TooMany")) (.ref (ex "HouseError")) = some true
  kc_BadLog : ExcC K (ex "BadLog")
  kc_TooMany : ExcC K (ex "TooMany")
  k1 : PySem.W.kitOne K (.ref (ex "BadLog")) (.type "ValueError") = some true
  k2 : PySem.W.kitOne K (.ref (ex "BadLog")) (.ref (ex "BadLog")) = some true
  k3 : PySem.W.kitOne K (.ref (ex "BadLog")) (.ref (ex "TooMany")) = some false
  k4 : PySem.W.kitOne K (.ref (ex "TooMany")) (.type "ValueError") = some true
  k5 : PySem.W.kitOne K (.ref (ex "TooMany")) (.ref (ex "BadLog")) = some false
  k6 : PySem.W.kitOne K (.ref (ex "TooMany")) (.ref (ex "TooMany")) = some true
  xf_TooMany : XfC K (ex "TooMany")
  nf_TooMany : PySem.W.findIn K (.ref (ex "TooMany")) "limit" = some none
/-! ### plain words -/
abbrev Tab := List (List Int × D)
/-- a pair of letters stands in the table -/
def inT (T : Tab) (a b : Int) : Bool := (atK T [a, b]).isSome
abbrev prD (p : Int × Int) : D := .tup [.int p.1, .int p.2]
def isLet (x : Int) : Bool := decide (0 ≤ x) && decide (x < 16)
theorem inT_puK (T : Tab) (k : List Int) (d : D) (a b : Int) : inT (puK T k d) a b = (decide ([a, b] = k) || inT T a b) := by
  unfold inT
  rw [atK_puK]
  by_cases h : [a, b] = k
  · simp [h]
  · simp [h]
/-- the letters that are free of each other -/
def frP (ps : List (Int × Int)) (a b : Int) : Bool := decide ((a, b) ∈ ps ∨ (b, a) ∈ ps)
def optT : Option (List Int) → D
  | none => .non
  | some l => .tup (intsD l)
/-- 0: fine; 1: a letter is none; 2: too long -/
def refuse (a b : List Int) : Nat := if (a.all isLet && b.all isLet) = false then 1 else if a.length ≤ 60 ∧ b.length ≤ 60 then 0 else 2
def refK (ex : Str → Addr) (n : Nat) (z : Exn → Prop) (Q : Prop) : Prop := (n = 0 → Q) ∧ (n = 1 → z ⟨ex "BadLog", []⟩) ∧ (n = 2 → z ⟨ex "TooMany", [("limit", .int 60)]⟩)
/-! free_table: 0 free, 1 table, 2 pair -/
abbrev s_free_table : Stmt := topS 7
theorem sc_free_table : FnScope ["free", "table", "pair"] ["free"] (defScope s_free_table) := ⟨rfl, rfl, rfl, by decide +kernel, rfl, by decide +kernel, by decide +kernel⟩
def fs_free_table (ex : Str → Addr) : FS := fun as q _ => ∃ b ps, as = [sq b (List.map prD ps)] ∧ ps.length ≤ 10000 ∧ ∀ T : Tab, (∀ a b, inT T a b = frP ps a b) → q (.dT T)
theorem ok_free_table {P : Program} {w : World} {K : PySem.W.Frag} {mg : Str → Option Value} {base : Heap} {ex : Str → Addr} {f : Addr} {fd : FuncData} (T : Tx P w K mg base ex)  (F : Fun K "free_table" "free_table" s_free_table f fd) (gm : mg "free_table" = some (.ref f)) (bi : Binds K fd ["free"] []) : Callee P w K mg base "free_table" 1 1 (fs_free_table ex) := by
  refine callee_mk F gm bi (fun3 (fs_free_table ex) F sc_free_table ⟨_, fun cdv A outer s H E hr tk hp =>
      (ss3cons (s3dicT (i := 1) sc_free_table.nd rfl (by first | exact .inl rfl | exact .inr rfl))
      (ss3cons (s3for hp rfl (i3seq (p3v 0)) (g3name (i := 2) sc_free_table.nd rfl (by first | exact .inl rfl | exact .inr rfl))
        (ss3cons (s3put (i := 1) (deep_of hr) p3bl (p3tup (a3cons (p3ix (deep_of hr) (p3v 2) p3int) (a3cons (p3ix (deep_of hr) (p3v 2) p3int) a3nil))))
        (ss3one (s3put (i := 1) (deep_of hr) p3bl (p3tup (a3cons (p3ix (deep_of hr) (p3v 2) p3int) (a3cons (p3ix (deep_of hr) (p3v 2) p3int) a3nil)))))))
      (ss3one (s3ret (p3v 1))))), ?_⟩)
  intro ds q z hl h
  obtain ⟨b, ps, rfl, hn, k⟩ := h
  simp only [start3, List.map_cons, List.map_nil, List.length_cons, List.length_nil, List.cons_append, List.nil_append, Nat.reduceAdd, Nat.reduceSub, Nat.zero_add, List.replicate, if_true, if_false, Bool.false_eq_true, reduceIte]
  try simp only [tSeq3, tNx3, tIf3, tRet3, tRetN3, tSet3, tOwn3, tAsg3, tExpr3, tFrz, frzS, tFor3_eq, tLc3_eq, tLc23_eq, tSeq3I_eq, seqK_lst, seqK_tup, seqK_frl, seqK_sq, oTup_lst, oTup_tup, oTup_sq, oList_lst, oList_tup, oList_sq, oLen_lst, oLen_tup, oLen_frl, oLen_sq, flat_sq, tRg1, tRg2, gN3, gT3, gCons3, gNil3, tV3, tC3, tB3, tT3, tIx3, tCh3, tAnd3, tOr3, tNot3, tNil3, tCons3, tTup3, tLst3, tOfL, tCall3, tU3, tUL, tSl3, tNo3, tSome3, tCat3, tRep3, oEq, oNe, oLt_int, oLt_tup, oLe_int, oLe_tup, oGt_int, oGt_tup, oGe_int, oGe_tup, eqD_int, eqD_str, eqD_bl, eqD_non, eqD_tup, eqD_lst, oAdd, oSub, oMul, oDiv, oMod, oPow, oIs, oIsnt, oIn, oNotIn, inD, lookD, oIx_lst, oIx_tup, oIx_frl, oIx_sq, oIx_dT, oIx_dK, getD, oSl, oInt, oSorted, isB, tPut3, tApp3, tDicT, tDicK, tBk3, tCt3, tMin2, tMax2, tNeg3, tIf3E, tAndV3, tOrV3, tNotV3, tIsi, tIndex3, tYes3, tRaise0, tRaise1, tIsE3, tXf3, wipe3, List.set_cons_zero, List.set_cons_succ, List.getElem?_cons_zero, List.getElem?_cons_succ, List.getElem?_nil, Fl.isSt, D.flat, Fl.nb, Fl.item, cond_true, cond_false, Bool.true_or, Bool.or_true, Bool.false_or, Bool.or_false, Bool.and_true, Bool.true_and, Bool.and_false, Bool.false_and, if_true, if_false, ite_true, ite_false, Bool.false_eq_true, Bool.not_true, Bool.not_false, isNon_non, isNon_lst, isNon_tup, isNon_int, isNon_bl, isNon_str, isNon_sq, ty_ii, ty_bi, ty_tt, ty_tl, ty_ti, ty_tn, ty_lt, ty_ll, ty_ib, ty_bb, ni_int, ni_tup, ni_lst, ni_bl, ni_non, List.length_cons, List.length_nil, reduceIte, List.map_cons, List.map_nil, true_and, and_true, Nat.zero_add, Nat.reduceAdd, List.length_map, Nat.zero_le, Int.toNat_natCast]
  refine forP_d (fun ys s => ∃ (l0 : Sl) (T : Tab) (l : Sl), s = [l0, .oT T, l] ∧ T.length ≤ 2 * ys.length ∧ ∀ a b, inT T a b = decide ((a, b) ∈ ys ∨ (b, a) ∈ ys)) ?_ ?_ ?_
  · exact ⟨_, [], _, rfl, Nat.zero_le _, fun a b => by simp [inT, atK]⟩
  · rintro ys x rest s' e ⟨l0, T, l, rfl, hT, ht⟩
    have hlen : ys.length + 1 ≤ 10000 := by rw [e, List.length_append, List.length_cons] at hn; omega
    have h1 := puK_length T [x.1, x.2] (.bl true)
    have h2 := puK_length (puK T [x.1, x.2] (.bl true)) [x.2, x.1] (.bl true)
    try simp only [tSeq3, tNx3, tIf3, tRet3, tRetN3, tSet3, tOwn3, tAsg3, tExpr3, tFrz, frzS, tFor3_eq, tLc3_eq, tLc23_eq, tSeq3I_eq, seqK_lst, seqK_tup, seqK_frl, seqK_sq, oTup_lst, oTup_tup, oTup_sq, oList_lst, oList_tup, oList_sq, oLen_lst, oLen_tup, oLen_frl, oLen_sq, flat_sq, tRg1, tRg2, gN3, gT3, gCons3, gNil3, tV3, tC3, tB3, tT3, tIx3, tCh3, tAnd3, tOr3, tNot3, tNil3, tCons3, tTup3, tLst3, tOfL, tCall3, tU3, tUL, tSl3, tNo3, tSome3, tCat3, tRep3, oEq, oNe, oLt_int, oLt_tup, oLe_int, oLe_tup, oGt_int, oGt_tup, oGe_int, oGe_tup, eqD_int, eqD_str, eqD_bl, eqD_non, eqD_tup, eqD_lst, oAdd, oSub, oMul, oDiv, oMod, oPow, oIs, oIsnt, oIn, oNotIn, inD, lookD, oIx_lst, oIx_tup, oIx_frl, oIx_sq, oIx_dT, oIx_dK, getD, oSl, oInt, oSorted, isB, tPut3, tApp3, tDicT, tDicK, tBk3, tCt3, tMin2, tMax2, tNeg3, tIf3E, tAndV3, tOrV3, tNotV3, tIsi, tIndex3, tYes3, tRaise0, tRaise1, tIsE3, tXf3, wipe3, List.set_cons_zero, List.set_cons_succ, List.getElem?_cons_zero, List.getElem?_cons_succ, List.getElem?_nil, Fl.isSt, D.flat, Fl.nb, Fl.item, cond_true, cond_false, Bool.true_or, Bool.or_true, Bool.false_or, Bool.or_false, Bool.and_true, Bool.true_and, Bool.and_false, Bool.false_and, if_true, if_false, ite_true, ite_false, Bool.false_eq_true, Bool.not_true, Bool.not_false, isNon_non, isNon_lst, isNon_tup, isNon_int, isNon_bl, isNon_str, isNon_sq, ty_ii, ty_bi, ty_tt, ty_tl, ty_ti, ty_tn, ty_lt, ty_ll, ty_ib, ty_bb, ni_int, ni_tup, ni_lst, ni_bl, ni_non, List.length_cons, List.length_nil, reduceIte, List.map_cons, List.map_nil, true_and, and_true, Nat.zero_add, Nat.reduceAdd, List.length_map, Nat.zero_le, Int.toNat_natCast]
    refine ⟨_, rfl, _, rfl, le_line (by decide), [x.1, x.2], rfl, lt_line (by omega), _, rfl, _, rfl, le_line (by decide), [x.2, x.1], rfl, lt_line (by omega), l0, _, _, rfl, by rw [List.length_append, List.length_cons, List.length_nil]; omega, fun a b => ?_⟩
    rw [inT_puK, inT_puK, ht]
    obtain ⟨x1, x2⟩ := x
    rw [Bool.eq_iff_iff]
    simp only [Bool.or_eq_true, decide_eq_true_eq, List.cons.injEq, and_true, List.mem_append, List.mem_singleton, Prod.mk.injEq]
    constructor
    · rintro (⟨rfl, rfl⟩ | ⟨rfl, rfl⟩ | h | h) <;> simp_all
    · rintro ((h | ⟨rfl, rfl⟩) | h | ⟨rfl, rfl⟩) <;> simp_all
  · rintro s' ⟨l0, T, l, rfl, hT, ht⟩
    try simp only [tSeq3, tNx3, tIf3, tRet3, tRetN3, tSet3, tOwn3, tAsg3, tExpr3, tFrz, frzS, tFor3_eq, tLc3_eq, tLc23_eq, tSeq3I_eq, seqK_lst, seqK_tup, seqK_frl, seqK_sq, oTup_lst, oTup_tup, oTup_sq, oList_lst, oList_tup, oList_sq, oLen_lst, oLen_tup, oLen_frl, oLen_sq, flat_sq, tRg1, tRg2, gN3, gT3, gCons3, gNil3, tV3, tC3, tB3, tT3, tIx3, tCh3, tAnd3, tOr3, tNot3, tNil3, tCons3, tTup3, tLst3, tOfL, tCall3, tU3, tUL, tSl3, tNo3, tSome3, tCat3, tRep3, oEq, oNe, oLt_int, oLt_tup, oLe_int, oLe_tup, oGt_int, oGt_tup, oGe_int, oGe_tup, eqD_int, eqD_str, eqD_bl, eqD_non, eqD_tup, eqD_lst, oAdd, oSub, oMul, oDiv, oMod, oPow, oIs, oIsnt, oIn, oNotIn, inD, lookD, oIx_lst, oIx_tup, oIx_frl, oIx_sq, oIx_dT, oIx_dK, getD, oSl, oInt, oSorted, isB, tPut3, tApp3, tDicT, tDicK, tBk3, tCt3, tMin2, tMax2, tNeg3, tIf3E, tAndV3, tOrV3, tNotV3, tIsi, tIndex3, tYes3, tRaise0, tRaise1, tIsE3, tXf3, wipe3, List.set_cons_zero, List.set_cons_succ, List.getElem?_cons_zero, List.getElem?_cons_succ, List.getElem?_nil, Fl.isSt, D.flat, Fl.nb, Fl.item, cond_true, cond_false, Bool.true_or, Bool.or_true, Bool.false_or, Bool.or_false, Bool.and_true, Bool.true_and, Bool.and_false, Bool.false_and, if_true, if_false, ite_true, ite_false, Bool.false_eq_true, Bool.not_true, Bool.not_false, isNon_non, isNon_lst, isNon_tup, isNon_int, isNon_bl, isNon_str, isNon_sq, ty_ii, ty_bi, ty_tt, ty_tl, ty_ti, ty_tn, ty_lt, ty_ll, ty_ib, ty_bb, ni_int, ni_tup, ni_lst, ni_bl, ni_non, List.length_cons, List.length_nil, reduceIte, List.map_cons, List.map_nil, true_and, and_true, Nat.zero_add, Nat.reduceAdd, List.length_map, Nat.zero_le, Int.toNat_natCast]
    exact k T ht
/-! are_letters: 0 log, 1 letter -/
abbrev s_are_letters : Stmt := topS 8
theorem sc_are_letters : FnScope ["log", "letter"] ["log"] (defScope s_are_letters) := ⟨rfl, rfl, rfl, by decide +kernel, rfl, by decide +kernel, by decide +kernel⟩
def fs_are_letters (ex : Str → Addr) : FS := fun as q _ => ∃ b xs, as = [sq b (intsD xs)] ∧ q (.bl (xs.all isLet))
theorem ok_are_letters {P : Program} {w : World} {K : PySem.W.Frag} {mg : Str → Option Value} {base : Heap} {ex : Str → Addr} {f : Addr} {fd : FuncData} (T : Tx P w K mg base ex)  (F : Fun K "are_letters" "are_letters" s_are_letters f fd) (gm : mg "are_letters" = some (.ref f)) (bi : Binds K fd ["log"] []) : Callee P w K mg base "are_letters" 1 1 (fs_are_letters ex) := by
  refine callee_mk F gm bi (fun3 (fs_are_letters ex) F sc_are_letters ⟨_, fun cdv A outer s H E hr tk hp =>
      (ss3cons (s3for hp rfl (i3seq (p3v 0)) (g3name (i := 1) sc_are_letters.nd rfl (by first | exact .inl rfl | exact .inr rfl))
        (ss3one (s3if (t3not (t3chain (op3le (deep_of hr)) (op3lt (deep_of hr)) p3int (p3v 1) (p3glob rfl T.c_LETTER_COUNT.choose_spec)))
          (ss3one (s3ret p3bl))
          ss3nil)))
      (ss3one (s3ret p3bl))), ?_⟩)
  intro ds q z hl h
  obtain ⟨b, xs, rfl, k⟩ := h
  simp only [start3, List.map_cons, List.map_nil, List.length_cons, List.length_nil, List.cons_append, List.nil_append, Nat.reduceAdd, Nat.reduceSub, Nat.zero_add, List.replicate, if_true, if_false, Bool.false_eq_true, reduceIte]
  try simp only [tSeq3, tNx3, tIf3, tRet3, tRetN3, tSet3, tOwn3, tAsg3, tExpr3, tFrz, frzS, tFor3_eq, tLc3_eq, tLc23_eq, tSeq3I_eq, seqK_lst, seqK_tup, seqK_frl, seqK_sq, oTup_lst, oTup_tup, oTup_sq, oList_lst, oList_tup, oList_sq, oLen_lst, oLen_tup, oLen_frl, oLen_sq, flat_sq, tRg1, tRg2, gN3, gT3, gCons3, gNil3, tV3, tC3, tB3, tT3, tIx3, tCh3, tAnd3, tOr3, tNot3, tNil3, tCons3, tTup3, tLst3, tOfL, tCall3, tU3, tUL, tSl3, tNo3, tSome3, tCat3, tRep3, oEq, oNe, oLt_int, oLt_tup, oLe_int, oLe_tup, oGt_int, oGt_tup, oGe_int, oGe_tup, eqD_int, eqD_str, eqD_bl, eqD_non, eqD_tup, eqD_lst, oAdd, oSub, oMul, oDiv, oMod, oPow, oIs, oIsnt, oIn, oNotIn, inD, lookD, oIx_lst, oIx_tup, oIx_frl, oIx_sq, oIx_dT, oIx_dK, getD, oSl, oInt, oSorted, isB, tPut3, tApp3, tDicT, tDicK, tBk3, tCt3, tMin2, tMax2, tNeg3, tIf3E, tAndV3, tOrV3, tNotV3, tIsi, tIndex3, tYes3, tRaise0, tRaise1, tIsE3, tXf3, wipe3, List.set_cons_zero, List.set_cons_succ, List.getElem?_cons_zero, List.getElem?_cons_succ, List.getElem?_nil, Fl.isSt, D.flat, Fl.nb, Fl.item, cond_true, cond_false, Bool.true_or, Bool.or_true, Bool.false_or, Bool.or_false, Bool.and_true, Bool.true_and, Bool.and_false, Bool.false_and, if_true, if_false, ite_true, ite_false, Bool.false_eq_true, Bool.not_true, Bool.not_false, isNon_non, isNon_lst, isNon_tup, isNon_int, isNon_bl, isNon_str, isNon_sq, ty_ii, ty_bi, ty_tt, ty_tl, ty_ti, ty_tn, ty_lt, ty_ll, ty_ib, ty_bb, ni_int, ni_tup, ni_lst, ni_bl, ni_non, List.length_cons, List.length_nil, reduceIte, List.map_cons, List.map_nil, true_and, and_true, Nat.zero_add, Nat.reduceAdd, List.length_map, Nat.zero_le, Int.toNat_natCast]
  refine forP_d (fun ys s => ∃ (l0 l : Sl), s = [l0, l] ∧ ys.all isLet = true) ?_ ?_ ?_
  · exact ⟨_, _, rfl, rfl⟩
  · rintro ys x rest s' e ⟨l0, l, rfl, ht⟩
    have hall : isLet x = false → xs.all isLet = false := fun h => by rw [e]; simp [h]
    try simp only [tSeq3, tNx3, tIf3, tRet3, tRetN3, tSet3, tOwn3, tAsg3, tExpr3, tFrz, frzS, tFor3_eq, tLc3_eq, tLc23_eq, tSeq3I_eq, seqK_lst, seqK_tup, seqK_frl, seqK_sq, oTup_lst, oTup_tup, oTup_sq, oList_lst, oList_tup, oList_sq, oLen_lst, oLen_tup, oLen_frl, oLen_sq, flat_sq, tRg1, tRg2, gN3, gT3, gCons3, gNil3, tV3, tC3, tB3, tT3, tIx3, tCh3, tAnd3, tOr3, tNot3, tNil3, tCons3, tTup3, tLst3, tOfL, tCall3, tU3, tUL, tSl3, tNo3, tSome3, tCat3, tRep3, oEq, oNe, oLt_int, oLt_tup, oLe_int, oLe_tup, oGt_int, oGt_tup, oGe_int, oGe_tup, eqD_int, eqD_str, eqD_bl, eqD_non, eqD_tup, eqD_lst, oAdd, oSub, oMul, oDiv, oMod, oPow, oIs, oIsnt, oIn, oNotIn, inD, lookD, oIx_lst, oIx_tup, oIx_frl, oIx_sq, oIx_dT, oIx_dK, getD, oSl, oInt, oSorted, isB, tPut3, tApp3, tDicT, tDicK, tBk3, tCt3, tMin2, tMax2, tNeg3, tIf3E, tAndV3, tOrV3, tNotV3, tIsi, tIndex3, tYes3, tRaise0, tRaise1, tIsE3, tXf3, wipe3, List.set_cons_zero, List.set_cons_succ, List.getElem?_cons_zero, List.getElem?_cons_succ, List.getElem?_nil, Fl.isSt, D.flat, Fl.nb, Fl.item, cond_true, cond_false, Bool.true_or, Bool.or_true, Bool.false_or, Bool.or_false, Bool.and_true, Bool.true_and, Bool.and_false, Bool.false_and, if_true, if_false, ite_true, ite_false, Bool.false_eq_true, Bool.not_true, Bool.not_false, isNon_non, isNon_lst, isNon_tup, isNon_int, isNon_bl, isNon_str, isNon_sq, ty_ii, ty_bi, ty_tt, ty_tl, ty_ti, ty_tn, ty_lt, ty_ll, ty_ib, ty_bb, ni_int, ni_tup, ni_lst, ni_bl, ni_non, List.length_cons, List.length_nil, reduceIte, List.map_cons, List.map_nil, true_and, and_true, Nat.zero_add, Nat.reduceAdd, List.length_map, Nat.zero_le, Int.toNat_natCast]
    by_cases h1 : 0 ≤ x
    · by_cases h2 : x < 16
      · simp only [h1, h2, decide_true, if_true, Bool.not_true, Bool.false_eq_true, if_false]
        exact ⟨_, _, rfl, by simp [List.all_append, ht, isLet, h1, h2]⟩
      · rw [hall (by simp [isLet, h2])] at k
        simp only [h1, h2, decide_true, decide_false, if_true, Bool.not_false]
        exact k
    · rw [hall (by simp [isLet, h1])] at k
      simp only [h1, decide_false, Bool.false_eq_true, if_false]
      exact k
  · rintro s' ⟨l0, l, rfl, ht⟩
    rw [ht] at k
    try simp only [tSeq3, tNx3, tIf3, tRet3, tRetN3, tSet3, tOwn3, tAsg3, tExpr3, tFrz, frzS, tFor3_eq, tLc3_eq, tLc23_eq, tSeq3I_eq, seqK_lst, seqK_tup, seqK_frl, seqK_sq, oTup_lst, oTup_tup, oTup_sq, oList_lst, oList_tup, oList_sq, oLen_lst, oLen_tup, oLen_frl, oLen_sq, flat_sq, tRg1, tRg2, gN3, gT3, gCons3, gNil3, tV3, tC3, tB3, tT3, tIx3, tCh3, tAnd3, tOr3, tNot3, tNil3, tCons3, tTup3, tLst3, tOfL, tCall3, tU3, tUL, tSl3, tNo3, tSome3, tCat3, tRep3, oEq, oNe, oLt_int, oLt_tup, oLe_int, oLe_tup, oGt_int, oGt_tup, oGe_int, oGe_tup, eqD_int, eqD_str, eqD_bl, eqD_non, eqD_tup, eqD_lst, oAdd, oSub, oMul, oDiv, oMod, oPow, oIs, oIsnt, oIn, oNotIn, inD, lookD, oIx_lst, oIx_tup, oIx_frl, oIx_sq, oIx_dT, oIx_dK, getD, oSl, oInt, oSorted, isB, tPut3, tApp3, tDicT, tDicK, tBk3, tCt3, tMin2, tMax2, tNeg3, tIf3E, tAndV3, tOrV3, tNotV3, tIsi, tIndex3, tYes3, tRaise0, tRaise1, tIsE3, tXf3, wipe3, List.set_cons_zero, List.set_cons_succ, List.getElem?_cons_zero, List.getElem?_cons_succ, List.getElem?_nil, Fl.isSt, D.flat, Fl.nb, Fl.item, cond_true, cond_false, Bool.true_or, Bool.or_true, Bool.false_or, Bool.or_false, Bool.and_true, Bool.true_and, Bool.and_false, Bool.false_and, if_true, if_false, ite_true, ite_false, Bool.false_eq_true, Bool.not_true, Bool.not_false, isNon_non, isNon_lst, isNon_tup, isNon_int, isNon_bl, isNon_str, isNon_sq, ty_ii, ty_bi, ty_tt, ty_tl, ty_ti, ty_tn, ty_lt, ty_ll, ty_ib, ty_bb, ni_int, ni_tup, ni_lst, ni_bl, ni_non, List.length_cons, List.length_nil, reduceIte, List.map_cons, List.map_nil, true_and, and_true, Nat.zero_add, Nat.reduceAdd, List.length_map, Nat.zero_le, Int.toNat_natCast]
    exact k
/-! demand_logs: 0 logs, 1 log -/
abbrev s_demand_logs : Stmt := topS 9
theorem sc_demand_logs : FnScope ["logs", "log"] ["logs"] (defScope s_demand_logs) := ⟨rfl, rfl, rfl, by decide +kernel, rfl, by decide +kernel, by decide +kernel⟩
def fs_demand_logs (ex : Str → Addr) : FS := fun as q z => ∃ b1 xs b2 ys, as = [.tup [sq b1 (intsD xs), sq b2 (intsD ys)]] ∧ refK ex (refuse xs ys) z (q .non)
theorem ok_demand_logs {P : Program} {w : World} {K : PySem.W.Frag} {mg : Str → Option Value} {base : Heap} {ex : Str → Addr} {f : Addr} {fd : FuncData} (T : Tx P w K mg base ex) (C_are_letters : Callee P w K mg base "are_letters" 1 1 (fs_are_letters ex)) (F : Fun K "demand_logs" "demand_logs" s_demand_logs f fd) (gm : mg "demand_logs" = some (.ref f)) (bi : Binds K fd ["logs"] []) : Callee P w K mg base "demand_logs" 3 1 (fs_demand_logs ex) := by
  refine callee_mk F gm bi (fun3 (fs_demand_logs ex) F sc_demand_logs ⟨_, fun cdv A outer s H E hr tk hp =>
      (ss3cons (s3for hp rfl (i3seq (p3v 0)) (g3name (i := 1) sc_demand_logs.nd rfl (by first | exact .inl rfl | exact .inr rfl))
        (ss3one (s3if (t3not (t3val (p3callC C_are_letters hr (by decide) tk rfl (a3cons (p3v 1) a3nil))))
          (ss3one (s3raise0 rfl tk T.x_BadLog T.e_BadLog rfl))
          ss3nil)))
      (ss3one (s3for hp rfl (i3seq (p3v 0)) (g3name (i := 1) sc_demand_logs.nd rfl (by first | exact .inl rfl | exact .inr rfl))
        (ss3one (s3if (t3cmp (op3gt (deep_of hr)) (p3b1 c3len rfl T.b_len bt_len (p3v 1)) (p3glob rfl T.c_MOST_LETTERS.choose_spec))
          (ss3one (s3raise1 rfl tk T.x_TooMany T.i_TooMany hr (by decide) rfl (p3glob rfl T.c_MOST_LETTERS.choose_spec)))
          ss3nil))))), ?_⟩)
  intro ds q z hl h
  obtain ⟨b1, xs, b2, ys, rfl, k⟩ := h
  simp only [start3, List.map_cons, List.map_nil, List.length_cons, List.length_nil, List.cons_append, List.nil_append, Nat.reduceAdd, Nat.reduceSub, Nat.zero_add, List.replicate, if_true, if_false, Bool.false_eq_true, reduceIte]
  try simp only [tSeq3, tNx3, tIf3, tRet3, tRetN3, tSet3, tOwn3, tAsg3, tExpr3, tFrz, frzS, tFor3_eq, tLc3_eq, tLc23_eq, tSeq3I_eq, seqK_lst, seqK_tup, seqK_frl, seqK_sq, oTup_lst, oTup_tup, oTup_sq, oList_lst, oList_tup, oList_sq, oLen_lst, oLen_tup, oLen_frl, oLen_sq, flat_sq, tRg1, tRg2, gN3, gT3, gCons3, gNil3, tV3, tC3, tB3, tT3, tIx3, tCh3, tAnd3, tOr3, tNot3, tNil3, tCons3, tTup3, tLst3, tOfL, tCall3, tU3, tUL, tSl3, tNo3, tSome3, tCat3, tRep3, oEq, oNe, oLt_int, oLt_tup, oLe_int, oLe_tup, oGt_int, oGt_tup, oGe_int, oGe_tup, eqD_int, eqD_str, eqD_bl, eqD_non, eqD_tup, eqD_lst, oAdd, oSub, oMul, oDiv, oMod, oPow, oIs, oIsnt, oIn, oNotIn, inD, lookD, oIx_lst, oIx_tup, oIx_frl, oIx_sq, oIx_dT, oIx_dK, getD, oSl, oInt, oSorted, isB, tPut3, tApp3, tDicT, tDicK, tBk3, tCt3, tMin2, tMax2, tNeg3, tIf3E, tAndV3, tOrV3, tNotV3, tIsi, tIndex3, tYes3, tRaise0, tRaise1, tIsE3, tXf3, wipe3, List.set_cons_zero, List.set_cons_succ, List.getElem?_cons_zero, List.getElem?_cons_succ, List.getElem?_nil, Fl.isSt, D.flat, Fl.nb, Fl.item, cond_true, cond_false, Bool.true_or, Bool.or_true, Bool.false_or, Bool.or_false, Bool.and_true, Bool.true_and, Bool.and_false, Bool.false_and, if_true, if_false, ite_true, ite_false, Bool.false_eq_true, Bool.not_true, Bool.not_false, isNon_non, isNon_lst, isNon_tup, isNon_int, isNon_bl, isNon_str, isNon_sq, ty_ii, ty_bi, ty_tt, ty_tl, ty_ti, ty_tn, ty_lt, ty_ll, ty_ib, ty_bb, ni_int, ni_tup, ni_lst, ni_bl, ni_non, List.length_cons, List.length_nil, reduceIte, List.map_cons, List.map_nil, true_and, and_true, Nat.zero_add, Nat.reduceAdd, List.length_map, Nat.zero_le, Int.toNat_natCast]
  refine forP_d (α := Bool × List Int) (f := fun p => sq p.1 (intsD p.2)) (xs := [(b1, xs), (b2, ys)]) (fun zs s => ∃ (l : Sl), s = [.va (.tup [sq b1 (intsD xs), sq b2 (intsD ys)]), l] ∧ ∀ p ∈ zs, p.2.all isLet = true) ?_ ?_ ?_
  · exact ⟨_, rfl, fun p hp => by simp at hp⟩
  · rintro zs x rest s' e ⟨l, rfl, ht⟩
    try simp only [tSeq3, tNx3, tIf3, tRet3, tRetN3, tSet3, tOwn3, tAsg3, tExpr3, tFrz, frzS, tFor3_eq, tLc3_eq, tLc23_eq, tSeq3I_eq, seqK_lst, seqK_tup, seqK_frl, seqK_sq, oTup_lst, oTup_tup, oTup_sq, oList_lst, oList_tup, oList_sq, oLen_lst, oLen_tup, oLen_frl, oLen_sq, flat_sq, tRg1, tRg2, gN3, gT3, gCons3, gNil3, tV3, tC3, tB3, tT3, tIx3, tCh3, tAnd3, tOr3, tNot3, tNil3, tCons3, tTup3, tLst3, tOfL, tCall3, tU3, tUL, tSl3, tNo3, tSome3, tCat3, tRep3, oEq, oNe, oLt_int, oLt_tup, oLe_int, oLe_tup, oGt_int, oGt_tup, oGe_int, oGe_tup, eqD_int, eqD_str, eqD_bl, eqD_non, eqD_tup, eqD_lst, oAdd, oSub, oMul, oDiv, oMod, oPow, oIs, oIsnt, oIn, oNotIn, inD, lookD, oIx_lst, oIx_tup, oIx_frl, oIx_sq, oIx_dT, oIx_dK, getD, oSl, oInt, oSorted, isB, tPut3, tApp3, tDicT, tDicK, tBk3, tCt3, tMin2, tMax2, tNeg3, tIf3E, tAndV3, tOrV3, tNotV3, tIsi, tIndex3, tYes3, tRaise0, tRaise1, tIsE3, tXf3, wipe3, List.set_cons_zero, List.set_cons_succ, List.getElem?_cons_zero, List.getElem?_cons_succ, List.getElem?_nil, Fl.isSt, D.flat, Fl.nb, Fl.item, cond_true, cond_false, Bool.true_or, Bool.or_true, Bool.false_or, Bool.or_false, Bool.and_true, Bool.true_and, Bool.and_false, Bool.false_and, if_true, if_false, ite_true, ite_false, Bool.false_eq_true, Bool.not_true, Bool.not_false, isNon_non, isNon_lst, isNon_tup, isNon_int, isNon_bl, isNon_str, isNon_sq, ty_ii, ty_bi, ty_tt, ty_tl, ty_ti, ty_tn, ty_lt, ty_ll, ty_ib, ty_bb, ni_int, ni_tup, ni_lst, ni_bl, ni_non, List.length_cons, List.length_nil, reduceIte, List.map_cons, List.map_nil, true_and, and_true, Nat.zero_add, Nat.reduceAdd, List.length_map, Nat.zero_le, Int.toNat_natCast]
    refine ⟨x.1, x.2, rfl, ?_⟩
    have hx : x = (b1, xs) ∨ x = (b2, ys) := by
      have : x ∈ [(b1, xs), (b2, ys)] := by rw [e]; simp
      simpa using this
    cases hb : x.2.all isLet with
    | true =>
      simp only [Bool.not_true, Bool.false_eq_true, if_false]
      refine ⟨_, rfl, fun p hp => ?_⟩
      rcases List.mem_append.mp hp with h | h
      · exact ht p h
      · rw [List.mem_singleton.mp h]; exact hb
    | false =>
      simp only [Bool.not_false, if_true]
      refine k.2.1 ?_
      unfold refuse
      rw [if_pos]
      rcases hx with rfl | rfl
      · have hb' : xs.all isLet = false := hb
        rw [hb']
        rfl
      · have hb' : ys.all isLet = false := hb
        rw [hb', Bool.and_false]
  · rintro s' ⟨l, rfl, ht⟩
    try simp only [tSeq3, tNx3, tIf3, tRet3, tRetN3, tSet3, tOwn3, tAsg3, tExpr3, tFrz, frzS, tFor3_eq, tLc3_eq, tLc23_eq, tSeq3I_eq, seqK_lst, seqK_tup, seqK_frl, seqK_sq, oTup_lst, oTup_tup, oTup_sq, oList_lst, oList_tup, oList_sq, oLen_lst, oLen_tup, oLen_frl, oLen_sq, flat_sq, tRg1, tRg2, gN3, gT3, gCons3, gNil3, tV3, tC3, tB3, tT3, tIx3, tCh3, tAnd3, tOr3, tNot3, tNil3, tCons3, tTup3, tLst3, tOfL, tCall3, tU3, tUL, tSl3, tNo3, tSome3, tCat3, tRep3, oEq, oNe, oLt_int, oLt_tup, oLe_int, oLe_tup, oGt_int, oGt_tup, oGe_int, oGe_tup, eqD_int, eqD_str, eqD_bl, eqD_non, eqD_tup, eqD_lst, oAdd, oSub, oMul, oDiv, oMod, oPow, oIs, oIsnt, oIn, oNotIn, inD, lookD, oIx_lst, oIx_tup, oIx_frl, oIx_sq, oIx_dT, oIx_dK, getD, oSl, oInt, oSorted, isB, tPut3, tApp3, tDicT, tDicK, tBk3, tCt3, tMin2, tMax2, tNeg3, tIf3E, tAndV3, tOrV3, tNotV3, tIsi, tIndex3, tYes3, tRaise0, tRaise1, tIsE3, tXf3, wipe3, List.set_cons_zero, List.set_cons_succ, List.getElem?_cons_zero, List.getElem?_cons_succ, List.getElem?_nil, Fl.isSt, D.flat, Fl.nb, Fl.item, cond_true, cond_false, Bool.true_or, Bool.or_true, Bool.false_or, Bool.or_false, Bool.and_true, Bool.true_and, Bool.and_false, Bool.false_and, if_true, if_false, ite_true, ite_false, Bool.false_eq_true, Bool.not_true, Bool.not_false, isNon_non, isNon_lst, isNon_tup, isNon_int, isNon_bl, isNon_str, isNon_sq, ty_ii, ty_bi, ty_tt, ty_tl, ty_ti, ty_tn, ty_lt, ty_ll, ty_ib, ty_bb, ni_int, ni_tup, ni_lst, ni_bl, ni_non, List.length_cons, List.length_nil, reduceIte, List.map_cons, List.map_nil, true_and, and_true, Nat.zero_add, Nat.reduceAdd, List.length_map, Nat.zero_le, Int.toNat_natCast]
    have h1 : xs.all isLet = true := ht (b1, xs) (by simp)
    have h2 : ys.all isLet = true := ht (b2, ys) (by simp)
    have hr : refuse xs ys = if xs.length ≤ 60 ∧ ys.length ≤ 60 then 0 else 2 := by unfold refuse; rw [h1, h2]; rfl
    rw [hr] at k
    refine forP_d (α := Bool × List Int) (f := fun p => sq p.1 (intsD p.2)) (xs := [(b1, xs), (b2, ys)]) (fun zs s => ∃ (l0 l : Sl), s = [l0, l] ∧ ∀ p ∈ zs, p.2.length ≤ 60) ?_ ?_ ?_
    · exact ⟨_, _, rfl, fun p hp => by simp at hp⟩
    · rintro zs x rest s' e ⟨l0, l, rfl, ht'⟩
      have hx : x = (b1, xs) ∨ x = (b2, ys) := by
        have : x ∈ [(b1, xs), (b2, ys)] := by rw [e]; simp
        simpa using this
      try simp only [tSeq3, tNx3, tIf3, tRet3, tRetN3, tSet3, tOwn3, tAsg3, tExpr3, tFrz, frzS, tFor3_eq, tLc3_eq, tLc23_eq, tSeq3I_eq, seqK_lst, seqK_tup, seqK_frl, seqK_sq, oTup_lst, oTup_tup, oTup_sq, oList_lst, oList_tup, oList_sq, oLen_lst, oLen_tup, oLen_frl, oLen_sq, flat_sq, tRg1, tRg2, gN3, gT3, gCons3, gNil3, tV3, tC3, tB3, tT3, tIx3, tCh3, tAnd3, tOr3, tNot3, tNil3, tCons3, tTup3, tLst3, tOfL, tCall3, tU3, tUL, tSl3, tNo3, tSome3, tCat3, tRep3, oEq, oNe, oLt_int, oLt_tup, oLe_int, oLe_tup, oGt_int, oGt_tup, oGe_int, oGe_tup, eqD_int, eqD_str, eqD_bl, eqD_non, eqD_tup, eqD_lst, oAdd, oSub, oMul, oDiv, oMod, oPow, oIs, oIsnt, oIn, oNotIn, inD, lookD, oIx_lst, oIx_tup, oIx_frl, oIx_sq, oIx_dT, oIx_dK, getD, oSl, oInt, oSorted, isB, tPut3, tApp3, tDicT, tDicK, tBk3, tCt3, tMin2, tMax2, tNeg3, tIf3E, tAndV3, tOrV3, tNotV3, tIsi, tIndex3, tYes3, tRaise0, tRaise1, tIsE3, tXf3, wipe3, List.set_cons_zero, List.set_cons_succ, List.getElem?_cons_zero, List.getElem?_cons_succ, List.getElem?_nil, Fl.isSt, D.flat, Fl.nb, Fl.item, cond_true, cond_false, Bool.true_or, Bool.or_true, Bool.false_or, Bool.or_false, Bool.and_true, Bool.true_and, Bool.and_false, Bool.false_and, if_true, if_false, ite_true, ite_false, Bool.false_eq_true, Bool.not_true, Bool.not_false, isNon_non, isNon_lst, isNon_tup, isNon_int, isNon_bl, isNon_str, isNon_sq, ty_ii, ty_bi, ty_tt, ty_tl, ty_ti, ty_tn, ty_lt, ty_ll, ty_ib, ty_bb, ni_int, ni_tup, ni_lst, ni_bl, ni_non, List.length_cons, List.length_nil, reduceIte, List.map_cons, List.map_nil, true_and, and_true, Nat.zero_add, Nat.reduceAdd, List.length_map, Nat.zero_le, Int.toNat_natCast]
      by_cases hb : x.2.length ≤ 60
      · rw [if_neg (by simp; omega)]
        refine ⟨_, _, rfl, fun p hp => ?_⟩
        rcases List.mem_append.mp hp with h | h
        · exact ht' p h
        · rw [List.mem_singleton.mp h]; exact hb
      · rw [if_pos (by simp; omega)]
        refine k.2.2 (if_neg ?_)
        rcases hx with rfl | rfl <;> (simp only at hb; omega)
    · rintro s' ⟨l0, l, rfl, ht'⟩
      exact k.1 (if_pos ⟨ht' (b1, xs) (by simp), ht' (b2, ys) (by simp)⟩)
/-! is_free_of: 0 table, 1 letter, 2 others, 3 other -/
abbrev s_is_free_of : Stmt := topS 10
theorem sc_is_free_of : FnScope ["table", "letter", "others", "other"] ["table", "letter", "others"] (defScope s_is_free_of) := ⟨rfl, rfl, rfl, by decide +kernel, rfl, by decide +kernel, by decide +kernel⟩
def fs_is_free_of (ex : Str → Addr) : FS := fun as q _ => ∃ T x ys, as = [.dT T, .int x, .lst (intsD ys)] ∧ q (.bl (ys.all fun y => inT T x y))
theorem ok_is_free_of {P : Program} {w : World} {K : PySem.W.Frag} {mg : Str → Option Value} {base : Heap} {ex : Str → Addr} {f : Addr} {fd : FuncData} (T : Tx P w K mg base ex)  (F : Fun K "is_free_of" "is_free_of" s_is_free_of f fd) (gm : mg "is_free_of" = some (.ref f)) (bi : Binds K fd ["table", "letter", "others"] []) : Callee P w K mg base "is_free_of" 1 3 (fs_is_free_of ex) := by
  refine callee_mk F gm bi (fun3 (fs_is_free_of ex) F sc_is_free_of ⟨_, fun cdv A outer s H E hr tk hp =>
      (ss3cons (s3for hp rfl (i3seq (p3v 2)) (g3name (i := 3) sc_is_free_of.nd rfl (by first | exact .inl rfl | exact .inr rfl))
        (ss3one (s3if (t3cmp (op3notin (deep_of hr)) (p3tup (a3cons (p3v 1) (a3cons (p3v 3) a3nil))) (p3v 0))
          (ss3one (s3ret p3bl))
          ss3nil)))
      (ss3one (s3ret p3bl))), ?_⟩)
  intro ds q z hl h
  obtain ⟨T, x, ys, rfl, k⟩ := h
  simp only [start3, List.map_cons, List.map_nil, List.length_cons, List.length_nil, List.cons_append, List.nil_append, Nat.reduceAdd, Nat.reduceSub, Nat.zero_add, List.replicate, if_true, if_false, Bool.false_eq_true, reduceIte]
  try simp only [tSeq3, tNx3, tIf3, tRet3, tRetN3, tSet3, tOwn3, tAsg3, tExpr3, tFrz, frzS, tFor3_eq, tLc3_eq, tLc23_eq, tSeq3I_eq, seqK_lst, seqK_tup, seqK_frl, seqK_sq, oTup_lst, oTup_tup, oTup_sq, oList_lst, oList_tup, oList_sq, oLen_lst, oLen_tup, oLen_frl, oLen_sq, flat_sq, tRg1, tRg2, gN3, gT3, gCons3, gNil3, tV3, tC3, tB3, tT3, tIx3, tCh3, tAnd3, tOr3, tNot3, tNil3, tCons3, tTup3, tLst3, tOfL, tCall3, tU3, tUL, tSl3, tNo3, tSome3, tCat3, tRep3, oEq, oNe, oLt_int, oLt_tup, oLe_int, oLe_tup, oGt_int, oGt_tup, oGe_int, oGe_tup, eqD_int, eqD_str, eqD_bl, eqD_non, eqD_tup, eqD_lst, oAdd, oSub, oMul, oDiv, oMod, oPow, oIs, oIsnt, oIn, oNotIn, inD, lookD, oIx_lst, oIx_tup, oIx_frl, oIx_sq, oIx_dT, oIx_dK, getD, oSl, oInt, oSorted, isB, tPut3, tApp3, tDicT, tDicK, tBk3, tCt3, tMin2, tMax2, tNeg3, tIf3E, tAndV3, tOrV3, tNotV3, tIsi, tIndex3, tYes3, tRaise0, tRaise1, tIsE3, tXf3, wipe3, List.set_cons_zero, List.set_cons_succ, List.getElem?_cons_zero, List.getElem?_cons_succ, List.getElem?_nil, Fl.isSt, D.flat, Fl.nb, Fl.item, cond_true, cond_false, Bool.true_or, Bool.or_true, Bool.false_or, Bool.or_false, Bool.and_true, Bool.true_and, Bool.and_false, Bool.false_and, if_true, if_false, ite_true, ite_false, Bool.false_eq_true, Bool.not_true, Bool.not_false, isNon_non, isNon_lst, isNon_tup, isNon_int, isNon_bl, isNon_str, isNon_sq, ty_ii, ty_bi, ty_tt, ty_tl, ty_ti, ty_tn, ty_lt, ty_ll, ty_ib, ty_bb, ni_int, ni_tup, ni_lst, ni_bl, ni_non, List.length_cons, List.length_nil, reduceIte, List.map_cons, List.map_nil, true_and, and_true, Nat.zero_add, Nat.reduceAdd, List.length_map, Nat.zero_le, Int.toNat_natCast]
  refine forP_d (fun zs s => ∃ (l l0 : Sl), s = [.va (.dT T), .va (.int x), l0, l] ∧ (zs.all fun y => inT T x y) = true) ?_ ?_ ?_
  · exact ⟨_, _, rfl, rfl⟩
  · rintro zs y rest s' e ⟨l, l0, rfl, ht⟩
    try simp only [tSeq3, tNx3, tIf3, tRet3, tRetN3, tSet3, tOwn3, tAsg3, tExpr3, tFrz, frzS, tFor3_eq, tLc3_eq, tLc23_eq, tSeq3I_eq, seqK_lst, seqK_tup, seqK_frl, seqK_sq, oTup_lst, oTup_tup, oTup_sq, oList_lst, oList_tup, oList_sq, oLen_lst, oLen_tup, oLen_frl, oLen_sq, flat_sq, tRg1, tRg2, gN3, gT3, gCons3, gNil3, tV3, tC3, tB3, tT3, tIx3, tCh3, tAnd3, tOr3, tNot3, tNil3, tCons3, tTup3, tLst3, tOfL, tCall3, tU3, tUL, tSl3, tNo3, tSome3, tCat3, tRep3, oEq, oNe, oLt_int, oLt_tup, oLe_int, oLe_tup, oGt_int, oGt_tup, oGe_int, oGe_tup, eqD_int, eqD_str, eqD_bl, eqD_non, eqD_tup, eqD_lst, oAdd, oSub, oMul, oDiv, oMod, oPow, oIs, oIsnt, oIn, oNotIn, inD, lookD, oIx_lst, oIx_tup, oIx_frl, oIx_sq, oIx_dT, oIx_dK, getD, oSl, oInt, oSorted, isB, tPut3, tApp3, tDicT, tDicK, tBk3, tCt3, tMin2, tMax2, tNeg3, tIf3E, tAndV3, tOrV3, tNotV3, tIsi, tIndex3, tYes3, tRaise0, tRaise1, tIsE3, tXf3, wipe3, List.set_cons_zero, List.set_cons_succ, List.getElem?_cons_zero, List.getElem?_cons_succ, List.getElem?_nil, Fl.isSt, D.flat, Fl.nb, Fl.item, cond_true, cond_false, Bool.true_or, Bool.or_true, Bool.false_or, Bool.or_false, Bool.and_true, Bool.true_and, Bool.and_false, Bool.false_and, if_true, if_false, ite_true, ite_false, Bool.false_eq_true, Bool.not_true, Bool.not_false, isNon_non, isNon_lst, isNon_tup, isNon_int, isNon_bl, isNon_str, isNon_sq, ty_ii, ty_bi, ty_tt, ty_tl, ty_ti, ty_tn, ty_lt, ty_ll, ty_ib, ty_bb, ni_int, ni_tup, ni_lst, ni_bl, ni_non, List.length_cons, List.length_nil, reduceIte, List.map_cons, List.map_nil, true_and, and_true, Nat.zero_add, Nat.reduceAdd, List.length_map, Nat.zero_le, Int.toNat_natCast]
    refine ⟨le_line (by decide), [x, y], rfl, ?_⟩
    cases hb : inT T x y with
    | true =>
      unfold inT at hb
      rw [hb]
      simp only [Bool.not_true, Bool.false_eq_true, if_false]
      exact ⟨_, _, rfl, by rw [List.all_append, ht]; simp [inT, hb]⟩
    | false =>
      have hk : (ys.all fun y => inT T x y) = false := by rw [e]; simp [hb]
      rw [hk] at k
      unfold inT at hb
      rw [hb]
      simp only [Bool.not_false, if_true]
      exact k
  · rintro s' ⟨l, l0, rfl, ht⟩
    rw [ht] at k
    try simp only [tSeq3, tNx3, tIf3, tRet3, tRetN3, tSet3, tOwn3, tAsg3, tExpr3, tFrz, frzS, tFor3_eq, tLc3_eq, tLc23_eq, tSeq3I_eq, seqK_lst, seqK_tup, seqK_frl, seqK_sq, oTup_lst, oTup_tup, oTup_sq, oList_lst, oList_tup, oList_sq, oLen_lst, oLen_tup, oLen_frl, oLen_sq, flat_sq, tRg1, tRg2, gN3, gT3, gCons3, gNil3, tV3, tC3, tB3, tT3, tIx3, tCh3, tAnd3, tOr3, tNot3, tNil3, tCons3, tTup3, tLst3, tOfL, tCall3, tU3, tUL, tSl3, tNo3, tSome3, tCat3, tRep3, oEq, oNe, oLt_int, oLt_tup, oLe_int, oLe_tup, oGt_int, oGt_tup, oGe_int, oGe_tup, eqD_int, eqD_str, eqD_bl, eqD_non, eqD_tup, eqD_lst, oAdd, oSub, oMul, oDiv, oMod, oPow, oIs, oIsnt, oIn, oNotIn, inD, lookD, oIx_lst, oIx_tup, oIx_frl, oIx_sq, oIx_dT, oIx_dK, getD, oSl, oInt, oSorted, isB, tPut3, tApp3, tDicT, tDicK, tBk3, tCt3, tMin2, tMax2, tNeg3, tIf3E, tAndV3, tOrV3, tNotV3, tIsi, tIndex3, tYes3, tRaise0, tRaise1, tIsE3, tXf3, wipe3, List.set_cons_zero, List.set_cons_succ, List.getElem?_cons_zero, List.getElem?_cons_succ, List.getElem?_nil, Fl.isSt, D.flat, Fl.nb, Fl.item, cond_true, cond_false, Bool.true_or, Bool.or_true, Bool.false_or, Bool.or_false, Bool.and_true, Bool.true_and, Bool.and_false, Bool.false_and, if_true, if_false, ite_true, ite_false, Bool.false_eq_true, Bool.not_true, Bool.not_false, isNon_non, isNon_lst, isNon_tup, isNon_int, isNon_bl, isNon_str, isNon_sq, ty_ii, ty_bi, ty_tt, ty_tl, ty_ti, ty_tn, ty_lt, ty_ll, ty_ib, ty_bb, ni_int, ni_tup, ni_lst, ni_bl, ni_non, List.length_cons, List.length_nil, reduceIte, List.map_cons, List.map_nil, true_and, and_true, Nat.zero_add, Nat.reduceAdd, List.length_map, Nat.zero_le, Int.toNat_natCast]
    exact k
/-- the table tells the same both ways -/
def Sym (T : Tab) : Prop := ∀ a b, inT T a b = inT T b a
/-! first_letters: 0 table, 1 row, 2 seen, 3 found, 4 letter -/
abbrev s_first_letters : Stmt := topS 11
theorem sc_first_letters : FnScope ["table", "row", "seen", "found", "letter"] ["table", "row"] (defScope s_first_letters) := ⟨rfl, rfl, rfl, by decide +kernel, rfl, by decide +kernel, by decide +kernel⟩
def fs_first_letters (ex : Str → Addr) : FS := fun as q _ => ∃ T row, as = [.dT T, .tup (intsD row)] ∧ Sym T ∧ row.length ≤ 1000 ∧ ∀ ls : List Int, (∀ x, x ∈ ls ↔ isF (inT T) row x = true) → ls.Pairwise (· ≤ ·) → ls.length ≤ row.length → q (.tup (intsD ls))
theorem ok_first_letters {P : Program} {w : World} {K : PySem.W.Frag} {mg : Str → Option Value} {base : Heap} {ex : Str → Addr} {f : Addr} {fd : FuncData} (T : Tx P w K mg base ex) (C_is_free_of : Callee P w K mg base "is_free_of" 1 3 (fs_is_free_of ex)) (F : Fun K "first_letters" "first_letters" s_first_letters f fd) (gm : mg "first_letters" = some (.ref f)) (bi : Binds K fd ["table", "row"] []) : Callee P w K mg base "first_letters" 2 2 (fs_first_letters ex) := by
  refine callee_mk F gm bi (fun3 (fs_first_letters ex) F sc_first_letters ⟨_, fun cdv A outer s H E hr tk hp =>
      (ss3cons (s3own (i := 2) sc_first_letters.nd rfl (by first | exact .inl rfl | exact .inr rfl) (l3lst a3nil))
      (ss3cons (s3own (i := 3) sc_first_letters.nd rfl (by first | exact .inl rfl | exact .inr rfl) (l3lst a3nil))
      (ss3cons (s3for hp rfl (i3seq (p3v 1)) (g3name (i := 4) sc_first_letters.nd rfl (by first | exact .inl rfl | exact .inr rfl))
        (ss3one (s3if (t3cmp (op3notin (deep_of hr)) (p3v 4) (p3v 2))
          (ss3cons (s3if (t3val (p3callC C_is_free_of hr (by decide) tk rfl (a3cons (p3v 0) (a3cons (p3v 4) (a3cons (p3v 2) a3nil)))))
            (ss3one (s3app (i := 3) (p3v 4)))
            ss3nil)
          (ss3one (s3app (i := 2) (p3v 4))))
          ss3nil)))
      (ss3one (s3ret (p3t1 c3tup rfl T.b_tuple bt_tuple (PL3.val (l3b1 c3sorted rfl T.b_sorted bt_sorted (p3v 3))))))))), ?_⟩)
  intro ds q z hl h
  obtain ⟨T, row, rfl, sy, hz, k⟩ := h
  simp only [start3, List.map_cons, List.map_nil, List.length_cons, List.length_nil, List.cons_append, List.nil_append, Nat.reduceAdd, Nat.reduceSub, Nat.zero_add, List.replicate, if_true, if_false, Bool.false_eq_true, reduceIte]
  try simp only [tSeq3, tNx3, tIf3, tRet3, tRetN3, tSet3, tOwn3, tAsg3, tExpr3, tFrz, frzS, tFor3_eq, tLc3_eq, tLc23_eq, tSeq3I_eq, seqK_lst, seqK_tup, seqK_frl, seqK_sq, oTup_lst, oTup_tup, oTup_sq, oList_lst, oList_tup, oList_sq, oLen_lst, oLen_tup, oLen_frl, oLen_sq, flat_sq, tRg1, tRg2, gN3, gT3, gCons3, gNil3, tV3, tC3, tB3, tT3, tIx3, tCh3, tAnd3, tOr3, tNot3, tNil3, tCons3, tTup3, tLst3, tOfL, tCall3, tU3, tUL, tSl3, tNo3, tSome3, tCat3, tRep3, oEq, oNe, oLt_int, oLt_tup, oLe_int, oLe_tup, oGt_int, oGt_tup, oGe_int, oGe_tup, eqD_int, eqD_str, eqD_bl, eqD_non, eqD_tup, eqD_lst, oAdd, oSub, oMul, oDiv, oMod, oPow, oIs, oIsnt, oIn, oNotIn, inD, lookD, oIx_lst, oIx_tup, oIx_frl, oIx_sq, oIx_dT, oIx_dK, getD, oSl, oInt, oSorted, isB, tPut3, tApp3, tDicT, tDicK, tBk3, tCt3, tMin2, tMax2, tNeg3, tIf3E, tAndV3, tOrV3, tNotV3, tIsi, tIndex3, tYes3, tRaise0, tRaise1, tIsE3, tXf3, wipe3, List.set_cons_zero, List.set_cons_succ, List.getElem?_cons_zero, List.getElem?_cons_succ, List.getElem?_nil, Fl.isSt, D.flat, Fl.nb, Fl.item, cond_true, cond_false, Bool.true_or, Bool.or_true, Bool.false_or, Bool.or_false, Bool.and_true, Bool.true_and, Bool.and_false, Bool.false_and, if_true, if_false, ite_true, ite_false, Bool.false_eq_true, Bool.not_true, Bool.not_false, isNon_non, isNon_lst, isNon_tup, isNon_int, isNon_bl, isNon_str, isNon_sq, ty_ii, ty_bi, ty_tt, ty_tl, ty_ti, ty_tn, ty_lt, ty_ll, ty_ib, ty_bb, ni_int, ni_tup, ni_lst, ni_bl, ni_non, List.length_cons, List.length_nil, reduceIte, List.map_cons, List.map_nil, true_and, and_true, Nat.zero_add, Nat.reduceAdd, List.length_map, Nat.zero_le, Int.toNat_natCast]
  refine forP_d (fun zs s => ∃ (seen found : List Int) (l : Sl), s = [.va (.dT T), .va (.tup (intsD row)), .ow (intsD seen), .ow (intsD found), l] ∧ (∀ x, x ∈ seen ↔ x ∈ zs) ∧ seen.length ≤ zs.length ∧ found.length ≤ zs.length ∧ (∀ x, x ∈ found ↔ isF (inT T) zs x = true) ∧ found.Nodup) ?_ ?_ ?_
  · exact ⟨[], [], _, rfl, fun x => by simp, Nat.le_refl _, Nat.le_refl _, fun x => by simp [isF, taken], List.nodup_nil⟩
  · rintro zs y rest s' e ⟨seen, found, l, rfl, hs, hsl, hfl, hf, hnd⟩
    have hlen : zs.length + 1 ≤ 1000 := by rw [e, List.length_append, List.length_cons] at hz; omega
    try simp only [tSeq3, tNx3, tIf3, tRet3, tRetN3, tSet3, tOwn3, tAsg3, tExpr3, tFrz, frzS, tFor3_eq, tLc3_eq, tLc23_eq, tSeq3I_eq, seqK_lst, seqK_tup, seqK_frl, seqK_sq, oTup_lst, oTup_tup, oTup_sq, oList_lst, oList_tup, oList_sq, oLen_lst, oLen_tup, oLen_frl, oLen_sq, flat_sq, tRg1, tRg2, gN3, gT3, gCons3, gNil3, tV3, tC3, tB3, tT3, tIx3, tCh3, tAnd3, tOr3, tNot3, tNil3, tCons3, tTup3, tLst3, tOfL, tCall3, tU3, tUL, tSl3, tNo3, tSome3, tCat3, tRep3, oEq, oNe, oLt_int, oLt_tup, oLe_int, oLe_tup, oGt_int, oGt_tup, oGe_int, oGe_tup, eqD_int, eqD_str, eqD_bl, eqD_non, eqD_tup, eqD_lst, oAdd, oSub, oMul, oDiv, oMod, oPow, oIs, oIsnt, oIn, oNotIn, inD, lookD, oIx_lst, oIx_tup, oIx_frl, oIx_sq, oIx_dT, oIx_dK, getD, oSl, oInt, oSorted, isB, tPut3, tApp3, tDicT, tDicK, tBk3, tCt3, tMin2, tMax2, tNeg3, tIf3E, tAndV3, tOrV3, tNotV3, tIsi, tIndex3, tYes3, tRaise0, tRaise1, tIsE3, tXf3, wipe3, List.set_cons_zero, List.set_cons_succ, List.getElem?_cons_zero, List.getElem?_cons_succ, List.getElem?_nil, Fl.isSt, D.flat, Fl.nb, Fl.item, cond_true, cond_false, Bool.true_or, Bool.or_true, Bool.false_or, Bool.or_false, Bool.and_true, Bool.true_and, Bool.and_false, Bool.false_and, if_true, if_false, ite_true, ite_false, Bool.false_eq_true, Bool.not_true, Bool.not_false, isNon_non, isNon_lst, isNon_tup, isNon_int, isNon_bl, isNon_str, isNon_sq, ty_ii, ty_bi, ty_tt, ty_tl, ty_ti, ty_tn, ty_lt, ty_ll, ty_ib, ty_bb, ni_int, ni_tup, ni_lst, ni_bl, ni_non, List.length_cons, List.length_nil, reduceIte, List.map_cons, List.map_nil, true_and, and_true, Nat.zero_add, Nat.reduceAdd, List.length_map, Nat.zero_le, Int.toNat_natCast]
    refine inG_of (α := Int) ?_
    have mem_app : ∀ x, x ∈ zs ++ [y] ↔ x ∈ zs ∨ x = y := fun x => by simp
    by_cases hy : y ∈ seen
    · have hz' : y ∈ zs := (hs y).mp hy
      simp only [hy, decide_true, Bool.not_true, Bool.false_eq_true, if_false]
      refine ⟨seen, found, _, rfl, fun x => ?_, by rw [List.length_append]; omega, by rw [List.length_append]; omega, fun x => ?_, hnd⟩
      · rw [hs, mem_app]
        exact ⟨.inl, fun h => h.elim id fun e => by rw [e]; exact hz'⟩
      · rw [hf]
        by_cases hx : x ∈ zs
        · rw [isF_append_mem hx]
        · have h1 : isF (inT T) zs x = false := by
            cases h : isF (inT T) zs x with
            | false => rfl
            | true => exact absurd (isF_mem h) hx
          have h2 : isF (inT T) (zs ++ [y]) x = false := by
            cases h : isF (inT T) (zs ++ [y]) x with
            | false => rfl
            | true =>
              rcases (mem_app x).mp (isF_mem h) with h | h
              · exact absurd h hx
              · rw [h] at hx; exact absurd hz' hx
          rw [h1, h2]
    · have hz' : y ∉ zs := fun h => hy ((hs y).mpr h)
      simp only [hy, decide_false, Bool.not_false, if_true]
      refine ⟨T, y, seen, rfl, ?_⟩
      try simp only [tSeq3, tNx3, tIf3, tRet3, tRetN3, tSet3, tOwn3, tAsg3, tExpr3, tFrz, frzS, tFor3_eq, tLc3_eq, tLc23_eq, tSeq3I_eq, seqK_lst, seqK_tup, seqK_frl, seqK_sq, oTup_lst, oTup_tup, oTup_sq, oList_lst, oList_tup, oList_sq, oLen_lst, oLen_tup, oLen_frl, oLen_sq, flat_sq, tRg1, tRg2, gN3, gT3, gCons3, gNil3, tV3, tC3, tB3, tT3, tIx3, tCh3, tAnd3, tOr3, tNot3, tNil3, tCons3, tTup3, tLst3, tOfL, tCall3, tU3, tUL, tSl3, tNo3, tSome3, tCat3, tRep3, oEq, oNe, oLt_int, oLt_tup, oLe_int, oLe_tup, oGt_int, oGt_tup, oGe_int, oGe_tup, eqD_int, eqD_str, eqD_bl, eqD_non, eqD_tup, eqD_lst, oAdd, oSub, oMul, oDiv, oMod, oPow, oIs, oIsnt, oIn, oNotIn, inD, lookD, oIx_lst, oIx_tup, oIx_frl, oIx_sq, oIx_dT, oIx_dK, getD, oSl, oInt, oSorted, isB, tPut3, tApp3, tDicT, tDicK, tBk3, tCt3, tMin2, tMax2, tNeg3, tIf3E, tAndV3, tOrV3, tNotV3, tIsi, tIndex3, tYes3, tRaise0, tRaise1, tIsE3, tXf3, wipe3, List.set_cons_zero, List.set_cons_succ, List.getElem?_cons_zero, List.getElem?_cons_succ, List.getElem?_nil, Fl.isSt, D.flat, Fl.nb, Fl.item, cond_true, cond_false, Bool.true_or, Bool.or_true, Bool.false_or, Bool.or_false, Bool.and_true, Bool.true_and, Bool.and_false, Bool.false_and, if_true, if_false, ite_true, ite_false, Bool.false_eq_true, Bool.not_true, Bool.not_false, isNon_non, isNon_lst, isNon_tup, isNon_int, isNon_bl, isNon_str, isNon_sq, ty_ii, ty_bi, ty_tt, ty_tl, ty_ti, ty_tn, ty_lt, ty_ll, ty_ib, ty_bb, ni_int, ni_tup, ni_lst, ni_bl, ni_non, List.length_cons, List.length_nil, reduceIte, List.map_cons, List.map_nil, true_and, and_true, Nat.zero_add, Nat.reduceAdd, List.length_map, Nat.zero_le, Int.toNat_natCast]
      have hall : (seen.all fun c => inT T y c) = zs.all fun c => inT T c y := by
        rw [Bool.eq_iff_iff, List.all_eq_true, List.all_eq_true]
        exact ⟨fun h c hc => by rw [sy]; exact h c ((hs c).mpr hc), fun h c hc => by rw [sy]; exact h c ((hs c).mp hc)⟩
      have hfy : isF (inT T) (zs ++ [y]) y = zs.all fun c => inT T c y := by rw [isF_append hz', isF_head, Bool.and_true]
      have other : ∀ x, x ≠ y → (isF (inT T) (zs ++ [y]) x = true ↔ isF (inT T) zs x = true) := fun x hx => by
        by_cases hm : x ∈ zs
        · rw [isF_append_mem hm]
        · constructor
          · intro h
            rcases (mem_app x).mp (isF_mem h) with h' | h'
            · exact absurd h' hm
            · exact absurd h' hx
          · intro h
            exact absurd (isF_mem h) hm
      have hfn : y ∉ found := fun h => hz' (isF_mem ((hf y).mp h))
      have seen' : ∀ x, x ∈ seen ++ [y] ↔ x ∈ zs ++ [y] := fun x => by rw [List.mem_append, List.mem_append, hs]
      cases hb : (seen.all fun c => inT T y c) with
      | true =>
        rw [hall] at hb
        simp only [if_true]
        refine ⟨lt_line (by omega), lt_line (by omega), seen ++ [y], found ++ [y], .va (.int y), by simp, seen', by simp; omega, by simp; omega, fun x => ?_, ?_⟩
        · rw [List.mem_append, List.mem_singleton, hf]
          by_cases hx : x = y
          · rw [hx, hfy, hb]
            simp
          · rw [other x hx]
            simp [hx]
        · exact List.nodup_append.mpr ⟨hnd, by simp, fun a ha b hb e => by
            rw [List.mem_singleton.mp hb] at e
            rw [e] at ha
            exact hfn ha⟩
      | false =>
        rw [hall] at hb
        simp only [Bool.false_eq_true, if_false]
        refine ⟨lt_line (by omega), seen ++ [y], found, .va (.int y), by simp, seen', by simp; omega, by simp; omega, fun x => ?_, hnd⟩
        rw [hf]
        by_cases hx : x = y
        · rw [hx, hfy, hb]
          constructor
          · intro h; exact absurd (isF_mem h) hz'
          · intro h; cases h
        · rw [other x hx]
  · rintro s' ⟨seen, found, l, rfl, hs, hsl, hfl, hf, hnd⟩
    try simp only [tSeq3, tNx3, tIf3, tRet3, tRetN3, tSet3, tOwn3, tAsg3, tExpr3, tFrz, frzS, tFor3_eq, tLc3_eq, tLc23_eq, tSeq3I_eq, seqK_lst, seqK_tup, seqK_frl, seqK_sq, oTup_lst, oTup_tup, oTup_sq, oList_lst, oList_tup, oList_sq, oLen_lst, oLen_tup, oLen_frl, oLen_sq, flat_sq, tRg1, tRg2, gN3, gT3, gCons3, gNil3, tV3, tC3, tB3, tT3, tIx3, tCh3, tAnd3, tOr3, tNot3, tNil3, tCons3, tTup3, tLst3, tOfL, tCall3, tU3, tUL, tSl3, tNo3, tSome3, tCat3, tRep3, oEq, oNe, oLt_int, oLt_tup, oLe_int, oLe_tup, oGt_int, oGt_tup, oGe_int, oGe_tup, eqD_int, eqD_str, eqD_bl, eqD_non, eqD_tup, eqD_lst, oAdd, oSub, oMul, oDiv, oMod, oPow, oIs, oIsnt, oIn, oNotIn, inD, lookD, oIx_lst, oIx_tup, oIx_frl, oIx_sq, oIx_dT, oIx_dK, getD, oSl, oInt, oSorted, isB, tPut3, tApp3, tDicT, tDicK, tBk3, tCt3, tMin2, tMax2, tNeg3, tIf3E, tAndV3, tOrV3, tNotV3, tIsi, tIndex3, tYes3, tRaise0, tRaise1, tIsE3, tXf3, wipe3, List.set_cons_zero, List.set_cons_succ, List.getElem?_cons_zero, List.getElem?_cons_succ, List.getElem?_nil, Fl.isSt, D.flat, Fl.nb, Fl.item, cond_true, cond_false, Bool.true_or, Bool.or_true, Bool.false_or, Bool.or_false, Bool.and_true, Bool.true_and, Bool.and_false, Bool.false_and, if_true, if_false, ite_true, ite_false, Bool.false_eq_true, Bool.not_true, Bool.not_false, isNon_non, isNon_lst, isNon_tup, isNon_int, isNon_bl, isNon_str, isNon_sq, ty_ii, ty_bi, ty_tt, ty_tl, ty_ti, ty_tn, ty_lt, ty_ll, ty_ib, ty_bb, ni_int, ni_tup, ni_lst, ni_bl, ni_non, List.length_cons, List.length_nil, reduceIte, List.map_cons, List.map_nil, true_and, and_true, Nat.zero_add, Nat.reduceAdd, List.length_map, Nat.zero_le, Int.toNat_natCast]
    refine ⟨found, rfl, fun ns hp hpw => ?_⟩
    exact k ns (fun x => by rw [hp.mem_iff, hf]) hpw (by rw [hp.length_eq]; exact hfl)
/-! without_first: 0 row, 1 letter, 2 place -/
abbrev s_without_first : Stmt := topS 12
theorem sc_without_first : FnScope ["row", "letter", "place"] ["row", "letter"] (defScope s_without_first) := ⟨rfl, rfl, rfl, by decide +kernel, rfl, by decide +kernel, by decide +kernel⟩
def fs_without_first (ex : Str → Addr) : FS := fun as q _ => ∃ row x, as = [.tup (intsD row), .int x] ∧ x ∈ row ∧ row.length ≤ 1000 ∧ q (.tup (intsD (row.erase x)))
theorem ok_without_first {P : Program} {w : World} {K : PySem.W.Frag} {mg : Str → Option Value} {base : Heap} {ex : Str → Addr} {f : Addr} {fd : FuncData} (T : Tx P w K mg base ex)  (F : Fun K "without_first" "without_first" s_without_first f fd) (gm : mg "without_first" = some (.ref f)) (bi : Binds K fd ["row", "letter"] []) : Callee P w K mg base "without_first" 1 2 (fs_without_first ex) := by
  refine callee_mk F gm bi (fun3 (fs_without_first ex) F sc_without_first ⟨_, fun cdv A outer s H E hr tk hp =>
      (ss3cons (s3set (i := 2) sc_without_first.nd rfl (by first | exact .inl rfl | exact .inr rfl) (p3index (deep_of hr) (p3v 0) (p3v 1)))
      (ss3one (s3ret (p3op op3add (p3sl (p3v 0) o3none (o3some (p3v 2))) (p3sl (p3v 0) (o3some (p3op op3add (p3v 2) p3int)) o3none))))), ?_⟩)
  intro ds q z hl h
  obtain ⟨row, x, rfl, hx, hz, k⟩ := h
  simp only [start3, List.map_cons, List.map_nil, List.length_cons, List.length_nil, List.cons_append, List.nil_append, Nat.reduceAdd, Nat.reduceSub, Nat.zero_add, List.replicate, if_true, if_false, Bool.false_eq_true, reduceIte]
  try simp only [tSeq3, tNx3, tIf3, tRet3, tRetN3, tSet3, tOwn3, tAsg3, tExpr3, tFrz, frzS, tFor3_eq, tLc3_eq, tLc23_eq, tSeq3I_eq, seqK_lst, seqK_tup, seqK_frl, seqK_sq, oTup_lst, oTup_tup, oTup_sq, oList_lst, oList_tup, oList_sq, oLen_lst, oLen_tup, oLen_frl, oLen_sq, flat_sq, tRg1, tRg2, gN3, gT3, gCons3, gNil3, tV3, tC3, tB3, tT3, tIx3, tCh3, tAnd3, tOr3, tNot3, tNil3, tCons3, tTup3, tLst3, tOfL, tCall3, tU3, tUL, tSl3, tNo3, tSome3, tCat3, tRep3, oEq, oNe, oLt_int, oLt_tup, oLe_int, oLe_tup, oGt_int, oGt_tup, oGe_int, oGe_tup, eqD_int, eqD_str, eqD_bl, eqD_non, eqD_tup, eqD_lst, oAdd, oSub, oMul, oDiv, oMod, oPow, oIs, oIsnt, oIn, oNotIn, inD, lookD, oIx_lst, oIx_tup, oIx_frl, oIx_sq, oIx_dT, oIx_dK, getD, oSl, oInt, oSorted, isB, tPut3, tApp3, tDicT, tDicK, tBk3, tCt3, tMin2, tMax2, tNeg3, tIf3E, tAndV3, tOrV3, tNotV3, tIsi, tIndex3, tYes3, tRaise0, tRaise1, tIsE3, tXf3, wipe3, List.set_cons_zero, List.set_cons_succ, List.getElem?_cons_zero, List.getElem?_cons_succ, List.getElem?_nil, Fl.isSt, D.flat, Fl.nb, Fl.item, cond_true, cond_false, Bool.true_or, Bool.or_true, Bool.false_or, Bool.or_false, Bool.and_true, Bool.true_and, Bool.and_false, Bool.false_and, if_true, if_false, ite_true, ite_false, Bool.false_eq_true, Bool.not_true, Bool.not_false, isNon_non, isNon_lst, isNon_tup, isNon_int, isNon_bl, isNon_str, isNon_sq, ty_ii, ty_bi, ty_tt, ty_tl, ty_ti, ty_tn, ty_lt, ty_ll, ty_ib, ty_bb, ni_int, ni_tup, ni_lst, ni_bl, ni_non, List.length_cons, List.length_nil, reduceIte, List.map_cons, List.map_nil, true_and, and_true, Nat.zero_add, Nat.reduceAdd, List.length_map, Nat.zero_le, Int.toNat_natCast]
  refine idxG_of (α := Int) hx ?_
  have e : cutD (intsD row) none (some (row.idxOf x : Int)) ++ cutD (intsD row) (some ((row.idxOf x : Int) + 1)) none = intsD (row.erase x) := by
    rw [show ((row.idxOf x : Int) + 1) = ((row.idxOf x + 1 : Nat) : Int) from rfl, cutD_none_nat, cutD_nat_none, ← List.map_take, ← List.map_drop, ← List.map_append, List.erase_eq_eraseIdx_of_idxOf (i := row.idxOf x) rfl, List.eraseIdx_eq_take_drop_succ]
  have hlen : (cutD (intsD row) none (some (row.idxOf x : Int))).length + (cutD (intsD row) (some ((row.idxOf x : Int) + 1)) none).length ≤ sizeLine := by
    rw [← List.length_append, e, List.length_map]
    have := List.length_erase_of_mem hx
    exact le_line (by omega)
  refine ⟨hlen, ?_⟩
  rw [e]
  exact k
/-- the least of the letters that may come first stands first -/
theorem first_at {fr : Int → Int → Bool} {row ls : List Int} (hls : ∀ x, x ∈ ls ↔ isF fr row x = true) (hp : ls.Pairwise (· ≤ ·)) (hne : row ≠ []) : ∃ x r, ls = x :: r ∧ isF fr row x = true ∧ ∀ y, isF fr row y = true → x ≤ y := by
  obtain ⟨x, _, h1, h2⟩ := min_first (fr := fr) hne
  cases ls with
  | nil => exact absurd ((hls x).mpr h1) (by simp)
  | cons z r =>
    refine ⟨z, r, rfl, (hls z).mp List.mem_cons_self, fun y hy => ?_⟩
    rcases List.mem_cons.mp ((hls y).mpr hy) with e | h
    · rw [e]; exact Int.le_refl _
    · exact (List.pairwise_cons.mp hp).1 y h
theorem frP_comm (ps : List (Int × Int)) (a b : Int) : frP ps a b = frP ps b a := by unfold frP; simp [or_comm]
/-! least_row: 0 table, 1 row, 2 left, 3 found, 4 letter -/
abbrev s_least_row : Stmt := topS 13
theorem sc_least_row : FnScope ["table", "row", "left", "found", "letter"] ["table", "row"] (defScope s_least_row) := ⟨rfl, rfl, rfl, by decide +kernel, rfl, by decide +kernel, by decide +kernel⟩
def fs_least_row (ex : Str → Addr) : FS := fun as q _ => ∃ T row, as = [.dT T, .tup (intsD row)] ∧ Sym T ∧ row.length ≤ 1000 ∧ q (.tup (intsD (least (inT T) row)))
theorem ok_least_row {P : Program} {w : World} {K : PySem.W.Frag} {mg : Str → Option Value} {base : Heap} {ex : Str → Addr} {f : Addr} {fd : FuncData} (T : Tx P w K mg base ex) (C_first_letters : Callee P w K mg base "first_letters" 2 2 (fs_first_letters ex)) (C_without_first : Callee P w K mg base "without_first" 1 2 (fs_without_first ex)) (F : Fun K "least_row" "least_row" s_least_row f fd) (gm : mg "least_row" = some (.ref f)) (bi : Binds K fd ["table", "row"] []) : Callee P w K mg base "least_row" 3 2 (fs_least_row ex) := by
  refine callee_mk F gm bi (fun3 (fs_least_row ex) F sc_least_row ⟨_, fun cdv A outer s H E hr tk hp =>
      (ss3cons (s3set (i := 2) sc_least_row.nd rfl (by first | exact .inl rfl | exact .inr rfl) (p3t1 c3tup rfl T.b_tuple bt_tuple (p3v 1)))
      (ss3cons (s3own (i := 3) sc_least_row.nd rfl (by first | exact .inl rfl | exact .inr rfl) (l3lst a3nil))
      (ss3cons (s3while hp (t3cmp (op3gt (deep_of hr)) (p3b1 c3len rfl T.b_len bt_len (p3v 2)) p3int)
        (ss3cons (s3set (i := 4) sc_least_row.nd rfl (by first | exact .inl rfl | exact .inr rfl) (p3ix (deep_of hr) (p3callC C_first_letters hr (by decide) tk rfl (a3cons (p3v 0) (a3cons (p3v 2) a3nil))) p3int))
        (ss3cons (s3app (i := 3) (p3v 4))
        (ss3one (s3set (i := 2) sc_least_row.nd rfl (by first | exact .inl rfl | exact .inr rfl) (p3callC C_without_first hr (by decide) tk rfl (a3cons (p3v 2) (a3cons (p3v 4) a3nil))))))))
      (ss3one (s3ret (p3t1 c3tup rfl T.b_tuple bt_tuple (p3v 3))))))), ?_⟩)
  intro ds q z hl h
  obtain ⟨T, row, rfl, sy, hz, k⟩ := h
  simp only [start3, List.map_cons, List.map_nil, List.length_cons, List.length_nil, List.cons_append, List.nil_append, Nat.reduceAdd, Nat.reduceSub, Nat.zero_add, List.replicate, if_true, if_false, Bool.false_eq_true, reduceIte]
  try simp only [tSeq3, tNx3, tIf3, tRet3, tRetN3, tSet3, tOwn3, tAsg3, tExpr3, tFrz, frzS, tFor3_eq, tLc3_eq, tLc23_eq, tSeq3I_eq, seqK_lst, seqK_tup, seqK_frl, seqK_sq, oTup_lst, oTup_tup, oTup_sq, oList_lst, oList_tup, oList_sq, oLen_lst, oLen_tup, oLen_frl, oLen_sq, flat_sq, tRg1, tRg2, gN3, gT3, gCons3, gNil3, tV3, tC3, tB3, tT3, tIx3, tCh3, tAnd3, tOr3, tNot3, tNil3, tCons3, tTup3, tLst3, tOfL, tCall3, tU3, tUL, tSl3, tNo3, tSome3, tCat3, tRep3, oEq, oNe, oLt_int, oLt_tup, oLe_int, oLe_tup, oGt_int, oGt_tup, oGe_int, oGe_tup, eqD_int, eqD_str, eqD_bl, eqD_non, eqD_tup, eqD_lst, oAdd, oSub, oMul, oDiv, oMod, oPow, oIs, oIsnt, oIn, oNotIn, inD, lookD, oIx_lst, oIx_tup, oIx_frl, oIx_sq, oIx_dT, oIx_dK, getD, oSl, oInt, oSorted, isB, tPut3, tApp3, tDicT, tDicK, tBk3, tCt3, tMin2, tMax2, tNeg3, tIf3E, tAndV3, tOrV3, tNotV3, tIsi, tIndex3, tYes3, tRaise0, tRaise1, tIsE3, tXf3, wipe3, List.set_cons_zero, List.set_cons_succ, List.getElem?_cons_zero, List.getElem?_cons_succ, List.getElem?_nil, Fl.isSt, D.flat, Fl.nb, Fl.item, cond_true, cond_false, Bool.true_or, Bool.or_true, Bool.false_or, Bool.or_false, Bool.and_true, Bool.true_and, Bool.and_false, Bool.false_and, if_true, if_false, ite_true, ite_false, Bool.false_eq_true, Bool.not_true, Bool.not_false, isNon_non, isNon_lst, isNon_tup, isNon_int, isNon_bl, isNon_str, isNon_sq, ty_ii, ty_bi, ty_tt, ty_tl, ty_ti, ty_tn, ty_lt, ty_ll, ty_ib, ty_bb, ni_int, ni_tup, ni_lst, ni_bl, ni_non, List.length_cons, List.length_nil, reduceIte, List.map_cons, List.map_nil, true_and, and_true, Nat.zero_add, Nat.reduceAdd, List.length_map, Nat.zero_le, Int.toNat_natCast]
  refine whileP (fun s => ∃ (l1 l4 : Sl) (left done : List Int), s = [.va (.dT T), l1, .va (.tup (intsD left)), .ow (intsD done), l4] ∧ done ++ least (inT T) left = least (inT T) row ∧ left.length ≤ 1000 ∧ done.length + left.length ≤ 1000) (fun s => rowLen s 2) ?_ ?_
  · exact ⟨_, _, row, [], rfl, rfl, hz, by simpa using hz⟩
  · rintro s' ⟨l1, l4, left, done, rfl, he, hz1, hz2⟩
    try simp only [tSeq3, tNx3, tIf3, tRet3, tRetN3, tSet3, tOwn3, tAsg3, tExpr3, tFrz, frzS, tFor3_eq, tLc3_eq, tLc23_eq, tSeq3I_eq, seqK_lst, seqK_tup, seqK_frl, seqK_sq, oTup_lst, oTup_tup, oTup_sq, oList_lst, oList_tup, oList_sq, oLen_lst, oLen_tup, oLen_frl, oLen_sq, flat_sq, tRg1, tRg2, gN3, gT3, gCons3, gNil3, tV3, tC3, tB3, tT3, tIx3, tCh3, tAnd3, tOr3, tNot3, tNil3, tCons3, tTup3, tLst3, tOfL, tCall3, tU3, tUL, tSl3, tNo3, tSome3, tCat3, tRep3, oEq, oNe, oLt_int, oLt_tup, oLe_int, oLe_tup, oGt_int, oGt_tup, oGe_int, oGe_tup, eqD_int, eqD_str, eqD_bl, eqD_non, eqD_tup, eqD_lst, oAdd, oSub, oMul, oDiv, oMod, oPow, oIs, oIsnt, oIn, oNotIn, inD, lookD, oIx_lst, oIx_tup, oIx_frl, oIx_sq, oIx_dT, oIx_dK, getD, oSl, oInt, oSorted, isB, tPut3, tApp3, tDicT, tDicK, tBk3, tCt3, tMin2, tMax2, tNeg3, tIf3E, tAndV3, tOrV3, tNotV3, tIsi, tIndex3, tYes3, tRaise0, tRaise1, tIsE3, tXf3, wipe3, List.set_cons_zero, List.set_cons_succ, List.getElem?_cons_zero, List.getElem?_cons_succ, List.getElem?_nil, Fl.isSt, D.flat, Fl.nb, Fl.item, cond_true, cond_false, Bool.true_or, Bool.or_true, Bool.false_or, Bool.or_false, Bool.and_true, Bool.true_and, Bool.and_false, Bool.false_and, if_true, if_false, ite_true, ite_false, Bool.false_eq_true, Bool.not_true, Bool.not_false, isNon_non, isNon_lst, isNon_tup, isNon_int, isNon_bl, isNon_str, isNon_sq, ty_ii, ty_bi, ty_tt, ty_tl, ty_ti, ty_tn, ty_lt, ty_ll, ty_ib, ty_bb, ni_int, ni_tup, ni_lst, ni_bl, ni_non, List.length_cons, List.length_nil, reduceIte, List.map_cons, List.map_nil, true_and, and_true, Nat.zero_add, Nat.reduceAdd, List.length_map, Nat.zero_le, Int.toNat_natCast]
    cases left with
    | nil =>
      simp only [List.length_nil, least_nil, List.append_nil] at he ⊢
      rw [he]
      simp
      exact k
    | cons c r =>
      rw [if_pos (by simp)]
      refine ⟨T, c :: r, rfl, sy, hz1, fun ls h1 h2 _ => ?_⟩
      obtain ⟨x, ls', rfl, hx, hm⟩ := first_at h1 h2 (by simp)
      refine ⟨_, at0 _ _, ?_⟩
      try simp only [tSeq3, tNx3, tIf3, tRet3, tRetN3, tSet3, tOwn3, tAsg3, tExpr3, tFrz, frzS, tFor3_eq, tLc3_eq, tLc23_eq, tSeq3I_eq, seqK_lst, seqK_tup, seqK_frl, seqK_sq, oTup_lst, oTup_tup, oTup_sq, oList_lst, oList_tup, oList_sq, oLen_lst, oLen_tup, oLen_frl, oLen_sq, flat_sq, tRg1, tRg2, gN3, gT3, gCons3, gNil3, tV3, tC3, tB3, tT3, tIx3, tCh3, tAnd3, tOr3, tNot3, tNil3, tCons3, tTup3, tLst3, tOfL, tCall3, tU3, tUL, tSl3, tNo3, tSome3, tCat3, tRep3, oEq, oNe, oLt_int, oLt_tup, oLe_int, oLe_tup, oGt_int, oGt_tup, oGe_int, oGe_tup, eqD_int, eqD_str, eqD_bl, eqD_non, eqD_tup, eqD_lst, oAdd, oSub, oMul, oDiv, oMod, oPow, oIs, oIsnt, oIn, oNotIn, inD, lookD, oIx_lst, oIx_tup, oIx_frl, oIx_sq, oIx_dT, oIx_dK, getD, oSl, oInt, oSorted, isB, tPut3, tApp3, tDicT, tDicK, tBk3, tCt3, tMin2, tMax2, tNeg3, tIf3E, tAndV3, tOrV3, tNotV3, tIsi, tIndex3, tYes3, tRaise0, tRaise1, tIsE3, tXf3, wipe3, List.set_cons_zero, List.set_cons_succ, List.getElem?_cons_zero, List.getElem?_cons_succ, List.getElem?_nil, Fl.isSt, D.flat, Fl.nb, Fl.item, cond_true, cond_false, Bool.true_or, Bool.or_true, Bool.false_or, Bool.or_false, Bool.and_true, Bool.true_and, Bool.and_false, Bool.false_and, if_true, if_false, ite_true, ite_false, Bool.false_eq_true, Bool.not_true, Bool.not_false, isNon_non, isNon_lst, isNon_tup, isNon_int, isNon_bl, isNon_str, isNon_sq, ty_ii, ty_bi, ty_tt, ty_tl, ty_ti, ty_tn, ty_lt, ty_ll, ty_ib, ty_bb, ni_int, ni_tup, ni_lst, ni_bl, ni_non, List.length_cons, List.length_nil, reduceIte, List.map_cons, List.map_nil, true_and, and_true, Nat.zero_add, Nat.reduceAdd, List.length_map, Nat.zero_le, Int.toNat_natCast]
      have hmem := isF_mem hx
      have hle := List.length_erase_of_mem hmem
      refine ⟨lt_line (by omega), c :: r, x, rfl, hmem, hz1, ⟨_, _, (c :: r).erase x, done ++ [x], by simp; exact ⟨rfl, rfl⟩, ?_, by omega, ?_⟩, ?_⟩
      · rw [List.append_assoc, ← he, least_cons hx hm]
        rfl
      · rw [List.length_append, List.length_cons, List.length_nil]
        simp only [List.length_cons] at hz2 hle
        omega
      · show (intsD ((c :: r).erase x)).length < (intsD (c :: r)).length
        rw [List.length_map, List.length_map, hle, List.length_cons]
        omega
/-! remainder: 0 free, 1 start, 2 log, 3 table, 4 left, 5 letter -/
abbrev s_remainder : Stmt := topS 15
theorem sc_remainder : FnScope ["free", "start", "log", "table", "left", "letter"] ["free", "start", "log"] (defScope s_remainder) := ⟨rfl, rfl, rfl, by decide +kernel, rfl, by decide +kernel, by decide +kernel⟩
def fs_remainder (ex : Str → Addr) : FS := fun as q z => ∃ b ps b1 st b2 lg, as = [sq b (List.map prD ps), sq b1 (intsD st), sq b2 (intsD lg)] ∧ ps.length ≤ 10000 ∧ refK ex (refuse st lg) z (q (optT (behind (frP ps) st lg)))
theorem ok_remainder {P : Program} {w : World} {K : PySem.W.Frag} {mg : Str → Option Value} {base : Heap} {ex : Str → Addr} {f : Addr} {fd : FuncData} (T : Tx P w K mg base ex) (C_demand_logs : Callee P w K mg base "demand_logs" 3 1 (fs_demand_logs ex)) (C_free_table : Callee P w K mg base "free_table" 1 1 (fs_free_table ex)) (C_first_letters : Callee P w K mg base "first_letters" 2 2 (fs_first_letters ex)) (C_without_first : Callee P w K mg base "without_first" 1 2 (fs_without_first ex)) (F : Fun K "remainder" "remainder" s_remainder f fd) (gm : mg "remainder" = some (.ref f)) (bi : Binds K fd ["free", "start", "log"] []) : Callee P w K mg base "remainder" 4 3 (fs_remainder ex) := by
  refine callee_mk F gm bi (fun3 (fs_remainder ex) F sc_remainder ⟨_, fun cdv A outer s H E hr tk hp =>
      (ss3cons (s3expr (p3callC C_demand_logs hr (by decide) tk rfl (a3cons (p3tup (a3cons (p3v 1) (a3cons (p3v 2) a3nil))) a3nil)))
      (ss3cons (s3set (i := 3) sc_remainder.nd rfl (by first | exact .inl rfl | exact .inr rfl) (p3callC C_free_table hr (by decide) tk rfl (a3cons (p3v 0) a3nil)))
      (ss3cons (s3set (i := 4) sc_remainder.nd rfl (by first | exact .inl rfl | exact .inr rfl) (p3t1 c3tup rfl T.b_tuple bt_tuple (p3v 2)))
      (ss3cons (s3for hp rfl (i3seq (p3v 1)) (g3name (i := 5) sc_remainder.nd rfl (by first | exact .inl rfl | exact .inr rfl))
        (ss3cons (s3if (t3cmp (op3notin (deep_of hr)) (p3v 5) (p3callC C_first_letters hr (by decide) tk rfl (a3cons (p3v 3) (a3cons (p3v 4) a3nil))))
          (ss3one (s3ret p3non))
          ss3nil)
        (ss3one (s3set (i := 4) sc_remainder.nd rfl (by first | exact .inl rfl | exact .inr rfl) (p3callC C_without_first hr (by decide) tk rfl (a3cons (p3v 4) (a3cons (p3v 5) a3nil)))))))
      (ss3one (s3ret (p3v 4))))))), ?_⟩)
  intro ds q z hl h
  obtain ⟨b, ps, b1, st, b2, lg, rfl, hn, k⟩ := h
  simp only [start3, List.map_cons, List.map_nil, List.length_cons, List.length_nil, List.cons_append, List.nil_append, Nat.reduceAdd, Nat.reduceSub, Nat.zero_add, List.replicate, if_true, if_false, Bool.false_eq_true, reduceIte]
  try simp only [tSeq3, tNx3, tIf3, tRet3, tRetN3, tSet3, tOwn3, tAsg3, tExpr3, tFrz, frzS, tFor3_eq, tLc3_eq, tLc23_eq, tSeq3I_eq, seqK_lst, seqK_tup, seqK_frl, seqK_sq, oTup_lst, oTup_tup, oTup_sq, oList_lst, oList_tup, oList_sq, oLen_lst, oLen_tup, oLen_frl, oLen_sq, flat_sq, tRg1, tRg2, gN3, gT3, gCons3, gNil3, tV3, tC3, tB3, tT3, tIx3, tCh3, tAnd3, tOr3, tNot3, tNil3, tCons3, tTup3, tLst3, tOfL, tCall3, tU3, tUL, tSl3, tNo3, tSome3, tCat3, tRep3, oEq, oNe, oLt_int, oLt_tup, oLe_int, oLe_tup, oGt_int, oGt_tup, oGe_int, oGe_tup, eqD_int, eqD_str, eqD_bl, eqD_non, eqD_tup, eqD_lst, oAdd, oSub, oMul, oDiv, oMod, oPow, oIs, oIsnt, oIn, oNotIn, inD, lookD, oIx_lst, oIx_tup, oIx_frl, oIx_sq, oIx_dT, oIx_dK, getD, oSl, oInt, oSorted, isB, tPut3, tApp3, tDicT, tDicK, tBk3, tCt3, tMin2, tMax2, tNeg3, tIf3E, tAndV3, tOrV3, tNotV3, tIsi, tIndex3, tYes3, tRaise0, tRaise1, tIsE3, tXf3, wipe3, List.set_cons_zero, List.set_cons_succ, List.getElem?_cons_zero, List.getElem?_cons_succ, List.getElem?_nil, Fl.isSt, D.flat, Fl.nb, Fl.item, cond_true, cond_false, Bool.true_or, Bool.or_true, Bool.false_or, Bool.or_false, Bool.and_true, Bool.true_and, Bool.and_false, Bool.false_and, if_true, if_false, ite_true, ite_false, Bool.false_eq_true, Bool.not_true, Bool.not_false, isNon_non, isNon_lst, isNon_tup, isNon_int, isNon_bl, isNon_str, isNon_sq, ty_ii, ty_bi, ty_tt, ty_tl, ty_ti, ty_tn, ty_lt, ty_ll, ty_ib, ty_bb, ni_int, ni_tup, ni_lst, ni_bl, ni_non, List.length_cons, List.length_nil, reduceIte, List.map_cons, List.map_nil, true_and, and_true, Nat.zero_add, Nat.reduceAdd, List.length_map, Nat.zero_le, Int.toNat_natCast]
  refine ⟨le_line (by decide), b1, st, b2, lg, rfl, ⟨fun h0 => ?_, k.2.1, k.2.2⟩⟩
  have k' := k.1 h0
  have hlg : lg.length ≤ 60 := by
    unfold refuse at h0
    split at h0
    · cases h0
    · split at h0
      · rename_i h; exact h.2
      · cases h0
  refine ⟨b, ps, rfl, hn, fun T hT => ?_⟩
  have hT' : inT T = frP ps := by funext a b; exact hT a b
  have sy : Sym T := fun a b => by rw [hT, hT]; exact frP_comm ps a b
  rw [← hT'] at k'
  try simp only [tSeq3, tNx3, tIf3, tRet3, tRetN3, tSet3, tOwn3, tAsg3, tExpr3, tFrz, frzS, tFor3_eq, tLc3_eq, tLc23_eq, tSeq3I_eq, seqK_lst, seqK_tup, seqK_frl, seqK_sq, oTup_lst, oTup_tup, oTup_sq, oList_lst, oList_tup, oList_sq, oLen_lst, oLen_tup, oLen_frl, oLen_sq, flat_sq, tRg1, tRg2, gN3, gT3, gCons3, gNil3, tV3, tC3, tB3, tT3, tIx3, tCh3, tAnd3, tOr3, tNot3, tNil3, tCons3, tTup3, tLst3, tOfL, tCall3, tU3, tUL, tSl3, tNo3, tSome3, tCat3, tRep3, oEq, oNe, oLt_int, oLt_tup, oLe_int, oLe_tup, oGt_int, oGt_tup, oGe_int, oGe_tup, eqD_int, eqD_str, eqD_bl, eqD_non, eqD_tup, eqD_lst, oAdd, oSub, oMul, oDiv, oMod, oPow, oIs, oIsnt, oIn, oNotIn, inD, lookD, oIx_lst, oIx_tup, oIx_frl, oIx_sq, oIx_dT, oIx_dK, getD, oSl, oInt, oSorted, isB, tPut3, tApp3, tDicT, tDicK, tBk3, tCt3, tMin2, tMax2, tNeg3, tIf3E, tAndV3, tOrV3, tNotV3, tIsi, tIndex3, tYes3, tRaise0, tRaise1, tIsE3, tXf3, wipe3, List.set_cons_zero, List.set_cons_succ, List.getElem?_cons_zero, List.getElem?_cons_succ, List.getElem?_nil, Fl.isSt, D.flat, Fl.nb, Fl.item, cond_true, cond_false, Bool.true_or, Bool.or_true, Bool.false_or, Bool.or_false, Bool.and_true, Bool.true_and, Bool.and_false, Bool.false_and, if_true, if_false, ite_true, ite_false, Bool.false_eq_true, Bool.not_true, Bool.not_false, isNon_non, isNon_lst, isNon_tup, isNon_int, isNon_bl, isNon_str, isNon_sq, ty_ii, ty_bi, ty_tt, ty_tl, ty_ti, ty_tn, ty_lt, ty_ll, ty_ib, ty_bb, ni_int, ni_tup, ni_lst, ni_bl, ni_non, List.length_cons, List.length_nil, reduceIte, List.map_cons, List.map_nil, true_and, and_true, Nat.zero_add, Nat.reduceAdd, List.length_map, Nat.zero_le, Int.toNat_natCast]
  refine forP_d (fun ys s => ∃ (l0 l1 l2 l5 : Sl) (left : List Int), s = [l0, l1, l2, .va (.dT T), .va (.tup (intsD left)), l5] ∧ behind (inT T) ys lg = some left ∧ left.length ≤ 60) ?_ ?_ ?_
  · exact ⟨_, _, _, _, lg, rfl, rfl, hlg⟩
  · rintro ys x rest s' e ⟨l0, l1, l2, l5, left, rfl, hb, hz⟩
    try simp only [tSeq3, tNx3, tIf3, tRet3, tRetN3, tSet3, tOwn3, tAsg3, tExpr3, tFrz, frzS, tFor3_eq, tLc3_eq, tLc23_eq, tSeq3I_eq, seqK_lst, seqK_tup, seqK_frl, seqK_sq, oTup_lst, oTup_tup, oTup_sq, oList_lst, oList_tup, oList_sq, oLen_lst, oLen_tup, oLen_frl, oLen_sq, flat_sq, tRg1, tRg2, gN3, gT3, gCons3, gNil3, tV3, tC3, tB3, tT3, tIx3, tCh3, tAnd3, tOr3, tNot3, tNil3, tCons3, tTup3, tLst3, tOfL, tCall3, tU3, tUL, tSl3, tNo3, tSome3, tCat3, tRep3, oEq, oNe, oLt_int, oLt_tup, oLe_int, oLe_tup, oGt_int, oGt_tup, oGe_int, oGe_tup, eqD_int, eqD_str, eqD_bl, eqD_non, eqD_tup, eqD_lst, oAdd, oSub, oMul, oDiv, oMod, oPow, oIs, oIsnt, oIn, oNotIn, inD, lookD, oIx_lst, oIx_tup, oIx_frl, oIx_sq, oIx_dT, oIx_dK, getD, oSl, oInt, oSorted, isB, tPut3, tApp3, tDicT, tDicK, tBk3, tCt3, tMin2, tMax2, tNeg3, tIf3E, tAndV3, tOrV3, tNotV3, tIsi, tIndex3, tYes3, tRaise0, tRaise1, tIsE3, tXf3, wipe3, List.set_cons_zero, List.set_cons_succ, List.getElem?_cons_zero, List.getElem?_cons_succ, List.getElem?_nil, Fl.isSt, D.flat, Fl.nb, Fl.item, cond_true, cond_false, Bool.true_or, Bool.or_true, Bool.false_or, Bool.or_false, Bool.and_true, Bool.true_and, Bool.and_false, Bool.false_and, if_true, if_false, ite_true, ite_false, Bool.false_eq_true, Bool.not_true, Bool.not_false, isNon_non, isNon_lst, isNon_tup, isNon_int, isNon_bl, isNon_str, isNon_sq, ty_ii, ty_bi, ty_tt, ty_tl, ty_ti, ty_tn, ty_lt, ty_ll, ty_ib, ty_bb, ni_int, ni_tup, ni_lst, ni_bl, ni_non, List.length_cons, List.length_nil, reduceIte, List.map_cons, List.map_nil, true_and, and_true, Nat.zero_add, Nat.reduceAdd, List.length_map, Nat.zero_le, Int.toNat_natCast]
    refine ⟨T, left, rfl, sy, by omega, fun ls h1 h2 _ => ?_⟩
    try simp only [tSeq3, tNx3, tIf3, tRet3, tRetN3, tSet3, tOwn3, tAsg3, tExpr3, tFrz, frzS, tFor3_eq, tLc3_eq, tLc23_eq, tSeq3I_eq, seqK_lst, seqK_tup, seqK_frl, seqK_sq, oTup_lst, oTup_tup, oTup_sq, oList_lst, oList_tup, oList_sq, oLen_lst, oLen_tup, oLen_frl, oLen_sq, flat_sq, tRg1, tRg2, gN3, gT3, gCons3, gNil3, tV3, tC3, tB3, tT3, tIx3, tCh3, tAnd3, tOr3, tNot3, tNil3, tCons3, tTup3, tLst3, tOfL, tCall3, tU3, tUL, tSl3, tNo3, tSome3, tCat3, tRep3, oEq, oNe, oLt_int, oLt_tup, oLe_int, oLe_tup, oGt_int, oGt_tup, oGe_int, oGe_tup, eqD_int, eqD_str, eqD_bl, eqD_non, eqD_tup, eqD_lst, oAdd, oSub, oMul, oDiv, oMod, oPow, oIs, oIsnt, oIn, oNotIn, inD, lookD, oIx_lst, oIx_tup, oIx_frl, oIx_sq, oIx_dT, oIx_dK, getD, oSl, oInt, oSorted, isB, tPut3, tApp3, tDicT, tDicK, tBk3, tCt3, tMin2, tMax2, tNeg3, tIf3E, tAndV3, tOrV3, tNotV3, tIsi, tIndex3, tYes3, tRaise0, tRaise1, tIsE3, tXf3, wipe3, List.set_cons_zero, List.set_cons_succ, List.getElem?_cons_zero, List.getElem?_cons_succ, List.getElem?_nil, Fl.isSt, D.flat, Fl.nb, Fl.item, cond_true, cond_false, Bool.true_or, Bool.or_true, Bool.false_or, Bool.or_false, Bool.and_true, Bool.true_and, Bool.and_false, Bool.false_and, if_true, if_false, ite_true, ite_false, Bool.false_eq_true, Bool.not_true, Bool.not_false, isNon_non, isNon_lst, isNon_tup, isNon_int, isNon_bl, isNon_str, isNon_sq, ty_ii, ty_bi, ty_tt, ty_tl, ty_ti, ty_tn, ty_lt, ty_ll, ty_ib, ty_bb, ni_int, ni_tup, ni_lst, ni_bl, ni_non, List.length_cons, List.length_nil, reduceIte, List.map_cons, List.map_nil, true_and, and_true, Nat.zero_add, Nat.reduceAdd, List.length_map, Nat.zero_le, Int.toNat_natCast]
    refine inG_of (α := Int) ?_
    have step : ∀ (ys : List Int) (zs l : List Int), behind (inT T) (ys ++ zs) l = (behind (inT T) ys l).bind (behind (inT T) zs) := fun ys => by
      induction ys with
      | nil => intro zs l; rfl
      | cons y r ih =>
        intro zs l
        show (taken (inT T) l y).bind (behind (inT T) (r ++ zs)) = ((taken (inT T) l y).bind (behind (inT T) r)).bind (behind (inT T) zs)
        cases taken (inT T) l y with
        | none => rfl
        | some m => exact ih zs m
    by_cases hx : isF (inT T) left x = true
    · have hx' : x ∈ ls := (h1 x).mpr hx
      simp only [hx', decide_true, Bool.not_true, Bool.false_eq_true, if_false]
      have hle := List.length_erase_of_mem (isF_mem hx)
      refine ⟨left, x, rfl, isF_mem hx, by omega, _, _, _, _, left.erase x, rfl, ?_, by omega⟩
      rw [step, hb]
      show (taken (inT T) left x).bind (behind (inT T) []) = _
      rw [taken_of hx]
      rfl
    · have hx' : ¬ x ∈ ls := fun h => hx ((h1 x).mp h)
      simp only [hx', decide_false, Bool.not_false, if_true]
      have : behind (inT T) st lg = none := by
        rw [e, step, hb]
        show (taken (inT T) left x).bind (behind (inT T) rest) = none
        have : taken (inT T) left x = none := by
          cases h : taken (inT T) left x with
          | none => rfl
          | some m => exact absurd (by unfold isF; rw [h]; rfl) hx
        rw [this]
        rfl
      rw [this] at k'
      exact k'
  · rintro s' ⟨l0, l1, l2, l5, left, rfl, hb, hz⟩
    try simp only [tSeq3, tNx3, tIf3, tRet3, tRetN3, tSet3, tOwn3, tAsg3, tExpr3, tFrz, frzS, tFor3_eq, tLc3_eq, tLc23_eq, tSeq3I_eq, seqK_lst, seqK_tup, seqK_frl, seqK_sq, oTup_lst, oTup_tup, oTup_sq, oList_lst, oList_tup, oList_sq, oLen_lst, oLen_tup, oLen_frl, oLen_sq, flat_sq, tRg1, tRg2, gN3, gT3, gCons3, gNil3, tV3, tC3, tB3, tT3, tIx3, tCh3, tAnd3, tOr3, tNot3, tNil3, tCons3, tTup3, tLst3, tOfL, tCall3, tU3, tUL, tSl3, tNo3, tSome3, tCat3, tRep3, oEq, oNe, oLt_int, oLt_tup, oLe_int, oLe_tup, oGt_int, oGt_tup, oGe_int, oGe_tup, eqD_int, eqD_str, eqD_bl, eqD_non, eqD_tup, eqD_lst, oAdd, oSub, oMul, oDiv, oMod, oPow, oIs, oIsnt, oIn, oNotIn, inD, lookD, oIx_lst, oIx_tup, oIx_frl, oIx_sq, oIx_dT, oIx_dK, getD, oSl, oInt, oSorted, isB, tPut3, tApp3, tDicT, tDicK, tBk3, tCt3, tMin2, tMax2, tNeg3, tIf3E, tAndV3, tOrV3, tNotV3, tIsi, tIndex3, tYes3, tRaise0, tRaise1, tIsE3, tXf3, wipe3, List.set_cons_zero, List.set_cons_succ, List.getElem?_cons_zero, List.getElem?_cons_succ, List.getElem?_nil, Fl.isSt, D.flat, Fl.nb, Fl.item, cond_true, cond_false, Bool.true_or, Bool.or_true, Bool.false_or, Bool.or_false, Bool.and_true, Bool.true_and, Bool.and_false, Bool.false_and, if_true, if_false, ite_true, ite_false, Bool.false_eq_true, Bool.not_true, Bool.not_false, isNon_non, isNon_lst, isNon_tup, isNon_int, isNon_bl, isNon_str, isNon_sq, ty_ii, ty_bi, ty_tt, ty_tl, ty_ti, ty_tn, ty_lt, ty_ll, ty_ib, ty_bb, ni_int, ni_tup, ni_lst, ni_bl, ni_non, List.length_cons, List.length_nil, reduceIte, List.map_cons, List.map_nil, true_and, and_true, Nat.zero_add, Nat.reduceAdd, List.length_map, Nat.zero_le, Int.toNat_natCast]
    rw [hb] at k'
    exact k'
/-- the common letters, ascending: the least one ahead -/
theorem common_at {fr : Int → Int → Bool} {a b ls : List Int} (hls : ∀ x, x ∈ ls ↔ isF fr a x = true ∧ isF fr b x = true) (hp : ls.Pairwise (· ≤ ·)) : (ls = [] ∧ ∀ x, isF fr a x = true → isF fr b x = true → False) ∨ ∃ x r, ls = x :: r ∧ isF fr a x = true ∧ isF fr b x = true ∧ ∀ y, isF fr a y = true → isF fr b y = true → x ≤ y := by
  cases ls with
  | nil => exact .inl ⟨rfl, fun x h1 h2 => absurd ((hls x).mpr ⟨h1, h2⟩) (by simp)⟩
  | cons z r =>
    obtain ⟨h1, h2⟩ := (hls z).mp List.mem_cons_self
    refine .inr ⟨z, r, rfl, h1, h2, fun y hy hy' => ?_⟩
    rcases List.mem_cons.mp ((hls y).mpr ⟨hy, hy'⟩) with e | h
    · rw [e]; exact Int.le_refl _
    · exact (List.pairwise_cons.mp hp).1 y h
/-! shared_parts: 0 table, 1 first, 2 second, 3 one, 4 other, 5 shared, 6 other_letters, 7 common, 8 letter -/
abbrev s_shared_parts : Stmt := topS 16
theorem sc_shared_parts : FnScope ["table", "first", "second", "one", "other", "shared", "other_letters", "common", "letter"] ["table", "first", "second"] (defScope s_shared_parts) := ⟨rfl, rfl, rfl, by decide +kernel, rfl, by decide +kernel, by decide +kernel⟩
def fs_shared_parts (ex : Str → Addr) : FS := fun as q _ => ∃ T b1 a b2 b, as = [.dT T, sq b1 (intsD a), sq b2 (intsD b)] ∧ Sym T ∧ a.length ≤ 1000 ∧ b.length ≤ 1000 ∧ q (.tup [.tup (intsD (shared (inT T) a b).1), .tup (intsD (shared (inT T) a b).2.1), .tup (intsD (shared (inT T) a b).2.2)])
theorem ok_shared_parts {P : Program} {w : World} {K : PySem.W.Frag} {mg : Str → Option Value} {base : Heap} {ex : Str → Addr} {f : Addr} {fd : FuncData} (T : Tx P w K mg base ex) (C_first_letters : Callee P w K mg base "first_letters" 2 2 (fs_first_letters ex)) (C_without_first : Callee P w K mg base "without_first" 1 2 (fs_without_first ex)) (F : Fun K "shared_parts" "shared_parts" s_shared_parts f fd) (gm : mg "shared_parts" = some (.ref f)) (bi : Binds K fd ["table", "first", "second"] []) : Callee P w K mg base "shared_parts" 3 3 (fs_shared_parts ex) := by
  refine callee_mk F gm bi (fun3 (fs_shared_parts ex) F sc_shared_parts ⟨_, fun cdv A outer s H E hr tk hp =>
      (ss3cons (s3set (i := 3) sc_shared_parts.nd rfl (by first | exact .inl rfl | exact .inr rfl) (p3t1 c3tup rfl T.b_tuple bt_tuple (p3v 1)))
      (ss3cons (s3set (i := 4) sc_shared_parts.nd rfl (by first | exact .inl rfl | exact .inr rfl) (p3t1 c3tup rfl T.b_tuple bt_tuple (p3v 2)))
      (ss3cons (s3own (i := 5) sc_shared_parts.nd rfl (by first | exact .inl rfl | exact .inr rfl) (l3lst a3nil))
      (ss3one (s3while hp (t3val p3bl)
        (ss3cons (s3set (i := 6) sc_shared_parts.nd rfl (by first | exact .inl rfl | exact .inr rfl) (p3callC C_first_letters hr (by decide) tk rfl (a3cons (p3v 0) (a3cons (p3v 4) a3nil))))
        (ss3cons (s3setLc (i := 7) rfl sc_shared_parts.nd rfl rfl (sw_true rfl rfl rfl (by decide +kernel)) (blkOk_by (N := ["table", "first", "second", "one", "other", "shared", "other_letters", "common", "letter"]) (sc := defScope s_shared_parts) (own := [("letter", 8)]) (by decide +kernel)) (i3seq (p3callC C_first_letters hr (by decide) tk rfl (a3cons (p3v 0) (a3cons (p3v 3) a3nil)))) (by decide) (fun _ _ _ _ _ => (g3name (i := 8) sc_shared_parts.nd rfl (by first | exact .inl rfl | exact .inr rfl))) (fun _ _ _ _ _ => (ts3one (t3cmp (op3in (deep_of hr)) (p3v 8) (p3v 6)))) (fun _ _ _ _ _ => (p3v 8)))
        (ss3cons (s3if (t3cmp (op3eq (deep_of hr)) (p3b1 c3len rfl T.b_len bt_len (p3v 7)) p3int)
          (ss3one (s3ret (p3tup (a3cons (p3t1 c3tup rfl T.b_tuple bt_tuple (p3v 5)) (a3cons (p3v 3) (a3cons (p3v 4) a3nil))))))
          ss3nil)
        (ss3cons (s3app (i := 5) (p3ix (deep_of hr) (p3v 7) p3int))
        (ss3cons (s3set (i := 3) sc_shared_parts.nd rfl (by first | exact .inl rfl | exact .inr rfl) (p3callC C_without_first hr (by decide) tk rfl (a3cons (p3v 3) (a3cons (p3ix (deep_of hr) (p3v 7) p3int) a3nil))))
        (ss3one (s3set (i := 4) sc_shared_parts.nd rfl (by first | exact .inl rfl | exact .inr rfl) (p3callC C_without_first hr (by decide) tk rfl (a3cons (p3v 4) (a3cons (p3ix (deep_of hr) (p3v 7) p3int) a3nil))))))))))))))), ?_⟩)
  intro ds q z hl h
  obtain ⟨T, b1, a, b2, b, rfl, sy, hz1, hz2, k⟩ := h
  simp only [start3, List.map_cons, List.map_nil, List.length_cons, List.length_nil, List.cons_append, List.nil_append, Nat.reduceAdd, Nat.reduceSub, Nat.zero_add, List.replicate, if_true, if_false, Bool.false_eq_true, reduceIte]
  try simp only [tSeq3, tNx3, tIf3, tRet3, tRetN3, tSet3, tOwn3, tAsg3, tExpr3, tFrz, frzS, tFor3_eq, tLc3_eq, tLc23_eq, tSeq3I_eq, seqK_lst, seqK_tup, seqK_frl, seqK_sq, oTup_lst, oTup_tup, oTup_sq, oList_lst, oList_tup, oList_sq, oLen_lst, oLen_tup, oLen_frl, oLen_sq, flat_sq, tRg1, tRg2, gN3, gT3, gCons3, gNil3, tV3, tC3, tB3, tT3, tIx3, tCh3, tAnd3, tOr3, tNot3, tNil3, tCons3, tTup3, tLst3, tOfL, tCall3, tU3, tUL, tSl3, tNo3, tSome3, tCat3, tRep3, oEq, oNe, oLt_int, oLt_tup, oLe_int, oLe_tup, oGt_int, oGt_tup, oGe_int, oGe_tup, eqD_int, eqD_str, eqD_bl, eqD_non, eqD_tup, eqD_lst, oAdd, oSub, oMul, oDiv, oMod, oPow, oIs, oIsnt, oIn, oNotIn, inD, lookD, oIx_lst, oIx_tup, oIx_frl, oIx_sq, oIx_dT, oIx_dK, getD, oSl, oInt, oSorted, isB, tPut3, tApp3, tDicT, tDicK, tBk3, tCt3, tMin2, tMax2, tNeg3, tIf3E, tAndV3, tOrV3, tNotV3, tIsi, tIndex3, tYes3, tRaise0, tRaise1, tIsE3, tXf3, wipe3, List.set_cons_zero, List.set_cons_succ, List.getElem?_cons_zero, List.getElem?_cons_succ, List.getElem?_nil, Fl.isSt, D.flat, Fl.nb, Fl.item, cond_true, cond_false, Bool.true_or, Bool.or_true, Bool.false_or, Bool.or_false, Bool.and_true, Bool.true_and, Bool.and_false, Bool.false_and, if_true, if_false, ite_true, ite_false, Bool.false_eq_true, Bool.not_true, Bool.not_false, isNon_non, isNon_lst, isNon_tup, isNon_int, isNon_bl, isNon_str, isNon_sq, ty_ii, ty_bi, ty_tt, ty_tl, ty_ti, ty_tn, ty_lt, ty_ll, ty_ib, ty_bb, ni_int, ni_tup, ni_lst, ni_bl, ni_non, List.length_cons, List.length_nil, reduceIte, List.map_cons, List.map_nil, true_and, and_true, Nat.zero_add, Nat.reduceAdd, List.length_map, Nat.zero_le, Int.toNat_natCast]
  refine whileP (fun s => ∃ (l1 l2 l6 l7 l8 : Sl) (one other done : List Int), s = [.va (.dT T), l1, l2, .va (.tup (intsD one)), .va (.tup (intsD other)), .ow (intsD done), l6, l7, l8] ∧ (done ++ (shared (inT T) one other).1, (shared (inT T) one other).2) = shared (inT T) a b ∧ one.length ≤ 1000 ∧ other.length ≤ 1000 ∧ done.length + one.length ≤ 1000) (fun s => rowLen s 3) ?_ ?_
  · exact ⟨_, _, _, _, _, a, b, [], rfl, rfl, hz1, hz2, by simpa using hz1⟩
  · rintro s' ⟨l1, l2, l6, l7, l8, one, other, done, rfl, he, hz3, hz4, hz5⟩
    try simp only [tSeq3, tNx3, tIf3, tRet3, tRetN3, tSet3, tOwn3, tAsg3, tExpr3, tFrz, frzS, tFor3_eq, tLc3_eq, tLc23_eq, tSeq3I_eq, seqK_lst, seqK_tup, seqK_frl, seqK_sq, oTup_lst, oTup_tup, oTup_sq, oList_lst, oList_tup, oList_sq, oLen_lst, oLen_tup, oLen_frl, oLen_sq, flat_sq, tRg1, tRg2, gN3, gT3, gCons3, gNil3, tV3, tC3, tB3, tT3, tIx3, tCh3, tAnd3, tOr3, tNot3, tNil3, tCons3, tTup3, tLst3, tOfL, tCall3, tU3, tUL, tSl3, tNo3, tSome3, tCat3, tRep3, oEq, oNe, oLt_int, oLt_tup, oLe_int, oLe_tup, oGt_int, oGt_tup, oGe_int, oGe_tup, eqD_int, eqD_str, eqD_bl, eqD_non, eqD_tup, eqD_lst, oAdd, oSub, oMul, oDiv, oMod, oPow, oIs, oIsnt, oIn, oNotIn, inD, lookD, oIx_lst, oIx_tup, oIx_frl, oIx_sq, oIx_dT, oIx_dK, getD, oSl, oInt, oSorted, isB, tPut3, tApp3, tDicT, tDicK, tBk3, tCt3, tMin2, tMax2, tNeg3, tIf3E, tAndV3, tOrV3, tNotV3, tIsi, tIndex3, tYes3, tRaise0, tRaise1, tIsE3, tXf3, wipe3, List.set_cons_zero, List.set_cons_succ, List.getElem?_cons_zero, List.getElem?_cons_succ, List.getElem?_nil, Fl.isSt, D.flat, Fl.nb, Fl.item, cond_true, cond_false, Bool.true_or, Bool.or_true, Bool.false_or, Bool.or_false, Bool.and_true, Bool.true_and, Bool.and_false, Bool.false_and, if_true, if_false, ite_true, ite_false, Bool.false_eq_true, Bool.not_true, Bool.not_false, isNon_non, isNon_lst, isNon_tup, isNon_int, isNon_bl, isNon_str, isNon_sq, ty_ii, ty_bi, ty_tt, ty_tl, ty_ti, ty_tn, ty_lt, ty_ll, ty_ib, ty_bb, ni_int, ni_tup, ni_lst, ni_bl, ni_non, List.length_cons, List.length_nil, reduceIte, List.map_cons, List.map_nil, true_and, and_true, Nat.zero_add, Nat.reduceAdd, List.length_map, Nat.zero_le, Int.toNat_natCast]
    refine ⟨T, other, rfl, sy, hz4, fun ls2 h1 h2 _ => ?_⟩
    try simp only [tSeq3, tNx3, tIf3, tRet3, tRetN3, tSet3, tOwn3, tAsg3, tExpr3, tFrz, frzS, tFor3_eq, tLc3_eq, tLc23_eq, tSeq3I_eq, seqK_lst, seqK_tup, seqK_frl, seqK_sq, oTup_lst, oTup_tup, oTup_sq, oList_lst, oList_tup, oList_sq, oLen_lst, oLen_tup, oLen_frl, oLen_sq, flat_sq, tRg1, tRg2, gN3, gT3, gCons3, gNil3, tV3, tC3, tB3, tT3, tIx3, tCh3, tAnd3, tOr3, tNot3, tNil3, tCons3, tTup3, tLst3, tOfL, tCall3, tU3, tUL, tSl3, tNo3, tSome3, tCat3, tRep3, oEq, oNe, oLt_int, oLt_tup, oLe_int, oLe_tup, oGt_int, oGt_tup, oGe_int, oGe_tup, eqD_int, eqD_str, eqD_bl, eqD_non, eqD_tup, eqD_lst, oAdd, oSub, oMul, oDiv, oMod, oPow, oIs, oIsnt, oIn, oNotIn, inD, lookD, oIx_lst, oIx_tup, oIx_frl, oIx_sq, oIx_dT, oIx_dK, getD, oSl, oInt, oSorted, isB, tPut3, tApp3, tDicT, tDicK, tBk3, tCt3, tMin2, tMax2, tNeg3, tIf3E, tAndV3, tOrV3, tNotV3, tIsi, tIndex3, tYes3, tRaise0, tRaise1, tIsE3, tXf3, wipe3, List.set_cons_zero, List.set_cons_succ, List.getElem?_cons_zero, List.getElem?_cons_succ, List.getElem?_nil, Fl.isSt, D.flat, Fl.nb, Fl.item, cond_true, cond_false, Bool.true_or, Bool.or_true, Bool.false_or, Bool.or_false, Bool.and_true, Bool.true_and, Bool.and_false, Bool.false_and, if_true, if_false, ite_true, ite_false, Bool.false_eq_true, Bool.not_true, Bool.not_false, isNon_non, isNon_lst, isNon_tup, isNon_int, isNon_bl, isNon_str, isNon_sq, ty_ii, ty_bi, ty_tt, ty_tl, ty_ti, ty_tn, ty_lt, ty_ll, ty_ib, ty_bb, ni_int, ni_tup, ni_lst, ni_bl, ni_non, List.length_cons, List.length_nil, reduceIte, List.map_cons, List.map_nil, true_and, and_true, Nat.zero_add, Nat.reduceAdd, List.length_map, Nat.zero_le, Int.toNat_natCast]
    refine ⟨T, one, rfl, sy, hz3, fun ls1 h3 h4 h5 => ?_⟩
    try simp only [tSeq3, tNx3, tIf3, tRet3, tRetN3, tSet3, tOwn3, tAsg3, tExpr3, tFrz, frzS, tFor3_eq, tLc3_eq, tLc23_eq, tSeq3I_eq, seqK_lst, seqK_tup, seqK_frl, seqK_sq, oTup_lst, oTup_tup, oTup_sq, oList_lst, oList_tup, oList_sq, oLen_lst, oLen_tup, oLen_frl, oLen_sq, flat_sq, tRg1, tRg2, gN3, gT3, gCons3, gNil3, tV3, tC3, tB3, tT3, tIx3, tCh3, tAnd3, tOr3, tNot3, tNil3, tCons3, tTup3, tLst3, tOfL, tCall3, tU3, tUL, tSl3, tNo3, tSome3, tCat3, tRep3, oEq, oNe, oLt_int, oLt_tup, oLe_int, oLe_tup, oGt_int, oGt_tup, oGe_int, oGe_tup, eqD_int, eqD_str, eqD_bl, eqD_non, eqD_tup, eqD_lst, oAdd, oSub, oMul, oDiv, oMod, oPow, oIs, oIsnt, oIn, oNotIn, inD, lookD, oIx_lst, oIx_tup, oIx_frl, oIx_sq, oIx_dT, oIx_dK, getD, oSl, oInt, oSorted, isB, tPut3, tApp3, tDicT, tDicK, tBk3, tCt3, tMin2, tMax2, tNeg3, tIf3E, tAndV3, tOrV3, tNotV3, tIsi, tIndex3, tYes3, tRaise0, tRaise1, tIsE3, tXf3, wipe3, List.set_cons_zero, List.set_cons_succ, List.getElem?_cons_zero, List.getElem?_cons_succ, List.getElem?_nil, Fl.isSt, D.flat, Fl.nb, Fl.item, cond_true, cond_false, Bool.true_or, Bool.or_true, Bool.false_or, Bool.or_false, Bool.and_true, Bool.true_and, Bool.and_false, Bool.false_and, if_true, if_false, ite_true, ite_false, Bool.false_eq_true, Bool.not_true, Bool.not_false, isNon_non, isNon_lst, isNon_tup, isNon_int, isNon_bl, isNon_str, isNon_sq, ty_ii, ty_bi, ty_tt, ty_tl, ty_ti, ty_tn, ty_lt, ty_ll, ty_ib, ty_bb, ni_int, ni_tup, ni_lst, ni_bl, ni_non, List.length_cons, List.length_nil, reduceIte, List.map_cons, List.map_nil, true_and, and_true, Nat.zero_add, Nat.reduceAdd, List.length_map, Nat.zero_le, Int.toNat_natCast]
    have hlen : ls1.length ≤ 1000 := Nat.le_trans h5 hz3
    refine lcP_d (fun x => decide (x ∈ ls2)) D.int (le_line (by omega)) (fun x hx acc R ha hR => ?_) ?_
    · try simp only [tSeq3, tNx3, tIf3, tRet3, tRetN3, tSet3, tOwn3, tAsg3, tExpr3, tFrz, frzS, tFor3_eq, tLc3_eq, tLc23_eq, tSeq3I_eq, seqK_lst, seqK_tup, seqK_frl, seqK_sq, oTup_lst, oTup_tup, oTup_sq, oList_lst, oList_tup, oList_sq, oLen_lst, oLen_tup, oLen_frl, oLen_sq, flat_sq, tRg1, tRg2, gN3, gT3, gCons3, gNil3, tV3, tC3, tB3, tT3, tIx3, tCh3, tAnd3, tOr3, tNot3, tNil3, tCons3, tTup3, tLst3, tOfL, tCall3, tU3, tUL, tSl3, tNo3, tSome3, tCat3, tRep3, oEq, oNe, oLt_int, oLt_tup, oLe_int, oLe_tup, oGt_int, oGt_tup, oGe_int, oGe_tup, eqD_int, eqD_str, eqD_bl, eqD_non, eqD_tup, eqD_lst, oAdd, oSub, oMul, oDiv, oMod, oPow, oIs, oIsnt, oIn, oNotIn, inD, lookD, oIx_lst, oIx_tup, oIx_frl, oIx_sq, oIx_dT, oIx_dK, getD, oSl, oInt, oSorted, isB, tPut3, tApp3, tDicT, tDicK, tBk3, tCt3, tMin2, tMax2, tNeg3, tIf3E, tAndV3, tOrV3, tNotV3, tIsi, tIndex3, tYes3, tRaise0, tRaise1, tIsE3, tXf3, wipe3, List.set_cons_zero, List.set_cons_succ, List.getElem?_cons_zero, List.getElem?_cons_succ, List.getElem?_nil, Fl.isSt, D.flat, Fl.nb, Fl.item, cond_true, cond_false, Bool.true_or, Bool.or_true, Bool.false_or, Bool.or_false, Bool.and_true, Bool.true_and, Bool.and_false, Bool.false_and, if_true, if_false, ite_true, ite_false, Bool.false_eq_true, Bool.not_true, Bool.not_false, isNon_non, isNon_lst, isNon_tup, isNon_int, isNon_bl, isNon_str, isNon_sq, ty_ii, ty_bi, ty_tt, ty_tl, ty_ti, ty_tn, ty_lt, ty_ll, ty_ib, ty_bb, ni_int, ni_tup, ni_lst, ni_bl, ni_non, List.length_cons, List.length_nil, reduceIte, List.map_cons, List.map_nil, true_and, and_true, Nat.zero_add, Nat.reduceAdd, List.length_map, Nat.zero_le, Int.toNat_natCast]
      refine inG_of (α := Int) ?_
      by_cases hm : x ∈ ls2
      · simp only [hm, decide_true, if_true] at hR ⊢
        exact ⟨ha, hR⟩
      · simp only [hm, decide_false, Bool.false_eq_true, if_false, List.append_nil] at hR ⊢
        exact hR
    · have hls : ∀ x, x ∈ ls1.filter (fun x => decide (x ∈ ls2)) ↔ isF (inT T) one x = true ∧ isF (inT T) other x = true := fun x => by
        rw [List.mem_filter, decide_eq_true_eq, h3, h1]
      rcases common_at hls (h4.filter _) with ⟨e, hno⟩ | ⟨x, r, e, hx, hy, hm⟩
      · rw [e]
        rw [shared_stop hno, List.append_nil] at he
        try simp only [tSeq3, tNx3, tIf3, tRet3, tRetN3, tSet3, tOwn3, tAsg3, tExpr3, tFrz, frzS, tFor3_eq, tLc3_eq, tLc23_eq, tSeq3I_eq, seqK_lst, seqK_tup, seqK_frl, seqK_sq, oTup_lst, oTup_tup, oTup_sq, oList_lst, oList_tup, oList_sq, oLen_lst, oLen_tup, oLen_frl, oLen_sq, flat_sq, tRg1, tRg2, gN3, gT3, gCons3, gNil3, tV3, tC3, tB3, tT3, tIx3, tCh3, tAnd3, tOr3, tNot3, tNil3, tCons3, tTup3, tLst3, tOfL, tCall3, tU3, tUL, tSl3, tNo3, tSome3, tCat3, tRep3, oEq, oNe, oLt_int, oLt_tup, oLe_int, oLe_tup, oGt_int, oGt_tup, oGe_int, oGe_tup, eqD_int, eqD_str, eqD_bl, eqD_non, eqD_tup, eqD_lst, oAdd, oSub, oMul, oDiv, oMod, oPow, oIs, oIsnt, oIn, oNotIn, inD, lookD, oIx_lst, oIx_tup, oIx_frl, oIx_sq, oIx_dT, oIx_dK, getD, oSl, oInt, oSorted, isB, tPut3, tApp3, tDicT, tDicK, tBk3, tCt3, tMin2, tMax2, tNeg3, tIf3E, tAndV3, tOrV3, tNotV3, tIsi, tIndex3, tYes3, tRaise0, tRaise1, tIsE3, tXf3, wipe3, List.set_cons_zero, List.set_cons_succ, List.getElem?_cons_zero, List.getElem?_cons_succ, List.getElem?_nil, Fl.isSt, D.flat, Fl.nb, Fl.item, cond_true, cond_false, Bool.true_or, Bool.or_true, Bool.false_or, Bool.or_false, Bool.and_true, Bool.true_and, Bool.and_false, Bool.false_and, if_true, if_false, ite_true, ite_false, Bool.false_eq_true, Bool.not_true, Bool.not_false, isNon_non, isNon_lst, isNon_tup, isNon_int, isNon_bl, isNon_str, isNon_sq, ty_ii, ty_bi, ty_tt, ty_tl, ty_ti, ty_tn, ty_lt, ty_ll, ty_ib, ty_bb, ni_int, ni_tup, ni_lst, ni_bl, ni_non, List.length_cons, List.length_nil, reduceIte, List.map_cons, List.map_nil, true_and, and_true, Nat.zero_add, Nat.reduceAdd, List.length_map, Nat.zero_le, Int.toNat_natCast]
        rw [if_pos (by decide)]
        refine ⟨le_line (by decide), ?_⟩
        rw [← he] at k
        exact k
      · rw [e]
        rw [shared_step hx hy hm] at he
        have l1' := List.length_erase_of_mem (isF_mem hx)
        have l2' := List.length_erase_of_mem (isF_mem hy)
        have p1 := List.length_pos_of_mem (isF_mem hx)
        try simp only [tSeq3, tNx3, tIf3, tRet3, tRetN3, tSet3, tOwn3, tAsg3, tExpr3, tFrz, frzS, tFor3_eq, tLc3_eq, tLc23_eq, tSeq3I_eq, seqK_lst, seqK_tup, seqK_frl, seqK_sq, oTup_lst, oTup_tup, oTup_sq, oList_lst, oList_tup, oList_sq, oLen_lst, oLen_tup, oLen_frl, oLen_sq, flat_sq, tRg1, tRg2, gN3, gT3, gCons3, gNil3, tV3, tC3, tB3, tT3, tIx3, tCh3, tAnd3, tOr3, tNot3, tNil3, tCons3, tTup3, tLst3, tOfL, tCall3, tU3, tUL, tSl3, tNo3, tSome3, tCat3, tRep3, oEq, oNe, oLt_int, oLt_tup, oLe_int, oLe_tup, oGt_int, oGt_tup, oGe_int, oGe_tup, eqD_int, eqD_str, eqD_bl, eqD_non, eqD_tup, eqD_lst, oAdd, oSub, oMul, oDiv, oMod, oPow, oIs, oIsnt, oIn, oNotIn, inD, lookD, oIx_lst, oIx_tup, oIx_frl, oIx_sq, oIx_dT, oIx_dK, getD, oSl, oInt, oSorted, isB, tPut3, tApp3, tDicT, tDicK, tBk3, tCt3, tMin2, tMax2, tNeg3, tIf3E, tAndV3, tOrV3, tNotV3, tIsi, tIndex3, tYes3, tRaise0, tRaise1, tIsE3, tXf3, wipe3, List.set_cons_zero, List.set_cons_succ, List.getElem?_cons_zero, List.getElem?_cons_succ, List.getElem?_nil, Fl.isSt, D.flat, Fl.nb, Fl.item, cond_true, cond_false, Bool.true_or, Bool.or_true, Bool.false_or, Bool.or_false, Bool.and_true, Bool.true_and, Bool.and_false, Bool.false_and, if_true, if_false, ite_true, ite_false, Bool.false_eq_true, Bool.not_true, Bool.not_false, isNon_non, isNon_lst, isNon_tup, isNon_int, isNon_bl, isNon_str, isNon_sq, ty_ii, ty_bi, ty_tt, ty_tl, ty_ti, ty_tn, ty_lt, ty_ll, ty_ib, ty_bb, ni_int, ni_tup, ni_lst, ni_bl, ni_non, List.length_cons, List.length_nil, reduceIte, List.map_cons, List.map_nil, true_and, and_true, Nat.zero_add, Nat.reduceAdd, List.length_map, Nat.zero_le, Int.toNat_natCast]
        rw [if_neg (by simp; omega)]
        refine ⟨_, at0 _ _, lt_line (by omega), _, at0 _ _, ?_⟩
        try simp only [tSeq3, tNx3, tIf3, tRet3, tRetN3, tSet3, tOwn3, tAsg3, tExpr3, tFrz, frzS, tFor3_eq, tLc3_eq, tLc23_eq, tSeq3I_eq, seqK_lst, seqK_tup, seqK_frl, seqK_sq, oTup_lst, oTup_tup, oTup_sq, oList_lst, oList_tup, oList_sq, oLen_lst, oLen_tup, oLen_frl, oLen_sq, flat_sq, tRg1, tRg2, gN3, gT3, gCons3, gNil3, tV3, tC3, tB3, tT3, tIx3, tCh3, tAnd3, tOr3, tNot3, tNil3, tCons3, tTup3, tLst3, tOfL, tCall3, tU3, tUL, tSl3, tNo3, tSome3, tCat3, tRep3, oEq, oNe, oLt_int, oLt_tup, oLe_int, oLe_tup, oGt_int, oGt_tup, oGe_int, oGe_tup, eqD_int, eqD_str, eqD_bl, eqD_non, eqD_tup, eqD_lst, oAdd, oSub, oMul, oDiv, oMod, oPow, oIs, oIsnt, oIn, oNotIn, inD, lookD, oIx_lst, oIx_tup, oIx_frl, oIx_sq, oIx_dT, oIx_dK, getD, oSl, oInt, oSorted, isB, tPut3, tApp3, tDicT, tDicK, tBk3, tCt3, tMin2, tMax2, tNeg3, tIf3E, tAndV3, tOrV3, tNotV3, tIsi, tIndex3, tYes3, tRaise0, tRaise1, tIsE3, tXf3, wipe3, List.set_cons_zero, List.set_cons_succ, List.getElem?_cons_zero, List.getElem?_cons_succ, List.getElem?_nil, Fl.isSt, D.flat, Fl.nb, Fl.item, cond_true, cond_false, Bool.true_or, Bool.or_true, Bool.false_or, Bool.or_false, Bool.and_true, Bool.true_and, Bool.and_false, Bool.false_and, if_true, if_false, ite_true, ite_false, Bool.false_eq_true, Bool.not_true, Bool.not_false, isNon_non, isNon_lst, isNon_tup, isNon_int, isNon_bl, isNon_str, isNon_sq, ty_ii, ty_bi, ty_tt, ty_tl, ty_ti, ty_tn, ty_lt, ty_ll, ty_ib, ty_bb, ni_int, ni_tup, ni_lst, ni_bl, ni_non, List.length_cons, List.length_nil, reduceIte, List.map_cons, List.map_nil, true_and, and_true, Nat.zero_add, Nat.reduceAdd, List.length_map, Nat.zero_le, Int.toNat_natCast]
        refine ⟨one, x, rfl, isF_mem hx, hz3, _, at0 _ _, ?_⟩
        try simp only [tSeq3, tNx3, tIf3, tRet3, tRetN3, tSet3, tOwn3, tAsg3, tExpr3, tFrz, frzS, tFor3_eq, tLc3_eq, tLc23_eq, tSeq3I_eq, seqK_lst, seqK_tup, seqK_frl, seqK_sq, oTup_lst, oTup_tup, oTup_sq, oList_lst, oList_tup, oList_sq, oLen_lst, oLen_tup, oLen_frl, oLen_sq, flat_sq, tRg1, tRg2, gN3, gT3, gCons3, gNil3, tV3, tC3, tB3, tT3, tIx3, tCh3, tAnd3, tOr3, tNot3, tNil3, tCons3, tTup3, tLst3, tOfL, tCall3, tU3, tUL, tSl3, tNo3, tSome3, tCat3, tRep3, oEq, oNe, oLt_int, oLt_tup, oLe_int, oLe_tup, oGt_int, oGt_tup, oGe_int, oGe_tup, eqD_int, eqD_str, eqD_bl, eqD_non, eqD_tup, eqD_lst, oAdd, oSub, oMul, oDiv, oMod, oPow, oIs, oIsnt, oIn, oNotIn, inD, lookD, oIx_lst, oIx_tup, oIx_frl, oIx_sq, oIx_dT, oIx_dK, getD, oSl, oInt, oSorted, isB, tPut3, tApp3, tDicT, tDicK, tBk3, tCt3, tMin2, tMax2, tNeg3, tIf3E, tAndV3, tOrV3, tNotV3, tIsi, tIndex3, tYes3, tRaise0, tRaise1, tIsE3, tXf3, wipe3, List.set_cons_zero, List.set_cons_succ, List.getElem?_cons_zero, List.getElem?_cons_succ, List.getElem?_nil, Fl.isSt, D.flat, Fl.nb, Fl.item, cond_true, cond_false, Bool.true_or, Bool.or_true, Bool.false_or, Bool.or_false, Bool.and_true, Bool.true_and, Bool.and_false, Bool.false_and, if_true, if_false, ite_true, ite_false, Bool.false_eq_true, Bool.not_true, Bool.not_false, isNon_non, isNon_lst, isNon_tup, isNon_int, isNon_bl, isNon_str, isNon_sq, ty_ii, ty_bi, ty_tt, ty_tl, ty_ti, ty_tn, ty_lt, ty_ll, ty_ib, ty_bb, ni_int, ni_tup, ni_lst, ni_bl, ni_non, List.length_cons, List.length_nil, reduceIte, List.map_cons, List.map_nil, true_and, and_true, Nat.zero_add, Nat.reduceAdd, List.length_map, Nat.zero_le, Int.toNat_natCast]
        refine ⟨other, x, rfl, isF_mem hy, hz4, ⟨_, _, _, _, _, one.erase x, other.erase x, done ++ [x], by simp; exact ⟨rfl, rfl, rfl, rfl, rfl⟩, ?_, by omega, by omega, by rw [List.length_append, List.length_cons, List.length_nil]; omega⟩, ?_⟩
        · rw [← he, List.append_assoc]
          rfl
        · show (intsD (one.erase x)).length < (intsD one).length
          rw [List.length_map, List.length_map]
          omega
/-! bound_pairs: 0 table, 1 first, 2 second, 3 one, 4 other -/
abbrev s_bound_pairs : Stmt := topS 17
theorem sc_bound_pairs : FnScope ["table", "first", "second", "one", "other"] ["table", "first", "second"] (defScope s_bound_pairs) := ⟨rfl, rfl, rfl, by decide +kernel, rfl, by decide +kernel, by decide +kernel⟩
def fs_bound_pairs (ex : Str → Addr) : FS := fun as q _ => ∃ T a b, as = [.dT T, .tup (intsD a), .tup (intsD b)] ∧ a.length ≤ 1000 ∧ b.length ≤ 1000 ∧ q (.lst ((boundP (inT T) a b).map prD))
theorem ok_bound_pairs {P : Program} {w : World} {K : PySem.W.Frag} {mg : Str → Option Value} {base : Heap} {ex : Str → Addr} {f : Addr} {fd : FuncData} (T : Tx P w K mg base ex)  (F : Fun K "bound_pairs" "bound_pairs" s_bound_pairs f fd) (gm : mg "bound_pairs" = some (.ref f)) (bi : Binds K fd ["table", "first", "second"] []) : Callee P w K mg base "bound_pairs" 1 3 (fs_bound_pairs ex) := by
  refine callee_mk F gm bi (fun3 (fs_bound_pairs ex) F sc_bound_pairs ⟨_, fun cdv A outer s H E hr tk hp =>
      (ss3one (s3ret (PL3.val (l3lc2 rfl sc_bound_pairs.nd (blkOk_by (N := ["table", "first", "second", "one", "other"]) (sc := defScope s_bound_pairs) (own := [("one", 3), ("other", 4)]) (by decide +kernel)) (i3seq (p3v 1)) (by decide) (by decide) (fun _ _ _ _ _ => (g3name (i := 3) sc_bound_pairs.nd rfl (by first | exact .inl rfl | exact .inr rfl))) (fun _ _ _ _ _ => ts3nil) (fun _ _ _ _ _ => (i3seq (p3v 2))) (fun _ _ _ _ _ => (g3name (i := 4) sc_bound_pairs.nd rfl (by first | exact .inl rfl | exact .inr rfl))) (fun _ _ _ _ _ => (ts3one (t3cmp (op3notin (deep_of hr)) (p3tup (a3cons (p3v 3) (a3cons (p3v 4) a3nil))) (p3v 0)))) (fun _ _ _ _ _ => (p3tup (a3cons (p3v 3) (a3cons (p3v 4) a3nil)))) (by decide) (vs1 := [4]))))), ?_⟩)
  intro ds q z hl h
  obtain ⟨T, a, b, rfl, hz1, hz2, k⟩ := h
  simp only [start3, List.map_cons, List.map_nil, List.length_cons, List.length_nil, List.cons_append, List.nil_append, Nat.reduceAdd, Nat.reduceSub, Nat.zero_add, List.replicate, if_true, if_false, Bool.false_eq_true, reduceIte]
  try simp only [tSeq3, tNx3, tIf3, tRet3, tRetN3, tSet3, tOwn3, tAsg3, tExpr3, tFrz, frzS, tFor3_eq, tLc3_eq, tLc23_eq, tSeq3I_eq, seqK_lst, seqK_tup, seqK_frl, seqK_sq, oTup_lst, oTup_tup, oTup_sq, oList_lst, oList_tup, oList_sq, oLen_lst, oLen_tup, oLen_frl, oLen_sq, flat_sq, tRg1, tRg2, gN3, gT3, gCons3, gNil3, tV3, tC3, tB3, tT3, tIx3, tCh3, tAnd3, tOr3, tNot3, tNil3, tCons3, tTup3, tLst3, tOfL, tCall3, tU3, tUL, tSl3, tNo3, tSome3, tCat3, tRep3, oEq, oNe, oLt_int, oLt_tup, oLe_int, oLe_tup, oGt_int, oGt_tup, oGe_int, oGe_tup, eqD_int, eqD_str, eqD_bl, eqD_non, eqD_tup, eqD_lst, oAdd, oSub, oMul, oDiv, oMod, oPow, oIs, oIsnt, oIn, oNotIn, inD, lookD, oIx_lst, oIx_tup, oIx_frl, oIx_sq, oIx_dT, oIx_dK, getD, oSl, oInt, oSorted, isB, tPut3, tApp3, tDicT, tDicK, tBk3, tCt3, tMin2, tMax2, tNeg3, tIf3E, tAndV3, tOrV3, tNotV3, tIsi, tIndex3, tYes3, tRaise0, tRaise1, tIsE3, tXf3, wipe3, List.set_cons_zero, List.set_cons_succ, List.getElem?_cons_zero, List.getElem?_cons_succ, List.getElem?_nil, Fl.isSt, D.flat, Fl.nb, Fl.item, cond_true, cond_false, Bool.true_or, Bool.or_true, Bool.false_or, Bool.or_false, Bool.and_true, Bool.true_and, Bool.and_false, Bool.false_and, if_true, if_false, ite_true, ite_false, Bool.false_eq_true, Bool.not_true, Bool.not_false, isNon_non, isNon_lst, isNon_tup, isNon_int, isNon_bl, isNon_str, isNon_sq, ty_ii, ty_bi, ty_tt, ty_tl, ty_ti, ty_tn, ty_lt, ty_ll, ty_ib, ty_bb, ni_int, ni_tup, ni_lst, ni_bl, ni_non, List.length_cons, List.length_nil, reduceIte, List.map_cons, List.map_nil, true_and, and_true, Nat.zero_add, Nat.reduceAdd, List.length_map, Nat.zero_le, Int.toNat_natCast]
  refine lc2P_d (f1 := D.int) (fun x => [.va (.dT T), .va (.tup (intsD a)), .va (.tup (intsD b)), .va (.int x), .un]) (fun x y => !inT T x y) (fun x y => prD (x, y)) (le_line (Nat.le_trans (Nat.mul_le_mul hz1 hz2) (by decide))) (fun x Z hZ => ?_) (fun x Z hZ => ?_) (fun x hx y hy acc R ha hR => ?_) ?_
  · try simp only [tSeq3, tNx3, tIf3, tRet3, tRetN3, tSet3, tOwn3, tAsg3, tExpr3, tFrz, frzS, tFor3_eq, tLc3_eq, tLc23_eq, tSeq3I_eq, seqK_lst, seqK_tup, seqK_frl, seqK_sq, oTup_lst, oTup_tup, oTup_sq, oList_lst, oList_tup, oList_sq, oLen_lst, oLen_tup, oLen_frl, oLen_sq, flat_sq, tRg1, tRg2, gN3, gT3, gCons3, gNil3, tV3, tC3, tB3, tT3, tIx3, tCh3, tAnd3, tOr3, tNot3, tNil3, tCons3, tTup3, tLst3, tOfL, tCall3, tU3, tUL, tSl3, tNo3, tSome3, tCat3, tRep3, oEq, oNe, oLt_int, oLt_tup, oLe_int, oLe_tup, oGt_int, oGt_tup, oGe_int, oGe_tup, eqD_int, eqD_str, eqD_bl, eqD_non, eqD_tup, eqD_lst, oAdd, oSub, oMul, oDiv, oMod, oPow, oIs, oIsnt, oIn, oNotIn, inD, lookD, oIx_lst, oIx_tup, oIx_frl, oIx_sq, oIx_dT, oIx_dK, getD, oSl, oInt, oSorted, isB, tPut3, tApp3, tDicT, tDicK, tBk3, tCt3, tMin2, tMax2, tNeg3, tIf3E, tAndV3, tOrV3, tNotV3, tIsi, tIndex3, tYes3, tRaise0, tRaise1, tIsE3, tXf3, wipe3, List.set_cons_zero, List.set_cons_succ, List.getElem?_cons_zero, List.getElem?_cons_succ, List.getElem?_nil, Fl.isSt, D.flat, Fl.nb, Fl.item, cond_true, cond_false, Bool.true_or, Bool.or_true, Bool.false_or, Bool.or_false, Bool.and_true, Bool.true_and, Bool.and_false, Bool.false_and, if_true, if_false, ite_true, ite_false, Bool.false_eq_true, Bool.not_true, Bool.not_false, isNon_non, isNon_lst, isNon_tup, isNon_int, isNon_bl, isNon_str, isNon_sq, ty_ii, ty_bi, ty_tt, ty_tl, ty_ti, ty_tn, ty_lt, ty_ll, ty_ib, ty_bb, ni_int, ni_tup, ni_lst, ni_bl, ni_non, List.length_cons, List.length_nil, reduceIte, List.map_cons, List.map_nil, true_and, and_true, Nat.zero_add, Nat.reduceAdd, List.length_map, Nat.zero_le, Int.toNat_natCast]
    exact hZ
  · try simp only [tSeq3, tNx3, tIf3, tRet3, tRetN3, tSet3, tOwn3, tAsg3, tExpr3, tFrz, frzS, tFor3_eq, tLc3_eq, tLc23_eq, tSeq3I_eq, seqK_lst, seqK_tup, seqK_frl, seqK_sq, oTup_lst, oTup_tup, oTup_sq, oList_lst, oList_tup, oList_sq, oLen_lst, oLen_tup, oLen_frl, oLen_sq, flat_sq, tRg1, tRg2, gN3, gT3, gCons3, gNil3, tV3, tC3, tB3, tT3, tIx3, tCh3, tAnd3, tOr3, tNot3, tNil3, tCons3, tTup3, tLst3, tOfL, tCall3, tU3, tUL, tSl3, tNo3, tSome3, tCat3, tRep3, oEq, oNe, oLt_int, oLt_tup, oLe_int, oLe_tup, oGt_int, oGt_tup, oGe_int, oGe_tup, eqD_int, eqD_str, eqD_bl, eqD_non, eqD_tup, eqD_lst, oAdd, oSub, oMul, oDiv, oMod, oPow, oIs, oIsnt, oIn, oNotIn, inD, lookD, oIx_lst, oIx_tup, oIx_frl, oIx_sq, oIx_dT, oIx_dK, getD, oSl, oInt, oSorted, isB, tPut3, tApp3, tDicT, tDicK, tBk3, tCt3, tMin2, tMax2, tNeg3, tIf3E, tAndV3, tOrV3, tNotV3, tIsi, tIndex3, tYes3, tRaise0, tRaise1, tIsE3, tXf3, wipe3, List.set_cons_zero, List.set_cons_succ, List.getElem?_cons_zero, List.getElem?_cons_succ, List.getElem?_nil, Fl.isSt, D.flat, Fl.nb, Fl.item, cond_true, cond_false, Bool.true_or, Bool.or_true, Bool.false_or, Bool.or_false, Bool.and_true, Bool.true_and, Bool.and_false, Bool.false_and, if_true, if_false, ite_true, ite_false, Bool.false_eq_true, Bool.not_true, Bool.not_false, isNon_non, isNon_lst, isNon_tup, isNon_int, isNon_bl, isNon_str, isNon_sq, ty_ii, ty_bi, ty_tt, ty_tl, ty_ti, ty_tn, ty_lt, ty_ll, ty_ib, ty_bb, ni_int, ni_tup, ni_lst, ni_bl, ni_non, List.length_cons, List.length_nil, reduceIte, List.map_cons, List.map_nil, true_and, and_true, Nat.zero_add, Nat.reduceAdd, List.length_map, Nat.zero_le, Int.toNat_natCast]
    exact hZ
  · try simp only [tSeq3, tNx3, tIf3, tRet3, tRetN3, tSet3, tOwn3, tAsg3, tExpr3, tFrz, frzS, tFor3_eq, tLc3_eq, tLc23_eq, tSeq3I_eq, seqK_lst, seqK_tup, seqK_frl, seqK_sq, oTup_lst, oTup_tup, oTup_sq, oList_lst, oList_tup, oList_sq, oLen_lst, oLen_tup, oLen_frl, oLen_sq, flat_sq, tRg1, tRg2, gN3, gT3, gCons3, gNil3, tV3, tC3, tB3, tT3, tIx3, tCh3, tAnd3, tOr3, tNot3, tNil3, tCons3, tTup3, tLst3, tOfL, tCall3, tU3, tUL, tSl3, tNo3, tSome3, tCat3, tRep3, oEq, oNe, oLt_int, oLt_tup, oLe_int, oLe_tup, oGt_int, oGt_tup, oGe_int, oGe_tup, eqD_int, eqD_str, eqD_bl, eqD_non, eqD_tup, eqD_lst, oAdd, oSub, oMul, oDiv, oMod, oPow, oIs, oIsnt, oIn, oNotIn, inD, lookD, oIx_lst, oIx_tup, oIx_frl, oIx_sq, oIx_dT, oIx_dK, getD, oSl, oInt, oSorted, isB, tPut3, tApp3, tDicT, tDicK, tBk3, tCt3, tMin2, tMax2, tNeg3, tIf3E, tAndV3, tOrV3, tNotV3, tIsi, tIndex3, tYes3, tRaise0, tRaise1, tIsE3, tXf3, wipe3, List.set_cons_zero, List.set_cons_succ, List.getElem?_cons_zero, List.getElem?_cons_succ, List.getElem?_nil, Fl.isSt, D.flat, Fl.nb, Fl.item, cond_true, cond_false, Bool.true_or, Bool.or_true, Bool.false_or, Bool.or_false, Bool.and_true, Bool.true_and, Bool.and_false, Bool.false_and, if_true, if_false, ite_true, ite_false, Bool.false_eq_true, Bool.not_true, Bool.not_false, isNon_non, isNon_lst, isNon_tup, isNon_int, isNon_bl, isNon_str, isNon_sq, ty_ii, ty_bi, ty_tt, ty_tl, ty_ti, ty_tn, ty_lt, ty_ll, ty_ib, ty_bb, ni_int, ni_tup, ni_lst, ni_bl, ni_non, List.length_cons, List.length_nil, reduceIte, List.map_cons, List.map_nil, true_and, and_true, Nat.zero_add, Nat.reduceAdd, List.length_map, Nat.zero_le, Int.toNat_natCast]
    refine ⟨le_line (by decide), [x, y], rfl, ?_⟩
    cases hb : inT T x y with
    | true =>
      rw [hb] at hR
      unfold inT at hb
      rw [hb]
      simp only [Bool.not_true, Bool.false_eq_true, if_false, List.append_nil] at hR ⊢
      exact hR
    | false =>
      rw [hb] at hR
      unfold inT at hb
      rw [hb]
      simp only [Bool.not_false, if_true] at hR ⊢
      exact ⟨le_line (by decide), ha, hR⟩
  · unfold boundP at k
    rw [List.map_flatMap] at k
    have e : (fun x => List.map prD ((b.filter fun y => !inT T x y).map fun y => (x, y))) = fun x => (b.filter fun y => !inT T x y).map fun y => prD (x, y) := by
      funext x
      rw [List.map_map]
      rfl
    rw [e] at k
    exact k
theorem refuse0 {a b : List Int} (h0 : refuse a b = 0) : a.length ≤ 60 ∧ b.length ≤ 60 := by
  unfold refuse at h0
  split at h0
  · cases h0
  · split at h0
    · rename_i h; exact h
    · cases h0
theorem shared_len (fr : Int → Int → Bool) : ∀ a b, (shared fr a b).1.length + (shared fr a b).2.1.length = a.length ∧ (shared fr a b).2.2.length ≤ b.length := by
  refine shared_ind (fr := fr) (fun a b h => ?_) fun a b x hx hy hm ih => ?_
  · rw [shared_stop h]; simp
  · rw [shared_step hx hy hm]
    have l1 := List.length_erase_of_mem (isF_mem hx)
    have l2 := List.length_erase_of_mem (isF_mem hy)
    have p1 := List.length_pos_of_mem (isF_mem hx)
    have p2 := List.length_pos_of_mem (isF_mem hy)
    simp only [List.length_cons]
    omega
/-! shared_beginning: 0 free, 1 first, 2 second -/
abbrev s_shared_beginning : Stmt := topS 18
theorem sc_shared_beginning : FnScope ["free", "first", "second"] ["free", "first", "second"] (defScope s_shared_beginning) := ⟨rfl, rfl, rfl, by decide +kernel, rfl, by decide +kernel, by decide +kernel⟩
def fs_shared_beginning (ex : Str → Addr) : FS := fun as q z => ∃ b ps b1 x b2 y, as = [sq b (List.map prD ps), sq b1 (intsD x), sq b2 (intsD y)] ∧ ps.length ≤ 10000 ∧ refK ex (refuse x y) z (q (.tup (intsD (shared (frP ps) x y).1)))
theorem ok_shared_beginning {P : Program} {w : World} {K : PySem.W.Frag} {mg : Str → Option Value} {base : Heap} {ex : Str → Addr} {f : Addr} {fd : FuncData} (T : Tx P w K mg base ex) (C_demand_logs : Callee P w K mg base "demand_logs" 3 1 (fs_demand_logs ex)) (C_shared_parts : Callee P w K mg base "shared_parts" 3 3 (fs_shared_parts ex)) (C_free_table : Callee P w K mg base "free_table" 1 1 (fs_free_table ex)) (F : Fun K "shared_beginning" "shared_beginning" s_shared_beginning f fd) (gm : mg "shared_beginning" = some (.ref f)) (bi : Binds K fd ["free", "first", "second"] []) : Callee P w K mg base "shared_beginning" 4 3 (fs_shared_beginning ex) := by
  refine callee_mk F gm bi (fun3 (fs_shared_beginning ex) F sc_shared_beginning ⟨_, fun cdv A outer s H E hr tk hp =>
      (ss3cons (s3expr (p3callC C_demand_logs hr (by decide) tk rfl (a3cons (p3tup (a3cons (p3v 1) (a3cons (p3v 2) a3nil))) a3nil)))
      (ss3one (s3ret (p3ix (deep_of hr) (p3callC C_shared_parts hr (by decide) tk rfl (a3cons (p3callC C_free_table hr (by decide) tk rfl (a3cons (p3v 0) a3nil)) (a3cons (p3v 1) (a3cons (p3v 2) a3nil)))) p3int)))), ?_⟩)
  intro ds q z hl h
  obtain ⟨b, ps, b1, x, b2, y, rfl, hn, k⟩ := h
  simp only [start3, List.map_cons, List.map_nil, List.length_cons, List.length_nil, List.cons_append, List.nil_append, Nat.reduceAdd, Nat.reduceSub, Nat.zero_add, List.replicate, if_true, if_false, Bool.false_eq_true, reduceIte]
  try simp only [tSeq3, tNx3, tIf3, tRet3, tRetN3, tSet3, tOwn3, tAsg3, tExpr3, tFrz, frzS, tFor3_eq, tLc3_eq, tLc23_eq, tSeq3I_eq, seqK_lst, seqK_tup, seqK_frl, seqK_sq, oTup_lst, oTup_tup, oTup_sq, oList_lst, oList_tup, oList_sq, oLen_lst, oLen_tup, oLen_frl, oLen_sq, flat_sq, tRg1, tRg2, gN3, gT3, gCons3, gNil3, tV3, tC3, tB3, tT3, tIx3, tCh3, tAnd3, tOr3, tNot3, tNil3, tCons3, tTup3, tLst3, tOfL, tCall3, tU3, tUL, tSl3, tNo3, tSome3, tCat3, tRep3, oEq, oNe, oLt_int, oLt_tup, oLe_int, oLe_tup, oGt_int, oGt_tup, oGe_int, oGe_tup, eqD_int, eqD_str, eqD_bl, eqD_non, eqD_tup, eqD_lst, oAdd, oSub, oMul, oDiv, oMod, oPow, oIs, oIsnt, oIn, oNotIn, inD, lookD, oIx_lst, oIx_tup, oIx_frl, oIx_sq, oIx_dT, oIx_dK, getD, oSl, oInt, oSorted, isB, tPut3, tApp3, tDicT, tDicK, tBk3, tCt3, tMin2, tMax2, tNeg3, tIf3E, tAndV3, tOrV3, tNotV3, tIsi, tIndex3, tYes3, tRaise0, tRaise1, tIsE3, tXf3, wipe3, List.set_cons_zero, List.set_cons_succ, List.getElem?_cons_zero, List.getElem?_cons_succ, List.getElem?_nil, Fl.isSt, D.flat, Fl.nb, Fl.item, cond_true, cond_false, Bool.true_or, Bool.or_true, Bool.false_or, Bool.or_false, Bool.and_true, Bool.true_and, Bool.and_false, Bool.false_and, if_true, if_false, ite_true, ite_false, Bool.false_eq_true, Bool.not_true, Bool.not_false, isNon_non, isNon_lst, isNon_tup, isNon_int, isNon_bl, isNon_str, isNon_sq, ty_ii, ty_bi, ty_tt, ty_tl, ty_ti, ty_tn, ty_lt, ty_ll, ty_ib, ty_bb, ni_int, ni_tup, ni_lst, ni_bl, ni_non, List.length_cons, List.length_nil, reduceIte, List.map_cons, List.map_nil, true_and, and_true, Nat.zero_add, Nat.reduceAdd, List.length_map, Nat.zero_le, Int.toNat_natCast]
  refine ⟨le_line (by decide), b1, x, b2, y, rfl, ⟨fun h0 => ?_, k.2.1, k.2.2⟩⟩
  have k' := k.1 h0
  have hz := refuse0 h0
  refine ⟨b, ps, rfl, hn, fun T hT => ?_⟩
  have hT' : inT T = frP ps := by funext a b; exact hT a b
  have sy : Sym T := fun a b => by rw [hT, hT]; exact frP_comm ps a b
  rw [← hT'] at k'
  try simp only [tSeq3, tNx3, tIf3, tRet3, tRetN3, tSet3, tOwn3, tAsg3, tExpr3, tFrz, frzS, tFor3_eq, tLc3_eq, tLc23_eq, tSeq3I_eq, seqK_lst, seqK_tup, seqK_frl, seqK_sq, oTup_lst, oTup_tup, oTup_sq, oList_lst, oList_tup, oList_sq, oLen_lst, oLen_tup, oLen_frl, oLen_sq, flat_sq, tRg1, tRg2, gN3, gT3, gCons3, gNil3, tV3, tC3, tB3, tT3, tIx3, tCh3, tAnd3, tOr3, tNot3, tNil3, tCons3, tTup3, tLst3, tOfL, tCall3, tU3, tUL, tSl3, tNo3, tSome3, tCat3, tRep3, oEq, oNe, oLt_int, oLt_tup, oLe_int, oLe_tup, oGt_int, oGt_tup, oGe_int, oGe_tup, eqD_int, eqD_str, eqD_bl, eqD_non, eqD_tup, eqD_lst, oAdd, oSub, oMul, oDiv, oMod, oPow, oIs, oIsnt, oIn, oNotIn, inD, lookD, oIx_lst, oIx_tup, oIx_frl, oIx_sq, oIx_dT, oIx_dK, getD, oSl, oInt, oSorted, isB, tPut3, tApp3, tDicT, tDicK, tBk3, tCt3, tMin2, tMax2, tNeg3, tIf3E, tAndV3, tOrV3, tNotV3, tIsi, tIndex3, tYes3, tRaise0, tRaise1, tIsE3, tXf3, wipe3, List.set_cons_zero, List.set_cons_succ, List.getElem?_cons_zero, List.getElem?_cons_succ, List.getElem?_nil, Fl.isSt, D.flat, Fl.nb, Fl.item, cond_true, cond_false, Bool.true_or, Bool.or_true, Bool.false_or, Bool.or_false, Bool.and_true, Bool.true_and, Bool.and_false, Bool.false_and, if_true, if_false, ite_true, ite_false, Bool.false_eq_true, Bool.not_true, Bool.not_false, isNon_non, isNon_lst, isNon_tup, isNon_int, isNon_bl, isNon_str, isNon_sq, ty_ii, ty_bi, ty_tt, ty_tl, ty_ti, ty_tn, ty_lt, ty_ll, ty_ib, ty_bb, ni_int, ni_tup, ni_lst, ni_bl, ni_non, List.length_cons, List.length_nil, reduceIte, List.map_cons, List.map_nil, true_and, and_true, Nat.zero_add, Nat.reduceAdd, List.length_map, Nat.zero_le, Int.toNat_natCast]
  refine ⟨T, b1, x, b2, y, rfl, sy, by omega, by omega, ?_⟩
  try simp only [tSeq3, tNx3, tIf3, tRet3, tRetN3, tSet3, tOwn3, tAsg3, tExpr3, tFrz, frzS, tFor3_eq, tLc3_eq, tLc23_eq, tSeq3I_eq, seqK_lst, seqK_tup, seqK_frl, seqK_sq, oTup_lst, oTup_tup, oTup_sq, oList_lst, oList_tup, oList_sq, oLen_lst, oLen_tup, oLen_frl, oLen_sq, flat_sq, tRg1, tRg2, gN3, gT3, gCons3, gNil3, tV3, tC3, tB3, tT3, tIx3, tCh3, tAnd3, tOr3, tNot3, tNil3, tCons3, tTup3, tLst3, tOfL, tCall3, tU3, tUL, tSl3, tNo3, tSome3, tCat3, tRep3, oEq, oNe, oLt_int, oLt_tup, oLe_int, oLe_tup, oGt_int, oGt_tup, oGe_int, oGe_tup, eqD_int, eqD_str, eqD_bl, eqD_non, eqD_tup, eqD_lst, oAdd, oSub, oMul, oDiv, oMod, oPow, oIs, oIsnt, oIn, oNotIn, inD, lookD, oIx_lst, oIx_tup, oIx_frl, oIx_sq, oIx_dT, oIx_dK, getD, oSl, oInt, oSorted, isB, tPut3, tApp3, tDicT, tDicK, tBk3, tCt3, tMin2, tMax2, tNeg3, tIf3E, tAndV3, tOrV3, tNotV3, tIsi, tIndex3, tYes3, tRaise0, tRaise1, tIsE3, tXf3, wipe3, List.set_cons_zero, List.set_cons_succ, List.getElem?_cons_zero, List.getElem?_cons_succ, List.getElem?_nil, Fl.isSt, D.flat, Fl.nb, Fl.item, cond_true, cond_false, Bool.true_or, Bool.or_true, Bool.false_or, Bool.or_false, Bool.and_true, Bool.true_and, Bool.and_false, Bool.false_and, if_true, if_false, ite_true, ite_false, Bool.false_eq_true, Bool.not_true, Bool.not_false, isNon_non, isNon_lst, isNon_tup, isNon_int, isNon_bl, isNon_str, isNon_sq, ty_ii, ty_bi, ty_tt, ty_tl, ty_ti, ty_tn, ty_lt, ty_ll, ty_ib, ty_bb, ni_int, ni_tup, ni_lst, ni_bl, ni_non, List.length_cons, List.length_nil, reduceIte, List.map_cons, List.map_nil, true_and, and_true, Nat.zero_add, Nat.reduceAdd, List.length_map, Nat.zero_le, Int.toNat_natCast]
  exact ⟨_, at0 _ _, k'⟩
/-! common_log: 0 free, 1 first, 2 second, 3 table, 4 shared, 5 one, 6 other -/
abbrev s_common_log : Stmt := topS 19
theorem sc_common_log : FnScope ["free", "first", "second", "table", "shared", "one", "other"] ["free", "first", "second"] (defScope s_common_log) := ⟨rfl, rfl, rfl, by decide +kernel, rfl, by decide +kernel, by decide +kernel⟩
def fs_common_log (ex : Str → Addr) : FS := fun as q z => ∃ b ps b1 x b2 y, as = [sq b (List.map prD ps), sq b1 (intsD x), sq b2 (intsD y)] ∧ ps.length ≤ 10000 ∧ refK ex (refuse x y) z (q (match boundP (frP ps) (shared (frP ps) x y).2.1 (shared (frP ps) x y).2.2 with
  | [] => .tup (intsD (least (frP ps) ((shared (frP ps) x y).1 ++ (shared (frP ps) x y).2.1 ++ (shared (frP ps) x y).2.2)))
  | _ :: _ => .non))
theorem ok_common_log {P : Program} {w : World} {K : PySem.W.Frag} {mg : Str → Option Value} {base : Heap} {ex : Str → Addr} {f : Addr} {fd : FuncData} (T : Tx P w K mg base ex) (C_demand_logs : Callee P w K mg base "demand_logs" 3 1 (fs_demand_logs ex)) (C_free_table : Callee P w K mg base "free_table" 1 1 (fs_free_table ex)) (C_shared_parts : Callee P w K mg base "shared_parts" 3 3 (fs_shared_parts ex)) (C_bound_pairs : Callee P w K mg base "bound_pairs" 1 3 (fs_bound_pairs ex)) (C_least_row : Callee P w K mg base "least_row" 3 2 (fs_least_row ex)) (F : Fun K "common_log" "common_log" s_common_log f fd) (gm : mg "common_log" = some (.ref f)) (bi : Binds K fd ["free", "first", "second"] []) : Callee P w K mg base "common_log" 4 3 (fs_common_log ex) := by
  refine callee_mk F gm bi (fun3 (fs_common_log ex) F sc_common_log ⟨_, fun cdv A outer s H E hr tk hp =>
      (ss3cons (s3expr (p3callC C_demand_logs hr (by decide) tk rfl (a3cons (p3tup (a3cons (p3v 1) (a3cons (p3v 2) a3nil))) a3nil)))
      (ss3cons (s3set (i := 3) sc_common_log.nd rfl (by first | exact .inl rfl | exact .inr rfl) (p3callC C_free_table hr (by decide) tk rfl (a3cons (p3v 0) a3nil)))
      (ss3cons (s3asg (p3callC C_shared_parts hr (by decide) tk rfl (a3cons (p3v 3) (a3cons (p3v 1) (a3cons (p3v 2) a3nil)))) (g3tup (n := 3) rfl (gs3cons (g3name (i := 4) sc_common_log.nd rfl (by first | exact .inl rfl | exact .inr rfl)) (gs3cons (g3name (i := 5) sc_common_log.nd rfl (by first | exact .inl rfl | exact .inr rfl)) (gs3cons (g3name (i := 6) sc_common_log.nd rfl (by first | exact .inl rfl | exact .inr rfl)) gs3nil)))))
      (ss3cons (s3if (t3cmp (op3gt (deep_of hr)) (p3b1 c3len rfl T.b_len bt_len (p3callC C_bound_pairs hr (by decide) tk rfl (a3cons (p3v 3) (a3cons (p3v 5) (a3cons (p3v 6) a3nil))))) p3int)
        (ss3one (s3ret p3non))
        ss3nil)
      (ss3one (s3ret (p3callC C_least_row hr (by decide) tk rfl (a3cons (p3v 3) (a3cons (p3op op3add (p3op op3add (p3v 4) (p3v 5)) (p3v 6)) a3nil))))))))), ?_⟩)
  intro ds q z hl h
  obtain ⟨b, ps, b1, x, b2, y, rfl, hn, k⟩ := h
  simp only [start3, List.map_cons, List.map_nil, List.length_cons, List.length_nil, List.cons_append, List.nil_append, Nat.reduceAdd, Nat.reduceSub, Nat.zero_add, List.replicate, if_true, if_false, Bool.false_eq_true, reduceIte]
  try simp only [tSeq3, tNx3, tIf3, tRet3, tRetN3, tSet3, tOwn3, tAsg3, tExpr3, tFrz, frzS, tFor3_eq, tLc3_eq, tLc23_eq, tSeq3I_eq, seqK_lst, seqK_tup, seqK_frl, seqK_sq, oTup_lst, oTup_tup, oTup_sq, oList_lst, oList_tup, oList_sq, oLen_lst, oLen_tup, oLen_frl, oLen_sq, flat_sq, tRg1, tRg2, gN3, gT3, gCons3, gNil3, tV3, tC3, tB3, tT3, tIx3, tCh3, tAnd3, tOr3, tNot3, tNil3, tCons3, tTup3, tLst3, tOfL, tCall3, tU3, tUL, tSl3, tNo3, tSome3, tCat3, tRep3, oEq, oNe, oLt_int, oLt_tup, oLe_int, oLe_tup, oGt_int, oGt_tup, oGe_int, oGe_tup, eqD_int, eqD_str, eqD_bl, eqD_non, eqD_tup, eqD_lst, oAdd, oSub, oMul, oDiv, oMod, oPow, oIs, oIsnt, oIn, oNotIn, inD, lookD, oIx_lst, oIx_tup, oIx_frl, oIx_sq, oIx_dT, oIx_dK, getD, oSl, oInt, oSorted, isB, tPut3, tApp3, tDicT, tDicK, tBk3, tCt3, tMin2, tMax2, tNeg3, tIf3E, tAndV3, tOrV3, tNotV3, tIsi, tIndex3, tYes3, tRaise0, tRaise1, tIsE3, tXf3, wipe3, List.set_cons_zero, List.set_cons_succ, List.getElem?_cons_zero, List.getElem?_cons_succ, List.getElem?_nil, Fl.isSt, D.flat, Fl.nb, Fl.item, cond_true, cond_false, Bool.true_or, Bool.or_true, Bool.false_or, Bool.or_false, Bool.and_true, Bool.true_and, Bool.and_false, Bool.false_and, if_true, if_false, ite_true, ite_false, Bool.false_eq_true, Bool.not_true, Bool.not_false, isNon_non, isNon_lst, isNon_tup, isNon_int, isNon_bl, isNon_str, isNon_sq, ty_ii, ty_bi, ty_tt, ty_tl, ty_ti, ty_tn, ty_lt, ty_ll, ty_ib, ty_bb, ni_int, ni_tup, ni_lst, ni_bl, ni_non, List.length_cons, List.length_nil, reduceIte, List.map_cons, List.map_nil, true_and, and_true, Nat.zero_add, Nat.reduceAdd, List.length_map, Nat.zero_le, Int.toNat_natCast]
  refine ⟨le_line (by decide), b1, x, b2, y, rfl, ⟨fun h0 => ?_, k.2.1, k.2.2⟩⟩
  have k' := k.1 h0
  have hz := refuse0 h0
  have hs := shared_len (frP ps) x y
  refine ⟨b, ps, rfl, hn, fun T hT => ?_⟩
  have hT' : inT T = frP ps := by funext a b; exact hT a b
  have sy : Sym T := fun a b => by rw [hT, hT]; exact frP_comm ps a b
  rw [← hT'] at k' hs
  try simp only [tSeq3, tNx3, tIf3, tRet3, tRetN3, tSet3, tOwn3, tAsg3, tExpr3, tFrz, frzS, tFor3_eq, tLc3_eq, tLc23_eq, tSeq3I_eq, seqK_lst, seqK_tup, seqK_frl, seqK_sq, oTup_lst, oTup_tup, oTup_sq, oList_lst, oList_tup, oList_sq, oLen_lst, oLen_tup, oLen_frl, oLen_sq, flat_sq, tRg1, tRg2, gN3, gT3, gCons3, gNil3, tV3, tC3, tB3, tT3, tIx3, tCh3, tAnd3, tOr3, tNot3, tNil3, tCons3, tTup3, tLst3, tOfL, tCall3, tU3, tUL, tSl3, tNo3, tSome3, tCat3, tRep3, oEq, oNe, oLt_int, oLt_tup, oLe_int, oLe_tup, oGt_int, oGt_tup, oGe_int, oGe_tup, eqD_int, eqD_str, eqD_bl, eqD_non, eqD_tup, eqD_lst, oAdd, oSub, oMul, oDiv, oMod, oPow, oIs, oIsnt, oIn, oNotIn, inD, lookD, oIx_lst, oIx_tup, oIx_frl, oIx_sq, oIx_dT, oIx_dK, getD, oSl, oInt, oSorted, isB, tPut3, tApp3, tDicT, tDicK, tBk3, tCt3, tMin2, tMax2, tNeg3, tIf3E, tAndV3, tOrV3, tNotV3, tIsi, tIndex3, tYes3, tRaise0, tRaise1, tIsE3, tXf3, wipe3, List.set_cons_zero, List.set_cons_succ, List.getElem?_cons_zero, List.getElem?_cons_succ, List.getElem?_nil, Fl.isSt, D.flat, Fl.nb, Fl.item, cond_true, cond_false, Bool.true_or, Bool.or_true, Bool.false_or, Bool.or_false, Bool.and_true, Bool.true_and, Bool.and_false, Bool.false_and, if_true, if_false, ite_true, ite_false, Bool.false_eq_true, Bool.not_true, Bool.not_false, isNon_non, isNon_lst, isNon_tup, isNon_int, isNon_bl, isNon_str, isNon_sq, ty_ii, ty_bi, ty_tt, ty_tl, ty_ti, ty_tn, ty_lt, ty_ll, ty_ib, ty_bb, ni_int, ni_tup, ni_lst, ni_bl, ni_non, List.length_cons, List.length_nil, reduceIte, List.map_cons, List.map_nil, true_and, and_true, Nat.zero_add, Nat.reduceAdd, List.length_map, Nat.zero_le, Int.toNat_natCast]
  refine ⟨T, b1, x, b2, y, rfl, sy, by omega, by omega, ?_⟩
  try simp only [tSeq3, tNx3, tIf3, tRet3, tRetN3, tSet3, tOwn3, tAsg3, tExpr3, tFrz, frzS, tFor3_eq, tLc3_eq, tLc23_eq, tSeq3I_eq, seqK_lst, seqK_tup, seqK_frl, seqK_sq, oTup_lst, oTup_tup, oTup_sq, oList_lst, oList_tup, oList_sq, oLen_lst, oLen_tup, oLen_frl, oLen_sq, flat_sq, tRg1, tRg2, gN3, gT3, gCons3, gNil3, tV3, tC3, tB3, tT3, tIx3, tCh3, tAnd3, tOr3, tNot3, tNil3, tCons3, tTup3, tLst3, tOfL, tCall3, tU3, tUL, tSl3, tNo3, tSome3, tCat3, tRep3, oEq, oNe, oLt_int, oLt_tup, oLe_int, oLe_tup, oGt_int, oGt_tup, oGe_int, oGe_tup, eqD_int, eqD_str, eqD_bl, eqD_non, eqD_tup, eqD_lst, oAdd, oSub, oMul, oDiv, oMod, oPow, oIs, oIsnt, oIn, oNotIn, inD, lookD, oIx_lst, oIx_tup, oIx_frl, oIx_sq, oIx_dT, oIx_dK, getD, oSl, oInt, oSorted, isB, tPut3, tApp3, tDicT, tDicK, tBk3, tCt3, tMin2, tMax2, tNeg3, tIf3E, tAndV3, tOrV3, tNotV3, tIsi, tIndex3, tYes3, tRaise0, tRaise1, tIsE3, tXf3, wipe3, List.set_cons_zero, List.set_cons_succ, List.getElem?_cons_zero, List.getElem?_cons_succ, List.getElem?_nil, Fl.isSt, D.flat, Fl.nb, Fl.item, cond_true, cond_false, Bool.true_or, Bool.or_true, Bool.false_or, Bool.or_false, Bool.and_true, Bool.true_and, Bool.and_false, Bool.false_and, if_true, if_false, ite_true, ite_false, Bool.false_eq_true, Bool.not_true, Bool.not_false, isNon_non, isNon_lst, isNon_tup, isNon_int, isNon_bl, isNon_str, isNon_sq, ty_ii, ty_bi, ty_tt, ty_tl, ty_ti, ty_tn, ty_lt, ty_ll, ty_ib, ty_bb, ni_int, ni_tup, ni_lst, ni_bl, ni_non, List.length_cons, List.length_nil, reduceIte, List.map_cons, List.map_nil, true_and, and_true, Nat.zero_add, Nat.reduceAdd, List.length_map, Nat.zero_le, Int.toNat_natCast]
  refine ⟨T, _, _, rfl, by omega, by omega, ?_⟩
  try simp only [tSeq3, tNx3, tIf3, tRet3, tRetN3, tSet3, tOwn3, tAsg3, tExpr3, tFrz, frzS, tFor3_eq, tLc3_eq, tLc23_eq, tSeq3I_eq, seqK_lst, seqK_tup, seqK_frl, seqK_sq, oTup_lst, oTup_tup, oTup_sq, oList_lst, oList_tup, oList_sq, oLen_lst, oLen_tup, oLen_frl, oLen_sq, flat_sq, tRg1, tRg2, gN3, gT3, gCons3, gNil3, tV3, tC3, tB3, tT3, tIx3, tCh3, tAnd3, tOr3, tNot3, tNil3, tCons3, tTup3, tLst3, tOfL, tCall3, tU3, tUL, tSl3, tNo3, tSome3, tCat3, tRep3, oEq, oNe, oLt_int, oLt_tup, oLe_int, oLe_tup, oGt_int, oGt_tup, oGe_int, oGe_tup, eqD_int, eqD_str, eqD_bl, eqD_non, eqD_tup, eqD_lst, oAdd, oSub, oMul, oDiv, oMod, oPow, oIs, oIsnt, oIn, oNotIn, inD, lookD, oIx_lst, oIx_tup, oIx_frl, oIx_sq, oIx_dT, oIx_dK, getD, oSl, oInt, oSorted, isB, tPut3, tApp3, tDicT, tDicK, tBk3, tCt3, tMin2, tMax2, tNeg3, tIf3E, tAndV3, tOrV3, tNotV3, tIsi, tIndex3, tYes3, tRaise0, tRaise1, tIsE3, tXf3, wipe3, List.set_cons_zero, List.set_cons_succ, List.getElem?_cons_zero, List.getElem?_cons_succ, List.getElem?_nil, Fl.isSt, D.flat, Fl.nb, Fl.item, cond_true, cond_false, Bool.true_or, Bool.or_true, Bool.false_or, Bool.or_false, Bool.and_true, Bool.true_and, Bool.and_false, Bool.false_and, if_true, if_false, ite_true, ite_false, Bool.false_eq_true, Bool.not_true, Bool.not_false, isNon_non, isNon_lst, isNon_tup, isNon_int, isNon_bl, isNon_str, isNon_sq, ty_ii, ty_bi, ty_tt, ty_tl, ty_ti, ty_tn, ty_lt, ty_ll, ty_ib, ty_bb, ni_int, ni_tup, ni_lst, ni_bl, ni_non, List.length_cons, List.length_nil, reduceIte, List.map_cons, List.map_nil, true_and, and_true, Nat.zero_add, Nat.reduceAdd, List.length_map, Nat.zero_le, Int.toNat_natCast]
  cases e : boundP (inT T) (shared (inT T) x y).2.1 (shared (inT T) x y).2.2 with
  | nil =>
    rw [e] at k'
    rw [if_neg (by simp)]
    refine ⟨le_line (by omega), le_line (by rw [List.length_append, List.length_map, List.length_map]; omega), T, _, by rw [← List.map_append, ← List.map_append], sy, by rw [List.length_append, List.length_append]; omega, k'⟩
  | cons p r =>
    rw [e] at k'
    rw [if_pos (by simp)]
    exact k'
/-! clash_letters: 0 free, 1 first, 2 second, 3 table, 4 _, 5 one, 6 other, 7 pairs -/
abbrev s_clash_letters : Stmt := topS 20
theorem sc_clash_letters : FnScope ["free", "first", "second", "table", "_", "one", "other", "pairs"] ["free", "first", "second"] (defScope s_clash_letters) := ⟨rfl, rfl, rfl, by decide +kernel, rfl, by decide +kernel, by decide +kernel⟩
def fs_clash_letters (ex : Str → Addr) : FS := fun as q z => ∃ b ps b1 x b2 y, as = [sq b (List.map prD ps), sq b1 (intsD x), sq b2 (intsD y)] ∧ ps.length ≤ 10000 ∧ refK ex (refuse x y) z (q (match boundP (frP ps) (shared (frP ps) x y).2.1 (shared (frP ps) x y).2.2 with
  | [] => .non
  | p :: r => prD (minOf p r)))
theorem ok_clash_letters {P : Program} {w : World} {K : PySem.W.Frag} {mg : Str → Option Value} {base : Heap} {ex : Str → Addr} {f : Addr} {fd : FuncData} (T : Tx P w K mg base ex) (C_demand_logs : Callee P w K mg base "demand_logs" 3 1 (fs_demand_logs ex)) (C_free_table : Callee P w K mg base "free_table" 1 1 (fs_free_table ex)) (C_shared_parts : Callee P w K mg base "shared_parts" 3 3 (fs_shared_parts ex)) (C_bound_pairs : Callee P w K mg base "bound_pairs" 1 3 (fs_bound_pairs ex)) (F : Fun K "clash_letters" "clash_letters" s_clash_letters f fd) (gm : mg "clash_letters" = some (.ref f)) (bi : Binds K fd ["free", "first", "second"] []) : Callee P w K mg base "clash_letters" 4 3 (fs_clash_letters ex) := by
  refine callee_mk F gm bi (fun3 (fs_clash_letters ex) F sc_clash_letters ⟨_, fun cdv A outer s H E hr tk hp =>
      (ss3cons (s3expr (p3callC C_demand_logs hr (by decide) tk rfl (a3cons (p3tup (a3cons (p3v 1) (a3cons (p3v 2) a3nil))) a3nil)))
      (ss3cons (s3set (i := 3) sc_clash_letters.nd rfl (by first | exact .inl rfl | exact .inr rfl) (p3callC C_free_table hr (by decide) tk rfl (a3cons (p3v 0) a3nil)))
      (ss3cons (s3asg (p3callC C_shared_parts hr (by decide) tk rfl (a3cons (p3v 3) (a3cons (p3v 1) (a3cons (p3v 2) a3nil)))) (g3tup (n := 3) rfl (gs3cons (g3name (i := 4) sc_clash_letters.nd rfl (by first | exact .inl rfl | exact .inr rfl)) (gs3cons (g3name (i := 5) sc_clash_letters.nd rfl (by first | exact .inl rfl | exact .inr rfl)) (gs3cons (g3name (i := 6) sc_clash_letters.nd rfl (by first | exact .inl rfl | exact .inr rfl)) gs3nil)))))
      (ss3cons (s3set (i := 7) sc_clash_letters.nd rfl (by first | exact .inl rfl | exact .inr rfl) (p3callC C_bound_pairs hr (by decide) tk rfl (a3cons (p3v 3) (a3cons (p3v 5) (a3cons (p3v 6) a3nil)))))
      (ss3cons (s3if (t3cmp (op3eq (deep_of hr)) (p3b1 c3len rfl T.b_len bt_len (p3v 7)) p3int)
        (ss3one (s3ret p3non))
        ss3nil)
      (ss3one (s3ret (p3b1 (c3min rfl (deep_of hr)) rfl T.b_min bt_min (p3v 7))))))))), ?_⟩)
  intro ds q z hl h
  obtain ⟨b, ps, b1, x, b2, y, rfl, hn, k⟩ := h
  simp only [start3, List.map_cons, List.map_nil, List.length_cons, List.length_nil, List.cons_append, List.nil_append, Nat.reduceAdd, Nat.reduceSub, Nat.zero_add, List.replicate, if_true, if_false, Bool.false_eq_true, reduceIte]
  try simp only [tSeq3, tNx3, tIf3, tRet3, tRetN3, tSet3, tOwn3, tAsg3, tExpr3, tFrz, frzS, tFor3_eq, tLc3_eq, tLc23_eq, tSeq3I_eq, seqK_lst, seqK_tup, seqK_frl, seqK_sq, oTup_lst, oTup_tup, oTup_sq, oList_lst, oList_tup, oList_sq, oLen_lst, oLen_tup, oLen_frl, oLen_sq, flat_sq, tRg1, tRg2, gN3, gT3, gCons3, gNil3, tV3, tC3, tB3, tT3, tIx3, tCh3, tAnd3, tOr3, tNot3, tNil3, tCons3, tTup3, tLst3, tOfL, tCall3, tU3, tUL, tSl3, tNo3, tSome3, tCat3, tRep3, oEq, oNe, oLt_int, oLt_tup, oLe_int, oLe_tup, oGt_int, oGt_tup, oGe_int, oGe_tup, eqD_int, eqD_str, eqD_bl, eqD_non, eqD_tup, eqD_lst, oAdd, oSub, oMul, oDiv, oMod, oPow, oIs, oIsnt, oIn, oNotIn, inD, lookD, oIx_lst, oIx_tup, oIx_frl, oIx_sq, oIx_dT, oIx_dK, getD, oSl, oInt, oSorted, isB, tPut3, tApp3, tDicT, tDicK, tBk3, tCt3, tMin2, tMax2, tNeg3, tIf3E, tAndV3, tOrV3, tNotV3, tIsi, tIndex3, tYes3, tRaise0, tRaise1, tIsE3, tXf3, wipe3, List.set_cons_zero, List.set_cons_succ, List.getElem?_cons_zero, List.getElem?_cons_succ, List.getElem?_nil, Fl.isSt, D.flat, Fl.nb, Fl.item, cond_true, cond_false, Bool.true_or, Bool.or_true, Bool.false_or, Bool.or_false, Bool.and_true, Bool.true_and, Bool.and_false, Bool.false_and, if_true, if_false, ite_true, ite_false, Bool.false_eq_true, Bool.not_true, Bool.not_false, isNon_non, isNon_lst, isNon_tup, isNon_int, isNon_bl, isNon_str, isNon_sq, ty_ii, ty_bi, ty_tt, ty_tl, ty_ti, ty_tn, ty_lt, ty_ll, ty_ib, ty_bb, ni_int, ni_tup, ni_lst, ni_bl, ni_non, List.length_cons, List.length_nil, reduceIte, List.map_cons, List.map_nil, true_and, and_true, Nat.zero_add, Nat.reduceAdd, List.length_map, Nat.zero_le, Int.toNat_natCast]
  refine ⟨le_line (by decide), b1, x, b2, y, rfl, ⟨fun h0 => ?_, k.2.1, k.2.2⟩⟩
  have k' := k.1 h0
  have hz := refuse0 h0
  have hs := shared_len (frP ps) x y
  refine ⟨b, ps, rfl, hn, fun T hT => ?_⟩
  have hT' : inT T = frP ps := by funext a b; exact hT a b
  have sy : Sym T := fun a b => by rw [hT, hT]; exact frP_comm ps a b
  rw [← hT'] at k' hs
  try simp only [tSeq3, tNx3, tIf3, tRet3, tRetN3, tSet3, tOwn3, tAsg3, tExpr3, tFrz, frzS, tFor3_eq, tLc3_eq, tLc23_eq, tSeq3I_eq, seqK_lst, seqK_tup, seqK_frl, seqK_sq, oTup_lst, oTup_tup, oTup_sq, oList_lst, oList_tup, oList_sq, oLen_lst, oLen_tup, oLen_frl, oLen_sq, flat_sq, tRg1, tRg2, gN3, gT3, gCons3, gNil3, tV3, tC3, tB3, tT3, tIx3, tCh3, tAnd3, tOr3, tNot3, tNil3, tCons3, tTup3, tLst3, tOfL, tCall3, tU3, tUL, tSl3, tNo3, tSome3, tCat3, tRep3, oEq, oNe, oLt_int, oLt_tup, oLe_int, oLe_tup, oGt_int, oGt_tup, oGe_int, oGe_tup, eqD_int, eqD_str, eqD_bl, eqD_non, eqD_tup, eqD_lst, oAdd, oSub, oMul, oDiv, oMod, oPow, oIs, oIsnt, oIn, oNotIn, inD, lookD, oIx_lst, oIx_tup, oIx_frl, oIx_sq, oIx_dT, oIx_dK, getD, oSl, oInt, oSorted, isB, tPut3, tApp3, tDicT, tDicK, tBk3, tCt3, tMin2, tMax2, tNeg3, tIf3E, tAndV3, tOrV3, tNotV3, tIsi, tIndex3, tYes3, tRaise0, tRaise1, tIsE3, tXf3, wipe3, List.set_cons_zero, List.set_cons_succ, List.getElem?_cons_zero, List.getElem?_cons_succ, List.getElem?_nil, Fl.isSt, D.flat, Fl.nb, Fl.item, cond_true, cond_false, Bool.true_or, Bool.or_true, Bool.false_or, Bool.or_false, Bool.and_true, Bool.true_and, Bool.and_false, Bool.false_and, if_true, if_false, ite_true, ite_false, Bool.false_eq_true, Bool.not_true, Bool.not_false, isNon_non, isNon_lst, isNon_tup, isNon_int, isNon_bl, isNon_str, isNon_sq, ty_ii, ty_bi, ty_tt, ty_tl, ty_ti, ty_tn, ty_lt, ty_ll, ty_ib, ty_bb, ni_int, ni_tup, ni_lst, ni_bl, ni_non, List.length_cons, List.length_nil, reduceIte, List.map_cons, List.map_nil, true_and, and_true, Nat.zero_add, Nat.reduceAdd, List.length_map, Nat.zero_le, Int.toNat_natCast]
  refine ⟨T, b1, x, b2, y, rfl, sy, by omega, by omega, ?_⟩
  try simp only [tSeq3, tNx3, tIf3, tRet3, tRetN3, tSet3, tOwn3, tAsg3, tExpr3, tFrz, frzS, tFor3_eq, tLc3_eq, tLc23_eq, tSeq3I_eq, seqK_lst, seqK_tup, seqK_frl, seqK_sq, oTup_lst, oTup_tup, oTup_sq, oList_lst, oList_tup, oList_sq, oLen_lst, oLen_tup, oLen_frl, oLen_sq, flat_sq, tRg1, tRg2, gN3, gT3, gCons3, gNil3, tV3, tC3, tB3, tT3, tIx3, tCh3, tAnd3, tOr3, tNot3, tNil3, tCons3, tTup3, tLst3, tOfL, tCall3, tU3, tUL, tSl3, tNo3, tSome3, tCat3, tRep3, oEq, oNe, oLt_int, oLt_tup, oLe_int, oLe_tup, oGt_int, oGt_tup, oGe_int, oGe_tup, eqD_int, eqD_str, eqD_bl, eqD_non, eqD_tup, eqD_lst, oAdd, oSub, oMul, oDiv, oMod, oPow, oIs, oIsnt, oIn, oNotIn, inD, lookD, oIx_lst, oIx_tup, oIx_frl, oIx_sq, oIx_dT, oIx_dK, getD, oSl, oInt, oSorted, isB, tPut3, tApp3, tDicT, tDicK, tBk3, tCt3, tMin2, tMax2, tNeg3, tIf3E, tAndV3, tOrV3, tNotV3, tIsi, tIndex3, tYes3, tRaise0, tRaise1, tIsE3, tXf3, wipe3, List.set_cons_zero, List.set_cons_succ, List.getElem?_cons_zero, List.getElem?_cons_succ, List.getElem?_nil, Fl.isSt, D.flat, Fl.nb, Fl.item, cond_true, cond_false, Bool.true_or, Bool.or_true, Bool.false_or, Bool.or_false, Bool.and_true, Bool.true_and, Bool.and_false, Bool.false_and, if_true, if_false, ite_true, ite_false, Bool.false_eq_true, Bool.not_true, Bool.not_false, isNon_non, isNon_lst, isNon_tup, isNon_int, isNon_bl, isNon_str, isNon_sq, ty_ii, ty_bi, ty_tt, ty_tl, ty_ti, ty_tn, ty_lt, ty_ll, ty_ib, ty_bb, ni_int, ni_tup, ni_lst, ni_bl, ni_non, List.length_cons, List.length_nil, reduceIte, List.map_cons, List.map_nil, true_and, and_true, Nat.zero_add, Nat.reduceAdd, List.length_map, Nat.zero_le, Int.toNat_natCast]
  refine ⟨T, _, _, rfl, by omega, by omega, ?_⟩
  try simp only [tSeq3, tNx3, tIf3, tRet3, tRetN3, tSet3, tOwn3, tAsg3, tExpr3, tFrz, frzS, tFor3_eq, tLc3_eq, tLc23_eq, tSeq3I_eq, seqK_lst, seqK_tup, seqK_frl, seqK_sq, oTup_lst, oTup_tup, oTup_sq, oList_lst, oList_tup, oList_sq, oLen_lst, oLen_tup, oLen_frl, oLen_sq, flat_sq, tRg1, tRg2, gN3, gT3, gCons3, gNil3, tV3, tC3, tB3, tT3, tIx3, tCh3, tAnd3, tOr3, tNot3, tNil3, tCons3, tTup3, tLst3, tOfL, tCall3, tU3, tUL, tSl3, tNo3, tSome3, tCat3, tRep3, oEq, oNe, oLt_int, oLt_tup, oLe_int, oLe_tup, oGt_int, oGt_tup, oGe_int, oGe_tup, eqD_int, eqD_str, eqD_bl, eqD_non, eqD_tup, eqD_lst, oAdd, oSub, oMul, oDiv, oMod, oPow, oIs, oIsnt, oIn, oNotIn, inD, lookD, oIx_lst, oIx_tup, oIx_frl, oIx_sq, oIx_dT, oIx_dK, getD, oSl, oInt, oSorted, isB, tPut3, tApp3, tDicT, tDicK, tBk3, tCt3, tMin2, tMax2, tNeg3, tIf3E, tAndV3, tOrV3, tNotV3, tIsi, tIndex3, tYes3, tRaise0, tRaise1, tIsE3, tXf3, wipe3, List.set_cons_zero, List.set_cons_succ, List.getElem?_cons_zero, List.getElem?_cons_succ, List.getElem?_nil, Fl.isSt, D.flat, Fl.nb, Fl.item, cond_true, cond_false, Bool.true_or, Bool.or_true, Bool.false_or, Bool.or_false, Bool.and_true, Bool.true_and, Bool.and_false, Bool.false_and, if_true, if_false, ite_true, ite_false, Bool.false_eq_true, Bool.not_true, Bool.not_false, isNon_non, isNon_lst, isNon_tup, isNon_int, isNon_bl, isNon_str, isNon_sq, ty_ii, ty_bi, ty_tt, ty_tl, ty_ti, ty_tn, ty_lt, ty_ll, ty_ib, ty_bb, ni_int, ni_tup, ni_lst, ni_bl, ni_non, List.length_cons, List.length_nil, reduceIte, List.map_cons, List.map_nil, true_and, and_true, Nat.zero_add, Nat.reduceAdd, List.length_map, Nat.zero_le, Int.toNat_natCast]
  cases e : boundP (inT T) (shared (inT T) x y).2.1 (shared (inT T) x y).2.2 with
  | nil =>
    rw [e] at k'
    rw [if_pos (by simp)]
    exact k'
  | cons p r =>
    rw [e] at k'
    rw [if_neg (by simp; omega)]
    exact ⟨Int × Int, inferInstance, inferInstance, inferInstance, p, r, rfl, by decide, k'⟩
/-! _law_cell: 0 script, 1 k, 2 total, 3 cell -/
abbrev s__law_cell : Stmt := topS 22
theorem sc__law_cell : FnScope ["script", "k", "total", "cell"] ["script", "k"] (defScope s__law_cell) := ⟨rfl, rfl, rfl, by decide +kernel, rfl, by decide +kernel, by decide +kernel⟩
def fs__law_cell (ex : Str → Addr) : FS := fun as q _ => ∃ (cs : List Int) (k : Nat), as = [.frl (intsD cs), .int k] ∧ ∀ v : Int, q (.int v)
theorem ok__law_cell {P : Program} {w : World} {K : PySem.W.Frag} {mg : Str → Option Value} {base : Heap} {ex : Str → Addr} {f : Addr} {fd : FuncData} (T : Tx P w K mg base ex)  (F : Fun K "_law_cell" "_law_cell" s__law_cell f fd) (gm : mg "_law_cell" = some (.ref f)) (bi : Binds K fd ["script", "k"] []) : Callee P w K mg base "_law_cell" 1 2 (fs__law_cell ex) := by
  refine callee_mk F gm bi (fun3 (fs__law_cell ex) F sc__law_cell ⟨_, fun cdv A outer s H E hr tk hp =>
      (ss3cons (s3if (t3cmp (op3lt (deep_of hr)) (p3v 1) (p3b1 c3len rfl T.b_len bt_len (p3v 0)))
        (ss3one (s3ret (p3ix (deep_of hr) (p3v 0) (p3v 1))))
        ss3nil)
      (ss3cons (s3set (i := 2) sc__law_cell.nd rfl (by first | exact .inl rfl | exact .inr rfl) (p3op op3mul p3int (p3v 1)))
      (ss3cons (s3for hp rfl (i3seq (p3v 0)) (g3name (i := 3) sc__law_cell.nd rfl (by first | exact .inl rfl | exact .inr rfl))
        (ss3one (s3set (i := 2) sc__law_cell.nd rfl (by first | exact .inl rfl | exact .inr rfl) (p3op op3mod (p3t1 c3int rfl T.b_int bt_int (p3op op3add (p3op op3mul (p3v 2) p3int) (p3v 3))) p3int))))
      (ss3one (s3ret (p3v 2)))))), ?_⟩)
  intro ds q z hl h
  obtain ⟨cs, k, rfl, kq⟩ := h
  simp only [start3, List.map_cons, List.map_nil, List.length_cons, List.length_nil, List.cons_append, List.nil_append, Nat.reduceAdd, Nat.reduceSub, Nat.zero_add, List.replicate, if_true, if_false, Bool.false_eq_true, reduceIte]
  try simp only [tSeq3, tNx3, tIf3, tRet3, tRetN3, tSet3, tOwn3, tAsg3, tExpr3, tFrz, frzS, tFor3_eq, tLc3_eq, tLc23_eq, tSeq3I_eq, seqK_lst, seqK_tup, seqK_frl, seqK_sq, oTup_lst, oTup_tup, oTup_sq, oList_lst, oList_tup, oList_sq, oLen_lst, oLen_tup, oLen_frl, oLen_sq, flat_sq, tRg1, tRg2, gN3, gT3, gCons3, gNil3, tV3, tC3, tB3, tT3, tIx3, tCh3, tAnd3, tOr3, tNot3, tNil3, tCons3, tTup3, tLst3, tOfL, tCall3, tU3, tUL, tSl3, tNo3, tSome3, tCat3, tRep3, oEq, oNe, oLt_int, oLt_tup, oLe_int, oLe_tup, oGt_int, oGt_tup, oGe_int, oGe_tup, eqD_int, eqD_str, eqD_bl, eqD_non, eqD_tup, eqD_lst, oAdd, oSub, oMul, oDiv, oMod, oPow, oIs, oIsnt, oIn, oNotIn, inD, lookD, oIx_lst, oIx_tup, oIx_frl, oIx_sq, oIx_dT, oIx_dK, getD, oSl, oInt, oSorted, isB, tPut3, tApp3, tDicT, tDicK, tBk3, tCt3, tMin2, tMax2, tNeg3, tIf3E, tAndV3, tOrV3, tNotV3, tIsi, tIndex3, tYes3, tRaise0, tRaise1, tIsE3, tXf3, wipe3, List.set_cons_zero, List.set_cons_succ, List.getElem?_cons_zero, List.getElem?_cons_succ, List.getElem?_nil, Fl.isSt, D.flat, Fl.nb, Fl.item, cond_true, cond_false, Bool.true_or, Bool.or_true, Bool.false_or, Bool.or_false, Bool.and_true, Bool.true_and, Bool.and_false, Bool.false_and, if_true, if_false, ite_true, ite_false, Bool.false_eq_true, Bool.not_true, Bool.not_false, isNon_non, isNon_lst, isNon_tup, isNon_int, isNon_bl, isNon_str, isNon_sq, ty_ii, ty_bi, ty_tt, ty_tl, ty_ti, ty_tn, ty_lt, ty_ll, ty_ib, ty_bb, ni_int, ni_tup, ni_lst, ni_bl, ni_non, List.length_cons, List.length_nil, reduceIte, List.map_cons, List.map_nil, true_and, and_true, Nat.zero_add, Nat.reduceAdd, List.length_map, Nat.zero_le, Int.toNat_natCast]
  by_cases h : k < cs.length
  · rw [if_pos (by simpa using h)]
    exact ⟨_, at_map h, kq _⟩
  · rw [if_neg (by simpa using h)]
    refine ⟨.inl ⟨by decide, by decide⟩, ?_⟩
    refine forP_d (fun ys s => ∃ (l0 l1 l3 : Sl) (t : Int), s = [l0, l1, .va (.int t), l3]) ⟨_, _, _, _, rfl⟩ ?_ ?_
    · rintro ys x rest s' e ⟨l0, l1, l3, t, rfl⟩
      try simp only [tSeq3, tNx3, tIf3, tRet3, tRetN3, tSet3, tOwn3, tAsg3, tExpr3, tFrz, frzS, tFor3_eq, tLc3_eq, tLc23_eq, tSeq3I_eq, seqK_lst, seqK_tup, seqK_frl, seqK_sq, oTup_lst, oTup_tup, oTup_sq, oList_lst, oList_tup, oList_sq, oLen_lst, oLen_tup, oLen_frl, oLen_sq, flat_sq, tRg1, tRg2, gN3, gT3, gCons3, gNil3, tV3, tC3, tB3, tT3, tIx3, tCh3, tAnd3, tOr3, tNot3, tNil3, tCons3, tTup3, tLst3, tOfL, tCall3, tU3, tUL, tSl3, tNo3, tSome3, tCat3, tRep3, oEq, oNe, oLt_int, oLt_tup, oLe_int, oLe_tup, oGt_int, oGt_tup, oGe_int, oGe_tup, eqD_int, eqD_str, eqD_bl, eqD_non, eqD_tup, eqD_lst, oAdd, oSub, oMul, oDiv, oMod, oPow, oIs, oIsnt, oIn, oNotIn, inD, lookD, oIx_lst, oIx_tup, oIx_frl, oIx_sq, oIx_dT, oIx_dK, getD, oSl, oInt, oSorted, isB, tPut3, tApp3, tDicT, tDicK, tBk3, tCt3, tMin2, tMax2, tNeg3, tIf3E, tAndV3, tOrV3, tNotV3, tIsi, tIndex3, tYes3, tRaise0, tRaise1, tIsE3, tXf3, wipe3, List.set_cons_zero, List.set_cons_succ, List.getElem?_cons_zero, List.getElem?_cons_succ, List.getElem?_nil, Fl.isSt, D.flat, Fl.nb, Fl.item, cond_true, cond_false, Bool.true_or, Bool.or_true, Bool.false_or, Bool.or_false, Bool.and_true, Bool.true_and, Bool.and_false, Bool.false_and, if_true, if_false, ite_true, ite_false, Bool.false_eq_true, Bool.not_true, Bool.not_false, isNon_non, isNon_lst, isNon_tup, isNon_int, isNon_bl, isNon_str, isNon_sq, ty_ii, ty_bi, ty_tt, ty_tl, ty_ti, ty_tn, ty_lt, ty_ll, ty_ib, ty_bb, ni_int, ni_tup, ni_lst, ni_bl, ni_non, List.length_cons, List.length_nil, reduceIte, List.map_cons, List.map_nil, true_and, and_true, Nat.zero_add, Nat.reduceAdd, List.length_map, Nat.zero_le, Int.toNat_natCast]
      exact ⟨.inr ⟨by decide, by decide⟩, by decide, _, _, _, _, rfl⟩
    · rintro s' ⟨l0, l1, l3, t, rfl⟩
      try simp only [tSeq3, tNx3, tIf3, tRet3, tRetN3, tSet3, tOwn3, tAsg3, tExpr3, tFrz, frzS, tFor3_eq, tLc3_eq, tLc23_eq, tSeq3I_eq, seqK_lst, seqK_tup, seqK_frl, seqK_sq, oTup_lst, oTup_tup, oTup_sq, oList_lst, oList_tup, oList_sq, oLen_lst, oLen_tup, oLen_frl, oLen_sq, flat_sq, tRg1, tRg2, gN3, gT3, gCons3, gNil3, tV3, tC3, tB3, tT3, tIx3, tCh3, tAnd3, tOr3, tNot3, tNil3, tCons3, tTup3, tLst3, tOfL, tCall3, tU3, tUL, tSl3, tNo3, tSome3, tCat3, tRep3, oEq, oNe, oLt_int, oLt_tup, oLe_int, oLe_tup, oGt_int, oGt_tup, oGe_int, oGe_tup, eqD_int, eqD_str, eqD_bl, eqD_non, eqD_tup, eqD_lst, oAdd, oSub, oMul, oDiv, oMod, oPow, oIs, oIsnt, oIn, oNotIn, inD, lookD, oIx_lst, oIx_tup, oIx_frl, oIx_sq, oIx_dT, oIx_dK, getD, oSl, oInt, oSorted, isB, tPut3, tApp3, tDicT, tDicK, tBk3, tCt3, tMin2, tMax2, tNeg3, tIf3E, tAndV3, tOrV3, tNotV3, tIsi, tIndex3, tYes3, tRaise0, tRaise1, tIsE3, tXf3, wipe3, List.set_cons_zero, List.set_cons_succ, List.getElem?_cons_zero, List.getElem?_cons_succ, List.getElem?_nil, Fl.isSt, D.flat, Fl.nb, Fl.item, cond_true, cond_false, Bool.true_or, Bool.or_true, Bool.false_or, Bool.or_false, Bool.and_true, Bool.true_and, Bool.and_false, Bool.false_and, if_true, if_false, ite_true, ite_false, Bool.false_eq_true, Bool.not_true, Bool.not_false, isNon_non, isNon_lst, isNon_tup, isNon_int, isNon_bl, isNon_str, isNon_sq, ty_ii, ty_bi, ty_tt, ty_tl, ty_ti, ty_tn, ty_lt, ty_ll, ty_ib, ty_bb, ni_int, ni_tup, ni_lst, ni_bl, ni_non, List.length_cons, List.length_nil, reduceIte, List.map_cons, List.map_nil, true_and, and_true, Nat.zero_add, Nat.reduceAdd, List.length_map, Nat.zero_le, Int.toNat_natCast]
      exact kq t
/-! _law_draws: 0 cell, 1 base, 2 count, 3 row, 4 rest, 5 k -/
abbrev s__law_draws : Stmt := topS 23
theorem sc__law_draws : FnScope ["cell", "base", "count", "row", "rest", "k"] ["cell", "base", "count"] (defScope s__law_draws) := ⟨rfl, rfl, rfl, by decide +kernel, rfl, by decide +kernel, by decide +kernel⟩
def fs__law_draws (ex : Str → Addr) : FS := fun as q _ => ∃ (cell base : Int) (count : Nat), as = [.int cell, .int base, .int count] ∧ 0 < base ∧ base ≤ 1000 ∧ count ≤ 1000 ∧ ∀ row : List Int, row.length = count → (∀ x ∈ row, 0 ≤ x ∧ x < base) → q (.lst (intsD row))
theorem ok__law_draws {P : Program} {w : World} {K : PySem.W.Frag} {mg : Str → Option Value} {base : Heap} {ex : Str → Addr} {f : Addr} {fd : FuncData} (T : Tx P w K mg base ex)  (F : Fun K "_law_draws" "_law_draws" s__law_draws f fd) (gm : mg "_law_draws" = some (.ref f)) (bi : Binds K fd ["cell", "base", "count"] []) : Callee P w K mg base "_law_draws" 1 3 (fs__law_draws ex) := by
  refine callee_mk F gm bi (fun3 (fs__law_draws ex) F sc__law_draws ⟨_, fun cdv A outer s H E hr tk hp =>
      (ss3cons (s3own (i := 3) sc__law_draws.nd rfl (by first | exact .inl rfl | exact .inr rfl) (l3lst a3nil))
      (ss3cons (s3set (i := 4) sc__law_draws.nd rfl (by first | exact .inl rfl | exact .inr rfl) (p3op op3sub (p3v 0) (p3op op3pow p3int p3int)))
      (ss3cons (s3if (t3cmp (op3ge (deep_of hr)) (p3v 4) p3int)
        (ss3cons (s3for hp rfl (i3range1 rfl T.b_range (p3v 2)) (g3name (i := 5) sc__law_draws.nd rfl (by first | exact .inl rfl | exact .inr rfl))
          (ss3cons (s3app (i := 3) (p3op op3mod (p3t1 c3int rfl T.b_int bt_int (p3v 4)) (p3v 1)))
          (ss3one (s3set (i := 4) sc__law_draws.nd rfl (by first | exact .inl rfl | exact .inr rfl) (p3op op3div (p3v 4) (p3v 1))))))
        (ss3one (s3ret (p3v 3))))
        ss3nil)
      (ss3cons (s3set (i := 4) sc__law_draws.nd rfl (by first | exact .inl rfl | exact .inr rfl) (p3op op3mod (p3t1 c3int rfl T.b_int bt_int (p3v 0)) p3int))
      (ss3cons (s3for hp rfl (i3range1 rfl T.b_range (p3v 2)) (g3name (i := 5) sc__law_draws.nd rfl (by first | exact .inl rfl | exact .inr rfl))
        (ss3cons (s3set (i := 4) sc__law_draws.nd rfl (by first | exact .inl rfl | exact .inr rfl) (p3op op3mod (p3t1 c3int rfl T.b_int bt_int (p3op op3add (p3op op3add (p3op op3mul (p3v 4) p3int) (p3op op3mul p3int (p3v 5))) p3int)) p3int))
        (ss3one (s3app (i := 3) (p3op op3mod (p3op op3div (p3op op3mod (p3t1 c3int rfl T.b_int bt_int (p3op op3add (p3op op3mul (p3v 4) p3int) p3int)) p3int) p3int) (p3v 1))))))
      (ss3one (s3ret (p3v 3)))))))), ?_⟩)
  intro ds q z hl h
  obtain ⟨cell, base, count, rfl, hb, hb', hc, k⟩ := h
  simp only [start3, List.map_cons, List.map_nil, List.length_cons, List.length_nil, List.cons_append, List.nil_append, Nat.reduceAdd, Nat.reduceSub, Nat.zero_add, List.replicate, if_true, if_false, Bool.false_eq_true, reduceIte]
  try simp only [tSeq3, tNx3, tIf3, tRet3, tRetN3, tSet3, tOwn3, tAsg3, tExpr3, tFrz, frzS, tFor3_eq, tLc3_eq, tLc23_eq, tSeq3I_eq, seqK_lst, seqK_tup, seqK_frl, seqK_sq, oTup_lst, oTup_tup, oTup_sq, oList_lst, oList_tup, oList_sq, oLen_lst, oLen_tup, oLen_frl, oLen_sq, flat_sq, tRg1, tRg2, gN3, gT3, gCons3, gNil3, tV3, tC3, tB3, tT3, tIx3, tCh3, tAnd3, tOr3, tNot3, tNil3, tCons3, tTup3, tLst3, tOfL, tCall3, tU3, tUL, tSl3, tNo3, tSome3, tCat3, tRep3, oEq, oNe, oLt_int, oLt_tup, oLe_int, oLe_tup, oGt_int, oGt_tup, oGe_int, oGe_tup, eqD_int, eqD_str, eqD_bl, eqD_non, eqD_tup, eqD_lst, oAdd, oSub, oMul, oDiv, oMod, oPow, oIs, oIsnt, oIn, oNotIn, inD, lookD, oIx_lst, oIx_tup, oIx_frl, oIx_sq, oIx_dT, oIx_dK, getD, oSl, oInt, oSorted, isB, tPut3, tApp3, tDicT, tDicK, tBk3, tCt3, tMin2, tMax2, tNeg3, tIf3E, tAndV3, tOrV3, tNotV3, tIsi, tIndex3, tYes3, tRaise0, tRaise1, tIsE3, tXf3, wipe3, List.set_cons_zero, List.set_cons_succ, List.getElem?_cons_zero, List.getElem?_cons_succ, List.getElem?_nil, Fl.isSt, D.flat, Fl.nb, Fl.item, cond_true, cond_false, Bool.true_or, Bool.or_true, Bool.false_or, Bool.or_false, Bool.and_true, Bool.true_and, Bool.and_false, Bool.false_and, if_true, if_false, ite_true, ite_false, Bool.false_eq_true, Bool.not_true, Bool.not_false, isNon_non, isNon_lst, isNon_tup, isNon_int, isNon_bl, isNon_str, isNon_sq, ty_ii, ty_bi, ty_tt, ty_tl, ty_ti, ty_tn, ty_lt, ty_ll, ty_ib, ty_bb, ni_int, ni_tup, ni_lst, ni_bl, ni_non, List.length_cons, List.length_nil, reduceIte, List.map_cons, List.map_nil, true_and, and_true, Nat.zero_add, Nat.reduceAdd, List.length_map, Nat.zero_le, Int.toNat_natCast]
  refine ⟨⟨by decide, by decide, by decide⟩, ?_⟩
  split
  · refine ⟨by omega, ?_⟩
    refine forP_rg (fun i s => ∃ (l0 l2 l5 : Sl) (row : List Int) (rest : Int), s = [l0, .va (.int base), l2, .ow (intsD row), .va (.int rest), l5] ∧ row.length = i ∧ ∀ x ∈ row, 0 ≤ x ∧ x < base) ?_ ?_ ?_
    · exact ⟨_, _, _, [], _, rfl, rfl, fun x hx => by simp at hx⟩
    · rintro i s' hi ⟨l0, l2, l5, row, rest, rfl, hl', hr⟩
      try simp only [tSeq3, tNx3, tIf3, tRet3, tRetN3, tSet3, tOwn3, tAsg3, tExpr3, tFrz, frzS, tFor3_eq, tLc3_eq, tLc23_eq, tSeq3I_eq, seqK_lst, seqK_tup, seqK_frl, seqK_sq, oTup_lst, oTup_tup, oTup_sq, oList_lst, oList_tup, oList_sq, oLen_lst, oLen_tup, oLen_frl, oLen_sq, flat_sq, tRg1, tRg2, gN3, gT3, gCons3, gNil3, tV3, tC3, tB3, tT3, tIx3, tCh3, tAnd3, tOr3, tNot3, tNil3, tCons3, tTup3, tLst3, tOfL, tCall3, tU3, tUL, tSl3, tNo3, tSome3, tCat3, tRep3, oEq, oNe, oLt_int, oLt_tup, oLe_int, oLe_tup, oGt_int, oGt_tup, oGe_int, oGe_tup, eqD_int, eqD_str, eqD_bl, eqD_non, eqD_tup, eqD_lst, oAdd, oSub, oMul, oDiv, oMod, oPow, oIs, oIsnt, oIn, oNotIn, inD, lookD, oIx_lst, oIx_tup, oIx_frl, oIx_sq, oIx_dT, oIx_dK, getD, oSl, oInt, oSorted, isB, tPut3, tApp3, tDicT, tDicK, tBk3, tCt3, tMin2, tMax2, tNeg3, tIf3E, tAndV3, tOrV3, tNotV3, tIsi, tIndex3, tYes3, tRaise0, tRaise1, tIsE3, tXf3, wipe3, List.set_cons_zero, List.set_cons_succ, List.getElem?_cons_zero, List.getElem?_cons_succ, List.getElem?_nil, Fl.isSt, D.flat, Fl.nb, Fl.item, cond_true, cond_false, Bool.true_or, Bool.or_true, Bool.false_or, Bool.or_false, Bool.and_true, Bool.true_and, Bool.and_false, Bool.false_and, if_true, if_false, ite_true, ite_false, Bool.false_eq_true, Bool.not_true, Bool.not_false, isNon_non, isNon_lst, isNon_tup, isNon_int, isNon_bl, isNon_str, isNon_sq, ty_ii, ty_bi, ty_tt, ty_tl, ty_ti, ty_tn, ty_lt, ty_ll, ty_ib, ty_bb, ni_int, ni_tup, ni_lst, ni_bl, ni_non, List.length_cons, List.length_nil, reduceIte, List.map_cons, List.map_nil, true_and, and_true, Nat.zero_add, Nat.reduceAdd, List.length_map, Nat.zero_le, Int.toNat_natCast]
      refine ⟨hb, lt_line (by omega), ⟨hb, by omega⟩, _, _, _, row ++ [rest % base], _, by simp; exact ⟨rfl, rfl, rfl, rfl⟩, by simp; exact hl', fun x hx => ?_⟩
      rcases List.mem_append.mp hx with h | h
      · exact hr x h
      · rw [List.mem_singleton.mp h]
        exact ⟨Int.emod_nonneg _ (by omega), Int.emod_lt_of_pos _ hb⟩
    · rintro s' ⟨l0, l2, l5, row, rest, rfl, hl', hr⟩
      try simp only [tSeq3, tNx3, tIf3, tRet3, tRetN3, tSet3, tOwn3, tAsg3, tExpr3, tFrz, frzS, tFor3_eq, tLc3_eq, tLc23_eq, tSeq3I_eq, seqK_lst, seqK_tup, seqK_frl, seqK_sq, oTup_lst, oTup_tup, oTup_sq, oList_lst, oList_tup, oList_sq, oLen_lst, oLen_tup, oLen_frl, oLen_sq, flat_sq, tRg1, tRg2, gN3, gT3, gCons3, gNil3, tV3, tC3, tB3, tT3, tIx3, tCh3, tAnd3, tOr3, tNot3, tNil3, tCons3, tTup3, tLst3, tOfL, tCall3, tU3, tUL, tSl3, tNo3, tSome3, tCat3, tRep3, oEq, oNe, oLt_int, oLt_tup, oLe_int, oLe_tup, oGt_int, oGt_tup, oGe_int, oGe_tup, eqD_int, eqD_str, eqD_bl, eqD_non, eqD_tup, eqD_lst, oAdd, oSub, oMul, oDiv, oMod, oPow, oIs, oIsnt, oIn, oNotIn, inD, lookD, oIx_lst, oIx_tup, oIx_frl, oIx_sq, oIx_dT, oIx_dK, getD, oSl, oInt, oSorted, isB, tPut3, tApp3, tDicT, tDicK, tBk3, tCt3, tMin2, tMax2, tNeg3, tIf3E, tAndV3, tOrV3, tNotV3, tIsi, tIndex3, tYes3, tRaise0, tRaise1, tIsE3, tXf3, wipe3, List.set_cons_zero, List.set_cons_succ, List.getElem?_cons_zero, List.getElem?_cons_succ, List.getElem?_nil, Fl.isSt, D.flat, Fl.nb, Fl.item, cond_true, cond_false, Bool.true_or, Bool.or_true, Bool.false_or, Bool.or_false, Bool.and_true, Bool.true_and, Bool.and_false, Bool.false_and, if_true, if_false, ite_true, ite_false, Bool.false_eq_true, Bool.not_true, Bool.not_false, isNon_non, isNon_lst, isNon_tup, isNon_int, isNon_bl, isNon_str, isNon_sq, ty_ii, ty_bi, ty_tt, ty_tl, ty_ti, ty_tn, ty_lt, ty_ll, ty_ib, ty_bb, ni_int, ni_tup, ni_lst, ni_bl, ni_non, List.length_cons, List.length_nil, reduceIte, List.map_cons, List.map_nil, true_and, and_true, Nat.zero_add, Nat.reduceAdd, List.length_map, Nat.zero_le, Int.toNat_natCast]
      exact k row hl' hr
  · refine ⟨by decide, by omega, ?_⟩
    refine forP_rg (fun i s => ∃ (l0 l2 l5 : Sl) (row : List Int) (rest : Int), s = [l0, .va (.int base), l2, .ow (intsD row), .va (.int rest), l5] ∧ row.length = i ∧ ∀ x ∈ row, 0 ≤ x ∧ x < base) ?_ ?_ ?_
    · exact ⟨_, _, _, [], _, rfl, rfl, fun x hx => by simp at hx⟩
    · rintro i s' hi ⟨l0, l2, l5, row, rest, rfl, hl', hr⟩
      try simp only [tSeq3, tNx3, tIf3, tRet3, tRetN3, tSet3, tOwn3, tAsg3, tExpr3, tFrz, frzS, tFor3_eq, tLc3_eq, tLc23_eq, tSeq3I_eq, seqK_lst, seqK_tup, seqK_frl, seqK_sq, oTup_lst, oTup_tup, oTup_sq, oList_lst, oList_tup, oList_sq, oLen_lst, oLen_tup, oLen_frl, oLen_sq, flat_sq, tRg1, tRg2, gN3, gT3, gCons3, gNil3, tV3, tC3, tB3, tT3, tIx3, tCh3, tAnd3, tOr3, tNot3, tNil3, tCons3, tTup3, tLst3, tOfL, tCall3, tU3, tUL, tSl3, tNo3, tSome3, tCat3, tRep3, oEq, oNe, oLt_int, oLt_tup, oLe_int, oLe_tup, oGt_int, oGt_tup, oGe_int, oGe_tup, eqD_int, eqD_str, eqD_bl, eqD_non, eqD_tup, eqD_lst, oAdd, oSub, oMul, oDiv, oMod, oPow, oIs, oIsnt, oIn, oNotIn, inD, lookD, oIx_lst, oIx_tup, oIx_frl, oIx_sq, oIx_dT, oIx_dK, getD, oSl, oInt, oSorted, isB, tPut3, tApp3, tDicT, tDicK, tBk3, tCt3, tMin2, tMax2, tNeg3, tIf3E, tAndV3, tOrV3, tNotV3, tIsi, tIndex3, tYes3, tRaise0, tRaise1, tIsE3, tXf3, wipe3, List.set_cons_zero, List.set_cons_succ, List.getElem?_cons_zero, List.getElem?_cons_succ, List.getElem?_nil, Fl.isSt, D.flat, Fl.nb, Fl.item, cond_true, cond_false, Bool.true_or, Bool.or_true, Bool.false_or, Bool.or_false, Bool.and_true, Bool.true_and, Bool.and_false, Bool.false_and, if_true, if_false, ite_true, ite_false, Bool.false_eq_true, Bool.not_true, Bool.not_false, isNon_non, isNon_lst, isNon_tup, isNon_int, isNon_bl, isNon_str, isNon_sq, ty_ii, ty_bi, ty_tt, ty_tl, ty_ti, ty_tn, ty_lt, ty_ll, ty_ib, ty_bb, ni_int, ni_tup, ni_lst, ni_bl, ni_non, List.length_cons, List.length_nil, reduceIte, List.map_cons, List.map_nil, true_and, and_true, Nat.zero_add, Nat.reduceAdd, List.length_map, Nat.zero_le, Int.toNat_natCast]
      refine ⟨.inr ⟨by decide, by decide⟩, .inl ⟨by decide, by decide⟩, by decide, .inr ⟨by decide, by decide⟩, by decide, by decide, hb, lt_line (by omega), _, _, _, row ++ [_], _, by simp; exact ⟨rfl, rfl, rfl, rfl, rfl⟩, by simp; exact hl', fun x hx => ?_⟩
      rcases List.mem_append.mp hx with h | h
      · exact hr x h
      · rw [List.mem_singleton.mp h]
        exact ⟨Int.emod_nonneg _ (by omega), Int.emod_lt_of_pos _ hb⟩
    · rintro s' ⟨l0, l2, l5, row, rest, rfl, hl', hr⟩
      try simp only [tSeq3, tNx3, tIf3, tRet3, tRetN3, tSet3, tOwn3, tAsg3, tExpr3, tFrz, frzS, tFor3_eq, tLc3_eq, tLc23_eq, tSeq3I_eq, seqK_lst, seqK_tup, seqK_frl, seqK_sq, oTup_lst, oTup_tup, oTup_sq, oList_lst, oList_tup, oList_sq, oLen_lst, oLen_tup, oLen_frl, oLen_sq, flat_sq, tRg1, tRg2, gN3, gT3, gCons3, gNil3, tV3, tC3, tB3, tT3, tIx3, tCh3, tAnd3, tOr3, tNot3, tNil3, tCons3, tTup3, tLst3, tOfL, tCall3, tU3, tUL, tSl3, tNo3, tSome3, tCat3, tRep3, oEq, oNe, oLt_int, oLt_tup, oLe_int, oLe_tup, oGt_int, oGt_tup, oGe_int, oGe_tup, eqD_int, eqD_str, eqD_bl, eqD_non, eqD_tup, eqD_lst, oAdd, oSub, oMul, oDiv, oMod, oPow, oIs, oIsnt, oIn, oNotIn, inD, lookD, oIx_lst, oIx_tup, oIx_frl, oIx_sq, oIx_dT, oIx_dK, getD, oSl, oInt, oSorted, isB, tPut3, tApp3, tDicT, tDicK, tBk3, tCt3, tMin2, tMax2, tNeg3, tIf3E, tAndV3, tOrV3, tNotV3, tIsi, tIndex3, tYes3, tRaise0, tRaise1, tIsE3, tXf3, wipe3, List.set_cons_zero, List.set_cons_succ, List.getElem?_cons_zero, List.getElem?_cons_succ, List.getElem?_nil, Fl.isSt, D.flat, Fl.nb, Fl.item, cond_true, cond_false, Bool.true_or, Bool.or_true, Bool.false_or, Bool.or_false, Bool.and_true, Bool.true_and, Bool.and_false, Bool.false_and, if_true, if_false, ite_true, ite_false, Bool.false_eq_true, Bool.not_true, Bool.not_false, isNon_non, isNon_lst, isNon_tup, isNon_int, isNon_bl, isNon_str, isNon_sq, ty_ii, ty_bi, ty_tt, ty_tl, ty_ti, ty_tn, ty_lt, ty_ll, ty_ib, ty_bb, ni_int, ni_tup, ni_lst, ni_bl, ni_non, List.length_cons, List.length_nil, reduceIte, List.map_cons, List.map_nil, true_and, and_true, Nat.zero_add, Nat.reduceAdd, List.length_map, Nat.zero_le, Int.toNat_natCast]
      exact k row hl' hr
def kAt (i : Nat) : Nat := i * (31 - i) / 2
theorem kAt_succ : ∀ i < 15, kAt (i + 1) = kAt i + (15 - i) ∧ kAt i + (15 - i) ≤ 120 := by decide
/-! _law_free: 0 cell, 1 share, 2 draws, 3 pairs, 4 k, 5 first, 6 second -/
abbrev s__law_free : Stmt := topS 24
theorem sc__law_free : FnScope ["cell", "share", "draws", "pairs", "k", "first", "second"] ["cell", "share"] (defScope s__law_free) := ⟨rfl, rfl, rfl, by decide +kernel, rfl, by decide +kernel, by decide +kernel⟩
def fs__law_free (ex : Str → Addr) : FS := fun as q _ => ∃ (cell share : Int), as = [.int cell, .int share] ∧ ∀ ps : List (Int × Int), ps.length ≤ 120 → (∀ p ∈ ps, 0 ≤ p.1 ∧ p.1 < p.2 ∧ p.2 < 16) → q (.lst (List.map prD ps))
theorem ok__law_free {P : Program} {w : World} {K : PySem.W.Frag} {mg : Str → Option Value} {base : Heap} {ex : Str → Addr} {f : Addr} {fd : FuncData} (T : Tx P w K mg base ex) (C__law_draws : Callee P w K mg base "_law_draws" 1 3 (fs__law_draws ex)) (F : Fun K "_law_free" "_law_free" s__law_free f fd) (gm : mg "_law_free" = some (.ref f)) (bi : Binds K fd ["cell", "share"] []) : Callee P w K mg base "_law_free" 2 2 (fs__law_free ex) := by
  refine callee_mk F gm bi (fun3 (fs__law_free ex) F sc__law_free ⟨_, fun cdv A outer s H E hr tk hp =>
      (ss3cons (s3set (i := 2) sc__law_free.nd rfl (by first | exact .inl rfl | exact .inr rfl) (p3callC C__law_draws hr (by decide) tk rfl (a3cons (p3v 0) (a3cons p3int (a3cons p3int a3nil)))))
      (ss3cons (s3own (i := 3) sc__law_free.nd rfl (by first | exact .inl rfl | exact .inr rfl) (l3lst a3nil))
      (ss3cons (s3set (i := 4) sc__law_free.nd rfl (by first | exact .inl rfl | exact .inr rfl) p3int)
      (ss3cons (s3for hp rfl (i3range1 rfl T.b_range p3int) (g3name (i := 5) sc__law_free.nd rfl (by first | exact .inl rfl | exact .inr rfl))
        (ss3one (s3for hp rfl (i3range2 rfl T.b_range (p3op op3add (p3v 5) p3int) p3int) (g3name (i := 6) sc__law_free.nd rfl (by first | exact .inl rfl | exact .inr rfl))
          (ss3cons (s3if (t3cmp (op3lt (deep_of hr)) (p3ix (deep_of hr) (p3v 2) (p3v 4)) (p3v 1))
            (ss3one (s3app (i := 3) (p3tup (a3cons (p3v 5) (a3cons (p3v 6) a3nil)))))
            ss3nil)
          (ss3one (s3set (i := 4) sc__law_free.nd rfl (by first | exact .inl rfl | exact .inr rfl) (p3op op3add (p3v 4) p3int)))))))
      (ss3one (s3ret (p3v 3))))))), ?_⟩)
  intro ds q z hl h
  obtain ⟨cell, share, rfl, k⟩ := h
  simp only [start3, List.map_cons, List.map_nil, List.length_cons, List.length_nil, List.cons_append, List.nil_append, Nat.reduceAdd, Nat.reduceSub, Nat.zero_add, List.replicate, if_true, if_false, Bool.false_eq_true, reduceIte]
  try simp only [tSeq3, tNx3, tIf3, tRet3, tRetN3, tSet3, tOwn3, tAsg3, tExpr3, tFrz, frzS, tFor3_eq, tLc3_eq, tLc23_eq, tSeq3I_eq, seqK_lst, seqK_tup, seqK_frl, seqK_sq, oTup_lst, oTup_tup, oTup_sq, oList_lst, oList_tup, oList_sq, oLen_lst, oLen_tup, oLen_frl, oLen_sq, flat_sq, tRg1, tRg2, gN3, gT3, gCons3, gNil3, tV3, tC3, tB3, tT3, tIx3, tCh3, tAnd3, tOr3, tNot3, tNil3, tCons3, tTup3, tLst3, tOfL, tCall3, tU3, tUL, tSl3, tNo3, tSome3, tCat3, tRep3, oEq, oNe, oLt_int, oLt_tup, oLe_int, oLe_tup, oGt_int, oGt_tup, oGe_int, oGe_tup, eqD_int, eqD_str, eqD_bl, eqD_non, eqD_tup, eqD_lst, oAdd, oSub, oMul, oDiv, oMod, oPow, oIs, oIsnt, oIn, oNotIn, inD, lookD, oIx_lst, oIx_tup, oIx_frl, oIx_sq, oIx_dT, oIx_dK, getD, oSl, oInt, oSorted, isB, tPut3, tApp3, tDicT, tDicK, tBk3, tCt3, tMin2, tMax2, tNeg3, tIf3E, tAndV3, tOrV3, tNotV3, tIsi, tIndex3, tYes3, tRaise0, tRaise1, tIsE3, tXf3, wipe3, List.set_cons_zero, List.set_cons_succ, List.getElem?_cons_zero, List.getElem?_cons_succ, List.getElem?_nil, Fl.isSt, D.flat, Fl.nb, Fl.item, cond_true, cond_false, Bool.true_or, Bool.or_true, Bool.false_or, Bool.or_false, Bool.and_true, Bool.true_and, Bool.and_false, Bool.false_and, if_true, if_false, ite_true, ite_false, Bool.false_eq_true, Bool.not_true, Bool.not_false, isNon_non, isNon_lst, isNon_tup, isNon_int, isNon_bl, isNon_str, isNon_sq, ty_ii, ty_bi, ty_tt, ty_tl, ty_ti, ty_tn, ty_lt, ty_ll, ty_ib, ty_bb, ni_int, ni_tup, ni_lst, ni_bl, ni_non, List.length_cons, List.length_nil, reduceIte, List.map_cons, List.map_nil, true_and, and_true, Nat.zero_add, Nat.reduceAdd, List.length_map, Nat.zero_le, Int.toNat_natCast]
  refine ⟨cell, 4, 120, rfl, by decide, by decide, by decide, fun dr hd hdr => ?_⟩
  try simp only [tSeq3, tNx3, tIf3, tRet3, tRetN3, tSet3, tOwn3, tAsg3, tExpr3, tFrz, frzS, tFor3_eq, tLc3_eq, tLc23_eq, tSeq3I_eq, seqK_lst, seqK_tup, seqK_frl, seqK_sq, oTup_lst, oTup_tup, oTup_sq, oList_lst, oList_tup, oList_sq, oLen_lst, oLen_tup, oLen_frl, oLen_sq, flat_sq, tRg1, tRg2, gN3, gT3, gCons3, gNil3, tV3, tC3, tB3, tT3, tIx3, tCh3, tAnd3, tOr3, tNot3, tNil3, tCons3, tTup3, tLst3, tOfL, tCall3, tU3, tUL, tSl3, tNo3, tSome3, tCat3, tRep3, oEq, oNe, oLt_int, oLt_tup, oLe_int, oLe_tup, oGt_int, oGt_tup, oGe_int, oGe_tup, eqD_int, eqD_str, eqD_bl, eqD_non, eqD_tup, eqD_lst, oAdd, oSub, oMul, oDiv, oMod, oPow, oIs, oIsnt, oIn, oNotIn, inD, lookD, oIx_lst, oIx_tup, oIx_frl, oIx_sq, oIx_dT, oIx_dK, getD, oSl, oInt, oSorted, isB, tPut3, tApp3, tDicT, tDicK, tBk3, tCt3, tMin2, tMax2, tNeg3, tIf3E, tAndV3, tOrV3, tNotV3, tIsi, tIndex3, tYes3, tRaise0, tRaise1, tIsE3, tXf3, wipe3, List.set_cons_zero, List.set_cons_succ, List.getElem?_cons_zero, List.getElem?_cons_succ, List.getElem?_nil, Fl.isSt, D.flat, Fl.nb, Fl.item, cond_true, cond_false, Bool.true_or, Bool.or_true, Bool.false_or, Bool.or_false, Bool.and_true, Bool.true_and, Bool.and_false, Bool.false_and, if_true, if_false, ite_true, ite_false, Bool.false_eq_true, Bool.not_true, Bool.not_false, isNon_non, isNon_lst, isNon_tup, isNon_int, isNon_bl, isNon_str, isNon_sq, ty_ii, ty_bi, ty_tt, ty_tl, ty_ti, ty_tn, ty_lt, ty_ll, ty_ib, ty_bb, ni_int, ni_tup, ni_lst, ni_bl, ni_non, List.length_cons, List.length_nil, reduceIte, List.map_cons, List.map_nil, true_and, and_true, Nat.zero_add, Nat.reduceAdd, List.length_map, Nat.zero_le, Int.toNat_natCast]
  refine ⟨by decide, ?_⟩
  refine forP_rg (fun i s => ∃ (l0 l5 l6 : Sl) (ps : List (Int × Int)), s = [l0, .va (.int share), .va (.lst (intsD dr)), .ow (List.map prD ps), .va (.int (kAt i : Nat)), l5, l6] ∧ ps.length ≤ kAt i ∧ ∀ p ∈ ps, 0 ≤ p.1 ∧ p.1 < p.2 ∧ p.2 < 16) ?_ ?_ ?_
  · exact ⟨_, _, _, [], rfl, Nat.zero_le _, fun x hx => by simp at hx⟩
  · rintro i s' hi ⟨l0, l5, l6, ps, rfl, hl', hr⟩
    have hi' : i < 15 := hi
    obtain ⟨k1, k2⟩ := kAt_succ i hi'
    try simp only [tSeq3, tNx3, tIf3, tRet3, tRetN3, tSet3, tOwn3, tAsg3, tExpr3, tFrz, frzS, tFor3_eq, tLc3_eq, tLc23_eq, tSeq3I_eq, seqK_lst, seqK_tup, seqK_frl, seqK_sq, oTup_lst, oTup_tup, oTup_sq, oList_lst, oList_tup, oList_sq, oLen_lst, oLen_tup, oLen_frl, oLen_sq, flat_sq, tRg1, tRg2, gN3, gT3, gCons3, gNil3, tV3, tC3, tB3, tT3, tIx3, tCh3, tAnd3, tOr3, tNot3, tNil3, tCons3, tTup3, tLst3, tOfL, tCall3, tU3, tUL, tSl3, tNo3, tSome3, tCat3, tRep3, oEq, oNe, oLt_int, oLt_tup, oLe_int, oLe_tup, oGt_int, oGt_tup, oGe_int, oGe_tup, eqD_int, eqD_str, eqD_bl, eqD_non, eqD_tup, eqD_lst, oAdd, oSub, oMul, oDiv, oMod, oPow, oIs, oIsnt, oIn, oNotIn, inD, lookD, oIx_lst, oIx_tup, oIx_frl, oIx_sq, oIx_dT, oIx_dK, getD, oSl, oInt, oSorted, isB, tPut3, tApp3, tDicT, tDicK, tBk3, tCt3, tMin2, tMax2, tNeg3, tIf3E, tAndV3, tOrV3, tNotV3, tIsi, tIndex3, tYes3, tRaise0, tRaise1, tIsE3, tXf3, wipe3, List.set_cons_zero, List.set_cons_succ, List.getElem?_cons_zero, List.getElem?_cons_succ, List.getElem?_nil, Fl.isSt, D.flat, Fl.nb, Fl.item, cond_true, cond_false, Bool.true_or, Bool.or_true, Bool.false_or, Bool.or_false, Bool.and_true, Bool.true_and, Bool.and_false, Bool.false_and, if_true, if_false, ite_true, ite_false, Bool.false_eq_true, Bool.not_true, Bool.not_false, isNon_non, isNon_lst, isNon_tup, isNon_int, isNon_bl, isNon_str, isNon_sq, ty_ii, ty_bi, ty_tt, ty_tl, ty_ti, ty_tn, ty_lt, ty_ll, ty_ib, ty_bb, ni_int, ni_tup, ni_lst, ni_bl, ni_non, List.length_cons, List.length_nil, reduceIte, List.map_cons, List.map_nil, true_and, and_true, Nat.zero_add, Nat.reduceAdd, List.length_map, Nat.zero_le, Int.toNat_natCast]
    refine ⟨⟨by omega, by omega, by omega, by omega⟩, ?_⟩
    rw [show ((16 : Int) - (0 + (i : Nat) + 1)).toNat = 15 - i by omega]
    refine forP_rg (fun j s => ∃ (l0 l6 : Sl) (ps : List (Int × Int)), s = [l0, .va (.int share), .va (.lst (intsD dr)), .ow (List.map prD ps), .va (.int (kAt i + j : Nat)), .va (.int (0 + (i : Nat))), l6] ∧ ps.length ≤ kAt i + j ∧ ∀ p ∈ ps, 0 ≤ p.1 ∧ p.1 < p.2 ∧ p.2 < 16) ?_ ?_ ?_
    · exact ⟨_, _, ps, rfl, hl', hr⟩
    · rintro j s' hj ⟨l0, l6, ps, rfl, hl', hr⟩
      try simp only [tSeq3, tNx3, tIf3, tRet3, tRetN3, tSet3, tOwn3, tAsg3, tExpr3, tFrz, frzS, tFor3_eq, tLc3_eq, tLc23_eq, tSeq3I_eq, seqK_lst, seqK_tup, seqK_frl, seqK_sq, oTup_lst, oTup_tup, oTup_sq, oList_lst, oList_tup, oList_sq, oLen_lst, oLen_tup, oLen_frl, oLen_sq, flat_sq, tRg1, tRg2, gN3, gT3, gCons3, gNil3, tV3, tC3, tB3, tT3, tIx3, tCh3, tAnd3, tOr3, tNot3, tNil3, tCons3, tTup3, tLst3, tOfL, tCall3, tU3, tUL, tSl3, tNo3, tSome3, tCat3, tRep3, oEq, oNe, oLt_int, oLt_tup, oLe_int, oLe_tup, oGt_int, oGt_tup, oGe_int, oGe_tup, eqD_int, eqD_str, eqD_bl, eqD_non, eqD_tup, eqD_lst, oAdd, oSub, oMul, oDiv, oMod, oPow, oIs, oIsnt, oIn, oNotIn, inD, lookD, oIx_lst, oIx_tup, oIx_frl, oIx_sq, oIx_dT, oIx_dK, getD, oSl, oInt, oSorted, isB, tPut3, tApp3, tDicT, tDicK, tBk3, tCt3, tMin2, tMax2, tNeg3, tIf3E, tAndV3, tOrV3, tNotV3, tIsi, tIndex3, tYes3, tRaise0, tRaise1, tIsE3, tXf3, wipe3, List.set_cons_zero, List.set_cons_succ, List.getElem?_cons_zero, List.getElem?_cons_succ, List.getElem?_nil, Fl.isSt, D.flat, Fl.nb, Fl.item, cond_true, cond_false, Bool.true_or, Bool.or_true, Bool.false_or, Bool.or_false, Bool.and_true, Bool.true_and, Bool.and_false, Bool.false_and, if_true, if_false, ite_true, ite_false, Bool.false_eq_true, Bool.not_true, Bool.not_false, isNon_non, isNon_lst, isNon_tup, isNon_int, isNon_bl, isNon_str, isNon_sq, ty_ii, ty_bi, ty_tt, ty_tl, ty_ti, ty_tn, ty_lt, ty_ll, ty_ib, ty_bb, ni_int, ni_tup, ni_lst, ni_bl, ni_non, List.length_cons, List.length_nil, reduceIte, List.map_cons, List.map_nil, true_and, and_true, Nat.zero_add, Nat.reduceAdd, List.length_map, Nat.zero_le, Int.toNat_natCast]
      refine ⟨_, at_map (by omega), ?_⟩
      try simp only [tSeq3, tNx3, tIf3, tRet3, tRetN3, tSet3, tOwn3, tAsg3, tExpr3, tFrz, frzS, tFor3_eq, tLc3_eq, tLc23_eq, tSeq3I_eq, seqK_lst, seqK_tup, seqK_frl, seqK_sq, oTup_lst, oTup_tup, oTup_sq, oList_lst, oList_tup, oList_sq, oLen_lst, oLen_tup, oLen_frl, oLen_sq, flat_sq, tRg1, tRg2, gN3, gT3, gCons3, gNil3, tV3, tC3, tB3, tT3, tIx3, tCh3, tAnd3, tOr3, tNot3, tNil3, tCons3, tTup3, tLst3, tOfL, tCall3, tU3, tUL, tSl3, tNo3, tSome3, tCat3, tRep3, oEq, oNe, oLt_int, oLt_tup, oLe_int, oLe_tup, oGt_int, oGt_tup, oGe_int, oGe_tup, eqD_int, eqD_str, eqD_bl, eqD_non, eqD_tup, eqD_lst, oAdd, oSub, oMul, oDiv, oMod, oPow, oIs, oIsnt, oIn, oNotIn, inD, lookD, oIx_lst, oIx_tup, oIx_frl, oIx_sq, oIx_dT, oIx_dK, getD, oSl, oInt, oSorted, isB, tPut3, tApp3, tDicT, tDicK, tBk3, tCt3, tMin2, tMax2, tNeg3, tIf3E, tAndV3, tOrV3, tNotV3, tIsi, tIndex3, tYes3, tRaise0, tRaise1, tIsE3, tXf3, wipe3, List.set_cons_zero, List.set_cons_succ, List.getElem?_cons_zero, List.getElem?_cons_succ, List.getElem?_nil, Fl.isSt, D.flat, Fl.nb, Fl.item, cond_true, cond_false, Bool.true_or, Bool.or_true, Bool.false_or, Bool.or_false, Bool.and_true, Bool.true_and, Bool.and_false, Bool.false_and, if_true, if_false, ite_true, ite_false, Bool.false_eq_true, Bool.not_true, Bool.not_false, isNon_non, isNon_lst, isNon_tup, isNon_int, isNon_bl, isNon_str, isNon_sq, ty_ii, ty_bi, ty_tt, ty_tl, ty_ti, ty_tn, ty_lt, ty_ll, ty_ib, ty_bb, ni_int, ni_tup, ni_lst, ni_bl, ni_non, List.length_cons, List.length_nil, reduceIte, List.map_cons, List.map_nil, true_and, and_true, Nat.zero_add, Nat.reduceAdd, List.length_map, Nat.zero_le, Int.toNat_natCast]
      split
      · refine ⟨le_line (by decide), lt_line (by omega), l0, _, ps ++ [((0 : Int) + (i : Nat), (0 : Int) + (i : Nat) + 1 + (j : Nat))], by simp; exact ⟨by omega, rfl⟩, by simp; omega, fun p hp => ?_⟩
        rcases List.mem_append.mp hp with h | h
        · exact hr p h
        · rw [List.mem_singleton.mp h]
          try simp only [tSeq3, tNx3, tIf3, tRet3, tRetN3, tSet3, tOwn3, tAsg3, tExpr3, tFrz, frzS, tFor3_eq, tLc3_eq, tLc23_eq, tSeq3I_eq, seqK_lst, seqK_tup, seqK_frl, seqK_sq, oTup_lst, oTup_tup, oTup_sq, oList_lst, oList_tup, oList_sq, oLen_lst, oLen_tup, oLen_frl, oLen_sq, flat_sq, tRg1, tRg2, gN3, gT3, gCons3, gNil3, tV3, tC3, tB3, tT3, tIx3, tCh3, tAnd3, tOr3, tNot3, tNil3, tCons3, tTup3, tLst3, tOfL, tCall3, tU3, tUL, tSl3, tNo3, tSome3, tCat3, tRep3, oEq, oNe, oLt_int, oLt_tup, oLe_int, oLe_tup, oGt_int, oGt_tup, oGe_int, oGe_tup, eqD_int, eqD_str, eqD_bl, eqD_non, eqD_tup, eqD_lst, oAdd, oSub, oMul, oDiv, oMod, oPow, oIs, oIsnt, oIn, oNotIn, inD, lookD, oIx_lst, oIx_tup, oIx_frl, oIx_sq, oIx_dT, oIx_dK, getD, oSl, oInt, oSorted, isB, tPut3, tApp3, tDicT, tDicK, tBk3, tCt3, tMin2, tMax2, tNeg3, tIf3E, tAndV3, tOrV3, tNotV3, tIsi, tIndex3, tYes3, tRaise0, tRaise1, tIsE3, tXf3, wipe3, List.set_cons_zero, List.set_cons_succ, List.getElem?_cons_zero, List.getElem?_cons_succ, List.getElem?_nil, Fl.isSt, D.flat, Fl.nb, Fl.item, cond_true, cond_false, Bool.true_or, Bool.or_true, Bool.false_or, Bool.or_false, Bool.and_true, Bool.true_and, Bool.and_false, Bool.false_and, if_true, if_false, ite_true, ite_false, Bool.false_eq_true, Bool.not_true, Bool.not_false, isNon_non, isNon_lst, isNon_tup, isNon_int, isNon_bl, isNon_str, isNon_sq, ty_ii, ty_bi, ty_tt, ty_tl, ty_ti, ty_tn, ty_lt, ty_ll, ty_ib, ty_bb, ni_int, ni_tup, ni_lst, ni_bl, ni_non, List.length_cons, List.length_nil, reduceIte, List.map_cons, List.map_nil, true_and, and_true, Nat.zero_add, Nat.reduceAdd, List.length_map, Nat.zero_le, Int.toNat_natCast]
          omega
      · exact ⟨l0, _, ps, by simp; exact ⟨by omega, rfl⟩, by omega, hr⟩
    · rintro s' ⟨l0, l6, ps, rfl, hl', hr⟩
      refine ⟨l0, _, _, ps, by rw [k1], by rw [k1]; exact hl', hr⟩
  · rintro s' ⟨l0, l5, l6, ps, rfl, hl', hr⟩
    try simp only [tSeq3, tNx3, tIf3, tRet3, tRetN3, tSet3, tOwn3, tAsg3, tExpr3, tFrz, frzS, tFor3_eq, tLc3_eq, tLc23_eq, tSeq3I_eq, seqK_lst, seqK_tup, seqK_frl, seqK_sq, oTup_lst, oTup_tup, oTup_sq, oList_lst, oList_tup, oList_sq, oLen_lst, oLen_tup, oLen_frl, oLen_sq, flat_sq, tRg1, tRg2, gN3, gT3, gCons3, gNil3, tV3, tC3, tB3, tT3, tIx3, tCh3, tAnd3, tOr3, tNot3, tNil3, tCons3, tTup3, tLst3, tOfL, tCall3, tU3, tUL, tSl3, tNo3, tSome3, tCat3, tRep3, oEq, oNe, oLt_int, oLt_tup, oLe_int, oLe_tup, oGt_int, oGt_tup, oGe_int, oGe_tup, eqD_int, eqD_str, eqD_bl, eqD_non, eqD_tup, eqD_lst, oAdd, oSub, oMul, oDiv, oMod, oPow, oIs, oIsnt, oIn, oNotIn, inD, lookD, oIx_lst, oIx_tup, oIx_frl, oIx_sq, oIx_dT, oIx_dK, getD, oSl, oInt, oSorted, isB, tPut3, tApp3, tDicT, tDicK, tBk3, tCt3, tMin2, tMax2, tNeg3, tIf3E, tAndV3, tOrV3, tNotV3, tIsi, tIndex3, tYes3, tRaise0, tRaise1, tIsE3, tXf3, wipe3, List.set_cons_zero, List.set_cons_succ, List.getElem?_cons_zero, List.getElem?_cons_succ, List.getElem?_nil, Fl.isSt, D.flat, Fl.nb, Fl.item, cond_true, cond_false, Bool.true_or, Bool.or_true, Bool.false_or, Bool.or_false, Bool.and_true, Bool.true_and, Bool.and_false, Bool.false_and, if_true, if_false, ite_true, ite_false, Bool.false_eq_true, Bool.not_true, Bool.not_false, isNon_non, isNon_lst, isNon_tup, isNon_int, isNon_bl, isNon_str, isNon_sq, ty_ii, ty_bi, ty_tt, ty_tl, ty_ti, ty_tn, ty_lt, ty_ll, ty_ib, ty_bb, ni_int, ni_tup, ni_lst, ni_bl, ni_non, List.length_cons, List.length_nil, reduceIte, List.map_cons, List.map_nil, true_and, and_true, Nat.zero_add, Nat.reduceAdd, List.length_map, Nat.zero_le, Int.toNat_natCast]
    exact k ps hl' hr
/-! _law_table: 0 pairs, 1 table, 2 pair -/
abbrev s__law_table : Stmt := topS 25
theorem sc__law_table : FnScope ["pairs", "table", "pair"] ["pairs"] (defScope s__law_table) := ⟨rfl, rfl, rfl, by decide +kernel, rfl, by decide +kernel, by decide +kernel⟩
def fs__law_table (ex : Str → Addr) : FS := fun as q _ => ∃ ps : List (Int × Int), as = [.lst (List.map prD ps)] ∧ ps.length ≤ 1000 ∧ ∀ T : Tab, (∀ a b, inT T a b = decide ((a, b) ∈ ps)) → q (.dT T)
theorem ok__law_table {P : Program} {w : World} {K : PySem.W.Frag} {mg : Str → Option Value} {base : Heap} {ex : Str → Addr} {f : Addr} {fd : FuncData} (T : Tx P w K mg base ex)  (F : Fun K "_law_table" "_law_table" s__law_table f fd) (gm : mg "_law_table" = some (.ref f)) (bi : Binds K fd ["pairs"] []) : Callee P w K mg base "_law_table" 1 1 (fs__law_table ex) := by
  refine callee_mk F gm bi (fun3 (fs__law_table ex) F sc__law_table ⟨_, fun cdv A outer s H E hr tk hp =>
      (ss3cons (s3dicT (i := 1) sc__law_table.nd rfl (by first | exact .inl rfl | exact .inr rfl))
      (ss3cons (s3for hp rfl (i3seq (p3v 0)) (g3name (i := 2) sc__law_table.nd rfl (by first | exact .inl rfl | exact .inr rfl))
        (ss3one (s3put (i := 1) (deep_of hr) p3bl (p3v 2))))
      (ss3one (s3ret (p3v 1))))), ?_⟩)
  intro ds q z hl h
  obtain ⟨ps, rfl, hn, k⟩ := h
  simp only [start3, List.map_cons, List.map_nil, List.length_cons, List.length_nil, List.cons_append, List.nil_append, Nat.reduceAdd, Nat.reduceSub, Nat.zero_add, List.replicate, if_true, if_false, Bool.false_eq_true, reduceIte]
  try simp only [tSeq3, tNx3, tIf3, tRet3, tRetN3, tSet3, tOwn3, tAsg3, tExpr3, tFrz, frzS, tFor3_eq, tLc3_eq, tLc23_eq, tSeq3I_eq, seqK_lst, seqK_tup, seqK_frl, seqK_sq, oTup_lst, oTup_tup, oTup_sq, oList_lst, oList_tup, oList_sq, oLen_lst, oLen_tup, oLen_frl, oLen_sq, flat_sq, tRg1, tRg2, gN3, gT3, gCons3, gNil3, tV3, tC3, tB3, tT3, tIx3, tCh3, tAnd3, tOr3, tNot3, tNil3, tCons3, tTup3, tLst3, tOfL, tCall3, tU3, tUL, tSl3, tNo3, tSome3, tCat3, tRep3, oEq, oNe, oLt_int, oLt_tup, oLe_int, oLe_tup, oGt_int, oGt_tup, oGe_int, oGe_tup, eqD_int, eqD_str, eqD_bl, eqD_non, eqD_tup, eqD_lst, oAdd, oSub, oMul, oDiv, oMod, oPow, oIs, oIsnt, oIn, oNotIn, inD, lookD, oIx_lst, oIx_tup, oIx_frl, oIx_sq, oIx_dT, oIx_dK, getD, oSl, oInt, oSorted, isB, tPut3, tApp3, tDicT, tDicK, tBk3, tCt3, tMin2, tMax2, tNeg3, tIf3E, tAndV3, tOrV3, tNotV3, tIsi, tIndex3, tYes3, tRaise0, tRaise1, tIsE3, tXf3, wipe3, List.set_cons_zero, List.set_cons_succ, List.getElem?_cons_zero, List.getElem?_cons_succ, List.getElem?_nil, Fl.isSt, D.flat, Fl.nb, Fl.item, cond_true, cond_false, Bool.true_or, Bool.or_true, Bool.false_or, Bool.or_false, Bool.and_true, Bool.true_and, Bool.and_false, Bool.false_and, if_true, if_false, ite_true, ite_false, Bool.false_eq_true, Bool.not_true, Bool.not_false, isNon_non, isNon_lst, isNon_tup, isNon_int, isNon_bl, isNon_str, isNon_sq, ty_ii, ty_bi, ty_tt, ty_tl, ty_ti, ty_tn, ty_lt, ty_ll, ty_ib, ty_bb, ni_int, ni_tup, ni_lst, ni_bl, ni_non, List.length_cons, List.length_nil, reduceIte, List.map_cons, List.map_nil, true_and, and_true, Nat.zero_add, Nat.reduceAdd, List.length_map, Nat.zero_le, Int.toNat_natCast]
  refine forP_d (fun ys s => ∃ (l0 : Sl) (T : Tab) (l : Sl), s = [l0, .oT T, l] ∧ T.length ≤ ys.length ∧ ∀ a b, inT T a b = decide ((a, b) ∈ ys)) ?_ ?_ ?_
  · exact ⟨_, [], _, rfl, Nat.zero_le _, fun a b => by simp [inT, atK]⟩
  · rintro ys x rest s' e ⟨l0, T, l, rfl, hT, ht⟩
    have hlen : ys.length + 1 ≤ 1000 := by rw [e, List.length_append, List.length_cons] at hn; omega
    have h1 := puK_length T [x.1, x.2] (.bl true)
    try simp only [tSeq3, tNx3, tIf3, tRet3, tRetN3, tSet3, tOwn3, tAsg3, tExpr3, tFrz, frzS, tFor3_eq, tLc3_eq, tLc23_eq, tSeq3I_eq, seqK_lst, seqK_tup, seqK_frl, seqK_sq, oTup_lst, oTup_tup, oTup_sq, oList_lst, oList_tup, oList_sq, oLen_lst, oLen_tup, oLen_frl, oLen_sq, flat_sq, tRg1, tRg2, gN3, gT3, gCons3, gNil3, tV3, tC3, tB3, tT3, tIx3, tCh3, tAnd3, tOr3, tNot3, tNil3, tCons3, tTup3, tLst3, tOfL, tCall3, tU3, tUL, tSl3, tNo3, tSome3, tCat3, tRep3, oEq, oNe, oLt_int, oLt_tup, oLe_int, oLe_tup, oGt_int, oGt_tup, oGe_int, oGe_tup, eqD_int, eqD_str, eqD_bl, eqD_non, eqD_tup, eqD_lst, oAdd, oSub, oMul, oDiv, oMod, oPow, oIs, oIsnt, oIn, oNotIn, inD, lookD, oIx_lst, oIx_tup, oIx_frl, oIx_sq, oIx_dT, oIx_dK, getD, oSl, oInt, oSorted, isB, tPut3, tApp3, tDicT, tDicK, tBk3, tCt3, tMin2, tMax2, tNeg3, tIf3E, tAndV3, tOrV3, tNotV3, tIsi, tIndex3, tYes3, tRaise0, tRaise1, tIsE3, tXf3, wipe3, List.set_cons_zero, List.set_cons_succ, List.getElem?_cons_zero, List.getElem?_cons_succ, List.getElem?_nil, Fl.isSt, D.flat, Fl.nb, Fl.item, cond_true, cond_false, Bool.true_or, Bool.or_true, Bool.false_or, Bool.or_false, Bool.and_true, Bool.true_and, Bool.and_false, Bool.false_and, if_true, if_false, ite_true, ite_false, Bool.false_eq_true, Bool.not_true, Bool.not_false, isNon_non, isNon_lst, isNon_tup, isNon_int, isNon_bl, isNon_str, isNon_sq, ty_ii, ty_bi, ty_tt, ty_tl, ty_ti, ty_tn, ty_lt, ty_ll, ty_ib, ty_bb, ni_int, ni_tup, ni_lst, ni_bl, ni_non, List.length_cons, List.length_nil, reduceIte, List.map_cons, List.map_nil, true_and, and_true, Nat.zero_add, Nat.reduceAdd, List.length_map, Nat.zero_le, Int.toNat_natCast]
    refine ⟨[x.1, x.2], rfl, lt_line (by omega), l0, _, _, rfl, by rw [List.length_append, List.length_cons, List.length_nil]; omega, fun a b => ?_⟩
    rw [inT_puK, ht]
    obtain ⟨x1, x2⟩ := x
    rw [Bool.eq_iff_iff]
    simp only [Bool.or_eq_true, decide_eq_true_eq, List.cons.injEq, and_true, List.mem_append, List.mem_singleton, Prod.mk.injEq]
    exact or_comm
  · rintro s' ⟨l0, T, l, rfl, hT, ht⟩
    try simp only [tSeq3, tNx3, tIf3, tRet3, tRetN3, tSet3, tOwn3, tAsg3, tExpr3, tFrz, frzS, tFor3_eq, tLc3_eq, tLc23_eq, tSeq3I_eq, seqK_lst, seqK_tup, seqK_frl, seqK_sq, oTup_lst, oTup_tup, oTup_sq, oList_lst, oList_tup, oList_sq, oLen_lst, oLen_tup, oLen_frl, oLen_sq, flat_sq, tRg1, tRg2, gN3, gT3, gCons3, gNil3, tV3, tC3, tB3, tT3, tIx3, tCh3, tAnd3, tOr3, tNot3, tNil3, tCons3, tTup3, tLst3, tOfL, tCall3, tU3, tUL, tSl3, tNo3, tSome3, tCat3, tRep3, oEq, oNe, oLt_int, oLt_tup, oLe_int, oLe_tup, oGt_int, oGt_tup, oGe_int, oGe_tup, eqD_int, eqD_str, eqD_bl, eqD_non, eqD_tup, eqD_lst, oAdd, oSub, oMul, oDiv, oMod, oPow, oIs, oIsnt, oIn, oNotIn, inD, lookD, oIx_lst, oIx_tup, oIx_frl, oIx_sq, oIx_dT, oIx_dK, getD, oSl, oInt, oSorted, isB, tPut3, tApp3, tDicT, tDicK, tBk3, tCt3, tMin2, tMax2, tNeg3, tIf3E, tAndV3, tOrV3, tNotV3, tIsi, tIndex3, tYes3, tRaise0, tRaise1, tIsE3, tXf3, wipe3, List.set_cons_zero, List.set_cons_succ, List.getElem?_cons_zero, List.getElem?_cons_succ, List.getElem?_nil, Fl.isSt, D.flat, Fl.nb, Fl.item, cond_true, cond_false, Bool.true_or, Bool.or_true, Bool.false_or, Bool.or_false, Bool.and_true, Bool.true_and, Bool.and_false, Bool.false_and, if_true, if_false, ite_true, ite_false, Bool.false_eq_true, Bool.not_true, Bool.not_false, isNon_non, isNon_lst, isNon_tup, isNon_int, isNon_bl, isNon_str, isNon_sq, ty_ii, ty_bi, ty_tt, ty_tl, ty_ti, ty_tn, ty_lt, ty_ll, ty_ib, ty_bb, ni_int, ni_tup, ni_lst, ni_bl, ni_non, List.length_cons, List.length_nil, reduceIte, List.map_cons, List.map_nil, true_and, and_true, Nat.zero_add, Nat.reduceAdd, List.length_map, Nat.zero_le, Int.toNat_natCast]
    exact k T ht
def lf (T : Tab) (a b : Int) : Bool := inT T (if b < a then b else a) (if a < b then b else a)
/-! _law_is_free: 0 table, 1 one, 2 other -/
abbrev s__law_is_free : Stmt := topS 26
theorem sc__law_is_free : FnScope ["table", "one", "other"] ["table", "one", "other"] (defScope s__law_is_free) := ⟨rfl, rfl, rfl, by decide +kernel, rfl, by decide +kernel, by decide +kernel⟩
def fs__law_is_free (ex : Str → Addr) : FS := fun as q _ => ∃ T a b, as = [.dT T, .int a, .int b] ∧ q (.bl (lf T a b))
theorem ok__law_is_free {P : Program} {w : World} {K : PySem.W.Frag} {mg : Str → Option Value} {base : Heap} {ex : Str → Addr} {f : Addr} {fd : FuncData} (T : Tx P w K mg base ex)  (F : Fun K "_law_is_free" "_law_is_free" s__law_is_free f fd) (gm : mg "_law_is_free" = some (.ref f)) (bi : Binds K fd ["table", "one", "other"] []) : Callee P w K mg base "_law_is_free" 1 3 (fs__law_is_free ex) := by
  refine callee_mk F gm bi (fun3 (fs__law_is_free ex) F sc__law_is_free ⟨_, fun cdv A outer s H E hr tk hp =>
      (ss3one (s3ret (p3cmp (op3in (deep_of hr)) (p3tup (a3cons (p3min2 rfl rfl T.b_min (p3v 1) (p3v 2)) (a3cons (p3max2 rfl rfl T.b_max (p3v 1) (p3v 2)) a3nil))) (p3v 0)))), ?_⟩)
  intro ds q z hl h
  obtain ⟨T, a, b, rfl, k⟩ := h
  simp only [start3, List.map_cons, List.map_nil, List.length_cons, List.length_nil, List.cons_append, List.nil_append, Nat.reduceAdd, Nat.reduceSub, Nat.zero_add, List.replicate, if_true, if_false, Bool.false_eq_true, reduceIte]
  try simp only [tSeq3, tNx3, tIf3, tRet3, tRetN3, tSet3, tOwn3, tAsg3, tExpr3, tFrz, frzS, tFor3_eq, tLc3_eq, tLc23_eq, tSeq3I_eq, seqK_lst, seqK_tup, seqK_frl, seqK_sq, oTup_lst, oTup_tup, oTup_sq, oList_lst, oList_tup, oList_sq, oLen_lst, oLen_tup, oLen_frl, oLen_sq, flat_sq, tRg1, tRg2, gN3, gT3, gCons3, gNil3, tV3, tC3, tB3, tT3, tIx3, tCh3, tAnd3, tOr3, tNot3, tNil3, tCons3, tTup3, tLst3, tOfL, tCall3, tU3, tUL, tSl3, tNo3, tSome3, tCat3, tRep3, oEq, oNe, oLt_int, oLt_tup, oLe_int, oLe_tup, oGt_int, oGt_tup, oGe_int, oGe_tup, eqD_int, eqD_str, eqD_bl, eqD_non, eqD_tup, eqD_lst, oAdd, oSub, oMul, oDiv, oMod, oPow, oIs, oIsnt, oIn, oNotIn, inD, lookD, oIx_lst, oIx_tup, oIx_frl, oIx_sq, oIx_dT, oIx_dK, getD, oSl, oInt, oSorted, isB, tPut3, tApp3, tDicT, tDicK, tBk3, tCt3, tMin2, tMax2, tNeg3, tIf3E, tAndV3, tOrV3, tNotV3, tIsi, tIndex3, tYes3, tRaise0, tRaise1, tIsE3, tXf3, wipe3, List.set_cons_zero, List.set_cons_succ, List.getElem?_cons_zero, List.getElem?_cons_succ, List.getElem?_nil, Fl.isSt, D.flat, Fl.nb, Fl.item, cond_true, cond_false, Bool.true_or, Bool.or_true, Bool.false_or, Bool.or_false, Bool.and_true, Bool.true_and, Bool.and_false, Bool.false_and, if_true, if_false, ite_true, ite_false, Bool.false_eq_true, Bool.not_true, Bool.not_false, isNon_non, isNon_lst, isNon_tup, isNon_int, isNon_bl, isNon_str, isNon_sq, ty_ii, ty_bi, ty_tt, ty_tl, ty_ti, ty_tn, ty_lt, ty_ll, ty_ib, ty_bb, ni_int, ni_tup, ni_lst, ni_bl, ni_non, List.length_cons, List.length_nil, reduceIte, List.map_cons, List.map_nil, true_and, and_true, Nat.zero_add, Nat.reduceAdd, List.length_map, Nat.zero_le, Int.toNat_natCast]
  exact ⟨le_line (by decide), [_, _], rfl, k⟩
/-! _law_letters: 0 cell, 1 shape, 2 size, 3 many, 4 start, 5 draw -/
abbrev s__law_letters : Stmt := topS 27
theorem sc__law_letters : FnScope ["cell", "shape", "size", "many", "start", "draw"] ["cell", "shape", "size"] (defScope s__law_letters) := ⟨rfl, rfl, rfl, by decide +kernel, rfl, by decide +kernel, by decide +kernel⟩
def fs__law_letters (ex : Str → Addr) : FS := fun as q _ => ∃ (cell shape : Int) (size : Nat), as = [.int cell, .int shape, .int size] ∧ size ≤ 1000 ∧ ∀ row : List Int, row.length = size → row.all isLet = true → q (.lst (intsD row))
theorem ok__law_letters {P : Program} {w : World} {K : PySem.W.Frag} {mg : Str → Option Value} {base : Heap} {ex : Str → Addr} {f : Addr} {fd : FuncData} (T : Tx P w K mg base ex) (C__law_draws : Callee P w K mg base "_law_draws" 1 3 (fs__law_draws ex)) (F : Fun K "_law_letters" "_law_letters" s__law_letters f fd) (gm : mg "_law_letters" = some (.ref f)) (bi : Binds K fd ["cell", "shape", "size"] []) : Callee P w K mg base "_law_letters" 2 3 (fs__law_letters ex) := by
  refine callee_mk F gm bi (fun3 (fs__law_letters ex) F sc__law_letters ⟨_, fun cdv A outer s H E hr tk hp =>
      (ss3cons (s3set (i := 3) sc__law_letters.nd rfl (by first | exact .inl rfl | exact .inr rfl) (p3ix (deep_of hr) (PL3.val (l3lst (a3cons p3int (a3cons p3int (a3cons p3int (a3cons p3int a3nil)))))) (p3op op3mod (p3t1 c3int rfl T.b_int bt_int (p3v 1)) p3int)))
      (ss3cons (s3set (i := 4) sc__law_letters.nd rfl (by first | exact .inl rfl | exact .inr rfl) (p3op op3mod (p3t1 c3int rfl T.b_int bt_int (p3op op3div (p3v 1) p3int)) p3int))
      (ss3one (s3ret (PL3.val (l3lc rfl sc__law_letters.nd (blkOk_by (N := ["cell", "shape", "size", "many", "start", "draw"]) (sc := defScope s__law_letters) (own := [("draw", 5)]) (by decide +kernel)) (i3seq (p3callC C__law_draws hr (by decide) tk rfl (a3cons (p3v 0) (a3cons p3int (a3cons (p3v 2) a3nil))))) (by decide) (fun _ _ _ _ _ => (g3name (i := 5) sc__law_letters.nd rfl (by first | exact .inl rfl | exact .inr rfl))) (fun _ _ _ _ _ => ts3nil) (fun _ _ _ _ _ => (p3op op3mod (p3t1 c3int rfl T.b_int bt_int (p3op op3add (p3v 4) (p3op op3mod (p3t1 c3int rfl T.b_int bt_int (p3v 5)) (p3v 3)))) p3int)))))))), ?_⟩)
  intro ds q z hl h
  obtain ⟨cell, shape, size, rfl, hs, k⟩ := h
  simp only [start3, List.map_cons, List.map_nil, List.length_cons, List.length_nil, List.cons_append, List.nil_append, Nat.reduceAdd, Nat.reduceSub, Nat.zero_add, List.replicate, if_true, if_false, Bool.false_eq_true, reduceIte]
  try simp only [tSeq3, tNx3, tIf3, tRet3, tRetN3, tSet3, tOwn3, tAsg3, tExpr3, tFrz, frzS, tFor3_eq, tLc3_eq, tLc23_eq, tSeq3I_eq, seqK_lst, seqK_tup, seqK_frl, seqK_sq, oTup_lst, oTup_tup, oTup_sq, oList_lst, oList_tup, oList_sq, oLen_lst, oLen_tup, oLen_frl, oLen_sq, flat_sq, tRg1, tRg2, gN3, gT3, gCons3, gNil3, tV3, tC3, tB3, tT3, tIx3, tCh3, tAnd3, tOr3, tNot3, tNil3, tCons3, tTup3, tLst3, tOfL, tCall3, tU3, tUL, tSl3, tNo3, tSome3, tCat3, tRep3, oEq, oNe, oLt_int, oLt_tup, oLe_int, oLe_tup, oGt_int, oGt_tup, oGe_int, oGe_tup, eqD_int, eqD_str, eqD_bl, eqD_non, eqD_tup, eqD_lst, oAdd, oSub, oMul, oDiv, oMod, oPow, oIs, oIsnt, oIn, oNotIn, inD, lookD, oIx_lst, oIx_tup, oIx_frl, oIx_sq, oIx_dT, oIx_dK, getD, oSl, oInt, oSorted, isB, tPut3, tApp3, tDicT, tDicK, tBk3, tCt3, tMin2, tMax2, tNeg3, tIf3E, tAndV3, tOrV3, tNotV3, tIsi, tIndex3, tYes3, tRaise0, tRaise1, tIsE3, tXf3, wipe3, List.set_cons_zero, List.set_cons_succ, List.getElem?_cons_zero, List.getElem?_cons_succ, List.getElem?_nil, Fl.isSt, D.flat, Fl.nb, Fl.item, cond_true, cond_false, Bool.true_or, Bool.or_true, Bool.false_or, Bool.or_false, Bool.and_true, Bool.true_and, Bool.and_false, Bool.false_and, if_true, if_false, ite_true, ite_false, Bool.false_eq_true, Bool.not_true, Bool.not_false, isNon_non, isNon_lst, isNon_tup, isNon_int, isNon_bl, isNon_str, isNon_sq, ty_ii, ty_bi, ty_tt, ty_tl, ty_ti, ty_tn, ty_lt, ty_ll, ty_ib, ty_bb, ni_int, ni_tup, ni_lst, ni_bl, ni_non, List.length_cons, List.length_nil, reduceIte, List.map_cons, List.map_nil, true_and, and_true, Nat.zero_add, Nat.reduceAdd, List.length_map, Nat.zero_le, Int.toNat_natCast]
  refine ⟨le_line (by decide), by decide, ?_⟩
  have many : ∃ m : Int, 0 < m ∧ atI [D.int 2, D.int 4, D.int 6, D.int 16] (shape % 4) = some (.int m) := by
    have h : shape % 4 = 0 ∨ shape % 4 = 1 ∨ shape % 4 = 2 ∨ shape % 4 = 3 := by omega
    rcases h with h | h | h | h <;> rw [h]
    · exact ⟨2, by decide, rfl⟩
    · exact ⟨4, by decide, rfl⟩
    · exact ⟨6, by decide, rfl⟩
    · exact ⟨16, by decide, rfl⟩
  obtain ⟨m, hm, em⟩ := many
  refine ⟨_, em, ?_⟩
  try simp only [tSeq3, tNx3, tIf3, tRet3, tRetN3, tSet3, tOwn3, tAsg3, tExpr3, tFrz, frzS, tFor3_eq, tLc3_eq, tLc23_eq, tSeq3I_eq, seqK_lst, seqK_tup, seqK_frl, seqK_sq, oTup_lst, oTup_tup, oTup_sq, oList_lst, oList_tup, oList_sq, oLen_lst, oLen_tup, oLen_frl, oLen_sq, flat_sq, tRg1, tRg2, gN3, gT3, gCons3, gNil3, tV3, tC3, tB3, tT3, tIx3, tCh3, tAnd3, tOr3, tNot3, tNil3, tCons3, tTup3, tLst3, tOfL, tCall3, tU3, tUL, tSl3, tNo3, tSome3, tCat3, tRep3, oEq, oNe, oLt_int, oLt_tup, oLe_int, oLe_tup, oGt_int, oGt_tup, oGe_int, oGe_tup, eqD_int, eqD_str, eqD_bl, eqD_non, eqD_tup, eqD_lst, oAdd, oSub, oMul, oDiv, oMod, oPow, oIs, oIsnt, oIn, oNotIn, inD, lookD, oIx_lst, oIx_tup, oIx_frl, oIx_sq, oIx_dT, oIx_dK, getD, oSl, oInt, oSorted, isB, tPut3, tApp3, tDicT, tDicK, tBk3, tCt3, tMin2, tMax2, tNeg3, tIf3E, tAndV3, tOrV3, tNotV3, tIsi, tIndex3, tYes3, tRaise0, tRaise1, tIsE3, tXf3, wipe3, List.set_cons_zero, List.set_cons_succ, List.getElem?_cons_zero, List.getElem?_cons_succ, List.getElem?_nil, Fl.isSt, D.flat, Fl.nb, Fl.item, cond_true, cond_false, Bool.true_or, Bool.or_true, Bool.false_or, Bool.or_false, Bool.and_true, Bool.true_and, Bool.and_false, Bool.false_and, if_true, if_false, ite_true, ite_false, Bool.false_eq_true, Bool.not_true, Bool.not_false, isNon_non, isNon_lst, isNon_tup, isNon_int, isNon_bl, isNon_str, isNon_sq, ty_ii, ty_bi, ty_tt, ty_tl, ty_ti, ty_tn, ty_lt, ty_ll, ty_ib, ty_bb, ni_int, ni_tup, ni_lst, ni_bl, ni_non, List.length_cons, List.length_nil, reduceIte, List.map_cons, List.map_nil, true_and, and_true, Nat.zero_add, Nat.reduceAdd, List.length_map, Nat.zero_le, Int.toNat_natCast]
  refine ⟨by decide, by decide, cell, 16, size, rfl, by decide, by decide, hs, fun dr hd hdr => ?_⟩
  try simp only [tSeq3, tNx3, tIf3, tRet3, tRetN3, tSet3, tOwn3, tAsg3, tExpr3, tFrz, frzS, tFor3_eq, tLc3_eq, tLc23_eq, tSeq3I_eq, seqK_lst, seqK_tup, seqK_frl, seqK_sq, oTup_lst, oTup_tup, oTup_sq, oList_lst, oList_tup, oList_sq, oLen_lst, oLen_tup, oLen_frl, oLen_sq, flat_sq, tRg1, tRg2, gN3, gT3, gCons3, gNil3, tV3, tC3, tB3, tT3, tIx3, tCh3, tAnd3, tOr3, tNot3, tNil3, tCons3, tTup3, tLst3, tOfL, tCall3, tU3, tUL, tSl3, tNo3, tSome3, tCat3, tRep3, oEq, oNe, oLt_int, oLt_tup, oLe_int, oLe_tup, oGt_int, oGt_tup, oGe_int, oGe_tup, eqD_int, eqD_str, eqD_bl, eqD_non, eqD_tup, eqD_lst, oAdd, oSub, oMul, oDiv, oMod, oPow, oIs, oIsnt, oIn, oNotIn, inD, lookD, oIx_lst, oIx_tup, oIx_frl, oIx_sq, oIx_dT, oIx_dK, getD, oSl, oInt, oSorted, isB, tPut3, tApp3, tDicT, tDicK, tBk3, tCt3, tMin2, tMax2, tNeg3, tIf3E, tAndV3, tOrV3, tNotV3, tIsi, tIndex3, tYes3, tRaise0, tRaise1, tIsE3, tXf3, wipe3, List.set_cons_zero, List.set_cons_succ, List.getElem?_cons_zero, List.getElem?_cons_succ, List.getElem?_nil, Fl.isSt, D.flat, Fl.nb, Fl.item, cond_true, cond_false, Bool.true_or, Bool.or_true, Bool.false_or, Bool.or_false, Bool.and_true, Bool.true_and, Bool.and_false, Bool.false_and, if_true, if_false, ite_true, ite_false, Bool.false_eq_true, Bool.not_true, Bool.not_false, isNon_non, isNon_lst, isNon_tup, isNon_int, isNon_bl, isNon_str, isNon_sq, ty_ii, ty_bi, ty_tt, ty_tl, ty_ti, ty_tn, ty_lt, ty_ll, ty_ib, ty_bb, ni_int, ni_tup, ni_lst, ni_bl, ni_non, List.length_cons, List.length_nil, reduceIte, List.map_cons, List.map_nil, true_and, and_true, Nat.zero_add, Nat.reduceAdd, List.length_map, Nat.zero_le, Int.toNat_natCast]
  refine lcP_all (fun x => .int ((shape / 4 % 16 + x % m) % 16)) (le_line (by omega)) (fun x hx Z hZ => ?_) ?_
  · try simp only [tSeq3, tNx3, tIf3, tRet3, tRetN3, tSet3, tOwn3, tAsg3, tExpr3, tFrz, frzS, tFor3_eq, tLc3_eq, tLc23_eq, tSeq3I_eq, seqK_lst, seqK_tup, seqK_frl, seqK_sq, oTup_lst, oTup_tup, oTup_sq, oList_lst, oList_tup, oList_sq, oLen_lst, oLen_tup, oLen_frl, oLen_sq, flat_sq, tRg1, tRg2, gN3, gT3, gCons3, gNil3, tV3, tC3, tB3, tT3, tIx3, tCh3, tAnd3, tOr3, tNot3, tNil3, tCons3, tTup3, tLst3, tOfL, tCall3, tU3, tUL, tSl3, tNo3, tSome3, tCat3, tRep3, oEq, oNe, oLt_int, oLt_tup, oLe_int, oLe_tup, oGt_int, oGt_tup, oGe_int, oGe_tup, eqD_int, eqD_str, eqD_bl, eqD_non, eqD_tup, eqD_lst, oAdd, oSub, oMul, oDiv, oMod, oPow, oIs, oIsnt, oIn, oNotIn, inD, lookD, oIx_lst, oIx_tup, oIx_frl, oIx_sq, oIx_dT, oIx_dK, getD, oSl, oInt, oSorted, isB, tPut3, tApp3, tDicT, tDicK, tBk3, tCt3, tMin2, tMax2, tNeg3, tIf3E, tAndV3, tOrV3, tNotV3, tIsi, tIndex3, tYes3, tRaise0, tRaise1, tIsE3, tXf3, wipe3, List.set_cons_zero, List.set_cons_succ, List.getElem?_cons_zero, List.getElem?_cons_succ, List.getElem?_nil, Fl.isSt, D.flat, Fl.nb, Fl.item, cond_true, cond_false, Bool.true_or, Bool.or_true, Bool.false_or, Bool.or_false, Bool.and_true, Bool.true_and, Bool.and_false, Bool.false_and, if_true, if_false, ite_true, ite_false, Bool.false_eq_true, Bool.not_true, Bool.not_false, isNon_non, isNon_lst, isNon_tup, isNon_int, isNon_bl, isNon_str, isNon_sq, ty_ii, ty_bi, ty_tt, ty_tl, ty_ti, ty_tn, ty_lt, ty_ll, ty_ib, ty_bb, ni_int, ni_tup, ni_lst, ni_bl, ni_non, List.length_cons, List.length_nil, reduceIte, List.map_cons, List.map_nil, true_and, and_true, Nat.zero_add, Nat.reduceAdd, List.length_map, Nat.zero_le, Int.toNat_natCast]
    exact ⟨hm, by decide, hZ _ rfl⟩
  · have e : List.map (fun x => D.int ((shape / 4 % 16 + x % m) % 16)) dr = intsD (dr.map fun x => (shape / 4 % 16 + x % m) % 16) := by
      show _ = List.map D.int (List.map _ dr)
      rw [List.map_map]
      rfl
    rw [e]
    refine k _ (by rw [List.length_map]; exact hd) (List.all_eq_true.mpr fun x hx => ?_)
    obtain ⟨y, _, rfl⟩ := List.mem_map.mp hx
    simp only [isLet, Bool.and_eq_true, decide_eq_true_eq]
    omega
/-! _law_stranger: 0 cell -/
abbrev s__law_stranger : Stmt := topS 28
theorem sc__law_stranger : FnScope ["cell"] ["cell"] (defScope s__law_stranger) := ⟨rfl, rfl, rfl, by decide +kernel, rfl, by decide +kernel, by decide +kernel⟩
def fs__law_stranger (ex : Str → Addr) : FS := fun as q _ => ∃ cell : Int, as = [.int cell] ∧ ∀ v, isLet v = false → q (.int v)
theorem ok__law_stranger {P : Program} {w : World} {K : PySem.W.Frag} {mg : Str → Option Value} {base : Heap} {ex : Str → Addr} {f : Addr} {fd : FuncData} (T : Tx P w K mg base ex)  (F : Fun K "_law_stranger" "_law_stranger" s__law_stranger f fd) (gm : mg "_law_stranger" = some (.ref f)) (bi : Binds K fd ["cell"] []) : Callee P w K mg base "_law_stranger" 1 1 (fs__law_stranger ex) := by
  refine callee_mk F gm bi (fun3 (fs__law_stranger ex) F sc__law_stranger ⟨_, fun cdv A outer s H E hr tk hp =>
      (ss3cons (s3if (t3cmp (op3eq (deep_of hr)) (p3op op3mod (p3t1 c3int rfl T.b_int bt_int (p3v 0)) p3int) p3int)
        (ss3one (s3ret p3int))
        ss3nil)
      (ss3cons (s3if (t3cmp (op3eq (deep_of hr)) (p3op op3mod (p3t1 c3int rfl T.b_int bt_int (p3v 0)) p3int) p3int)
        (ss3one (s3ret (p3neg p3int)))
        ss3nil)
      (ss3cons (s3if (t3cmp (op3lt (deep_of hr)) (p3v 0) p3int)
        (ss3one (s3ret (p3v 0)))
        ss3nil)
      (ss3one (s3ret (p3op op3add p3int (p3v 0))))))), ?_⟩)
  intro ds q z hl h
  obtain ⟨cell, rfl, k⟩ := h
  simp only [start3, List.map_cons, List.map_nil, List.length_cons, List.length_nil, List.cons_append, List.nil_append, Nat.reduceAdd, Nat.reduceSub, Nat.zero_add, List.replicate, if_true, if_false, Bool.false_eq_true, reduceIte]
  try simp only [tSeq3, tNx3, tIf3, tRet3, tRetN3, tSet3, tOwn3, tAsg3, tExpr3, tFrz, frzS, tFor3_eq, tLc3_eq, tLc23_eq, tSeq3I_eq, seqK_lst, seqK_tup, seqK_frl, seqK_sq, oTup_lst, oTup_tup, oTup_sq, oList_lst, oList_tup, oList_sq, oLen_lst, oLen_tup, oLen_frl, oLen_sq, flat_sq, tRg1, tRg2, gN3, gT3, gCons3, gNil3, tV3, tC3, tB3, tT3, tIx3, tCh3, tAnd3, tOr3, tNot3, tNil3, tCons3, tTup3, tLst3, tOfL, tCall3, tU3, tUL, tSl3, tNo3, tSome3, tCat3, tRep3, oEq, oNe, oLt_int, oLt_tup, oLe_int, oLe_tup, oGt_int, oGt_tup, oGe_int, oGe_tup, eqD_int, eqD_str, eqD_bl, eqD_non, eqD_tup, eqD_lst, oAdd, oSub, oMul, oDiv, oMod, oPow, oIs, oIsnt, oIn, oNotIn, inD, lookD, oIx_lst, oIx_tup, oIx_frl, oIx_sq, oIx_dT, oIx_dK, getD, oSl, oInt, oSorted, isB, tPut3, tApp3, tDicT, tDicK, tBk3, tCt3, tMin2, tMax2, tNeg3, tIf3E, tAndV3, tOrV3, tNotV3, tIsi, tIndex3, tYes3, tRaise0, tRaise1, tIsE3, tXf3, wipe3, List.set_cons_zero, List.set_cons_succ, List.getElem?_cons_zero, List.getElem?_cons_succ, List.getElem?_nil, Fl.isSt, D.flat, Fl.nb, Fl.item, cond_true, cond_false, Bool.true_or, Bool.or_true, Bool.false_or, Bool.or_false, Bool.and_true, Bool.true_and, Bool.and_false, Bool.false_and, if_true, if_false, ite_true, ite_false, Bool.false_eq_true, Bool.not_true, Bool.not_false, isNon_non, isNon_lst, isNon_tup, isNon_int, isNon_bl, isNon_str, isNon_sq, ty_ii, ty_bi, ty_tt, ty_tl, ty_ti, ty_tn, ty_lt, ty_ll, ty_ib, ty_bb, ni_int, ni_tup, ni_lst, ni_bl, ni_non, List.length_cons, List.length_nil, reduceIte, List.map_cons, List.map_nil, true_and, and_true, Nat.zero_add, Nat.reduceAdd, List.length_map, Nat.zero_le, Int.toNat_natCast]
  refine ⟨by decide, ?_⟩
  split
  · exact k 16 rfl
  · refine ⟨by decide, ?_⟩
    split
    · exact k (-1) rfl
    · split
      · rename_i h
        exact k cell (by simp only [isLet]; simp at h; simp; omega)
      · rename_i h
        exact k (16 + cell) (by simp only [isLet]; simp at h; simp; omega)
def optD : Option (List Int) → D
  | none => .non
  | some l => .lst (intsD l)
/-! _law_taken: 0 table, 1 row, 2 letter, 3 place -/
abbrev s__law_taken : Stmt := topS 29
theorem sc__law_taken : FnScope ["table", "row", "letter", "place"] ["table", "row", "letter"] (defScope s__law_taken) := ⟨rfl, rfl, rfl, by decide +kernel, rfl, by decide +kernel, by decide +kernel⟩
def fs__law_taken (ex : Str → Addr) : FS := fun as q _ => ∃ T row x, as = [.dT T, .lst (intsD row), .int x] ∧ row.length ≤ 1000 ∧ q (optD (taken (lf T) row x))
theorem ok__law_taken {P : Program} {w : World} {K : PySem.W.Frag} {mg : Str → Option Value} {base : Heap} {ex : Str → Addr} {f : Addr} {fd : FuncData} (T : Tx P w K mg base ex) (C__law_is_free : Callee P w K mg base "_law_is_free" 1 3 (fs__law_is_free ex)) (F : Fun K "_law_taken" "_law_taken" s__law_taken f fd) (gm : mg "_law_taken" = some (.ref f)) (bi : Binds K fd ["table", "row", "letter"] []) : Callee P w K mg base "_law_taken" 2 3 (fs__law_taken ex) := by
  refine callee_mk F gm bi (fun3 (fs__law_taken ex) F sc__law_taken ⟨_, fun cdv A outer s H E hr tk hp =>
      (ss3cons (s3for hp rfl (i3range1 rfl T.b_range (p3b1 c3len rfl T.b_len bt_len (p3v 1))) (g3name (i := 3) sc__law_taken.nd rfl (by first | exact .inl rfl | exact .inr rfl))
        (ss3cons (s3if (t3cmp (op3eq (deep_of hr)) (p3ix (deep_of hr) (p3v 1) (p3v 3)) (p3v 2))
          (ss3one (s3ret (p3op op3add (p3sl (p3v 1) o3none (o3some (p3v 3))) (p3sl (p3v 1) (o3some (p3op op3add (p3v 3) p3int)) o3none))))
          ss3nil)
        (ss3one (s3if (t3not (t3val (p3callC C__law_is_free hr (by decide) tk rfl (a3cons (p3v 0) (a3cons (p3ix (deep_of hr) (p3v 1) (p3v 3)) (a3cons (p3v 2) a3nil))))))
          (ss3one (s3ret p3non))
          ss3nil))))
      (ss3one (s3ret p3non))), ?_⟩)
  intro ds q z hl h
  obtain ⟨T, row, x, rfl, hz, k⟩ := h
  simp only [start3, List.map_cons, List.map_nil, List.length_cons, List.length_nil, List.cons_append, List.nil_append, Nat.reduceAdd, Nat.reduceSub, Nat.zero_add, List.replicate, if_true, if_false, Bool.false_eq_true, reduceIte]
  try simp only [tSeq3, tNx3, tIf3, tRet3, tRetN3, tSet3, tOwn3, tAsg3, tExpr3, tFrz, frzS, tFor3_eq, tLc3_eq, tLc23_eq, tSeq3I_eq, seqK_lst, seqK_tup, seqK_frl, seqK_sq, oTup_lst, oTup_tup, oTup_sq, oList_lst, oList_tup, oList_sq, oLen_lst, oLen_tup, oLen_frl, oLen_sq, flat_sq, tRg1, tRg2, gN3, gT3, gCons3, gNil3, tV3, tC3, tB3, tT3, tIx3, tCh3, tAnd3, tOr3, tNot3, tNil3, tCons3, tTup3, tLst3, tOfL, tCall3, tU3, tUL, tSl3, tNo3, tSome3, tCat3, tRep3, oEq, oNe, oLt_int, oLt_tup, oLe_int, oLe_tup, oGt_int, oGt_tup, oGe_int, oGe_tup, eqD_int, eqD_str, eqD_bl, eqD_non, eqD_tup, eqD_lst, oAdd, oSub, oMul, oDiv, oMod, oPow, oIs, oIsnt, oIn, oNotIn, inD, lookD, oIx_lst, oIx_tup, oIx_frl, oIx_sq, oIx_dT, oIx_dK, getD, oSl, oInt, oSorted, isB, tPut3, tApp3, tDicT, tDicK, tBk3, tCt3, tMin2, tMax2, tNeg3, tIf3E, tAndV3, tOrV3, tNotV3, tIsi, tIndex3, tYes3, tRaise0, tRaise1, tIsE3, tXf3, wipe3, List.set_cons_zero, List.set_cons_succ, List.getElem?_cons_zero, List.getElem?_cons_succ, List.getElem?_nil, Fl.isSt, D.flat, Fl.nb, Fl.item, cond_true, cond_false, Bool.true_or, Bool.or_true, Bool.false_or, Bool.or_false, Bool.and_true, Bool.true_and, Bool.and_false, Bool.false_and, if_true, if_false, ite_true, ite_false, Bool.false_eq_true, Bool.not_true, Bool.not_false, isNon_non, isNon_lst, isNon_tup, isNon_int, isNon_bl, isNon_str, isNon_sq, ty_ii, ty_bi, ty_tt, ty_tl, ty_ti, ty_tn, ty_lt, ty_ll, ty_ib, ty_bb, ni_int, ni_tup, ni_lst, ni_bl, ni_non, List.length_cons, List.length_nil, reduceIte, List.map_cons, List.map_nil, true_and, and_true, Nat.zero_add, Nat.reduceAdd, List.length_map, Nat.zero_le, Int.toNat_natCast]
  refine ⟨by omega, ?_⟩
  refine forP_rg (fun i s => ∃ (l : Sl), s = [.va (.dT T), .va (.lst (intsD row)), .va (.int x), l] ∧ taken (lf T) row x = (taken (lf T) (row.drop i) x).map (row.take i ++ ·)) ?_ ?_ ?_
  · exact ⟨_, rfl, by simp⟩
  · rintro i s' hi ⟨l, rfl, he⟩
    have ed : row.drop i = row[i] :: row.drop (i + 1) := (List.getElem_cons_drop hi).symm
    rw [ed, taken] at he
    try simp only [tSeq3, tNx3, tIf3, tRet3, tRetN3, tSet3, tOwn3, tAsg3, tExpr3, tFrz, frzS, tFor3_eq, tLc3_eq, tLc23_eq, tSeq3I_eq, seqK_lst, seqK_tup, seqK_frl, seqK_sq, oTup_lst, oTup_tup, oTup_sq, oList_lst, oList_tup, oList_sq, oLen_lst, oLen_tup, oLen_frl, oLen_sq, flat_sq, tRg1, tRg2, gN3, gT3, gCons3, gNil3, tV3, tC3, tB3, tT3, tIx3, tCh3, tAnd3, tOr3, tNot3, tNil3, tCons3, tTup3, tLst3, tOfL, tCall3, tU3, tUL, tSl3, tNo3, tSome3, tCat3, tRep3, oEq, oNe, oLt_int, oLt_tup, oLe_int, oLe_tup, oGt_int, oGt_tup, oGe_int, oGe_tup, eqD_int, eqD_str, eqD_bl, eqD_non, eqD_tup, eqD_lst, oAdd, oSub, oMul, oDiv, oMod, oPow, oIs, oIsnt, oIn, oNotIn, inD, lookD, oIx_lst, oIx_tup, oIx_frl, oIx_sq, oIx_dT, oIx_dK, getD, oSl, oInt, oSorted, isB, tPut3, tApp3, tDicT, tDicK, tBk3, tCt3, tMin2, tMax2, tNeg3, tIf3E, tAndV3, tOrV3, tNotV3, tIsi, tIndex3, tYes3, tRaise0, tRaise1, tIsE3, tXf3, wipe3, List.set_cons_zero, List.set_cons_succ, List.getElem?_cons_zero, List.getElem?_cons_succ, List.getElem?_nil, Fl.isSt, D.flat, Fl.nb, Fl.item, cond_true, cond_false, Bool.true_or, Bool.or_true, Bool.false_or, Bool.or_false, Bool.and_true, Bool.true_and, Bool.and_false, Bool.false_and, if_true, if_false, ite_true, ite_false, Bool.false_eq_true, Bool.not_true, Bool.not_false, isNon_non, isNon_lst, isNon_tup, isNon_int, isNon_bl, isNon_str, isNon_sq, ty_ii, ty_bi, ty_tt, ty_tl, ty_ti, ty_tn, ty_lt, ty_ll, ty_ib, ty_bb, ni_int, ni_tup, ni_lst, ni_bl, ni_non, List.length_cons, List.length_nil, reduceIte, List.map_cons, List.map_nil, true_and, and_true, Nat.zero_add, Nat.reduceAdd, List.length_map, Nat.zero_le, Int.toNat_natCast]
    rw [Int.zero_add]
    refine ⟨_, at_map hi, ?_⟩
    try simp only [tSeq3, tNx3, tIf3, tRet3, tRetN3, tSet3, tOwn3, tAsg3, tExpr3, tFrz, frzS, tFor3_eq, tLc3_eq, tLc23_eq, tSeq3I_eq, seqK_lst, seqK_tup, seqK_frl, seqK_sq, oTup_lst, oTup_tup, oTup_sq, oList_lst, oList_tup, oList_sq, oLen_lst, oLen_tup, oLen_frl, oLen_sq, flat_sq, tRg1, tRg2, gN3, gT3, gCons3, gNil3, tV3, tC3, tB3, tT3, tIx3, tCh3, tAnd3, tOr3, tNot3, tNil3, tCons3, tTup3, tLst3, tOfL, tCall3, tU3, tUL, tSl3, tNo3, tSome3, tCat3, tRep3, oEq, oNe, oLt_int, oLt_tup, oLe_int, oLe_tup, oGt_int, oGt_tup, oGe_int, oGe_tup, eqD_int, eqD_str, eqD_bl, eqD_non, eqD_tup, eqD_lst, oAdd, oSub, oMul, oDiv, oMod, oPow, oIs, oIsnt, oIn, oNotIn, inD, lookD, oIx_lst, oIx_tup, oIx_frl, oIx_sq, oIx_dT, oIx_dK, getD, oSl, oInt, oSorted, isB, tPut3, tApp3, tDicT, tDicK, tBk3, tCt3, tMin2, tMax2, tNeg3, tIf3E, tAndV3, tOrV3, tNotV3, tIsi, tIndex3, tYes3, tRaise0, tRaise1, tIsE3, tXf3, wipe3, List.set_cons_zero, List.set_cons_succ, List.getElem?_cons_zero, List.getElem?_cons_succ, List.getElem?_nil, Fl.isSt, D.flat, Fl.nb, Fl.item, cond_true, cond_false, Bool.true_or, Bool.or_true, Bool.false_or, Bool.or_false, Bool.and_true, Bool.true_and, Bool.and_false, Bool.false_and, if_true, if_false, ite_true, ite_false, Bool.false_eq_true, Bool.not_true, Bool.not_false, isNon_non, isNon_lst, isNon_tup, isNon_int, isNon_bl, isNon_str, isNon_sq, ty_ii, ty_bi, ty_tt, ty_tl, ty_ti, ty_tn, ty_lt, ty_ll, ty_ib, ty_bb, ni_int, ni_tup, ni_lst, ni_bl, ni_non, List.length_cons, List.length_nil, reduceIte, List.map_cons, List.map_nil, true_and, and_true, Nat.zero_add, Nat.reduceAdd, List.length_map, Nat.zero_le, Int.toNat_natCast]
    by_cases h1 : row[i] = x
    · rw [if_pos h1] at he
      rw [if_pos (by simpa using h1)]
      have e : cutD (intsD row) none (some (i : Int)) ++ cutD (intsD row) (some ((i : Int) + 1)) none = intsD (row.take i ++ row.drop (i + 1)) := by
        rw [show ((i : Int) + 1) = ((i + 1 : Nat) : Int) from rfl, cutD_none_nat, cutD_nat_none, ← List.map_take, ← List.map_drop, ← List.map_append]
      refine ⟨?_, ?_⟩
      · rw [← List.length_append, e, List.length_map]
        simp only [List.length_append, List.length_take, List.length_drop]
        exact le_line (by omega)
      · rw [e]
        rw [he] at k
        exact k
    · rw [if_neg h1] at he
      rw [if_neg (by simpa using h1)]
      refine ⟨_, at_map hi, T, row[i], x, rfl, ?_⟩
      try simp only [tSeq3, tNx3, tIf3, tRet3, tRetN3, tSet3, tOwn3, tAsg3, tExpr3, tFrz, frzS, tFor3_eq, tLc3_eq, tLc23_eq, tSeq3I_eq, seqK_lst, seqK_tup, seqK_frl, seqK_sq, oTup_lst, oTup_tup, oTup_sq, oList_lst, oList_tup, oList_sq, oLen_lst, oLen_tup, oLen_frl, oLen_sq, flat_sq, tRg1, tRg2, gN3, gT3, gCons3, gNil3, tV3, tC3, tB3, tT3, tIx3, tCh3, tAnd3, tOr3, tNot3, tNil3, tCons3, tTup3, tLst3, tOfL, tCall3, tU3, tUL, tSl3, tNo3, tSome3, tCat3, tRep3, oEq, oNe, oLt_int, oLt_tup, oLe_int, oLe_tup, oGt_int, oGt_tup, oGe_int, oGe_tup, eqD_int, eqD_str, eqD_bl, eqD_non, eqD_tup, eqD_lst, oAdd, oSub, oMul, oDiv, oMod, oPow, oIs, oIsnt, oIn, oNotIn, inD, lookD, oIx_lst, oIx_tup, oIx_frl, oIx_sq, oIx_dT, oIx_dK, getD, oSl, oInt, oSorted, isB, tPut3, tApp3, tDicT, tDicK, tBk3, tCt3, tMin2, tMax2, tNeg3, tIf3E, tAndV3, tOrV3, tNotV3, tIsi, tIndex3, tYes3, tRaise0, tRaise1, tIsE3, tXf3, wipe3, List.set_cons_zero, List.set_cons_succ, List.getElem?_cons_zero, List.getElem?_cons_succ, List.getElem?_nil, Fl.isSt, D.flat, Fl.nb, Fl.item, cond_true, cond_false, Bool.true_or, Bool.or_true, Bool.false_or, Bool.or_false, Bool.and_true, Bool.true_and, Bool.and_false, Bool.false_and, if_true, if_false, ite_true, ite_false, Bool.false_eq_true, Bool.not_true, Bool.not_false, isNon_non, isNon_lst, isNon_tup, isNon_int, isNon_bl, isNon_str, isNon_sq, ty_ii, ty_bi, ty_tt, ty_tl, ty_ti, ty_tn, ty_lt, ty_ll, ty_ib, ty_bb, ni_int, ni_tup, ni_lst, ni_bl, ni_non, List.length_cons, List.length_nil, reduceIte, List.map_cons, List.map_nil, true_and, and_true, Nat.zero_add, Nat.reduceAdd, List.length_map, Nat.zero_le, Int.toNat_natCast]
      cases hb : lf T row[i] x with
      | true =>
        rw [hb, if_pos rfl] at he
        simp only [Bool.not_true, Bool.false_eq_true, if_false]
        refine ⟨_, rfl, ?_⟩
        rw [he, Option.map_map]
        congr 1
        funext r
        show row.take i ++ (row[i] :: r) = row.take (i + 1) ++ r
        rw [List.take_succ, List.getElem?_eq_getElem hi, List.append_assoc]
        rfl
      | false =>
        rw [hb, if_neg (by decide)] at he
        rw [he] at k
        simp only [Bool.not_false, if_true]
        exact k
  · rintro s' ⟨l, rfl, he⟩
    rw [List.drop_of_length_le (Nat.le_refl _)] at he
    rw [he] at k
    try simp only [tSeq3, tNx3, tIf3, tRet3, tRetN3, tSet3, tOwn3, tAsg3, tExpr3, tFrz, frzS, tFor3_eq, tLc3_eq, tLc23_eq, tSeq3I_eq, seqK_lst, seqK_tup, seqK_frl, seqK_sq, oTup_lst, oTup_tup, oTup_sq, oList_lst, oList_tup, oList_sq, oLen_lst, oLen_tup, oLen_frl, oLen_sq, flat_sq, tRg1, tRg2, gN3, gT3, gCons3, gNil3, tV3, tC3, tB3, tT3, tIx3, tCh3, tAnd3, tOr3, tNot3, tNil3, tCons3, tTup3, tLst3, tOfL, tCall3, tU3, tUL, tSl3, tNo3, tSome3, tCat3, tRep3, oEq, oNe, oLt_int, oLt_tup, oLe_int, oLe_tup, oGt_int, oGt_tup, oGe_int, oGe_tup, eqD_int, eqD_str, eqD_bl, eqD_non, eqD_tup, eqD_lst, oAdd, oSub, oMul, oDiv, oMod, oPow, oIs, oIsnt, oIn, oNotIn, inD, lookD, oIx_lst, oIx_tup, oIx_frl, oIx_sq, oIx_dT, oIx_dK, getD, oSl, oInt, oSorted, isB, tPut3, tApp3, tDicT, tDicK, tBk3, tCt3, tMin2, tMax2, tNeg3, tIf3E, tAndV3, tOrV3, tNotV3, tIsi, tIndex3, tYes3, tRaise0, tRaise1, tIsE3, tXf3, wipe3, List.set_cons_zero, List.set_cons_succ, List.getElem?_cons_zero, List.getElem?_cons_succ, List.getElem?_nil, Fl.isSt, D.flat, Fl.nb, Fl.item, cond_true, cond_false, Bool.true_or, Bool.or_true, Bool.false_or, Bool.or_false, Bool.and_true, Bool.true_and, Bool.and_false, Bool.false_and, if_true, if_false, ite_true, ite_false, Bool.false_eq_true, Bool.not_true, Bool.not_false, isNon_non, isNon_lst, isNon_tup, isNon_int, isNon_bl, isNon_str, isNon_sq, ty_ii, ty_bi, ty_tt, ty_tl, ty_ti, ty_tn, ty_lt, ty_ll, ty_ib, ty_bb, ni_int, ni_tup, ni_lst, ni_bl, ni_non, List.length_cons, List.length_nil, reduceIte, List.map_cons, List.map_nil, true_and, and_true, Nat.zero_add, Nat.reduceAdd, List.length_map, Nat.zero_le, Int.toNat_natCast]
    exact k
theorem behind_app {fr : Int → Int → Bool} : ∀ (ys zs l : List Int), behind fr (ys ++ zs) l = (behind fr ys l).bind (behind fr zs)
  | [], zs, l => rfl
  | y :: r, zs, l => by
    show (taken fr l y).bind (behind fr (r ++ zs)) = ((taken fr l y).bind (behind fr r)).bind (behind fr zs)
    cases taken fr l y with
    | none => rfl
    | some m => exact behind_app r zs m
theorem behind_one {fr : Int → Int → Bool} (x : Int) (l : List Int) : behind fr [x] l = taken fr l x := by
  show (taken fr l x).bind (behind fr []) = _
  cases taken fr l x <;> rfl
theorem taken_len {fr : Int → Int → Bool} {row l : List Int} {x : Int} (h : taken fr row x = some l) : l.length + 1 = row.length := by
  obtain ⟨rfl, hm⟩ := taken_erase h
  have := List.length_erase_of_mem hm
  have := List.length_pos_of_mem hm
  omega
/-! _law_behind: 0 table, 1 start, 2 log, 3 left, 4 letter -/
abbrev s__law_behind : Stmt := topS 30
theorem sc__law_behind : FnScope ["table", "start", "log", "left", "letter"] ["table", "start", "log"] (defScope s__law_behind) := ⟨rfl, rfl, rfl, by decide +kernel, rfl, by decide +kernel, by decide +kernel⟩
def fs__law_behind (ex : Str → Addr) : FS := fun as q _ => ∃ T b st lg, as = [.dT T, sq b (intsD st), .lst (intsD lg)] ∧ lg.length ≤ 1000 ∧ q (optD (behind (lf T) st lg))
theorem ok__law_behind {P : Program} {w : World} {K : PySem.W.Frag} {mg : Str → Option Value} {base : Heap} {ex : Str → Addr} {f : Addr} {fd : FuncData} (T : Tx P w K mg base ex) (C__law_taken : Callee P w K mg base "_law_taken" 2 3 (fs__law_taken ex)) (F : Fun K "_law_behind" "_law_behind" s__law_behind f fd) (gm : mg "_law_behind" = some (.ref f)) (bi : Binds K fd ["table", "start", "log"] []) : Callee P w K mg base "_law_behind" 3 3 (fs__law_behind ex) := by
  refine callee_mk F gm bi (fun3 (fs__law_behind ex) F sc__law_behind ⟨_, fun cdv A outer s H E hr tk hp =>
      (ss3cons (s3set (i := 3) sc__law_behind.nd rfl (by first | exact .inl rfl | exact .inr rfl) (PL3.val (l3t1 c3list rfl T.b_list bt_list (p3v 2))))
      (ss3cons (s3for hp rfl (i3seq (p3v 1)) (g3name (i := 4) sc__law_behind.nd rfl (by first | exact .inl rfl | exact .inr rfl))
        (ss3cons (s3set (i := 3) sc__law_behind.nd rfl (by first | exact .inl rfl | exact .inr rfl) (p3callC C__law_taken hr (by decide) tk rfl (a3cons (p3v 0) (a3cons (p3v 3) (a3cons (p3v 4) a3nil)))))
        (ss3one (s3if (t3cmp op3is (p3v 3) p3non)
          (ss3one (s3ret p3non))
          ss3nil))))
      (ss3one (s3ret (p3v 3))))), ?_⟩)
  intro ds q z hl h
  obtain ⟨T, b, st, lg, rfl, hz, k⟩ := h
  simp only [start3, List.map_cons, List.map_nil, List.length_cons, List.length_nil, List.cons_append, List.nil_append, Nat.reduceAdd, Nat.reduceSub, Nat.zero_add, List.replicate, if_true, if_false, Bool.false_eq_true, reduceIte]
  try simp only [tSeq3, tNx3, tIf3, tRet3, tRetN3, tSet3, tOwn3, tAsg3, tExpr3, tFrz, frzS, tFor3_eq, tLc3_eq, tLc23_eq, tSeq3I_eq, seqK_lst, seqK_tup, seqK_frl, seqK_sq, oTup_lst, oTup_tup, oTup_sq, oList_lst, oList_tup, oList_sq, oLen_lst, oLen_tup, oLen_frl, oLen_sq, flat_sq, tRg1, tRg2, gN3, gT3, gCons3, gNil3, tV3, tC3, tB3, tT3, tIx3, tCh3, tAnd3, tOr3, tNot3, tNil3, tCons3, tTup3, tLst3, tOfL, tCall3, tU3, tUL, tSl3, tNo3, tSome3, tCat3, tRep3, oEq, oNe, oLt_int, oLt_tup, oLe_int, oLe_tup, oGt_int, oGt_tup, oGe_int, oGe_tup, eqD_int, eqD_str, eqD_bl, eqD_non, eqD_tup, eqD_lst, oAdd, oSub, oMul, oDiv, oMod, oPow, oIs, oIsnt, oIn, oNotIn, inD, lookD, oIx_lst, oIx_tup, oIx_frl, oIx_sq, oIx_dT, oIx_dK, getD, oSl, oInt, oSorted, isB, tPut3, tApp3, tDicT, tDicK, tBk3, tCt3, tMin2, tMax2, tNeg3, tIf3E, tAndV3, tOrV3, tNotV3, tIsi, tIndex3, tYes3, tRaise0, tRaise1, tIsE3, tXf3, wipe3, List.set_cons_zero, List.set_cons_succ, List.getElem?_cons_zero, List.getElem?_cons_succ, List.getElem?_nil, Fl.isSt, D.flat, Fl.nb, Fl.item, cond_true, cond_false, Bool.true_or, Bool.or_true, Bool.false_or, Bool.or_false, Bool.and_true, Bool.true_and, Bool.and_false, Bool.false_and, if_true, if_false, ite_true, ite_false, Bool.false_eq_true, Bool.not_true, Bool.not_false, isNon_non, isNon_lst, isNon_tup, isNon_int, isNon_bl, isNon_str, isNon_sq, ty_ii, ty_bi, ty_tt, ty_tl, ty_ti, ty_tn, ty_lt, ty_ll, ty_ib, ty_bb, ni_int, ni_tup, ni_lst, ni_bl, ni_non, List.length_cons, List.length_nil, reduceIte, List.map_cons, List.map_nil, true_and, and_true, Nat.zero_add, Nat.reduceAdd, List.length_map, Nat.zero_le, Int.toNat_natCast]
  refine forP_d (fun ys s => ∃ (l1 l2 l4 : Sl) (left : List Int), s = [.va (.dT T), l1, l2, .va (.lst (intsD left)), l4] ∧ behind (lf T) ys lg = some left ∧ left.length ≤ 1000) ?_ ?_ ?_
  · exact ⟨_, _, _, lg, rfl, rfl, hz⟩
  · rintro ys x rest s' e ⟨l1, l2, l4, left, rfl, hb, hz'⟩
    try simp only [tSeq3, tNx3, tIf3, tRet3, tRetN3, tSet3, tOwn3, tAsg3, tExpr3, tFrz, frzS, tFor3_eq, tLc3_eq, tLc23_eq, tSeq3I_eq, seqK_lst, seqK_tup, seqK_frl, seqK_sq, oTup_lst, oTup_tup, oTup_sq, oList_lst, oList_tup, oList_sq, oLen_lst, oLen_tup, oLen_frl, oLen_sq, flat_sq, tRg1, tRg2, gN3, gT3, gCons3, gNil3, tV3, tC3, tB3, tT3, tIx3, tCh3, tAnd3, tOr3, tNot3, tNil3, tCons3, tTup3, tLst3, tOfL, tCall3, tU3, tUL, tSl3, tNo3, tSome3, tCat3, tRep3, oEq, oNe, oLt_int, oLt_tup, oLe_int, oLe_tup, oGt_int, oGt_tup, oGe_int, oGe_tup, eqD_int, eqD_str, eqD_bl, eqD_non, eqD_tup, eqD_lst, oAdd, oSub, oMul, oDiv, oMod, oPow, oIs, oIsnt, oIn, oNotIn, inD, lookD, oIx_lst, oIx_tup, oIx_frl, oIx_sq, oIx_dT, oIx_dK, getD, oSl, oInt, oSorted, isB, tPut3, tApp3, tDicT, tDicK, tBk3, tCt3, tMin2, tMax2, tNeg3, tIf3E, tAndV3, tOrV3, tNotV3, tIsi, tIndex3, tYes3, tRaise0, tRaise1, tIsE3, tXf3, wipe3, List.set_cons_zero, List.set_cons_succ, List.getElem?_cons_zero, List.getElem?_cons_succ, List.getElem?_nil, Fl.isSt, D.flat, Fl.nb, Fl.item, cond_true, cond_false, Bool.true_or, Bool.or_true, Bool.false_or, Bool.or_false, Bool.and_true, Bool.true_and, Bool.and_false, Bool.false_and, if_true, if_false, ite_true, ite_false, Bool.false_eq_true, Bool.not_true, Bool.not_false, isNon_non, isNon_lst, isNon_tup, isNon_int, isNon_bl, isNon_str, isNon_sq, ty_ii, ty_bi, ty_tt, ty_tl, ty_ti, ty_tn, ty_lt, ty_ll, ty_ib, ty_bb, ni_int, ni_tup, ni_lst, ni_bl, ni_non, List.length_cons, List.length_nil, reduceIte, List.map_cons, List.map_nil, true_and, and_true, Nat.zero_add, Nat.reduceAdd, List.length_map, Nat.zero_le, Int.toNat_natCast]
    refine ⟨T, left, x, rfl, hz', ?_⟩
    have step : behind (lf T) (ys ++ [x]) lg = taken (lf T) left x := by rw [behind_app, hb]; exact behind_one x left
    cases ht : taken (lf T) left x with
    | none =>
      have : behind (lf T) st lg = none := by
        rw [e, show ys ++ x :: rest = (ys ++ [x]) ++ rest by simp, behind_app, step, ht]
        rfl
      rw [this] at k
      simp only [optD]
      try simp only [tSeq3, tNx3, tIf3, tRet3, tRetN3, tSet3, tOwn3, tAsg3, tExpr3, tFrz, frzS, tFor3_eq, tLc3_eq, tLc23_eq, tSeq3I_eq, seqK_lst, seqK_tup, seqK_frl, seqK_sq, oTup_lst, oTup_tup, oTup_sq, oList_lst, oList_tup, oList_sq, oLen_lst, oLen_tup, oLen_frl, oLen_sq, flat_sq, tRg1, tRg2, gN3, gT3, gCons3, gNil3, tV3, tC3, tB3, tT3, tIx3, tCh3, tAnd3, tOr3, tNot3, tNil3, tCons3, tTup3, tLst3, tOfL, tCall3, tU3, tUL, tSl3, tNo3, tSome3, tCat3, tRep3, oEq, oNe, oLt_int, oLt_tup, oLe_int, oLe_tup, oGt_int, oGt_tup, oGe_int, oGe_tup, eqD_int, eqD_str, eqD_bl, eqD_non, eqD_tup, eqD_lst, oAdd, oSub, oMul, oDiv, oMod, oPow, oIs, oIsnt, oIn, oNotIn, inD, lookD, oIx_lst, oIx_tup, oIx_frl, oIx_sq, oIx_dT, oIx_dK, getD, oSl, oInt, oSorted, isB, tPut3, tApp3, tDicT, tDicK, tBk3, tCt3, tMin2, tMax2, tNeg3, tIf3E, tAndV3, tOrV3, tNotV3, tIsi, tIndex3, tYes3, tRaise0, tRaise1, tIsE3, tXf3, wipe3, List.set_cons_zero, List.set_cons_succ, List.getElem?_cons_zero, List.getElem?_cons_succ, List.getElem?_nil, Fl.isSt, D.flat, Fl.nb, Fl.item, cond_true, cond_false, Bool.true_or, Bool.or_true, Bool.false_or, Bool.or_false, Bool.and_true, Bool.true_and, Bool.and_false, Bool.false_and, if_true, if_false, ite_true, ite_false, Bool.false_eq_true, Bool.not_true, Bool.not_false, isNon_non, isNon_lst, isNon_tup, isNon_int, isNon_bl, isNon_str, isNon_sq, ty_ii, ty_bi, ty_tt, ty_tl, ty_ti, ty_tn, ty_lt, ty_ll, ty_ib, ty_bb, ni_int, ni_tup, ni_lst, ni_bl, ni_non, List.length_cons, List.length_nil, reduceIte, List.map_cons, List.map_nil, true_and, and_true, Nat.zero_add, Nat.reduceAdd, List.length_map, Nat.zero_le, Int.toNat_natCast]
      exact k
    | some m =>
      simp only [optD]
      try simp only [tSeq3, tNx3, tIf3, tRet3, tRetN3, tSet3, tOwn3, tAsg3, tExpr3, tFrz, frzS, tFor3_eq, tLc3_eq, tLc23_eq, tSeq3I_eq, seqK_lst, seqK_tup, seqK_frl, seqK_sq, oTup_lst, oTup_tup, oTup_sq, oList_lst, oList_tup, oList_sq, oLen_lst, oLen_tup, oLen_frl, oLen_sq, flat_sq, tRg1, tRg2, gN3, gT3, gCons3, gNil3, tV3, tC3, tB3, tT3, tIx3, tCh3, tAnd3, tOr3, tNot3, tNil3, tCons3, tTup3, tLst3, tOfL, tCall3, tU3, tUL, tSl3, tNo3, tSome3, tCat3, tRep3, oEq, oNe, oLt_int, oLt_tup, oLe_int, oLe_tup, oGt_int, oGt_tup, oGe_int, oGe_tup, eqD_int, eqD_str, eqD_bl, eqD_non, eqD_tup, eqD_lst, oAdd, oSub, oMul, oDiv, oMod, oPow, oIs, oIsnt, oIn, oNotIn, inD, lookD, oIx_lst, oIx_tup, oIx_frl, oIx_sq, oIx_dT, oIx_dK, getD, oSl, oInt, oSorted, isB, tPut3, tApp3, tDicT, tDicK, tBk3, tCt3, tMin2, tMax2, tNeg3, tIf3E, tAndV3, tOrV3, tNotV3, tIsi, tIndex3, tYes3, tRaise0, tRaise1, tIsE3, tXf3, wipe3, List.set_cons_zero, List.set_cons_succ, List.getElem?_cons_zero, List.getElem?_cons_succ, List.getElem?_nil, Fl.isSt, D.flat, Fl.nb, Fl.item, cond_true, cond_false, Bool.true_or, Bool.or_true, Bool.false_or, Bool.or_false, Bool.and_true, Bool.true_and, Bool.and_false, Bool.false_and, if_true, if_false, ite_true, ite_false, Bool.false_eq_true, Bool.not_true, Bool.not_false, isNon_non, isNon_lst, isNon_tup, isNon_int, isNon_bl, isNon_str, isNon_sq, ty_ii, ty_bi, ty_tt, ty_tl, ty_ti, ty_tn, ty_lt, ty_ll, ty_ib, ty_bb, ni_int, ni_tup, ni_lst, ni_bl, ni_non, List.length_cons, List.length_nil, reduceIte, List.map_cons, List.map_nil, true_and, and_true, Nat.zero_add, Nat.reduceAdd, List.length_map, Nat.zero_le, Int.toNat_natCast]
      exact ⟨_, _, _, m, rfl, by rw [step, ht], by have := taken_len ht; omega⟩
  · rintro s' ⟨l1, l2, l4, left, rfl, hb, hz'⟩
    try simp only [tSeq3, tNx3, tIf3, tRet3, tRetN3, tSet3, tOwn3, tAsg3, tExpr3, tFrz, frzS, tFor3_eq, tLc3_eq, tLc23_eq, tSeq3I_eq, seqK_lst, seqK_tup, seqK_frl, seqK_sq, oTup_lst, oTup_tup, oTup_sq, oList_lst, oList_tup, oList_sq, oLen_lst, oLen_tup, oLen_frl, oLen_sq, flat_sq, tRg1, tRg2, gN3, gT3, gCons3, gNil3, tV3, tC3, tB3, tT3, tIx3, tCh3, tAnd3, tOr3, tNot3, tNil3, tCons3, tTup3, tLst3, tOfL, tCall3, tU3, tUL, tSl3, tNo3, tSome3, tCat3, tRep3, oEq, oNe, oLt_int, oLt_tup, oLe_int, oLe_tup, oGt_int, oGt_tup, oGe_int, oGe_tup, eqD_int, eqD_str, eqD_bl, eqD_non, eqD_tup, eqD_lst, oAdd, oSub, oMul, oDiv, oMod, oPow, oIs, oIsnt, oIn, oNotIn, inD, lookD, oIx_lst, oIx_tup, oIx_frl, oIx_sq, oIx_dT, oIx_dK, getD, oSl, oInt, oSorted, isB, tPut3, tApp3, tDicT, tDicK, tBk3, tCt3, tMin2, tMax2, tNeg3, tIf3E, tAndV3, tOrV3, tNotV3, tIsi, tIndex3, tYes3, tRaise0, tRaise1, tIsE3, tXf3, wipe3, List.set_cons_zero, List.set_cons_succ, List.getElem?_cons_zero, List.getElem?_cons_succ, List.getElem?_nil, Fl.isSt, D.flat, Fl.nb, Fl.item, cond_true, cond_false, Bool.true_or, Bool.or_true, Bool.false_or, Bool.or_false, Bool.and_true, Bool.true_and, Bool.and_false, Bool.false_and, if_true, if_false, ite_true, ite_false, Bool.false_eq_true, Bool.not_true, Bool.not_false, isNon_non, isNon_lst, isNon_tup, isNon_int, isNon_bl, isNon_str, isNon_sq, ty_ii, ty_bi, ty_tt, ty_tl, ty_ti, ty_tn, ty_lt, ty_ll, ty_ib, ty_bb, ni_int, ni_tup, ni_lst, ni_bl, ni_non, List.length_cons, List.length_nil, reduceIte, List.map_cons, List.map_nil, true_and, and_true, Nat.zero_add, Nat.reduceAdd, List.length_map, Nat.zero_le, Int.toNat_natCast]
    rw [hb] at k
    exact k
theorem take_getD : ∀ (row : List Int) (i : Nat), i ≤ row.length → row.take i = (List.range i).map fun j => row.getD j 0 := fun row i hi => by
  refine List.ext_getElem ?_ fun p h1 h2 => ?_
  · rw [List.length_take, List.length_map, List.length_range]; omega
  · have hp : p < row.length := by rw [List.length_take] at h1; omega
    rw [List.getElem_take, List.getElem_map, List.getElem_range]
    simp [hp]
theorem cnt_range {fr : Int → Int → Bool} (row : List Int) (i : Nat) (hi : i < row.length) : ((List.range i).filter fun j => !fr (row.getD j 0) row[i]).length = cntB fr (row.take i) row[i] := by
  unfold cntB
  rw [take_getD row i (by omega), List.filter_map, List.length_map]
  rfl
/-! _law_least: 0 table, 1 row, 2 before, 3 place, 4 found, 5 turn, 6 best, 7 k -/
abbrev s__law_least : Stmt := topS 31
theorem sc__law_least : FnScope ["table", "row", "before", "place", "found", "turn", "best", "k"] ["table", "row"] (defScope s__law_least) := ⟨rfl, rfl, rfl, by decide +kernel, rfl, by decide +kernel, by decide +kernel⟩
def fs__law_least (ex : Str → Addr) : FS := fun as q _ => ∃ T b row, as = [.dT T, sq b (intsD row)] ∧ (∀ a, lf T a a = false) ∧ row.length ≤ 1000 ∧ q (.lst (intsD (least (lf T) row)))
theorem ok__law_least {P : Program} {w : World} {K : PySem.W.Frag} {mg : Str → Option Value} {base : Heap} {ex : Str → Addr} {f : Addr} {fd : FuncData} (T : Tx P w K mg base ex) (C__law_is_free : Callee P w K mg base "_law_is_free" 1 3 (fs__law_is_free ex)) (F : Fun K "_law_least" "_law_least" s__law_least f fd) (gm : mg "_law_least" = some (.ref f)) (bi : Binds K fd ["table", "row"] []) : Callee P w K mg base "_law_least" 2 2 (fs__law_least ex) := by
  refine callee_mk F gm bi (fun3 (fs__law_least ex) F sc__law_least ⟨_, fun cdv A outer s H E hr tk hp =>
      (ss3cons (s3own (i := 2) sc__law_least.nd rfl (by first | exact .inl rfl | exact .inr rfl) (l3lst a3nil))
      (ss3cons (s3for hp rfl (i3range1 rfl T.b_range (p3b1 c3len rfl T.b_len bt_len (p3v 1))) (g3name (i := 3) sc__law_least.nd rfl (by first | exact .inl rfl | exact .inr rfl))
        (ss3one (s3app (i := 2) (p3b1 c3len rfl T.b_len bt_len (PL3.val (l3lc rfl sc__law_least.nd (blkOk_by (N := ["table", "row", "before", "place", "found", "turn", "best", "k"]) (sc := defScope s__law_least) (own := [("k", 7)]) (by decide +kernel)) (i3range1 rfl T.b_range (p3v 3)) (by decide) (fun _ _ _ _ _ => (g3name (i := 7) sc__law_least.nd rfl (by first | exact .inl rfl | exact .inr rfl))) (fun _ _ _ _ _ => (ts3one (t3not (t3val (p3callC C__law_is_free hr (by decide) takes0 rfl (a3cons (p3v 0) (a3cons (p3ix (deep_of hr) (p3v 1) (p3v 7)) (a3cons (p3ix (deep_of hr) (p3v 1) (p3v 3)) a3nil)))))))) (fun _ _ _ _ _ => (p3v 7))))))))
      (ss3cons (s3own (i := 4) sc__law_least.nd rfl (by first | exact .inl rfl | exact .inr rfl) (l3lst a3nil))
      (ss3cons (s3for hp rfl (i3range1 rfl T.b_range (p3b1 c3len rfl T.b_len bt_len (p3v 1))) (g3name (i := 5) sc__law_least.nd rfl (by first | exact .inl rfl | exact .inr rfl))
        (ss3cons (s3set (i := 6) sc__law_least.nd rfl (by first | exact .inl rfl | exact .inr rfl) (p3neg p3int))
        (ss3cons (s3for hp rfl (i3range1 rfl T.b_range (p3b1 c3len rfl T.b_len bt_len (p3v 1))) (g3name (i := 3) sc__law_least.nd rfl (by first | exact .inl rfl | exact .inr rfl))
          (ss3one (s3if (PW3.t (w3and (t3cmp (op3eq (deep_of hr)) (p3ix (deep_of hr) (p3v 2) (p3v 3)) p3int) (w3and1 (PW3.t (w3or (t3cmp (op3lt (deep_of hr)) (p3v 6) p3int) (w3or1 (t3cmp (op3lt (deep_of hr)) (p3ix (deep_of hr) (p3v 1) (p3v 3)) (p3ix (deep_of hr) (p3v 1) (p3v 6)))))))))
            (ss3one (s3set (i := 6) sc__law_least.nd rfl (by first | exact .inl rfl | exact .inr rfl) (p3v 3)))
            ss3nil)))
        (ss3cons (s3app (i := 4) (p3ix (deep_of hr) (p3v 1) (p3v 6)))
        (ss3cons (s3put (i := 2) (deep_of hr) (p3neg p3int) (p3v 6))
        (ss3one (s3for hp rfl (i3range2 rfl T.b_range (p3op op3add (p3v 6) p3int) (p3b1 c3len rfl T.b_len bt_len (p3v 1))) (g3name (i := 3) sc__law_least.nd rfl (by first | exact .inl rfl | exact .inr rfl))
          (ss3one (s3if (t3not (t3val (p3callC C__law_is_free hr (by decide) tk rfl (a3cons (p3v 0) (a3cons (p3ix (deep_of hr) (p3v 1) (p3v 6)) (a3cons (p3ix (deep_of hr) (p3v 1) (p3v 3)) a3nil))))))
            (ss3one (s3put (i := 2) (deep_of hr) (p3op op3sub (p3ix (deep_of hr) (p3v 2) (p3v 3)) p3int) (p3v 3)))
            ss3nil)))))))))
      (ss3one (s3ret (p3v 4))))))), ?_⟩)
  intro ds q z hl h
  obtain ⟨T, b, row, rfl, irr, hz, k⟩ := h
  have hget : ∀ (p : Nat) (h : p < row.length), row.getD p 0 = row[p] := fun p h => by simp [h]
  · simp only [start3, List.map_cons, List.map_nil, List.length_cons, List.length_nil, List.cons_append, List.nil_append, Nat.reduceAdd, Nat.reduceSub, Nat.zero_add, List.replicate, if_true, if_false, Bool.false_eq_true, reduceIte]
    try simp only [tSeq3, tNx3, tIf3, tRet3, tRetN3, tSet3, tOwn3, tAsg3, tExpr3, tFrz, frzS, tFor3_eq, tLc3_eq, tLc23_eq, tSeq3I_eq, seqK_lst, seqK_tup, seqK_frl, seqK_sq, oTup_lst, oTup_tup, oTup_sq, oList_lst, oList_tup, oList_sq, oLen_lst, oLen_tup, oLen_frl, oLen_sq, flat_sq, tRg1, tRg2, gN3, gT3, gCons3, gNil3, tV3, tC3, tB3, tT3, tIx3, tCh3, tAnd3, tOr3, tNot3, tNil3, tCons3, tTup3, tLst3, tOfL, tCall3, tU3, tUL, tSl3, tNo3, tSome3, tCat3, tRep3, oEq, oNe, oLt_int, oLt_tup, oLe_int, oLe_tup, oGt_int, oGt_tup, oGe_int, oGe_tup, eqD_int, eqD_str, eqD_bl, eqD_non, eqD_tup, eqD_lst, oAdd, oSub, oMul, oDiv, oMod, oPow, oIs, oIsnt, oIn, oNotIn, inD, lookD, oIx_lst, oIx_tup, oIx_frl, oIx_sq, oIx_dT, oIx_dK, getD, oSl, oInt, oSorted, isB, tPut3, tApp3, tDicT, tDicK, tBk3, tCt3, tMin2, tMax2, tNeg3, tIf3E, tAndV3, tOrV3, tNotV3, tIsi, tIndex3, tYes3, tRaise0, tRaise1, tIsE3, tXf3, wipe3, List.set_cons_zero, List.set_cons_succ, List.getElem?_cons_zero, List.getElem?_cons_succ, List.getElem?_nil, Fl.isSt, D.flat, Fl.nb, Fl.item, cond_true, cond_false, Bool.true_or, Bool.or_true, Bool.false_or, Bool.or_false, Bool.and_true, Bool.true_and, Bool.and_false, Bool.false_and, if_true, if_false, ite_true, ite_false, Bool.false_eq_true, Bool.not_true, Bool.not_false, isNon_non, isNon_lst, isNon_tup, isNon_int, isNon_bl, isNon_str, isNon_sq, ty_ii, ty_bi, ty_tt, ty_tl, ty_ti, ty_tn, ty_lt, ty_ll, ty_ib, ty_bb, ni_int, ni_tup, ni_lst, ni_bl, ni_non, List.length_cons, List.length_nil, reduceIte, List.map_cons, List.map_nil, true_and, and_true, Nat.zero_add, Nat.reduceAdd, List.length_map, Nat.zero_le, Int.toNat_natCast]
    refine ⟨by omega, ?_⟩
    refine forP_rg (fun i s => ∃ (l3 l4 l5 l6 l7 : Sl) (bs : List Int) (hb : bs.length = i), s = [.va (.dT T), .va (sq b (intsD row)), .ow (intsD bs), l3, l4, l5, l6, l7] ∧ ∀ (p : Nat) (hp : p < row.length) (hi : p < i), bs[p]'(by omega) = (cntB (lf T) (row.take p) row[p] : Int)) ?_ ?_ ?_
    · exact ⟨_, _, _, _, _, [], rfl, rfl, fun p hp hi => absurd hi (by omega)⟩
    · rintro i s' hi ⟨l3, l4, l5, l6, l7, bs, hb, rfl, hu⟩
      try simp only [tSeq3, tNx3, tIf3, tRet3, tRetN3, tSet3, tOwn3, tAsg3, tExpr3, tFrz, frzS, tFor3_eq, tLc3_eq, tLc23_eq, tSeq3I_eq, seqK_lst, seqK_tup, seqK_frl, seqK_sq, oTup_lst, oTup_tup, oTup_sq, oList_lst, oList_tup, oList_sq, oLen_lst, oLen_tup, oLen_frl, oLen_sq, flat_sq, tRg1, tRg2, gN3, gT3, gCons3, gNil3, tV3, tC3, tB3, tT3, tIx3, tCh3, tAnd3, tOr3, tNot3, tNil3, tCons3, tTup3, tLst3, tOfL, tCall3, tU3, tUL, tSl3, tNo3, tSome3, tCat3, tRep3, oEq, oNe, oLt_int, oLt_tup, oLe_int, oLe_tup, oGt_int, oGt_tup, oGe_int, oGe_tup, eqD_int, eqD_str, eqD_bl, eqD_non, eqD_tup, eqD_lst, oAdd, oSub, oMul, oDiv, oMod, oPow, oIs, oIsnt, oIn, oNotIn, inD, lookD, oIx_lst, oIx_tup, oIx_frl, oIx_sq, oIx_dT, oIx_dK, getD, oSl, oInt, oSorted, isB, tPut3, tApp3, tDicT, tDicK, tBk3, tCt3, tMin2, tMax2, tNeg3, tIf3E, tAndV3, tOrV3, tNotV3, tIsi, tIndex3, tYes3, tRaise0, tRaise1, tIsE3, tXf3, wipe3, List.set_cons_zero, List.set_cons_succ, List.getElem?_cons_zero, List.getElem?_cons_succ, List.getElem?_nil, Fl.isSt, D.flat, Fl.nb, Fl.item, cond_true, cond_false, Bool.true_or, Bool.or_true, Bool.false_or, Bool.or_false, Bool.and_true, Bool.true_and, Bool.and_false, Bool.false_and, if_true, if_false, ite_true, ite_false, Bool.false_eq_true, Bool.not_true, Bool.not_false, isNon_non, isNon_lst, isNon_tup, isNon_int, isNon_bl, isNon_str, isNon_sq, ty_ii, ty_bi, ty_tt, ty_tl, ty_ti, ty_tn, ty_lt, ty_ll, ty_ib, ty_bb, ni_int, ni_tup, ni_lst, ni_bl, ni_non, List.length_cons, List.length_nil, reduceIte, List.map_cons, List.map_nil, true_and, and_true, Nat.zero_add, Nat.reduceAdd, List.length_map, Nat.zero_le, Int.toNat_natCast]
      rw [Int.zero_add]
      refine ⟨by omega, ?_⟩
      have key : ∀ ds : List D, ds.length = cntB (lf T) (row.take i) row[i] → ∃ (m3 m4 m5 m6 m7 : Sl) (bs' : List Int) (hb : bs'.length = i + 1), [Sl.va (.dT T), .va (sq b (intsD row)), .ow (intsD bs ++ [.int ds.length]), .va (.int (i : Nat)), l4, l5, l6, l7] = [Sl.va (.dT T), .va (sq b (intsD row)), .ow (intsD bs'), m3, m4, m5, m6, m7] ∧ ∀ (p : Nat) (hp : p < row.length) (hi : p < i + 1), bs'[p]'(by omega) = (cntB (lf T) (row.take p) row[p] : Int) := fun ds hds => by
        refine ⟨.va (.int (i : Nat)), l4, l5, l6, l7, bs ++ [(ds.length : Int)], by rw [List.length_append, hb]; rfl, by rw [intsD_snoc], fun p hp hi' => ?_⟩
        by_cases hpi : p < i
        · rw [List.getElem_append_left (by omega)]
          exact hu p hp hpi
        · have e : p = i := by omega
          subst e
          rw [List.getElem_append_right (by omega)]
          simp [hds]
      rw [show (Int.toNat (i : Nat)) = i from rfl]
      refine lcP_rg (fun j => !lf T (row.getD j 0) row[i]) (fun j => D.int (0 + (j : Nat))) (le_line (by omega)) (fun j hj acc R ha hR => ?_) ?_
      · have hj' : j < row.length := by omega
        try simp only [tSeq3, tNx3, tIf3, tRet3, tRetN3, tSet3, tOwn3, tAsg3, tExpr3, tFrz, frzS, tFor3_eq, tLc3_eq, tLc23_eq, tSeq3I_eq, seqK_lst, seqK_tup, seqK_frl, seqK_sq, oTup_lst, oTup_tup, oTup_sq, oList_lst, oList_tup, oList_sq, oLen_lst, oLen_tup, oLen_frl, oLen_sq, flat_sq, tRg1, tRg2, gN3, gT3, gCons3, gNil3, tV3, tC3, tB3, tT3, tIx3, tCh3, tAnd3, tOr3, tNot3, tNil3, tCons3, tTup3, tLst3, tOfL, tCall3, tU3, tUL, tSl3, tNo3, tSome3, tCat3, tRep3, oEq, oNe, oLt_int, oLt_tup, oLe_int, oLe_tup, oGt_int, oGt_tup, oGe_int, oGe_tup, eqD_int, eqD_str, eqD_bl, eqD_non, eqD_tup, eqD_lst, oAdd, oSub, oMul, oDiv, oMod, oPow, oIs, oIsnt, oIn, oNotIn, inD, lookD, oIx_lst, oIx_tup, oIx_frl, oIx_sq, oIx_dT, oIx_dK, getD, oSl, oInt, oSorted, isB, tPut3, tApp3, tDicT, tDicK, tBk3, tCt3, tMin2, tMax2, tNeg3, tIf3E, tAndV3, tOrV3, tNotV3, tIsi, tIndex3, tYes3, tRaise0, tRaise1, tIsE3, tXf3, wipe3, List.set_cons_zero, List.set_cons_succ, List.getElem?_cons_zero, List.getElem?_cons_succ, List.getElem?_nil, Fl.isSt, D.flat, Fl.nb, Fl.item, cond_true, cond_false, Bool.true_or, Bool.or_true, Bool.false_or, Bool.or_false, Bool.and_true, Bool.true_and, Bool.and_false, Bool.false_and, if_true, if_false, ite_true, ite_false, Bool.false_eq_true, Bool.not_true, Bool.not_false, isNon_non, isNon_lst, isNon_tup, isNon_int, isNon_bl, isNon_str, isNon_sq, ty_ii, ty_bi, ty_tt, ty_tl, ty_ti, ty_tn, ty_lt, ty_ll, ty_ib, ty_bb, ni_int, ni_tup, ni_lst, ni_bl, ni_non, List.length_cons, List.length_nil, reduceIte, List.map_cons, List.map_nil, true_and, and_true, Nat.zero_add, Nat.reduceAdd, List.length_map, Nat.zero_le, Int.toNat_natCast]
        rw [Int.zero_add]
        refine ⟨_, at_map hj', _, at_map hi, T, row[j], row[i], rfl, ?_⟩
        rw [hget j hj'] at hR
        try simp only [tSeq3, tNx3, tIf3, tRet3, tRetN3, tSet3, tOwn3, tAsg3, tExpr3, tFrz, frzS, tFor3_eq, tLc3_eq, tLc23_eq, tSeq3I_eq, seqK_lst, seqK_tup, seqK_frl, seqK_sq, oTup_lst, oTup_tup, oTup_sq, oList_lst, oList_tup, oList_sq, oLen_lst, oLen_tup, oLen_frl, oLen_sq, flat_sq, tRg1, tRg2, gN3, gT3, gCons3, gNil3, tV3, tC3, tB3, tT3, tIx3, tCh3, tAnd3, tOr3, tNot3, tNil3, tCons3, tTup3, tLst3, tOfL, tCall3, tU3, tUL, tSl3, tNo3, tSome3, tCat3, tRep3, oEq, oNe, oLt_int, oLt_tup, oLe_int, oLe_tup, oGt_int, oGt_tup, oGe_int, oGe_tup, eqD_int, eqD_str, eqD_bl, eqD_non, eqD_tup, eqD_lst, oAdd, oSub, oMul, oDiv, oMod, oPow, oIs, oIsnt, oIn, oNotIn, inD, lookD, oIx_lst, oIx_tup, oIx_frl, oIx_sq, oIx_dT, oIx_dK, getD, oSl, oInt, oSorted, isB, tPut3, tApp3, tDicT, tDicK, tBk3, tCt3, tMin2, tMax2, tNeg3, tIf3E, tAndV3, tOrV3, tNotV3, tIsi, tIndex3, tYes3, tRaise0, tRaise1, tIsE3, tXf3, wipe3, List.set_cons_zero, List.set_cons_succ, List.getElem?_cons_zero, List.getElem?_cons_succ, List.getElem?_nil, Fl.isSt, D.flat, Fl.nb, Fl.item, cond_true, cond_false, Bool.true_or, Bool.or_true, Bool.false_or, Bool.or_false, Bool.and_true, Bool.true_and, Bool.and_false, Bool.false_and, if_true, if_false, ite_true, ite_false, Bool.false_eq_true, Bool.not_true, Bool.not_false, isNon_non, isNon_lst, isNon_tup, isNon_int, isNon_bl, isNon_str, isNon_sq, ty_ii, ty_bi, ty_tt, ty_tl, ty_ti, ty_tn, ty_lt, ty_ll, ty_ib, ty_bb, ni_int, ni_tup, ni_lst, ni_bl, ni_non, List.length_cons, List.length_nil, reduceIte, List.map_cons, List.map_nil, true_and, and_true, Nat.zero_add, Nat.reduceAdd, List.length_map, Nat.zero_le, Int.toNat_natCast]
        cases hb : lf T row[j] row[i] with
        | true =>
          rw [hb] at hR
          simp only [Bool.not_true, Bool.false_eq_true, if_false, List.append_nil] at hR ⊢
          exact hR
        | false =>
          rw [hb] at hR
          simp only [Bool.not_false, if_true, Int.zero_add] at hR ⊢
          exact ⟨ha, hR⟩
      · refine ⟨lt_line (by omega), ?_⟩
        exact key (((List.range i).filter fun j => !lf T (row.getD j 0) row[i]).map fun j => D.int (0 + (j : Nat))) (by rw [List.length_map]; exact cnt_range row i hi)
    · rintro s' ⟨l3, l4, l5, l6, l7, bs, hb, rfl, hu⟩
      obtain ⟨binv, bleft⟩ := b_init (fr := lf T) row bs [] hb (fun p hp => by rw [List.nil_append]; exact hu p hp hp)
      try simp only [tSeq3, tNx3, tIf3, tRet3, tRetN3, tSet3, tOwn3, tAsg3, tExpr3, tFrz, frzS, tFor3_eq, tLc3_eq, tLc23_eq, tSeq3I_eq, seqK_lst, seqK_tup, seqK_frl, seqK_sq, oTup_lst, oTup_tup, oTup_sq, oList_lst, oList_tup, oList_sq, oLen_lst, oLen_tup, oLen_frl, oLen_sq, flat_sq, tRg1, tRg2, gN3, gT3, gCons3, gNil3, tV3, tC3, tB3, tT3, tIx3, tCh3, tAnd3, tOr3, tNot3, tNil3, tCons3, tTup3, tLst3, tOfL, tCall3, tU3, tUL, tSl3, tNo3, tSome3, tCat3, tRep3, oEq, oNe, oLt_int, oLt_tup, oLe_int, oLe_tup, oGt_int, oGt_tup, oGe_int, oGe_tup, eqD_int, eqD_str, eqD_bl, eqD_non, eqD_tup, eqD_lst, oAdd, oSub, oMul, oDiv, oMod, oPow, oIs, oIsnt, oIn, oNotIn, inD, lookD, oIx_lst, oIx_tup, oIx_frl, oIx_sq, oIx_dT, oIx_dK, getD, oSl, oInt, oSorted, isB, tPut3, tApp3, tDicT, tDicK, tBk3, tCt3, tMin2, tMax2, tNeg3, tIf3E, tAndV3, tOrV3, tNotV3, tIsi, tIndex3, tYes3, tRaise0, tRaise1, tIsE3, tXf3, wipe3, List.set_cons_zero, List.set_cons_succ, List.getElem?_cons_zero, List.getElem?_cons_succ, List.getElem?_nil, Fl.isSt, D.flat, Fl.nb, Fl.item, cond_true, cond_false, Bool.true_or, Bool.or_true, Bool.false_or, Bool.or_false, Bool.and_true, Bool.true_and, Bool.and_false, Bool.false_and, if_true, if_false, ite_true, ite_false, Bool.false_eq_true, Bool.not_true, Bool.not_false, isNon_non, isNon_lst, isNon_tup, isNon_int, isNon_bl, isNon_str, isNon_sq, ty_ii, ty_bi, ty_tt, ty_tl, ty_ti, ty_tn, ty_lt, ty_ll, ty_ib, ty_bb, ni_int, ni_tup, ni_lst, ni_bl, ni_non, List.length_cons, List.length_nil, reduceIte, List.map_cons, List.map_nil, true_and, and_true, Nat.zero_add, Nat.reduceAdd, List.length_map, Nat.zero_le, Int.toNat_natCast]
      refine ⟨by omega, ?_⟩
      refine forP_rg (fun i s => ∃ (l3 l5 l6 l7 : Sl) (bs found : List Int), s = [.va (.dT T), .va (sq b (intsD row)), .ow (intsD bs), l3, .ow (intsD found), l5, l6, l7] ∧ bs.length = row.length ∧ BInv (lf T) [] (row.zip bs) ∧ found ++ least (lf T) (leftB row bs) = least (lf T) row ∧ found.length = i ∧ (leftB row bs).length + i = row.length) ?_ ?_ ?_
      · exact ⟨_, _, _, _, bs, [], rfl, hb, binv, by rw [bleft]; rfl, rfl, by rw [bleft]; rfl⟩
      · rintro i s' hi ⟨l3', l5', l6', l7', bs, found, rfl, hbl, binv, hfound, hfl, hleft⟩
        try simp only [tSeq3, tNx3, tIf3, tRet3, tRetN3, tSet3, tOwn3, tAsg3, tExpr3, tFrz, frzS, tFor3_eq, tLc3_eq, tLc23_eq, tSeq3I_eq, seqK_lst, seqK_tup, seqK_frl, seqK_sq, oTup_lst, oTup_tup, oTup_sq, oList_lst, oList_tup, oList_sq, oLen_lst, oLen_tup, oLen_frl, oLen_sq, flat_sq, tRg1, tRg2, gN3, gT3, gCons3, gNil3, tV3, tC3, tB3, tT3, tIx3, tCh3, tAnd3, tOr3, tNot3, tNil3, tCons3, tTup3, tLst3, tOfL, tCall3, tU3, tUL, tSl3, tNo3, tSome3, tCat3, tRep3, oEq, oNe, oLt_int, oLt_tup, oLe_int, oLe_tup, oGt_int, oGt_tup, oGe_int, oGe_tup, eqD_int, eqD_str, eqD_bl, eqD_non, eqD_tup, eqD_lst, oAdd, oSub, oMul, oDiv, oMod, oPow, oIs, oIsnt, oIn, oNotIn, inD, lookD, oIx_lst, oIx_tup, oIx_frl, oIx_sq, oIx_dT, oIx_dK, getD, oSl, oInt, oSorted, isB, tPut3, tApp3, tDicT, tDicK, tBk3, tCt3, tMin2, tMax2, tNeg3, tIf3E, tAndV3, tOrV3, tNotV3, tIsi, tIndex3, tYes3, tRaise0, tRaise1, tIsE3, tXf3, wipe3, List.set_cons_zero, List.set_cons_succ, List.getElem?_cons_zero, List.getElem?_cons_succ, List.getElem?_nil, Fl.isSt, D.flat, Fl.nb, Fl.item, cond_true, cond_false, Bool.true_or, Bool.or_true, Bool.false_or, Bool.or_false, Bool.and_true, Bool.true_and, Bool.and_false, Bool.false_and, if_true, if_false, ite_true, ite_false, Bool.false_eq_true, Bool.not_true, Bool.not_false, isNon_non, isNon_lst, isNon_tup, isNon_int, isNon_bl, isNon_str, isNon_sq, ty_ii, ty_bi, ty_tt, ty_tl, ty_ti, ty_tn, ty_lt, ty_ll, ty_ib, ty_bb, ni_int, ni_tup, ni_lst, ni_bl, ni_non, List.length_cons, List.length_nil, reduceIte, List.map_cons, List.map_nil, true_and, and_true, Nat.zero_add, Nat.reduceAdd, List.length_map, Nat.zero_le, Int.toNat_natCast]
        refine ⟨by omega, ?_⟩
        refine forP_rg (fun j s => ∃ (l3 l5 l7 : Sl) (bv : Int), s = [.va (.dT T), .va (sq b (intsD row)), .ow (intsD bs), l3, .ow (intsD found), l5, .va (.int bv), l7] ∧
          ((bv = -1 ∧ ∀ (p : Nat) (hp : p < row.length), p < j → bs[p]'(by omega) ≠ 0) ∨ ∃ (c : Nat) (hc : c < row.length), bv = c ∧ bs[c]'(by omega) = 0 ∧ ∀ (p : Nat) (hp : p < row.length), p < j → bs[p]'(by omega) = 0 → row[c] ≤ row[p])) ?_ ?_ ?_
        · exact ⟨_, _, _, -1, rfl, .inl ⟨rfl, fun p hp h => absurd h (by omega)⟩⟩
        · rintro j s' hj ⟨l3, l5, l7, bv, rfl, hbv⟩
          have hj' : j < bs.length := by omega
          try simp only [tSeq3, tNx3, tIf3, tRet3, tRetN3, tSet3, tOwn3, tAsg3, tExpr3, tFrz, frzS, tFor3_eq, tLc3_eq, tLc23_eq, tSeq3I_eq, seqK_lst, seqK_tup, seqK_frl, seqK_sq, oTup_lst, oTup_tup, oTup_sq, oList_lst, oList_tup, oList_sq, oLen_lst, oLen_tup, oLen_frl, oLen_sq, flat_sq, tRg1, tRg2, gN3, gT3, gCons3, gNil3, tV3, tC3, tB3, tT3, tIx3, tCh3, tAnd3, tOr3, tNot3, tNil3, tCons3, tTup3, tLst3, tOfL, tCall3, tU3, tUL, tSl3, tNo3, tSome3, tCat3, tRep3, oEq, oNe, oLt_int, oLt_tup, oLe_int, oLe_tup, oGt_int, oGt_tup, oGe_int, oGe_tup, eqD_int, eqD_str, eqD_bl, eqD_non, eqD_tup, eqD_lst, oAdd, oSub, oMul, oDiv, oMod, oPow, oIs, oIsnt, oIn, oNotIn, inD, lookD, oIx_lst, oIx_tup, oIx_frl, oIx_sq, oIx_dT, oIx_dK, getD, oSl, oInt, oSorted, isB, tPut3, tApp3, tDicT, tDicK, tBk3, tCt3, tMin2, tMax2, tNeg3, tIf3E, tAndV3, tOrV3, tNotV3, tIsi, tIndex3, tYes3, tRaise0, tRaise1, tIsE3, tXf3, wipe3, List.set_cons_zero, List.set_cons_succ, List.getElem?_cons_zero, List.getElem?_cons_succ, List.getElem?_nil, Fl.isSt, D.flat, Fl.nb, Fl.item, cond_true, cond_false, Bool.true_or, Bool.or_true, Bool.false_or, Bool.or_false, Bool.and_true, Bool.true_and, Bool.and_false, Bool.false_and, if_true, if_false, ite_true, ite_false, Bool.false_eq_true, Bool.not_true, Bool.not_false, isNon_non, isNon_lst, isNon_tup, isNon_int, isNon_bl, isNon_str, isNon_sq, ty_ii, ty_bi, ty_tt, ty_tl, ty_ti, ty_tn, ty_lt, ty_ll, ty_ib, ty_bb, ni_int, ni_tup, ni_lst, ni_bl, ni_non, List.length_cons, List.length_nil, reduceIte, List.map_cons, List.map_nil, true_and, and_true, Nat.zero_add, Nat.reduceAdd, List.length_map, Nat.zero_le, Int.toNat_natCast]
          rw [Int.zero_add]
          refine ⟨_, at_map hj', ?_⟩
          try simp only [tSeq3, tNx3, tIf3, tRet3, tRetN3, tSet3, tOwn3, tAsg3, tExpr3, tFrz, frzS, tFor3_eq, tLc3_eq, tLc23_eq, tSeq3I_eq, seqK_lst, seqK_tup, seqK_frl, seqK_sq, oTup_lst, oTup_tup, oTup_sq, oList_lst, oList_tup, oList_sq, oLen_lst, oLen_tup, oLen_frl, oLen_sq, flat_sq, tRg1, tRg2, gN3, gT3, gCons3, gNil3, tV3, tC3, tB3, tT3, tIx3, tCh3, tAnd3, tOr3, tNot3, tNil3, tCons3, tTup3, tLst3, tOfL, tCall3, tU3, tUL, tSl3, tNo3, tSome3, tCat3, tRep3, oEq, oNe, oLt_int, oLt_tup, oLe_int, oLe_tup, oGt_int, oGt_tup, oGe_int, oGe_tup, eqD_int, eqD_str, eqD_bl, eqD_non, eqD_tup, eqD_lst, oAdd, oSub, oMul, oDiv, oMod, oPow, oIs, oIsnt, oIn, oNotIn, inD, lookD, oIx_lst, oIx_tup, oIx_frl, oIx_sq, oIx_dT, oIx_dK, getD, oSl, oInt, oSorted, isB, tPut3, tApp3, tDicT, tDicK, tBk3, tCt3, tMin2, tMax2, tNeg3, tIf3E, tAndV3, tOrV3, tNotV3, tIsi, tIndex3, tYes3, tRaise0, tRaise1, tIsE3, tXf3, wipe3, List.set_cons_zero, List.set_cons_succ, List.getElem?_cons_zero, List.getElem?_cons_succ, List.getElem?_nil, Fl.isSt, D.flat, Fl.nb, Fl.item, cond_true, cond_false, Bool.true_or, Bool.or_true, Bool.false_or, Bool.or_false, Bool.and_true, Bool.true_and, Bool.and_false, Bool.false_and, if_true, if_false, ite_true, ite_false, Bool.false_eq_true, Bool.not_true, Bool.not_false, isNon_non, isNon_lst, isNon_tup, isNon_int, isNon_bl, isNon_str, isNon_sq, ty_ii, ty_bi, ty_tt, ty_tl, ty_ti, ty_tn, ty_lt, ty_ll, ty_ib, ty_bb, ni_int, ni_tup, ni_lst, ni_bl, ni_non, List.length_cons, List.length_nil, reduceIte, List.map_cons, List.map_nil, true_and, and_true, Nat.zero_add, Nat.reduceAdd, List.length_map, Nat.zero_le, Int.toNat_natCast]
          by_cases h0 : bs[j] = 0
          · simp only [h0, decide_true, if_true]
            rcases hbv with ⟨rfl, hno⟩ | ⟨c, hc, rfl, hc0, hmin⟩
            · rw [if_pos (by decide)]
              refine ⟨_, _, _, (j : Int), rfl, .inr ⟨j, hj, rfl, h0, fun p hp hpj hp0 => ?_⟩⟩
              by_cases e : p = j
              · subst e; exact Int.le_refl _
              · exact absurd hp0 (hno p hp (by omega))
            · rw [if_neg (by simp <;> omega)]
              refine ⟨_, at_map hj, _, at_map hc, ?_⟩
              try simp only [tSeq3, tNx3, tIf3, tRet3, tRetN3, tSet3, tOwn3, tAsg3, tExpr3, tFrz, frzS, tFor3_eq, tLc3_eq, tLc23_eq, tSeq3I_eq, seqK_lst, seqK_tup, seqK_frl, seqK_sq, oTup_lst, oTup_tup, oTup_sq, oList_lst, oList_tup, oList_sq, oLen_lst, oLen_tup, oLen_frl, oLen_sq, flat_sq, tRg1, tRg2, gN3, gT3, gCons3, gNil3, tV3, tC3, tB3, tT3, tIx3, tCh3, tAnd3, tOr3, tNot3, tNil3, tCons3, tTup3, tLst3, tOfL, tCall3, tU3, tUL, tSl3, tNo3, tSome3, tCat3, tRep3, oEq, oNe, oLt_int, oLt_tup, oLe_int, oLe_tup, oGt_int, oGt_tup, oGe_int, oGe_tup, eqD_int, eqD_str, eqD_bl, eqD_non, eqD_tup, eqD_lst, oAdd, oSub, oMul, oDiv, oMod, oPow, oIs, oIsnt, oIn, oNotIn, inD, lookD, oIx_lst, oIx_tup, oIx_frl, oIx_sq, oIx_dT, oIx_dK, getD, oSl, oInt, oSorted, isB, tPut3, tApp3, tDicT, tDicK, tBk3, tCt3, tMin2, tMax2, tNeg3, tIf3E, tAndV3, tOrV3, tNotV3, tIsi, tIndex3, tYes3, tRaise0, tRaise1, tIsE3, tXf3, wipe3, List.set_cons_zero, List.set_cons_succ, List.getElem?_cons_zero, List.getElem?_cons_succ, List.getElem?_nil, Fl.isSt, D.flat, Fl.nb, Fl.item, cond_true, cond_false, Bool.true_or, Bool.or_true, Bool.false_or, Bool.or_false, Bool.and_true, Bool.true_and, Bool.and_false, Bool.false_and, if_true, if_false, ite_true, ite_false, Bool.false_eq_true, Bool.not_true, Bool.not_false, isNon_non, isNon_lst, isNon_tup, isNon_int, isNon_bl, isNon_str, isNon_sq, ty_ii, ty_bi, ty_tt, ty_tl, ty_ti, ty_tn, ty_lt, ty_ll, ty_ib, ty_bb, ni_int, ni_tup, ni_lst, ni_bl, ni_non, List.length_cons, List.length_nil, reduceIte, List.map_cons, List.map_nil, true_and, and_true, Nat.zero_add, Nat.reduceAdd, List.length_map, Nat.zero_le, Int.toNat_natCast]
              by_cases hlt : row[j] < row[c]
              · simp only [hlt, decide_true, if_true]
                refine ⟨_, _, _, (j : Int), rfl, .inr ⟨j, hj, rfl, h0, fun p hp hpj hp0 => ?_⟩⟩
                by_cases e : p = j
                · subst e; exact Int.le_refl _
                · have := hmin p hp (by omega) hp0; omega
              · simp only [hlt, decide_false, Bool.false_eq_true, if_false]
                refine ⟨_, _, _, _, rfl, .inr ⟨c, hc, rfl, hc0, fun p hp hpj hp0 => ?_⟩⟩
                by_cases e : p = j
                · subst e; omega
                · exact hmin p hp (by omega) hp0
          · simp only [h0, decide_false, Bool.false_eq_true, if_false]
            refine ⟨_, _, _, bv, rfl, ?_⟩
            rcases hbv with ⟨e1, hno⟩ | ⟨c, hc, e1, hc0, hmin⟩
            · refine .inl ⟨e1, fun p hp hpj hp0 => ?_⟩
              by_cases e : p = j
              · subst e; exact h0 hp0
              · exact hno p hp (by omega) hp0
            · refine .inr ⟨c, hc, e1, hc0, fun p hp hpj hp0 => ?_⟩
              by_cases e : p = j
              · subst e; exact absurd hp0 h0
              · exact hmin p hp (by omega) hp0
        · rintro s' ⟨l3, l5, l7, bv, rfl, hbv⟩
          have hne : leftB row bs ≠ [] := fun e => by rw [e] at hleft; simp only [List.length_nil, Nat.zero_add] at hleft; have : i < row.length := hi; omega
          obtain ⟨x0, _, hx0, hm0⟩ := min_first (fr := lf T) hne
          obtain ⟨p0, hp0, hz0, hr0⟩ := b_has0 irr hbl binv hx0
          rcases hbv with ⟨rfl, hno⟩ | ⟨c, hc, rfl, hc0, hmin⟩
          · exact absurd hz0 (hno p0 hp0 hp0)
          · have hc' : c < bs.length := by omega
            have turn := fun (bs' : List Int) (hl' : bs'.length = row.length) hu => b_turn (fr := lf T) (bs' := bs') irr hbl hl' binv hc hc0 hu
            try simp only [tSeq3, tNx3, tIf3, tRet3, tRetN3, tSet3, tOwn3, tAsg3, tExpr3, tFrz, frzS, tFor3_eq, tLc3_eq, tLc23_eq, tSeq3I_eq, seqK_lst, seqK_tup, seqK_frl, seqK_sq, oTup_lst, oTup_tup, oTup_sq, oList_lst, oList_tup, oList_sq, oLen_lst, oLen_tup, oLen_frl, oLen_sq, flat_sq, tRg1, tRg2, gN3, gT3, gCons3, gNil3, tV3, tC3, tB3, tT3, tIx3, tCh3, tAnd3, tOr3, tNot3, tNil3, tCons3, tTup3, tLst3, tOfL, tCall3, tU3, tUL, tSl3, tNo3, tSome3, tCat3, tRep3, oEq, oNe, oLt_int, oLt_tup, oLe_int, oLe_tup, oGt_int, oGt_tup, oGe_int, oGe_tup, eqD_int, eqD_str, eqD_bl, eqD_non, eqD_tup, eqD_lst, oAdd, oSub, oMul, oDiv, oMod, oPow, oIs, oIsnt, oIn, oNotIn, inD, lookD, oIx_lst, oIx_tup, oIx_frl, oIx_sq, oIx_dT, oIx_dK, getD, oSl, oInt, oSorted, isB, tPut3, tApp3, tDicT, tDicK, tBk3, tCt3, tMin2, tMax2, tNeg3, tIf3E, tAndV3, tOrV3, tNotV3, tIsi, tIndex3, tYes3, tRaise0, tRaise1, tIsE3, tXf3, wipe3, List.set_cons_zero, List.set_cons_succ, List.getElem?_cons_zero, List.getElem?_cons_succ, List.getElem?_nil, Fl.isSt, D.flat, Fl.nb, Fl.item, cond_true, cond_false, Bool.true_or, Bool.or_true, Bool.false_or, Bool.or_false, Bool.and_true, Bool.true_and, Bool.and_false, Bool.false_and, if_true, if_false, ite_true, ite_false, Bool.false_eq_true, Bool.not_true, Bool.not_false, isNon_non, isNon_lst, isNon_tup, isNon_int, isNon_bl, isNon_str, isNon_sq, ty_ii, ty_bi, ty_tt, ty_tl, ty_ti, ty_tn, ty_lt, ty_ll, ty_ib, ty_bb, ni_int, ni_tup, ni_lst, ni_bl, ni_non, List.length_cons, List.length_nil, reduceIte, List.map_cons, List.map_nil, true_and, and_true, Nat.zero_add, Nat.reduceAdd, List.length_map, Nat.zero_le, Int.toNat_natCast]
            refine ⟨_, at_map hc, lt_line (by omega), c, by rw [ixN_nat hc'], ?_⟩
            refine ⟨by omega, ?_⟩
            rw [show ((row.length : Int) - ((c : Nat) + 1)).toNat = row.length - (c + 1) by omega]
            refine forP_rg (fun j s => ∃ (l3 l5 l7 : Sl) (bs' : List Int) (hl' : bs'.length = row.length), s = [.va (.dT T), .va (sq b (intsD row)), .ow (intsD bs'), l3, .ow (intsD (found ++ [row[c]])), l5, .va (.int (c : Nat)), l7] ∧
              ∀ (p : Nat) (hp : p < row.length), bs'[p]'(by omega) = if p = c then -1 else if c < p ∧ p < c + 1 + j ∧ lf T row[c] row[p] = false then bs[p]'(by omega) - 1 else bs[p]'(by omega)) ?_ ?_ ?_
            · refine ⟨_, _, _, bs.set c (-1), by rw [List.length_set]; exact hbl, by rw [intsD_snoc, intsD_set], fun p hp => ?_⟩
              rw [List.getElem_set]
              by_cases e : c = p
              · rw [if_pos e, if_pos e.symm]
              · rw [if_neg e, if_neg (fun z => e z.symm), if_neg (by omega)]
            · rintro j s' hj ⟨l3, l5, l7, bs', hl', rfl, hu⟩
              have hq : c + 1 + j < row.length := by omega
              have hq' : c + 1 + j < bs'.length := by omega
              try simp only [tSeq3, tNx3, tIf3, tRet3, tRetN3, tSet3, tOwn3, tAsg3, tExpr3, tFrz, frzS, tFor3_eq, tLc3_eq, tLc23_eq, tSeq3I_eq, seqK_lst, seqK_tup, seqK_frl, seqK_sq, oTup_lst, oTup_tup, oTup_sq, oList_lst, oList_tup, oList_sq, oLen_lst, oLen_tup, oLen_frl, oLen_sq, flat_sq, tRg1, tRg2, gN3, gT3, gCons3, gNil3, tV3, tC3, tB3, tT3, tIx3, tCh3, tAnd3, tOr3, tNot3, tNil3, tCons3, tTup3, tLst3, tOfL, tCall3, tU3, tUL, tSl3, tNo3, tSome3, tCat3, tRep3, oEq, oNe, oLt_int, oLt_tup, oLe_int, oLe_tup, oGt_int, oGt_tup, oGe_int, oGe_tup, eqD_int, eqD_str, eqD_bl, eqD_non, eqD_tup, eqD_lst, oAdd, oSub, oMul, oDiv, oMod, oPow, oIs, oIsnt, oIn, oNotIn, inD, lookD, oIx_lst, oIx_tup, oIx_frl, oIx_sq, oIx_dT, oIx_dK, getD, oSl, oInt, oSorted, isB, tPut3, tApp3, tDicT, tDicK, tBk3, tCt3, tMin2, tMax2, tNeg3, tIf3E, tAndV3, tOrV3, tNotV3, tIsi, tIndex3, tYes3, tRaise0, tRaise1, tIsE3, tXf3, wipe3, List.set_cons_zero, List.set_cons_succ, List.getElem?_cons_zero, List.getElem?_cons_succ, List.getElem?_nil, Fl.isSt, D.flat, Fl.nb, Fl.item, cond_true, cond_false, Bool.true_or, Bool.or_true, Bool.false_or, Bool.or_false, Bool.and_true, Bool.true_and, Bool.and_false, Bool.false_and, if_true, if_false, ite_true, ite_false, Bool.false_eq_true, Bool.not_true, Bool.not_false, isNon_non, isNon_lst, isNon_tup, isNon_int, isNon_bl, isNon_str, isNon_sq, ty_ii, ty_bi, ty_tt, ty_tl, ty_ti, ty_tn, ty_lt, ty_ll, ty_ib, ty_bb, ni_int, ni_tup, ni_lst, ni_bl, ni_non, List.length_cons, List.length_nil, reduceIte, List.map_cons, List.map_nil, true_and, and_true, Nat.zero_add, Nat.reduceAdd, List.length_map, Nat.zero_le, Int.toNat_natCast]
              rw [show ((c : Nat) : Int) + 1 + (j : Nat) = ((c + 1 + j : Nat) : Int) by omega]
              refine ⟨_, at_map hc, _, at_map hq, T, row[c], row[c + 1 + j], rfl, ?_⟩
              try simp only [tSeq3, tNx3, tIf3, tRet3, tRetN3, tSet3, tOwn3, tAsg3, tExpr3, tFrz, frzS, tFor3_eq, tLc3_eq, tLc23_eq, tSeq3I_eq, seqK_lst, seqK_tup, seqK_frl, seqK_sq, oTup_lst, oTup_tup, oTup_sq, oList_lst, oList_tup, oList_sq, oLen_lst, oLen_tup, oLen_frl, oLen_sq, flat_sq, tRg1, tRg2, gN3, gT3, gCons3, gNil3, tV3, tC3, tB3, tT3, tIx3, tCh3, tAnd3, tOr3, tNot3, tNil3, tCons3, tTup3, tLst3, tOfL, tCall3, tU3, tUL, tSl3, tNo3, tSome3, tCat3, tRep3, oEq, oNe, oLt_int, oLt_tup, oLe_int, oLe_tup, oGt_int, oGt_tup, oGe_int, oGe_tup, eqD_int, eqD_str, eqD_bl, eqD_non, eqD_tup, eqD_lst, oAdd, oSub, oMul, oDiv, oMod, oPow, oIs, oIsnt, oIn, oNotIn, inD, lookD, oIx_lst, oIx_tup, oIx_frl, oIx_sq, oIx_dT, oIx_dK, getD, oSl, oInt, oSorted, isB, tPut3, tApp3, tDicT, tDicK, tBk3, tCt3, tMin2, tMax2, tNeg3, tIf3E, tAndV3, tOrV3, tNotV3, tIsi, tIndex3, tYes3, tRaise0, tRaise1, tIsE3, tXf3, wipe3, List.set_cons_zero, List.set_cons_succ, List.getElem?_cons_zero, List.getElem?_cons_succ, List.getElem?_nil, Fl.isSt, D.flat, Fl.nb, Fl.item, cond_true, cond_false, Bool.true_or, Bool.or_true, Bool.false_or, Bool.or_false, Bool.and_true, Bool.true_and, Bool.and_false, Bool.false_and, if_true, if_false, ite_true, ite_false, Bool.false_eq_true, Bool.not_true, Bool.not_false, isNon_non, isNon_lst, isNon_tup, isNon_int, isNon_bl, isNon_str, isNon_sq, ty_ii, ty_bi, ty_tt, ty_tl, ty_ti, ty_tn, ty_lt, ty_ll, ty_ib, ty_bb, ni_int, ni_tup, ni_lst, ni_bl, ni_non, List.length_cons, List.length_nil, reduceIte, List.map_cons, List.map_nil, true_and, and_true, Nat.zero_add, Nat.reduceAdd, List.length_map, Nat.zero_le, Int.toNat_natCast]
              cases hb : lf T row[c] row[c + 1 + j] with
              | true =>
                simp only [Bool.not_true, Bool.false_eq_true, if_false]
                refine ⟨_, _, _, bs', hl', rfl, fun p hp => ?_⟩
                rw [hu p hp]
                by_cases e : p = c + 1 + j
                · subst e
                  simp [hb]
                · by_cases e2 : p < c + 1 + j
                  · have e3 : p < c + 1 + (j + 1) := by omega
                    simp only [e2, e3]
                  · have e3 : ¬ p < c + 1 + (j + 1) := by omega
                    simp only [e2, e3]
              | false =>
                simp only [Bool.not_false, if_true]
                refine ⟨_, at_map hq', ?_⟩
                try simp only [tSeq3, tNx3, tIf3, tRet3, tRetN3, tSet3, tOwn3, tAsg3, tExpr3, tFrz, frzS, tFor3_eq, tLc3_eq, tLc23_eq, tSeq3I_eq, seqK_lst, seqK_tup, seqK_frl, seqK_sq, oTup_lst, oTup_tup, oTup_sq, oList_lst, oList_tup, oList_sq, oLen_lst, oLen_tup, oLen_frl, oLen_sq, flat_sq, tRg1, tRg2, gN3, gT3, gCons3, gNil3, tV3, tC3, tB3, tT3, tIx3, tCh3, tAnd3, tOr3, tNot3, tNil3, tCons3, tTup3, tLst3, tOfL, tCall3, tU3, tUL, tSl3, tNo3, tSome3, tCat3, tRep3, oEq, oNe, oLt_int, oLt_tup, oLe_int, oLe_tup, oGt_int, oGt_tup, oGe_int, oGe_tup, eqD_int, eqD_str, eqD_bl, eqD_non, eqD_tup, eqD_lst, oAdd, oSub, oMul, oDiv, oMod, oPow, oIs, oIsnt, oIn, oNotIn, inD, lookD, oIx_lst, oIx_tup, oIx_frl, oIx_sq, oIx_dT, oIx_dK, getD, oSl, oInt, oSorted, isB, tPut3, tApp3, tDicT, tDicK, tBk3, tCt3, tMin2, tMax2, tNeg3, tIf3E, tAndV3, tOrV3, tNotV3, tIsi, tIndex3, tYes3, tRaise0, tRaise1, tIsE3, tXf3, wipe3, List.set_cons_zero, List.set_cons_succ, List.getElem?_cons_zero, List.getElem?_cons_succ, List.getElem?_nil, Fl.isSt, D.flat, Fl.nb, Fl.item, cond_true, cond_false, Bool.true_or, Bool.or_true, Bool.false_or, Bool.or_false, Bool.and_true, Bool.true_and, Bool.and_false, Bool.false_and, if_true, if_false, ite_true, ite_false, Bool.false_eq_true, Bool.not_true, Bool.not_false, isNon_non, isNon_lst, isNon_tup, isNon_int, isNon_bl, isNon_str, isNon_sq, ty_ii, ty_bi, ty_tt, ty_tl, ty_ti, ty_tn, ty_lt, ty_ll, ty_ib, ty_bb, ni_int, ni_tup, ni_lst, ni_bl, ni_non, List.length_cons, List.length_nil, reduceIte, List.map_cons, List.map_nil, true_and, and_true, Nat.zero_add, Nat.reduceAdd, List.length_map, Nat.zero_le, Int.toNat_natCast]
                refine ⟨c + 1 + j, by rw [ixN_nat hq'], _, _, _, bs'.set (c + 1 + j) (bs'[c + 1 + j] - 1), by rw [List.length_set]; exact hl', by rw [intsD_set], fun p hp => ?_⟩
                rw [List.getElem_set]
                by_cases e : c + 1 + j = p
                · subst e
                  rw [if_pos rfl, hu _ hq, if_neg (by omega), if_neg (by omega), if_neg (by omega), if_pos ⟨by omega, by omega, hb⟩]
                · rw [if_neg e, hu p hp]
                  by_cases e2 : p < c + 1 + j
                  · have e3 : p < c + 1 + (j + 1) := by omega
                    simp only [e2, e3]
                  · have e3 : ¬ p < c + 1 + (j + 1) := by omega
                    simp only [e2, e3]
            · rintro s' ⟨l3, l5, l7, bs', hl', rfl, hu⟩
              obtain ⟨t1, t2, t3⟩ := turn bs' hl' (fun p hp => by
                rw [hu p hp]
                by_cases e : p = c
                · rw [if_pos e, if_pos e]
                · rw [if_neg e, if_neg e]
                  have e2 : p < c + 1 + (row.length - (c + 1)) := by omega
                  simp only [e2, true_and])
              have hm : ∀ y, isF (lf T) (leftB row bs) y = true → row[c] ≤ y := fun y hy => by
                obtain ⟨p, hp, hz, hr⟩ := b_has0 irr hbl binv hy
                rw [← hr]
                exact hmin p hp hp hz
              have hle := List.length_erase_of_mem (isF_mem t1)
              have hpos := List.length_pos_of_mem (isF_mem t1)
              refine ⟨_, _, _, _, bs', found ++ [row[c]], rfl, hl', t2, ?_, by rw [List.length_append, hfl]; rfl, by rw [t3, hle]; omega⟩
              rw [t3, List.append_assoc, ← hfound, least_cons t1 hm]
              rfl
      · rintro s' ⟨l3', l5', l6', l7', bs, found, rfl, hbl, binv, hfound, hfl, hleft⟩
        have e : leftB row bs = [] := List.length_eq_zero_iff.mp (by have h1 : (leftB row bs).length + (Int.toNat (row.length : Nat)) = row.length := hleft; rw [Int.toNat_natCast] at h1; omega)
        rw [e, least_nil, List.append_nil] at hfound
        rw [← hfound] at k
        try simp only [tSeq3, tNx3, tIf3, tRet3, tRetN3, tSet3, tOwn3, tAsg3, tExpr3, tFrz, frzS, tFor3_eq, tLc3_eq, tLc23_eq, tSeq3I_eq, seqK_lst, seqK_tup, seqK_frl, seqK_sq, oTup_lst, oTup_tup, oTup_sq, oList_lst, oList_tup, oList_sq, oLen_lst, oLen_tup, oLen_frl, oLen_sq, flat_sq, tRg1, tRg2, gN3, gT3, gCons3, gNil3, tV3, tC3, tB3, tT3, tIx3, tCh3, tAnd3, tOr3, tNot3, tNil3, tCons3, tTup3, tLst3, tOfL, tCall3, tU3, tUL, tSl3, tNo3, tSome3, tCat3, tRep3, oEq, oNe, oLt_int, oLt_tup, oLe_int, oLe_tup, oGt_int, oGt_tup, oGe_int, oGe_tup, eqD_int, eqD_str, eqD_bl, eqD_non, eqD_tup, eqD_lst, oAdd, oSub, oMul, oDiv, oMod, oPow, oIs, oIsnt, oIn, oNotIn, inD, lookD, oIx_lst, oIx_tup, oIx_frl, oIx_sq, oIx_dT, oIx_dK, getD, oSl, oInt, oSorted, isB, tPut3, tApp3, tDicT, tDicK, tBk3, tCt3, tMin2, tMax2, tNeg3, tIf3E, tAndV3, tOrV3, tNotV3, tIsi, tIndex3, tYes3, tRaise0, tRaise1, tIsE3, tXf3, wipe3, List.set_cons_zero, List.set_cons_succ, List.getElem?_cons_zero, List.getElem?_cons_succ, List.getElem?_nil, Fl.isSt, D.flat, Fl.nb, Fl.item, cond_true, cond_false, Bool.true_or, Bool.or_true, Bool.false_or, Bool.or_false, Bool.and_true, Bool.true_and, Bool.and_false, Bool.false_and, if_true, if_false, ite_true, ite_false, Bool.false_eq_true, Bool.not_true, Bool.not_false, isNon_non, isNon_lst, isNon_tup, isNon_int, isNon_bl, isNon_str, isNon_sq, ty_ii, ty_bi, ty_tt, ty_tl, ty_ti, ty_tn, ty_lt, ty_ll, ty_ib, ty_bb, ni_int, ni_tup, ni_lst, ni_bl, ni_non, List.length_cons, List.length_nil, reduceIte, List.map_cons, List.map_nil, true_and, and_true, Nat.zero_add, Nat.reduceAdd, List.length_map, Nat.zero_le, Int.toNat_natCast]
        exact k
theorem behind_len {fr : Int → Int → Bool} : ∀ {s a r : List Int}, behind fr s a = some r → r.length ≤ a.length
  | [], a, r, h => by cases h; exact Nat.le_refl _
  | x :: s, a, r, h => by
    rw [behind] at h
    cases ht : taken fr a x with
    | none => rw [ht] at h; cases h
    | some a' =>
      rw [ht] at h
      have h1 := behind_len (show behind fr s a' = some r from h)
      have h2 := taken_len ht
      omega
theorem isNon_optD (o : Option (List Int)) : isNon (optD o) = !o.isSome := by cases o <;> rfl
/-! _law_beginning: 0 table, 1 log, 2 draws, 3 left, 4 start, 5 turn, 6 letters, 7 letter -/
abbrev s__law_beginning : Stmt := topS 32
theorem sc__law_beginning : FnScope ["table", "log", "draws", "left", "start", "turn", "letters", "letter"] ["table", "log", "draws"] (defScope s__law_beginning) := ⟨rfl, rfl, rfl, by decide +kernel, rfl, by decide +kernel, by decide +kernel⟩
def fs__law_beginning (ex : Str → Addr) : FS := fun as q _ => ∃ T lg dr, as = [.dT T, .lst (intsD lg), .lst (intsD dr)] ∧ lg.length ≤ 1000 ∧ dr.length = 16 ∧ ∀ st l, behind (lf T) st lg = some l → (∀ x ∈ st, x ∈ lg) → st.length ≤ 9 → q (.lst (intsD st))
theorem ok__law_beginning {P : Program} {w : World} {K : PySem.W.Frag} {mg : Str → Option Value} {base : Heap} {ex : Str → Addr} {f : Addr} {fd : FuncData} (T : Tx P w K mg base ex) (C__law_taken : Callee P w K mg base "_law_taken" 2 3 (fs__law_taken ex)) (F : Fun K "_law_beginning" "_law_beginning" s__law_beginning f fd) (gm : mg "_law_beginning" = some (.ref f)) (bi : Binds K fd ["table", "log", "draws"] []) : Callee P w K mg base "_law_beginning" 3 3 (fs__law_beginning ex) := by
  refine callee_mk F gm bi (fun3 (fs__law_beginning ex) F sc__law_beginning ⟨_, fun cdv A outer s H E hr tk hp =>
      (ss3cons (s3set (i := 3) sc__law_beginning.nd rfl (by first | exact .inl rfl | exact .inr rfl) (PL3.val (l3t1 c3list rfl T.b_list bt_list (p3v 1))))
      (ss3cons (s3own (i := 4) sc__law_beginning.nd rfl (by first | exact .inl rfl | exact .inr rfl) (l3lst a3nil))
      (ss3cons (s3for hp rfl (i3range1 rfl T.b_range (p3min2 rfl rfl T.b_min (p3b1 c3len rfl T.b_len bt_len (p3v 1)) (p3op op3mod (p3t1 c3int rfl T.b_int bt_int (p3ix (deep_of hr) (p3v 2) p3int)) p3int))) (g3name (i := 5) sc__law_beginning.nd rfl (by first | exact .inl rfl | exact .inr rfl))
        (ss3cons (s3setLc (i := 6) rfl sc__law_beginning.nd rfl rfl (sw_true rfl rfl rfl (by decide +kernel)) (blkOk_by (N := ["table", "log", "draws", "left", "start", "turn", "letters", "letter"]) (sc := defScope s__law_beginning) (own := [("letter", 7)]) (by decide +kernel)) (i3seq (p3v 3)) (by decide) (fun _ _ _ _ _ => (g3name (i := 7) sc__law_beginning.nd rfl (by first | exact .inl rfl | exact .inr rfl))) (fun _ _ _ _ _ => (ts3one (t3cmp op3isnt (p3callC C__law_taken hr (by decide) takes0 rfl (a3cons (p3v 0) (a3cons (p3v 3) (a3cons (p3v 7) a3nil)))) p3non))) (fun _ _ _ _ _ => (p3v 7)))
        (ss3cons (s3set (i := 7) sc__law_beginning.nd rfl (by first | exact .inl rfl | exact .inr rfl) (p3ix (deep_of hr) (p3v 6) (p3op op3mod (p3t1 c3int rfl T.b_int bt_int (p3ix (deep_of hr) (p3v 2) (p3op op3add p3int (p3v 5)))) (p3b1 c3len rfl T.b_len bt_len (p3v 6)))))
        (ss3cons (s3app (i := 4) (p3v 7))
        (ss3one (s3set (i := 3) sc__law_beginning.nd rfl (by first | exact .inl rfl | exact .inr rfl) (p3callC C__law_taken hr (by decide) tk rfl (a3cons (p3v 0) (a3cons (p3v 3) (a3cons (p3v 7) a3nil))))))))))
      (ss3one (s3ret (p3v 4)))))), ?_⟩)
  intro ds q z hl h
  obtain ⟨T, lg, dr, rfl, hz, hd, k⟩ := h
  simp only [start3, List.map_cons, List.map_nil, List.length_cons, List.length_nil, List.cons_append, List.nil_append, Nat.reduceAdd, Nat.reduceSub, Nat.zero_add, List.replicate, if_true, if_false, Bool.false_eq_true, reduceIte]
  try simp only [tSeq3, tNx3, tIf3, tRet3, tRetN3, tSet3, tOwn3, tAsg3, tExpr3, tFrz, frzS, tFor3_eq, tLc3_eq, tLc23_eq, tSeq3I_eq, seqK_lst, seqK_tup, seqK_frl, seqK_sq, oTup_lst, oTup_tup, oTup_sq, oList_lst, oList_tup, oList_sq, oLen_lst, oLen_tup, oLen_frl, oLen_sq, flat_sq, tRg1, tRg2, gN3, gT3, gCons3, gNil3, tV3, tC3, tB3, tT3, tIx3, tCh3, tAnd3, tOr3, tNot3, tNil3, tCons3, tTup3, tLst3, tOfL, tCall3, tU3, tUL, tSl3, tNo3, tSome3, tCat3, tRep3, oEq, oNe, oLt_int, oLt_tup, oLe_int, oLe_tup, oGt_int, oGt_tup, oGe_int, oGe_tup, eqD_int, eqD_str, eqD_bl, eqD_non, eqD_tup, eqD_lst, oAdd, oSub, oMul, oDiv, oMod, oPow, oIs, oIsnt, oIn, oNotIn, inD, lookD, oIx_lst, oIx_tup, oIx_frl, oIx_sq, oIx_dT, oIx_dK, getD, oSl, oInt, oSorted, isB, tPut3, tApp3, tDicT, tDicK, tBk3, tCt3, tMin2, tMax2, tNeg3, tIf3E, tAndV3, tOrV3, tNotV3, tIsi, tIndex3, tYes3, tRaise0, tRaise1, tIsE3, tXf3, wipe3, List.set_cons_zero, List.set_cons_succ, List.getElem?_cons_zero, List.getElem?_cons_succ, List.getElem?_nil, Fl.isSt, D.flat, Fl.nb, Fl.item, cond_true, cond_false, Bool.true_or, Bool.or_true, Bool.false_or, Bool.or_false, Bool.and_true, Bool.true_and, Bool.and_false, Bool.false_and, if_true, if_false, ite_true, ite_false, Bool.false_eq_true, Bool.not_true, Bool.not_false, isNon_non, isNon_lst, isNon_tup, isNon_int, isNon_bl, isNon_str, isNon_sq, ty_ii, ty_bi, ty_tt, ty_tl, ty_ti, ty_tn, ty_lt, ty_ll, ty_ib, ty_bb, ni_int, ni_tup, ni_lst, ni_bl, ni_non, List.length_cons, List.length_nil, reduceIte, List.map_cons, List.map_nil, true_and, and_true, Nat.zero_add, Nat.reduceAdd, List.length_map, Nat.zero_le, Int.toNat_natCast]
  refine ⟨_, at_map (k := 0) (by omega), ?_⟩
  try simp only [tSeq3, tNx3, tIf3, tRet3, tRetN3, tSet3, tOwn3, tAsg3, tExpr3, tFrz, frzS, tFor3_eq, tLc3_eq, tLc23_eq, tSeq3I_eq, seqK_lst, seqK_tup, seqK_frl, seqK_sq, oTup_lst, oTup_tup, oTup_sq, oList_lst, oList_tup, oList_sq, oLen_lst, oLen_tup, oLen_frl, oLen_sq, flat_sq, tRg1, tRg2, gN3, gT3, gCons3, gNil3, tV3, tC3, tB3, tT3, tIx3, tCh3, tAnd3, tOr3, tNot3, tNil3, tCons3, tTup3, tLst3, tOfL, tCall3, tU3, tUL, tSl3, tNo3, tSome3, tCat3, tRep3, oEq, oNe, oLt_int, oLt_tup, oLe_int, oLe_tup, oGt_int, oGt_tup, oGe_int, oGe_tup, eqD_int, eqD_str, eqD_bl, eqD_non, eqD_tup, eqD_lst, oAdd, oSub, oMul, oDiv, oMod, oPow, oIs, oIsnt, oIn, oNotIn, inD, lookD, oIx_lst, oIx_tup, oIx_frl, oIx_sq, oIx_dT, oIx_dK, getD, oSl, oInt, oSorted, isB, tPut3, tApp3, tDicT, tDicK, tBk3, tCt3, tMin2, tMax2, tNeg3, tIf3E, tAndV3, tOrV3, tNotV3, tIsi, tIndex3, tYes3, tRaise0, tRaise1, tIsE3, tXf3, wipe3, List.set_cons_zero, List.set_cons_succ, List.getElem?_cons_zero, List.getElem?_cons_succ, List.getElem?_nil, Fl.isSt, D.flat, Fl.nb, Fl.item, cond_true, cond_false, Bool.true_or, Bool.or_true, Bool.false_or, Bool.or_false, Bool.and_true, Bool.true_and, Bool.and_false, Bool.false_and, if_true, if_false, ite_true, ite_false, Bool.false_eq_true, Bool.not_true, Bool.not_false, isNon_non, isNon_lst, isNon_tup, isNon_int, isNon_bl, isNon_str, isNon_sq, ty_ii, ty_bi, ty_tt, ty_tl, ty_ti, ty_tn, ty_lt, ty_ll, ty_ib, ty_bb, ni_int, ni_tup, ni_lst, ni_bl, ni_non, List.length_cons, List.length_nil, reduceIte, List.map_cons, List.map_nil, true_and, and_true, Nat.zero_add, Nat.reduceAdd, List.length_map, Nat.zero_le, Int.toNat_natCast]
  refine ⟨by decide, ?_⟩
  have hd0 : 0 ≤ dr[0] % 10 ∧ dr[0] % 10 < 10 := by omega
  generalize hm : (if dr[0] % 10 < (lg.length : Int) then dr[0] % 10 else (lg.length : Int)) = m
  have hm1 : 0 ≤ m ∧ m < 10 ∧ m ≤ lg.length := by
    split at hm <;> omega
  refine ⟨by omega, ?_⟩
  refine forP_rg (fun i s => ∃ (l5 l6 l7 : Sl) (left st : List Int), s = [.va (.dT T), .va (.lst (intsD lg)), .va (.lst (intsD dr)), .va (.lst (intsD left)), .ow (intsD st), l5, l6, l7] ∧ behind (lf T) st lg = some left ∧ (∀ x ∈ st, x ∈ lg) ∧ st.length = i ∧ left.length + i = lg.length ∧ ∀ x ∈ left, x ∈ lg) ?_ ?_ ?_
  · exact ⟨_, _, _, lg, [], rfl, rfl, fun x hx => by simp at hx, rfl, rfl, fun x hx => hx⟩
  · rintro i s' hi ⟨l5, l6, l7, left, st, rfl, hb, hmem, hsl, hll, hlm⟩
    have hi' : i < 10 := by omega
    have hi2 : i < lg.length := by omega
    try simp only [tSeq3, tNx3, tIf3, tRet3, tRetN3, tSet3, tOwn3, tAsg3, tExpr3, tFrz, frzS, tFor3_eq, tLc3_eq, tLc23_eq, tSeq3I_eq, seqK_lst, seqK_tup, seqK_frl, seqK_sq, oTup_lst, oTup_tup, oTup_sq, oList_lst, oList_tup, oList_sq, oLen_lst, oLen_tup, oLen_frl, oLen_sq, flat_sq, tRg1, tRg2, gN3, gT3, gCons3, gNil3, tV3, tC3, tB3, tT3, tIx3, tCh3, tAnd3, tOr3, tNot3, tNil3, tCons3, tTup3, tLst3, tOfL, tCall3, tU3, tUL, tSl3, tNo3, tSome3, tCat3, tRep3, oEq, oNe, oLt_int, oLt_tup, oLe_int, oLe_tup, oGt_int, oGt_tup, oGe_int, oGe_tup, eqD_int, eqD_str, eqD_bl, eqD_non, eqD_tup, eqD_lst, oAdd, oSub, oMul, oDiv, oMod, oPow, oIs, oIsnt, oIn, oNotIn, inD, lookD, oIx_lst, oIx_tup, oIx_frl, oIx_sq, oIx_dT, oIx_dK, getD, oSl, oInt, oSorted, isB, tPut3, tApp3, tDicT, tDicK, tBk3, tCt3, tMin2, tMax2, tNeg3, tIf3E, tAndV3, tOrV3, tNotV3, tIsi, tIndex3, tYes3, tRaise0, tRaise1, tIsE3, tXf3, wipe3, List.set_cons_zero, List.set_cons_succ, List.getElem?_cons_zero, List.getElem?_cons_succ, List.getElem?_nil, Fl.isSt, D.flat, Fl.nb, Fl.item, cond_true, cond_false, Bool.true_or, Bool.or_true, Bool.false_or, Bool.or_false, Bool.and_true, Bool.true_and, Bool.and_false, Bool.false_and, if_true, if_false, ite_true, ite_false, Bool.false_eq_true, Bool.not_true, Bool.not_false, isNon_non, isNon_lst, isNon_tup, isNon_int, isNon_bl, isNon_str, isNon_sq, ty_ii, ty_bi, ty_tt, ty_tl, ty_ti, ty_tn, ty_lt, ty_ll, ty_ib, ty_bb, ni_int, ni_tup, ni_lst, ni_bl, ni_non, List.length_cons, List.length_nil, reduceIte, List.map_cons, List.map_nil, true_and, and_true, Nat.zero_add, Nat.reduceAdd, List.length_map, Nat.zero_le, Int.toNat_natCast]
    refine lcP_d (f := D.int) (xs := left) (fun x => isF (lf T) left x) D.int (le_line (by omega)) (fun x hx acc R ha hR => ?_) ?_
    · try simp only [tSeq3, tNx3, tIf3, tRet3, tRetN3, tSet3, tOwn3, tAsg3, tExpr3, tFrz, frzS, tFor3_eq, tLc3_eq, tLc23_eq, tSeq3I_eq, seqK_lst, seqK_tup, seqK_frl, seqK_sq, oTup_lst, oTup_tup, oTup_sq, oList_lst, oList_tup, oList_sq, oLen_lst, oLen_tup, oLen_frl, oLen_sq, flat_sq, tRg1, tRg2, gN3, gT3, gCons3, gNil3, tV3, tC3, tB3, tT3, tIx3, tCh3, tAnd3, tOr3, tNot3, tNil3, tCons3, tTup3, tLst3, tOfL, tCall3, tU3, tUL, tSl3, tNo3, tSome3, tCat3, tRep3, oEq, oNe, oLt_int, oLt_tup, oLe_int, oLe_tup, oGt_int, oGt_tup, oGe_int, oGe_tup, eqD_int, eqD_str, eqD_bl, eqD_non, eqD_tup, eqD_lst, oAdd, oSub, oMul, oDiv, oMod, oPow, oIs, oIsnt, oIn, oNotIn, inD, lookD, oIx_lst, oIx_tup, oIx_frl, oIx_sq, oIx_dT, oIx_dK, getD, oSl, oInt, oSorted, isB, tPut3, tApp3, tDicT, tDicK, tBk3, tCt3, tMin2, tMax2, tNeg3, tIf3E, tAndV3, tOrV3, tNotV3, tIsi, tIndex3, tYes3, tRaise0, tRaise1, tIsE3, tXf3, wipe3, List.set_cons_zero, List.set_cons_succ, List.getElem?_cons_zero, List.getElem?_cons_succ, List.getElem?_nil, Fl.isSt, D.flat, Fl.nb, Fl.item, cond_true, cond_false, Bool.true_or, Bool.or_true, Bool.false_or, Bool.or_false, Bool.and_true, Bool.true_and, Bool.and_false, Bool.false_and, if_true, if_false, ite_true, ite_false, Bool.false_eq_true, Bool.not_true, Bool.not_false, isNon_non, isNon_lst, isNon_tup, isNon_int, isNon_bl, isNon_str, isNon_sq, ty_ii, ty_bi, ty_tt, ty_tl, ty_ti, ty_tn, ty_lt, ty_ll, ty_ib, ty_bb, ni_int, ni_tup, ni_lst, ni_bl, ni_non, List.length_cons, List.length_nil, reduceIte, List.map_cons, List.map_nil, true_and, and_true, Nat.zero_add, Nat.reduceAdd, List.length_map, Nat.zero_le, Int.toNat_natCast]
      refine ⟨T, left, x, rfl, by omega, ?_⟩
      try simp only [tSeq3, tNx3, tIf3, tRet3, tRetN3, tSet3, tOwn3, tAsg3, tExpr3, tFrz, frzS, tFor3_eq, tLc3_eq, tLc23_eq, tSeq3I_eq, seqK_lst, seqK_tup, seqK_frl, seqK_sq, oTup_lst, oTup_tup, oTup_sq, oList_lst, oList_tup, oList_sq, oLen_lst, oLen_tup, oLen_frl, oLen_sq, flat_sq, tRg1, tRg2, gN3, gT3, gCons3, gNil3, tV3, tC3, tB3, tT3, tIx3, tCh3, tAnd3, tOr3, tNot3, tNil3, tCons3, tTup3, tLst3, tOfL, tCall3, tU3, tUL, tSl3, tNo3, tSome3, tCat3, tRep3, oEq, oNe, oLt_int, oLt_tup, oLe_int, oLe_tup, oGt_int, oGt_tup, oGe_int, oGe_tup, eqD_int, eqD_str, eqD_bl, eqD_non, eqD_tup, eqD_lst, oAdd, oSub, oMul, oDiv, oMod, oPow, oIs, oIsnt, oIn, oNotIn, inD, lookD, oIx_lst, oIx_tup, oIx_frl, oIx_sq, oIx_dT, oIx_dK, getD, oSl, oInt, oSorted, isB, tPut3, tApp3, tDicT, tDicK, tBk3, tCt3, tMin2, tMax2, tNeg3, tIf3E, tAndV3, tOrV3, tNotV3, tIsi, tIndex3, tYes3, tRaise0, tRaise1, tIsE3, tXf3, wipe3, List.set_cons_zero, List.set_cons_succ, List.getElem?_cons_zero, List.getElem?_cons_succ, List.getElem?_nil, Fl.isSt, D.flat, Fl.nb, Fl.item, cond_true, cond_false, Bool.true_or, Bool.or_true, Bool.false_or, Bool.or_false, Bool.and_true, Bool.true_and, Bool.and_false, Bool.false_and, if_true, if_false, ite_true, ite_false, Bool.false_eq_true, Bool.not_true, Bool.not_false, isNon_non, isNon_lst, isNon_tup, isNon_int, isNon_bl, isNon_str, isNon_sq, ty_ii, ty_bi, ty_tt, ty_tl, ty_ti, ty_tn, ty_lt, ty_ll, ty_ib, ty_bb, ni_int, ni_tup, ni_lst, ni_bl, ni_non, List.length_cons, List.length_nil, reduceIte, List.map_cons, List.map_nil, true_and, and_true, Nat.zero_add, Nat.reduceAdd, List.length_map, Nat.zero_le, Int.toNat_natCast]
      rw [isNon_optD]
      simp only [Bool.not_not]
      by_cases hf : isF (lf T) left x = true
      · rw [if_pos hf] at hR
        unfold isF at hf
        rw [if_pos hf]
        try simp only [tSeq3, tNx3, tIf3, tRet3, tRetN3, tSet3, tOwn3, tAsg3, tExpr3, tFrz, frzS, tFor3_eq, tLc3_eq, tLc23_eq, tSeq3I_eq, seqK_lst, seqK_tup, seqK_frl, seqK_sq, oTup_lst, oTup_tup, oTup_sq, oList_lst, oList_tup, oList_sq, oLen_lst, oLen_tup, oLen_frl, oLen_sq, flat_sq, tRg1, tRg2, gN3, gT3, gCons3, gNil3, tV3, tC3, tB3, tT3, tIx3, tCh3, tAnd3, tOr3, tNot3, tNil3, tCons3, tTup3, tLst3, tOfL, tCall3, tU3, tUL, tSl3, tNo3, tSome3, tCat3, tRep3, oEq, oNe, oLt_int, oLt_tup, oLe_int, oLe_tup, oGt_int, oGt_tup, oGe_int, oGe_tup, eqD_int, eqD_str, eqD_bl, eqD_non, eqD_tup, eqD_lst, oAdd, oSub, oMul, oDiv, oMod, oPow, oIs, oIsnt, oIn, oNotIn, inD, lookD, oIx_lst, oIx_tup, oIx_frl, oIx_sq, oIx_dT, oIx_dK, getD, oSl, oInt, oSorted, isB, tPut3, tApp3, tDicT, tDicK, tBk3, tCt3, tMin2, tMax2, tNeg3, tIf3E, tAndV3, tOrV3, tNotV3, tIsi, tIndex3, tYes3, tRaise0, tRaise1, tIsE3, tXf3, wipe3, List.set_cons_zero, List.set_cons_succ, List.getElem?_cons_zero, List.getElem?_cons_succ, List.getElem?_nil, Fl.isSt, D.flat, Fl.nb, Fl.item, cond_true, cond_false, Bool.true_or, Bool.or_true, Bool.false_or, Bool.or_false, Bool.and_true, Bool.true_and, Bool.and_false, Bool.false_and, if_true, if_false, ite_true, ite_false, Bool.false_eq_true, Bool.not_true, Bool.not_false, isNon_non, isNon_lst, isNon_tup, isNon_int, isNon_bl, isNon_str, isNon_sq, ty_ii, ty_bi, ty_tt, ty_tl, ty_ti, ty_tn, ty_lt, ty_ll, ty_ib, ty_bb, ni_int, ni_tup, ni_lst, ni_bl, ni_non, List.length_cons, List.length_nil, reduceIte, List.map_cons, List.map_nil, true_and, and_true, Nat.zero_add, Nat.reduceAdd, List.length_map, Nat.zero_le, Int.toNat_natCast]
        exact ⟨ha, hR⟩
      · rw [if_neg hf, List.append_nil] at hR
        unfold isF at hf
        rw [if_neg hf]
        exact hR
    · have hpos : 0 < (left.filter fun x => isF (lf T) left x).length := by
        cases left with
        | nil => simp only [List.length_nil, Nat.zero_add] at hll; omega
        | cons c r => exact List.length_pos_of_mem (List.mem_filter.mpr ⟨List.mem_cons_self, isF_head c r⟩)
      generalize hL : (left.filter fun x => isF (lf T) left x) = L at hpos ⊢
      have hLm : ∀ x ∈ L, isF (lf T) left x = true := fun x hx => by rw [← hL] at hx; exact (List.mem_filter.mp hx).2
      rw [show (1 : Int) + (0 + (i : Nat)) = ((1 + i : Nat) : Int) by omega]
      refine ⟨_, at_map (by omega), ?_⟩
      try simp only [tSeq3, tNx3, tIf3, tRet3, tRetN3, tSet3, tOwn3, tAsg3, tExpr3, tFrz, frzS, tFor3_eq, tLc3_eq, tLc23_eq, tSeq3I_eq, seqK_lst, seqK_tup, seqK_frl, seqK_sq, oTup_lst, oTup_tup, oTup_sq, oList_lst, oList_tup, oList_sq, oLen_lst, oLen_tup, oLen_frl, oLen_sq, flat_sq, tRg1, tRg2, gN3, gT3, gCons3, gNil3, tV3, tC3, tB3, tT3, tIx3, tCh3, tAnd3, tOr3, tNot3, tNil3, tCons3, tTup3, tLst3, tOfL, tCall3, tU3, tUL, tSl3, tNo3, tSome3, tCat3, tRep3, oEq, oNe, oLt_int, oLt_tup, oLe_int, oLe_tup, oGt_int, oGt_tup, oGe_int, oGe_tup, eqD_int, eqD_str, eqD_bl, eqD_non, eqD_tup, eqD_lst, oAdd, oSub, oMul, oDiv, oMod, oPow, oIs, oIsnt, oIn, oNotIn, inD, lookD, oIx_lst, oIx_tup, oIx_frl, oIx_sq, oIx_dT, oIx_dK, getD, oSl, oInt, oSorted, isB, tPut3, tApp3, tDicT, tDicK, tBk3, tCt3, tMin2, tMax2, tNeg3, tIf3E, tAndV3, tOrV3, tNotV3, tIsi, tIndex3, tYes3, tRaise0, tRaise1, tIsE3, tXf3, wipe3, List.set_cons_zero, List.set_cons_succ, List.getElem?_cons_zero, List.getElem?_cons_succ, List.getElem?_nil, Fl.isSt, D.flat, Fl.nb, Fl.item, cond_true, cond_false, Bool.true_or, Bool.or_true, Bool.false_or, Bool.or_false, Bool.and_true, Bool.true_and, Bool.and_false, Bool.false_and, if_true, if_false, ite_true, ite_false, Bool.false_eq_true, Bool.not_true, Bool.not_false, isNon_non, isNon_lst, isNon_tup, isNon_int, isNon_bl, isNon_str, isNon_sq, ty_ii, ty_bi, ty_tt, ty_tl, ty_ti, ty_tn, ty_lt, ty_ll, ty_ib, ty_bb, ni_int, ni_tup, ni_lst, ni_bl, ni_non, List.length_cons, List.length_nil, reduceIte, List.map_cons, List.map_nil, true_and, and_true, Nat.zero_add, Nat.reduceAdd, List.length_map, Nat.zero_le, Int.toNat_natCast]
      have hdr1 := Int.emod_nonneg dr[1 + i] (b := (L.length : Int)) (by omega)
      have hdr2 := Int.emod_lt_of_pos dr[1 + i] (b := (L.length : Int)) (by omega)
      refine ⟨by omega, ?_⟩
      obtain ⟨m, hmm⟩ := Int.eq_ofNat_of_zero_le hdr1
      rw [hmm] at hdr2 ⊢
      have hml : m < L.length := by omega
      refine ⟨_, at_map hml, lt_line (by omega), ?_⟩
      have hf := hLm L[m] (List.getElem_mem hml)
      try simp only [tSeq3, tNx3, tIf3, tRet3, tRetN3, tSet3, tOwn3, tAsg3, tExpr3, tFrz, frzS, tFor3_eq, tLc3_eq, tLc23_eq, tSeq3I_eq, seqK_lst, seqK_tup, seqK_frl, seqK_sq, oTup_lst, oTup_tup, oTup_sq, oList_lst, oList_tup, oList_sq, oLen_lst, oLen_tup, oLen_frl, oLen_sq, flat_sq, tRg1, tRg2, gN3, gT3, gCons3, gNil3, tV3, tC3, tB3, tT3, tIx3, tCh3, tAnd3, tOr3, tNot3, tNil3, tCons3, tTup3, tLst3, tOfL, tCall3, tU3, tUL, tSl3, tNo3, tSome3, tCat3, tRep3, oEq, oNe, oLt_int, oLt_tup, oLe_int, oLe_tup, oGt_int, oGt_tup, oGe_int, oGe_tup, eqD_int, eqD_str, eqD_bl, eqD_non, eqD_tup, eqD_lst, oAdd, oSub, oMul, oDiv, oMod, oPow, oIs, oIsnt, oIn, oNotIn, inD, lookD, oIx_lst, oIx_tup, oIx_frl, oIx_sq, oIx_dT, oIx_dK, getD, oSl, oInt, oSorted, isB, tPut3, tApp3, tDicT, tDicK, tBk3, tCt3, tMin2, tMax2, tNeg3, tIf3E, tAndV3, tOrV3, tNotV3, tIsi, tIndex3, tYes3, tRaise0, tRaise1, tIsE3, tXf3, wipe3, List.set_cons_zero, List.set_cons_succ, List.getElem?_cons_zero, List.getElem?_cons_succ, List.getElem?_nil, Fl.isSt, D.flat, Fl.nb, Fl.item, cond_true, cond_false, Bool.true_or, Bool.or_true, Bool.false_or, Bool.or_false, Bool.and_true, Bool.true_and, Bool.and_false, Bool.false_and, if_true, if_false, ite_true, ite_false, Bool.false_eq_true, Bool.not_true, Bool.not_false, isNon_non, isNon_lst, isNon_tup, isNon_int, isNon_bl, isNon_str, isNon_sq, ty_ii, ty_bi, ty_tt, ty_tl, ty_ti, ty_tn, ty_lt, ty_ll, ty_ib, ty_bb, ni_int, ni_tup, ni_lst, ni_bl, ni_non, List.length_cons, List.length_nil, reduceIte, List.map_cons, List.map_nil, true_and, and_true, Nat.zero_add, Nat.reduceAdd, List.length_map, Nat.zero_le, Int.toNat_natCast]
      refine ⟨T, left, L[m], rfl, by omega, ?_⟩
      rw [taken_of hf]
      have hle := List.length_erase_of_mem (isF_mem hf)
      have hp1 := List.length_pos_of_mem (isF_mem hf)
      refine ⟨_, _, _, left.erase L[m], st ++ [L[m]], by rw [intsD_snoc]; rfl, by rw [behind_app, hb]; show behind (lf T) [L[m]] left = _; rw [behind_one, taken_of hf], fun x hx => ?_, by rw [List.length_append, hsl]; rfl, by omega, fun x hx => hlm x (List.mem_of_mem_erase hx)⟩
      rcases List.mem_append.mp hx with h | h
      · exact hmem x h
      · rw [List.mem_singleton.mp h]; exact hlm _ (isF_mem hf)
  · rintro s' ⟨l5, l6, l7, left, st, rfl, hb, hmem, hsl, hll, hlm⟩
    try simp only [tSeq3, tNx3, tIf3, tRet3, tRetN3, tSet3, tOwn3, tAsg3, tExpr3, tFrz, frzS, tFor3_eq, tLc3_eq, tLc23_eq, tSeq3I_eq, seqK_lst, seqK_tup, seqK_frl, seqK_sq, oTup_lst, oTup_tup, oTup_sq, oList_lst, oList_tup, oList_sq, oLen_lst, oLen_tup, oLen_frl, oLen_sq, flat_sq, tRg1, tRg2, gN3, gT3, gCons3, gNil3, tV3, tC3, tB3, tT3, tIx3, tCh3, tAnd3, tOr3, tNot3, tNil3, tCons3, tTup3, tLst3, tOfL, tCall3, tU3, tUL, tSl3, tNo3, tSome3, tCat3, tRep3, oEq, oNe, oLt_int, oLt_tup, oLe_int, oLe_tup, oGt_int, oGt_tup, oGe_int, oGe_tup, eqD_int, eqD_str, eqD_bl, eqD_non, eqD_tup, eqD_lst, oAdd, oSub, oMul, oDiv, oMod, oPow, oIs, oIsnt, oIn, oNotIn, inD, lookD, oIx_lst, oIx_tup, oIx_frl, oIx_sq, oIx_dT, oIx_dK, getD, oSl, oInt, oSorted, isB, tPut3, tApp3, tDicT, tDicK, tBk3, tCt3, tMin2, tMax2, tNeg3, tIf3E, tAndV3, tOrV3, tNotV3, tIsi, tIndex3, tYes3, tRaise0, tRaise1, tIsE3, tXf3, wipe3, List.set_cons_zero, List.set_cons_succ, List.getElem?_cons_zero, List.getElem?_cons_succ, List.getElem?_nil, Fl.isSt, D.flat, Fl.nb, Fl.item, cond_true, cond_false, Bool.true_or, Bool.or_true, Bool.false_or, Bool.or_false, Bool.and_true, Bool.true_and, Bool.and_false, Bool.false_and, if_true, if_false, ite_true, ite_false, Bool.false_eq_true, Bool.not_true, Bool.not_false, isNon_non, isNon_lst, isNon_tup, isNon_int, isNon_bl, isNon_str, isNon_sq, ty_ii, ty_bi, ty_tt, ty_tl, ty_ti, ty_tn, ty_lt, ty_ll, ty_ib, ty_bb, ni_int, ni_tup, ni_lst, ni_bl, ni_non, List.length_cons, List.length_nil, reduceIte, List.map_cons, List.map_nil, true_and, and_true, Nat.zero_add, Nat.reduceAdd, List.length_map, Nat.zero_le, Int.toNat_natCast]
    exact k st left hb hmem (by omega)
/-! _law_second: 0 table, 1 log, 2 choice, 3 draws, 4 other, 5 start, 6 left, 7 tail, 8 letter, 9 one -/
abbrev s__law_second : Stmt := topS 33
theorem sc__law_second : FnScope ["table", "log", "choice", "draws", "other", "start", "left", "tail", "letter", "one"] ["table", "log", "choice", "draws", "other"] (defScope s__law_second) := ⟨rfl, rfl, rfl, by decide +kernel, rfl, by decide +kernel, by decide +kernel⟩
def fs__law_second (ex : Str → Addr) : FS := fun as q _ => ∃ T lg choice dr ot, as = [.dT T, .lst (intsD lg), .int choice, .lst (intsD dr), .lst (intsD ot)] ∧ lg.length ≤ 1000 ∧ dr.length = 16 ∧ ot.length ≤ 9 ∧ ∀ row : List Int, (∀ x ∈ row, x ∈ lg ∨ x ∈ ot) → row.length ≤ 18 → q (.lst (intsD row))
theorem ok__law_second {P : Program} {w : World} {K : PySem.W.Frag} {mg : Str → Option Value} {base : Heap} {ex : Str → Addr} {f : Addr} {fd : FuncData} (T : Tx P w K mg base ex) (C__law_beginning : Callee P w K mg base "_law_beginning" 3 3 (fs__law_beginning ex)) (C__law_behind : Callee P w K mg base "_law_behind" 3 3 (fs__law_behind ex)) (C__law_is_free : Callee P w K mg base "_law_is_free" 1 3 (fs__law_is_free ex)) (F : Fun K "_law_second" "_law_second" s__law_second f fd) (gm : mg "_law_second" = some (.ref f)) (bi : Binds K fd ["table", "log", "choice", "draws", "other"] []) : Callee P w K mg base "_law_second" 4 5 (fs__law_second ex) := by
  refine callee_mk F gm bi (fun3 (fs__law_second ex) F sc__law_second ⟨_, fun cdv A outer s H E hr tk hp =>
      (ss3cons (s3if (t3cmp (op3eq (deep_of hr)) (p3v 2) p3int)
        (ss3one (s3ret (PL3.val (l3t1 c3list rfl T.b_list bt_list (p3v 4)))))
        ss3nil)
      (ss3cons (s3set (i := 5) sc__law_second.nd rfl (by first | exact .inl rfl | exact .inr rfl) (p3callC C__law_beginning hr (by decide) tk rfl (a3cons (p3v 0) (a3cons (p3v 1) (a3cons (p3v 3) a3nil)))))
      (ss3cons (s3set (i := 6) sc__law_second.nd rfl (by first | exact .inl rfl | exact .inr rfl) (p3callC C__law_behind hr (by decide) tk rfl (a3cons (p3v 0) (a3cons (p3v 5) (a3cons (p3v 1) a3nil)))))
      (ss3cons (s3own (i := 7) sc__law_second.nd rfl (by first | exact .inl rfl | exact .inr rfl) (l3t1 c3list rfl T.b_list bt_list (p3v 4)))
      (ss3cons (s3if (t3cmp (op3gt (deep_of hr)) (p3v 2) p3int)
        (ss3cons (s3own (i := 7) sc__law_second.nd rfl (by first | exact .inl rfl | exact .inr rfl) (l3lst a3nil))
        (ss3one (s3for hp rfl (i3seq (p3v 4)) (g3name (i := 8) sc__law_second.nd rfl (by first | exact .inl rfl | exact .inr rfl))
          (ss3one (s3if (t3cmp (op3eq (deep_of hr)) (p3b1 c3len rfl T.b_len bt_len (PL3.val (l3lc rfl sc__law_second.nd (blkOk_by (N := ["table", "log", "choice", "draws", "other", "start", "left", "tail", "letter", "one"]) (sc := defScope s__law_second) (own := [("one", 9)]) (by decide +kernel)) (i3seq (p3v 6)) (by decide) (fun _ _ _ _ _ => (g3name (i := 9) sc__law_second.nd rfl (by first | exact .inl rfl | exact .inr rfl))) (fun _ _ _ _ _ => (ts3one (t3not (t3val (p3callC C__law_is_free hr (by decide) takes0 rfl (a3cons (p3v 0) (a3cons (p3v 9) (a3cons (p3v 8) a3nil)))))))) (fun _ _ _ _ _ => (p3v 9))))) p3int)
            (ss3one (s3app (i := 7) (p3v 8)))
            ss3nil)))))
        ss3nil)
      (ss3one (s3ret (p3op op3add (p3v 5) (p3sl (p3v 7) o3none (o3some (p3op op3mod (p3t1 c3int rfl T.b_int bt_int (p3ix (deep_of hr) (p3v 3) p3int)) p3int))))))))))), ?_⟩)
  intro ds q z hl h
  obtain ⟨T, lg, choice, dr, ot, rfl, hz, hd, ho, k⟩ := h
  simp only [start3, List.map_cons, List.map_nil, List.length_cons, List.length_nil, List.cons_append, List.nil_append, Nat.reduceAdd, Nat.reduceSub, Nat.zero_add, List.replicate, if_true, if_false, Bool.false_eq_true, reduceIte]
  try simp only [tSeq3, tNx3, tIf3, tRet3, tRetN3, tSet3, tOwn3, tAsg3, tExpr3, tFrz, frzS, tFor3_eq, tLc3_eq, tLc23_eq, tSeq3I_eq, seqK_lst, seqK_tup, seqK_frl, seqK_sq, oTup_lst, oTup_tup, oTup_sq, oList_lst, oList_tup, oList_sq, oLen_lst, oLen_tup, oLen_frl, oLen_sq, flat_sq, tRg1, tRg2, gN3, gT3, gCons3, gNil3, tV3, tC3, tB3, tT3, tIx3, tCh3, tAnd3, tOr3, tNot3, tNil3, tCons3, tTup3, tLst3, tOfL, tCall3, tU3, tUL, tSl3, tNo3, tSome3, tCat3, tRep3, oEq, oNe, oLt_int, oLt_tup, oLe_int, oLe_tup, oGt_int, oGt_tup, oGe_int, oGe_tup, eqD_int, eqD_str, eqD_bl, eqD_non, eqD_tup, eqD_lst, oAdd, oSub, oMul, oDiv, oMod, oPow, oIs, oIsnt, oIn, oNotIn, inD, lookD, oIx_lst, oIx_tup, oIx_frl, oIx_sq, oIx_dT, oIx_dK, getD, oSl, oInt, oSorted, isB, tPut3, tApp3, tDicT, tDicK, tBk3, tCt3, tMin2, tMax2, tNeg3, tIf3E, tAndV3, tOrV3, tNotV3, tIsi, tIndex3, tYes3, tRaise0, tRaise1, tIsE3, tXf3, wipe3, List.set_cons_zero, List.set_cons_succ, List.getElem?_cons_zero, List.getElem?_cons_succ, List.getElem?_nil, Fl.isSt, D.flat, Fl.nb, Fl.item, cond_true, cond_false, Bool.true_or, Bool.or_true, Bool.false_or, Bool.or_false, Bool.and_true, Bool.true_and, Bool.and_false, Bool.false_and, if_true, if_false, ite_true, ite_false, Bool.false_eq_true, Bool.not_true, Bool.not_false, isNon_non, isNon_lst, isNon_tup, isNon_int, isNon_bl, isNon_str, isNon_sq, ty_ii, ty_bi, ty_tt, ty_tl, ty_ti, ty_tn, ty_lt, ty_ll, ty_ib, ty_bb, ni_int, ni_tup, ni_lst, ni_bl, ni_non, List.length_cons, List.length_nil, reduceIte, List.map_cons, List.map_nil, true_and, and_true, Nat.zero_add, Nat.reduceAdd, List.length_map, Nat.zero_le, Int.toNat_natCast]
  split
  · exact k ot (fun x hx => .inr hx) (by omega)
  · refine ⟨T, lg, dr, rfl, hz, hd, fun st left hb hmem hsl => ?_⟩
    try simp only [tSeq3, tNx3, tIf3, tRet3, tRetN3, tSet3, tOwn3, tAsg3, tExpr3, tFrz, frzS, tFor3_eq, tLc3_eq, tLc23_eq, tSeq3I_eq, seqK_lst, seqK_tup, seqK_frl, seqK_sq, oTup_lst, oTup_tup, oTup_sq, oList_lst, oList_tup, oList_sq, oLen_lst, oLen_tup, oLen_frl, oLen_sq, flat_sq, tRg1, tRg2, gN3, gT3, gCons3, gNil3, tV3, tC3, tB3, tT3, tIx3, tCh3, tAnd3, tOr3, tNot3, tNil3, tCons3, tTup3, tLst3, tOfL, tCall3, tU3, tUL, tSl3, tNo3, tSome3, tCat3, tRep3, oEq, oNe, oLt_int, oLt_tup, oLe_int, oLe_tup, oGt_int, oGt_tup, oGe_int, oGe_tup, eqD_int, eqD_str, eqD_bl, eqD_non, eqD_tup, eqD_lst, oAdd, oSub, oMul, oDiv, oMod, oPow, oIs, oIsnt, oIn, oNotIn, inD, lookD, oIx_lst, oIx_tup, oIx_frl, oIx_sq, oIx_dT, oIx_dK, getD, oSl, oInt, oSorted, isB, tPut3, tApp3, tDicT, tDicK, tBk3, tCt3, tMin2, tMax2, tNeg3, tIf3E, tAndV3, tOrV3, tNotV3, tIsi, tIndex3, tYes3, tRaise0, tRaise1, tIsE3, tXf3, wipe3, List.set_cons_zero, List.set_cons_succ, List.getElem?_cons_zero, List.getElem?_cons_succ, List.getElem?_nil, Fl.isSt, D.flat, Fl.nb, Fl.item, cond_true, cond_false, Bool.true_or, Bool.or_true, Bool.false_or, Bool.or_false, Bool.and_true, Bool.true_and, Bool.and_false, Bool.false_and, if_true, if_false, ite_true, ite_false, Bool.false_eq_true, Bool.not_true, Bool.not_false, isNon_non, isNon_lst, isNon_tup, isNon_int, isNon_bl, isNon_str, isNon_sq, ty_ii, ty_bi, ty_tt, ty_tl, ty_ti, ty_tn, ty_lt, ty_ll, ty_ib, ty_bb, ni_int, ni_tup, ni_lst, ni_bl, ni_non, List.length_cons, List.length_nil, reduceIte, List.map_cons, List.map_nil, true_and, and_true, Nat.zero_add, Nat.reduceAdd, List.length_map, Nat.zero_le, Int.toNat_natCast]
    refine ⟨T, false, st, lg, rfl, hz, ?_⟩
    rw [hb]
    simp only [optD]
    try simp only [tSeq3, tNx3, tIf3, tRet3, tRetN3, tSet3, tOwn3, tAsg3, tExpr3, tFrz, frzS, tFor3_eq, tLc3_eq, tLc23_eq, tSeq3I_eq, seqK_lst, seqK_tup, seqK_frl, seqK_sq, oTup_lst, oTup_tup, oTup_sq, oList_lst, oList_tup, oList_sq, oLen_lst, oLen_tup, oLen_frl, oLen_sq, flat_sq, tRg1, tRg2, gN3, gT3, gCons3, gNil3, tV3, tC3, tB3, tT3, tIx3, tCh3, tAnd3, tOr3, tNot3, tNil3, tCons3, tTup3, tLst3, tOfL, tCall3, tU3, tUL, tSl3, tNo3, tSome3, tCat3, tRep3, oEq, oNe, oLt_int, oLt_tup, oLe_int, oLe_tup, oGt_int, oGt_tup, oGe_int, oGe_tup, eqD_int, eqD_str, eqD_bl, eqD_non, eqD_tup, eqD_lst, oAdd, oSub, oMul, oDiv, oMod, oPow, oIs, oIsnt, oIn, oNotIn, inD, lookD, oIx_lst, oIx_tup, oIx_frl, oIx_sq, oIx_dT, oIx_dK, getD, oSl, oInt, oSorted, isB, tPut3, tApp3, tDicT, tDicK, tBk3, tCt3, tMin2, tMax2, tNeg3, tIf3E, tAndV3, tOrV3, tNotV3, tIsi, tIndex3, tYes3, tRaise0, tRaise1, tIsE3, tXf3, wipe3, List.set_cons_zero, List.set_cons_succ, List.getElem?_cons_zero, List.getElem?_cons_succ, List.getElem?_nil, Fl.isSt, D.flat, Fl.nb, Fl.item, cond_true, cond_false, Bool.true_or, Bool.or_true, Bool.false_or, Bool.or_false, Bool.and_true, Bool.true_and, Bool.and_false, Bool.false_and, if_true, if_false, ite_true, ite_false, Bool.false_eq_true, Bool.not_true, Bool.not_false, isNon_non, isNon_lst, isNon_tup, isNon_int, isNon_bl, isNon_str, isNon_sq, ty_ii, ty_bi, ty_tt, ty_tl, ty_ti, ty_tn, ty_lt, ty_ll, ty_ib, ty_bb, ni_int, ni_tup, ni_lst, ni_bl, ni_non, List.length_cons, List.length_nil, reduceIte, List.map_cons, List.map_nil, true_and, and_true, Nat.zero_add, Nat.reduceAdd, List.length_map, Nat.zero_le, Int.toNat_natCast]
    have fin : ∀ (tail : List Int), (∀ x ∈ tail, x ∈ ot) → (st.length + (cutD (intsD tail) none (some (dr[11] % 10))).length ≤ sizeLine ∧ q (.lst (intsD st ++ cutD (intsD tail) none (some (dr[11] % 10))))) := fun tail ht => by
      obtain ⟨m, hm⟩ := Int.eq_ofNat_of_zero_le (Int.emod_nonneg dr[11] (b := 10) (by decide))
      have hm2 := Int.emod_lt_of_pos dr[11] (b := 10) (by decide)
      rw [hm] at hm2 ⊢
      rw [cutD_none_nat, ← List.map_take, ← List.map_append, List.length_map]
      have hlt : (tail.take m).length ≤ 9 := by rw [List.length_take]; omega
      refine ⟨le_line (by omega), k _ (fun x hx => ?_) (by rw [List.length_append]; omega)⟩
      rcases List.mem_append.mp hx with h | h
      · exact .inl (hmem x h)
      · exact .inr (ht x (List.mem_of_mem_take h))
    split
    · refine forP_d (fun ys s => ∃ (l1 l2 l4 l8 l9 : Sl) (tail : List Int), s = [.va (.dT T), l1, l2, .va (.lst (intsD dr)), l4, .va (.lst (intsD st)), .va (.lst (intsD left)), .ow (intsD tail), l8, l9] ∧ (∀ x ∈ tail, x ∈ ot) ∧ tail.length ≤ ys.length) ?_ ?_ ?_
      · exact ⟨_, _, _, _, _, [], rfl, fun x hx => by simp at hx, Nat.le_refl _⟩
      · rintro ys x rest s' e ⟨l1, l2, l4, l8, l9, tail, rfl, ht, hlt⟩
        have hxo : x ∈ ot := by rw [e]; simp
        have hyl : ys.length + 1 ≤ 9 := by rw [e, List.length_append, List.length_cons] at ho; omega
        have hleft : left.length ≤ lg.length := behind_len hb
        try simp only [tSeq3, tNx3, tIf3, tRet3, tRetN3, tSet3, tOwn3, tAsg3, tExpr3, tFrz, frzS, tFor3_eq, tLc3_eq, tLc23_eq, tSeq3I_eq, seqK_lst, seqK_tup, seqK_frl, seqK_sq, oTup_lst, oTup_tup, oTup_sq, oList_lst, oList_tup, oList_sq, oLen_lst, oLen_tup, oLen_frl, oLen_sq, flat_sq, tRg1, tRg2, gN3, gT3, gCons3, gNil3, tV3, tC3, tB3, tT3, tIx3, tCh3, tAnd3, tOr3, tNot3, tNil3, tCons3, tTup3, tLst3, tOfL, tCall3, tU3, tUL, tSl3, tNo3, tSome3, tCat3, tRep3, oEq, oNe, oLt_int, oLt_tup, oLe_int, oLe_tup, oGt_int, oGt_tup, oGe_int, oGe_tup, eqD_int, eqD_str, eqD_bl, eqD_non, eqD_tup, eqD_lst, oAdd, oSub, oMul, oDiv, oMod, oPow, oIs, oIsnt, oIn, oNotIn, inD, lookD, oIx_lst, oIx_tup, oIx_frl, oIx_sq, oIx_dT, oIx_dK, getD, oSl, oInt, oSorted, isB, tPut3, tApp3, tDicT, tDicK, tBk3, tCt3, tMin2, tMax2, tNeg3, tIf3E, tAndV3, tOrV3, tNotV3, tIsi, tIndex3, tYes3, tRaise0, tRaise1, tIsE3, tXf3, wipe3, List.set_cons_zero, List.set_cons_succ, List.getElem?_cons_zero, List.getElem?_cons_succ, List.getElem?_nil, Fl.isSt, D.flat, Fl.nb, Fl.item, cond_true, cond_false, Bool.true_or, Bool.or_true, Bool.false_or, Bool.or_false, Bool.and_true, Bool.true_and, Bool.and_false, Bool.false_and, if_true, if_false, ite_true, ite_false, Bool.false_eq_true, Bool.not_true, Bool.not_false, isNon_non, isNon_lst, isNon_tup, isNon_int, isNon_bl, isNon_str, isNon_sq, ty_ii, ty_bi, ty_tt, ty_tl, ty_ti, ty_tn, ty_lt, ty_ll, ty_ib, ty_bb, ni_int, ni_tup, ni_lst, ni_bl, ni_non, List.length_cons, List.length_nil, reduceIte, List.map_cons, List.map_nil, true_and, and_true, Nat.zero_add, Nat.reduceAdd, List.length_map, Nat.zero_le, Int.toNat_natCast]
        refine lcP_d (f := D.int) (xs := left) (fun y => !lf T y x) D.int (le_line (by omega)) (fun y hy acc R ha hR => ?_) ?_
        · try simp only [tSeq3, tNx3, tIf3, tRet3, tRetN3, tSet3, tOwn3, tAsg3, tExpr3, tFrz, frzS, tFor3_eq, tLc3_eq, tLc23_eq, tSeq3I_eq, seqK_lst, seqK_tup, seqK_frl, seqK_sq, oTup_lst, oTup_tup, oTup_sq, oList_lst, oList_tup, oList_sq, oLen_lst, oLen_tup, oLen_frl, oLen_sq, flat_sq, tRg1, tRg2, gN3, gT3, gCons3, gNil3, tV3, tC3, tB3, tT3, tIx3, tCh3, tAnd3, tOr3, tNot3, tNil3, tCons3, tTup3, tLst3, tOfL, tCall3, tU3, tUL, tSl3, tNo3, tSome3, tCat3, tRep3, oEq, oNe, oLt_int, oLt_tup, oLe_int, oLe_tup, oGt_int, oGt_tup, oGe_int, oGe_tup, eqD_int, eqD_str, eqD_bl, eqD_non, eqD_tup, eqD_lst, oAdd, oSub, oMul, oDiv, oMod, oPow, oIs, oIsnt, oIn, oNotIn, inD, lookD, oIx_lst, oIx_tup, oIx_frl, oIx_sq, oIx_dT, oIx_dK, getD, oSl, oInt, oSorted, isB, tPut3, tApp3, tDicT, tDicK, tBk3, tCt3, tMin2, tMax2, tNeg3, tIf3E, tAndV3, tOrV3, tNotV3, tIsi, tIndex3, tYes3, tRaise0, tRaise1, tIsE3, tXf3, wipe3, List.set_cons_zero, List.set_cons_succ, List.getElem?_cons_zero, List.getElem?_cons_succ, List.getElem?_nil, Fl.isSt, D.flat, Fl.nb, Fl.item, cond_true, cond_false, Bool.true_or, Bool.or_true, Bool.false_or, Bool.or_false, Bool.and_true, Bool.true_and, Bool.and_false, Bool.false_and, if_true, if_false, ite_true, ite_false, Bool.false_eq_true, Bool.not_true, Bool.not_false, isNon_non, isNon_lst, isNon_tup, isNon_int, isNon_bl, isNon_str, isNon_sq, ty_ii, ty_bi, ty_tt, ty_tl, ty_ti, ty_tn, ty_lt, ty_ll, ty_ib, ty_bb, ni_int, ni_tup, ni_lst, ni_bl, ni_non, List.length_cons, List.length_nil, reduceIte, List.map_cons, List.map_nil, true_and, and_true, Nat.zero_add, Nat.reduceAdd, List.length_map, Nat.zero_le, Int.toNat_natCast]
          refine ⟨T, y, x, rfl, ?_⟩
          try simp only [tSeq3, tNx3, tIf3, tRet3, tRetN3, tSet3, tOwn3, tAsg3, tExpr3, tFrz, frzS, tFor3_eq, tLc3_eq, tLc23_eq, tSeq3I_eq, seqK_lst, seqK_tup, seqK_frl, seqK_sq, oTup_lst, oTup_tup, oTup_sq, oList_lst, oList_tup, oList_sq, oLen_lst, oLen_tup, oLen_frl, oLen_sq, flat_sq, tRg1, tRg2, gN3, gT3, gCons3, gNil3, tV3, tC3, tB3, tT3, tIx3, tCh3, tAnd3, tOr3, tNot3, tNil3, tCons3, tTup3, tLst3, tOfL, tCall3, tU3, tUL, tSl3, tNo3, tSome3, tCat3, tRep3, oEq, oNe, oLt_int, oLt_tup, oLe_int, oLe_tup, oGt_int, oGt_tup, oGe_int, oGe_tup, eqD_int, eqD_str, eqD_bl, eqD_non, eqD_tup, eqD_lst, oAdd, oSub, oMul, oDiv, oMod, oPow, oIs, oIsnt, oIn, oNotIn, inD, lookD, oIx_lst, oIx_tup, oIx_frl, oIx_sq, oIx_dT, oIx_dK, getD, oSl, oInt, oSorted, isB, tPut3, tApp3, tDicT, tDicK, tBk3, tCt3, tMin2, tMax2, tNeg3, tIf3E, tAndV3, tOrV3, tNotV3, tIsi, tIndex3, tYes3, tRaise0, tRaise1, tIsE3, tXf3, wipe3, List.set_cons_zero, List.set_cons_succ, List.getElem?_cons_zero, List.getElem?_cons_succ, List.getElem?_nil, Fl.isSt, D.flat, Fl.nb, Fl.item, cond_true, cond_false, Bool.true_or, Bool.or_true, Bool.false_or, Bool.or_false, Bool.and_true, Bool.true_and, Bool.and_false, Bool.false_and, if_true, if_false, ite_true, ite_false, Bool.false_eq_true, Bool.not_true, Bool.not_false, isNon_non, isNon_lst, isNon_tup, isNon_int, isNon_bl, isNon_str, isNon_sq, ty_ii, ty_bi, ty_tt, ty_tl, ty_ti, ty_tn, ty_lt, ty_ll, ty_ib, ty_bb, ni_int, ni_tup, ni_lst, ni_bl, ni_non, List.length_cons, List.length_nil, reduceIte, List.map_cons, List.map_nil, true_and, and_true, Nat.zero_add, Nat.reduceAdd, List.length_map, Nat.zero_le, Int.toNat_natCast]
          cases hb : lf T y x with
          | true =>
            rw [hb] at hR
            simp only [Bool.not_true, Bool.false_eq_true, if_false, List.append_nil] at hR ⊢
            exact hR
          | false =>
            rw [hb] at hR
            simp only [Bool.not_false, if_true] at hR ⊢
            exact ⟨ha, hR⟩
        · try simp only [tSeq3, tNx3, tIf3, tRet3, tRetN3, tSet3, tOwn3, tAsg3, tExpr3, tFrz, frzS, tFor3_eq, tLc3_eq, tLc23_eq, tSeq3I_eq, seqK_lst, seqK_tup, seqK_frl, seqK_sq, oTup_lst, oTup_tup, oTup_sq, oList_lst, oList_tup, oList_sq, oLen_lst, oLen_tup, oLen_frl, oLen_sq, flat_sq, tRg1, tRg2, gN3, gT3, gCons3, gNil3, tV3, tC3, tB3, tT3, tIx3, tCh3, tAnd3, tOr3, tNot3, tNil3, tCons3, tTup3, tLst3, tOfL, tCall3, tU3, tUL, tSl3, tNo3, tSome3, tCat3, tRep3, oEq, oNe, oLt_int, oLt_tup, oLe_int, oLe_tup, oGt_int, oGt_tup, oGe_int, oGe_tup, eqD_int, eqD_str, eqD_bl, eqD_non, eqD_tup, eqD_lst, oAdd, oSub, oMul, oDiv, oMod, oPow, oIs, oIsnt, oIn, oNotIn, inD, lookD, oIx_lst, oIx_tup, oIx_frl, oIx_sq, oIx_dT, oIx_dK, getD, oSl, oInt, oSorted, isB, tPut3, tApp3, tDicT, tDicK, tBk3, tCt3, tMin2, tMax2, tNeg3, tIf3E, tAndV3, tOrV3, tNotV3, tIsi, tIndex3, tYes3, tRaise0, tRaise1, tIsE3, tXf3, wipe3, List.set_cons_zero, List.set_cons_succ, List.getElem?_cons_zero, List.getElem?_cons_succ, List.getElem?_nil, Fl.isSt, D.flat, Fl.nb, Fl.item, cond_true, cond_false, Bool.true_or, Bool.or_true, Bool.false_or, Bool.or_false, Bool.and_true, Bool.true_and, Bool.and_false, Bool.false_and, if_true, if_false, ite_true, ite_false, Bool.false_eq_true, Bool.not_true, Bool.not_false, isNon_non, isNon_lst, isNon_tup, isNon_int, isNon_bl, isNon_str, isNon_sq, ty_ii, ty_bi, ty_tt, ty_tl, ty_ti, ty_tn, ty_lt, ty_ll, ty_ib, ty_bb, ni_int, ni_tup, ni_lst, ni_bl, ni_non, List.length_cons, List.length_nil, reduceIte, List.map_cons, List.map_nil, true_and, and_true, Nat.zero_add, Nat.reduceAdd, List.length_map, Nat.zero_le, Int.toNat_natCast]
          split
          · refine ⟨lt_line (by omega), _, _, _, _, _, tail ++ [x], by rw [intsD_snoc], fun y hy => ?_, by rw [List.length_append, List.length_append]; simp; exact hlt⟩
            rcases List.mem_append.mp hy with h | h
            · exact ht y h
            · rw [List.mem_singleton.mp h]; exact hxo
          · exact ⟨_, _, _, _, _, tail, rfl, ht, by rw [List.length_append]; omega⟩
      · rintro s' ⟨l1, l2, l4, l8, l9, tail, rfl, ht, hlt⟩
        try simp only [tSeq3, tNx3, tIf3, tRet3, tRetN3, tSet3, tOwn3, tAsg3, tExpr3, tFrz, frzS, tFor3_eq, tLc3_eq, tLc23_eq, tSeq3I_eq, seqK_lst, seqK_tup, seqK_frl, seqK_sq, oTup_lst, oTup_tup, oTup_sq, oList_lst, oList_tup, oList_sq, oLen_lst, oLen_tup, oLen_frl, oLen_sq, flat_sq, tRg1, tRg2, gN3, gT3, gCons3, gNil3, tV3, tC3, tB3, tT3, tIx3, tCh3, tAnd3, tOr3, tNot3, tNil3, tCons3, tTup3, tLst3, tOfL, tCall3, tU3, tUL, tSl3, tNo3, tSome3, tCat3, tRep3, oEq, oNe, oLt_int, oLt_tup, oLe_int, oLe_tup, oGt_int, oGt_tup, oGe_int, oGe_tup, eqD_int, eqD_str, eqD_bl, eqD_non, eqD_tup, eqD_lst, oAdd, oSub, oMul, oDiv, oMod, oPow, oIs, oIsnt, oIn, oNotIn, inD, lookD, oIx_lst, oIx_tup, oIx_frl, oIx_sq, oIx_dT, oIx_dK, getD, oSl, oInt, oSorted, isB, tPut3, tApp3, tDicT, tDicK, tBk3, tCt3, tMin2, tMax2, tNeg3, tIf3E, tAndV3, tOrV3, tNotV3, tIsi, tIndex3, tYes3, tRaise0, tRaise1, tIsE3, tXf3, wipe3, List.set_cons_zero, List.set_cons_succ, List.getElem?_cons_zero, List.getElem?_cons_succ, List.getElem?_nil, Fl.isSt, D.flat, Fl.nb, Fl.item, cond_true, cond_false, Bool.true_or, Bool.or_true, Bool.false_or, Bool.or_false, Bool.and_true, Bool.true_and, Bool.and_false, Bool.false_and, if_true, if_false, ite_true, ite_false, Bool.false_eq_true, Bool.not_true, Bool.not_false, isNon_non, isNon_lst, isNon_tup, isNon_int, isNon_bl, isNon_str, isNon_sq, ty_ii, ty_bi, ty_tt, ty_tl, ty_ti, ty_tn, ty_lt, ty_ll, ty_ib, ty_bb, ni_int, ni_tup, ni_lst, ni_bl, ni_non, List.length_cons, List.length_nil, reduceIte, List.map_cons, List.map_nil, true_and, and_true, Nat.zero_add, Nat.reduceAdd, List.length_map, Nat.zero_le, Int.toNat_natCast]
        refine ⟨_, at_map (k := 11) (by omega), ?_⟩
        try simp only [tSeq3, tNx3, tIf3, tRet3, tRetN3, tSet3, tOwn3, tAsg3, tExpr3, tFrz, frzS, tFor3_eq, tLc3_eq, tLc23_eq, tSeq3I_eq, seqK_lst, seqK_tup, seqK_frl, seqK_sq, oTup_lst, oTup_tup, oTup_sq, oList_lst, oList_tup, oList_sq, oLen_lst, oLen_tup, oLen_frl, oLen_sq, flat_sq, tRg1, tRg2, gN3, gT3, gCons3, gNil3, tV3, tC3, tB3, tT3, tIx3, tCh3, tAnd3, tOr3, tNot3, tNil3, tCons3, tTup3, tLst3, tOfL, tCall3, tU3, tUL, tSl3, tNo3, tSome3, tCat3, tRep3, oEq, oNe, oLt_int, oLt_tup, oLe_int, oLe_tup, oGt_int, oGt_tup, oGe_int, oGe_tup, eqD_int, eqD_str, eqD_bl, eqD_non, eqD_tup, eqD_lst, oAdd, oSub, oMul, oDiv, oMod, oPow, oIs, oIsnt, oIn, oNotIn, inD, lookD, oIx_lst, oIx_tup, oIx_frl, oIx_sq, oIx_dT, oIx_dK, getD, oSl, oInt, oSorted, isB, tPut3, tApp3, tDicT, tDicK, tBk3, tCt3, tMin2, tMax2, tNeg3, tIf3E, tAndV3, tOrV3, tNotV3, tIsi, tIndex3, tYes3, tRaise0, tRaise1, tIsE3, tXf3, wipe3, List.set_cons_zero, List.set_cons_succ, List.getElem?_cons_zero, List.getElem?_cons_succ, List.getElem?_nil, Fl.isSt, D.flat, Fl.nb, Fl.item, cond_true, cond_false, Bool.true_or, Bool.or_true, Bool.false_or, Bool.or_false, Bool.and_true, Bool.true_and, Bool.and_false, Bool.false_and, if_true, if_false, ite_true, ite_false, Bool.false_eq_true, Bool.not_true, Bool.not_false, isNon_non, isNon_lst, isNon_tup, isNon_int, isNon_bl, isNon_str, isNon_sq, ty_ii, ty_bi, ty_tt, ty_tl, ty_ti, ty_tn, ty_lt, ty_ll, ty_ib, ty_bb, ni_int, ni_tup, ni_lst, ni_bl, ni_non, List.length_cons, List.length_nil, reduceIte, List.map_cons, List.map_nil, true_and, and_true, Nat.zero_add, Nat.reduceAdd, List.length_map, Nat.zero_le, Int.toNat_natCast]
        exact ⟨by decide, fin tail ht⟩
    · refine ⟨_, at_map (k := 11) (by omega), ?_⟩
      try simp only [tSeq3, tNx3, tIf3, tRet3, tRetN3, tSet3, tOwn3, tAsg3, tExpr3, tFrz, frzS, tFor3_eq, tLc3_eq, tLc23_eq, tSeq3I_eq, seqK_lst, seqK_tup, seqK_frl, seqK_sq, oTup_lst, oTup_tup, oTup_sq, oList_lst, oList_tup, oList_sq, oLen_lst, oLen_tup, oLen_frl, oLen_sq, flat_sq, tRg1, tRg2, gN3, gT3, gCons3, gNil3, tV3, tC3, tB3, tT3, tIx3, tCh3, tAnd3, tOr3, tNot3, tNil3, tCons3, tTup3, tLst3, tOfL, tCall3, tU3, tUL, tSl3, tNo3, tSome3, tCat3, tRep3, oEq, oNe, oLt_int, oLt_tup, oLe_int, oLe_tup, oGt_int, oGt_tup, oGe_int, oGe_tup, eqD_int, eqD_str, eqD_bl, eqD_non, eqD_tup, eqD_lst, oAdd, oSub, oMul, oDiv, oMod, oPow, oIs, oIsnt, oIn, oNotIn, inD, lookD, oIx_lst, oIx_tup, oIx_frl, oIx_sq, oIx_dT, oIx_dK, getD, oSl, oInt, oSorted, isB, tPut3, tApp3, tDicT, tDicK, tBk3, tCt3, tMin2, tMax2, tNeg3, tIf3E, tAndV3, tOrV3, tNotV3, tIsi, tIndex3, tYes3, tRaise0, tRaise1, tIsE3, tXf3, wipe3, List.set_cons_zero, List.set_cons_succ, List.getElem?_cons_zero, List.getElem?_cons_succ, List.getElem?_nil, Fl.isSt, D.flat, Fl.nb, Fl.item, cond_true, cond_false, Bool.true_or, Bool.or_true, Bool.false_or, Bool.or_false, Bool.and_true, Bool.true_and, Bool.and_false, Bool.false_and, if_true, if_false, ite_true, ite_false, Bool.false_eq_true, Bool.not_true, Bool.not_false, isNon_non, isNon_lst, isNon_tup, isNon_int, isNon_bl, isNon_str, isNon_sq, ty_ii, ty_bi, ty_tt, ty_tl, ty_ti, ty_tn, ty_lt, ty_ll, ty_ib, ty_bb, ni_int, ni_tup, ni_lst, ni_bl, ni_non, List.length_cons, List.length_nil, reduceIte, List.map_cons, List.map_nil, true_and, and_true, Nat.zero_add, Nat.reduceAdd, List.length_map, Nat.zero_le, Int.toNat_natCast]
      exact ⟨by decide, fin ot (fun x hx => hx)⟩
/-! _law_is_row: 0 answer, 1 number -/
abbrev s__law_is_row : Stmt := topS 34
theorem sc__law_is_row : FnScope ["answer", "number"] ["answer"] (defScope s__law_is_row) := ⟨rfl, rfl, rfl, by decide +kernel, rfl, by decide +kernel, by decide +kernel⟩
def fs__law_is_row (ex : Str → Addr) : FS := fun as q _ => ∃ xs, as = [.tup (intsD xs)] ∧ q (.bl true)
theorem ok__law_is_row {P : Program} {w : World} {K : PySem.W.Frag} {mg : Str → Option Value} {base : Heap} {ex : Str → Addr} {f : Addr} {fd : FuncData} (T : Tx P w K mg base ex)  (F : Fun K "_law_is_row" "_law_is_row" s__law_is_row f fd) (gm : mg "_law_is_row" = some (.ref f)) (bi : Binds K fd ["answer"] []) : Callee P w K mg base "_law_is_row" 1 1 (fs__law_is_row ex) := by
  refine callee_mk F gm bi (fun3 (fs__law_is_row ex) F sc__law_is_row ⟨_, fun cdv A outer s H E hr tk hp =>
      (ss3cons (s3if (t3not (t3val (p3isi (T := "tuple") rfl T.b_isinstance rfl T.b_tuple bt_tuple (by decide +kernel) (p3v 0))))
        (ss3one (s3ret p3bl))
        ss3nil)
      (ss3cons (s3for hp rfl (i3seq (p3v 0)) (g3name (i := 1) sc__law_is_row.nd rfl (by first | exact .inl rfl | exact .inr rfl))
        (ss3one (s3if (PW3.t (w3or (t3not (t3val (p3isi (T := "int") rfl T.b_isinstance rfl T.b_int bt_int (by decide +kernel) (p3v 1)))) (w3or1 (t3val (p3isi (T := "bool") rfl T.b_isinstance rfl T.b_bool bt_bool (by decide +kernel) (p3v 1))))))
          (ss3one (s3ret p3bl))
          ss3nil)))
      (ss3one (s3ret p3bl)))), ?_⟩)
  intro ds q z hl h
  obtain ⟨xs, rfl, k⟩ := h
  simp only [start3, List.map_cons, List.map_nil, List.length_cons, List.length_nil, List.cons_append, List.nil_append, Nat.reduceAdd, Nat.reduceSub, Nat.zero_add, List.replicate, if_true, if_false, Bool.false_eq_true, reduceIte]
  try simp only [tSeq3, tNx3, tIf3, tRet3, tRetN3, tSet3, tOwn3, tAsg3, tExpr3, tFrz, frzS, tFor3_eq, tLc3_eq, tLc23_eq, tSeq3I_eq, seqK_lst, seqK_tup, seqK_frl, seqK_sq, oTup_lst, oTup_tup, oTup_sq, oList_lst, oList_tup, oList_sq, oLen_lst, oLen_tup, oLen_frl, oLen_sq, flat_sq, tRg1, tRg2, gN3, gT3, gCons3, gNil3, tV3, tC3, tB3, tT3, tIx3, tCh3, tAnd3, tOr3, tNot3, tNil3, tCons3, tTup3, tLst3, tOfL, tCall3, tU3, tUL, tSl3, tNo3, tSome3, tCat3, tRep3, oEq, oNe, oLt_int, oLt_tup, oLe_int, oLe_tup, oGt_int, oGt_tup, oGe_int, oGe_tup, eqD_int, eqD_str, eqD_bl, eqD_non, eqD_tup, eqD_lst, oAdd, oSub, oMul, oDiv, oMod, oPow, oIs, oIsnt, oIn, oNotIn, inD, lookD, oIx_lst, oIx_tup, oIx_frl, oIx_sq, oIx_dT, oIx_dK, getD, oSl, oInt, oSorted, isB, tPut3, tApp3, tDicT, tDicK, tBk3, tCt3, tMin2, tMax2, tNeg3, tIf3E, tAndV3, tOrV3, tNotV3, tIsi, tIndex3, tYes3, tRaise0, tRaise1, tIsE3, tXf3, wipe3, List.set_cons_zero, List.set_cons_succ, List.getElem?_cons_zero, List.getElem?_cons_succ, List.getElem?_nil, Fl.isSt, D.flat, Fl.nb, Fl.item, cond_true, cond_false, Bool.true_or, Bool.or_true, Bool.false_or, Bool.or_false, Bool.and_true, Bool.true_and, Bool.and_false, Bool.false_and, if_true, if_false, ite_true, ite_false, Bool.false_eq_true, Bool.not_true, Bool.not_false, isNon_non, isNon_lst, isNon_tup, isNon_int, isNon_bl, isNon_str, isNon_sq, ty_ii, ty_bi, ty_tt, ty_tl, ty_ti, ty_tn, ty_lt, ty_ll, ty_ib, ty_bb, ni_int, ni_tup, ni_lst, ni_bl, ni_non, List.length_cons, List.length_nil, reduceIte, List.map_cons, List.map_nil, true_and, and_true, Nat.zero_add, Nat.reduceAdd, List.length_map, Nat.zero_le, Int.toNat_natCast]
  refine forP_d (fun ys s => ∃ (l0 l1 : Sl), s = [l0, l1]) ⟨_, _, rfl⟩ ?_ ?_
  · rintro ys x rest s' e ⟨l0, l1, rfl⟩
    try simp only [tSeq3, tNx3, tIf3, tRet3, tRetN3, tSet3, tOwn3, tAsg3, tExpr3, tFrz, frzS, tFor3_eq, tLc3_eq, tLc23_eq, tSeq3I_eq, seqK_lst, seqK_tup, seqK_frl, seqK_sq, oTup_lst, oTup_tup, oTup_sq, oList_lst, oList_tup, oList_sq, oLen_lst, oLen_tup, oLen_frl, oLen_sq, flat_sq, tRg1, tRg2, gN3, gT3, gCons3, gNil3, tV3, tC3, tB3, tT3, tIx3, tCh3, tAnd3, tOr3, tNot3, tNil3, tCons3, tTup3, tLst3, tOfL, tCall3, tU3, tUL, tSl3, tNo3, tSome3, tCat3, tRep3, oEq, oNe, oLt_int, oLt_tup, oLe_int, oLe_tup, oGt_int, oGt_tup, oGe_int, oGe_tup, eqD_int, eqD_str, eqD_bl, eqD_non, eqD_tup, eqD_lst, oAdd, oSub, oMul, oDiv, oMod, oPow, oIs, oIsnt, oIn, oNotIn, inD, lookD, oIx_lst, oIx_tup, oIx_frl, oIx_sq, oIx_dT, oIx_dK, getD, oSl, oInt, oSorted, isB, tPut3, tApp3, tDicT, tDicK, tBk3, tCt3, tMin2, tMax2, tNeg3, tIf3E, tAndV3, tOrV3, tNotV3, tIsi, tIndex3, tYes3, tRaise0, tRaise1, tIsE3, tXf3, wipe3, List.set_cons_zero, List.set_cons_succ, List.getElem?_cons_zero, List.getElem?_cons_succ, List.getElem?_nil, Fl.isSt, D.flat, Fl.nb, Fl.item, cond_true, cond_false, Bool.true_or, Bool.or_true, Bool.false_or, Bool.or_false, Bool.and_true, Bool.true_and, Bool.and_false, Bool.false_and, if_true, if_false, ite_true, ite_false, Bool.false_eq_true, Bool.not_true, Bool.not_false, isNon_non, isNon_lst, isNon_tup, isNon_int, isNon_bl, isNon_str, isNon_sq, ty_ii, ty_bi, ty_tt, ty_tl, ty_ti, ty_tn, ty_lt, ty_ll, ty_ib, ty_bb, ni_int, ni_tup, ni_lst, ni_bl, ni_non, List.length_cons, List.length_nil, reduceIte, List.map_cons, List.map_nil, true_and, and_true, Nat.zero_add, Nat.reduceAdd, List.length_map, Nat.zero_le, Int.toNat_natCast]
    exact ⟨_, _, rfl⟩
  · rintro s' ⟨l0, l1, rfl⟩
    try simp only [tSeq3, tNx3, tIf3, tRet3, tRetN3, tSet3, tOwn3, tAsg3, tExpr3, tFrz, frzS, tFor3_eq, tLc3_eq, tLc23_eq, tSeq3I_eq, seqK_lst, seqK_tup, seqK_frl, seqK_sq, oTup_lst, oTup_tup, oTup_sq, oList_lst, oList_tup, oList_sq, oLen_lst, oLen_tup, oLen_frl, oLen_sq, flat_sq, tRg1, tRg2, gN3, gT3, gCons3, gNil3, tV3, tC3, tB3, tT3, tIx3, tCh3, tAnd3, tOr3, tNot3, tNil3, tCons3, tTup3, tLst3, tOfL, tCall3, tU3, tUL, tSl3, tNo3, tSome3, tCat3, tRep3, oEq, oNe, oLt_int, oLt_tup, oLe_int, oLe_tup, oGt_int, oGt_tup, oGe_int, oGe_tup, eqD_int, eqD_str, eqD_bl, eqD_non, eqD_tup, eqD_lst, oAdd, oSub, oMul, oDiv, oMod, oPow, oIs, oIsnt, oIn, oNotIn, inD, lookD, oIx_lst, oIx_tup, oIx_frl, oIx_sq, oIx_dT, oIx_dK, getD, oSl, oInt, oSorted, isB, tPut3, tApp3, tDicT, tDicK, tBk3, tCt3, tMin2, tMax2, tNeg3, tIf3E, tAndV3, tOrV3, tNotV3, tIsi, tIndex3, tYes3, tRaise0, tRaise1, tIsE3, tXf3, wipe3, List.set_cons_zero, List.set_cons_succ, List.getElem?_cons_zero, List.getElem?_cons_succ, List.getElem?_nil, Fl.isSt, D.flat, Fl.nb, Fl.item, cond_true, cond_false, Bool.true_or, Bool.or_true, Bool.false_or, Bool.or_false, Bool.and_true, Bool.true_and, Bool.and_false, Bool.false_and, if_true, if_false, ite_true, ite_false, Bool.false_eq_true, Bool.not_true, Bool.not_false, isNon_non, isNon_lst, isNon_tup, isNon_int, isNon_bl, isNon_str, isNon_sq, ty_ii, ty_bi, ty_tt, ty_tl, ty_ti, ty_tn, ty_lt, ty_ll, ty_ib, ty_bb, ni_int, ni_tup, ni_lst, ni_bl, ni_non, List.length_cons, List.length_nil, reduceIte, List.map_cons, List.map_nil, true_and, and_true, Nat.zero_add, Nat.reduceAdd, List.length_map, Nat.zero_le, Int.toNat_natCast]
    exact k
/-! _law_same_row: 0 answer, 1 due -/
abbrev s__law_same_row : Stmt := topS 35
theorem sc__law_same_row : FnScope ["answer", "due"] ["answer", "due"] (defScope s__law_same_row) := ⟨rfl, rfl, rfl, by decide +kernel, rfl, by decide +kernel, by decide +kernel⟩
def fs__law_same_row (ex : Str → Addr) : FS := fun as q _ => (as = [.non, .non] ∨ ∃ xs, as = [.tup (intsD xs), .lst (intsD xs)]) ∧ q (.bl true)
theorem ok__law_same_row {P : Program} {w : World} {K : PySem.W.Frag} {mg : Str → Option Value} {base : Heap} {ex : Str → Addr} {f : Addr} {fd : FuncData} (T : Tx P w K mg base ex) (C__law_is_row : Callee P w K mg base "_law_is_row" 1 1 (fs__law_is_row ex)) (F : Fun K "_law_same_row" "_law_same_row" s__law_same_row f fd) (gm : mg "_law_same_row" = some (.ref f)) (bi : Binds K fd ["answer", "due"] []) : Callee P w K mg base "_law_same_row" 2 2 (fs__law_same_row ex) := by
  refine callee_mk F gm bi (fun3 (fs__law_same_row ex) F sc__law_same_row ⟨_, fun cdv A outer s H E hr tk hp =>
      (ss3cons (s3if (t3cmp op3is (p3v 1) p3non)
        (ss3one (s3ret (p3cmp op3is (p3v 0) p3non)))
        ss3nil)
      (ss3one (s3ret (p3and (p3callC C__law_is_row hr (by decide) tk rfl (a3cons (p3v 0) a3nil)) (p3one (p3cmp (op3eq (deep_of hr)) (PL3.val (l3t1 c3list rfl T.b_list bt_list (p3v 0))) (p3v 1))))))), ?_⟩)
  intro ds q z hl h
  obtain ⟨h, k⟩ := h
  rcases h with rfl | ⟨xs, rfl⟩
  · simp only [start3, List.map_cons, List.map_nil, List.length_cons, List.length_nil, List.cons_append, List.nil_append, Nat.reduceAdd, Nat.reduceSub, Nat.zero_add, List.replicate, if_true, if_false, Bool.false_eq_true, reduceIte]
    try simp only [tSeq3, tNx3, tIf3, tRet3, tRetN3, tSet3, tOwn3, tAsg3, tExpr3, tFrz, frzS, tFor3_eq, tLc3_eq, tLc23_eq, tSeq3I_eq, seqK_lst, seqK_tup, seqK_frl, seqK_sq, oTup_lst, oTup_tup, oTup_sq, oList_lst, oList_tup, oList_sq, oLen_lst, oLen_tup, oLen_frl, oLen_sq, flat_sq, tRg1, tRg2, gN3, gT3, gCons3, gNil3, tV3, tC3, tB3, tT3, tIx3, tCh3, tAnd3, tOr3, tNot3, tNil3, tCons3, tTup3, tLst3, tOfL, tCall3, tU3, tUL, tSl3, tNo3, tSome3, tCat3, tRep3, oEq, oNe, oLt_int, oLt_tup, oLe_int, oLe_tup, oGt_int, oGt_tup, oGe_int, oGe_tup, eqD_int, eqD_str, eqD_bl, eqD_non, eqD_tup, eqD_lst, oAdd, oSub, oMul, oDiv, oMod, oPow, oIs, oIsnt, oIn, oNotIn, inD, lookD, oIx_lst, oIx_tup, oIx_frl, oIx_sq, oIx_dT, oIx_dK, getD, oSl, oInt, oSorted, isB, tPut3, tApp3, tDicT, tDicK, tBk3, tCt3, tMin2, tMax2, tNeg3, tIf3E, tAndV3, tOrV3, tNotV3, tIsi, tIndex3, tYes3, tRaise0, tRaise1, tIsE3, tXf3, wipe3, List.set_cons_zero, List.set_cons_succ, List.getElem?_cons_zero, List.getElem?_cons_succ, List.getElem?_nil, Fl.isSt, D.flat, Fl.nb, Fl.item, cond_true, cond_false, Bool.true_or, Bool.or_true, Bool.false_or, Bool.or_false, Bool.and_true, Bool.true_and, Bool.and_false, Bool.false_and, if_true, if_false, ite_true, ite_false, Bool.false_eq_true, Bool.not_true, Bool.not_false, isNon_non, isNon_lst, isNon_tup, isNon_int, isNon_bl, isNon_str, isNon_sq, ty_ii, ty_bi, ty_tt, ty_tl, ty_ti, ty_tn, ty_lt, ty_ll, ty_ib, ty_bb, ni_int, ni_tup, ni_lst, ni_bl, ni_non, List.length_cons, List.length_nil, reduceIte, List.map_cons, List.map_nil, true_and, and_true, Nat.zero_add, Nat.reduceAdd, List.length_map, Nat.zero_le, Int.toNat_natCast]
    exact k
  · simp only [start3, List.map_cons, List.map_nil, List.length_cons, List.length_nil, List.cons_append, List.nil_append, Nat.reduceAdd, Nat.reduceSub, Nat.zero_add, List.replicate, if_true, if_false, Bool.false_eq_true, reduceIte]
    try simp only [tSeq3, tNx3, tIf3, tRet3, tRetN3, tSet3, tOwn3, tAsg3, tExpr3, tFrz, frzS, tFor3_eq, tLc3_eq, tLc23_eq, tSeq3I_eq, seqK_lst, seqK_tup, seqK_frl, seqK_sq, oTup_lst, oTup_tup, oTup_sq, oList_lst, oList_tup, oList_sq, oLen_lst, oLen_tup, oLen_frl, oLen_sq, flat_sq, tRg1, tRg2, gN3, gT3, gCons3, gNil3, tV3, tC3, tB3, tT3, tIx3, tCh3, tAnd3, tOr3, tNot3, tNil3, tCons3, tTup3, tLst3, tOfL, tCall3, tU3, tUL, tSl3, tNo3, tSome3, tCat3, tRep3, oEq, oNe, oLt_int, oLt_tup, oLe_int, oLe_tup, oGt_int, oGt_tup, oGe_int, oGe_tup, eqD_int, eqD_str, eqD_bl, eqD_non, eqD_tup, eqD_lst, oAdd, oSub, oMul, oDiv, oMod, oPow, oIs, oIsnt, oIn, oNotIn, inD, lookD, oIx_lst, oIx_tup, oIx_frl, oIx_sq, oIx_dT, oIx_dK, getD, oSl, oInt, oSorted, isB, tPut3, tApp3, tDicT, tDicK, tBk3, tCt3, tMin2, tMax2, tNeg3, tIf3E, tAndV3, tOrV3, tNotV3, tIsi, tIndex3, tYes3, tRaise0, tRaise1, tIsE3, tXf3, wipe3, List.set_cons_zero, List.set_cons_succ, List.getElem?_cons_zero, List.getElem?_cons_succ, List.getElem?_nil, Fl.isSt, D.flat, Fl.nb, Fl.item, cond_true, cond_false, Bool.true_or, Bool.or_true, Bool.false_or, Bool.or_false, Bool.and_true, Bool.true_and, Bool.and_false, Bool.false_and, if_true, if_false, ite_true, ite_false, Bool.false_eq_true, Bool.not_true, Bool.not_false, isNon_non, isNon_lst, isNon_tup, isNon_int, isNon_bl, isNon_str, isNon_sq, ty_ii, ty_bi, ty_tt, ty_tl, ty_ti, ty_tn, ty_lt, ty_ll, ty_ib, ty_bb, ni_int, ni_tup, ni_lst, ni_bl, ni_non, List.length_cons, List.length_nil, reduceIte, List.map_cons, List.map_nil, true_and, and_true, Nat.zero_add, Nat.reduceAdd, List.length_map, Nat.zero_le, Int.toNat_natCast]
    refine ⟨xs, rfl, ?_⟩
    try simp only [tSeq3, tNx3, tIf3, tRet3, tRetN3, tSet3, tOwn3, tAsg3, tExpr3, tFrz, frzS, tFor3_eq, tLc3_eq, tLc23_eq, tSeq3I_eq, seqK_lst, seqK_tup, seqK_frl, seqK_sq, oTup_lst, oTup_tup, oTup_sq, oList_lst, oList_tup, oList_sq, oLen_lst, oLen_tup, oLen_frl, oLen_sq, flat_sq, tRg1, tRg2, gN3, gT3, gCons3, gNil3, tV3, tC3, tB3, tT3, tIx3, tCh3, tAnd3, tOr3, tNot3, tNil3, tCons3, tTup3, tLst3, tOfL, tCall3, tU3, tUL, tSl3, tNo3, tSome3, tCat3, tRep3, oEq, oNe, oLt_int, oLt_tup, oLe_int, oLe_tup, oGt_int, oGt_tup, oGe_int, oGe_tup, eqD_int, eqD_str, eqD_bl, eqD_non, eqD_tup, eqD_lst, oAdd, oSub, oMul, oDiv, oMod, oPow, oIs, oIsnt, oIn, oNotIn, inD, lookD, oIx_lst, oIx_tup, oIx_frl, oIx_sq, oIx_dT, oIx_dK, getD, oSl, oInt, oSorted, isB, tPut3, tApp3, tDicT, tDicK, tBk3, tCt3, tMin2, tMax2, tNeg3, tIf3E, tAndV3, tOrV3, tNotV3, tIsi, tIndex3, tYes3, tRaise0, tRaise1, tIsE3, tXf3, wipe3, List.set_cons_zero, List.set_cons_succ, List.getElem?_cons_zero, List.getElem?_cons_succ, List.getElem?_nil, Fl.isSt, D.flat, Fl.nb, Fl.item, cond_true, cond_false, Bool.true_or, Bool.or_true, Bool.false_or, Bool.or_false, Bool.and_true, Bool.true_and, Bool.and_false, Bool.false_and, if_true, if_false, ite_true, ite_false, Bool.false_eq_true, Bool.not_true, Bool.not_false, isNon_non, isNon_lst, isNon_tup, isNon_int, isNon_bl, isNon_str, isNon_sq, ty_ii, ty_bi, ty_tt, ty_tl, ty_ti, ty_tn, ty_lt, ty_ll, ty_ib, ty_bb, ni_int, ni_tup, ni_lst, ni_bl, ni_non, List.length_cons, List.length_nil, reduceIte, List.map_cons, List.map_nil, true_and, and_true, Nat.zero_add, Nat.reduceAdd, List.length_map, Nat.zero_le, Int.toNat_natCast]
    have e := eqG_of (α := List Int) (x := xs) (y := xs) (k := fun b => q (.bl b)) (by simpa using k)
    exact e
theorem refK_of {ex : Str → Addr} {n : Nat} {z : Exn → Prop} {Q : Prop} (h : n = 0) (q : Q) : refK ex n z Q := ⟨fun _ => q, fun h1 => by omega, fun h2 => by omega⟩
/-- the table of these pairs, each with the less letter ahead -/
def TabOf (T : Tab) (ps : List (Int × Int)) : Prop := (∀ a b, inT T a b = decide ((a, b) ∈ ps)) ∧ ∀ p ∈ ps, p.1 < p.2
theorem TabOf.lf {T : Tab} {ps : List (Int × Int)} (h : TabOf T ps) : lf T = frP ps := by
  funext a b
  unfold K53.lf frP
  rw [h.1, Bool.eq_iff_iff, decide_eq_true_eq, decide_eq_true_eq]
  by_cases h1 : a < b
  · rw [if_neg (by omega), if_pos h1]
    exact ⟨.inl, fun z => z.elim id fun z => absurd (h.2 _ z) (by simp; omega)⟩
  · by_cases h2 : b < a
    · rw [if_pos h2, if_neg h1]
      exact ⟨.inr, fun z => z.elim (fun z => absurd (h.2 _ z) (by simp; omega)) id⟩
    · have e : a = b := by omega
      subst e
      rw [if_neg h1]
      exact ⟨.inl, fun z => z.elim id id⟩
theorem TabOf.irr {T : Tab} {ps : List (Int × Int)} (h : TabOf T ps) (a : Int) : frP ps a a = false := by
  unfold frP
  rw [decide_eq_false_iff_not]
  rintro (z | z) <;> exact absurd (h.2 _ z) (by simp)
/-! _law_shared_is_right: 0 table, 1 first, 2 second, 3 shared, 4 one, 5 other, 6 letter -/
abbrev s__law_shared_is_right : Stmt := topS 36
theorem sc__law_shared_is_right : FnScope ["table", "first", "second", "shared", "one", "other", "letter"] ["table", "first", "second", "shared"] (defScope s__law_shared_is_right) := ⟨rfl, rfl, rfl, by decide +kernel, rfl, by decide +kernel, by decide +kernel⟩
def fs__law_shared_is_right (ex : Str → Addr) : FS := fun as q _ => ∃ T x y s o1 o2, as = [.dT T, .lst (intsD x), .lst (intsD y), .tup (intsD s)] ∧ (∀ a, lf T a a = false) ∧ x.length ≤ 1000 ∧ y.length ≤ 1000 ∧ s.length ≤ 1000 ∧ behind (lf T) s x = some o1 ∧ behind (lf T) s y = some o2 ∧ least (lf T) s = s ∧
  (∀ c, isF (lf T) o1 c = true → isF (lf T) o2 c = true → False) ∧ q (.bl true)
theorem ok__law_shared_is_right {P : Program} {w : World} {K : PySem.W.Frag} {mg : Str → Option Value} {base : Heap} {ex : Str → Addr} {f : Addr} {fd : FuncData} (T : Tx P w K mg base ex) (C__law_behind : Callee P w K mg base "_law_behind" 3 3 (fs__law_behind ex)) (C__law_least : Callee P w K mg base "_law_least" 2 2 (fs__law_least ex)) (C__law_taken : Callee P w K mg base "_law_taken" 2 3 (fs__law_taken ex)) (F : Fun K "_law_shared_is_right" "_law_shared_is_right" s__law_shared_is_right f fd) (gm : mg "_law_shared_is_right" = some (.ref f)) (bi : Binds K fd ["table", "first", "second", "shared"] []) : Callee P w K mg base "_law_shared_is_right" 4 4 (fs__law_shared_is_right ex) := by
  refine callee_mk F gm bi (fun3 (fs__law_shared_is_right ex) F sc__law_shared_is_right ⟨_, fun cdv A outer s H E hr tk hp =>
      (ss3cons (s3set (i := 4) sc__law_shared_is_right.nd rfl (by first | exact .inl rfl | exact .inr rfl) (p3callC C__law_behind hr (by decide) tk rfl (a3cons (p3v 0) (a3cons (p3v 3) (a3cons (p3v 1) a3nil)))))
      (ss3cons (s3set (i := 5) sc__law_shared_is_right.nd rfl (by first | exact .inl rfl | exact .inr rfl) (p3callC C__law_behind hr (by decide) tk rfl (a3cons (p3v 0) (a3cons (p3v 3) (a3cons (p3v 2) a3nil)))))
      (ss3cons (s3if (PW3.t (w3or (t3cmp op3is (p3v 4) p3non) (w3or (t3cmp op3is (p3v 5) p3non) (w3or1 (t3cmp (op3ne (deep_of hr)) (p3callC C__law_least hr (by decide) tk rfl (a3cons (p3v 0) (a3cons (p3v 3) a3nil))) (PL3.val (l3t1 c3list rfl T.b_list bt_list (p3v 3))))))))
        (ss3one (s3ret p3bl))
        ss3nil)
      (ss3cons (s3for hp rfl (i3range1 rfl T.b_range p3int) (g3name (i := 6) sc__law_shared_is_right.nd rfl (by first | exact .inl rfl | exact .inr rfl))
        (ss3one (s3if (PW3.t (w3and (t3cmp op3isnt (p3callC C__law_taken hr (by decide) tk rfl (a3cons (p3v 0) (a3cons (p3v 4) (a3cons (p3v 6) a3nil)))) p3non) (w3and1 (t3cmp op3isnt (p3callC C__law_taken hr (by decide) tk rfl (a3cons (p3v 0) (a3cons (p3v 5) (a3cons (p3v 6) a3nil)))) p3non))))
          (ss3one (s3ret p3bl))
          ss3nil)))
      (ss3one (s3ret p3bl)))))), ?_⟩)
  intro ds q z hl h
  obtain ⟨T, x, y, s, o1, o2, rfl, irr, hx, hy, hs, b1, b2, hls, hno, k⟩ := h
  have l1 := behind_len b1
  have l2 := behind_len b2
  simp only [start3, List.map_cons, List.map_nil, List.length_cons, List.length_nil, List.cons_append, List.nil_append, Nat.reduceAdd, Nat.reduceSub, Nat.zero_add, List.replicate, if_true, if_false, Bool.false_eq_true, reduceIte]
  try simp only [tSeq3, tNx3, tIf3, tRet3, tRetN3, tSet3, tOwn3, tAsg3, tExpr3, tFrz, frzS, tFor3_eq, tLc3_eq, tLc23_eq, tSeq3I_eq, seqK_lst, seqK_tup, seqK_frl, seqK_sq, oTup_lst, oTup_tup, oTup_sq, oList_lst, oList_tup, oList_sq, oLen_lst, oLen_tup, oLen_frl, oLen_sq, flat_sq, tRg1, tRg2, gN3, gT3, gCons3, gNil3, tV3, tC3, tB3, tT3, tIx3, tCh3, tAnd3, tOr3, tNot3, tNil3, tCons3, tTup3, tLst3, tOfL, tCall3, tU3, tUL, tSl3, tNo3, tSome3, tCat3, tRep3, oEq, oNe, oLt_int, oLt_tup, oLe_int, oLe_tup, oGt_int, oGt_tup, oGe_int, oGe_tup, eqD_int, eqD_str, eqD_bl, eqD_non, eqD_tup, eqD_lst, oAdd, oSub, oMul, oDiv, oMod, oPow, oIs, oIsnt, oIn, oNotIn, inD, lookD, oIx_lst, oIx_tup, oIx_frl, oIx_sq, oIx_dT, oIx_dK, getD, oSl, oInt, oSorted, isB, tPut3, tApp3, tDicT, tDicK, tBk3, tCt3, tMin2, tMax2, tNeg3, tIf3E, tAndV3, tOrV3, tNotV3, tIsi, tIndex3, tYes3, tRaise0, tRaise1, tIsE3, tXf3, wipe3, List.set_cons_zero, List.set_cons_succ, List.getElem?_cons_zero, List.getElem?_cons_succ, List.getElem?_nil, Fl.isSt, D.flat, Fl.nb, Fl.item, cond_true, cond_false, Bool.true_or, Bool.or_true, Bool.false_or, Bool.or_false, Bool.and_true, Bool.true_and, Bool.and_false, Bool.false_and, if_true, if_false, ite_true, ite_false, Bool.false_eq_true, Bool.not_true, Bool.not_false, isNon_non, isNon_lst, isNon_tup, isNon_int, isNon_bl, isNon_str, isNon_sq, ty_ii, ty_bi, ty_tt, ty_tl, ty_ti, ty_tn, ty_lt, ty_ll, ty_ib, ty_bb, ni_int, ni_tup, ni_lst, ni_bl, ni_non, List.length_cons, List.length_nil, reduceIte, List.map_cons, List.map_nil, true_and, and_true, Nat.zero_add, Nat.reduceAdd, List.length_map, Nat.zero_le, Int.toNat_natCast]
  refine ⟨T, true, s, x, rfl, hx, ?_⟩
  rw [b1]
  try simp only [tSeq3, tNx3, tIf3, tRet3, tRetN3, tSet3, tOwn3, tAsg3, tExpr3, tFrz, frzS, tFor3_eq, tLc3_eq, tLc23_eq, tSeq3I_eq, seqK_lst, seqK_tup, seqK_frl, seqK_sq, oTup_lst, oTup_tup, oTup_sq, oList_lst, oList_tup, oList_sq, oLen_lst, oLen_tup, oLen_frl, oLen_sq, flat_sq, tRg1, tRg2, gN3, gT3, gCons3, gNil3, tV3, tC3, tB3, tT3, tIx3, tCh3, tAnd3, tOr3, tNot3, tNil3, tCons3, tTup3, tLst3, tOfL, tCall3, tU3, tUL, tSl3, tNo3, tSome3, tCat3, tRep3, oEq, oNe, oLt_int, oLt_tup, oLe_int, oLe_tup, oGt_int, oGt_tup, oGe_int, oGe_tup, eqD_int, eqD_str, eqD_bl, eqD_non, eqD_tup, eqD_lst, oAdd, oSub, oMul, oDiv, oMod, oPow, oIs, oIsnt, oIn, oNotIn, inD, lookD, oIx_lst, oIx_tup, oIx_frl, oIx_sq, oIx_dT, oIx_dK, getD, oSl, oInt, oSorted, isB, tPut3, tApp3, tDicT, tDicK, tBk3, tCt3, tMin2, tMax2, tNeg3, tIf3E, tAndV3, tOrV3, tNotV3, tIsi, tIndex3, tYes3, tRaise0, tRaise1, tIsE3, tXf3, wipe3, List.set_cons_zero, List.set_cons_succ, List.getElem?_cons_zero, List.getElem?_cons_succ, List.getElem?_nil, Fl.isSt, D.flat, Fl.nb, Fl.item, cond_true, cond_false, Bool.true_or, Bool.or_true, Bool.false_or, Bool.or_false, Bool.and_true, Bool.true_and, Bool.and_false, Bool.false_and, if_true, if_false, ite_true, ite_false, Bool.false_eq_true, Bool.not_true, Bool.not_false, isNon_non, isNon_lst, isNon_tup, isNon_int, isNon_bl, isNon_str, isNon_sq, ty_ii, ty_bi, ty_tt, ty_tl, ty_ti, ty_tn, ty_lt, ty_ll, ty_ib, ty_bb, ni_int, ni_tup, ni_lst, ni_bl, ni_non, List.length_cons, List.length_nil, reduceIte, List.map_cons, List.map_nil, true_and, and_true, Nat.zero_add, Nat.reduceAdd, List.length_map, Nat.zero_le, Int.toNat_natCast]
  refine ⟨T, true, s, y, rfl, hy, ?_⟩
  rw [b2]
  simp only [optD]
  try simp only [tSeq3, tNx3, tIf3, tRet3, tRetN3, tSet3, tOwn3, tAsg3, tExpr3, tFrz, frzS, tFor3_eq, tLc3_eq, tLc23_eq, tSeq3I_eq, seqK_lst, seqK_tup, seqK_frl, seqK_sq, oTup_lst, oTup_tup, oTup_sq, oList_lst, oList_tup, oList_sq, oLen_lst, oLen_tup, oLen_frl, oLen_sq, flat_sq, tRg1, tRg2, gN3, gT3, gCons3, gNil3, tV3, tC3, tB3, tT3, tIx3, tCh3, tAnd3, tOr3, tNot3, tNil3, tCons3, tTup3, tLst3, tOfL, tCall3, tU3, tUL, tSl3, tNo3, tSome3, tCat3, tRep3, oEq, oNe, oLt_int, oLt_tup, oLe_int, oLe_tup, oGt_int, oGt_tup, oGe_int, oGe_tup, eqD_int, eqD_str, eqD_bl, eqD_non, eqD_tup, eqD_lst, oAdd, oSub, oMul, oDiv, oMod, oPow, oIs, oIsnt, oIn, oNotIn, inD, lookD, oIx_lst, oIx_tup, oIx_frl, oIx_sq, oIx_dT, oIx_dK, getD, oSl, oInt, oSorted, isB, tPut3, tApp3, tDicT, tDicK, tBk3, tCt3, tMin2, tMax2, tNeg3, tIf3E, tAndV3, tOrV3, tNotV3, tIsi, tIndex3, tYes3, tRaise0, tRaise1, tIsE3, tXf3, wipe3, List.set_cons_zero, List.set_cons_succ, List.getElem?_cons_zero, List.getElem?_cons_succ, List.getElem?_nil, Fl.isSt, D.flat, Fl.nb, Fl.item, cond_true, cond_false, Bool.true_or, Bool.or_true, Bool.false_or, Bool.or_false, Bool.and_true, Bool.true_and, Bool.and_false, Bool.false_and, if_true, if_false, ite_true, ite_false, Bool.false_eq_true, Bool.not_true, Bool.not_false, isNon_non, isNon_lst, isNon_tup, isNon_int, isNon_bl, isNon_str, isNon_sq, ty_ii, ty_bi, ty_tt, ty_tl, ty_ti, ty_tn, ty_lt, ty_ll, ty_ib, ty_bb, ni_int, ni_tup, ni_lst, ni_bl, ni_non, List.length_cons, List.length_nil, reduceIte, List.map_cons, List.map_nil, true_and, and_true, Nat.zero_add, Nat.reduceAdd, List.length_map, Nat.zero_le, Int.toNat_natCast]
  refine ⟨T, true, s, rfl, irr, hs, ?_⟩
  rw [hls]
  try simp only [tSeq3, tNx3, tIf3, tRet3, tRetN3, tSet3, tOwn3, tAsg3, tExpr3, tFrz, frzS, tFor3_eq, tLc3_eq, tLc23_eq, tSeq3I_eq, seqK_lst, seqK_tup, seqK_frl, seqK_sq, oTup_lst, oTup_tup, oTup_sq, oList_lst, oList_tup, oList_sq, oLen_lst, oLen_tup, oLen_frl, oLen_sq, flat_sq, tRg1, tRg2, gN3, gT3, gCons3, gNil3, tV3, tC3, tB3, tT3, tIx3, tCh3, tAnd3, tOr3, tNot3, tNil3, tCons3, tTup3, tLst3, tOfL, tCall3, tU3, tUL, tSl3, tNo3, tSome3, tCat3, tRep3, oEq, oNe, oLt_int, oLt_tup, oLe_int, oLe_tup, oGt_int, oGt_tup, oGe_int, oGe_tup, eqD_int, eqD_str, eqD_bl, eqD_non, eqD_tup, eqD_lst, oAdd, oSub, oMul, oDiv, oMod, oPow, oIs, oIsnt, oIn, oNotIn, inD, lookD, oIx_lst, oIx_tup, oIx_frl, oIx_sq, oIx_dT, oIx_dK, getD, oSl, oInt, oSorted, isB, tPut3, tApp3, tDicT, tDicK, tBk3, tCt3, tMin2, tMax2, tNeg3, tIf3E, tAndV3, tOrV3, tNotV3, tIsi, tIndex3, tYes3, tRaise0, tRaise1, tIsE3, tXf3, wipe3, List.set_cons_zero, List.set_cons_succ, List.getElem?_cons_zero, List.getElem?_cons_succ, List.getElem?_nil, Fl.isSt, D.flat, Fl.nb, Fl.item, cond_true, cond_false, Bool.true_or, Bool.or_true, Bool.false_or, Bool.or_false, Bool.and_true, Bool.true_and, Bool.and_false, Bool.false_and, if_true, if_false, ite_true, ite_false, Bool.false_eq_true, Bool.not_true, Bool.not_false, isNon_non, isNon_lst, isNon_tup, isNon_int, isNon_bl, isNon_str, isNon_sq, ty_ii, ty_bi, ty_tt, ty_tl, ty_ti, ty_tn, ty_lt, ty_ll, ty_ib, ty_bb, ni_int, ni_tup, ni_lst, ni_bl, ni_non, List.length_cons, List.length_nil, reduceIte, List.map_cons, List.map_nil, true_and, and_true, Nat.zero_add, Nat.reduceAdd, List.length_map, Nat.zero_le, Int.toNat_natCast]
  refine eqG_of (α := List Int) (x := s) (y := s) ?_
  rw [if_neg (by simp)]
  refine ⟨by omega, ?_⟩
  refine forP_rg (fun i st => ∃ (l1 l2 l3 l6 : Sl), st = [.va (.dT T), l1, l2, l3, .va (.lst (intsD o1)), .va (.lst (intsD o2)), l6]) ?_ ?_ ?_
  · exact ⟨_, _, _, _, rfl⟩
  · rintro i s' hi ⟨l1, l2, l3, l6, rfl⟩
    try simp only [tSeq3, tNx3, tIf3, tRet3, tRetN3, tSet3, tOwn3, tAsg3, tExpr3, tFrz, frzS, tFor3_eq, tLc3_eq, tLc23_eq, tSeq3I_eq, seqK_lst, seqK_tup, seqK_frl, seqK_sq, oTup_lst, oTup_tup, oTup_sq, oList_lst, oList_tup, oList_sq, oLen_lst, oLen_tup, oLen_frl, oLen_sq, flat_sq, tRg1, tRg2, gN3, gT3, gCons3, gNil3, tV3, tC3, tB3, tT3, tIx3, tCh3, tAnd3, tOr3, tNot3, tNil3, tCons3, tTup3, tLst3, tOfL, tCall3, tU3, tUL, tSl3, tNo3, tSome3, tCat3, tRep3, oEq, oNe, oLt_int, oLt_tup, oLe_int, oLe_tup, oGt_int, oGt_tup, oGe_int, oGe_tup, eqD_int, eqD_str, eqD_bl, eqD_non, eqD_tup, eqD_lst, oAdd, oSub, oMul, oDiv, oMod, oPow, oIs, oIsnt, oIn, oNotIn, inD, lookD, oIx_lst, oIx_tup, oIx_frl, oIx_sq, oIx_dT, oIx_dK, getD, oSl, oInt, oSorted, isB, tPut3, tApp3, tDicT, tDicK, tBk3, tCt3, tMin2, tMax2, tNeg3, tIf3E, tAndV3, tOrV3, tNotV3, tIsi, tIndex3, tYes3, tRaise0, tRaise1, tIsE3, tXf3, wipe3, List.set_cons_zero, List.set_cons_succ, List.getElem?_cons_zero, List.getElem?_cons_succ, List.getElem?_nil, Fl.isSt, D.flat, Fl.nb, Fl.item, cond_true, cond_false, Bool.true_or, Bool.or_true, Bool.false_or, Bool.or_false, Bool.and_true, Bool.true_and, Bool.and_false, Bool.false_and, if_true, if_false, ite_true, ite_false, Bool.false_eq_true, Bool.not_true, Bool.not_false, isNon_non, isNon_lst, isNon_tup, isNon_int, isNon_bl, isNon_str, isNon_sq, ty_ii, ty_bi, ty_tt, ty_tl, ty_ti, ty_tn, ty_lt, ty_ll, ty_ib, ty_bb, ni_int, ni_tup, ni_lst, ni_bl, ni_non, List.length_cons, List.length_nil, reduceIte, List.map_cons, List.map_nil, true_and, and_true, Nat.zero_add, Nat.reduceAdd, List.length_map, Nat.zero_le, Int.toNat_natCast]
    refine ⟨T, o1, _, rfl, by omega, ?_⟩
    try simp only [tSeq3, tNx3, tIf3, tRet3, tRetN3, tSet3, tOwn3, tAsg3, tExpr3, tFrz, frzS, tFor3_eq, tLc3_eq, tLc23_eq, tSeq3I_eq, seqK_lst, seqK_tup, seqK_frl, seqK_sq, oTup_lst, oTup_tup, oTup_sq, oList_lst, oList_tup, oList_sq, oLen_lst, oLen_tup, oLen_frl, oLen_sq, flat_sq, tRg1, tRg2, gN3, gT3, gCons3, gNil3, tV3, tC3, tB3, tT3, tIx3, tCh3, tAnd3, tOr3, tNot3, tNil3, tCons3, tTup3, tLst3, tOfL, tCall3, tU3, tUL, tSl3, tNo3, tSome3, tCat3, tRep3, oEq, oNe, oLt_int, oLt_tup, oLe_int, oLe_tup, oGt_int, oGt_tup, oGe_int, oGe_tup, eqD_int, eqD_str, eqD_bl, eqD_non, eqD_tup, eqD_lst, oAdd, oSub, oMul, oDiv, oMod, oPow, oIs, oIsnt, oIn, oNotIn, inD, lookD, oIx_lst, oIx_tup, oIx_frl, oIx_sq, oIx_dT, oIx_dK, getD, oSl, oInt, oSorted, isB, tPut3, tApp3, tDicT, tDicK, tBk3, tCt3, tMin2, tMax2, tNeg3, tIf3E, tAndV3, tOrV3, tNotV3, tIsi, tIndex3, tYes3, tRaise0, tRaise1, tIsE3, tXf3, wipe3, List.set_cons_zero, List.set_cons_succ, List.getElem?_cons_zero, List.getElem?_cons_succ, List.getElem?_nil, Fl.isSt, D.flat, Fl.nb, Fl.item, cond_true, cond_false, Bool.true_or, Bool.or_true, Bool.false_or, Bool.or_false, Bool.and_true, Bool.true_and, Bool.and_false, Bool.false_and, if_true, if_false, ite_true, ite_false, Bool.false_eq_true, Bool.not_true, Bool.not_false, isNon_non, isNon_lst, isNon_tup, isNon_int, isNon_bl, isNon_str, isNon_sq, ty_ii, ty_bi, ty_tt, ty_tl, ty_ti, ty_tn, ty_lt, ty_ll, ty_ib, ty_bb, ni_int, ni_tup, ni_lst, ni_bl, ni_non, List.length_cons, List.length_nil, reduceIte, List.map_cons, List.map_nil, true_and, and_true, Nat.zero_add, Nat.reduceAdd, List.length_map, Nat.zero_le, Int.toNat_natCast]
    rw [isNon_optD]
    by_cases h1 : (taken (lf T) o1 (0 + (i : Nat))).isSome = true
    · rw [h1]
      simp only [Bool.not_true, Bool.not_false, if_true]
      refine ⟨T, o2, _, rfl, by omega, ?_⟩
      try simp only [tSeq3, tNx3, tIf3, tRet3, tRetN3, tSet3, tOwn3, tAsg3, tExpr3, tFrz, frzS, tFor3_eq, tLc3_eq, tLc23_eq, tSeq3I_eq, seqK_lst, seqK_tup, seqK_frl, seqK_sq, oTup_lst, oTup_tup, oTup_sq, oList_lst, oList_tup, oList_sq, oLen_lst, oLen_tup, oLen_frl, oLen_sq, flat_sq, tRg1, tRg2, gN3, gT3, gCons3, gNil3, tV3, tC3, tB3, tT3, tIx3, tCh3, tAnd3, tOr3, tNot3, tNil3, tCons3, tTup3, tLst3, tOfL, tCall3, tU3, tUL, tSl3, tNo3, tSome3, tCat3, tRep3, oEq, oNe, oLt_int, oLt_tup, oLe_int, oLe_tup, oGt_int, oGt_tup, oGe_int, oGe_tup, eqD_int, eqD_str, eqD_bl, eqD_non, eqD_tup, eqD_lst, oAdd, oSub, oMul, oDiv, oMod, oPow, oIs, oIsnt, oIn, oNotIn, inD, lookD, oIx_lst, oIx_tup, oIx_frl, oIx_sq, oIx_dT, oIx_dK, getD, oSl, oInt, oSorted, isB, tPut3, tApp3, tDicT, tDicK, tBk3, tCt3, tMin2, tMax2, tNeg3, tIf3E, tAndV3, tOrV3, tNotV3, tIsi, tIndex3, tYes3, tRaise0, tRaise1, tIsE3, tXf3, wipe3, List.set_cons_zero, List.set_cons_succ, List.getElem?_cons_zero, List.getElem?_cons_succ, List.getElem?_nil, Fl.isSt, D.flat, Fl.nb, Fl.item, cond_true, cond_false, Bool.true_or, Bool.or_true, Bool.false_or, Bool.or_false, Bool.and_true, Bool.true_and, Bool.and_false, Bool.false_and, if_true, if_false, ite_true, ite_false, Bool.false_eq_true, Bool.not_true, Bool.not_false, isNon_non, isNon_lst, isNon_tup, isNon_int, isNon_bl, isNon_str, isNon_sq, ty_ii, ty_bi, ty_tt, ty_tl, ty_ti, ty_tn, ty_lt, ty_ll, ty_ib, ty_bb, ni_int, ni_tup, ni_lst, ni_bl, ni_non, List.length_cons, List.length_nil, reduceIte, List.map_cons, List.map_nil, true_and, and_true, Nat.zero_add, Nat.reduceAdd, List.length_map, Nat.zero_le, Int.toNat_natCast]
      rw [isNon_optD]
      have h2 : (taken (lf T) o2 (0 + (i : Nat))).isSome = false := by
        cases e : (taken (lf T) o2 (0 + (i : Nat))).isSome with
        | false => rfl
        | true => exact (hno _ h1 e).elim
      rw [h2]
      simp only [Bool.not_true, Bool.not_false, Bool.false_eq_true, if_false]
      exact ⟨_, _, _, _, rfl⟩
    · have h1' : (taken (lf T) o1 (0 + (i : Nat))).isSome = false := by simpa using h1
      rw [h1']
      simp only [Bool.not_true, Bool.not_false, Bool.false_eq_true, if_false]
      exact ⟨_, _, _, _, rfl⟩
  · rintro s' ⟨l1, l2, l3, l6, rfl⟩
    try simp only [tSeq3, tNx3, tIf3, tRet3, tRetN3, tSet3, tOwn3, tAsg3, tExpr3, tFrz, frzS, tFor3_eq, tLc3_eq, tLc23_eq, tSeq3I_eq, seqK_lst, seqK_tup, seqK_frl, seqK_sq, oTup_lst, oTup_tup, oTup_sq, oList_lst, oList_tup, oList_sq, oLen_lst, oLen_tup, oLen_frl, oLen_sq, flat_sq, tRg1, tRg2, gN3, gT3, gCons3, gNil3, tV3, tC3, tB3, tT3, tIx3, tCh3, tAnd3, tOr3, tNot3, tNil3, tCons3, tTup3, tLst3, tOfL, tCall3, tU3, tUL, tSl3, tNo3, tSome3, tCat3, tRep3, oEq, oNe, oLt_int, oLt_tup, oLe_int, oLe_tup, oGt_int, oGt_tup, oGe_int, oGe_tup, eqD_int, eqD_str, eqD_bl, eqD_non, eqD_tup, eqD_lst, oAdd, oSub, oMul, oDiv, oMod, oPow, oIs, oIsnt, oIn, oNotIn, inD, lookD, oIx_lst, oIx_tup, oIx_frl, oIx_sq, oIx_dT, oIx_dK, getD, oSl, oInt, oSorted, isB, tPut3, tApp3, tDicT, tDicK, tBk3, tCt3, tMin2, tMax2, tNeg3, tIf3E, tAndV3, tOrV3, tNotV3, tIsi, tIndex3, tYes3, tRaise0, tRaise1, tIsE3, tXf3, wipe3, List.set_cons_zero, List.set_cons_succ, List.getElem?_cons_zero, List.getElem?_cons_succ, List.getElem?_nil, Fl.isSt, D.flat, Fl.nb, Fl.item, cond_true, cond_false, Bool.true_or, Bool.or_true, Bool.false_or, Bool.or_false, Bool.and_true, Bool.true_and, Bool.and_false, Bool.false_and, if_true, if_false, ite_true, ite_false, Bool.false_eq_true, Bool.not_true, Bool.not_false, isNon_non, isNon_lst, isNon_tup, isNon_int, isNon_bl, isNon_str, isNon_sq, ty_ii, ty_bi, ty_tt, ty_tl, ty_ti, ty_tn, ty_lt, ty_ll, ty_ib, ty_bb, ni_int, ni_tup, ni_lst, ni_bl, ni_non, List.length_cons, List.length_nil, reduceIte, List.map_cons, List.map_nil, true_and, and_true, Nat.zero_add, Nat.reduceAdd, List.length_map, Nat.zero_le, Int.toNat_natCast]
    exact k
def optP : Option (Int × Int) → D
  | none => .non
  | some p => prD p
theorem isNon_optP (o : Option (Int × Int)) : isNon (optP o) = !o.isSome := by cases o <;> rfl
def minP : List (Int × Int) → Option (Int × Int)
  | [] => none
  | p :: r => some (minOf p r)
theorem minP_snoc (l : List (Int × Int)) (y : Int × Int) : minP (l ++ [y]) = match minP l with
    | none => some y
    | some m => some (if DatumOrd.lt y m = true then y else m) := by
  cases l with
  | nil => rfl
  | cons p r =>
    show some (minOf p (r ++ [y])) = some (if DatumOrd.lt y (minOf p r) = true then y else minOf p r)
    unfold minOf
    rw [List.foldl_append]
    rfl
/-! _law_answers_meet: 0 table, 1 pairs, 2 first, 3 second, 4 shared, 5 one, 6 other, 7 clash, 8 letter, 9 stop, 10 due, 11 told -/
abbrev s__law_answers_meet : Stmt := topS 37
theorem sc__law_answers_meet : FnScope ["table", "pairs", "first", "second", "shared", "one", "other", "clash", "letter", "stop", "due", "told"] ["table", "pairs", "first", "second"] (defScope s__law_answers_meet) := ⟨rfl, rfl, rfl, by decide +kernel, rfl, by decide +kernel, by decide +kernel⟩
def fs__law_answers_meet (ex : Str → Addr) : FS := fun as q _ => ∃ T ps x y, as = [.dT T, .lst (List.map prD ps), .lst (intsD x), .lst (intsD y)] ∧ TabOf T ps ∧ ps.length ≤ 1000 ∧ refuse x y = 0 ∧ refuse y x = 0 ∧ q (.bl true)
theorem ok__law_answers_meet {P : Program} {w : World} {K : PySem.W.Frag} {mg : Str → Option Value} {base : Heap} {ex : Str → Addr} {f : Addr} {fd : FuncData} (T : Tx P w K mg base ex) (C_shared_beginning : Callee P w K mg base "shared_beginning" 4 3 (fs_shared_beginning ex)) (C__law_is_row : Callee P w K mg base "_law_is_row" 1 1 (fs__law_is_row ex)) (C__law_shared_is_right : Callee P w K mg base "_law_shared_is_right" 4 4 (fs__law_shared_is_right ex)) (C__law_behind : Callee P w K mg base "_law_behind" 3 3 (fs__law_behind ex)) (C__law_is_free : Callee P w K mg base "_law_is_free" 1 3 (fs__law_is_free ex)) (C__law_least : Callee P w K mg base "_law_least" 2 2 (fs__law_least ex)) (C_clash_letters : Callee P w K mg base "clash_letters" 4 3 (fs_clash_letters ex)) (C__law_same_row : Callee P w K mg base "_law_same_row" 2 2 (fs__law_same_row ex)) (C_common_log : Callee P w K mg base "common_log" 4 3 (fs_common_log ex)) (F : Fun K "_law_answers_meet" "_law_answers_meet" s__law_answers_meet f fd) (gm : mg "_law_answers_meet" = some (.ref f)) (bi : Binds K fd ["table", "pairs", "first", "second"] []) : Callee P w K mg base "_law_answers_meet" 5 4 (fs__law_answers_meet ex) := by
  refine callee_mk F gm bi (fun3 (fs__law_answers_meet ex) F sc__law_answers_meet ⟨_, fun cdv A outer s H E hr tk hp =>
      (ss3cons (s3set (i := 4) sc__law_answers_meet.nd rfl (by first | exact .inl rfl | exact .inr rfl) (p3callC C_shared_beginning hr (by decide) tk rfl (a3cons (p3v 1) (a3cons (p3v 2) (a3cons (p3v 3) a3nil)))))
      (ss3cons (s3if (PW3.t (w3or (t3not (t3val (p3callC C__law_is_row hr (by decide) tk rfl (a3cons (p3v 4) a3nil)))) (w3or1 (t3not (t3val (p3callC C__law_shared_is_right hr (by decide) tk rfl (a3cons (p3v 0) (a3cons (p3v 2) (a3cons (p3v 3) (a3cons (p3v 4) a3nil))))))))))
        (ss3one (s3ret p3bl))
        ss3nil)
      (ss3cons (s3set (i := 5) sc__law_answers_meet.nd rfl (by first | exact .inl rfl | exact .inr rfl) (p3callC C__law_behind hr (by decide) tk rfl (a3cons (p3v 0) (a3cons (p3v 4) (a3cons (p3v 2) a3nil)))))
      (ss3cons (s3set (i := 6) sc__law_answers_meet.nd rfl (by first | exact .inl rfl | exact .inr rfl) (p3callC C__law_behind hr (by decide) tk rfl (a3cons (p3v 0) (a3cons (p3v 4) (a3cons (p3v 3) a3nil)))))
      (ss3cons (s3set (i := 7) sc__law_answers_meet.nd rfl (by first | exact .inl rfl | exact .inr rfl) p3non)
      (ss3cons (s3for hp rfl (i3seq (p3v 5)) (g3name (i := 8) sc__law_answers_meet.nd rfl (by first | exact .inl rfl | exact .inr rfl))
        (ss3one (s3for hp rfl (i3seq (p3v 6)) (g3name (i := 9) sc__law_answers_meet.nd rfl (by first | exact .inl rfl | exact .inr rfl))
          (ss3one (s3if (PW3.t (w3and (t3not (t3val (p3callC C__law_is_free hr (by decide) tk rfl (a3cons (p3v 0) (a3cons (p3v 8) (a3cons (p3v 9) a3nil)))))) (w3and1 (PW3.t (w3or (t3cmp op3is (p3v 7) p3non) (w3or1 (t3cmp (op3lt (deep_of hr)) (p3tup (a3cons (p3v 8) (a3cons (p3v 9) a3nil))) (p3v 7))))))))
            (ss3one (s3set (i := 7) sc__law_answers_meet.nd rfl (by first | exact .inl rfl | exact .inr rfl) (p3tup (a3cons (p3v 8) (a3cons (p3v 9) a3nil)))))
            ss3nil)))))
      (ss3cons (s3set (i := 10) sc__law_answers_meet.nd rfl (by first | exact .inl rfl | exact .inr rfl) p3non)
      (ss3cons (s3if (t3cmp op3is (p3v 7) p3non)
        (ss3one (s3set (i := 10) sc__law_answers_meet.nd rfl (by first | exact .inl rfl | exact .inr rfl) (p3callC C__law_least hr (by decide) tk rfl (a3cons (p3v 0) (a3cons (p3op op3add (p3op op3add (PL3.val (l3t1 c3list rfl T.b_list bt_list (p3v 4))) (p3v 5)) (p3v 6)) a3nil)))))
        ss3nil)
      (ss3cons (s3set (i := 11) sc__law_answers_meet.nd rfl (by first | exact .inl rfl | exact .inr rfl) (p3callC C_clash_letters hr (by decide) tk rfl (a3cons (p3v 1) (a3cons (p3v 2) (a3cons (p3v 3) a3nil)))))
      (ss3cons (s3if (PW3.t (w3and (t3cmp op3is (p3v 7) p3non) (w3and1 (t3cmp op3isnt (p3v 11) p3non))))
        (ss3one (s3ret p3bl))
        ss3nil)
      (ss3cons (s3if (PW3.t (w3and (t3cmp op3isnt (p3v 7) p3non) (w3and1 (PW3.t (w3or (t3not (t3val (p3callC C__law_is_row hr (by decide) tk rfl (a3cons (p3v 11) a3nil)))) (w3or1 (t3cmp (op3ne (deep_of hr)) (p3v 11) (p3v 7))))))))
        (ss3one (s3ret p3bl))
        ss3nil)
      (ss3cons (s3if (t3not (t3val (p3callC C__law_same_row hr (by decide) tk rfl (a3cons (p3callC C_common_log hr (by decide) tk rfl (a3cons (p3v 1) (a3cons (p3v 2) (a3cons (p3v 3) a3nil)))) (a3cons (p3v 10) a3nil)))))
        (ss3one (s3ret p3bl))
        ss3nil)
      (ss3one (s3ret (p3and (p3callC C__law_same_row hr (by decide) tk rfl (a3cons (p3callC C_common_log hr (by decide) tk rfl (a3cons (p3v 1) (a3cons (p3v 3) (a3cons (p3v 2) a3nil)))) (a3cons (p3v 10) a3nil))) (p3one (p3cmp (op3eq (deep_of hr)) (p3callC C_shared_beginning hr (by decide) tk rfl (a3cons (p3v 1) (a3cons (p3v 3) (a3cons (p3v 2) a3nil)))) (p3v 4)))))))))))))))))), ?_⟩)
  intro ds q z hl h
  obtain ⟨T, ps, x, y, rfl, hT, hps, hr, hr', k⟩ := h
  have hlf := hT.lf
  have irr := hT.irr
  have hz := refuse0 hr
  have hsl := shared_len (frP ps) x y
  obtain ⟨f1, f2, f3, f4, f5⟩ := shared_facts (frP ps) x y
  simp only [start3, List.map_cons, List.map_nil, List.length_cons, List.length_nil, List.cons_append, List.nil_append, Nat.reduceAdd, Nat.reduceSub, Nat.zero_add, List.replicate, if_true, if_false, Bool.false_eq_true, reduceIte]
  try simp only [tSeq3, tNx3, tIf3, tRet3, tRetN3, tSet3, tOwn3, tAsg3, tExpr3, tFrz, frzS, tFor3_eq, tLc3_eq, tLc23_eq, tSeq3I_eq, seqK_lst, seqK_tup, seqK_frl, seqK_sq, oTup_lst, oTup_tup, oTup_sq, oList_lst, oList_tup, oList_sq, oLen_lst, oLen_tup, oLen_frl, oLen_sq, flat_sq, tRg1, tRg2, gN3, gT3, gCons3, gNil3, tV3, tC3, tB3, tT3, tIx3, tCh3, tAnd3, tOr3, tNot3, tNil3, tCons3, tTup3, tLst3, tOfL, tCall3, tU3, tUL, tSl3, tNo3, tSome3, tCat3, tRep3, oEq, oNe, oLt_int, oLt_tup, oLe_int, oLe_tup, oGt_int, oGt_tup, oGe_int, oGe_tup, eqD_int, eqD_str, eqD_bl, eqD_non, eqD_tup, eqD_lst, oAdd, oSub, oMul, oDiv, oMod, oPow, oIs, oIsnt, oIn, oNotIn, inD, lookD, oIx_lst, oIx_tup, oIx_frl, oIx_sq, oIx_dT, oIx_dK, getD, oSl, oInt, oSorted, isB, tPut3, tApp3, tDicT, tDicK, tBk3, tCt3, tMin2, tMax2, tNeg3, tIf3E, tAndV3, tOrV3, tNotV3, tIsi, tIndex3, tYes3, tRaise0, tRaise1, tIsE3, tXf3, wipe3, List.set_cons_zero, List.set_cons_succ, List.getElem?_cons_zero, List.getElem?_cons_succ, List.getElem?_nil, Fl.isSt, D.flat, Fl.nb, Fl.item, cond_true, cond_false, Bool.true_or, Bool.or_true, Bool.false_or, Bool.or_false, Bool.and_true, Bool.true_and, Bool.and_false, Bool.false_and, if_true, if_false, ite_true, ite_false, Bool.false_eq_true, Bool.not_true, Bool.not_false, isNon_non, isNon_lst, isNon_tup, isNon_int, isNon_bl, isNon_str, isNon_sq, ty_ii, ty_bi, ty_tt, ty_tl, ty_ti, ty_tn, ty_lt, ty_ll, ty_ib, ty_bb, ni_int, ni_tup, ni_lst, ni_bl, ni_non, List.length_cons, List.length_nil, reduceIte, List.map_cons, List.map_nil, true_and, and_true, Nat.zero_add, Nat.reduceAdd, List.length_map, Nat.zero_le, Int.toNat_natCast]
  refine ⟨false, ps, false, x, false, y, rfl, by omega, refK_of hr ?_⟩
  obtain ⟨S, hS⟩ : ∃ S, (shared (frP ps) x y).1 = S := ⟨_, rfl⟩
  obtain ⟨o1, hO1⟩ : ∃ S, (shared (frP ps) x y).2.1 = S := ⟨_, rfl⟩
  obtain ⟨o2, hO2⟩ : ∃ S, (shared (frP ps) x y).2.2 = S := ⟨_, rfl⟩
  simp only [hS, hO1, hO2] at hsl f1 f2 f3 f4 f5 ⊢
  try simp only [tSeq3, tNx3, tIf3, tRet3, tRetN3, tSet3, tOwn3, tAsg3, tExpr3, tFrz, frzS, tFor3_eq, tLc3_eq, tLc23_eq, tSeq3I_eq, seqK_lst, seqK_tup, seqK_frl, seqK_sq, oTup_lst, oTup_tup, oTup_sq, oList_lst, oList_tup, oList_sq, oLen_lst, oLen_tup, oLen_frl, oLen_sq, flat_sq, tRg1, tRg2, gN3, gT3, gCons3, gNil3, tV3, tC3, tB3, tT3, tIx3, tCh3, tAnd3, tOr3, tNot3, tNil3, tCons3, tTup3, tLst3, tOfL, tCall3, tU3, tUL, tSl3, tNo3, tSome3, tCat3, tRep3, oEq, oNe, oLt_int, oLt_tup, oLe_int, oLe_tup, oGt_int, oGt_tup, oGe_int, oGe_tup, eqD_int, eqD_str, eqD_bl, eqD_non, eqD_tup, eqD_lst, oAdd, oSub, oMul, oDiv, oMod, oPow, oIs, oIsnt, oIn, oNotIn, inD, lookD, oIx_lst, oIx_tup, oIx_frl, oIx_sq, oIx_dT, oIx_dK, getD, oSl, oInt, oSorted, isB, tPut3, tApp3, tDicT, tDicK, tBk3, tCt3, tMin2, tMax2, tNeg3, tIf3E, tAndV3, tOrV3, tNotV3, tIsi, tIndex3, tYes3, tRaise0, tRaise1, tIsE3, tXf3, wipe3, List.set_cons_zero, List.set_cons_succ, List.getElem?_cons_zero, List.getElem?_cons_succ, List.getElem?_nil, Fl.isSt, D.flat, Fl.nb, Fl.item, cond_true, cond_false, Bool.true_or, Bool.or_true, Bool.false_or, Bool.or_false, Bool.and_true, Bool.true_and, Bool.and_false, Bool.false_and, if_true, if_false, ite_true, ite_false, Bool.false_eq_true, Bool.not_true, Bool.not_false, isNon_non, isNon_lst, isNon_tup, isNon_int, isNon_bl, isNon_str, isNon_sq, ty_ii, ty_bi, ty_tt, ty_tl, ty_ti, ty_tn, ty_lt, ty_ll, ty_ib, ty_bb, ni_int, ni_tup, ni_lst, ni_bl, ni_non, List.length_cons, List.length_nil, reduceIte, List.map_cons, List.map_nil, true_and, and_true, Nat.zero_add, Nat.reduceAdd, List.length_map, Nat.zero_le, Int.toNat_natCast]
  refine ⟨S, rfl, ?_⟩
  try simp only [tSeq3, tNx3, tIf3, tRet3, tRetN3, tSet3, tOwn3, tAsg3, tExpr3, tFrz, frzS, tFor3_eq, tLc3_eq, tLc23_eq, tSeq3I_eq, seqK_lst, seqK_tup, seqK_frl, seqK_sq, oTup_lst, oTup_tup, oTup_sq, oList_lst, oList_tup, oList_sq, oLen_lst, oLen_tup, oLen_frl, oLen_sq, flat_sq, tRg1, tRg2, gN3, gT3, gCons3, gNil3, tV3, tC3, tB3, tT3, tIx3, tCh3, tAnd3, tOr3, tNot3, tNil3, tCons3, tTup3, tLst3, tOfL, tCall3, tU3, tUL, tSl3, tNo3, tSome3, tCat3, tRep3, oEq, oNe, oLt_int, oLt_tup, oLe_int, oLe_tup, oGt_int, oGt_tup, oGe_int, oGe_tup, eqD_int, eqD_str, eqD_bl, eqD_non, eqD_tup, eqD_lst, oAdd, oSub, oMul, oDiv, oMod, oPow, oIs, oIsnt, oIn, oNotIn, inD, lookD, oIx_lst, oIx_tup, oIx_frl, oIx_sq, oIx_dT, oIx_dK, getD, oSl, oInt, oSorted, isB, tPut3, tApp3, tDicT, tDicK, tBk3, tCt3, tMin2, tMax2, tNeg3, tIf3E, tAndV3, tOrV3, tNotV3, tIsi, tIndex3, tYes3, tRaise0, tRaise1, tIsE3, tXf3, wipe3, List.set_cons_zero, List.set_cons_succ, List.getElem?_cons_zero, List.getElem?_cons_succ, List.getElem?_nil, Fl.isSt, D.flat, Fl.nb, Fl.item, cond_true, cond_false, Bool.true_or, Bool.or_true, Bool.false_or, Bool.or_false, Bool.and_true, Bool.true_and, Bool.and_false, Bool.false_and, if_true, if_false, ite_true, ite_false, Bool.false_eq_true, Bool.not_true, Bool.not_false, isNon_non, isNon_lst, isNon_tup, isNon_int, isNon_bl, isNon_str, isNon_sq, ty_ii, ty_bi, ty_tt, ty_tl, ty_ti, ty_tn, ty_lt, ty_ll, ty_ib, ty_bb, ni_int, ni_tup, ni_lst, ni_bl, ni_non, List.length_cons, List.length_nil, reduceIte, List.map_cons, List.map_nil, true_and, and_true, Nat.zero_add, Nat.reduceAdd, List.length_map, Nat.zero_le, Int.toNat_natCast]
  refine ⟨T, x, y, S, o1, o2, rfl, by rw [hlf]; exact irr, by omega, by omega, by omega, by rw [hlf]; exact f1, by rw [hlf]; exact f2, by rw [hlf]; exact f4, by rw [hlf]; exact f3, ?_⟩
  try simp only [tSeq3, tNx3, tIf3, tRet3, tRetN3, tSet3, tOwn3, tAsg3, tExpr3, tFrz, frzS, tFor3_eq, tLc3_eq, tLc23_eq, tSeq3I_eq, seqK_lst, seqK_tup, seqK_frl, seqK_sq, oTup_lst, oTup_tup, oTup_sq, oList_lst, oList_tup, oList_sq, oLen_lst, oLen_tup, oLen_frl, oLen_sq, flat_sq, tRg1, tRg2, gN3, gT3, gCons3, gNil3, tV3, tC3, tB3, tT3, tIx3, tCh3, tAnd3, tOr3, tNot3, tNil3, tCons3, tTup3, tLst3, tOfL, tCall3, tU3, tUL, tSl3, tNo3, tSome3, tCat3, tRep3, oEq, oNe, oLt_int, oLt_tup, oLe_int, oLe_tup, oGt_int, oGt_tup, oGe_int, oGe_tup, eqD_int, eqD_str, eqD_bl, eqD_non, eqD_tup, eqD_lst, oAdd, oSub, oMul, oDiv, oMod, oPow, oIs, oIsnt, oIn, oNotIn, inD, lookD, oIx_lst, oIx_tup, oIx_frl, oIx_sq, oIx_dT, oIx_dK, getD, oSl, oInt, oSorted, isB, tPut3, tApp3, tDicT, tDicK, tBk3, tCt3, tMin2, tMax2, tNeg3, tIf3E, tAndV3, tOrV3, tNotV3, tIsi, tIndex3, tYes3, tRaise0, tRaise1, tIsE3, tXf3, wipe3, List.set_cons_zero, List.set_cons_succ, List.getElem?_cons_zero, List.getElem?_cons_succ, List.getElem?_nil, Fl.isSt, D.flat, Fl.nb, Fl.item, cond_true, cond_false, Bool.true_or, Bool.or_true, Bool.false_or, Bool.or_false, Bool.and_true, Bool.true_and, Bool.and_false, Bool.false_and, if_true, if_false, ite_true, ite_false, Bool.false_eq_true, Bool.not_true, Bool.not_false, isNon_non, isNon_lst, isNon_tup, isNon_int, isNon_bl, isNon_str, isNon_sq, ty_ii, ty_bi, ty_tt, ty_tl, ty_ti, ty_tn, ty_lt, ty_ll, ty_ib, ty_bb, ni_int, ni_tup, ni_lst, ni_bl, ni_non, List.length_cons, List.length_nil, reduceIte, List.map_cons, List.map_nil, true_and, and_true, Nat.zero_add, Nat.reduceAdd, List.length_map, Nat.zero_le, Int.toNat_natCast]
  refine ⟨T, true, S, x, rfl, by omega, ?_⟩
  rw [hlf, f1]
  simp only [optD]
  try simp only [tSeq3, tNx3, tIf3, tRet3, tRetN3, tSet3, tOwn3, tAsg3, tExpr3, tFrz, frzS, tFor3_eq, tLc3_eq, tLc23_eq, tSeq3I_eq, seqK_lst, seqK_tup, seqK_frl, seqK_sq, oTup_lst, oTup_tup, oTup_sq, oList_lst, oList_tup, oList_sq, oLen_lst, oLen_tup, oLen_frl, oLen_sq, flat_sq, tRg1, tRg2, gN3, gT3, gCons3, gNil3, tV3, tC3, tB3, tT3, tIx3, tCh3, tAnd3, tOr3, tNot3, tNil3, tCons3, tTup3, tLst3, tOfL, tCall3, tU3, tUL, tSl3, tNo3, tSome3, tCat3, tRep3, oEq, oNe, oLt_int, oLt_tup, oLe_int, oLe_tup, oGt_int, oGt_tup, oGe_int, oGe_tup, eqD_int, eqD_str, eqD_bl, eqD_non, eqD_tup, eqD_lst, oAdd, oSub, oMul, oDiv, oMod, oPow, oIs, oIsnt, oIn, oNotIn, inD, lookD, oIx_lst, oIx_tup, oIx_frl, oIx_sq, oIx_dT, oIx_dK, getD, oSl, oInt, oSorted, isB, tPut3, tApp3, tDicT, tDicK, tBk3, tCt3, tMin2, tMax2, tNeg3, tIf3E, tAndV3, tOrV3, tNotV3, tIsi, tIndex3, tYes3, tRaise0, tRaise1, tIsE3, tXf3, wipe3, List.set_cons_zero, List.set_cons_succ, List.getElem?_cons_zero, List.getElem?_cons_succ, List.getElem?_nil, Fl.isSt, D.flat, Fl.nb, Fl.item, cond_true, cond_false, Bool.true_or, Bool.or_true, Bool.false_or, Bool.or_false, Bool.and_true, Bool.true_and, Bool.and_false, Bool.false_and, if_true, if_false, ite_true, ite_false, Bool.false_eq_true, Bool.not_true, Bool.not_false, isNon_non, isNon_lst, isNon_tup, isNon_int, isNon_bl, isNon_str, isNon_sq, ty_ii, ty_bi, ty_tt, ty_tl, ty_ti, ty_tn, ty_lt, ty_ll, ty_ib, ty_bb, ni_int, ni_tup, ni_lst, ni_bl, ni_non, List.length_cons, List.length_nil, reduceIte, List.map_cons, List.map_nil, true_and, and_true, Nat.zero_add, Nat.reduceAdd, List.length_map, Nat.zero_le, Int.toNat_natCast]
  refine ⟨T, true, S, y, rfl, by omega, ?_⟩
  rw [hlf, f2]
  simp only [optD]
  try simp only [tSeq3, tNx3, tIf3, tRet3, tRetN3, tSet3, tOwn3, tAsg3, tExpr3, tFrz, frzS, tFor3_eq, tLc3_eq, tLc23_eq, tSeq3I_eq, seqK_lst, seqK_tup, seqK_frl, seqK_sq, oTup_lst, oTup_tup, oTup_sq, oList_lst, oList_tup, oList_sq, oLen_lst, oLen_tup, oLen_frl, oLen_sq, flat_sq, tRg1, tRg2, gN3, gT3, gCons3, gNil3, tV3, tC3, tB3, tT3, tIx3, tCh3, tAnd3, tOr3, tNot3, tNil3, tCons3, tTup3, tLst3, tOfL, tCall3, tU3, tUL, tSl3, tNo3, tSome3, tCat3, tRep3, oEq, oNe, oLt_int, oLt_tup, oLe_int, oLe_tup, oGt_int, oGt_tup, oGe_int, oGe_tup, eqD_int, eqD_str, eqD_bl, eqD_non, eqD_tup, eqD_lst, oAdd, oSub, oMul, oDiv, oMod, oPow, oIs, oIsnt, oIn, oNotIn, inD, lookD, oIx_lst, oIx_tup, oIx_frl, oIx_sq, oIx_dT, oIx_dK, getD, oSl, oInt, oSorted, isB, tPut3, tApp3, tDicT, tDicK, tBk3, tCt3, tMin2, tMax2, tNeg3, tIf3E, tAndV3, tOrV3, tNotV3, tIsi, tIndex3, tYes3, tRaise0, tRaise1, tIsE3, tXf3, wipe3, List.set_cons_zero, List.set_cons_succ, List.getElem?_cons_zero, List.getElem?_cons_succ, List.getElem?_nil, Fl.isSt, D.flat, Fl.nb, Fl.item, cond_true, cond_false, Bool.true_or, Bool.or_true, Bool.false_or, Bool.or_false, Bool.and_true, Bool.true_and, Bool.and_false, Bool.false_and, if_true, if_false, ite_true, ite_false, Bool.false_eq_true, Bool.not_true, Bool.not_false, isNon_non, isNon_lst, isNon_tup, isNon_int, isNon_bl, isNon_str, isNon_sq, ty_ii, ty_bi, ty_tt, ty_tl, ty_ti, ty_tn, ty_lt, ty_ll, ty_ib, ty_bb, ni_int, ni_tup, ni_lst, ni_bl, ni_non, List.length_cons, List.length_nil, reduceIte, List.map_cons, List.map_nil, true_and, and_true, Nat.zero_add, Nat.reduceAdd, List.length_map, Nat.zero_le, Int.toNat_natCast]
  refine forP_d (fun ys s => ∃ (l8 l9 l10 l11 : Sl), s = [.va (.dT T), .va (.lst (List.map prD ps)), .va (.lst (intsD x)), .va (.lst (intsD y)), .va (.tup (intsD S)), .va (.lst (intsD o1)), .va (.lst (intsD o2)), .va (optP (minP (boundP (frP ps) ys o2))), l8, l9, l10, l11]) ?_ ?_ ?_
  · exact ⟨_, _, _, _, rfl⟩
  · rintro ys c rest s' e ⟨l8, l9, l10, l11, rfl⟩
    try simp only [tSeq3, tNx3, tIf3, tRet3, tRetN3, tSet3, tOwn3, tAsg3, tExpr3, tFrz, frzS, tFor3_eq, tLc3_eq, tLc23_eq, tSeq3I_eq, seqK_lst, seqK_tup, seqK_frl, seqK_sq, oTup_lst, oTup_tup, oTup_sq, oList_lst, oList_tup, oList_sq, oLen_lst, oLen_tup, oLen_frl, oLen_sq, flat_sq, tRg1, tRg2, gN3, gT3, gCons3, gNil3, tV3, tC3, tB3, tT3, tIx3, tCh3, tAnd3, tOr3, tNot3, tNil3, tCons3, tTup3, tLst3, tOfL, tCall3, tU3, tUL, tSl3, tNo3, tSome3, tCat3, tRep3, oEq, oNe, oLt_int, oLt_tup, oLe_int, oLe_tup, oGt_int, oGt_tup, oGe_int, oGe_tup, eqD_int, eqD_str, eqD_bl, eqD_non, eqD_tup, eqD_lst, oAdd, oSub, oMul, oDiv, oMod, oPow, oIs, oIsnt, oIn, oNotIn, inD, lookD, oIx_lst, oIx_tup, oIx_frl, oIx_sq, oIx_dT, oIx_dK, getD, oSl, oInt, oSorted, isB, tPut3, tApp3, tDicT, tDicK, tBk3, tCt3, tMin2, tMax2, tNeg3, tIf3E, tAndV3, tOrV3, tNotV3, tIsi, tIndex3, tYes3, tRaise0, tRaise1, tIsE3, tXf3, wipe3, List.set_cons_zero, List.set_cons_succ, List.getElem?_cons_zero, List.getElem?_cons_succ, List.getElem?_nil, Fl.isSt, D.flat, Fl.nb, Fl.item, cond_true, cond_false, Bool.true_or, Bool.or_true, Bool.false_or, Bool.or_false, Bool.and_true, Bool.true_and, Bool.and_false, Bool.false_and, if_true, if_false, ite_true, ite_false, Bool.false_eq_true, Bool.not_true, Bool.not_false, isNon_non, isNon_lst, isNon_tup, isNon_int, isNon_bl, isNon_str, isNon_sq, ty_ii, ty_bi, ty_tt, ty_tl, ty_ti, ty_tn, ty_lt, ty_ll, ty_ib, ty_bb, ni_int, ni_tup, ni_lst, ni_bl, ni_non, List.length_cons, List.length_nil, reduceIte, List.map_cons, List.map_nil, true_and, and_true, Nat.zero_add, Nat.reduceAdd, List.length_map, Nat.zero_le, Int.toNat_natCast]
    refine forP_d (fun zs s => ∃ (l9 : Sl), s = [.va (.dT T), .va (.lst (List.map prD ps)), .va (.lst (intsD x)), .va (.lst (intsD y)), .va (.tup (intsD S)), .va (.lst (intsD o1)), .va (.lst (intsD o2)), .va (optP (minP (boundP (frP ps) ys o2 ++ (zs.filter fun d => !frP ps c d).map fun d => (c, d)))), .va (.int c), l9, l10, l11]) ?_ ?_ ?_
    · exact ⟨l9, by simp⟩
    · rintro zs d rest' s' e' ⟨l9, rfl⟩
      try simp only [tSeq3, tNx3, tIf3, tRet3, tRetN3, tSet3, tOwn3, tAsg3, tExpr3, tFrz, frzS, tFor3_eq, tLc3_eq, tLc23_eq, tSeq3I_eq, seqK_lst, seqK_tup, seqK_frl, seqK_sq, oTup_lst, oTup_tup, oTup_sq, oList_lst, oList_tup, oList_sq, oLen_lst, oLen_tup, oLen_frl, oLen_sq, flat_sq, tRg1, tRg2, gN3, gT3, gCons3, gNil3, tV3, tC3, tB3, tT3, tIx3, tCh3, tAnd3, tOr3, tNot3, tNil3, tCons3, tTup3, tLst3, tOfL, tCall3, tU3, tUL, tSl3, tNo3, tSome3, tCat3, tRep3, oEq, oNe, oLt_int, oLt_tup, oLe_int, oLe_tup, oGt_int, oGt_tup, oGe_int, oGe_tup, eqD_int, eqD_str, eqD_bl, eqD_non, eqD_tup, eqD_lst, oAdd, oSub, oMul, oDiv, oMod, oPow, oIs, oIsnt, oIn, oNotIn, inD, lookD, oIx_lst, oIx_tup, oIx_frl, oIx_sq, oIx_dT, oIx_dK, getD, oSl, oInt, oSorted, isB, tPut3, tApp3, tDicT, tDicK, tBk3, tCt3, tMin2, tMax2, tNeg3, tIf3E, tAndV3, tOrV3, tNotV3, tIsi, tIndex3, tYes3, tRaise0, tRaise1, tIsE3, tXf3, wipe3, List.set_cons_zero, List.set_cons_succ, List.getElem?_cons_zero, List.getElem?_cons_succ, List.getElem?_nil, Fl.isSt, D.flat, Fl.nb, Fl.item, cond_true, cond_false, Bool.true_or, Bool.or_true, Bool.false_or, Bool.or_false, Bool.and_true, Bool.true_and, Bool.and_false, Bool.false_and, if_true, if_false, ite_true, ite_false, Bool.false_eq_true, Bool.not_true, Bool.not_false, isNon_non, isNon_lst, isNon_tup, isNon_int, isNon_bl, isNon_str, isNon_sq, ty_ii, ty_bi, ty_tt, ty_tl, ty_ti, ty_tn, ty_lt, ty_ll, ty_ib, ty_bb, ni_int, ni_tup, ni_lst, ni_bl, ni_non, List.length_cons, List.length_nil, reduceIte, List.map_cons, List.map_nil, true_and, and_true, Nat.zero_add, Nat.reduceAdd, List.length_map, Nat.zero_le, Int.toNat_natCast]
      refine ⟨T, c, d, rfl, ?_⟩
      rw [hlf]
      try simp only [tSeq3, tNx3, tIf3, tRet3, tRetN3, tSet3, tOwn3, tAsg3, tExpr3, tFrz, frzS, tFor3_eq, tLc3_eq, tLc23_eq, tSeq3I_eq, seqK_lst, seqK_tup, seqK_frl, seqK_sq, oTup_lst, oTup_tup, oTup_sq, oList_lst, oList_tup, oList_sq, oLen_lst, oLen_tup, oLen_frl, oLen_sq, flat_sq, tRg1, tRg2, gN3, gT3, gCons3, gNil3, tV3, tC3, tB3, tT3, tIx3, tCh3, tAnd3, tOr3, tNot3, tNil3, tCons3, tTup3, tLst3, tOfL, tCall3, tU3, tUL, tSl3, tNo3, tSome3, tCat3, tRep3, oEq, oNe, oLt_int, oLt_tup, oLe_int, oLe_tup, oGt_int, oGt_tup, oGe_int, oGe_tup, eqD_int, eqD_str, eqD_bl, eqD_non, eqD_tup, eqD_lst, oAdd, oSub, oMul, oDiv, oMod, oPow, oIs, oIsnt, oIn, oNotIn, inD, lookD, oIx_lst, oIx_tup, oIx_frl, oIx_sq, oIx_dT, oIx_dK, getD, oSl, oInt, oSorted, isB, tPut3, tApp3, tDicT, tDicK, tBk3, tCt3, tMin2, tMax2, tNeg3, tIf3E, tAndV3, tOrV3, tNotV3, tIsi, tIndex3, tYes3, tRaise0, tRaise1, tIsE3, tXf3, wipe3, List.set_cons_zero, List.set_cons_succ, List.getElem?_cons_zero, List.getElem?_cons_succ, List.getElem?_nil, Fl.isSt, D.flat, Fl.nb, Fl.item, cond_true, cond_false, Bool.true_or, Bool.or_true, Bool.false_or, Bool.or_false, Bool.and_true, Bool.true_and, Bool.and_false, Bool.false_and, if_true, if_false, ite_true, ite_false, Bool.false_eq_true, Bool.not_true, Bool.not_false, isNon_non, isNon_lst, isNon_tup, isNon_int, isNon_bl, isNon_str, isNon_sq, ty_ii, ty_bi, ty_tt, ty_tl, ty_ti, ty_tn, ty_lt, ty_ll, ty_ib, ty_bb, ni_int, ni_tup, ni_lst, ni_bl, ni_non, List.length_cons, List.length_nil, reduceIte, List.map_cons, List.map_nil, true_and, and_true, Nat.zero_add, Nat.reduceAdd, List.length_map, Nat.zero_le, Int.toNat_natCast]
      rw [List.filter_append, List.map_append]
      cases hb : frP ps c d with
      | true =>
        simp only [Bool.not_true, Bool.false_eq_true, if_false]
        exact ⟨.va (.int d), by simp [hb]⟩
      | false =>
        simp only [Bool.not_false, if_true]
        have e1 : ([d].filter fun d => !frP ps c d).map (fun d => (c, d)) = [(c, d)] := by simp [hb]
        rw [e1, ← List.append_assoc, minP_snoc, isNon_optP]
        cases hm : minP (boundP (frP ps) ys o2 ++ (zs.filter fun d => !frP ps c d).map fun d => (c, d)) with
        | none =>
          simp only [Option.isSome_none, Bool.not_false, if_true]
          exact ⟨le_line (by decide), _, rfl⟩
        | some m =>
          simp only [Option.isSome_some, Bool.not_true, Bool.false_eq_true, if_false, optP, prD]
          try simp only [tSeq3, tNx3, tIf3, tRet3, tRetN3, tSet3, tOwn3, tAsg3, tExpr3, tFrz, frzS, tFor3_eq, tLc3_eq, tLc23_eq, tSeq3I_eq, seqK_lst, seqK_tup, seqK_frl, seqK_sq, oTup_lst, oTup_tup, oTup_sq, oList_lst, oList_tup, oList_sq, oLen_lst, oLen_tup, oLen_frl, oLen_sq, flat_sq, tRg1, tRg2, gN3, gT3, gCons3, gNil3, tV3, tC3, tB3, tT3, tIx3, tCh3, tAnd3, tOr3, tNot3, tNil3, tCons3, tTup3, tLst3, tOfL, tCall3, tU3, tUL, tSl3, tNo3, tSome3, tCat3, tRep3, oEq, oNe, oLt_int, oLt_tup, oLe_int, oLe_tup, oGt_int, oGt_tup, oGe_int, oGe_tup, eqD_int, eqD_str, eqD_bl, eqD_non, eqD_tup, eqD_lst, oAdd, oSub, oMul, oDiv, oMod, oPow, oIs, oIsnt, oIn, oNotIn, inD, lookD, oIx_lst, oIx_tup, oIx_frl, oIx_sq, oIx_dT, oIx_dK, getD, oSl, oInt, oSorted, isB, tPut3, tApp3, tDicT, tDicK, tBk3, tCt3, tMin2, tMax2, tNeg3, tIf3E, tAndV3, tOrV3, tNotV3, tIsi, tIndex3, tYes3, tRaise0, tRaise1, tIsE3, tXf3, wipe3, List.set_cons_zero, List.set_cons_succ, List.getElem?_cons_zero, List.getElem?_cons_succ, List.getElem?_nil, Fl.isSt, D.flat, Fl.nb, Fl.item, cond_true, cond_false, Bool.true_or, Bool.or_true, Bool.false_or, Bool.or_false, Bool.and_true, Bool.true_and, Bool.and_false, Bool.false_and, if_true, if_false, ite_true, ite_false, Bool.false_eq_true, Bool.not_true, Bool.not_false, isNon_non, isNon_lst, isNon_tup, isNon_int, isNon_bl, isNon_str, isNon_sq, ty_ii, ty_bi, ty_tt, ty_tl, ty_ti, ty_tn, ty_lt, ty_ll, ty_ib, ty_bb, ni_int, ni_tup, ni_lst, ni_bl, ni_non, List.length_cons, List.length_nil, reduceIte, List.map_cons, List.map_nil, true_and, and_true, Nat.zero_add, Nat.reduceAdd, List.length_map, Nat.zero_le, Int.toNat_natCast]
          refine ⟨le_line (by decide), ?_⟩
          refine ltG_of (α := Int × Int) (x := (c, d)) (y := m) ?_
          cases hlt : DatumOrd.lt (c, d) m with
          | true =>
            simp only [if_true]
            exact ⟨le_line (by decide), _, rfl⟩
          | false =>
            simp only [Bool.false_eq_true, if_false]
            exact ⟨_, rfl⟩
    · rintro s' ⟨l9, rfl⟩
      exact ⟨.va (.int c), l9, l10, l11, by rw [boundP_app, boundP_one]⟩
  · rintro s' ⟨l8, l9, l10, l11, rfl⟩
    have hS' : (shared (frP ps) y x) = (S, o2, o1) := f5
    have sym : ∀ a b, frP ps a b = true → frP ps b a = true := fun a b h => by rw [frP_comm]; exact h
    have back : boundP (frP ps) o2 o1 = [] → boundP (frP ps) o1 o2 = [] := fun h => boundP_nil.mpr fun a ha b hb => sym _ _ (boundP_nil.mp h b hb a ha)
    try simp only [tSeq3, tNx3, tIf3, tRet3, tRetN3, tSet3, tOwn3, tAsg3, tExpr3, tFrz, frzS, tFor3_eq, tLc3_eq, tLc23_eq, tSeq3I_eq, seqK_lst, seqK_tup, seqK_frl, seqK_sq, oTup_lst, oTup_tup, oTup_sq, oList_lst, oList_tup, oList_sq, oLen_lst, oLen_tup, oLen_frl, oLen_sq, flat_sq, tRg1, tRg2, gN3, gT3, gCons3, gNil3, tV3, tC3, tB3, tT3, tIx3, tCh3, tAnd3, tOr3, tNot3, tNil3, tCons3, tTup3, tLst3, tOfL, tCall3, tU3, tUL, tSl3, tNo3, tSome3, tCat3, tRep3, oEq, oNe, oLt_int, oLt_tup, oLe_int, oLe_tup, oGt_int, oGt_tup, oGe_int, oGe_tup, eqD_int, eqD_str, eqD_bl, eqD_non, eqD_tup, eqD_lst, oAdd, oSub, oMul, oDiv, oMod, oPow, oIs, oIsnt, oIn, oNotIn, inD, lookD, oIx_lst, oIx_tup, oIx_frl, oIx_sq, oIx_dT, oIx_dK, getD, oSl, oInt, oSorted, isB, tPut3, tApp3, tDicT, tDicK, tBk3, tCt3, tMin2, tMax2, tNeg3, tIf3E, tAndV3, tOrV3, tNotV3, tIsi, tIndex3, tYes3, tRaise0, tRaise1, tIsE3, tXf3, wipe3, List.set_cons_zero, List.set_cons_succ, List.getElem?_cons_zero, List.getElem?_cons_succ, List.getElem?_nil, Fl.isSt, D.flat, Fl.nb, Fl.item, cond_true, cond_false, Bool.true_or, Bool.or_true, Bool.false_or, Bool.or_false, Bool.and_true, Bool.true_and, Bool.and_false, Bool.false_and, if_true, if_false, ite_true, ite_false, Bool.false_eq_true, Bool.not_true, Bool.not_false, isNon_non, isNon_lst, isNon_tup, isNon_int, isNon_bl, isNon_str, isNon_sq, ty_ii, ty_bi, ty_tt, ty_tl, ty_ti, ty_tn, ty_lt, ty_ll, ty_ib, ty_bb, ni_int, ni_tup, ni_lst, ni_bl, ni_non, List.length_cons, List.length_nil, reduceIte, List.map_cons, List.map_nil, true_and, and_true, Nat.zero_add, Nat.reduceAdd, List.length_map, Nat.zero_le, Int.toNat_natCast]
    have two : boundP (frP ps) o1 o2 = [] ∨ ∃ p r, boundP (frP ps) o1 o2 = p :: r := by
      cases boundP (frP ps) o1 o2 with
      | nil => exact .inl rfl
      | cons p r => exact .inr ⟨p, r, rfl⟩
    rcases two with e | ⟨p, r, e⟩
    · rw [e]
      have free := boundP_nil.mp e
      have e2 : boundP (frP ps) o2 o1 = [] := boundP_nil.mpr fun a ha b hb => sym _ _ (free b hb a ha)
      have hsw : least (frP ps) (S ++ o1 ++ o2) = least (frP ps) (S ++ o2 ++ o1) := least_swap irr _ S o1 o2 rfl fun a ha b hb => ⟨free a ha b hb, sym _ _ (free a ha b hb)⟩
      simp only [minP, optP]
      try simp only [tSeq3, tNx3, tIf3, tRet3, tRetN3, tSet3, tOwn3, tAsg3, tExpr3, tFrz, frzS, tFor3_eq, tLc3_eq, tLc23_eq, tSeq3I_eq, seqK_lst, seqK_tup, seqK_frl, seqK_sq, oTup_lst, oTup_tup, oTup_sq, oList_lst, oList_tup, oList_sq, oLen_lst, oLen_tup, oLen_frl, oLen_sq, flat_sq, tRg1, tRg2, gN3, gT3, gCons3, gNil3, tV3, tC3, tB3, tT3, tIx3, tCh3, tAnd3, tOr3, tNot3, tNil3, tCons3, tTup3, tLst3, tOfL, tCall3, tU3, tUL, tSl3, tNo3, tSome3, tCat3, tRep3, oEq, oNe, oLt_int, oLt_tup, oLe_int, oLe_tup, oGt_int, oGt_tup, oGe_int, oGe_tup, eqD_int, eqD_str, eqD_bl, eqD_non, eqD_tup, eqD_lst, oAdd, oSub, oMul, oDiv, oMod, oPow, oIs, oIsnt, oIn, oNotIn, inD, lookD, oIx_lst, oIx_tup, oIx_frl, oIx_sq, oIx_dT, oIx_dK, getD, oSl, oInt, oSorted, isB, tPut3, tApp3, tDicT, tDicK, tBk3, tCt3, tMin2, tMax2, tNeg3, tIf3E, tAndV3, tOrV3, tNotV3, tIsi, tIndex3, tYes3, tRaise0, tRaise1, tIsE3, tXf3, wipe3, List.set_cons_zero, List.set_cons_succ, List.getElem?_cons_zero, List.getElem?_cons_succ, List.getElem?_nil, Fl.isSt, D.flat, Fl.nb, Fl.item, cond_true, cond_false, Bool.true_or, Bool.or_true, Bool.false_or, Bool.or_false, Bool.and_true, Bool.true_and, Bool.and_false, Bool.false_and, if_true, if_false, ite_true, ite_false, Bool.false_eq_true, Bool.not_true, Bool.not_false, isNon_non, isNon_lst, isNon_tup, isNon_int, isNon_bl, isNon_str, isNon_sq, ty_ii, ty_bi, ty_tt, ty_tl, ty_ti, ty_tn, ty_lt, ty_ll, ty_ib, ty_bb, ni_int, ni_tup, ni_lst, ni_bl, ni_non, List.length_cons, List.length_nil, reduceIte, List.map_cons, List.map_nil, true_and, and_true, Nat.zero_add, Nat.reduceAdd, List.length_map, Nat.zero_le, Int.toNat_natCast]
      refine ⟨le_line (by omega), le_line (by rw [List.length_append, List.length_map, List.length_map]; omega), T, false, S ++ o1 ++ o2, by simp [sq], by rw [hlf]; exact irr, by rw [List.length_append, List.length_append]; omega, ?_⟩
      rw [hlf]
      try simp only [tSeq3, tNx3, tIf3, tRet3, tRetN3, tSet3, tOwn3, tAsg3, tExpr3, tFrz, frzS, tFor3_eq, tLc3_eq, tLc23_eq, tSeq3I_eq, seqK_lst, seqK_tup, seqK_frl, seqK_sq, oTup_lst, oTup_tup, oTup_sq, oList_lst, oList_tup, oList_sq, oLen_lst, oLen_tup, oLen_frl, oLen_sq, flat_sq, tRg1, tRg2, gN3, gT3, gCons3, gNil3, tV3, tC3, tB3, tT3, tIx3, tCh3, tAnd3, tOr3, tNot3, tNil3, tCons3, tTup3, tLst3, tOfL, tCall3, tU3, tUL, tSl3, tNo3, tSome3, tCat3, tRep3, oEq, oNe, oLt_int, oLt_tup, oLe_int, oLe_tup, oGt_int, oGt_tup, oGe_int, oGe_tup, eqD_int, eqD_str, eqD_bl, eqD_non, eqD_tup, eqD_lst, oAdd, oSub, oMul, oDiv, oMod, oPow, oIs, oIsnt, oIn, oNotIn, inD, lookD, oIx_lst, oIx_tup, oIx_frl, oIx_sq, oIx_dT, oIx_dK, getD, oSl, oInt, oSorted, isB, tPut3, tApp3, tDicT, tDicK, tBk3, tCt3, tMin2, tMax2, tNeg3, tIf3E, tAndV3, tOrV3, tNotV3, tIsi, tIndex3, tYes3, tRaise0, tRaise1, tIsE3, tXf3, wipe3, List.set_cons_zero, List.set_cons_succ, List.getElem?_cons_zero, List.getElem?_cons_succ, List.getElem?_nil, Fl.isSt, D.flat, Fl.nb, Fl.item, cond_true, cond_false, Bool.true_or, Bool.or_true, Bool.false_or, Bool.or_false, Bool.and_true, Bool.true_and, Bool.and_false, Bool.false_and, if_true, if_false, ite_true, ite_false, Bool.false_eq_true, Bool.not_true, Bool.not_false, isNon_non, isNon_lst, isNon_tup, isNon_int, isNon_bl, isNon_str, isNon_sq, ty_ii, ty_bi, ty_tt, ty_tl, ty_ti, ty_tn, ty_lt, ty_ll, ty_ib, ty_bb, ni_int, ni_tup, ni_lst, ni_bl, ni_non, List.length_cons, List.length_nil, reduceIte, List.map_cons, List.map_nil, true_and, and_true, Nat.zero_add, Nat.reduceAdd, List.length_map, Nat.zero_le, Int.toNat_natCast]
      refine ⟨false, ps, false, x, false, y, rfl, by omega, refK_of hr ?_⟩
      rw [hO1, hO2, e]
      try simp only [tSeq3, tNx3, tIf3, tRet3, tRetN3, tSet3, tOwn3, tAsg3, tExpr3, tFrz, frzS, tFor3_eq, tLc3_eq, tLc23_eq, tSeq3I_eq, seqK_lst, seqK_tup, seqK_frl, seqK_sq, oTup_lst, oTup_tup, oTup_sq, oList_lst, oList_tup, oList_sq, oLen_lst, oLen_tup, oLen_frl, oLen_sq, flat_sq, tRg1, tRg2, gN3, gT3, gCons3, gNil3, tV3, tC3, tB3, tT3, tIx3, tCh3, tAnd3, tOr3, tNot3, tNil3, tCons3, tTup3, tLst3, tOfL, tCall3, tU3, tUL, tSl3, tNo3, tSome3, tCat3, tRep3, oEq, oNe, oLt_int, oLt_tup, oLe_int, oLe_tup, oGt_int, oGt_tup, oGe_int, oGe_tup, eqD_int, eqD_str, eqD_bl, eqD_non, eqD_tup, eqD_lst, oAdd, oSub, oMul, oDiv, oMod, oPow, oIs, oIsnt, oIn, oNotIn, inD, lookD, oIx_lst, oIx_tup, oIx_frl, oIx_sq, oIx_dT, oIx_dK, getD, oSl, oInt, oSorted, isB, tPut3, tApp3, tDicT, tDicK, tBk3, tCt3, tMin2, tMax2, tNeg3, tIf3E, tAndV3, tOrV3, tNotV3, tIsi, tIndex3, tYes3, tRaise0, tRaise1, tIsE3, tXf3, wipe3, List.set_cons_zero, List.set_cons_succ, List.getElem?_cons_zero, List.getElem?_cons_succ, List.getElem?_nil, Fl.isSt, D.flat, Fl.nb, Fl.item, cond_true, cond_false, Bool.true_or, Bool.or_true, Bool.false_or, Bool.or_false, Bool.and_true, Bool.true_and, Bool.and_false, Bool.false_and, if_true, if_false, ite_true, ite_false, Bool.false_eq_true, Bool.not_true, Bool.not_false, isNon_non, isNon_lst, isNon_tup, isNon_int, isNon_bl, isNon_str, isNon_sq, ty_ii, ty_bi, ty_tt, ty_tl, ty_ti, ty_tn, ty_lt, ty_ll, ty_ib, ty_bb, ni_int, ni_tup, ni_lst, ni_bl, ni_non, List.length_cons, List.length_nil, reduceIte, List.map_cons, List.map_nil, true_and, and_true, Nat.zero_add, Nat.reduceAdd, List.length_map, Nat.zero_le, Int.toNat_natCast]
      refine ⟨false, ps, false, x, false, y, rfl, by omega, refK_of hr ?_⟩
      rw [hS, hO1, hO2, e]
      try simp only [tSeq3, tNx3, tIf3, tRet3, tRetN3, tSet3, tOwn3, tAsg3, tExpr3, tFrz, frzS, tFor3_eq, tLc3_eq, tLc23_eq, tSeq3I_eq, seqK_lst, seqK_tup, seqK_frl, seqK_sq, oTup_lst, oTup_tup, oTup_sq, oList_lst, oList_tup, oList_sq, oLen_lst, oLen_tup, oLen_frl, oLen_sq, flat_sq, tRg1, tRg2, gN3, gT3, gCons3, gNil3, tV3, tC3, tB3, tT3, tIx3, tCh3, tAnd3, tOr3, tNot3, tNil3, tCons3, tTup3, tLst3, tOfL, tCall3, tU3, tUL, tSl3, tNo3, tSome3, tCat3, tRep3, oEq, oNe, oLt_int, oLt_tup, oLe_int, oLe_tup, oGt_int, oGt_tup, oGe_int, oGe_tup, eqD_int, eqD_str, eqD_bl, eqD_non, eqD_tup, eqD_lst, oAdd, oSub, oMul, oDiv, oMod, oPow, oIs, oIsnt, oIn, oNotIn, inD, lookD, oIx_lst, oIx_tup, oIx_frl, oIx_sq, oIx_dT, oIx_dK, getD, oSl, oInt, oSorted, isB, tPut3, tApp3, tDicT, tDicK, tBk3, tCt3, tMin2, tMax2, tNeg3, tIf3E, tAndV3, tOrV3, tNotV3, tIsi, tIndex3, tYes3, tRaise0, tRaise1, tIsE3, tXf3, wipe3, List.set_cons_zero, List.set_cons_succ, List.getElem?_cons_zero, List.getElem?_cons_succ, List.getElem?_nil, Fl.isSt, D.flat, Fl.nb, Fl.item, cond_true, cond_false, Bool.true_or, Bool.or_true, Bool.false_or, Bool.or_false, Bool.and_true, Bool.true_and, Bool.and_false, Bool.false_and, if_true, if_false, ite_true, ite_false, Bool.false_eq_true, Bool.not_true, Bool.not_false, isNon_non, isNon_lst, isNon_tup, isNon_int, isNon_bl, isNon_str, isNon_sq, ty_ii, ty_bi, ty_tt, ty_tl, ty_ti, ty_tn, ty_lt, ty_ll, ty_ib, ty_bb, ni_int, ni_tup, ni_lst, ni_bl, ni_non, List.length_cons, List.length_nil, reduceIte, List.map_cons, List.map_nil, true_and, and_true, Nat.zero_add, Nat.reduceAdd, List.length_map, Nat.zero_le, Int.toNat_natCast]
      refine ⟨.inr ⟨_, rfl⟩, ?_⟩
      try simp only [tSeq3, tNx3, tIf3, tRet3, tRetN3, tSet3, tOwn3, tAsg3, tExpr3, tFrz, frzS, tFor3_eq, tLc3_eq, tLc23_eq, tSeq3I_eq, seqK_lst, seqK_tup, seqK_frl, seqK_sq, oTup_lst, oTup_tup, oTup_sq, oList_lst, oList_tup, oList_sq, oLen_lst, oLen_tup, oLen_frl, oLen_sq, flat_sq, tRg1, tRg2, gN3, gT3, gCons3, gNil3, tV3, tC3, tB3, tT3, tIx3, tCh3, tAnd3, tOr3, tNot3, tNil3, tCons3, tTup3, tLst3, tOfL, tCall3, tU3, tUL, tSl3, tNo3, tSome3, tCat3, tRep3, oEq, oNe, oLt_int, oLt_tup, oLe_int, oLe_tup, oGt_int, oGt_tup, oGe_int, oGe_tup, eqD_int, eqD_str, eqD_bl, eqD_non, eqD_tup, eqD_lst, oAdd, oSub, oMul, oDiv, oMod, oPow, oIs, oIsnt, oIn, oNotIn, inD, lookD, oIx_lst, oIx_tup, oIx_frl, oIx_sq, oIx_dT, oIx_dK, getD, oSl, oInt, oSorted, isB, tPut3, tApp3, tDicT, tDicK, tBk3, tCt3, tMin2, tMax2, tNeg3, tIf3E, tAndV3, tOrV3, tNotV3, tIsi, tIndex3, tYes3, tRaise0, tRaise1, tIsE3, tXf3, wipe3, List.set_cons_zero, List.set_cons_succ, List.getElem?_cons_zero, List.getElem?_cons_succ, List.getElem?_nil, Fl.isSt, D.flat, Fl.nb, Fl.item, cond_true, cond_false, Bool.true_or, Bool.or_true, Bool.false_or, Bool.or_false, Bool.and_true, Bool.true_and, Bool.and_false, Bool.false_and, if_true, if_false, ite_true, ite_false, Bool.false_eq_true, Bool.not_true, Bool.not_false, isNon_non, isNon_lst, isNon_tup, isNon_int, isNon_bl, isNon_str, isNon_sq, ty_ii, ty_bi, ty_tt, ty_tl, ty_ti, ty_tn, ty_lt, ty_ll, ty_ib, ty_bb, ni_int, ni_tup, ni_lst, ni_bl, ni_non, List.length_cons, List.length_nil, reduceIte, List.map_cons, List.map_nil, true_and, and_true, Nat.zero_add, Nat.reduceAdd, List.length_map, Nat.zero_le, Int.toNat_natCast]
      refine ⟨false, ps, false, y, false, x, rfl, by omega, refK_of hr' ?_⟩
      rw [hS']
      try simp only [tSeq3, tNx3, tIf3, tRet3, tRetN3, tSet3, tOwn3, tAsg3, tExpr3, tFrz, frzS, tFor3_eq, tLc3_eq, tLc23_eq, tSeq3I_eq, seqK_lst, seqK_tup, seqK_frl, seqK_sq, oTup_lst, oTup_tup, oTup_sq, oList_lst, oList_tup, oList_sq, oLen_lst, oLen_tup, oLen_frl, oLen_sq, flat_sq, tRg1, tRg2, gN3, gT3, gCons3, gNil3, tV3, tC3, tB3, tT3, tIx3, tCh3, tAnd3, tOr3, tNot3, tNil3, tCons3, tTup3, tLst3, tOfL, tCall3, tU3, tUL, tSl3, tNo3, tSome3, tCat3, tRep3, oEq, oNe, oLt_int, oLt_tup, oLe_int, oLe_tup, oGt_int, oGt_tup, oGe_int, oGe_tup, eqD_int, eqD_str, eqD_bl, eqD_non, eqD_tup, eqD_lst, oAdd, oSub, oMul, oDiv, oMod, oPow, oIs, oIsnt, oIn, oNotIn, inD, lookD, oIx_lst, oIx_tup, oIx_frl, oIx_sq, oIx_dT, oIx_dK, getD, oSl, oInt, oSorted, isB, tPut3, tApp3, tDicT, tDicK, tBk3, tCt3, tMin2, tMax2, tNeg3, tIf3E, tAndV3, tOrV3, tNotV3, tIsi, tIndex3, tYes3, tRaise0, tRaise1, tIsE3, tXf3, wipe3, List.set_cons_zero, List.set_cons_succ, List.getElem?_cons_zero, List.getElem?_cons_succ, List.getElem?_nil, Fl.isSt, D.flat, Fl.nb, Fl.item, cond_true, cond_false, Bool.true_or, Bool.or_true, Bool.false_or, Bool.or_false, Bool.and_true, Bool.true_and, Bool.and_false, Bool.false_and, if_true, if_false, ite_true, ite_false, Bool.false_eq_true, Bool.not_true, Bool.not_false, isNon_non, isNon_lst, isNon_tup, isNon_int, isNon_bl, isNon_str, isNon_sq, ty_ii, ty_bi, ty_tt, ty_tl, ty_ti, ty_tn, ty_lt, ty_ll, ty_ib, ty_bb, ni_int, ni_tup, ni_lst, ni_bl, ni_non, List.length_cons, List.length_nil, reduceIte, List.map_cons, List.map_nil, true_and, and_true, Nat.zero_add, Nat.reduceAdd, List.length_map, Nat.zero_le, Int.toNat_natCast]
      rw [e2]
      try simp only [tSeq3, tNx3, tIf3, tRet3, tRetN3, tSet3, tOwn3, tAsg3, tExpr3, tFrz, frzS, tFor3_eq, tLc3_eq, tLc23_eq, tSeq3I_eq, seqK_lst, seqK_tup, seqK_frl, seqK_sq, oTup_lst, oTup_tup, oTup_sq, oList_lst, oList_tup, oList_sq, oLen_lst, oLen_tup, oLen_frl, oLen_sq, flat_sq, tRg1, tRg2, gN3, gT3, gCons3, gNil3, tV3, tC3, tB3, tT3, tIx3, tCh3, tAnd3, tOr3, tNot3, tNil3, tCons3, tTup3, tLst3, tOfL, tCall3, tU3, tUL, tSl3, tNo3, tSome3, tCat3, tRep3, oEq, oNe, oLt_int, oLt_tup, oLe_int, oLe_tup, oGt_int, oGt_tup, oGe_int, oGe_tup, eqD_int, eqD_str, eqD_bl, eqD_non, eqD_tup, eqD_lst, oAdd, oSub, oMul, oDiv, oMod, oPow, oIs, oIsnt, oIn, oNotIn, inD, lookD, oIx_lst, oIx_tup, oIx_frl, oIx_sq, oIx_dT, oIx_dK, getD, oSl, oInt, oSorted, isB, tPut3, tApp3, tDicT, tDicK, tBk3, tCt3, tMin2, tMax2, tNeg3, tIf3E, tAndV3, tOrV3, tNotV3, tIsi, tIndex3, tYes3, tRaise0, tRaise1, tIsE3, tXf3, wipe3, List.set_cons_zero, List.set_cons_succ, List.getElem?_cons_zero, List.getElem?_cons_succ, List.getElem?_nil, Fl.isSt, D.flat, Fl.nb, Fl.item, cond_true, cond_false, Bool.true_or, Bool.or_true, Bool.false_or, Bool.or_false, Bool.and_true, Bool.true_and, Bool.and_false, Bool.false_and, if_true, if_false, ite_true, ite_false, Bool.false_eq_true, Bool.not_true, Bool.not_false, isNon_non, isNon_lst, isNon_tup, isNon_int, isNon_bl, isNon_str, isNon_sq, ty_ii, ty_bi, ty_tt, ty_tl, ty_ti, ty_tn, ty_lt, ty_ll, ty_ib, ty_bb, ni_int, ni_tup, ni_lst, ni_bl, ni_non, List.length_cons, List.length_nil, reduceIte, List.map_cons, List.map_nil, true_and, and_true, Nat.zero_add, Nat.reduceAdd, List.length_map, Nat.zero_le, Int.toNat_natCast]
      refine ⟨.inr ⟨least (frP ps) (S ++ o2 ++ o1), by rw [hsw]⟩, ?_⟩
      try simp only [tSeq3, tNx3, tIf3, tRet3, tRetN3, tSet3, tOwn3, tAsg3, tExpr3, tFrz, frzS, tFor3_eq, tLc3_eq, tLc23_eq, tSeq3I_eq, seqK_lst, seqK_tup, seqK_frl, seqK_sq, oTup_lst, oTup_tup, oTup_sq, oList_lst, oList_tup, oList_sq, oLen_lst, oLen_tup, oLen_frl, oLen_sq, flat_sq, tRg1, tRg2, gN3, gT3, gCons3, gNil3, tV3, tC3, tB3, tT3, tIx3, tCh3, tAnd3, tOr3, tNot3, tNil3, tCons3, tTup3, tLst3, tOfL, tCall3, tU3, tUL, tSl3, tNo3, tSome3, tCat3, tRep3, oEq, oNe, oLt_int, oLt_tup, oLe_int, oLe_tup, oGt_int, oGt_tup, oGe_int, oGe_tup, eqD_int, eqD_str, eqD_bl, eqD_non, eqD_tup, eqD_lst, oAdd, oSub, oMul, oDiv, oMod, oPow, oIs, oIsnt, oIn, oNotIn, inD, lookD, oIx_lst, oIx_tup, oIx_frl, oIx_sq, oIx_dT, oIx_dK, getD, oSl, oInt, oSorted, isB, tPut3, tApp3, tDicT, tDicK, tBk3, tCt3, tMin2, tMax2, tNeg3, tIf3E, tAndV3, tOrV3, tNotV3, tIsi, tIndex3, tYes3, tRaise0, tRaise1, tIsE3, tXf3, wipe3, List.set_cons_zero, List.set_cons_succ, List.getElem?_cons_zero, List.getElem?_cons_succ, List.getElem?_nil, Fl.isSt, D.flat, Fl.nb, Fl.item, cond_true, cond_false, Bool.true_or, Bool.or_true, Bool.false_or, Bool.or_false, Bool.and_true, Bool.true_and, Bool.and_false, Bool.false_and, if_true, if_false, ite_true, ite_false, Bool.false_eq_true, Bool.not_true, Bool.not_false, isNon_non, isNon_lst, isNon_tup, isNon_int, isNon_bl, isNon_str, isNon_sq, ty_ii, ty_bi, ty_tt, ty_tl, ty_ti, ty_tn, ty_lt, ty_ll, ty_ib, ty_bb, ni_int, ni_tup, ni_lst, ni_bl, ni_non, List.length_cons, List.length_nil, reduceIte, List.map_cons, List.map_nil, true_and, and_true, Nat.zero_add, Nat.reduceAdd, List.length_map, Nat.zero_le, Int.toNat_natCast]
      refine ⟨false, ps, false, y, false, x, rfl, by omega, refK_of hr' ?_⟩
      rw [hS']
      try simp only [tSeq3, tNx3, tIf3, tRet3, tRetN3, tSet3, tOwn3, tAsg3, tExpr3, tFrz, frzS, tFor3_eq, tLc3_eq, tLc23_eq, tSeq3I_eq, seqK_lst, seqK_tup, seqK_frl, seqK_sq, oTup_lst, oTup_tup, oTup_sq, oList_lst, oList_tup, oList_sq, oLen_lst, oLen_tup, oLen_frl, oLen_sq, flat_sq, tRg1, tRg2, gN3, gT3, gCons3, gNil3, tV3, tC3, tB3, tT3, tIx3, tCh3, tAnd3, tOr3, tNot3, tNil3, tCons3, tTup3, tLst3, tOfL, tCall3, tU3, tUL, tSl3, tNo3, tSome3, tCat3, tRep3, oEq, oNe, oLt_int, oLt_tup, oLe_int, oLe_tup, oGt_int, oGt_tup, oGe_int, oGe_tup, eqD_int, eqD_str, eqD_bl, eqD_non, eqD_tup, eqD_lst, oAdd, oSub, oMul, oDiv, oMod, oPow, oIs, oIsnt, oIn, oNotIn, inD, lookD, oIx_lst, oIx_tup, oIx_frl, oIx_sq, oIx_dT, oIx_dK, getD, oSl, oInt, oSorted, isB, tPut3, tApp3, tDicT, tDicK, tBk3, tCt3, tMin2, tMax2, tNeg3, tIf3E, tAndV3, tOrV3, tNotV3, tIsi, tIndex3, tYes3, tRaise0, tRaise1, tIsE3, tXf3, wipe3, List.set_cons_zero, List.set_cons_succ, List.getElem?_cons_zero, List.getElem?_cons_succ, List.getElem?_nil, Fl.isSt, D.flat, Fl.nb, Fl.item, cond_true, cond_false, Bool.true_or, Bool.or_true, Bool.false_or, Bool.or_false, Bool.and_true, Bool.true_and, Bool.and_false, Bool.false_and, if_true, if_false, ite_true, ite_false, Bool.false_eq_true, Bool.not_true, Bool.not_false, isNon_non, isNon_lst, isNon_tup, isNon_int, isNon_bl, isNon_str, isNon_sq, ty_ii, ty_bi, ty_tt, ty_tl, ty_ti, ty_tn, ty_lt, ty_ll, ty_ib, ty_bb, ni_int, ni_tup, ni_lst, ni_bl, ni_non, List.length_cons, List.length_nil, reduceIte, List.map_cons, List.map_nil, true_and, and_true, Nat.zero_add, Nat.reduceAdd, List.length_map, Nat.zero_le, Int.toNat_natCast]
      refine eqG_of (α := Tup Int) (x := ⟨S⟩) (y := ⟨S⟩) ?_
      simpa using k
    · rw [e]
      have e2 : boundP (frP ps) o2 o1 ≠ [] := fun h => absurd (e.symm.trans (back h)) (List.cons_ne_nil p r)
      rw [show optP (minP (p :: r)) = prD (minOf p r) from rfl]
      try simp only [tSeq3, tNx3, tIf3, tRet3, tRetN3, tSet3, tOwn3, tAsg3, tExpr3, tFrz, frzS, tFor3_eq, tLc3_eq, tLc23_eq, tSeq3I_eq, seqK_lst, seqK_tup, seqK_frl, seqK_sq, oTup_lst, oTup_tup, oTup_sq, oList_lst, oList_tup, oList_sq, oLen_lst, oLen_tup, oLen_frl, oLen_sq, flat_sq, tRg1, tRg2, gN3, gT3, gCons3, gNil3, tV3, tC3, tB3, tT3, tIx3, tCh3, tAnd3, tOr3, tNot3, tNil3, tCons3, tTup3, tLst3, tOfL, tCall3, tU3, tUL, tSl3, tNo3, tSome3, tCat3, tRep3, oEq, oNe, oLt_int, oLt_tup, oLe_int, oLe_tup, oGt_int, oGt_tup, oGe_int, oGe_tup, eqD_int, eqD_str, eqD_bl, eqD_non, eqD_tup, eqD_lst, oAdd, oSub, oMul, oDiv, oMod, oPow, oIs, oIsnt, oIn, oNotIn, inD, lookD, oIx_lst, oIx_tup, oIx_frl, oIx_sq, oIx_dT, oIx_dK, getD, oSl, oInt, oSorted, isB, tPut3, tApp3, tDicT, tDicK, tBk3, tCt3, tMin2, tMax2, tNeg3, tIf3E, tAndV3, tOrV3, tNotV3, tIsi, tIndex3, tYes3, tRaise0, tRaise1, tIsE3, tXf3, wipe3, List.set_cons_zero, List.set_cons_succ, List.getElem?_cons_zero, List.getElem?_cons_succ, List.getElem?_nil, Fl.isSt, D.flat, Fl.nb, Fl.item, cond_true, cond_false, Bool.true_or, Bool.or_true, Bool.false_or, Bool.or_false, Bool.and_true, Bool.true_and, Bool.and_false, Bool.false_and, if_true, if_false, ite_true, ite_false, Bool.false_eq_true, Bool.not_true, Bool.not_false, isNon_non, isNon_lst, isNon_tup, isNon_int, isNon_bl, isNon_str, isNon_sq, ty_ii, ty_bi, ty_tt, ty_tl, ty_ti, ty_tn, ty_lt, ty_ll, ty_ib, ty_bb, ni_int, ni_tup, ni_lst, ni_bl, ni_non, List.length_cons, List.length_nil, reduceIte, List.map_cons, List.map_nil, true_and, and_true, Nat.zero_add, Nat.reduceAdd, List.length_map, Nat.zero_le, Int.toNat_natCast]
      refine ⟨false, ps, false, x, false, y, rfl, by omega, refK_of hr ?_⟩
      rw [hO1, hO2, e]
      try simp only [tSeq3, tNx3, tIf3, tRet3, tRetN3, tSet3, tOwn3, tAsg3, tExpr3, tFrz, frzS, tFor3_eq, tLc3_eq, tLc23_eq, tSeq3I_eq, seqK_lst, seqK_tup, seqK_frl, seqK_sq, oTup_lst, oTup_tup, oTup_sq, oList_lst, oList_tup, oList_sq, oLen_lst, oLen_tup, oLen_frl, oLen_sq, flat_sq, tRg1, tRg2, gN3, gT3, gCons3, gNil3, tV3, tC3, tB3, tT3, tIx3, tCh3, tAnd3, tOr3, tNot3, tNil3, tCons3, tTup3, tLst3, tOfL, tCall3, tU3, tUL, tSl3, tNo3, tSome3, tCat3, tRep3, oEq, oNe, oLt_int, oLt_tup, oLe_int, oLe_tup, oGt_int, oGt_tup, oGe_int, oGe_tup, eqD_int, eqD_str, eqD_bl, eqD_non, eqD_tup, eqD_lst, oAdd, oSub, oMul, oDiv, oMod, oPow, oIs, oIsnt, oIn, oNotIn, inD, lookD, oIx_lst, oIx_tup, oIx_frl, oIx_sq, oIx_dT, oIx_dK, getD, oSl, oInt, oSorted, isB, tPut3, tApp3, tDicT, tDicK, tBk3, tCt3, tMin2, tMax2, tNeg3, tIf3E, tAndV3, tOrV3, tNotV3, tIsi, tIndex3, tYes3, tRaise0, tRaise1, tIsE3, tXf3, wipe3, List.set_cons_zero, List.set_cons_succ, List.getElem?_cons_zero, List.getElem?_cons_succ, List.getElem?_nil, Fl.isSt, D.flat, Fl.nb, Fl.item, cond_true, cond_false, Bool.true_or, Bool.or_true, Bool.false_or, Bool.or_false, Bool.and_true, Bool.true_and, Bool.and_false, Bool.false_and, if_true, if_false, ite_true, ite_false, Bool.false_eq_true, Bool.not_true, Bool.not_false, isNon_non, isNon_lst, isNon_tup, isNon_int, isNon_bl, isNon_str, isNon_sq, ty_ii, ty_bi, ty_tt, ty_tl, ty_ti, ty_tn, ty_lt, ty_ll, ty_ib, ty_bb, ni_int, ni_tup, ni_lst, ni_bl, ni_non, List.length_cons, List.length_nil, reduceIte, List.map_cons, List.map_nil, true_and, and_true, Nat.zero_add, Nat.reduceAdd, List.length_map, Nat.zero_le, Int.toNat_natCast]
      refine ⟨[(minOf p r).1, (minOf p r).2], rfl, ?_⟩
      try simp only [tSeq3, tNx3, tIf3, tRet3, tRetN3, tSet3, tOwn3, tAsg3, tExpr3, tFrz, frzS, tFor3_eq, tLc3_eq, tLc23_eq, tSeq3I_eq, seqK_lst, seqK_tup, seqK_frl, seqK_sq, oTup_lst, oTup_tup, oTup_sq, oList_lst, oList_tup, oList_sq, oLen_lst, oLen_tup, oLen_frl, oLen_sq, flat_sq, tRg1, tRg2, gN3, gT3, gCons3, gNil3, tV3, tC3, tB3, tT3, tIx3, tCh3, tAnd3, tOr3, tNot3, tNil3, tCons3, tTup3, tLst3, tOfL, tCall3, tU3, tUL, tSl3, tNo3, tSome3, tCat3, tRep3, oEq, oNe, oLt_int, oLt_tup, oLe_int, oLe_tup, oGt_int, oGt_tup, oGe_int, oGe_tup, eqD_int, eqD_str, eqD_bl, eqD_non, eqD_tup, eqD_lst, oAdd, oSub, oMul, oDiv, oMod, oPow, oIs, oIsnt, oIn, oNotIn, inD, lookD, oIx_lst, oIx_tup, oIx_frl, oIx_sq, oIx_dT, oIx_dK, getD, oSl, oInt, oSorted, isB, tPut3, tApp3, tDicT, tDicK, tBk3, tCt3, tMin2, tMax2, tNeg3, tIf3E, tAndV3, tOrV3, tNotV3, tIsi, tIndex3, tYes3, tRaise0, tRaise1, tIsE3, tXf3, wipe3, List.set_cons_zero, List.set_cons_succ, List.getElem?_cons_zero, List.getElem?_cons_succ, List.getElem?_nil, Fl.isSt, D.flat, Fl.nb, Fl.item, cond_true, cond_false, Bool.true_or, Bool.or_true, Bool.false_or, Bool.or_false, Bool.and_true, Bool.true_and, Bool.and_false, Bool.false_and, if_true, if_false, ite_true, ite_false, Bool.false_eq_true, Bool.not_true, Bool.not_false, isNon_non, isNon_lst, isNon_tup, isNon_int, isNon_bl, isNon_str, isNon_sq, ty_ii, ty_bi, ty_tt, ty_tl, ty_ti, ty_tn, ty_lt, ty_ll, ty_ib, ty_bb, ni_int, ni_tup, ni_lst, ni_bl, ni_non, List.length_cons, List.length_nil, reduceIte, List.map_cons, List.map_nil, true_and, and_true, Nat.zero_add, Nat.reduceAdd, List.length_map, Nat.zero_le, Int.toNat_natCast]
      refine eqG_of (α := Int × Int) (x := minOf p r) (y := minOf p r) ?_
      rw [if_neg (by simp)]
      refine ⟨false, ps, false, x, false, y, rfl, by omega, refK_of hr ?_⟩
      rw [hS, hO1, hO2, e]
      try simp only [tSeq3, tNx3, tIf3, tRet3, tRetN3, tSet3, tOwn3, tAsg3, tExpr3, tFrz, frzS, tFor3_eq, tLc3_eq, tLc23_eq, tSeq3I_eq, seqK_lst, seqK_tup, seqK_frl, seqK_sq, oTup_lst, oTup_tup, oTup_sq, oList_lst, oList_tup, oList_sq, oLen_lst, oLen_tup, oLen_frl, oLen_sq, flat_sq, tRg1, tRg2, gN3, gT3, gCons3, gNil3, tV3, tC3, tB3, tT3, tIx3, tCh3, tAnd3, tOr3, tNot3, tNil3, tCons3, tTup3, tLst3, tOfL, tCall3, tU3, tUL, tSl3, tNo3, tSome3, tCat3, tRep3, oEq, oNe, oLt_int, oLt_tup, oLe_int, oLe_tup, oGt_int, oGt_tup, oGe_int, oGe_tup, eqD_int, eqD_str, eqD_bl, eqD_non, eqD_tup, eqD_lst, oAdd, oSub, oMul, oDiv, oMod, oPow, oIs, oIsnt, oIn, oNotIn, inD, lookD, oIx_lst, oIx_tup, oIx_frl, oIx_sq, oIx_dT, oIx_dK, getD, oSl, oInt, oSorted, isB, tPut3, tApp3, tDicT, tDicK, tBk3, tCt3, tMin2, tMax2, tNeg3, tIf3E, tAndV3, tOrV3, tNotV3, tIsi, tIndex3, tYes3, tRaise0, tRaise1, tIsE3, tXf3, wipe3, List.set_cons_zero, List.set_cons_succ, List.getElem?_cons_zero, List.getElem?_cons_succ, List.getElem?_nil, Fl.isSt, D.flat, Fl.nb, Fl.item, cond_true, cond_false, Bool.true_or, Bool.or_true, Bool.false_or, Bool.or_false, Bool.and_true, Bool.true_and, Bool.and_false, Bool.false_and, if_true, if_false, ite_true, ite_false, Bool.false_eq_true, Bool.not_true, Bool.not_false, isNon_non, isNon_lst, isNon_tup, isNon_int, isNon_bl, isNon_str, isNon_sq, ty_ii, ty_bi, ty_tt, ty_tl, ty_ti, ty_tn, ty_lt, ty_ll, ty_ib, ty_bb, ni_int, ni_tup, ni_lst, ni_bl, ni_non, List.length_cons, List.length_nil, reduceIte, List.map_cons, List.map_nil, true_and, and_true, Nat.zero_add, Nat.reduceAdd, List.length_map, Nat.zero_le, Int.toNat_natCast]
      refine ⟨.inl rfl, ?_⟩
      try simp only [tSeq3, tNx3, tIf3, tRet3, tRetN3, tSet3, tOwn3, tAsg3, tExpr3, tFrz, frzS, tFor3_eq, tLc3_eq, tLc23_eq, tSeq3I_eq, seqK_lst, seqK_tup, seqK_frl, seqK_sq, oTup_lst, oTup_tup, oTup_sq, oList_lst, oList_tup, oList_sq, oLen_lst, oLen_tup, oLen_frl, oLen_sq, flat_sq, tRg1, tRg2, gN3, gT3, gCons3, gNil3, tV3, tC3, tB3, tT3, tIx3, tCh3, tAnd3, tOr3, tNot3, tNil3, tCons3, tTup3, tLst3, tOfL, tCall3, tU3, tUL, tSl3, tNo3, tSome3, tCat3, tRep3, oEq, oNe, oLt_int, oLt_tup, oLe_int, oLe_tup, oGt_int, oGt_tup, oGe_int, oGe_tup, eqD_int, eqD_str, eqD_bl, eqD_non, eqD_tup, eqD_lst, oAdd, oSub, oMul, oDiv, oMod, oPow, oIs, oIsnt, oIn, oNotIn, inD, lookD, oIx_lst, oIx_tup, oIx_frl, oIx_sq, oIx_dT, oIx_dK, getD, oSl, oInt, oSorted, isB, tPut3, tApp3, tDicT, tDicK, tBk3, tCt3, tMin2, tMax2, tNeg3, tIf3E, tAndV3, tOrV3, tNotV3, tIsi, tIndex3, tYes3, tRaise0, tRaise1, tIsE3, tXf3, wipe3, List.set_cons_zero, List.set_cons_succ, List.getElem?_cons_zero, List.getElem?_cons_succ, List.getElem?_nil, Fl.isSt, D.flat, Fl.nb, Fl.item, cond_true, cond_false, Bool.true_or, Bool.or_true, Bool.false_or, Bool.or_false, Bool.and_true, Bool.true_and, Bool.and_false, Bool.false_and, if_true, if_false, ite_true, ite_false, Bool.false_eq_true, Bool.not_true, Bool.not_false, isNon_non, isNon_lst, isNon_tup, isNon_int, isNon_bl, isNon_str, isNon_sq, ty_ii, ty_bi, ty_tt, ty_tl, ty_ti, ty_tn, ty_lt, ty_ll, ty_ib, ty_bb, ni_int, ni_tup, ni_lst, ni_bl, ni_non, List.length_cons, List.length_nil, reduceIte, List.map_cons, List.map_nil, true_and, and_true, Nat.zero_add, Nat.reduceAdd, List.length_map, Nat.zero_le, Int.toNat_natCast]
      refine ⟨false, ps, false, y, false, x, rfl, by omega, refK_of hr' ?_⟩
      rw [hS']
      try simp only [tSeq3, tNx3, tIf3, tRet3, tRetN3, tSet3, tOwn3, tAsg3, tExpr3, tFrz, frzS, tFor3_eq, tLc3_eq, tLc23_eq, tSeq3I_eq, seqK_lst, seqK_tup, seqK_frl, seqK_sq, oTup_lst, oTup_tup, oTup_sq, oList_lst, oList_tup, oList_sq, oLen_lst, oLen_tup, oLen_frl, oLen_sq, flat_sq, tRg1, tRg2, gN3, gT3, gCons3, gNil3, tV3, tC3, tB3, tT3, tIx3, tCh3, tAnd3, tOr3, tNot3, tNil3, tCons3, tTup3, tLst3, tOfL, tCall3, tU3, tUL, tSl3, tNo3, tSome3, tCat3, tRep3, oEq, oNe, oLt_int, oLt_tup, oLe_int, oLe_tup, oGt_int, oGt_tup, oGe_int, oGe_tup, eqD_int, eqD_str, eqD_bl, eqD_non, eqD_tup, eqD_lst, oAdd, oSub, oMul, oDiv, oMod, oPow, oIs, oIsnt, oIn, oNotIn, inD, lookD, oIx_lst, oIx_tup, oIx_frl, oIx_sq, oIx_dT, oIx_dK, getD, oSl, oInt, oSorted, isB, tPut3, tApp3, tDicT, tDicK, tBk3, tCt3, tMin2, tMax2, tNeg3, tIf3E, tAndV3, tOrV3, tNotV3, tIsi, tIndex3, tYes3, tRaise0, tRaise1, tIsE3, tXf3, wipe3, List.set_cons_zero, List.set_cons_succ, List.getElem?_cons_zero, List.getElem?_cons_succ, List.getElem?_nil, Fl.isSt, D.flat, Fl.nb, Fl.item, cond_true, cond_false, Bool.true_or, Bool.or_true, Bool.false_or, Bool.or_false, Bool.and_true, Bool.true_and, Bool.and_false, Bool.false_and, if_true, if_false, ite_true, ite_false, Bool.false_eq_true, Bool.not_true, Bool.not_false, isNon_non, isNon_lst, isNon_tup, isNon_int, isNon_bl, isNon_str, isNon_sq, ty_ii, ty_bi, ty_tt, ty_tl, ty_ti, ty_tn, ty_lt, ty_ll, ty_ib, ty_bb, ni_int, ni_tup, ni_lst, ni_bl, ni_non, List.length_cons, List.length_nil, reduceIte, List.map_cons, List.map_nil, true_and, and_true, Nat.zero_add, Nat.reduceAdd, List.length_map, Nat.zero_le, Int.toNat_natCast]
      cases e3 : boundP (frP ps) o2 o1 with
      | nil => exact absurd e3 e2
      | cons p' r' =>
        try simp only [tSeq3, tNx3, tIf3, tRet3, tRetN3, tSet3, tOwn3, tAsg3, tExpr3, tFrz, frzS, tFor3_eq, tLc3_eq, tLc23_eq, tSeq3I_eq, seqK_lst, seqK_tup, seqK_frl, seqK_sq, oTup_lst, oTup_tup, oTup_sq, oList_lst, oList_tup, oList_sq, oLen_lst, oLen_tup, oLen_frl, oLen_sq, flat_sq, tRg1, tRg2, gN3, gT3, gCons3, gNil3, tV3, tC3, tB3, tT3, tIx3, tCh3, tAnd3, tOr3, tNot3, tNil3, tCons3, tTup3, tLst3, tOfL, tCall3, tU3, tUL, tSl3, tNo3, tSome3, tCat3, tRep3, oEq, oNe, oLt_int, oLt_tup, oLe_int, oLe_tup, oGt_int, oGt_tup, oGe_int, oGe_tup, eqD_int, eqD_str, eqD_bl, eqD_non, eqD_tup, eqD_lst, oAdd, oSub, oMul, oDiv, oMod, oPow, oIs, oIsnt, oIn, oNotIn, inD, lookD, oIx_lst, oIx_tup, oIx_frl, oIx_sq, oIx_dT, oIx_dK, getD, oSl, oInt, oSorted, isB, tPut3, tApp3, tDicT, tDicK, tBk3, tCt3, tMin2, tMax2, tNeg3, tIf3E, tAndV3, tOrV3, tNotV3, tIsi, tIndex3, tYes3, tRaise0, tRaise1, tIsE3, tXf3, wipe3, List.set_cons_zero, List.set_cons_succ, List.getElem?_cons_zero, List.getElem?_cons_succ, List.getElem?_nil, Fl.isSt, D.flat, Fl.nb, Fl.item, cond_true, cond_false, Bool.true_or, Bool.or_true, Bool.false_or, Bool.or_false, Bool.and_true, Bool.true_and, Bool.and_false, Bool.false_and, if_true, if_false, ite_true, ite_false, Bool.false_eq_true, Bool.not_true, Bool.not_false, isNon_non, isNon_lst, isNon_tup, isNon_int, isNon_bl, isNon_str, isNon_sq, ty_ii, ty_bi, ty_tt, ty_tl, ty_ti, ty_tn, ty_lt, ty_ll, ty_ib, ty_bb, ni_int, ni_tup, ni_lst, ni_bl, ni_non, List.length_cons, List.length_nil, reduceIte, List.map_cons, List.map_nil, true_and, and_true, Nat.zero_add, Nat.reduceAdd, List.length_map, Nat.zero_le, Int.toNat_natCast]
        refine ⟨.inl rfl, ?_⟩
        try simp only [tSeq3, tNx3, tIf3, tRet3, tRetN3, tSet3, tOwn3, tAsg3, tExpr3, tFrz, frzS, tFor3_eq, tLc3_eq, tLc23_eq, tSeq3I_eq, seqK_lst, seqK_tup, seqK_frl, seqK_sq, oTup_lst, oTup_tup, oTup_sq, oList_lst, oList_tup, oList_sq, oLen_lst, oLen_tup, oLen_frl, oLen_sq, flat_sq, tRg1, tRg2, gN3, gT3, gCons3, gNil3, tV3, tC3, tB3, tT3, tIx3, tCh3, tAnd3, tOr3, tNot3, tNil3, tCons3, tTup3, tLst3, tOfL, tCall3, tU3, tUL, tSl3, tNo3, tSome3, tCat3, tRep3, oEq, oNe, oLt_int, oLt_tup, oLe_int, oLe_tup, oGt_int, oGt_tup, oGe_int, oGe_tup, eqD_int, eqD_str, eqD_bl, eqD_non, eqD_tup, eqD_lst, oAdd, oSub, oMul, oDiv, oMod, oPow, oIs, oIsnt, oIn, oNotIn, inD, lookD, oIx_lst, oIx_tup, oIx_frl, oIx_sq, oIx_dT, oIx_dK, getD, oSl, oInt, oSorted, isB, tPut3, tApp3, tDicT, tDicK, tBk3, tCt3, tMin2, tMax2, tNeg3, tIf3E, tAndV3, tOrV3, tNotV3, tIsi, tIndex3, tYes3, tRaise0, tRaise1, tIsE3, tXf3, wipe3, List.set_cons_zero, List.set_cons_succ, List.getElem?_cons_zero, List.getElem?_cons_succ, List.getElem?_nil, Fl.isSt, D.flat, Fl.nb, Fl.item, cond_true, cond_false, Bool.true_or, Bool.or_true, Bool.false_or, Bool.or_false, Bool.and_true, Bool.true_and, Bool.and_false, Bool.false_and, if_true, if_false, ite_true, ite_false, Bool.false_eq_true, Bool.not_true, Bool.not_false, isNon_non, isNon_lst, isNon_tup, isNon_int, isNon_bl, isNon_str, isNon_sq, ty_ii, ty_bi, ty_tt, ty_tl, ty_ti, ty_tn, ty_lt, ty_ll, ty_ib, ty_bb, ni_int, ni_tup, ni_lst, ni_bl, ni_non, List.length_cons, List.length_nil, reduceIte, List.map_cons, List.map_nil, true_and, and_true, Nat.zero_add, Nat.reduceAdd, List.length_map, Nat.zero_le, Int.toNat_natCast]
        refine ⟨false, ps, false, y, false, x, rfl, by omega, refK_of hr' ?_⟩
        rw [hS']
        try simp only [tSeq3, tNx3, tIf3, tRet3, tRetN3, tSet3, tOwn3, tAsg3, tExpr3, tFrz, frzS, tFor3_eq, tLc3_eq, tLc23_eq, tSeq3I_eq, seqK_lst, seqK_tup, seqK_frl, seqK_sq, oTup_lst, oTup_tup, oTup_sq, oList_lst, oList_tup, oList_sq, oLen_lst, oLen_tup, oLen_frl, oLen_sq, flat_sq, tRg1, tRg2, gN3, gT3, gCons3, gNil3, tV3, tC3, tB3, tT3, tIx3, tCh3, tAnd3, tOr3, tNot3, tNil3, tCons3, tTup3, tLst3, tOfL, tCall3, tU3, tUL, tSl3, tNo3, tSome3, tCat3, tRep3, oEq, oNe, oLt_int, oLt_tup, oLe_int, oLe_tup, oGt_int, oGt_tup, oGe_int, oGe_tup, eqD_int, eqD_str, eqD_bl, eqD_non, eqD_tup, eqD_lst, oAdd, oSub, oMul, oDiv, oMod, oPow, oIs, oIsnt, oIn, oNotIn, inD, lookD, oIx_lst, oIx_tup, oIx_frl, oIx_sq, oIx_dT, oIx_dK, getD, oSl, oInt, oSorted, isB, tPut3, tApp3, tDicT, tDicK, tBk3, tCt3, tMin2, tMax2, tNeg3, tIf3E, tAndV3, tOrV3, tNotV3, tIsi, tIndex3, tYes3, tRaise0, tRaise1, tIsE3, tXf3, wipe3, List.set_cons_zero, List.set_cons_succ, List.getElem?_cons_zero, List.getElem?_cons_succ, List.getElem?_nil, Fl.isSt, D.flat, Fl.nb, Fl.item, cond_true, cond_false, Bool.true_or, Bool.or_true, Bool.false_or, Bool.or_false, Bool.and_true, Bool.true_and, Bool.and_false, Bool.false_and, if_true, if_false, ite_true, ite_false, Bool.false_eq_true, Bool.not_true, Bool.not_false, isNon_non, isNon_lst, isNon_tup, isNon_int, isNon_bl, isNon_str, isNon_sq, ty_ii, ty_bi, ty_tt, ty_tl, ty_ti, ty_tn, ty_lt, ty_ll, ty_ib, ty_bb, ni_int, ni_tup, ni_lst, ni_bl, ni_non, List.length_cons, List.length_nil, reduceIte, List.map_cons, List.map_nil, true_and, and_true, Nat.zero_add, Nat.reduceAdd, List.length_map, Nat.zero_le, Int.toNat_natCast]
        refine eqG_of (α := Tup Int) (x := ⟨S⟩) (y := ⟨S⟩) ?_
        simpa using k
def dueD (n : Nat) : D := if n = 1 then .tup [.str "bad log", .int 0] else .tup [.str "too many", .int 60]
/-! _law_refusal: 0 which, 1 pairs, 2 first, 3 second, 4 e -/
abbrev s__law_refusal : Stmt := topS 38
theorem sc__law_refusal : FnScope ["which", "pairs", "first", "second", "e"] ["which", "pairs", "first", "second"] (defScope s__law_refusal) := ⟨rfl, rfl, rfl, by decide +kernel, rfl, by decide +kernel, by decide +kernel⟩
def fs__law_refusal (ex : Str → Addr) : FS := fun as q _ => ∃ (wn : Nat) (ps : List (Int × Int)) (x y : List Int), as = [.int wn, .lst (List.map prD ps), .lst (intsD x), .lst (intsD y)] ∧ ps.length ≤ 1000 ∧ (refuse x y = 1 ∨ refuse x y = 2) ∧ q (dueD (refuse x y))
theorem ok__law_refusal {P : Program} {w : World} {K : PySem.W.Frag} {mg : Str → Option Value} {base : Heap} {ex : Str → Addr} {f : Addr} {fd : FuncData} (T : Tx P w K mg base ex) (C_remainder : Callee P w K mg base "remainder" 4 3 (fs_remainder ex)) (C_shared_beginning : Callee P w K mg base "shared_beginning" 4 3 (fs_shared_beginning ex)) (C_common_log : Callee P w K mg base "common_log" 4 3 (fs_common_log ex)) (C_clash_letters : Callee P w K mg base "clash_letters" 4 3 (fs_clash_letters ex)) (F : Fun K "_law_refusal" "_law_refusal" s__law_refusal f fd) (gm : mg "_law_refusal" = some (.ref f)) (bi : Binds K fd ["which", "pairs", "first", "second"] []) : Callee P w K mg base "_law_refusal" 5 4 (fs__law_refusal ex) := by
  refine callee_mk F gm bi (fun3 (fs__law_refusal ex) F sc__law_refusal ⟨_, fun cdv A outer s H E hr tk hp =>
      (ss3cons (s3try (i := 4) (K := K) rfl rfl rfl sc__law_refusal.nd rfl rfl (by exact names_own (x := "HouseError") rfl T.x_HouseError) tk
        (fun W' pn xe tk' po => (ss3one (s3if (t3cmp (op3eq (deep_of hr)) (p3v 0) p3int)
          (ss3one (s3expr (p3callC C_remainder hr (by decide) tk' rfl (a3cons (p3v 1) (a3cons (p3v 2) (a3cons (p3v 3) a3nil))))))
          (ss3one (s3if (t3cmp (op3eq (deep_of hr)) (p3v 0) p3int)
            (ss3one (s3expr (p3callC C_shared_beginning hr (by decide) tk' rfl (a3cons (p3v 1) (a3cons (p3v 2) (a3cons (p3v 3) a3nil))))))
            (ss3one (s3if (t3cmp (op3eq (deep_of hr)) (p3v 0) p3int)
              (ss3one (s3expr (p3callC C_common_log hr (by decide) tk' rfl (a3cons (p3v 1) (a3cons (p3v 2) (a3cons (p3v 3) a3nil))))))
              (ss3one (s3expr (p3callC C_clash_letters hr (by decide) tk' rfl (a3cons (p3v 1) (a3cons (p3v 2) (a3cons (p3v 3) a3nil)))))))))))))
        (fun a oe cls d pn hz hv => (ss3cons (s3if (PW3.t (w3or (t3not (t3val (p3isE (i := 4) (n := "e") (K := K) rfl hz hv rfl T.b_isinstance rfl (clsV_ty (x := "ValueError") rfl T.b_ValueError bt_ValueError)))) (w3or1 (t3cmp (op3eq (deep_suite (deep_of hr))) (p3isE (i := 4) (n := "e") (K := K) rfl hz hv rfl T.b_isinstance rfl (clsV_own (x := "BadLog") rfl T.x_BadLog)) (p3isE (i := 4) (n := "e") (K := K) rfl hz hv rfl T.b_isinstance rfl (clsV_own (x := "TooMany") rfl T.x_TooMany))))))
          (ss3one (s3ret (p3tup (a3cons p3str (a3cons p3int a3nil)))))
          ss3nil)
        (ss3cons (s3if (t3val (p3isE (i := 4) (n := "e") (K := K) rfl hz hv rfl T.b_isinstance rfl (clsV_own (x := "TooMany") rfl T.x_TooMany)))
          (ss3one (s3ret (p3tup (a3cons p3str (a3cons (p3xf (i := 4) (n := "e") (K := K) rfl hz hv rfl) a3nil)))))
          ss3nil)
        (ss3one (s3ret (p3tup (a3cons p3str (a3cons p3int a3nil)))))))))
      (ss3one (s3ret (p3tup (a3cons p3str (a3cons p3int a3nil)))))), ?_⟩)
  intro ds q z hl h
  obtain ⟨wn, ps, x, y, rfl, hp, hr, k⟩ := h
  simp only [start3, List.map_cons, List.map_nil, List.length_cons, List.length_nil, List.cons_append, List.nil_append, Nat.reduceAdd, Nat.reduceSub, Nat.zero_add, List.replicate, if_true, if_false, Bool.false_eq_true, reduceIte]
  try simp only [tSeq3, tNx3, tIf3, tRet3, tRetN3, tSet3, tOwn3, tAsg3, tExpr3, tFrz, frzS, tFor3_eq, tLc3_eq, tLc23_eq, tSeq3I_eq, seqK_lst, seqK_tup, seqK_frl, seqK_sq, oTup_lst, oTup_tup, oTup_sq, oList_lst, oList_tup, oList_sq, oLen_lst, oLen_tup, oLen_frl, oLen_sq, flat_sq, tRg1, tRg2, gN3, gT3, gCons3, gNil3, tV3, tC3, tB3, tT3, tIx3, tCh3, tAnd3, tOr3, tNot3, tNil3, tCons3, tTup3, tLst3, tOfL, tCall3, tU3, tUL, tSl3, tNo3, tSome3, tCat3, tRep3, oEq, oNe, oLt_int, oLt_tup, oLe_int, oLe_tup, oGt_int, oGt_tup, oGe_int, oGe_tup, eqD_int, eqD_str, eqD_bl, eqD_non, eqD_tup, eqD_lst, oAdd, oSub, oMul, oDiv, oMod, oPow, oIs, oIsnt, oIn, oNotIn, inD, lookD, oIx_lst, oIx_tup, oIx_frl, oIx_sq, oIx_dT, oIx_dK, getD, oSl, oInt, oSorted, isB, tPut3, tApp3, tDicT, tDicK, tBk3, tCt3, tMin2, tMax2, tNeg3, tIf3E, tAndV3, tOrV3, tNotV3, tIsi, tIndex3, tYes3, tRaise0, tRaise1, tIsE3, tXf3, wipe3, List.set_cons_zero, List.set_cons_succ, List.getElem?_cons_zero, List.getElem?_cons_succ, List.getElem?_nil, Fl.isSt, D.flat, Fl.nb, Fl.item, cond_true, cond_false, Bool.true_or, Bool.or_true, Bool.false_or, Bool.or_false, Bool.and_true, Bool.true_and, Bool.and_false, Bool.false_and, if_true, if_false, ite_true, ite_false, Bool.false_eq_true, Bool.not_true, Bool.not_false, isNon_non, isNon_lst, isNon_tup, isNon_int, isNon_bl, isNon_str, isNon_sq, ty_ii, ty_bi, ty_tt, ty_tl, ty_ti, ty_tn, ty_lt, ty_ll, ty_ib, ty_bb, ni_int, ni_tup, ni_lst, ni_bl, ni_non, List.length_cons, List.length_nil, reduceIte, List.map_cons, List.map_nil, true_and, and_true, Nat.zero_add, Nat.reduceAdd, List.length_map, Nat.zero_le, Int.toNat_natCast]
  unfold tTry3
  try simp only [tSeq3, tNx3, tIf3, tRet3, tRetN3, tSet3, tOwn3, tAsg3, tExpr3, tFrz, frzS, tFor3_eq, tLc3_eq, tLc23_eq, tSeq3I_eq, seqK_lst, seqK_tup, seqK_frl, seqK_sq, oTup_lst, oTup_tup, oTup_sq, oList_lst, oList_tup, oList_sq, oLen_lst, oLen_tup, oLen_frl, oLen_sq, flat_sq, tRg1, tRg2, gN3, gT3, gCons3, gNil3, tV3, tC3, tB3, tT3, tIx3, tCh3, tAnd3, tOr3, tNot3, tNil3, tCons3, tTup3, tLst3, tOfL, tCall3, tU3, tUL, tSl3, tNo3, tSome3, tCat3, tRep3, oEq, oNe, oLt_int, oLt_tup, oLe_int, oLe_tup, oGt_int, oGt_tup, oGe_int, oGe_tup, eqD_int, eqD_str, eqD_bl, eqD_non, eqD_tup, eqD_lst, oAdd, oSub, oMul, oDiv, oMod, oPow, oIs, oIsnt, oIn, oNotIn, inD, lookD, oIx_lst, oIx_tup, oIx_frl, oIx_sq, oIx_dT, oIx_dK, getD, oSl, oInt, oSorted, isB, tPut3, tApp3, tDicT, tDicK, tBk3, tCt3, tMin2, tMax2, tNeg3, tIf3E, tAndV3, tOrV3, tNotV3, tIsi, tIndex3, tYes3, tRaise0, tRaise1, tIsE3, tXf3, wipe3, List.set_cons_zero, List.set_cons_succ, List.getElem?_cons_zero, List.getElem?_cons_succ, List.getElem?_nil, Fl.isSt, D.flat, Fl.nb, Fl.item, cond_true, cond_false, Bool.true_or, Bool.or_true, Bool.false_or, Bool.or_false, Bool.and_true, Bool.true_and, Bool.and_false, Bool.false_and, if_true, if_false, ite_true, ite_false, Bool.false_eq_true, Bool.not_true, Bool.not_false, isNon_non, isNon_lst, isNon_tup, isNon_int, isNon_bl, isNon_str, isNon_sq, ty_ii, ty_bi, ty_tt, ty_tl, ty_ti, ty_tn, ty_lt, ty_ll, ty_ib, ty_bb, ni_int, ni_tup, ni_lst, ni_bl, ni_non, List.length_cons, List.length_nil, reduceIte, List.map_cons, List.map_nil, true_and, and_true, Nat.zero_add, Nat.reduceAdd, List.length_map, Nat.zero_le, Int.toNat_natCast]
  rcases hr with hr | hr
  · rw [hr] at k
    have kq : q (.tup [.str "bad log", .int 0]) := k
    repeat' split
    all_goals exact ⟨false, ps, false, x, false, y, rfl, by omega, fun h => by omega, fun _ => ⟨true, T.m_BadLog, fun _ a d => ⟨T.kc_BadLog, true, T.k1, iteF ⟨T.kc_BadLog, true, T.k2, T.kc_BadLog, false, T.k3, iteF ⟨T.kc_BadLog, false, T.k3, iteF ⟨le_line (by decide), kq⟩⟩⟩⟩, fun h => by cases h⟩, fun h => by omega⟩
  · rw [hr] at k
    have kq : q (.tup [.str "too many", .int 60]) := k
    repeat' split
    all_goals exact ⟨false, ps, false, x, false, y, rfl, by omega, fun h => by omega, fun h => by omega, fun _ => ⟨true, T.m_TooMany, fun _ a d => ⟨T.kc_TooMany, true, T.k4, iteF ⟨T.kc_TooMany, false, T.k5, T.kc_TooMany, true, T.k6, iteF ⟨T.kc_TooMany, true, T.k6, iteT ⟨T.xf_TooMany, T.nf_TooMany, .int 60, rfl, le_line (by decide), kq⟩⟩⟩⟩, fun h => by cases h⟩⟩
theorem refuse1 {x y : List Int} (h : (x.all isLet && y.all isLet) = false) : refuse x y = 1 := by unfold refuse; rw [if_pos h]
theorem refuse2 {x y : List Int} (h : (x.all isLet && y.all isLet) = true) (hl : ¬ (x.length ≤ 60 ∧ y.length ≤ 60)) : refuse x y = 2 := by
  unfold refuse
  rw [h, if_neg (by decide), if_neg hl]
theorem rep_flat (x : D) : ∀ n : Nat, (List.replicate n [x]).flatten = List.replicate n x
  | 0 => rfl
  | n + 1 => by rw [List.replicate_succ, List.flatten_cons, rep_flat x n, List.replicate_succ]; rfl
/-! _law_refused: 0 pairs, 1 first, 2 second, 3 choice, 4 cell, 5 spoilt, 6 due, 7 side, 8 place, 9 which -/
abbrev s__law_refused : Stmt := topS 39
theorem sc__law_refused : FnScope ["pairs", "first", "second", "choice", "cell", "spoilt", "due", "side", "place", "which"] ["pairs", "first", "second", "choice", "cell"] (defScope s__law_refused) := ⟨rfl, rfl, rfl, by decide +kernel, rfl, by decide +kernel, by decide +kernel⟩
def fs__law_refused (ex : Str → Addr) : FS := fun as q _ => ∃ (ps : List (Int × Int)) (x y : List Int) (choice cell : Int), as = [.lst (List.map prD ps), .lst (intsD x), .lst (intsD y), .int choice, .int cell] ∧ ps.length ≤ 1000 ∧ (x.all isLet && y.all isLet) = true ∧ x.length ≤ 60 ∧ y.length ≤ 60 ∧ q (.bl true)
theorem ok__law_refused {P : Program} {w : World} {K : PySem.W.Frag} {mg : Str → Option Value} {base : Heap} {ex : Str → Addr} {f : Addr} {fd : FuncData} (T : Tx P w K mg base ex) (C__law_stranger : Callee P w K mg base "_law_stranger" 1 1 (fs__law_stranger ex)) (C__law_refusal : Callee P w K mg base "_law_refusal" 5 4 (fs__law_refusal ex)) (F : Fun K "_law_refused" "_law_refused" s__law_refused f fd) (gm : mg "_law_refused" = some (.ref f)) (bi : Binds K fd ["pairs", "first", "second", "choice", "cell"] []) : Callee P w K mg base "_law_refused" 6 5 (fs__law_refused ex) := by
  refine callee_mk F gm bi (fun3 (fs__law_refused ex) F sc__law_refused ⟨_, fun cdv A outer s H E hr tk hp =>
      (ss3cons (s3own (i := 5) sc__law_refused.nd rfl (by first | exact .inl rfl | exact .inr rfl) (l3lst (a3cons (PL3.val (l3t1 c3list rfl T.b_list bt_list (p3v 1))) (a3cons (PL3.val (l3t1 c3list rfl T.b_list bt_list (p3v 2))) a3nil))))
      (ss3cons (s3set (i := 6) sc__law_refused.nd rfl (by first | exact .inl rfl | exact .inr rfl) (p3tup (a3cons p3str (a3cons p3int a3nil))))
      (ss3cons (s3set (i := 7) sc__law_refused.nd rfl (by first | exact .inl rfl | exact .inr rfl) (p3op op3mod (p3t1 c3int rfl T.b_int bt_int (p3op op3div (p3v 4) p3int)) p3int))
      (ss3cons (s3if (t3cmp (op3ne (deep_of hr)) (p3v 3) p3int)
        (ss3cons (s3put (i := 5) (deep_of hr) (p3op op3add (p3ix (deep_of hr) (p3v 5) (p3v 7)) (p3op op3mul (PL3.val (l3lst (a3cons (p3op op3mod (p3t1 c3int rfl T.b_int bt_int (p3op op3div (p3v 4) p3int)) p3int) a3nil))) (p3op op3sub (p3op op3add p3int (p3op op3mod (p3t1 c3int rfl T.b_int bt_int (p3op op3div (p3v 4) p3int)) p3int)) (p3b1 c3len rfl T.b_len bt_len (p3ix (deep_of hr) (p3v 5) (p3v 7)))))) (p3v 7))
        (ss3one (s3set (i := 6) sc__law_refused.nd rfl (by first | exact .inl rfl | exact .inr rfl) (p3tup (a3cons p3str (a3cons p3int a3nil))))))
        ss3nil)
      (ss3cons (s3if (t3cmp (op3ne (deep_of hr)) (p3v 3) p3int)
        (ss3cons (s3set (i := 7) sc__law_refused.nd rfl (by first | exact .inl rfl | exact .inr rfl) (p3op op3mod (p3t1 c3int rfl T.b_int bt_int (p3op op3div (p3v 4) p3int)) p3int))
        (ss3cons (s3set (i := 8) sc__law_refused.nd rfl (by first | exact .inl rfl | exact .inr rfl) (p3op op3mod (p3t1 c3int rfl T.b_int bt_int (p3op op3div (p3v 4) p3int)) (p3op op3add (p3b1 c3len rfl T.b_len bt_len (p3ix (deep_of hr) (p3v 5) (p3v 7))) p3int)))
        (ss3cons (s3put (i := 5) (deep_of hr) (p3op op3add (p3op op3add (p3sl (p3ix (deep_of hr) (p3v 5) (p3v 7)) o3none (o3some (p3v 8))) (PL3.val (l3lst (a3cons (p3callC C__law_stranger hr (by decide) tk rfl (a3cons (p3op op3div (p3v 4) p3int) a3nil)) a3nil)))) (p3sl (p3ix (deep_of hr) (p3v 5) (p3v 7)) (o3some (p3v 8)) o3none)) (p3v 7))
        (ss3one (s3set (i := 6) sc__law_refused.nd rfl (by first | exact .inl rfl | exact .inr rfl) (p3tup (a3cons p3str (a3cons p3int a3nil))))))))
        ss3nil)
      (ss3cons (s3for hp rfl (i3range1 rfl T.b_range p3int) (g3name (i := 9) sc__law_refused.nd rfl (by first | exact .inl rfl | exact .inr rfl))
        (ss3one (s3if (t3cmp (op3ne (deep_of hr)) (p3callC C__law_refusal hr (by decide) tk rfl (a3cons (p3v 9) (a3cons (p3v 0) (a3cons (PL3.val (l3t1 c3list rfl T.b_list bt_list (p3ix (deep_of hr) (p3v 5) p3int))) (a3cons (PL3.val (l3t1 c3list rfl T.b_list bt_list (p3ix (deep_of hr) (p3v 5) p3int))) a3nil))))) (p3v 6))
          (ss3one (s3ret p3bl))
          ss3nil)))
      (ss3one (s3ret p3bl)))))))), ?_⟩)
  intro ds q z hl h
  obtain ⟨ps, x, y, choice, cell, rfl, hp, hlet, hx, hy, k⟩ := h
  simp only [start3, List.map_cons, List.map_nil, List.length_cons, List.length_nil, List.cons_append, List.nil_append, Nat.reduceAdd, Nat.reduceSub, Nat.zero_add, List.replicate, if_true, if_false, Bool.false_eq_true, reduceIte]
  refine seq_mid (fun st => st = [.va (.lst (List.map prD ps)), .va (.lst (intsD x)), .va (.lst (intsD y)), .va (.int choice), .va (.int cell), .ow [.lst (intsD x), .lst (intsD y)], .un, .un, .un, .un]) (fun K hK => ?_) ?_
  · try simp only [tSeq3, tNx3, tIf3, tRet3, tRetN3, tSet3, tOwn3, tAsg3, tExpr3, tFrz, frzS, tFor3_eq, tLc3_eq, tLc23_eq, tSeq3I_eq, seqK_lst, seqK_tup, seqK_frl, seqK_sq, oTup_lst, oTup_tup, oTup_sq, oList_lst, oList_tup, oList_sq, oLen_lst, oLen_tup, oLen_frl, oLen_sq, flat_sq, tRg1, tRg2, gN3, gT3, gCons3, gNil3, tV3, tC3, tB3, tT3, tIx3, tCh3, tAnd3, tOr3, tNot3, tNil3, tCons3, tTup3, tLst3, tOfL, tCall3, tU3, tUL, tSl3, tNo3, tSome3, tCat3, tRep3, oEq, oNe, oLt_int, oLt_tup, oLe_int, oLe_tup, oGt_int, oGt_tup, oGe_int, oGe_tup, eqD_int, eqD_str, eqD_bl, eqD_non, eqD_tup, eqD_lst, oAdd, oSub, oMul, oDiv, oMod, oPow, oIs, oIsnt, oIn, oNotIn, inD, lookD, oIx_lst, oIx_tup, oIx_frl, oIx_sq, oIx_dT, oIx_dK, getD, oSl, oInt, oSorted, isB, tPut3, tApp3, tDicT, tDicK, tBk3, tCt3, tMin2, tMax2, tNeg3, tIf3E, tAndV3, tOrV3, tNotV3, tIsi, tIndex3, tYes3, tRaise0, tRaise1, tIsE3, tXf3, wipe3, List.set_cons_zero, List.set_cons_succ, List.getElem?_cons_zero, List.getElem?_cons_succ, List.getElem?_nil, Fl.isSt, D.flat, Fl.nb, Fl.item, cond_true, cond_false, Bool.true_or, Bool.or_true, Bool.false_or, Bool.or_false, Bool.and_true, Bool.true_and, Bool.and_false, Bool.false_and, if_true, if_false, ite_true, ite_false, Bool.false_eq_true, Bool.not_true, Bool.not_false, isNon_non, isNon_lst, isNon_tup, isNon_int, isNon_bl, isNon_str, isNon_sq, ty_ii, ty_bi, ty_tt, ty_tl, ty_ti, ty_tn, ty_lt, ty_ll, ty_ib, ty_bb, ni_int, ni_tup, ni_lst, ni_bl, ni_non, List.length_cons, List.length_nil, reduceIte, List.map_cons, List.map_nil, true_and, and_true, Nat.zero_add, Nat.reduceAdd, List.length_map, Nat.zero_le, Int.toNat_natCast]
    exact ⟨le_line (by decide), hK _ rfl⟩
  rintro _ rfl
  refine seq_mid (fun st => st = [.va (.lst (List.map prD ps)), .va (.lst (intsD x)), .va (.lst (intsD y)), .va (.int choice), .va (.int cell), .ow [.lst (intsD x), .lst (intsD y)], .va (dueD 1), .un, .un, .un]) (fun K hK => ?_) ?_
  · try simp only [tSeq3, tNx3, tIf3, tRet3, tRetN3, tSet3, tOwn3, tAsg3, tExpr3, tFrz, frzS, tFor3_eq, tLc3_eq, tLc23_eq, tSeq3I_eq, seqK_lst, seqK_tup, seqK_frl, seqK_sq, oTup_lst, oTup_tup, oTup_sq, oList_lst, oList_tup, oList_sq, oLen_lst, oLen_tup, oLen_frl, oLen_sq, flat_sq, tRg1, tRg2, gN3, gT3, gCons3, gNil3, tV3, tC3, tB3, tT3, tIx3, tCh3, tAnd3, tOr3, tNot3, tNil3, tCons3, tTup3, tLst3, tOfL, tCall3, tU3, tUL, tSl3, tNo3, tSome3, tCat3, tRep3, oEq, oNe, oLt_int, oLt_tup, oLe_int, oLe_tup, oGt_int, oGt_tup, oGe_int, oGe_tup, eqD_int, eqD_str, eqD_bl, eqD_non, eqD_tup, eqD_lst, oAdd, oSub, oMul, oDiv, oMod, oPow, oIs, oIsnt, oIn, oNotIn, inD, lookD, oIx_lst, oIx_tup, oIx_frl, oIx_sq, oIx_dT, oIx_dK, getD, oSl, oInt, oSorted, isB, tPut3, tApp3, tDicT, tDicK, tBk3, tCt3, tMin2, tMax2, tNeg3, tIf3E, tAndV3, tOrV3, tNotV3, tIsi, tIndex3, tYes3, tRaise0, tRaise1, tIsE3, tXf3, wipe3, List.set_cons_zero, List.set_cons_succ, List.getElem?_cons_zero, List.getElem?_cons_succ, List.getElem?_nil, Fl.isSt, D.flat, Fl.nb, Fl.item, cond_true, cond_false, Bool.true_or, Bool.or_true, Bool.false_or, Bool.or_false, Bool.and_true, Bool.true_and, Bool.and_false, Bool.false_and, if_true, if_false, ite_true, ite_false, Bool.false_eq_true, Bool.not_true, Bool.not_false, isNon_non, isNon_lst, isNon_tup, isNon_int, isNon_bl, isNon_str, isNon_sq, ty_ii, ty_bi, ty_tt, ty_tl, ty_ti, ty_tn, ty_lt, ty_ll, ty_ib, ty_bb, ni_int, ni_tup, ni_lst, ni_bl, ni_non, List.length_cons, List.length_nil, reduceIte, List.map_cons, List.map_nil, true_and, and_true, Nat.zero_add, Nat.reduceAdd, List.length_map, Nat.zero_le, Int.toNat_natCast]
    exact ⟨le_line (by decide), hK _ rfl⟩
  rintro _ rfl
  have side : ∀ a : Int, a % 2 = 0 ∨ a % 2 = 1 := fun a => by omega
  refine seq_mid (fun st => ∃ s : Int, (s = 0 ∨ s = 1) ∧ st = [.va (.lst (List.map prD ps)), .va (.lst (intsD x)), .va (.lst (intsD y)), .va (.int choice), .va (.int cell), .ow [.lst (intsD x), .lst (intsD y)], .va (dueD 1), .va (.int s), .un, .un]) (fun K hK => ?_) ?_
  · try simp only [tSeq3, tNx3, tIf3, tRet3, tRetN3, tSet3, tOwn3, tAsg3, tExpr3, tFrz, frzS, tFor3_eq, tLc3_eq, tLc23_eq, tSeq3I_eq, seqK_lst, seqK_tup, seqK_frl, seqK_sq, oTup_lst, oTup_tup, oTup_sq, oList_lst, oList_tup, oList_sq, oLen_lst, oLen_tup, oLen_frl, oLen_sq, flat_sq, tRg1, tRg2, gN3, gT3, gCons3, gNil3, tV3, tC3, tB3, tT3, tIx3, tCh3, tAnd3, tOr3, tNot3, tNil3, tCons3, tTup3, tLst3, tOfL, tCall3, tU3, tUL, tSl3, tNo3, tSome3, tCat3, tRep3, oEq, oNe, oLt_int, oLt_tup, oLe_int, oLe_tup, oGt_int, oGt_tup, oGe_int, oGe_tup, eqD_int, eqD_str, eqD_bl, eqD_non, eqD_tup, eqD_lst, oAdd, oSub, oMul, oDiv, oMod, oPow, oIs, oIsnt, oIn, oNotIn, inD, lookD, oIx_lst, oIx_tup, oIx_frl, oIx_sq, oIx_dT, oIx_dK, getD, oSl, oInt, oSorted, isB, tPut3, tApp3, tDicT, tDicK, tBk3, tCt3, tMin2, tMax2, tNeg3, tIf3E, tAndV3, tOrV3, tNotV3, tIsi, tIndex3, tYes3, tRaise0, tRaise1, tIsE3, tXf3, wipe3, List.set_cons_zero, List.set_cons_succ, List.getElem?_cons_zero, List.getElem?_cons_succ, List.getElem?_nil, Fl.isSt, D.flat, Fl.nb, Fl.item, cond_true, cond_false, Bool.true_or, Bool.or_true, Bool.false_or, Bool.or_false, Bool.and_true, Bool.true_and, Bool.and_false, Bool.false_and, if_true, if_false, ite_true, ite_false, Bool.false_eq_true, Bool.not_true, Bool.not_false, isNon_non, isNon_lst, isNon_tup, isNon_int, isNon_bl, isNon_str, isNon_sq, ty_ii, ty_bi, ty_tt, ty_tl, ty_ti, ty_tn, ty_lt, ty_ll, ty_ib, ty_bb, ni_int, ni_tup, ni_lst, ni_bl, ni_non, List.length_cons, List.length_nil, reduceIte, List.map_cons, List.map_nil, true_and, and_true, Nat.zero_add, Nat.reduceAdd, List.length_map, Nat.zero_le, Int.toNat_natCast]
    exact ⟨by decide, by decide, hK _ ⟨_, side _, rfl⟩⟩
  rintro _ ⟨s, hs, rfl⟩
  refine seq_mid (fun st => ∃ (X Y : List Int) (n : Nat), (n = 1 ∨ n = 2) ∧ (X.all isLet && Y.all isLet) = true ∧ X.length ≤ 63 ∧ Y.length ≤ 63 ∧ (n = 1 → choice = 1) ∧ (n = 2 → ¬ (X.length ≤ 60 ∧ Y.length ≤ 60)) ∧
    st = [.va (.lst (List.map prD ps)), .va (.lst (intsD x)), .va (.lst (intsD y)), .va (.int choice), .va (.int cell), .ow [.lst (intsD X), .lst (intsD Y)], .va (dueD n), .va (.int s), .un, .un]) (fun K hK => ?_) ?_
  · try simp only [tSeq3, tNx3, tIf3, tRet3, tRetN3, tSet3, tOwn3, tAsg3, tExpr3, tFrz, frzS, tFor3_eq, tLc3_eq, tLc23_eq, tSeq3I_eq, seqK_lst, seqK_tup, seqK_frl, seqK_sq, oTup_lst, oTup_tup, oTup_sq, oList_lst, oList_tup, oList_sq, oLen_lst, oLen_tup, oLen_frl, oLen_sq, flat_sq, tRg1, tRg2, gN3, gT3, gCons3, gNil3, tV3, tC3, tB3, tT3, tIx3, tCh3, tAnd3, tOr3, tNot3, tNil3, tCons3, tTup3, tLst3, tOfL, tCall3, tU3, tUL, tSl3, tNo3, tSome3, tCat3, tRep3, oEq, oNe, oLt_int, oLt_tup, oLe_int, oLe_tup, oGt_int, oGt_tup, oGe_int, oGe_tup, eqD_int, eqD_str, eqD_bl, eqD_non, eqD_tup, eqD_lst, oAdd, oSub, oMul, oDiv, oMod, oPow, oIs, oIsnt, oIn, oNotIn, inD, lookD, oIx_lst, oIx_tup, oIx_frl, oIx_sq, oIx_dT, oIx_dK, getD, oSl, oInt, oSorted, isB, tPut3, tApp3, tDicT, tDicK, tBk3, tCt3, tMin2, tMax2, tNeg3, tIf3E, tAndV3, tOrV3, tNotV3, tIsi, tIndex3, tYes3, tRaise0, tRaise1, tIsE3, tXf3, wipe3, List.set_cons_zero, List.set_cons_succ, List.getElem?_cons_zero, List.getElem?_cons_succ, List.getElem?_nil, Fl.isSt, D.flat, Fl.nb, Fl.item, cond_true, cond_false, Bool.true_or, Bool.or_true, Bool.false_or, Bool.or_false, Bool.and_true, Bool.true_and, Bool.and_false, Bool.false_and, if_true, if_false, ite_true, ite_false, Bool.false_eq_true, Bool.not_true, Bool.not_false, isNon_non, isNon_lst, isNon_tup, isNon_int, isNon_bl, isNon_str, isNon_sq, ty_ii, ty_bi, ty_tt, ty_tl, ty_ti, ty_tn, ty_lt, ty_ll, ty_ib, ty_bb, ni_int, ni_tup, ni_lst, ni_bl, ni_non, List.length_cons, List.length_nil, reduceIte, List.map_cons, List.map_nil, true_and, and_true, Nat.zero_add, Nat.reduceAdd, List.length_map, Nat.zero_le, Int.toNat_natCast]
    by_cases hc : choice = 1
    · rw [if_neg (by simp [hc])]
      exact hK _ ⟨x, y, 1, .inl rfl, hlet, by omega, by omega, fun _ => hc, (fun h => by cases h), rfl⟩
    · rw [if_pos (by simp [hc])]
      have grow : ∀ (v : List Int) (hv : v.all isLet = true) (hvl : v.length ≤ 60), ∃ W : List Int, intsD v ++ (List.replicate ((61 : Int) + cell / 256 % 3 - (v.length : Int)).toNat [D.int (cell / 16 % 16)]).flatten = intsD W ∧ W.all isLet = true ∧ W.length ≤ 63 ∧ ¬ W.length ≤ 60 ∧ (-(2 ^ 63) ≤ ((61 : Int) + cell / 256 % 3 - (v.length : Int)) ∧ ((61 : Int) + cell / 256 % 3 - (v.length : Int)) < 2 ^ 63 ∧ 1 * ((61 : Int) + cell / 256 % 3 - (v.length : Int)).toNat ≤ sizeLine) ∧ v.length + (List.replicate ((61 : Int) + cell / 256 % 3 - (v.length : Int)).toNat [D.int (cell / 16 % 16)]).flatten.length ≤ sizeLine := fun v hv hvl => by
        obtain ⟨m, hm⟩ : ∃ m : Nat, (61 : Int) + cell / 256 % 3 - (v.length : Int) = m := ⟨((61 : Int) + cell / 256 % 3 - (v.length : Int)).toNat, by omega⟩
        rw [hm, Int.toNat_natCast, rep_flat, List.length_replicate]
        refine ⟨v ++ List.replicate m (cell / 16 % 16), by simp, ?_, by simp; omega, by simp; omega, ⟨by omega, by omega, le_line (by omega)⟩, le_line (by omega)⟩
        rw [List.all_append, hv, Bool.true_and, List.all_eq_true]
        intro a ha
        rw [(List.mem_replicate.mp ha).2]
        simp only [isLet, Bool.and_eq_true, decide_eq_true_eq]
        omega
      obtain ⟨hlx, hly⟩ := Bool.and_eq_true_iff.mp hlet
      rcases hs with rfl | rfl
      · obtain ⟨W, e1, e2, e3, e4, e5, e6⟩ := grow x hlx hx
        refine ⟨_, rfl, ?_⟩
        try simp only [tSeq3, tNx3, tIf3, tRet3, tRetN3, tSet3, tOwn3, tAsg3, tExpr3, tFrz, frzS, tFor3_eq, tLc3_eq, tLc23_eq, tSeq3I_eq, seqK_lst, seqK_tup, seqK_frl, seqK_sq, oTup_lst, oTup_tup, oTup_sq, oList_lst, oList_tup, oList_sq, oLen_lst, oLen_tup, oLen_frl, oLen_sq, flat_sq, tRg1, tRg2, gN3, gT3, gCons3, gNil3, tV3, tC3, tB3, tT3, tIx3, tCh3, tAnd3, tOr3, tNot3, tNil3, tCons3, tTup3, tLst3, tOfL, tCall3, tU3, tUL, tSl3, tNo3, tSome3, tCat3, tRep3, oEq, oNe, oLt_int, oLt_tup, oLe_int, oLe_tup, oGt_int, oGt_tup, oGe_int, oGe_tup, eqD_int, eqD_str, eqD_bl, eqD_non, eqD_tup, eqD_lst, oAdd, oSub, oMul, oDiv, oMod, oPow, oIs, oIsnt, oIn, oNotIn, inD, lookD, oIx_lst, oIx_tup, oIx_frl, oIx_sq, oIx_dT, oIx_dK, getD, oSl, oInt, oSorted, isB, tPut3, tApp3, tDicT, tDicK, tBk3, tCt3, tMin2, tMax2, tNeg3, tIf3E, tAndV3, tOrV3, tNotV3, tIsi, tIndex3, tYes3, tRaise0, tRaise1, tIsE3, tXf3, wipe3, List.set_cons_zero, List.set_cons_succ, List.getElem?_cons_zero, List.getElem?_cons_succ, List.getElem?_nil, Fl.isSt, D.flat, Fl.nb, Fl.item, cond_true, cond_false, Bool.true_or, Bool.or_true, Bool.false_or, Bool.or_false, Bool.and_true, Bool.true_and, Bool.and_false, Bool.false_and, if_true, if_false, ite_true, ite_false, Bool.false_eq_true, Bool.not_true, Bool.not_false, isNon_non, isNon_lst, isNon_tup, isNon_int, isNon_bl, isNon_str, isNon_sq, ty_ii, ty_bi, ty_tt, ty_tl, ty_ti, ty_tn, ty_lt, ty_ll, ty_ib, ty_bb, ni_int, ni_tup, ni_lst, ni_bl, ni_non, List.length_cons, List.length_nil, reduceIte, List.map_cons, List.map_nil, true_and, and_true, Nat.zero_add, Nat.reduceAdd, List.length_map, Nat.zero_le, Int.toNat_natCast]
        refine ⟨by decide, by decide, le_line (by decide), by decide, by decide, _, rfl, ?_⟩
        try simp only [tSeq3, tNx3, tIf3, tRet3, tRetN3, tSet3, tOwn3, tAsg3, tExpr3, tFrz, frzS, tFor3_eq, tLc3_eq, tLc23_eq, tSeq3I_eq, seqK_lst, seqK_tup, seqK_frl, seqK_sq, oTup_lst, oTup_tup, oTup_sq, oList_lst, oList_tup, oList_sq, oLen_lst, oLen_tup, oLen_frl, oLen_sq, flat_sq, tRg1, tRg2, gN3, gT3, gCons3, gNil3, tV3, tC3, tB3, tT3, tIx3, tCh3, tAnd3, tOr3, tNot3, tNil3, tCons3, tTup3, tLst3, tOfL, tCall3, tU3, tUL, tSl3, tNo3, tSome3, tCat3, tRep3, oEq, oNe, oLt_int, oLt_tup, oLe_int, oLe_tup, oGt_int, oGt_tup, oGe_int, oGe_tup, eqD_int, eqD_str, eqD_bl, eqD_non, eqD_tup, eqD_lst, oAdd, oSub, oMul, oDiv, oMod, oPow, oIs, oIsnt, oIn, oNotIn, inD, lookD, oIx_lst, oIx_tup, oIx_frl, oIx_sq, oIx_dT, oIx_dK, getD, oSl, oInt, oSorted, isB, tPut3, tApp3, tDicT, tDicK, tBk3, tCt3, tMin2, tMax2, tNeg3, tIf3E, tAndV3, tOrV3, tNotV3, tIsi, tIndex3, tYes3, tRaise0, tRaise1, tIsE3, tXf3, wipe3, List.set_cons_zero, List.set_cons_succ, List.getElem?_cons_zero, List.getElem?_cons_succ, List.getElem?_nil, Fl.isSt, D.flat, Fl.nb, Fl.item, cond_true, cond_false, Bool.true_or, Bool.or_true, Bool.false_or, Bool.or_false, Bool.and_true, Bool.true_and, Bool.and_false, Bool.false_and, if_true, if_false, ite_true, ite_false, Bool.false_eq_true, Bool.not_true, Bool.not_false, isNon_non, isNon_lst, isNon_tup, isNon_int, isNon_bl, isNon_str, isNon_sq, ty_ii, ty_bi, ty_tt, ty_tl, ty_ti, ty_tn, ty_lt, ty_ll, ty_ib, ty_bb, ni_int, ni_tup, ni_lst, ni_bl, ni_non, List.length_cons, List.length_nil, reduceIte, List.map_cons, List.map_nil, true_and, and_true, Nat.zero_add, Nat.reduceAdd, List.length_map, Nat.zero_le, Int.toNat_natCast]
        refine ⟨e5, e6, 0, rfl, le_line (by decide), ?_⟩
        rw [e1]
        exact hK _ ⟨W, y, 2, .inr rfl, by rw [e2, hly]; rfl, e3, by omega, (fun h => by cases h), fun _ h => e4 h.1, rfl⟩
      · obtain ⟨W, e1, e2, e3, e4, e5, e6⟩ := grow y hly hy
        refine ⟨_, rfl, ?_⟩
        try simp only [tSeq3, tNx3, tIf3, tRet3, tRetN3, tSet3, tOwn3, tAsg3, tExpr3, tFrz, frzS, tFor3_eq, tLc3_eq, tLc23_eq, tSeq3I_eq, seqK_lst, seqK_tup, seqK_frl, seqK_sq, oTup_lst, oTup_tup, oTup_sq, oList_lst, oList_tup, oList_sq, oLen_lst, oLen_tup, oLen_frl, oLen_sq, flat_sq, tRg1, tRg2, gN3, gT3, gCons3, gNil3, tV3, tC3, tB3, tT3, tIx3, tCh3, tAnd3, tOr3, tNot3, tNil3, tCons3, tTup3, tLst3, tOfL, tCall3, tU3, tUL, tSl3, tNo3, tSome3, tCat3, tRep3, oEq, oNe, oLt_int, oLt_tup, oLe_int, oLe_tup, oGt_int, oGt_tup, oGe_int, oGe_tup, eqD_int, eqD_str, eqD_bl, eqD_non, eqD_tup, eqD_lst, oAdd, oSub, oMul, oDiv, oMod, oPow, oIs, oIsnt, oIn, oNotIn, inD, lookD, oIx_lst, oIx_tup, oIx_frl, oIx_sq, oIx_dT, oIx_dK, getD, oSl, oInt, oSorted, isB, tPut3, tApp3, tDicT, tDicK, tBk3, tCt3, tMin2, tMax2, tNeg3, tIf3E, tAndV3, tOrV3, tNotV3, tIsi, tIndex3, tYes3, tRaise0, tRaise1, tIsE3, tXf3, wipe3, List.set_cons_zero, List.set_cons_succ, List.getElem?_cons_zero, List.getElem?_cons_succ, List.getElem?_nil, Fl.isSt, D.flat, Fl.nb, Fl.item, cond_true, cond_false, Bool.true_or, Bool.or_true, Bool.false_or, Bool.or_false, Bool.and_true, Bool.true_and, Bool.and_false, Bool.false_and, if_true, if_false, ite_true, ite_false, Bool.false_eq_true, Bool.not_true, Bool.not_false, isNon_non, isNon_lst, isNon_tup, isNon_int, isNon_bl, isNon_str, isNon_sq, ty_ii, ty_bi, ty_tt, ty_tl, ty_ti, ty_tn, ty_lt, ty_ll, ty_ib, ty_bb, ni_int, ni_tup, ni_lst, ni_bl, ni_non, List.length_cons, List.length_nil, reduceIte, List.map_cons, List.map_nil, true_and, and_true, Nat.zero_add, Nat.reduceAdd, List.length_map, Nat.zero_le, Int.toNat_natCast]
        refine ⟨by decide, by decide, le_line (by decide), by decide, by decide, _, rfl, ?_⟩
        try simp only [tSeq3, tNx3, tIf3, tRet3, tRetN3, tSet3, tOwn3, tAsg3, tExpr3, tFrz, frzS, tFor3_eq, tLc3_eq, tLc23_eq, tSeq3I_eq, seqK_lst, seqK_tup, seqK_frl, seqK_sq, oTup_lst, oTup_tup, oTup_sq, oList_lst, oList_tup, oList_sq, oLen_lst, oLen_tup, oLen_frl, oLen_sq, flat_sq, tRg1, tRg2, gN3, gT3, gCons3, gNil3, tV3, tC3, tB3, tT3, tIx3, tCh3, tAnd3, tOr3, tNot3, tNil3, tCons3, tTup3, tLst3, tOfL, tCall3, tU3, tUL, tSl3, tNo3, tSome3, tCat3, tRep3, oEq, oNe, oLt_int, oLt_tup, oLe_int, oLe_tup, oGt_int, oGt_tup, oGe_int, oGe_tup, eqD_int, eqD_str, eqD_bl, eqD_non, eqD_tup, eqD_lst, oAdd, oSub, oMul, oDiv, oMod, oPow, oIs, oIsnt, oIn, oNotIn, inD, lookD, oIx_lst, oIx_tup, oIx_frl, oIx_sq, oIx_dT, oIx_dK, getD, oSl, oInt, oSorted, isB, tPut3, tApp3, tDicT, tDicK, tBk3, tCt3, tMin2, tMax2, tNeg3, tIf3E, tAndV3, tOrV3, tNotV3, tIsi, tIndex3, tYes3, tRaise0, tRaise1, tIsE3, tXf3, wipe3, List.set_cons_zero, List.set_cons_succ, List.getElem?_cons_zero, List.getElem?_cons_succ, List.getElem?_nil, Fl.isSt, D.flat, Fl.nb, Fl.item, cond_true, cond_false, Bool.true_or, Bool.or_true, Bool.false_or, Bool.or_false, Bool.and_true, Bool.true_and, Bool.and_false, Bool.false_and, if_true, if_false, ite_true, ite_false, Bool.false_eq_true, Bool.not_true, Bool.not_false, isNon_non, isNon_lst, isNon_tup, isNon_int, isNon_bl, isNon_str, isNon_sq, ty_ii, ty_bi, ty_tt, ty_tl, ty_ti, ty_tn, ty_lt, ty_ll, ty_ib, ty_bb, ni_int, ni_tup, ni_lst, ni_bl, ni_non, List.length_cons, List.length_nil, reduceIte, List.map_cons, List.map_nil, true_and, and_true, Nat.zero_add, Nat.reduceAdd, List.length_map, Nat.zero_le, Int.toNat_natCast]
        refine ⟨e5, e6, 1, rfl, le_line (by decide), ?_⟩
        rw [e1]
        exact hK _ ⟨x, W, 2, .inr rfl, by rw [e2, hlx]; rfl, by omega, e3, (fun h => by cases h), fun _ h => e4 h.2, rfl⟩
  rintro _ ⟨X, Y, n, hn, hXY, hX, hY, hn1, hn2, rfl⟩
  refine seq_mid (fun st => ∃ (X Y : List Int) (l7 l8 l9 : Sl), (refuse X Y = 1 ∨ refuse X Y = 2) ∧
    st = [.va (.lst (List.map prD ps)), .va (.lst (intsD x)), .va (.lst (intsD y)), .va (.int choice), .va (.int cell), .ow [.lst (intsD X), .lst (intsD Y)], .va (dueD (refuse X Y)), l7, l8, l9]) (fun K hK => ?_) ?_
  · try simp only [tSeq3, tNx3, tIf3, tRet3, tRetN3, tSet3, tOwn3, tAsg3, tExpr3, tFrz, frzS, tFor3_eq, tLc3_eq, tLc23_eq, tSeq3I_eq, seqK_lst, seqK_tup, seqK_frl, seqK_sq, oTup_lst, oTup_tup, oTup_sq, oList_lst, oList_tup, oList_sq, oLen_lst, oLen_tup, oLen_frl, oLen_sq, flat_sq, tRg1, tRg2, gN3, gT3, gCons3, gNil3, tV3, tC3, tB3, tT3, tIx3, tCh3, tAnd3, tOr3, tNot3, tNil3, tCons3, tTup3, tLst3, tOfL, tCall3, tU3, tUL, tSl3, tNo3, tSome3, tCat3, tRep3, oEq, oNe, oLt_int, oLt_tup, oLe_int, oLe_tup, oGt_int, oGt_tup, oGe_int, oGe_tup, eqD_int, eqD_str, eqD_bl, eqD_non, eqD_tup, eqD_lst, oAdd, oSub, oMul, oDiv, oMod, oPow, oIs, oIsnt, oIn, oNotIn, inD, lookD, oIx_lst, oIx_tup, oIx_frl, oIx_sq, oIx_dT, oIx_dK, getD, oSl, oInt, oSorted, isB, tPut3, tApp3, tDicT, tDicK, tBk3, tCt3, tMin2, tMax2, tNeg3, tIf3E, tAndV3, tOrV3, tNotV3, tIsi, tIndex3, tYes3, tRaise0, tRaise1, tIsE3, tXf3, wipe3, List.set_cons_zero, List.set_cons_succ, List.getElem?_cons_zero, List.getElem?_cons_succ, List.getElem?_nil, Fl.isSt, D.flat, Fl.nb, Fl.item, cond_true, cond_false, Bool.true_or, Bool.or_true, Bool.false_or, Bool.or_false, Bool.and_true, Bool.true_and, Bool.and_false, Bool.false_and, if_true, if_false, ite_true, ite_false, Bool.false_eq_true, Bool.not_true, Bool.not_false, isNon_non, isNon_lst, isNon_tup, isNon_int, isNon_bl, isNon_str, isNon_sq, ty_ii, ty_bi, ty_tt, ty_tl, ty_ti, ty_tn, ty_lt, ty_ll, ty_ib, ty_bb, ni_int, ni_tup, ni_lst, ni_bl, ni_non, List.length_cons, List.length_nil, reduceIte, List.map_cons, List.map_nil, true_and, and_true, Nat.zero_add, Nat.reduceAdd, List.length_map, Nat.zero_le, Int.toNat_natCast]
    by_cases hc : choice = 0
    · rw [if_neg (by simp [hc])]
      have h2 : n = 2 := by rcases hn with h | h; exact absurd (hn1 h) (by omega); exact h
      have hr := refuse2 hXY (hn2 h2)
      exact hK _ ⟨X, Y, _, _, _, .inr hr, by rw [hr, h2]⟩
    · rw [if_pos (by simp [hc])]
      obtain ⟨hlx, hly⟩ := Bool.and_eq_true_iff.mp hXY
      have ins : ∀ (V : List Int) (v : Int) (m : Nat), isLet v = false → (V.take m ++ v :: V.drop m).all isLet = false := fun V v m hv => by
        rw [List.all_append, List.all_cons, hv]
        simp
      have cut : ∀ (V : List Int) (m : Nat) (v : Int), cutD (intsD V) none (some (m : Int)) ++ [D.int v] ++ cutD (intsD V) (some (m : Int)) none = intsD (V.take m ++ v :: V.drop m) := fun V m v => by
        rw [cutD_none_nat, cutD_nat_none]
        simp
      rcases side (cell / 2048) with e | e
      · rw [e]
        refine ⟨by decide, by decide, by decide, _, rfl, ?_⟩
        try simp only [tSeq3, tNx3, tIf3, tRet3, tRetN3, tSet3, tOwn3, tAsg3, tExpr3, tFrz, frzS, tFor3_eq, tLc3_eq, tLc23_eq, tSeq3I_eq, seqK_lst, seqK_tup, seqK_frl, seqK_sq, oTup_lst, oTup_tup, oTup_sq, oList_lst, oList_tup, oList_sq, oLen_lst, oLen_tup, oLen_frl, oLen_sq, flat_sq, tRg1, tRg2, gN3, gT3, gCons3, gNil3, tV3, tC3, tB3, tT3, tIx3, tCh3, tAnd3, tOr3, tNot3, tNil3, tCons3, tTup3, tLst3, tOfL, tCall3, tU3, tUL, tSl3, tNo3, tSome3, tCat3, tRep3, oEq, oNe, oLt_int, oLt_tup, oLe_int, oLe_tup, oGt_int, oGt_tup, oGe_int, oGe_tup, eqD_int, eqD_str, eqD_bl, eqD_non, eqD_tup, eqD_lst, oAdd, oSub, oMul, oDiv, oMod, oPow, oIs, oIsnt, oIn, oNotIn, inD, lookD, oIx_lst, oIx_tup, oIx_frl, oIx_sq, oIx_dT, oIx_dK, getD, oSl, oInt, oSorted, isB, tPut3, tApp3, tDicT, tDicK, tBk3, tCt3, tMin2, tMax2, tNeg3, tIf3E, tAndV3, tOrV3, tNotV3, tIsi, tIndex3, tYes3, tRaise0, tRaise1, tIsE3, tXf3, wipe3, List.set_cons_zero, List.set_cons_succ, List.getElem?_cons_zero, List.getElem?_cons_succ, List.getElem?_nil, Fl.isSt, D.flat, Fl.nb, Fl.item, cond_true, cond_false, Bool.true_or, Bool.or_true, Bool.false_or, Bool.or_false, Bool.and_true, Bool.true_and, Bool.and_false, Bool.false_and, if_true, if_false, ite_true, ite_false, Bool.false_eq_true, Bool.not_true, Bool.not_false, isNon_non, isNon_lst, isNon_tup, isNon_int, isNon_bl, isNon_str, isNon_sq, ty_ii, ty_bi, ty_tt, ty_tl, ty_ti, ty_tn, ty_lt, ty_ll, ty_ib, ty_bb, ni_int, ni_tup, ni_lst, ni_bl, ni_non, List.length_cons, List.length_nil, reduceIte, List.map_cons, List.map_nil, true_and, and_true, Nat.zero_add, Nat.reduceAdd, List.length_map, Nat.zero_le, Int.toNat_natCast]
        refine ⟨by omega, _, rfl, ?_⟩
        try simp only [tSeq3, tNx3, tIf3, tRet3, tRetN3, tSet3, tOwn3, tAsg3, tExpr3, tFrz, frzS, tFor3_eq, tLc3_eq, tLc23_eq, tSeq3I_eq, seqK_lst, seqK_tup, seqK_frl, seqK_sq, oTup_lst, oTup_tup, oTup_sq, oList_lst, oList_tup, oList_sq, oLen_lst, oLen_tup, oLen_frl, oLen_sq, flat_sq, tRg1, tRg2, gN3, gT3, gCons3, gNil3, tV3, tC3, tB3, tT3, tIx3, tCh3, tAnd3, tOr3, tNot3, tNil3, tCons3, tTup3, tLst3, tOfL, tCall3, tU3, tUL, tSl3, tNo3, tSome3, tCat3, tRep3, oEq, oNe, oLt_int, oLt_tup, oLe_int, oLe_tup, oGt_int, oGt_tup, oGe_int, oGe_tup, eqD_int, eqD_str, eqD_bl, eqD_non, eqD_tup, eqD_lst, oAdd, oSub, oMul, oDiv, oMod, oPow, oIs, oIsnt, oIn, oNotIn, inD, lookD, oIx_lst, oIx_tup, oIx_frl, oIx_sq, oIx_dT, oIx_dK, getD, oSl, oInt, oSorted, isB, tPut3, tApp3, tDicT, tDicK, tBk3, tCt3, tMin2, tMax2, tNeg3, tIf3E, tAndV3, tOrV3, tNotV3, tIsi, tIndex3, tYes3, tRaise0, tRaise1, tIsE3, tXf3, wipe3, List.set_cons_zero, List.set_cons_succ, List.getElem?_cons_zero, List.getElem?_cons_succ, List.getElem?_nil, Fl.isSt, D.flat, Fl.nb, Fl.item, cond_true, cond_false, Bool.true_or, Bool.or_true, Bool.false_or, Bool.or_false, Bool.and_true, Bool.true_and, Bool.and_false, Bool.false_and, if_true, if_false, ite_true, ite_false, Bool.false_eq_true, Bool.not_true, Bool.not_false, isNon_non, isNon_lst, isNon_tup, isNon_int, isNon_bl, isNon_str, isNon_sq, ty_ii, ty_bi, ty_tt, ty_tl, ty_ti, ty_tn, ty_lt, ty_ll, ty_ib, ty_bb, ni_int, ni_tup, ni_lst, ni_bl, ni_non, List.length_cons, List.length_nil, reduceIte, List.map_cons, List.map_nil, true_and, and_true, Nat.zero_add, Nat.reduceAdd, List.length_map, Nat.zero_le, Int.toNat_natCast]
        refine ⟨by decide, cell / 7, rfl, fun v hv => ?_⟩
        obtain ⟨m, hm⟩ := Int.eq_ofNat_of_zero_le (Int.emod_nonneg (cell / 4096) (b := (X.length : Int) + 1) (by omega))
        try simp only [tSeq3, tNx3, tIf3, tRet3, tRetN3, tSet3, tOwn3, tAsg3, tExpr3, tFrz, frzS, tFor3_eq, tLc3_eq, tLc23_eq, tSeq3I_eq, seqK_lst, seqK_tup, seqK_frl, seqK_sq, oTup_lst, oTup_tup, oTup_sq, oList_lst, oList_tup, oList_sq, oLen_lst, oLen_tup, oLen_frl, oLen_sq, flat_sq, tRg1, tRg2, gN3, gT3, gCons3, gNil3, tV3, tC3, tB3, tT3, tIx3, tCh3, tAnd3, tOr3, tNot3, tNil3, tCons3, tTup3, tLst3, tOfL, tCall3, tU3, tUL, tSl3, tNo3, tSome3, tCat3, tRep3, oEq, oNe, oLt_int, oLt_tup, oLe_int, oLe_tup, oGt_int, oGt_tup, oGe_int, oGe_tup, eqD_int, eqD_str, eqD_bl, eqD_non, eqD_tup, eqD_lst, oAdd, oSub, oMul, oDiv, oMod, oPow, oIs, oIsnt, oIn, oNotIn, inD, lookD, oIx_lst, oIx_tup, oIx_frl, oIx_sq, oIx_dT, oIx_dK, getD, oSl, oInt, oSorted, isB, tPut3, tApp3, tDicT, tDicK, tBk3, tCt3, tMin2, tMax2, tNeg3, tIf3E, tAndV3, tOrV3, tNotV3, tIsi, tIndex3, tYes3, tRaise0, tRaise1, tIsE3, tXf3, wipe3, List.set_cons_zero, List.set_cons_succ, List.getElem?_cons_zero, List.getElem?_cons_succ, List.getElem?_nil, Fl.isSt, D.flat, Fl.nb, Fl.item, cond_true, cond_false, Bool.true_or, Bool.or_true, Bool.false_or, Bool.or_false, Bool.and_true, Bool.true_and, Bool.and_false, Bool.false_and, if_true, if_false, ite_true, ite_false, Bool.false_eq_true, Bool.not_true, Bool.not_false, isNon_non, isNon_lst, isNon_tup, isNon_int, isNon_bl, isNon_str, isNon_sq, ty_ii, ty_bi, ty_tt, ty_tl, ty_ti, ty_tn, ty_lt, ty_ll, ty_ib, ty_bb, ni_int, ni_tup, ni_lst, ni_bl, ni_non, List.length_cons, List.length_nil, reduceIte, List.map_cons, List.map_nil, true_and, and_true, Nat.zero_add, Nat.reduceAdd, List.length_map, Nat.zero_le, Int.toNat_natCast]
        rw [hm]
        have c1 : (cutD (intsD X) none (some (m : Int))).length ≤ 63 := by rw [cutD_none_nat, List.length_take, List.length_map]; omega
        have c2 : (cutD (intsD X) (some (m : Int)) none).length ≤ 63 := by rw [cutD_nat_none, List.length_drop, List.length_map]; omega
        refine ⟨le_line (by decide), le_line (by omega), _, rfl, ?_⟩
        try simp only [tSeq3, tNx3, tIf3, tRet3, tRetN3, tSet3, tOwn3, tAsg3, tExpr3, tFrz, frzS, tFor3_eq, tLc3_eq, tLc23_eq, tSeq3I_eq, seqK_lst, seqK_tup, seqK_frl, seqK_sq, oTup_lst, oTup_tup, oTup_sq, oList_lst, oList_tup, oList_sq, oLen_lst, oLen_tup, oLen_frl, oLen_sq, flat_sq, tRg1, tRg2, gN3, gT3, gCons3, gNil3, tV3, tC3, tB3, tT3, tIx3, tCh3, tAnd3, tOr3, tNot3, tNil3, tCons3, tTup3, tLst3, tOfL, tCall3, tU3, tUL, tSl3, tNo3, tSome3, tCat3, tRep3, oEq, oNe, oLt_int, oLt_tup, oLe_int, oLe_tup, oGt_int, oGt_tup, oGe_int, oGe_tup, eqD_int, eqD_str, eqD_bl, eqD_non, eqD_tup, eqD_lst, oAdd, oSub, oMul, oDiv, oMod, oPow, oIs, oIsnt, oIn, oNotIn, inD, lookD, oIx_lst, oIx_tup, oIx_frl, oIx_sq, oIx_dT, oIx_dK, getD, oSl, oInt, oSorted, isB, tPut3, tApp3, tDicT, tDicK, tBk3, tCt3, tMin2, tMax2, tNeg3, tIf3E, tAndV3, tOrV3, tNotV3, tIsi, tIndex3, tYes3, tRaise0, tRaise1, tIsE3, tXf3, wipe3, List.set_cons_zero, List.set_cons_succ, List.getElem?_cons_zero, List.getElem?_cons_succ, List.getElem?_nil, Fl.isSt, D.flat, Fl.nb, Fl.item, cond_true, cond_false, Bool.true_or, Bool.or_true, Bool.false_or, Bool.or_false, Bool.and_true, Bool.true_and, Bool.and_false, Bool.false_and, if_true, if_false, ite_true, ite_false, Bool.false_eq_true, Bool.not_true, Bool.not_false, isNon_non, isNon_lst, isNon_tup, isNon_int, isNon_bl, isNon_str, isNon_sq, ty_ii, ty_bi, ty_tt, ty_tl, ty_ti, ty_tn, ty_lt, ty_ll, ty_ib, ty_bb, ni_int, ni_tup, ni_lst, ni_bl, ni_non, List.length_cons, List.length_nil, reduceIte, List.map_cons, List.map_nil, true_and, and_true, Nat.zero_add, Nat.reduceAdd, List.length_map, Nat.zero_le, Int.toNat_natCast]
        refine ⟨le_line (by rw [List.length_append, List.length_cons, List.length_nil]; omega), 0, rfl, le_line (by decide), ?_⟩
        rw [cut]
        have hr : refuse (X.take m ++ v :: X.drop m) Y = 1 := refuse1 (by rw [ins X v m hv]; rfl)
        exact hK _ ⟨_, _, _, _, _, .inl hr, by rw [hr]; rfl⟩
      · rw [e]
        refine ⟨by decide, by decide, by decide, _, rfl, ?_⟩
        try simp only [tSeq3, tNx3, tIf3, tRet3, tRetN3, tSet3, tOwn3, tAsg3, tExpr3, tFrz, frzS, tFor3_eq, tLc3_eq, tLc23_eq, tSeq3I_eq, seqK_lst, seqK_tup, seqK_frl, seqK_sq, oTup_lst, oTup_tup, oTup_sq, oList_lst, oList_tup, oList_sq, oLen_lst, oLen_tup, oLen_frl, oLen_sq, flat_sq, tRg1, tRg2, gN3, gT3, gCons3, gNil3, tV3, tC3, tB3, tT3, tIx3, tCh3, tAnd3, tOr3, tNot3, tNil3, tCons3, tTup3, tLst3, tOfL, tCall3, tU3, tUL, tSl3, tNo3, tSome3, tCat3, tRep3, oEq, oNe, oLt_int, oLt_tup, oLe_int, oLe_tup, oGt_int, oGt_tup, oGe_int, oGe_tup, eqD_int, eqD_str, eqD_bl, eqD_non, eqD_tup, eqD_lst, oAdd, oSub, oMul, oDiv, oMod, oPow, oIs, oIsnt, oIn, oNotIn, inD, lookD, oIx_lst, oIx_tup, oIx_frl, oIx_sq, oIx_dT, oIx_dK, getD, oSl, oInt, oSorted, isB, tPut3, tApp3, tDicT, tDicK, tBk3, tCt3, tMin2, tMax2, tNeg3, tIf3E, tAndV3, tOrV3, tNotV3, tIsi, tIndex3, tYes3, tRaise0, tRaise1, tIsE3, tXf3, wipe3, List.set_cons_zero, List.set_cons_succ, List.getElem?_cons_zero, List.getElem?_cons_succ, List.getElem?_nil, Fl.isSt, D.flat, Fl.nb, Fl.item, cond_true, cond_false, Bool.true_or, Bool.or_true, Bool.false_or, Bool.or_false, Bool.and_true, Bool.true_and, Bool.and_false, Bool.false_and, if_true, if_false, ite_true, ite_false, Bool.false_eq_true, Bool.not_true, Bool.not_false, isNon_non, isNon_lst, isNon_tup, isNon_int, isNon_bl, isNon_str, isNon_sq, ty_ii, ty_bi, ty_tt, ty_tl, ty_ti, ty_tn, ty_lt, ty_ll, ty_ib, ty_bb, ni_int, ni_tup, ni_lst, ni_bl, ni_non, List.length_cons, List.length_nil, reduceIte, List.map_cons, List.map_nil, true_and, and_true, Nat.zero_add, Nat.reduceAdd, List.length_map, Nat.zero_le, Int.toNat_natCast]
        refine ⟨by omega, _, rfl, ?_⟩
        try simp only [tSeq3, tNx3, tIf3, tRet3, tRetN3, tSet3, tOwn3, tAsg3, tExpr3, tFrz, frzS, tFor3_eq, tLc3_eq, tLc23_eq, tSeq3I_eq, seqK_lst, seqK_tup, seqK_frl, seqK_sq, oTup_lst, oTup_tup, oTup_sq, oList_lst, oList_tup, oList_sq, oLen_lst, oLen_tup, oLen_frl, oLen_sq, flat_sq, tRg1, tRg2, gN3, gT3, gCons3, gNil3, tV3, tC3, tB3, tT3, tIx3, tCh3, tAnd3, tOr3, tNot3, tNil3, tCons3, tTup3, tLst3, tOfL, tCall3, tU3, tUL, tSl3, tNo3, tSome3, tCat3, tRep3, oEq, oNe, oLt_int, oLt_tup, oLe_int, oLe_tup, oGt_int, oGt_tup, oGe_int, oGe_tup, eqD_int, eqD_str, eqD_bl, eqD_non, eqD_tup, eqD_lst, oAdd, oSub, oMul, oDiv, oMod, oPow, oIs, oIsnt, oIn, oNotIn, inD, lookD, oIx_lst, oIx_tup, oIx_frl, oIx_sq, oIx_dT, oIx_dK, getD, oSl, oInt, oSorted, isB, tPut3, tApp3, tDicT, tDicK, tBk3, tCt3, tMin2, tMax2, tNeg3, tIf3E, tAndV3, tOrV3, tNotV3, tIsi, tIndex3, tYes3, tRaise0, tRaise1, tIsE3, tXf3, wipe3, List.set_cons_zero, List.set_cons_succ, List.getElem?_cons_zero, List.getElem?_cons_succ, List.getElem?_nil, Fl.isSt, D.flat, Fl.nb, Fl.item, cond_true, cond_false, Bool.true_or, Bool.or_true, Bool.false_or, Bool.or_false, Bool.and_true, Bool.true_and, Bool.and_false, Bool.false_and, if_true, if_false, ite_true, ite_false, Bool.false_eq_true, Bool.not_true, Bool.not_false, isNon_non, isNon_lst, isNon_tup, isNon_int, isNon_bl, isNon_str, isNon_sq, ty_ii, ty_bi, ty_tt, ty_tl, ty_ti, ty_tn, ty_lt, ty_ll, ty_ib, ty_bb, ni_int, ni_tup, ni_lst, ni_bl, ni_non, List.length_cons, List.length_nil, reduceIte, List.map_cons, List.map_nil, true_and, and_true, Nat.zero_add, Nat.reduceAdd, List.length_map, Nat.zero_le, Int.toNat_natCast]
        refine ⟨by decide, cell / 7, rfl, fun v hv => ?_⟩
        obtain ⟨m, hm⟩ := Int.eq_ofNat_of_zero_le (Int.emod_nonneg (cell / 4096) (b := (Y.length : Int) + 1) (by omega))
        try simp only [tSeq3, tNx3, tIf3, tRet3, tRetN3, tSet3, tOwn3, tAsg3, tExpr3, tFrz, frzS, tFor3_eq, tLc3_eq, tLc23_eq, tSeq3I_eq, seqK_lst, seqK_tup, seqK_frl, seqK_sq, oTup_lst, oTup_tup, oTup_sq, oList_lst, oList_tup, oList_sq, oLen_lst, oLen_tup, oLen_frl, oLen_sq, flat_sq, tRg1, tRg2, gN3, gT3, gCons3, gNil3, tV3, tC3, tB3, tT3, tIx3, tCh3, tAnd3, tOr3, tNot3, tNil3, tCons3, tTup3, tLst3, tOfL, tCall3, tU3, tUL, tSl3, tNo3, tSome3, tCat3, tRep3, oEq, oNe, oLt_int, oLt_tup, oLe_int, oLe_tup, oGt_int, oGt_tup, oGe_int, oGe_tup, eqD_int, eqD_str, eqD_bl, eqD_non, eqD_tup, eqD_lst, oAdd, oSub, oMul, oDiv, oMod, oPow, oIs, oIsnt, oIn, oNotIn, inD, lookD, oIx_lst, oIx_tup, oIx_frl, oIx_sq, oIx_dT, oIx_dK, getD, oSl, oInt, oSorted, isB, tPut3, tApp3, tDicT, tDicK, tBk3, tCt3, tMin2, tMax2, tNeg3, tIf3E, tAndV3, tOrV3, tNotV3, tIsi, tIndex3, tYes3, tRaise0, tRaise1, tIsE3, tXf3, wipe3, List.set_cons_zero, List.set_cons_succ, List.getElem?_cons_zero, List.getElem?_cons_succ, List.getElem?_nil, Fl.isSt, D.flat, Fl.nb, Fl.item, cond_true, cond_false, Bool.true_or, Bool.or_true, Bool.false_or, Bool.or_false, Bool.and_true, Bool.true_and, Bool.and_false, Bool.false_and, if_true, if_false, ite_true, ite_false, Bool.false_eq_true, Bool.not_true, Bool.not_false, isNon_non, isNon_lst, isNon_tup, isNon_int, isNon_bl, isNon_str, isNon_sq, ty_ii, ty_bi, ty_tt, ty_tl, ty_ti, ty_tn, ty_lt, ty_ll, ty_ib, ty_bb, ni_int, ni_tup, ni_lst, ni_bl, ni_non, List.length_cons, List.length_nil, reduceIte, List.map_cons, List.map_nil, true_and, and_true, Nat.zero_add, Nat.reduceAdd, List.length_map, Nat.zero_le, Int.toNat_natCast]
        rw [hm]
        have c1 : (cutD (intsD Y) none (some (m : Int))).length ≤ 63 := by rw [cutD_none_nat, List.length_take, List.length_map]; omega
        have c2 : (cutD (intsD Y) (some (m : Int)) none).length ≤ 63 := by rw [cutD_nat_none, List.length_drop, List.length_map]; omega
        refine ⟨le_line (by decide), le_line (by omega), _, rfl, ?_⟩
        try simp only [tSeq3, tNx3, tIf3, tRet3, tRetN3, tSet3, tOwn3, tAsg3, tExpr3, tFrz, frzS, tFor3_eq, tLc3_eq, tLc23_eq, tSeq3I_eq, seqK_lst, seqK_tup, seqK_frl, seqK_sq, oTup_lst, oTup_tup, oTup_sq, oList_lst, oList_tup, oList_sq, oLen_lst, oLen_tup, oLen_frl, oLen_sq, flat_sq, tRg1, tRg2, gN3, gT3, gCons3, gNil3, tV3, tC3, tB3, tT3, tIx3, tCh3, tAnd3, tOr3, tNot3, tNil3, tCons3, tTup3, tLst3, tOfL, tCall3, tU3, tUL, tSl3, tNo3, tSome3, tCat3, tRep3, oEq, oNe, oLt_int, oLt_tup, oLe_int, oLe_tup, oGt_int, oGt_tup, oGe_int, oGe_tup, eqD_int, eqD_str, eqD_bl, eqD_non, eqD_tup, eqD_lst, oAdd, oSub, oMul, oDiv, oMod, oPow, oIs, oIsnt, oIn, oNotIn, inD, lookD, oIx_lst, oIx_tup, oIx_frl, oIx_sq, oIx_dT, oIx_dK, getD, oSl, oInt, oSorted, isB, tPut3, tApp3, tDicT, tDicK, tBk3, tCt3, tMin2, tMax2, tNeg3, tIf3E, tAndV3, tOrV3, tNotV3, tIsi, tIndex3, tYes3, tRaise0, tRaise1, tIsE3, tXf3, wipe3, List.set_cons_zero, List.set_cons_succ, List.getElem?_cons_zero, List.getElem?_cons_succ, List.getElem?_nil, Fl.isSt, D.flat, Fl.nb, Fl.item, cond_true, cond_false, Bool.true_or, Bool.or_true, Bool.false_or, Bool.or_false, Bool.and_true, Bool.true_and, Bool.and_false, Bool.false_and, if_true, if_false, ite_true, ite_false, Bool.false_eq_true, Bool.not_true, Bool.not_false, isNon_non, isNon_lst, isNon_tup, isNon_int, isNon_bl, isNon_str, isNon_sq, ty_ii, ty_bi, ty_tt, ty_tl, ty_ti, ty_tn, ty_lt, ty_ll, ty_ib, ty_bb, ni_int, ni_tup, ni_lst, ni_bl, ni_non, List.length_cons, List.length_nil, reduceIte, List.map_cons, List.map_nil, true_and, and_true, Nat.zero_add, Nat.reduceAdd, List.length_map, Nat.zero_le, Int.toNat_natCast]
        refine ⟨le_line (by rw [List.length_append, List.length_cons, List.length_nil]; omega), 1, rfl, le_line (by decide), ?_⟩
        rw [cut]
        have hr : refuse X (Y.take m ++ v :: Y.drop m) = 1 := refuse1 (by rw [ins Y v m hv, Bool.and_false])
        exact hK _ ⟨_, _, _, _, _, .inl hr, by rw [hr]; rfl⟩
  rintro _ ⟨X, Y, l7, l8, l9, hr, rfl⟩
  try simp only [tSeq3, tNx3, tIf3, tRet3, tRetN3, tSet3, tOwn3, tAsg3, tExpr3, tFrz, frzS, tFor3_eq, tLc3_eq, tLc23_eq, tSeq3I_eq, seqK_lst, seqK_tup, seqK_frl, seqK_sq, oTup_lst, oTup_tup, oTup_sq, oList_lst, oList_tup, oList_sq, oLen_lst, oLen_tup, oLen_frl, oLen_sq, flat_sq, tRg1, tRg2, gN3, gT3, gCons3, gNil3, tV3, tC3, tB3, tT3, tIx3, tCh3, tAnd3, tOr3, tNot3, tNil3, tCons3, tTup3, tLst3, tOfL, tCall3, tU3, tUL, tSl3, tNo3, tSome3, tCat3, tRep3, oEq, oNe, oLt_int, oLt_tup, oLe_int, oLe_tup, oGt_int, oGt_tup, oGe_int, oGe_tup, eqD_int, eqD_str, eqD_bl, eqD_non, eqD_tup, eqD_lst, oAdd, oSub, oMul, oDiv, oMod, oPow, oIs, oIsnt, oIn, oNotIn, inD, lookD, oIx_lst, oIx_tup, oIx_frl, oIx_sq, oIx_dT, oIx_dK, getD, oSl, oInt, oSorted, isB, tPut3, tApp3, tDicT, tDicK, tBk3, tCt3, tMin2, tMax2, tNeg3, tIf3E, tAndV3, tOrV3, tNotV3, tIsi, tIndex3, tYes3, tRaise0, tRaise1, tIsE3, tXf3, wipe3, List.set_cons_zero, List.set_cons_succ, List.getElem?_cons_zero, List.getElem?_cons_succ, List.getElem?_nil, Fl.isSt, D.flat, Fl.nb, Fl.item, cond_true, cond_false, Bool.true_or, Bool.or_true, Bool.false_or, Bool.or_false, Bool.and_true, Bool.true_and, Bool.and_false, Bool.false_and, if_true, if_false, ite_true, ite_false, Bool.false_eq_true, Bool.not_true, Bool.not_false, isNon_non, isNon_lst, isNon_tup, isNon_int, isNon_bl, isNon_str, isNon_sq, ty_ii, ty_bi, ty_tt, ty_tl, ty_ti, ty_tn, ty_lt, ty_ll, ty_ib, ty_bb, ni_int, ni_tup, ni_lst, ni_bl, ni_non, List.length_cons, List.length_nil, reduceIte, List.map_cons, List.map_nil, true_and, and_true, Nat.zero_add, Nat.reduceAdd, List.length_map, Nat.zero_le, Int.toNat_natCast]
  refine ⟨by decide, ?_⟩
  refine forP_rg (fun i st => ∃ (l3 l4 l7 l8 l9 : Sl), st = [.va (.lst (List.map prD ps)), .va (.lst (intsD x)), .va (.lst (intsD y)), l3, l4, .ow [.lst (intsD X), .lst (intsD Y)], .va (dueD (refuse X Y)), l7, l8, l9]) ?_ ?_ ?_
  · exact ⟨_, _, _, _, _, rfl⟩
  · rintro i s' hi ⟨l3, l4, l7, l8, l9, rfl⟩
    try simp only [tSeq3, tNx3, tIf3, tRet3, tRetN3, tSet3, tOwn3, tAsg3, tExpr3, tFrz, frzS, tFor3_eq, tLc3_eq, tLc23_eq, tSeq3I_eq, seqK_lst, seqK_tup, seqK_frl, seqK_sq, oTup_lst, oTup_tup, oTup_sq, oList_lst, oList_tup, oList_sq, oLen_lst, oLen_tup, oLen_frl, oLen_sq, flat_sq, tRg1, tRg2, gN3, gT3, gCons3, gNil3, tV3, tC3, tB3, tT3, tIx3, tCh3, tAnd3, tOr3, tNot3, tNil3, tCons3, tTup3, tLst3, tOfL, tCall3, tU3, tUL, tSl3, tNo3, tSome3, tCat3, tRep3, oEq, oNe, oLt_int, oLt_tup, oLe_int, oLe_tup, oGt_int, oGt_tup, oGe_int, oGe_tup, eqD_int, eqD_str, eqD_bl, eqD_non, eqD_tup, eqD_lst, oAdd, oSub, oMul, oDiv, oMod, oPow, oIs, oIsnt, oIn, oNotIn, inD, lookD, oIx_lst, oIx_tup, oIx_frl, oIx_sq, oIx_dT, oIx_dK, getD, oSl, oInt, oSorted, isB, tPut3, tApp3, tDicT, tDicK, tBk3, tCt3, tMin2, tMax2, tNeg3, tIf3E, tAndV3, tOrV3, tNotV3, tIsi, tIndex3, tYes3, tRaise0, tRaise1, tIsE3, tXf3, wipe3, List.set_cons_zero, List.set_cons_succ, List.getElem?_cons_zero, List.getElem?_cons_succ, List.getElem?_nil, Fl.isSt, D.flat, Fl.nb, Fl.item, cond_true, cond_false, Bool.true_or, Bool.or_true, Bool.false_or, Bool.or_false, Bool.and_true, Bool.true_and, Bool.and_false, Bool.false_and, if_true, if_false, ite_true, ite_false, Bool.false_eq_true, Bool.not_true, Bool.not_false, isNon_non, isNon_lst, isNon_tup, isNon_int, isNon_bl, isNon_str, isNon_sq, ty_ii, ty_bi, ty_tt, ty_tl, ty_ti, ty_tn, ty_lt, ty_ll, ty_ib, ty_bb, ni_int, ni_tup, ni_lst, ni_bl, ni_non, List.length_cons, List.length_nil, reduceIte, List.map_cons, List.map_nil, true_and, and_true, Nat.zero_add, Nat.reduceAdd, List.length_map, Nat.zero_le, Int.toNat_natCast]
    refine ⟨_, rfl, ?_⟩
    try simp only [tSeq3, tNx3, tIf3, tRet3, tRetN3, tSet3, tOwn3, tAsg3, tExpr3, tFrz, frzS, tFor3_eq, tLc3_eq, tLc23_eq, tSeq3I_eq, seqK_lst, seqK_tup, seqK_frl, seqK_sq, oTup_lst, oTup_tup, oTup_sq, oList_lst, oList_tup, oList_sq, oLen_lst, oLen_tup, oLen_frl, oLen_sq, flat_sq, tRg1, tRg2, gN3, gT3, gCons3, gNil3, tV3, tC3, tB3, tT3, tIx3, tCh3, tAnd3, tOr3, tNot3, tNil3, tCons3, tTup3, tLst3, tOfL, tCall3, tU3, tUL, tSl3, tNo3, tSome3, tCat3, tRep3, oEq, oNe, oLt_int, oLt_tup, oLe_int, oLe_tup, oGt_int, oGt_tup, oGe_int, oGe_tup, eqD_int, eqD_str, eqD_bl, eqD_non, eqD_tup, eqD_lst, oAdd, oSub, oMul, oDiv, oMod, oPow, oIs, oIsnt, oIn, oNotIn, inD, lookD, oIx_lst, oIx_tup, oIx_frl, oIx_sq, oIx_dT, oIx_dK, getD, oSl, oInt, oSorted, isB, tPut3, tApp3, tDicT, tDicK, tBk3, tCt3, tMin2, tMax2, tNeg3, tIf3E, tAndV3, tOrV3, tNotV3, tIsi, tIndex3, tYes3, tRaise0, tRaise1, tIsE3, tXf3, wipe3, List.set_cons_zero, List.set_cons_succ, List.getElem?_cons_zero, List.getElem?_cons_succ, List.getElem?_nil, Fl.isSt, D.flat, Fl.nb, Fl.item, cond_true, cond_false, Bool.true_or, Bool.or_true, Bool.false_or, Bool.or_false, Bool.and_true, Bool.true_and, Bool.and_false, Bool.false_and, if_true, if_false, ite_true, ite_false, Bool.false_eq_true, Bool.not_true, Bool.not_false, isNon_non, isNon_lst, isNon_tup, isNon_int, isNon_bl, isNon_str, isNon_sq, ty_ii, ty_bi, ty_tt, ty_tl, ty_ti, ty_tn, ty_lt, ty_ll, ty_ib, ty_bb, ni_int, ni_tup, ni_lst, ni_bl, ni_non, List.length_cons, List.length_nil, reduceIte, List.map_cons, List.map_nil, true_and, and_true, Nat.zero_add, Nat.reduceAdd, List.length_map, Nat.zero_le, Int.toNat_natCast]
    refine ⟨_, rfl, ?_⟩
    try simp only [tSeq3, tNx3, tIf3, tRet3, tRetN3, tSet3, tOwn3, tAsg3, tExpr3, tFrz, frzS, tFor3_eq, tLc3_eq, tLc23_eq, tSeq3I_eq, seqK_lst, seqK_tup, seqK_frl, seqK_sq, oTup_lst, oTup_tup, oTup_sq, oList_lst, oList_tup, oList_sq, oLen_lst, oLen_tup, oLen_frl, oLen_sq, flat_sq, tRg1, tRg2, gN3, gT3, gCons3, gNil3, tV3, tC3, tB3, tT3, tIx3, tCh3, tAnd3, tOr3, tNot3, tNil3, tCons3, tTup3, tLst3, tOfL, tCall3, tU3, tUL, tSl3, tNo3, tSome3, tCat3, tRep3, oEq, oNe, oLt_int, oLt_tup, oLe_int, oLe_tup, oGt_int, oGt_tup, oGe_int, oGe_tup, eqD_int, eqD_str, eqD_bl, eqD_non, eqD_tup, eqD_lst, oAdd, oSub, oMul, oDiv, oMod, oPow, oIs, oIsnt, oIn, oNotIn, inD, lookD, oIx_lst, oIx_tup, oIx_frl, oIx_sq, oIx_dT, oIx_dK, getD, oSl, oInt, oSorted, isB, tPut3, tApp3, tDicT, tDicK, tBk3, tCt3, tMin2, tMax2, tNeg3, tIf3E, tAndV3, tOrV3, tNotV3, tIsi, tIndex3, tYes3, tRaise0, tRaise1, tIsE3, tXf3, wipe3, List.set_cons_zero, List.set_cons_succ, List.getElem?_cons_zero, List.getElem?_cons_succ, List.getElem?_nil, Fl.isSt, D.flat, Fl.nb, Fl.item, cond_true, cond_false, Bool.true_or, Bool.or_true, Bool.false_or, Bool.or_false, Bool.and_true, Bool.true_and, Bool.and_false, Bool.false_and, if_true, if_false, ite_true, ite_false, Bool.false_eq_true, Bool.not_true, Bool.not_false, isNon_non, isNon_lst, isNon_tup, isNon_int, isNon_bl, isNon_str, isNon_sq, ty_ii, ty_bi, ty_tt, ty_tl, ty_ti, ty_tn, ty_lt, ty_ll, ty_ib, ty_bb, ni_int, ni_tup, ni_lst, ni_bl, ni_non, List.length_cons, List.length_nil, reduceIte, List.map_cons, List.map_nil, true_and, and_true, Nat.zero_add, Nat.reduceAdd, List.length_map, Nat.zero_le, Int.toNat_natCast]
    refine ⟨i, ps, X, Y, by rw [Int.zero_add], hp, hr, ?_⟩
    have e : eqG (dueD (refuse X Y)) (dueD (refuse X Y)) = eqG (dueD (refuse X Y)) (dueD (refuse X Y)) := rfl
    rcases hr with hr | hr
    · rw [hr]
      try simp only [tSeq3, tNx3, tIf3, tRet3, tRetN3, tSet3, tOwn3, tAsg3, tExpr3, tFrz, frzS, tFor3_eq, tLc3_eq, tLc23_eq, tSeq3I_eq, seqK_lst, seqK_tup, seqK_frl, seqK_sq, oTup_lst, oTup_tup, oTup_sq, oList_lst, oList_tup, oList_sq, oLen_lst, oLen_tup, oLen_frl, oLen_sq, flat_sq, tRg1, tRg2, gN3, gT3, gCons3, gNil3, tV3, tC3, tB3, tT3, tIx3, tCh3, tAnd3, tOr3, tNot3, tNil3, tCons3, tTup3, tLst3, tOfL, tCall3, tU3, tUL, tSl3, tNo3, tSome3, tCat3, tRep3, oEq, oNe, oLt_int, oLt_tup, oLe_int, oLe_tup, oGt_int, oGt_tup, oGe_int, oGe_tup, eqD_int, eqD_str, eqD_bl, eqD_non, eqD_tup, eqD_lst, oAdd, oSub, oMul, oDiv, oMod, oPow, oIs, oIsnt, oIn, oNotIn, inD, lookD, oIx_lst, oIx_tup, oIx_frl, oIx_sq, oIx_dT, oIx_dK, getD, oSl, oInt, oSorted, isB, tPut3, tApp3, tDicT, tDicK, tBk3, tCt3, tMin2, tMax2, tNeg3, tIf3E, tAndV3, tOrV3, tNotV3, tIsi, tIndex3, tYes3, tRaise0, tRaise1, tIsE3, tXf3, wipe3, List.set_cons_zero, List.set_cons_succ, List.getElem?_cons_zero, List.getElem?_cons_succ, List.getElem?_nil, Fl.isSt, D.flat, Fl.nb, Fl.item, cond_true, cond_false, Bool.true_or, Bool.or_true, Bool.false_or, Bool.or_false, Bool.and_true, Bool.true_and, Bool.and_false, Bool.false_and, if_true, if_false, ite_true, ite_false, Bool.false_eq_true, Bool.not_true, Bool.not_false, isNon_non, isNon_lst, isNon_tup, isNon_int, isNon_bl, isNon_str, isNon_sq, ty_ii, ty_bi, ty_tt, ty_tl, ty_ti, ty_tn, ty_lt, ty_ll, ty_ib, ty_bb, ni_int, ni_tup, ni_lst, ni_bl, ni_non, List.length_cons, List.length_nil, reduceIte, List.map_cons, List.map_nil, true_and, and_true, Nat.zero_add, Nat.reduceAdd, List.length_map, Nat.zero_le, Int.toNat_natCast]
      rw [show dueD 1 = .tup [.str "bad log", .int 0] from rfl]
      try simp only [tSeq3, tNx3, tIf3, tRet3, tRetN3, tSet3, tOwn3, tAsg3, tExpr3, tFrz, frzS, tFor3_eq, tLc3_eq, tLc23_eq, tSeq3I_eq, seqK_lst, seqK_tup, seqK_frl, seqK_sq, oTup_lst, oTup_tup, oTup_sq, oList_lst, oList_tup, oList_sq, oLen_lst, oLen_tup, oLen_frl, oLen_sq, flat_sq, tRg1, tRg2, gN3, gT3, gCons3, gNil3, tV3, tC3, tB3, tT3, tIx3, tCh3, tAnd3, tOr3, tNot3, tNil3, tCons3, tTup3, tLst3, tOfL, tCall3, tU3, tUL, tSl3, tNo3, tSome3, tCat3, tRep3, oEq, oNe, oLt_int, oLt_tup, oLe_int, oLe_tup, oGt_int, oGt_tup, oGe_int, oGe_tup, eqD_int, eqD_str, eqD_bl, eqD_non, eqD_tup, eqD_lst, oAdd, oSub, oMul, oDiv, oMod, oPow, oIs, oIsnt, oIn, oNotIn, inD, lookD, oIx_lst, oIx_tup, oIx_frl, oIx_sq, oIx_dT, oIx_dK, getD, oSl, oInt, oSorted, isB, tPut3, tApp3, tDicT, tDicK, tBk3, tCt3, tMin2, tMax2, tNeg3, tIf3E, tAndV3, tOrV3, tNotV3, tIsi, tIndex3, tYes3, tRaise0, tRaise1, tIsE3, tXf3, wipe3, List.set_cons_zero, List.set_cons_succ, List.getElem?_cons_zero, List.getElem?_cons_succ, List.getElem?_nil, Fl.isSt, D.flat, Fl.nb, Fl.item, cond_true, cond_false, Bool.true_or, Bool.or_true, Bool.false_or, Bool.or_false, Bool.and_true, Bool.true_and, Bool.and_false, Bool.false_and, if_true, if_false, ite_true, ite_false, Bool.false_eq_true, Bool.not_true, Bool.not_false, isNon_non, isNon_lst, isNon_tup, isNon_int, isNon_bl, isNon_str, isNon_sq, ty_ii, ty_bi, ty_tt, ty_tl, ty_ti, ty_tn, ty_lt, ty_ll, ty_ib, ty_bb, ni_int, ni_tup, ni_lst, ni_bl, ni_non, List.length_cons, List.length_nil, reduceIte, List.map_cons, List.map_nil, true_and, and_true, Nat.zero_add, Nat.reduceAdd, List.length_map, Nat.zero_le, Int.toNat_natCast]
      refine eqG_of (α := Str × Int) (x := ("bad log", 0)) (y := ("bad log", 0)) ?_
      rw [if_neg (by simp)]
      exact ⟨_, _, _, _, _, rfl⟩
    · rw [hr]
      try simp only [tSeq3, tNx3, tIf3, tRet3, tRetN3, tSet3, tOwn3, tAsg3, tExpr3, tFrz, frzS, tFor3_eq, tLc3_eq, tLc23_eq, tSeq3I_eq, seqK_lst, seqK_tup, seqK_frl, seqK_sq, oTup_lst, oTup_tup, oTup_sq, oList_lst, oList_tup, oList_sq, oLen_lst, oLen_tup, oLen_frl, oLen_sq, flat_sq, tRg1, tRg2, gN3, gT3, gCons3, gNil3, tV3, tC3, tB3, tT3, tIx3, tCh3, tAnd3, tOr3, tNot3, tNil3, tCons3, tTup3, tLst3, tOfL, tCall3, tU3, tUL, tSl3, tNo3, tSome3, tCat3, tRep3, oEq, oNe, oLt_int, oLt_tup, oLe_int, oLe_tup, oGt_int, oGt_tup, oGe_int, oGe_tup, eqD_int, eqD_str, eqD_bl, eqD_non, eqD_tup, eqD_lst, oAdd, oSub, oMul, oDiv, oMod, oPow, oIs, oIsnt, oIn, oNotIn, inD, lookD, oIx_lst, oIx_tup, oIx_frl, oIx_sq, oIx_dT, oIx_dK, getD, oSl, oInt, oSorted, isB, tPut3, tApp3, tDicT, tDicK, tBk3, tCt3, tMin2, tMax2, tNeg3, tIf3E, tAndV3, tOrV3, tNotV3, tIsi, tIndex3, tYes3, tRaise0, tRaise1, tIsE3, tXf3, wipe3, List.set_cons_zero, List.set_cons_succ, List.getElem?_cons_zero, List.getElem?_cons_succ, List.getElem?_nil, Fl.isSt, D.flat, Fl.nb, Fl.item, cond_true, cond_false, Bool.true_or, Bool.or_true, Bool.false_or, Bool.or_false, Bool.and_true, Bool.true_and, Bool.and_false, Bool.false_and, if_true, if_false, ite_true, ite_false, Bool.false_eq_true, Bool.not_true, Bool.not_false, isNon_non, isNon_lst, isNon_tup, isNon_int, isNon_bl, isNon_str, isNon_sq, ty_ii, ty_bi, ty_tt, ty_tl, ty_ti, ty_tn, ty_lt, ty_ll, ty_ib, ty_bb, ni_int, ni_tup, ni_lst, ni_bl, ni_non, List.length_cons, List.length_nil, reduceIte, List.map_cons, List.map_nil, true_and, and_true, Nat.zero_add, Nat.reduceAdd, List.length_map, Nat.zero_le, Int.toNat_natCast]
      rw [show dueD 2 = .tup [.str "too many", .int 60] from rfl]
      try simp only [tSeq3, tNx3, tIf3, tRet3, tRetN3, tSet3, tOwn3, tAsg3, tExpr3, tFrz, frzS, tFor3_eq, tLc3_eq, tLc23_eq, tSeq3I_eq, seqK_lst, seqK_tup, seqK_frl, seqK_sq, oTup_lst, oTup_tup, oTup_sq, oList_lst, oList_tup, oList_sq, oLen_lst, oLen_tup, oLen_frl, oLen_sq, flat_sq, tRg1, tRg2, gN3, gT3, gCons3, gNil3, tV3, tC3, tB3, tT3, tIx3, tCh3, tAnd3, tOr3, tNot3, tNil3, tCons3, tTup3, tLst3, tOfL, tCall3, tU3, tUL, tSl3, tNo3, tSome3, tCat3, tRep3, oEq, oNe, oLt_int, oLt_tup, oLe_int, oLe_tup, oGt_int, oGt_tup, oGe_int, oGe_tup, eqD_int, eqD_str, eqD_bl, eqD_non, eqD_tup, eqD_lst, oAdd, oSub, oMul, oDiv, oMod, oPow, oIs, oIsnt, oIn, oNotIn, inD, lookD, oIx_lst, oIx_tup, oIx_frl, oIx_sq, oIx_dT, oIx_dK, getD, oSl, oInt, oSorted, isB, tPut3, tApp3, tDicT, tDicK, tBk3, tCt3, tMin2, tMax2, tNeg3, tIf3E, tAndV3, tOrV3, tNotV3, tIsi, tIndex3, tYes3, tRaise0, tRaise1, tIsE3, tXf3, wipe3, List.set_cons_zero, List.set_cons_succ, List.getElem?_cons_zero, List.getElem?_cons_succ, List.getElem?_nil, Fl.isSt, D.flat, Fl.nb, Fl.item, cond_true, cond_false, Bool.true_or, Bool.or_true, Bool.false_or, Bool.or_false, Bool.and_true, Bool.true_and, Bool.and_false, Bool.false_and, if_true, if_false, ite_true, ite_false, Bool.false_eq_true, Bool.not_true, Bool.not_false, isNon_non, isNon_lst, isNon_tup, isNon_int, isNon_bl, isNon_str, isNon_sq, ty_ii, ty_bi, ty_tt, ty_tl, ty_ti, ty_tn, ty_lt, ty_ll, ty_ib, ty_bb, ni_int, ni_tup, ni_lst, ni_bl, ni_non, List.length_cons, List.length_nil, reduceIte, List.map_cons, List.map_nil, true_and, and_true, Nat.zero_add, Nat.reduceAdd, List.length_map, Nat.zero_le, Int.toNat_natCast]
      refine eqG_of (α := Str × Int) (x := ("too many", 60)) (y := ("too many", 60)) ?_
      rw [if_neg (by simp)]
      exact ⟨_, _, _, _, _, rfl⟩
  · rintro s' ⟨l3, l4, l7, l8, l9, rfl⟩
    try simp only [tSeq3, tNx3, tIf3, tRet3, tRetN3, tSet3, tOwn3, tAsg3, tExpr3, tFrz, frzS, tFor3_eq, tLc3_eq, tLc23_eq, tSeq3I_eq, seqK_lst, seqK_tup, seqK_frl, seqK_sq, oTup_lst, oTup_tup, oTup_sq, oList_lst, oList_tup, oList_sq, oLen_lst, oLen_tup, oLen_frl, oLen_sq, flat_sq, tRg1, tRg2, gN3, gT3, gCons3, gNil3, tV3, tC3, tB3, tT3, tIx3, tCh3, tAnd3, tOr3, tNot3, tNil3, tCons3, tTup3, tLst3, tOfL, tCall3, tU3, tUL, tSl3, tNo3, tSome3, tCat3, tRep3, oEq, oNe, oLt_int, oLt_tup, oLe_int, oLe_tup, oGt_int, oGt_tup, oGe_int, oGe_tup, eqD_int, eqD_str, eqD_bl, eqD_non, eqD_tup, eqD_lst, oAdd, oSub, oMul, oDiv, oMod, oPow, oIs, oIsnt, oIn, oNotIn, inD, lookD, oIx_lst, oIx_tup, oIx_frl, oIx_sq, oIx_dT, oIx_dK, getD, oSl, oInt, oSorted, isB, tPut3, tApp3, tDicT, tDicK, tBk3, tCt3, tMin2, tMax2, tNeg3, tIf3E, tAndV3, tOrV3, tNotV3, tIsi, tIndex3, tYes3, tRaise0, tRaise1, tIsE3, tXf3, wipe3, List.set_cons_zero, List.set_cons_succ, List.getElem?_cons_zero, List.getElem?_cons_succ, List.getElem?_nil, Fl.isSt, D.flat, Fl.nb, Fl.item, cond_true, cond_false, Bool.true_or, Bool.or_true, Bool.false_or, Bool.or_false, Bool.and_true, Bool.true_and, Bool.and_false, Bool.false_and, if_true, if_false, ite_true, ite_false, Bool.false_eq_true, Bool.not_true, Bool.not_false, isNon_non, isNon_lst, isNon_tup, isNon_int, isNon_bl, isNon_str, isNon_sq, ty_ii, ty_bi, ty_tt, ty_tl, ty_ti, ty_tn, ty_lt, ty_ll, ty_ib, ty_bb, ni_int, ni_tup, ni_lst, ni_bl, ni_non, List.length_cons, List.length_nil, reduceIte, List.map_cons, List.map_nil, true_and, and_true, Nat.zero_add, Nat.reduceAdd, List.length_map, Nat.zero_le, Int.toNat_natCast]
    exact k
end K53

namespace K53
open PySem PySem.Spec L2 PySem.W L3
open PyProof.Rows hiding St
open Tr
theorem refuse00 {x y : List Int} (h1 : x.all isLet = true) (h2 : y.all isLet = true) (l1 : x.length ≤ 60) (l2 : y.length ≤ 60) : refuse x y = 0 := by
  unfold refuse
  rw [h1, h2, if_neg (by decide), if_pos ⟨l1, l2⟩]
theorem nat_of {i : Int} (h : 0 ≤ i) : ∃ n : Nat, i = n := Int.eq_ofNat_of_zero_le h
theorem all_of {x y : List Int} (hx : x.all isLet = true) (h : ∀ c ∈ y, c ∈ x) : y.all isLet = true := List.all_eq_true.mpr fun c hc => List.all_eq_true.mp hx c (h c hc)
/-! law: 0 script, 1 shape, 2 pairs, 3 first, 4 other, 5 draws, 6 table, 7 second, 8 start, 9 choice, 10 free, 11 passed, 12 draw, 13 pair -/
abbrev s_law : Stmt := topS 40
theorem sc_law : FnScope ["script", "shape", "pairs", "first", "other", "draws", "table", "second", "start", "choice", "free", "passed", "draw", "pair"] ["script"] (defScope s_law) := ⟨rfl, rfl, rfl, by decide +kernel, rfl, by decide +kernel, by decide +kernel⟩
def fs_law (ex : Str → Addr) : FS := fun as q _ => ∃ cs : List Int, as = [.frl (intsD cs)] ∧ q (.bl true)
theorem fn_law {P : Program} {w : World} {K : PySem.W.Frag} {mg : Str → Option Value} {base : Heap} {ex : Str → Addr} {f : Addr} {fd : FuncData} (T : Tx P w K mg base ex) (C__law_cell : Callee P w K mg base "_law_cell" 1 2 (fs__law_cell ex)) (C__law_free : Callee P w K mg base "_law_free" 2 2 (fs__law_free ex)) (C__law_letters : Callee P w K mg base "_law_letters" 2 3 (fs__law_letters ex)) (C__law_draws : Callee P w K mg base "_law_draws" 1 3 (fs__law_draws ex)) (C__law_table : Callee P w K mg base "_law_table" 1 1 (fs__law_table ex)) (C__law_second : Callee P w K mg base "_law_second" 4 5 (fs__law_second ex)) (C__law_beginning : Callee P w K mg base "_law_beginning" 3 3 (fs__law_beginning ex)) (C__law_same_row : Callee P w K mg base "_law_same_row" 2 2 (fs__law_same_row ex)) (C_remainder : Callee P w K mg base "remainder" 4 3 (fs_remainder ex)) (C__law_behind : Callee P w K mg base "_law_behind" 3 3 (fs__law_behind ex)) (C__law_answers_meet : Callee P w K mg base "_law_answers_meet" 5 4 (fs__law_answers_meet ex)) (C__law_refused : Callee P w K mg base "_law_refused" 6 5 (fs__law_refused ex)) (F : Fun K "law" "law" s_law f fd) : FnOk P w K mg base (L2.CX P w) 7 f fd ["script"] (spOf 1 (fs_law ex)) := by
  refine fun3 (fs_law ex) F sc_law ⟨_, fun cdv A outer s H E hr tk hp =>
      (ss3cons (s3set (i := 1) sc_law.nd rfl (by first | exact .inl rfl | exact .inr rfl) (p3callC C__law_cell hr (by decide) tk rfl (a3cons (p3v 0) (a3cons p3int a3nil))))
      (ss3cons (s3set (i := 2) sc_law.nd rfl (by first | exact .inl rfl | exact .inr rfl) (p3callC C__law_free hr (by decide) tk rfl (a3cons (p3callC C__law_cell hr (by decide) tk rfl (a3cons (p3v 0) (a3cons p3int a3nil))) (a3cons (p3op op3mod (p3t1 c3int rfl T.b_int bt_int (p3v 1)) p3int) a3nil))))
      (ss3cons (s3set (i := 3) sc_law.nd rfl (by first | exact .inl rfl | exact .inr rfl) (p3callC C__law_letters hr (by decide) tk rfl (a3cons (p3callC C__law_cell hr (by decide) tk rfl (a3cons (p3v 0) (a3cons p3int a3nil))) (a3cons (p3callC C__law_cell hr (by decide) tk rfl (a3cons (p3v 0) (a3cons p3int a3nil))) (a3cons (p3op op3mod (p3t1 c3int rfl T.b_int bt_int (p3op op3div (p3v 1) p3int)) p3int) a3nil)))))
      (ss3cons (s3set (i := 4) sc_law.nd rfl (by first | exact .inl rfl | exact .inr rfl) (p3callC C__law_letters hr (by decide) tk rfl (a3cons (p3callC C__law_cell hr (by decide) tk rfl (a3cons (p3v 0) (a3cons p3int a3nil))) (a3cons (p3callC C__law_cell hr (by decide) tk rfl (a3cons (p3v 0) (a3cons p3int a3nil))) (a3cons p3int a3nil)))))
      (ss3cons (s3set (i := 5) sc_law.nd rfl (by first | exact .inl rfl | exact .inr rfl) (p3callC C__law_draws hr (by decide) tk rfl (a3cons (p3callC C__law_cell hr (by decide) tk rfl (a3cons (p3v 0) (a3cons p3int a3nil))) (a3cons p3int (a3cons p3int a3nil)))))
      (ss3cons (s3set (i := 6) sc_law.nd rfl (by first | exact .inl rfl | exact .inr rfl) (p3callC C__law_table hr (by decide) tk rfl (a3cons (p3v 2) a3nil)))
      (ss3cons (s3set (i := 7) sc_law.nd rfl (by first | exact .inl rfl | exact .inr rfl) (p3callC C__law_second hr (by decide) tk rfl (a3cons (p3v 6) (a3cons (p3v 3) (a3cons (p3op op3mod (p3t1 c3int rfl T.b_int bt_int (p3callC C__law_cell hr (by decide) tk rfl (a3cons (p3v 0) (a3cons p3int a3nil)))) p3int) (a3cons (p3v 5) (a3cons (p3v 4) a3nil)))))))
      (ss3cons (s3if (t3cmp (op3eq (deep_of hr)) (p3op op3mod (p3t1 c3int rfl T.b_int bt_int (p3op op3div (p3v 1) p3int)) p3int) p3int)
        (ss3cons (s3setLc (i := 3) rfl sc_law.nd rfl rfl (sw_true rfl rfl rfl (by decide +kernel)) (blkOk_by (N := ["script", "shape", "pairs", "first", "other", "draws", "table", "second", "start", "choice", "free", "passed", "draw", "pair"]) (sc := defScope s_law) (own := [("draw", 12)]) (by decide +kernel)) (i3seq (p3callC C__law_draws hr (by decide) tk rfl (a3cons (p3callC C__law_cell hr (by decide) tk rfl (a3cons (p3v 0) (a3cons p3int a3nil))) (a3cons p3int (a3cons (p3op op3add p3int (p3op op3mod (p3t1 c3int rfl T.b_int bt_int (p3op op3div (p3v 1) p3int)) p3int)) a3nil))))) (by decide) (fun _ _ _ _ _ => (g3name (i := 12) sc_law.nd rfl (by first | exact .inl rfl | exact .inr rfl))) (fun _ _ _ _ _ => ts3nil) (fun _ _ _ _ _ => (p3op op3mod (p3t1 c3int rfl T.b_int bt_int (p3v 12)) p3int)))
        (ss3cons (s3setLc (i := 7) rfl sc_law.nd rfl rfl (sw_true rfl rfl rfl (by decide +kernel)) (blkOk_by (N := ["script", "shape", "pairs", "first", "other", "draws", "table", "second", "start", "choice", "free", "passed", "draw", "pair"]) (sc := defScope s_law) (own := [("draw", 12)]) (by decide +kernel)) (i3seq (p3callC C__law_draws hr (by decide) tk rfl (a3cons (p3callC C__law_cell hr (by decide) tk rfl (a3cons (p3v 0) (a3cons p3int a3nil))) (a3cons p3int (a3cons (p3op op3add p3int (p3op op3mod (p3t1 c3int rfl T.b_int bt_int (p3op op3div (p3v 1) p3int)) p3int)) a3nil))))) (by decide) (fun _ _ _ _ _ => (g3name (i := 12) sc_law.nd rfl (by first | exact .inl rfl | exact .inr rfl))) (fun _ _ _ _ _ => ts3nil) (fun _ _ _ _ _ => (p3op op3add p3int (p3op op3mod (p3t1 c3int rfl T.b_int bt_int (p3v 12)) p3int))))
        (ss3cons (s3set (i := 2) sc_law.nd rfl (by first | exact .inl rfl | exact .inr rfl) (p3op op3add (PL3.val (l3lc rfl sc_law.nd (blkOk_by (N := ["script", "shape", "pairs", "first", "other", "draws", "table", "second", "start", "choice", "free", "passed", "draw", "pair"]) (sc := defScope s_law) (own := [("pair", 13)]) (by decide +kernel)) (i3seq (p3v 2)) (by decide) (fun _ _ _ _ _ => (g3name (i := 13) sc_law.nd rfl (by first | exact .inl rfl | exact .inr rfl))) (fun _ _ _ _ _ => (ts3one (PW3.t (w3or (t3cmp (op3gt (deep_of hr)) (p3ix (deep_of hr) (p3v 13) p3int) p3int) (w3or (t3cmp (op3lt (deep_of hr)) (p3ix (deep_of hr) (p3v 13) p3int) p3int) (w3or1 (t3cmp (op3gt (deep_of hr)) (p3ix (deep_of hr) (p3v 13) p3int) p3int))))))) (fun _ _ _ _ _ => (p3v 13)))) (PL3.val (l3lst (a3cons (p3tup (a3cons p3int (a3cons p3int a3nil))) (a3cons (p3tup (a3cons p3int (a3cons p3int a3nil))) (a3cons (p3tup (a3cons p3int (a3cons p3int a3nil))) (a3cons (p3tup (a3cons p3int (a3cons p3int a3nil))) a3nil))))))))
        (ss3one (s3set (i := 6) sc_law.nd rfl (by first | exact .inl rfl | exact .inr rfl) (p3callC C__law_table hr (by decide) tk rfl (a3cons (p3v 2) a3nil)))))))
        ss3nil)
      (ss3cons (s3set (i := 8) sc_law.nd rfl (by first | exact .inl rfl | exact .inr rfl) (p3callC C__law_beginning hr (by decide) tk rfl (a3cons (p3v 6) (a3cons (p3sl (p3v 3) o3none (o3some p3int)) (a3cons (p3v 5) a3nil)))))
      (ss3cons (s3set (i := 9) sc_law.nd rfl (by first | exact .inl rfl | exact .inr rfl) (p3op op3mod (p3t1 c3int rfl T.b_int bt_int (p3op op3div (p3callC C__law_cell hr (by decide) tk rfl (a3cons (p3v 0) (a3cons p3int a3nil))) p3int)) p3int))
      (ss3cons (s3if (t3cmp (op3eq (deep_of hr)) (p3v 9) p3int)
        (ss3one (s3set (i := 8) sc_law.nd rfl (by first | exact .inl rfl | exact .inr rfl) (p3op op3add (p3v 8) (PL3.val (l3lst (a3cons (p3op op3mod (p3t1 c3int rfl T.b_int bt_int (p3ix (deep_of hr) (p3v 5) p3int)) p3int) a3nil))))))
        ss3nil)
      (ss3cons (s3if (t3cmp (op3eq (deep_of hr)) (p3v 9) p3int)
        (ss3one (s3set (i := 8) sc_law.nd rfl (by first | exact .inl rfl | exact .inr rfl) (PL3.val (l3t1 c3list rfl T.b_list bt_list (p3v 7)))))
        ss3nil)
      (ss3cons (s3if (t3cmp (op3eq (deep_of hr)) (p3v 9) p3int)
        (ss3one (s3set (i := 8) sc_law.nd rfl (by first | exact .inl rfl | exact .inr rfl) (PL3.val (l3t1 c3list rfl T.b_list bt_list (p3v 3)))))
        ss3nil)
      (ss3cons (s3set (i := 10) sc_law.nd rfl (by first | exact .inl rfl | exact .inr rfl) (PL3.val (l3t1 c3list rfl T.b_list bt_list (p3v 2))))
      (ss3cons (s3set (i := 11) sc_law.nd rfl (by first | exact .inl rfl | exact .inr rfl) (PL3.val (l3lst (a3cons (PL3.val (l3t1 c3list rfl T.b_list bt_list (p3v 8))) (a3cons (PL3.val (l3t1 c3list rfl T.b_list bt_list (p3v 3))) (a3cons (PL3.val (l3t1 c3list rfl T.b_list bt_list (p3v 7))) a3nil))))))
      (ss3cons (s3if (t3not (t3val (p3callC C__law_same_row hr (by decide) tk rfl (a3cons (p3callC C_remainder hr (by decide) tk rfl (a3cons (p3v 10) (a3cons (p3ix (deep_of hr) (p3v 11) p3int) (a3cons (p3ix (deep_of hr) (p3v 11) p3int) a3nil)))) (a3cons (p3callC C__law_behind hr (by decide) tk rfl (a3cons (p3v 6) (a3cons (p3v 8) (a3cons (p3v 3) a3nil)))) a3nil)))))
        (ss3one (s3ret p3bl))
        ss3nil)
      (ss3cons (s3if (t3not (t3val (p3callC C__law_answers_meet hr (by decide) tk rfl (a3cons (p3v 6) (a3cons (p3v 10) (a3cons (p3ix (deep_of hr) (p3v 11) p3int) (a3cons (p3ix (deep_of hr) (p3v 11) p3int) a3nil)))))))
        (ss3one (s3ret p3bl))
        ss3nil)
      (ss3cons (s3if (PW3.t (w3or (t3cmp (op3ne (deep_of hr)) (p3v 10) (p3v 2)) (w3or1 (t3cmp (op3ne (deep_of hr)) (p3v 11) (PL3.val (l3lst (a3cons (p3v 8) (a3cons (p3v 3) (a3cons (p3v 7) a3nil)))))))))
        (ss3one (s3ret p3bl))
        ss3nil)
      (ss3cons (s3if (t3not (t3val (p3callC C__law_same_row hr (by decide) tk rfl (a3cons (p3callC C_remainder hr (by decide) tk rfl (a3cons (p3t1 c3tup rfl T.b_tuple bt_tuple (p3v 2)) (a3cons (p3t1 c3tup rfl T.b_tuple bt_tuple (p3v 8)) (a3cons (p3t1 c3tup rfl T.b_tuple bt_tuple (p3v 3)) a3nil)))) (a3cons (p3callC C__law_behind hr (by decide) tk rfl (a3cons (p3v 6) (a3cons (p3v 8) (a3cons (p3v 3) a3nil)))) a3nil)))))
        (ss3one (s3ret p3bl))
        ss3nil)
      (ss3one (s3ret (p3callC C__law_refused hr (by decide) tk rfl (a3cons (p3v 2) (a3cons (p3v 3) (a3cons (p3v 7) (a3cons (p3op op3mod (p3t1 c3int rfl T.b_int bt_int (p3callC C__law_cell hr (by decide) tk rfl (a3cons (p3v 0) (a3cons p3int a3nil)))) p3int) (a3cons (p3callC C__law_cell hr (by decide) tk rfl (a3cons (p3v 0) (a3cons p3int a3nil))) a3nil))))))))))))))))))))))))))), ?_⟩
  intro ds q z hl h
  obtain ⟨cs, rfl, k⟩ := h
  simp only [start3, List.map_cons, List.map_nil, List.length_cons, List.length_nil, List.cons_append, List.nil_append, Nat.reduceAdd, Nat.reduceSub, Nat.zero_add, List.replicate, if_true, if_false, Bool.false_eq_true, reduceIte]
  refine seq_mid (fun st => ∃ shape : Int, st = [.va (.frl (intsD cs)), .va (.int shape), .un, .un, .un, .un, .un, .un, .un, .un, .un, .un, .un, .un]) (fun K hK => ?_) ?_
  · try simp only [tSeq3, tNx3, tIf3, tRet3, tRetN3, tSet3, tOwn3, tAsg3, tExpr3, tFrz, frzS, tFor3_eq, tLc3_eq, tLc23_eq, tSeq3I_eq, seqK_lst, seqK_tup, seqK_frl, seqK_sq, oTup_lst, oTup_tup, oTup_sq, oList_lst, oList_tup, oList_sq, oLen_lst, oLen_tup, oLen_frl, oLen_sq, flat_sq, tRg1, tRg2, gN3, gT3, gCons3, gNil3, tV3, tC3, tB3, tT3, tIx3, tCh3, tAnd3, tOr3, tNot3, tNil3, tCons3, tTup3, tLst3, tOfL, tCall3, tU3, tUL, tSl3, tNo3, tSome3, tCat3, tRep3, oEq, oNe, oLt_int, oLt_tup, oLe_int, oLe_tup, oGt_int, oGt_tup, oGe_int, oGe_tup, eqD_int, eqD_str, eqD_bl, eqD_non, eqD_tup, eqD_lst, oAdd, oSub, oMul, oDiv, oMod, oPow, oIs, oIsnt, oIn, oNotIn, inD, lookD, oIx_lst, oIx_tup, oIx_frl, oIx_sq, oIx_dT, oIx_dK, getD, oSl, oInt, oSorted, isB, tPut3, tApp3, tDicT, tDicK, tBk3, tCt3, tMin2, tMax2, tNeg3, tIf3E, tAndV3, tOrV3, tNotV3, tIsi, tIndex3, tYes3, tRaise0, tRaise1, tIsE3, tXf3, wipe3, List.set_cons_zero, List.set_cons_succ, List.getElem?_cons_zero, List.getElem?_cons_succ, List.getElem?_nil, Fl.isSt, D.flat, Fl.nb, Fl.item, cond_true, cond_false, Bool.true_or, Bool.or_true, Bool.false_or, Bool.or_false, Bool.and_true, Bool.true_and, Bool.and_false, Bool.false_and, if_true, if_false, ite_true, ite_false, Bool.false_eq_true, Bool.not_true, Bool.not_false, isNon_non, isNon_lst, isNon_tup, isNon_int, isNon_bl, isNon_str, isNon_sq, ty_ii, ty_bi, ty_tt, ty_tl, ty_ti, ty_tn, ty_lt, ty_ll, ty_ib, ty_bb, ni_int, ni_tup, ni_lst, ni_bl, ni_non, List.length_cons, List.length_nil, reduceIte, List.map_cons, List.map_nil, true_and, and_true, Nat.zero_add, Nat.reduceAdd, List.length_map, Nat.zero_le, Int.toNat_natCast]
    refine ⟨cs, 0, rfl, fun v => ?_⟩
    try simp only [tSeq3, tNx3, tIf3, tRet3, tRetN3, tSet3, tOwn3, tAsg3, tExpr3, tFrz, frzS, tFor3_eq, tLc3_eq, tLc23_eq, tSeq3I_eq, seqK_lst, seqK_tup, seqK_frl, seqK_sq, oTup_lst, oTup_tup, oTup_sq, oList_lst, oList_tup, oList_sq, oLen_lst, oLen_tup, oLen_frl, oLen_sq, flat_sq, tRg1, tRg2, gN3, gT3, gCons3, gNil3, tV3, tC3, tB3, tT3, tIx3, tCh3, tAnd3, tOr3, tNot3, tNil3, tCons3, tTup3, tLst3, tOfL, tCall3, tU3, tUL, tSl3, tNo3, tSome3, tCat3, tRep3, oEq, oNe, oLt_int, oLt_tup, oLe_int, oLe_tup, oGt_int, oGt_tup, oGe_int, oGe_tup, eqD_int, eqD_str, eqD_bl, eqD_non, eqD_tup, eqD_lst, oAdd, oSub, oMul, oDiv, oMod, oPow, oIs, oIsnt, oIn, oNotIn, inD, lookD, oIx_lst, oIx_tup, oIx_frl, oIx_sq, oIx_dT, oIx_dK, getD, oSl, oInt, oSorted, isB, tPut3, tApp3, tDicT, tDicK, tBk3, tCt3, tMin2, tMax2, tNeg3, tIf3E, tAndV3, tOrV3, tNotV3, tIsi, tIndex3, tYes3, tRaise0, tRaise1, tIsE3, tXf3, wipe3, List.set_cons_zero, List.set_cons_succ, List.getElem?_cons_zero, List.getElem?_cons_succ, List.getElem?_nil, Fl.isSt, D.flat, Fl.nb, Fl.item, cond_true, cond_false, Bool.true_or, Bool.or_true, Bool.false_or, Bool.or_false, Bool.and_true, Bool.true_and, Bool.and_false, Bool.false_and, if_true, if_false, ite_true, ite_false, Bool.false_eq_true, Bool.not_true, Bool.not_false, isNon_non, isNon_lst, isNon_tup, isNon_int, isNon_bl, isNon_str, isNon_sq, ty_ii, ty_bi, ty_tt, ty_tl, ty_ti, ty_tn, ty_lt, ty_ll, ty_ib, ty_bb, ni_int, ni_tup, ni_lst, ni_bl, ni_non, List.length_cons, List.length_nil, reduceIte, List.map_cons, List.map_nil, true_and, and_true, Nat.zero_add, Nat.reduceAdd, List.length_map, Nat.zero_le, Int.toNat_natCast]
    exact hK _ ⟨v, rfl⟩
  rintro _ ⟨shape, rfl⟩
  refine seq_mid (fun st => ∃ ps : List (Int × Int), (ps.length ≤ 120 ∧ ∀ p ∈ ps, 0 ≤ p.1 ∧ p.1 < p.2 ∧ p.2 < 16) ∧ st = [.va (.frl (intsD cs)), .va (.int shape), .va (.lst (List.map prD ps)), .un, .un, .un, .un, .un, .un, .un, .un, .un, .un, .un]) (fun K hK => ?_) ?_
  · try simp only [tSeq3, tNx3, tIf3, tRet3, tRetN3, tSet3, tOwn3, tAsg3, tExpr3, tFrz, frzS, tFor3_eq, tLc3_eq, tLc23_eq, tSeq3I_eq, seqK_lst, seqK_tup, seqK_frl, seqK_sq, oTup_lst, oTup_tup, oTup_sq, oList_lst, oList_tup, oList_sq, oLen_lst, oLen_tup, oLen_frl, oLen_sq, flat_sq, tRg1, tRg2, gN3, gT3, gCons3, gNil3, tV3, tC3, tB3, tT3, tIx3, tCh3, tAnd3, tOr3, tNot3, tNil3, tCons3, tTup3, tLst3, tOfL, tCall3, tU3, tUL, tSl3, tNo3, tSome3, tCat3, tRep3, oEq, oNe, oLt_int, oLt_tup, oLe_int, oLe_tup, oGt_int, oGt_tup, oGe_int, oGe_tup, eqD_int, eqD_str, eqD_bl, eqD_non, eqD_tup, eqD_lst, oAdd, oSub, oMul, oDiv, oMod, oPow, oIs, oIsnt, oIn, oNotIn, inD, lookD, oIx_lst, oIx_tup, oIx_frl, oIx_sq, oIx_dT, oIx_dK, getD, oSl, oInt, oSorted, isB, tPut3, tApp3, tDicT, tDicK, tBk3, tCt3, tMin2, tMax2, tNeg3, tIf3E, tAndV3, tOrV3, tNotV3, tIsi, tIndex3, tYes3, tRaise0, tRaise1, tIsE3, tXf3, wipe3, List.set_cons_zero, List.set_cons_succ, List.getElem?_cons_zero, List.getElem?_cons_succ, List.getElem?_nil, Fl.isSt, D.flat, Fl.nb, Fl.item, cond_true, cond_false, Bool.true_or, Bool.or_true, Bool.false_or, Bool.or_false, Bool.and_true, Bool.true_and, Bool.and_false, Bool.false_and, if_true, if_false, ite_true, ite_false, Bool.false_eq_true, Bool.not_true, Bool.not_false, isNon_non, isNon_lst, isNon_tup, isNon_int, isNon_bl, isNon_str, isNon_sq, ty_ii, ty_bi, ty_tt, ty_tl, ty_ti, ty_tn, ty_lt, ty_ll, ty_ib, ty_bb, ni_int, ni_tup, ni_lst, ni_bl, ni_non, List.length_cons, List.length_nil, reduceIte, List.map_cons, List.map_nil, true_and, and_true, Nat.zero_add, Nat.reduceAdd, List.length_map, Nat.zero_le, Int.toNat_natCast]
    refine ⟨cs, 1, rfl, fun v => ?_⟩
    try simp only [tSeq3, tNx3, tIf3, tRet3, tRetN3, tSet3, tOwn3, tAsg3, tExpr3, tFrz, frzS, tFor3_eq, tLc3_eq, tLc23_eq, tSeq3I_eq, seqK_lst, seqK_tup, seqK_frl, seqK_sq, oTup_lst, oTup_tup, oTup_sq, oList_lst, oList_tup, oList_sq, oLen_lst, oLen_tup, oLen_frl, oLen_sq, flat_sq, tRg1, tRg2, gN3, gT3, gCons3, gNil3, tV3, tC3, tB3, tT3, tIx3, tCh3, tAnd3, tOr3, tNot3, tNil3, tCons3, tTup3, tLst3, tOfL, tCall3, tU3, tUL, tSl3, tNo3, tSome3, tCat3, tRep3, oEq, oNe, oLt_int, oLt_tup, oLe_int, oLe_tup, oGt_int, oGt_tup, oGe_int, oGe_tup, eqD_int, eqD_str, eqD_bl, eqD_non, eqD_tup, eqD_lst, oAdd, oSub, oMul, oDiv, oMod, oPow, oIs, oIsnt, oIn, oNotIn, inD, lookD, oIx_lst, oIx_tup, oIx_frl, oIx_sq, oIx_dT, oIx_dK, getD, oSl, oInt, oSorted, isB, tPut3, tApp3, tDicT, tDicK, tBk3, tCt3, tMin2, tMax2, tNeg3, tIf3E, tAndV3, tOrV3, tNotV3, tIsi, tIndex3, tYes3, tRaise0, tRaise1, tIsE3, tXf3, wipe3, List.set_cons_zero, List.set_cons_succ, List.getElem?_cons_zero, List.getElem?_cons_succ, List.getElem?_nil, Fl.isSt, D.flat, Fl.nb, Fl.item, cond_true, cond_false, Bool.true_or, Bool.or_true, Bool.false_or, Bool.or_false, Bool.and_true, Bool.true_and, Bool.and_false, Bool.false_and, if_true, if_false, ite_true, ite_false, Bool.false_eq_true, Bool.not_true, Bool.not_false, isNon_non, isNon_lst, isNon_tup, isNon_int, isNon_bl, isNon_str, isNon_sq, ty_ii, ty_bi, ty_tt, ty_tl, ty_ti, ty_tn, ty_lt, ty_ll, ty_ib, ty_bb, ni_int, ni_tup, ni_lst, ni_bl, ni_non, List.length_cons, List.length_nil, reduceIte, List.map_cons, List.map_nil, true_and, and_true, Nat.zero_add, Nat.reduceAdd, List.length_map, Nat.zero_le, Int.toNat_natCast]
    refine ⟨by decide, v, _, rfl, fun ps h1 h2 => ?_⟩
    try simp only [tSeq3, tNx3, tIf3, tRet3, tRetN3, tSet3, tOwn3, tAsg3, tExpr3, tFrz, frzS, tFor3_eq, tLc3_eq, tLc23_eq, tSeq3I_eq, seqK_lst, seqK_tup, seqK_frl, seqK_sq, oTup_lst, oTup_tup, oTup_sq, oList_lst, oList_tup, oList_sq, oLen_lst, oLen_tup, oLen_frl, oLen_sq, flat_sq, tRg1, tRg2, gN3, gT3, gCons3, gNil3, tV3, tC3, tB3, tT3, tIx3, tCh3, tAnd3, tOr3, tNot3, tNil3, tCons3, tTup3, tLst3, tOfL, tCall3, tU3, tUL, tSl3, tNo3, tSome3, tCat3, tRep3, oEq, oNe, oLt_int, oLt_tup, oLe_int, oLe_tup, oGt_int, oGt_tup, oGe_int, oGe_tup, eqD_int, eqD_str, eqD_bl, eqD_non, eqD_tup, eqD_lst, oAdd, oSub, oMul, oDiv, oMod, oPow, oIs, oIsnt, oIn, oNotIn, inD, lookD, oIx_lst, oIx_tup, oIx_frl, oIx_sq, oIx_dT, oIx_dK, getD, oSl, oInt, oSorted, isB, tPut3, tApp3, tDicT, tDicK, tBk3, tCt3, tMin2, tMax2, tNeg3, tIf3E, tAndV3, tOrV3, tNotV3, tIsi, tIndex3, tYes3, tRaise0, tRaise1, tIsE3, tXf3, wipe3, List.set_cons_zero, List.set_cons_succ, List.getElem?_cons_zero, List.getElem?_cons_succ, List.getElem?_nil, Fl.isSt, D.flat, Fl.nb, Fl.item, cond_true, cond_false, Bool.true_or, Bool.or_true, Bool.false_or, Bool.or_false, Bool.and_true, Bool.true_and, Bool.and_false, Bool.false_and, if_true, if_false, ite_true, ite_false, Bool.false_eq_true, Bool.not_true, Bool.not_false, isNon_non, isNon_lst, isNon_tup, isNon_int, isNon_bl, isNon_str, isNon_sq, ty_ii, ty_bi, ty_tt, ty_tl, ty_ti, ty_tn, ty_lt, ty_ll, ty_ib, ty_bb, ni_int, ni_tup, ni_lst, ni_bl, ni_non, List.length_cons, List.length_nil, reduceIte, List.map_cons, List.map_nil, true_and, and_true, Nat.zero_add, Nat.reduceAdd, List.length_map, Nat.zero_le, Int.toNat_natCast]
    exact hK _ ⟨ps, ⟨h1, h2⟩, rfl⟩
  rintro _ ⟨ps, ⟨hp1, hp2⟩, rfl⟩
  refine seq_mid (fun st => ∃ x : List Int, (x.length ≤ 9 ∧ x.all isLet = true) ∧ st = [.va (.frl (intsD cs)), .va (.int shape), .va (.lst (List.map prD ps)), .va (.lst (intsD x)), .un, .un, .un, .un, .un, .un, .un, .un, .un, .un]) (fun K hK => ?_) ?_
  · try simp only [tSeq3, tNx3, tIf3, tRet3, tRetN3, tSet3, tOwn3, tAsg3, tExpr3, tFrz, frzS, tFor3_eq, tLc3_eq, tLc23_eq, tSeq3I_eq, seqK_lst, seqK_tup, seqK_frl, seqK_sq, oTup_lst, oTup_tup, oTup_sq, oList_lst, oList_tup, oList_sq, oLen_lst, oLen_tup, oLen_frl, oLen_sq, flat_sq, tRg1, tRg2, gN3, gT3, gCons3, gNil3, tV3, tC3, tB3, tT3, tIx3, tCh3, tAnd3, tOr3, tNot3, tNil3, tCons3, tTup3, tLst3, tOfL, tCall3, tU3, tUL, tSl3, tNo3, tSome3, tCat3, tRep3, oEq, oNe, oLt_int, oLt_tup, oLe_int, oLe_tup, oGt_int, oGt_tup, oGe_int, oGe_tup, eqD_int, eqD_str, eqD_bl, eqD_non, eqD_tup, eqD_lst, oAdd, oSub, oMul, oDiv, oMod, oPow, oIs, oIsnt, oIn, oNotIn, inD, lookD, oIx_lst, oIx_tup, oIx_frl, oIx_sq, oIx_dT, oIx_dK, getD, oSl, oInt, oSorted, isB, tPut3, tApp3, tDicT, tDicK, tBk3, tCt3, tMin2, tMax2, tNeg3, tIf3E, tAndV3, tOrV3, tNotV3, tIsi, tIndex3, tYes3, tRaise0, tRaise1, tIsE3, tXf3, wipe3, List.set_cons_zero, List.set_cons_succ, List.getElem?_cons_zero, List.getElem?_cons_succ, List.getElem?_nil, Fl.isSt, D.flat, Fl.nb, Fl.item, cond_true, cond_false, Bool.true_or, Bool.or_true, Bool.false_or, Bool.or_false, Bool.and_true, Bool.true_and, Bool.and_false, Bool.false_and, if_true, if_false, ite_true, ite_false, Bool.false_eq_true, Bool.not_true, Bool.not_false, isNon_non, isNon_lst, isNon_tup, isNon_int, isNon_bl, isNon_str, isNon_sq, ty_ii, ty_bi, ty_tt, ty_tl, ty_ti, ty_tn, ty_lt, ty_ll, ty_ib, ty_bb, ni_int, ni_tup, ni_lst, ni_bl, ni_non, List.length_cons, List.length_nil, reduceIte, List.map_cons, List.map_nil, true_and, and_true, Nat.zero_add, Nat.reduceAdd, List.length_map, Nat.zero_le, Int.toNat_natCast]
    refine ⟨cs, 2, rfl, fun v => ?_⟩
    try simp only [tSeq3, tNx3, tIf3, tRet3, tRetN3, tSet3, tOwn3, tAsg3, tExpr3, tFrz, frzS, tFor3_eq, tLc3_eq, tLc23_eq, tSeq3I_eq, seqK_lst, seqK_tup, seqK_frl, seqK_sq, oTup_lst, oTup_tup, oTup_sq, oList_lst, oList_tup, oList_sq, oLen_lst, oLen_tup, oLen_frl, oLen_sq, flat_sq, tRg1, tRg2, gN3, gT3, gCons3, gNil3, tV3, tC3, tB3, tT3, tIx3, tCh3, tAnd3, tOr3, tNot3, tNil3, tCons3, tTup3, tLst3, tOfL, tCall3, tU3, tUL, tSl3, tNo3, tSome3, tCat3, tRep3, oEq, oNe, oLt_int, oLt_tup, oLe_int, oLe_tup, oGt_int, oGt_tup, oGe_int, oGe_tup, eqD_int, eqD_str, eqD_bl, eqD_non, eqD_tup, eqD_lst, oAdd, oSub, oMul, oDiv, oMod, oPow, oIs, oIsnt, oIn, oNotIn, inD, lookD, oIx_lst, oIx_tup, oIx_frl, oIx_sq, oIx_dT, oIx_dK, getD, oSl, oInt, oSorted, isB, tPut3, tApp3, tDicT, tDicK, tBk3, tCt3, tMin2, tMax2, tNeg3, tIf3E, tAndV3, tOrV3, tNotV3, tIsi, tIndex3, tYes3, tRaise0, tRaise1, tIsE3, tXf3, wipe3, List.set_cons_zero, List.set_cons_succ, List.getElem?_cons_zero, List.getElem?_cons_succ, List.getElem?_nil, Fl.isSt, D.flat, Fl.nb, Fl.item, cond_true, cond_false, Bool.true_or, Bool.or_true, Bool.false_or, Bool.or_false, Bool.and_true, Bool.true_and, Bool.and_false, Bool.false_and, if_true, if_false, ite_true, ite_false, Bool.false_eq_true, Bool.not_true, Bool.not_false, isNon_non, isNon_lst, isNon_tup, isNon_int, isNon_bl, isNon_str, isNon_sq, ty_ii, ty_bi, ty_tt, ty_tl, ty_ti, ty_tn, ty_lt, ty_ll, ty_ib, ty_bb, ni_int, ni_tup, ni_lst, ni_bl, ni_non, List.length_cons, List.length_nil, reduceIte, List.map_cons, List.map_nil, true_and, and_true, Nat.zero_add, Nat.reduceAdd, List.length_map, Nat.zero_le, Int.toNat_natCast]
    refine ⟨cs, 3, rfl, fun v' => ?_⟩
    try simp only [tSeq3, tNx3, tIf3, tRet3, tRetN3, tSet3, tOwn3, tAsg3, tExpr3, tFrz, frzS, tFor3_eq, tLc3_eq, tLc23_eq, tSeq3I_eq, seqK_lst, seqK_tup, seqK_frl, seqK_sq, oTup_lst, oTup_tup, oTup_sq, oList_lst, oList_tup, oList_sq, oLen_lst, oLen_tup, oLen_frl, oLen_sq, flat_sq, tRg1, tRg2, gN3, gT3, gCons3, gNil3, tV3, tC3, tB3, tT3, tIx3, tCh3, tAnd3, tOr3, tNot3, tNil3, tCons3, tTup3, tLst3, tOfL, tCall3, tU3, tUL, tSl3, tNo3, tSome3, tCat3, tRep3, oEq, oNe, oLt_int, oLt_tup, oLe_int, oLe_tup, oGt_int, oGt_tup, oGe_int, oGe_tup, eqD_int, eqD_str, eqD_bl, eqD_non, eqD_tup, eqD_lst, oAdd, oSub, oMul, oDiv, oMod, oPow, oIs, oIsnt, oIn, oNotIn, inD, lookD, oIx_lst, oIx_tup, oIx_frl, oIx_sq, oIx_dT, oIx_dK, getD, oSl, oInt, oSorted, isB, tPut3, tApp3, tDicT, tDicK, tBk3, tCt3, tMin2, tMax2, tNeg3, tIf3E, tAndV3, tOrV3, tNotV3, tIsi, tIndex3, tYes3, tRaise0, tRaise1, tIsE3, tXf3, wipe3, List.set_cons_zero, List.set_cons_succ, List.getElem?_cons_zero, List.getElem?_cons_succ, List.getElem?_nil, Fl.isSt, D.flat, Fl.nb, Fl.item, cond_true, cond_false, Bool.true_or, Bool.or_true, Bool.false_or, Bool.or_false, Bool.and_true, Bool.true_and, Bool.and_false, Bool.false_and, if_true, if_false, ite_true, ite_false, Bool.false_eq_true, Bool.not_true, Bool.not_false, isNon_non, isNon_lst, isNon_tup, isNon_int, isNon_bl, isNon_str, isNon_sq, ty_ii, ty_bi, ty_tt, ty_tl, ty_ti, ty_tn, ty_lt, ty_ll, ty_ib, ty_bb, ni_int, ni_tup, ni_lst, ni_bl, ni_non, List.length_cons, List.length_nil, reduceIte, List.map_cons, List.map_nil, true_and, and_true, Nat.zero_add, Nat.reduceAdd, List.length_map, Nat.zero_le, Int.toNat_natCast]
    obtain ⟨n, hn⟩ := nat_of (Int.emod_nonneg (shape / 5) (b := 10) (by decide))
    have hn2 := Int.emod_lt_of_pos (shape / 5) (b := 10) (by decide)
    rw [hn] at hn2 ⊢
    refine ⟨by decide, by decide, v, v', n, rfl, by omega, fun x h1 h2 => ?_⟩
    try simp only [tSeq3, tNx3, tIf3, tRet3, tRetN3, tSet3, tOwn3, tAsg3, tExpr3, tFrz, frzS, tFor3_eq, tLc3_eq, tLc23_eq, tSeq3I_eq, seqK_lst, seqK_tup, seqK_frl, seqK_sq, oTup_lst, oTup_tup, oTup_sq, oList_lst, oList_tup, oList_sq, oLen_lst, oLen_tup, oLen_frl, oLen_sq, flat_sq, tRg1, tRg2, gN3, gT3, gCons3, gNil3, tV3, tC3, tB3, tT3, tIx3, tCh3, tAnd3, tOr3, tNot3, tNil3, tCons3, tTup3, tLst3, tOfL, tCall3, tU3, tUL, tSl3, tNo3, tSome3, tCat3, tRep3, oEq, oNe, oLt_int, oLt_tup, oLe_int, oLe_tup, oGt_int, oGt_tup, oGe_int, oGe_tup, eqD_int, eqD_str, eqD_bl, eqD_non, eqD_tup, eqD_lst, oAdd, oSub, oMul, oDiv, oMod, oPow, oIs, oIsnt, oIn, oNotIn, inD, lookD, oIx_lst, oIx_tup, oIx_frl, oIx_sq, oIx_dT, oIx_dK, getD, oSl, oInt, oSorted, isB, tPut3, tApp3, tDicT, tDicK, tBk3, tCt3, tMin2, tMax2, tNeg3, tIf3E, tAndV3, tOrV3, tNotV3, tIsi, tIndex3, tYes3, tRaise0, tRaise1, tIsE3, tXf3, wipe3, List.set_cons_zero, List.set_cons_succ, List.getElem?_cons_zero, List.getElem?_cons_succ, List.getElem?_nil, Fl.isSt, D.flat, Fl.nb, Fl.item, cond_true, cond_false, Bool.true_or, Bool.or_true, Bool.false_or, Bool.or_false, Bool.and_true, Bool.true_and, Bool.and_false, Bool.false_and, if_true, if_false, ite_true, ite_false, Bool.false_eq_true, Bool.not_true, Bool.not_false, isNon_non, isNon_lst, isNon_tup, isNon_int, isNon_bl, isNon_str, isNon_sq, ty_ii, ty_bi, ty_tt, ty_tl, ty_ti, ty_tn, ty_lt, ty_ll, ty_ib, ty_bb, ni_int, ni_tup, ni_lst, ni_bl, ni_non, List.length_cons, List.length_nil, reduceIte, List.map_cons, List.map_nil, true_and, and_true, Nat.zero_add, Nat.reduceAdd, List.length_map, Nat.zero_le, Int.toNat_natCast]
    exact hK _ ⟨x, ⟨by omega, h2⟩, rfl⟩
  rintro _ ⟨x, ⟨hx1, hx2⟩, rfl⟩
  refine seq_mid (fun st => ∃ ot : List Int, (ot.length = 9 ∧ ot.all isLet = true) ∧ st = [.va (.frl (intsD cs)), .va (.int shape), .va (.lst (List.map prD ps)), .va (.lst (intsD x)), .va (.lst (intsD ot)), .un, .un, .un, .un, .un, .un, .un, .un, .un]) (fun K hK => ?_) ?_
  · try simp only [tSeq3, tNx3, tIf3, tRet3, tRetN3, tSet3, tOwn3, tAsg3, tExpr3, tFrz, frzS, tFor3_eq, tLc3_eq, tLc23_eq, tSeq3I_eq, seqK_lst, seqK_tup, seqK_frl, seqK_sq, oTup_lst, oTup_tup, oTup_sq, oList_lst, oList_tup, oList_sq, oLen_lst, oLen_tup, oLen_frl, oLen_sq, flat_sq, tRg1, tRg2, gN3, gT3, gCons3, gNil3, tV3, tC3, tB3, tT3, tIx3, tCh3, tAnd3, tOr3, tNot3, tNil3, tCons3, tTup3, tLst3, tOfL, tCall3, tU3, tUL, tSl3, tNo3, tSome3, tCat3, tRep3, oEq, oNe, oLt_int, oLt_tup, oLe_int, oLe_tup, oGt_int, oGt_tup, oGe_int, oGe_tup, eqD_int, eqD_str, eqD_bl, eqD_non, eqD_tup, eqD_lst, oAdd, oSub, oMul, oDiv, oMod, oPow, oIs, oIsnt, oIn, oNotIn, inD, lookD, oIx_lst, oIx_tup, oIx_frl, oIx_sq, oIx_dT, oIx_dK, getD, oSl, oInt, oSorted, isB, tPut3, tApp3, tDicT, tDicK, tBk3, tCt3, tMin2, tMax2, tNeg3, tIf3E, tAndV3, tOrV3, tNotV3, tIsi, tIndex3, tYes3, tRaise0, tRaise1, tIsE3, tXf3, wipe3, List.set_cons_zero, List.set_cons_succ, List.getElem?_cons_zero, List.getElem?_cons_succ, List.getElem?_nil, Fl.isSt, D.flat, Fl.nb, Fl.item, cond_true, cond_false, Bool.true_or, Bool.or_true, Bool.false_or, Bool.or_false, Bool.and_true, Bool.true_and, Bool.and_false, Bool.false_and, if_true, if_false, ite_true, ite_false, Bool.false_eq_true, Bool.not_true, Bool.not_false, isNon_non, isNon_lst, isNon_tup, isNon_int, isNon_bl, isNon_str, isNon_sq, ty_ii, ty_bi, ty_tt, ty_tl, ty_ti, ty_tn, ty_lt, ty_ll, ty_ib, ty_bb, ni_int, ni_tup, ni_lst, ni_bl, ni_non, List.length_cons, List.length_nil, reduceIte, List.map_cons, List.map_nil, true_and, and_true, Nat.zero_add, Nat.reduceAdd, List.length_map, Nat.zero_le, Int.toNat_natCast]
    refine ⟨cs, 4, rfl, fun v => ?_⟩
    try simp only [tSeq3, tNx3, tIf3, tRet3, tRetN3, tSet3, tOwn3, tAsg3, tExpr3, tFrz, frzS, tFor3_eq, tLc3_eq, tLc23_eq, tSeq3I_eq, seqK_lst, seqK_tup, seqK_frl, seqK_sq, oTup_lst, oTup_tup, oTup_sq, oList_lst, oList_tup, oList_sq, oLen_lst, oLen_tup, oLen_frl, oLen_sq, flat_sq, tRg1, tRg2, gN3, gT3, gCons3, gNil3, tV3, tC3, tB3, tT3, tIx3, tCh3, tAnd3, tOr3, tNot3, tNil3, tCons3, tTup3, tLst3, tOfL, tCall3, tU3, tUL, tSl3, tNo3, tSome3, tCat3, tRep3, oEq, oNe, oLt_int, oLt_tup, oLe_int, oLe_tup, oGt_int, oGt_tup, oGe_int, oGe_tup, eqD_int, eqD_str, eqD_bl, eqD_non, eqD_tup, eqD_lst, oAdd, oSub, oMul, oDiv, oMod, oPow, oIs, oIsnt, oIn, oNotIn, inD, lookD, oIx_lst, oIx_tup, oIx_frl, oIx_sq, oIx_dT, oIx_dK, getD, oSl, oInt, oSorted, isB, tPut3, tApp3, tDicT, tDicK, tBk3, tCt3, tMin2, tMax2, tNeg3, tIf3E, tAndV3, tOrV3, tNotV3, tIsi, tIndex3, tYes3, tRaise0, tRaise1, tIsE3, tXf3, wipe3, List.set_cons_zero, List.set_cons_succ, List.getElem?_cons_zero, List.getElem?_cons_succ, List.getElem?_nil, Fl.isSt, D.flat, Fl.nb, Fl.item, cond_true, cond_false, Bool.true_or, Bool.or_true, Bool.false_or, Bool.or_false, Bool.and_true, Bool.true_and, Bool.and_false, Bool.false_and, if_true, if_false, ite_true, ite_false, Bool.false_eq_true, Bool.not_true, Bool.not_false, isNon_non, isNon_lst, isNon_tup, isNon_int, isNon_bl, isNon_str, isNon_sq, ty_ii, ty_bi, ty_tt, ty_tl, ty_ti, ty_tn, ty_lt, ty_ll, ty_ib, ty_bb, ni_int, ni_tup, ni_lst, ni_bl, ni_non, List.length_cons, List.length_nil, reduceIte, List.map_cons, List.map_nil, true_and, and_true, Nat.zero_add, Nat.reduceAdd, List.length_map, Nat.zero_le, Int.toNat_natCast]
    refine ⟨cs, 3, rfl, fun v' => ?_⟩
    try simp only [tSeq3, tNx3, tIf3, tRet3, tRetN3, tSet3, tOwn3, tAsg3, tExpr3, tFrz, frzS, tFor3_eq, tLc3_eq, tLc23_eq, tSeq3I_eq, seqK_lst, seqK_tup, seqK_frl, seqK_sq, oTup_lst, oTup_tup, oTup_sq, oList_lst, oList_tup, oList_sq, oLen_lst, oLen_tup, oLen_frl, oLen_sq, flat_sq, tRg1, tRg2, gN3, gT3, gCons3, gNil3, tV3, tC3, tB3, tT3, tIx3, tCh3, tAnd3, tOr3, tNot3, tNil3, tCons3, tTup3, tLst3, tOfL, tCall3, tU3, tUL, tSl3, tNo3, tSome3, tCat3, tRep3, oEq, oNe, oLt_int, oLt_tup, oLe_int, oLe_tup, oGt_int, oGt_tup, oGe_int, oGe_tup, eqD_int, eqD_str, eqD_bl, eqD_non, eqD_tup, eqD_lst, oAdd, oSub, oMul, oDiv, oMod, oPow, oIs, oIsnt, oIn, oNotIn, inD, lookD, oIx_lst, oIx_tup, oIx_frl, oIx_sq, oIx_dT, oIx_dK, getD, oSl, oInt, oSorted, isB, tPut3, tApp3, tDicT, tDicK, tBk3, tCt3, tMin2, tMax2, tNeg3, tIf3E, tAndV3, tOrV3, tNotV3, tIsi, tIndex3, tYes3, tRaise0, tRaise1, tIsE3, tXf3, wipe3, List.set_cons_zero, List.set_cons_succ, List.getElem?_cons_zero, List.getElem?_cons_succ, List.getElem?_nil, Fl.isSt, D.flat, Fl.nb, Fl.item, cond_true, cond_false, Bool.true_or, Bool.or_true, Bool.false_or, Bool.or_false, Bool.and_true, Bool.true_and, Bool.and_false, Bool.false_and, if_true, if_false, ite_true, ite_false, Bool.false_eq_true, Bool.not_true, Bool.not_false, isNon_non, isNon_lst, isNon_tup, isNon_int, isNon_bl, isNon_str, isNon_sq, ty_ii, ty_bi, ty_tt, ty_tl, ty_ti, ty_tn, ty_lt, ty_ll, ty_ib, ty_bb, ni_int, ni_tup, ni_lst, ni_bl, ni_non, List.length_cons, List.length_nil, reduceIte, List.map_cons, List.map_nil, true_and, and_true, Nat.zero_add, Nat.reduceAdd, List.length_map, Nat.zero_le, Int.toNat_natCast]
    refine ⟨v, v', 9, rfl, by decide, fun x h1 h2 => ?_⟩
    try simp only [tSeq3, tNx3, tIf3, tRet3, tRetN3, tSet3, tOwn3, tAsg3, tExpr3, tFrz, frzS, tFor3_eq, tLc3_eq, tLc23_eq, tSeq3I_eq, seqK_lst, seqK_tup, seqK_frl, seqK_sq, oTup_lst, oTup_tup, oTup_sq, oList_lst, oList_tup, oList_sq, oLen_lst, oLen_tup, oLen_frl, oLen_sq, flat_sq, tRg1, tRg2, gN3, gT3, gCons3, gNil3, tV3, tC3, tB3, tT3, tIx3, tCh3, tAnd3, tOr3, tNot3, tNil3, tCons3, tTup3, tLst3, tOfL, tCall3, tU3, tUL, tSl3, tNo3, tSome3, tCat3, tRep3, oEq, oNe, oLt_int, oLt_tup, oLe_int, oLe_tup, oGt_int, oGt_tup, oGe_int, oGe_tup, eqD_int, eqD_str, eqD_bl, eqD_non, eqD_tup, eqD_lst, oAdd, oSub, oMul, oDiv, oMod, oPow, oIs, oIsnt, oIn, oNotIn, inD, lookD, oIx_lst, oIx_tup, oIx_frl, oIx_sq, oIx_dT, oIx_dK, getD, oSl, oInt, oSorted, isB, tPut3, tApp3, tDicT, tDicK, tBk3, tCt3, tMin2, tMax2, tNeg3, tIf3E, tAndV3, tOrV3, tNotV3, tIsi, tIndex3, tYes3, tRaise0, tRaise1, tIsE3, tXf3, wipe3, List.set_cons_zero, List.set_cons_succ, List.getElem?_cons_zero, List.getElem?_cons_succ, List.getElem?_nil, Fl.isSt, D.flat, Fl.nb, Fl.item, cond_true, cond_false, Bool.true_or, Bool.or_true, Bool.false_or, Bool.or_false, Bool.and_true, Bool.true_and, Bool.and_false, Bool.false_and, if_true, if_false, ite_true, ite_false, Bool.false_eq_true, Bool.not_true, Bool.not_false, isNon_non, isNon_lst, isNon_tup, isNon_int, isNon_bl, isNon_str, isNon_sq, ty_ii, ty_bi, ty_tt, ty_tl, ty_ti, ty_tn, ty_lt, ty_ll, ty_ib, ty_bb, ni_int, ni_tup, ni_lst, ni_bl, ni_non, List.length_cons, List.length_nil, reduceIte, List.map_cons, List.map_nil, true_and, and_true, Nat.zero_add, Nat.reduceAdd, List.length_map, Nat.zero_le, Int.toNat_natCast]
    exact hK _ ⟨x, ⟨h1, h2⟩, rfl⟩
  rintro _ ⟨ot, ⟨ho1, ho2⟩, rfl⟩
  refine seq_mid (fun st => ∃ dr : List Int, dr.length = 16 ∧ st = [.va (.frl (intsD cs)), .va (.int shape), .va (.lst (List.map prD ps)), .va (.lst (intsD x)), .va (.lst (intsD ot)), .va (.lst (intsD dr)), .un, .un, .un, .un, .un, .un, .un, .un]) (fun K hK => ?_) ?_
  · try simp only [tSeq3, tNx3, tIf3, tRet3, tRetN3, tSet3, tOwn3, tAsg3, tExpr3, tFrz, frzS, tFor3_eq, tLc3_eq, tLc23_eq, tSeq3I_eq, seqK_lst, seqK_tup, seqK_frl, seqK_sq, oTup_lst, oTup_tup, oTup_sq, oList_lst, oList_tup, oList_sq, oLen_lst, oLen_tup, oLen_frl, oLen_sq, flat_sq, tRg1, tRg2, gN3, gT3, gCons3, gNil3, tV3, tC3, tB3, tT3, tIx3, tCh3, tAnd3, tOr3, tNot3, tNil3, tCons3, tTup3, tLst3, tOfL, tCall3, tU3, tUL, tSl3, tNo3, tSome3, tCat3, tRep3, oEq, oNe, oLt_int, oLt_tup, oLe_int, oLe_tup, oGt_int, oGt_tup, oGe_int, oGe_tup, eqD_int, eqD_str, eqD_bl, eqD_non, eqD_tup, eqD_lst, oAdd, oSub, oMul, oDiv, oMod, oPow, oIs, oIsnt, oIn, oNotIn, inD, lookD, oIx_lst, oIx_tup, oIx_frl, oIx_sq, oIx_dT, oIx_dK, getD, oSl, oInt, oSorted, isB, tPut3, tApp3, tDicT, tDicK, tBk3, tCt3, tMin2, tMax2, tNeg3, tIf3E, tAndV3, tOrV3, tNotV3, tIsi, tIndex3, tYes3, tRaise0, tRaise1, tIsE3, tXf3, wipe3, List.set_cons_zero, List.set_cons_succ, List.getElem?_cons_zero, List.getElem?_cons_succ, List.getElem?_nil, Fl.isSt, D.flat, Fl.nb, Fl.item, cond_true, cond_false, Bool.true_or, Bool.or_true, Bool.false_or, Bool.or_false, Bool.and_true, Bool.true_and, Bool.and_false, Bool.false_and, if_true, if_false, ite_true, ite_false, Bool.false_eq_true, Bool.not_true, Bool.not_false, isNon_non, isNon_lst, isNon_tup, isNon_int, isNon_bl, isNon_str, isNon_sq, ty_ii, ty_bi, ty_tt, ty_tl, ty_ti, ty_tn, ty_lt, ty_ll, ty_ib, ty_bb, ni_int, ni_tup, ni_lst, ni_bl, ni_non, List.length_cons, List.length_nil, reduceIte, List.map_cons, List.map_nil, true_and, and_true, Nat.zero_add, Nat.reduceAdd, List.length_map, Nat.zero_le, Int.toNat_natCast]
    refine ⟨cs, 5, rfl, fun v => ?_⟩
    try simp only [tSeq3, tNx3, tIf3, tRet3, tRetN3, tSet3, tOwn3, tAsg3, tExpr3, tFrz, frzS, tFor3_eq, tLc3_eq, tLc23_eq, tSeq3I_eq, seqK_lst, seqK_tup, seqK_frl, seqK_sq, oTup_lst, oTup_tup, oTup_sq, oList_lst, oList_tup, oList_sq, oLen_lst, oLen_tup, oLen_frl, oLen_sq, flat_sq, tRg1, tRg2, gN3, gT3, gCons3, gNil3, tV3, tC3, tB3, tT3, tIx3, tCh3, tAnd3, tOr3, tNot3, tNil3, tCons3, tTup3, tLst3, tOfL, tCall3, tU3, tUL, tSl3, tNo3, tSome3, tCat3, tRep3, oEq, oNe, oLt_int, oLt_tup, oLe_int, oLe_tup, oGt_int, oGt_tup, oGe_int, oGe_tup, eqD_int, eqD_str, eqD_bl, eqD_non, eqD_tup, eqD_lst, oAdd, oSub, oMul, oDiv, oMod, oPow, oIs, oIsnt, oIn, oNotIn, inD, lookD, oIx_lst, oIx_tup, oIx_frl, oIx_sq, oIx_dT, oIx_dK, getD, oSl, oInt, oSorted, isB, tPut3, tApp3, tDicT, tDicK, tBk3, tCt3, tMin2, tMax2, tNeg3, tIf3E, tAndV3, tOrV3, tNotV3, tIsi, tIndex3, tYes3, tRaise0, tRaise1, tIsE3, tXf3, wipe3, List.set_cons_zero, List.set_cons_succ, List.getElem?_cons_zero, List.getElem?_cons_succ, List.getElem?_nil, Fl.isSt, D.flat, Fl.nb, Fl.item, cond_true, cond_false, Bool.true_or, Bool.or_true, Bool.false_or, Bool.or_false, Bool.and_true, Bool.true_and, Bool.and_false, Bool.false_and, if_true, if_false, ite_true, ite_false, Bool.false_eq_true, Bool.not_true, Bool.not_false, isNon_non, isNon_lst, isNon_tup, isNon_int, isNon_bl, isNon_str, isNon_sq, ty_ii, ty_bi, ty_tt, ty_tl, ty_ti, ty_tn, ty_lt, ty_ll, ty_ib, ty_bb, ni_int, ni_tup, ni_lst, ni_bl, ni_non, List.length_cons, List.length_nil, reduceIte, List.map_cons, List.map_nil, true_and, and_true, Nat.zero_add, Nat.reduceAdd, List.length_map, Nat.zero_le, Int.toNat_natCast]
    refine ⟨v, 60, 16, rfl, by decide, by decide, by decide, fun x h1 h2 => ?_⟩
    try simp only [tSeq3, tNx3, tIf3, tRet3, tRetN3, tSet3, tOwn3, tAsg3, tExpr3, tFrz, frzS, tFor3_eq, tLc3_eq, tLc23_eq, tSeq3I_eq, seqK_lst, seqK_tup, seqK_frl, seqK_sq, oTup_lst, oTup_tup, oTup_sq, oList_lst, oList_tup, oList_sq, oLen_lst, oLen_tup, oLen_frl, oLen_sq, flat_sq, tRg1, tRg2, gN3, gT3, gCons3, gNil3, tV3, tC3, tB3, tT3, tIx3, tCh3, tAnd3, tOr3, tNot3, tNil3, tCons3, tTup3, tLst3, tOfL, tCall3, tU3, tUL, tSl3, tNo3, tSome3, tCat3, tRep3, oEq, oNe, oLt_int, oLt_tup, oLe_int, oLe_tup, oGt_int, oGt_tup, oGe_int, oGe_tup, eqD_int, eqD_str, eqD_bl, eqD_non, eqD_tup, eqD_lst, oAdd, oSub, oMul, oDiv, oMod, oPow, oIs, oIsnt, oIn, oNotIn, inD, lookD, oIx_lst, oIx_tup, oIx_frl, oIx_sq, oIx_dT, oIx_dK, getD, oSl, oInt, oSorted, isB, tPut3, tApp3, tDicT, tDicK, tBk3, tCt3, tMin2, tMax2, tNeg3, tIf3E, tAndV3, tOrV3, tNotV3, tIsi, tIndex3, tYes3, tRaise0, tRaise1, tIsE3, tXf3, wipe3, List.set_cons_zero, List.set_cons_succ, List.getElem?_cons_zero, List.getElem?_cons_succ, List.getElem?_nil, Fl.isSt, D.flat, Fl.nb, Fl.item, cond_true, cond_false, Bool.true_or, Bool.or_true, Bool.false_or, Bool.or_false, Bool.and_true, Bool.true_and, Bool.and_false, Bool.false_and, if_true, if_false, ite_true, ite_false, Bool.false_eq_true, Bool.not_true, Bool.not_false, isNon_non, isNon_lst, isNon_tup, isNon_int, isNon_bl, isNon_str, isNon_sq, ty_ii, ty_bi, ty_tt, ty_tl, ty_ti, ty_tn, ty_lt, ty_ll, ty_ib, ty_bb, ni_int, ni_tup, ni_lst, ni_bl, ni_non, List.length_cons, List.length_nil, reduceIte, List.map_cons, List.map_nil, true_and, and_true, Nat.zero_add, Nat.reduceAdd, List.length_map, Nat.zero_le, Int.toNat_natCast]
    exact hK _ ⟨x, h1, rfl⟩
  rintro _ ⟨dr, hd, rfl⟩
  refine seq_mid (fun st => ∃ tb : Tab, TabOf tb ps ∧ st = [.va (.frl (intsD cs)), .va (.int shape), .va (.lst (List.map prD ps)), .va (.lst (intsD x)), .va (.lst (intsD ot)), .va (.lst (intsD dr)), .va (.dT tb), .un, .un, .un, .un, .un, .un, .un]) (fun K hK => ?_) ?_
  · try simp only [tSeq3, tNx3, tIf3, tRet3, tRetN3, tSet3, tOwn3, tAsg3, tExpr3, tFrz, frzS, tFor3_eq, tLc3_eq, tLc23_eq, tSeq3I_eq, seqK_lst, seqK_tup, seqK_frl, seqK_sq, oTup_lst, oTup_tup, oTup_sq, oList_lst, oList_tup, oList_sq, oLen_lst, oLen_tup, oLen_frl, oLen_sq, flat_sq, tRg1, tRg2, gN3, gT3, gCons3, gNil3, tV3, tC3, tB3, tT3, tIx3, tCh3, tAnd3, tOr3, tNot3, tNil3, tCons3, tTup3, tLst3, tOfL, tCall3, tU3, tUL, tSl3, tNo3, tSome3, tCat3, tRep3, oEq, oNe, oLt_int, oLt_tup, oLe_int, oLe_tup, oGt_int, oGt_tup, oGe_int, oGe_tup, eqD_int, eqD_str, eqD_bl, eqD_non, eqD_tup, eqD_lst, oAdd, oSub, oMul, oDiv, oMod, oPow, oIs, oIsnt, oIn, oNotIn, inD, lookD, oIx_lst, oIx_tup, oIx_frl, oIx_sq, oIx_dT, oIx_dK, getD, oSl, oInt, oSorted, isB, tPut3, tApp3, tDicT, tDicK, tBk3, tCt3, tMin2, tMax2, tNeg3, tIf3E, tAndV3, tOrV3, tNotV3, tIsi, tIndex3, tYes3, tRaise0, tRaise1, tIsE3, tXf3, wipe3, List.set_cons_zero, List.set_cons_succ, List.getElem?_cons_zero, List.getElem?_cons_succ, List.getElem?_nil, Fl.isSt, D.flat, Fl.nb, Fl.item, cond_true, cond_false, Bool.true_or, Bool.or_true, Bool.false_or, Bool.or_false, Bool.and_true, Bool.true_and, Bool.and_false, Bool.false_and, if_true, if_false, ite_true, ite_false, Bool.false_eq_true, Bool.not_true, Bool.not_false, isNon_non, isNon_lst, isNon_tup, isNon_int, isNon_bl, isNon_str, isNon_sq, ty_ii, ty_bi, ty_tt, ty_tl, ty_ti, ty_tn, ty_lt, ty_ll, ty_ib, ty_bb, ni_int, ni_tup, ni_lst, ni_bl, ni_non, List.length_cons, List.length_nil, reduceIte, List.map_cons, List.map_nil, true_and, and_true, Nat.zero_add, Nat.reduceAdd, List.length_map, Nat.zero_le, Int.toNat_natCast]
    refine ⟨ps, rfl, by omega, fun tb h1 => ?_⟩
    try simp only [tSeq3, tNx3, tIf3, tRet3, tRetN3, tSet3, tOwn3, tAsg3, tExpr3, tFrz, frzS, tFor3_eq, tLc3_eq, tLc23_eq, tSeq3I_eq, seqK_lst, seqK_tup, seqK_frl, seqK_sq, oTup_lst, oTup_tup, oTup_sq, oList_lst, oList_tup, oList_sq, oLen_lst, oLen_tup, oLen_frl, oLen_sq, flat_sq, tRg1, tRg2, gN3, gT3, gCons3, gNil3, tV3, tC3, tB3, tT3, tIx3, tCh3, tAnd3, tOr3, tNot3, tNil3, tCons3, tTup3, tLst3, tOfL, tCall3, tU3, tUL, tSl3, tNo3, tSome3, tCat3, tRep3, oEq, oNe, oLt_int, oLt_tup, oLe_int, oLe_tup, oGt_int, oGt_tup, oGe_int, oGe_tup, eqD_int, eqD_str, eqD_bl, eqD_non, eqD_tup, eqD_lst, oAdd, oSub, oMul, oDiv, oMod, oPow, oIs, oIsnt, oIn, oNotIn, inD, lookD, oIx_lst, oIx_tup, oIx_frl, oIx_sq, oIx_dT, oIx_dK, getD, oSl, oInt, oSorted, isB, tPut3, tApp3, tDicT, tDicK, tBk3, tCt3, tMin2, tMax2, tNeg3, tIf3E, tAndV3, tOrV3, tNotV3, tIsi, tIndex3, tYes3, tRaise0, tRaise1, tIsE3, tXf3, wipe3, List.set_cons_zero, List.set_cons_succ, List.getElem?_cons_zero, List.getElem?_cons_succ, List.getElem?_nil, Fl.isSt, D.flat, Fl.nb, Fl.item, cond_true, cond_false, Bool.true_or, Bool.or_true, Bool.false_or, Bool.or_false, Bool.and_true, Bool.true_and, Bool.and_false, Bool.false_and, if_true, if_false, ite_true, ite_false, Bool.false_eq_true, Bool.not_true, Bool.not_false, isNon_non, isNon_lst, isNon_tup, isNon_int, isNon_bl, isNon_str, isNon_sq, ty_ii, ty_bi, ty_tt, ty_tl, ty_ti, ty_tn, ty_lt, ty_ll, ty_ib, ty_bb, ni_int, ni_tup, ni_lst, ni_bl, ni_non, List.length_cons, List.length_nil, reduceIte, List.map_cons, List.map_nil, true_and, and_true, Nat.zero_add, Nat.reduceAdd, List.length_map, Nat.zero_le, Int.toNat_natCast]
    exact hK _ ⟨tb, ⟨h1, fun p hp => (hp2 p hp).2.1⟩, rfl⟩
  rintro _ ⟨tb, htb, rfl⟩
  refine seq_mid (fun st => ∃ y : List Int, (y.all isLet = true ∧ y.length ≤ 18) ∧ st = [.va (.frl (intsD cs)), .va (.int shape), .va (.lst (List.map prD ps)), .va (.lst (intsD x)), .va (.lst (intsD ot)), .va (.lst (intsD dr)), .va (.dT tb), .va (.lst (intsD y)), .un, .un, .un, .un, .un, .un]) (fun K hK => ?_) ?_
  · try simp only [tSeq3, tNx3, tIf3, tRet3, tRetN3, tSet3, tOwn3, tAsg3, tExpr3, tFrz, frzS, tFor3_eq, tLc3_eq, tLc23_eq, tSeq3I_eq, seqK_lst, seqK_tup, seqK_frl, seqK_sq, oTup_lst, oTup_tup, oTup_sq, oList_lst, oList_tup, oList_sq, oLen_lst, oLen_tup, oLen_frl, oLen_sq, flat_sq, tRg1, tRg2, gN3, gT3, gCons3, gNil3, tV3, tC3, tB3, tT3, tIx3, tCh3, tAnd3, tOr3, tNot3, tNil3, tCons3, tTup3, tLst3, tOfL, tCall3, tU3, tUL, tSl3, tNo3, tSome3, tCat3, tRep3, oEq, oNe, oLt_int, oLt_tup, oLe_int, oLe_tup, oGt_int, oGt_tup, oGe_int, oGe_tup, eqD_int, eqD_str, eqD_bl, eqD_non, eqD_tup, eqD_lst, oAdd, oSub, oMul, oDiv, oMod, oPow, oIs, oIsnt, oIn, oNotIn, inD, lookD, oIx_lst, oIx_tup, oIx_frl, oIx_sq, oIx_dT, oIx_dK, getD, oSl, oInt, oSorted, isB, tPut3, tApp3, tDicT, tDicK, tBk3, tCt3, tMin2, tMax2, tNeg3, tIf3E, tAndV3, tOrV3, tNotV3, tIsi, tIndex3, tYes3, tRaise0, tRaise1, tIsE3, tXf3, wipe3, List.set_cons_zero, List.set_cons_succ, List.getElem?_cons_zero, List.getElem?_cons_succ, List.getElem?_nil, Fl.isSt, D.flat, Fl.nb, Fl.item, cond_true, cond_false, Bool.true_or, Bool.or_true, Bool.false_or, Bool.or_false, Bool.and_true, Bool.true_and, Bool.and_false, Bool.false_and, if_true, if_false, ite_true, ite_false, Bool.false_eq_true, Bool.not_true, Bool.not_false, isNon_non, isNon_lst, isNon_tup, isNon_int, isNon_bl, isNon_str, isNon_sq, ty_ii, ty_bi, ty_tt, ty_tl, ty_ti, ty_tn, ty_lt, ty_ll, ty_ib, ty_bb, ni_int, ni_tup, ni_lst, ni_bl, ni_non, List.length_cons, List.length_nil, reduceIte, List.map_cons, List.map_nil, true_and, and_true, Nat.zero_add, Nat.reduceAdd, List.length_map, Nat.zero_le, Int.toNat_natCast]
    refine ⟨cs, 6, rfl, fun v => ?_⟩
    try simp only [tSeq3, tNx3, tIf3, tRet3, tRetN3, tSet3, tOwn3, tAsg3, tExpr3, tFrz, frzS, tFor3_eq, tLc3_eq, tLc23_eq, tSeq3I_eq, seqK_lst, seqK_tup, seqK_frl, seqK_sq, oTup_lst, oTup_tup, oTup_sq, oList_lst, oList_tup, oList_sq, oLen_lst, oLen_tup, oLen_frl, oLen_sq, flat_sq, tRg1, tRg2, gN3, gT3, gCons3, gNil3, tV3, tC3, tB3, tT3, tIx3, tCh3, tAnd3, tOr3, tNot3, tNil3, tCons3, tTup3, tLst3, tOfL, tCall3, tU3, tUL, tSl3, tNo3, tSome3, tCat3, tRep3, oEq, oNe, oLt_int, oLt_tup, oLe_int, oLe_tup, oGt_int, oGt_tup, oGe_int, oGe_tup, eqD_int, eqD_str, eqD_bl, eqD_non, eqD_tup, eqD_lst, oAdd, oSub, oMul, oDiv, oMod, oPow, oIs, oIsnt, oIn, oNotIn, inD, lookD, oIx_lst, oIx_tup, oIx_frl, oIx_sq, oIx_dT, oIx_dK, getD, oSl, oInt, oSorted, isB, tPut3, tApp3, tDicT, tDicK, tBk3, tCt3, tMin2, tMax2, tNeg3, tIf3E, tAndV3, tOrV3, tNotV3, tIsi, tIndex3, tYes3, tRaise0, tRaise1, tIsE3, tXf3, wipe3, List.set_cons_zero, List.set_cons_succ, List.getElem?_cons_zero, List.getElem?_cons_succ, List.getElem?_nil, Fl.isSt, D.flat, Fl.nb, Fl.item, cond_true, cond_false, Bool.true_or, Bool.or_true, Bool.false_or, Bool.or_false, Bool.and_true, Bool.true_and, Bool.and_false, Bool.false_and, if_true, if_false, ite_true, ite_false, Bool.false_eq_true, Bool.not_true, Bool.not_false, isNon_non, isNon_lst, isNon_tup, isNon_int, isNon_bl, isNon_str, isNon_sq, ty_ii, ty_bi, ty_tt, ty_tl, ty_ti, ty_tn, ty_lt, ty_ll, ty_ib, ty_bb, ni_int, ni_tup, ni_lst, ni_bl, ni_non, List.length_cons, List.length_nil, reduceIte, List.map_cons, List.map_nil, true_and, and_true, Nat.zero_add, Nat.reduceAdd, List.length_map, Nat.zero_le, Int.toNat_natCast]
    refine ⟨by decide, tb, x, _, dr, ot, rfl, by omega, hd, by omega, fun y h1 h2 => ?_⟩
    try simp only [tSeq3, tNx3, tIf3, tRet3, tRetN3, tSet3, tOwn3, tAsg3, tExpr3, tFrz, frzS, tFor3_eq, tLc3_eq, tLc23_eq, tSeq3I_eq, seqK_lst, seqK_tup, seqK_frl, seqK_sq, oTup_lst, oTup_tup, oTup_sq, oList_lst, oList_tup, oList_sq, oLen_lst, oLen_tup, oLen_frl, oLen_sq, flat_sq, tRg1, tRg2, gN3, gT3, gCons3, gNil3, tV3, tC3, tB3, tT3, tIx3, tCh3, tAnd3, tOr3, tNot3, tNil3, tCons3, tTup3, tLst3, tOfL, tCall3, tU3, tUL, tSl3, tNo3, tSome3, tCat3, tRep3, oEq, oNe, oLt_int, oLt_tup, oLe_int, oLe_tup, oGt_int, oGt_tup, oGe_int, oGe_tup, eqD_int, eqD_str, eqD_bl, eqD_non, eqD_tup, eqD_lst, oAdd, oSub, oMul, oDiv, oMod, oPow, oIs, oIsnt, oIn, oNotIn, inD, lookD, oIx_lst, oIx_tup, oIx_frl, oIx_sq, oIx_dT, oIx_dK, getD, oSl, oInt, oSorted, isB, tPut3, tApp3, tDicT, tDicK, tBk3, tCt3, tMin2, tMax2, tNeg3, tIf3E, tAndV3, tOrV3, tNotV3, tIsi, tIndex3, tYes3, tRaise0, tRaise1, tIsE3, tXf3, wipe3, List.set_cons_zero, List.set_cons_succ, List.getElem?_cons_zero, List.getElem?_cons_succ, List.getElem?_nil, Fl.isSt, D.flat, Fl.nb, Fl.item, cond_true, cond_false, Bool.true_or, Bool.or_true, Bool.false_or, Bool.or_false, Bool.and_true, Bool.true_and, Bool.and_false, Bool.false_and, if_true, if_false, ite_true, ite_false, Bool.false_eq_true, Bool.not_true, Bool.not_false, isNon_non, isNon_lst, isNon_tup, isNon_int, isNon_bl, isNon_str, isNon_sq, ty_ii, ty_bi, ty_tt, ty_tl, ty_ti, ty_tn, ty_lt, ty_ll, ty_ib, ty_bb, ni_int, ni_tup, ni_lst, ni_bl, ni_non, List.length_cons, List.length_nil, reduceIte, List.map_cons, List.map_nil, true_and, and_true, Nat.zero_add, Nat.reduceAdd, List.length_map, Nat.zero_le, Int.toNat_natCast]
    refine hK _ ⟨y, ⟨List.all_eq_true.mpr fun c hc => ?_, h2⟩, rfl⟩
    rcases h1 c hc with h | h
    · exact List.all_eq_true.mp hx2 c h
    · exact List.all_eq_true.mp ho2 c h
  rintro _ ⟨y, ⟨hy1, hy2⟩, rfl⟩
  refine seq_mid (fun st => ∃ (ps : List (Int × Int)) (x y : List Int) (tb : Tab), (ps.length ≤ 124 ∧ TabOf tb ps ∧ x.all isLet = true ∧ x.length ≤ 40 ∧ y.all isLet = true ∧ y.length ≤ 34) ∧ st = [.va (.frl (intsD cs)), .va (.int shape), .va (.lst (List.map prD ps)), .va (.lst (intsD x)), .va (.lst (intsD ot)), .va (.lst (intsD dr)), .va (.dT tb), .va (.lst (intsD y)), .un, .un, .un, .un, .un, .un]) (fun K hK => ?_) ?_
  · try simp only [tSeq3, tNx3, tIf3, tRet3, tRetN3, tSet3, tOwn3, tAsg3, tExpr3, tFrz, frzS, tFor3_eq, tLc3_eq, tLc23_eq, tSeq3I_eq, seqK_lst, seqK_tup, seqK_frl, seqK_sq, oTup_lst, oTup_tup, oTup_sq, oList_lst, oList_tup, oList_sq, oLen_lst, oLen_tup, oLen_frl, oLen_sq, flat_sq, tRg1, tRg2, gN3, gT3, gCons3, gNil3, tV3, tC3, tB3, tT3, tIx3, tCh3, tAnd3, tOr3, tNot3, tNil3, tCons3, tTup3, tLst3, tOfL, tCall3, tU3, tUL, tSl3, tNo3, tSome3, tCat3, tRep3, oEq, oNe, oLt_int, oLt_tup, oLe_int, oLe_tup, oGt_int, oGt_tup, oGe_int, oGe_tup, eqD_int, eqD_str, eqD_bl, eqD_non, eqD_tup, eqD_lst, oAdd, oSub, oMul, oDiv, oMod, oPow, oIs, oIsnt, oIn, oNotIn, inD, lookD, oIx_lst, oIx_tup, oIx_frl, oIx_sq, oIx_dT, oIx_dK, getD, oSl, oInt, oSorted, isB, tPut3, tApp3, tDicT, tDicK, tBk3, tCt3, tMin2, tMax2, tNeg3, tIf3E, tAndV3, tOrV3, tNotV3, tIsi, tIndex3, tYes3, tRaise0, tRaise1, tIsE3, tXf3, wipe3, List.set_cons_zero, List.set_cons_succ, List.getElem?_cons_zero, List.getElem?_cons_succ, List.getElem?_nil, Fl.isSt, D.flat, Fl.nb, Fl.item, cond_true, cond_false, Bool.true_or, Bool.or_true, Bool.false_or, Bool.or_false, Bool.and_true, Bool.true_and, Bool.and_false, Bool.false_and, if_true, if_false, ite_true, ite_false, Bool.false_eq_true, Bool.not_true, Bool.not_false, isNon_non, isNon_lst, isNon_tup, isNon_int, isNon_bl, isNon_str, isNon_sq, ty_ii, ty_bi, ty_tt, ty_tl, ty_ti, ty_tn, ty_lt, ty_ll, ty_ib, ty_bb, ni_int, ni_tup, ni_lst, ni_bl, ni_non, List.length_cons, List.length_nil, reduceIte, List.map_cons, List.map_nil, true_and, and_true, Nat.zero_add, Nat.reduceAdd, List.length_map, Nat.zero_le, Int.toNat_natCast]
    refine ⟨by decide, by decide, ?_⟩
    split
    · refine ⟨cs, 2, rfl, fun v => ?_⟩
      try simp only [tSeq3, tNx3, tIf3, tRet3, tRetN3, tSet3, tOwn3, tAsg3, tExpr3, tFrz, frzS, tFor3_eq, tLc3_eq, tLc23_eq, tSeq3I_eq, seqK_lst, seqK_tup, seqK_frl, seqK_sq, oTup_lst, oTup_tup, oTup_sq, oList_lst, oList_tup, oList_sq, oLen_lst, oLen_tup, oLen_frl, oLen_sq, flat_sq, tRg1, tRg2, gN3, gT3, gCons3, gNil3, tV3, tC3, tB3, tT3, tIx3, tCh3, tAnd3, tOr3, tNot3, tNil3, tCons3, tTup3, tLst3, tOfL, tCall3, tU3, tUL, tSl3, tNo3, tSome3, tCat3, tRep3, oEq, oNe, oLt_int, oLt_tup, oLe_int, oLe_tup, oGt_int, oGt_tup, oGe_int, oGe_tup, eqD_int, eqD_str, eqD_bl, eqD_non, eqD_tup, eqD_lst, oAdd, oSub, oMul, oDiv, oMod, oPow, oIs, oIsnt, oIn, oNotIn, inD, lookD, oIx_lst, oIx_tup, oIx_frl, oIx_sq, oIx_dT, oIx_dK, getD, oSl, oInt, oSorted, isB, tPut3, tApp3, tDicT, tDicK, tBk3, tCt3, tMin2, tMax2, tNeg3, tIf3E, tAndV3, tOrV3, tNotV3, tIsi, tIndex3, tYes3, tRaise0, tRaise1, tIsE3, tXf3, wipe3, List.set_cons_zero, List.set_cons_succ, List.getElem?_cons_zero, List.getElem?_cons_succ, List.getElem?_nil, Fl.isSt, D.flat, Fl.nb, Fl.item, cond_true, cond_false, Bool.true_or, Bool.or_true, Bool.false_or, Bool.or_false, Bool.and_true, Bool.true_and, Bool.and_false, Bool.false_and, if_true, if_false, ite_true, ite_false, Bool.false_eq_true, Bool.not_true, Bool.not_false, isNon_non, isNon_lst, isNon_tup, isNon_int, isNon_bl, isNon_str, isNon_sq, ty_ii, ty_bi, ty_tt, ty_tl, ty_ti, ty_tn, ty_lt, ty_ll, ty_ib, ty_bb, ni_int, ni_tup, ni_lst, ni_bl, ni_non, List.length_cons, List.length_nil, reduceIte, List.map_cons, List.map_nil, true_and, and_true, Nat.zero_add, Nat.reduceAdd, List.length_map, Nat.zero_le, Int.toNat_natCast]
      obtain ⟨n, hn⟩ := nat_of (Int.emod_nonneg (shape / 500) (b := 10) (by decide))
      have hn2 := Int.emod_lt_of_pos (shape / 500) (b := 10) (by decide)
      rw [hn] at hn2 ⊢
      refine ⟨by decide, by decide, v, 4, 31 + n, rfl, by decide, by decide, by omega, fun d1 h1 h2 => ?_⟩
      try simp only [tSeq3, tNx3, tIf3, tRet3, tRetN3, tSet3, tOwn3, tAsg3, tExpr3, tFrz, frzS, tFor3_eq, tLc3_eq, tLc23_eq, tSeq3I_eq, seqK_lst, seqK_tup, seqK_frl, seqK_sq, oTup_lst, oTup_tup, oTup_sq, oList_lst, oList_tup, oList_sq, oLen_lst, oLen_tup, oLen_frl, oLen_sq, flat_sq, tRg1, tRg2, gN3, gT3, gCons3, gNil3, tV3, tC3, tB3, tT3, tIx3, tCh3, tAnd3, tOr3, tNot3, tNil3, tCons3, tTup3, tLst3, tOfL, tCall3, tU3, tUL, tSl3, tNo3, tSome3, tCat3, tRep3, oEq, oNe, oLt_int, oLt_tup, oLe_int, oLe_tup, oGt_int, oGt_tup, oGe_int, oGe_tup, eqD_int, eqD_str, eqD_bl, eqD_non, eqD_tup, eqD_lst, oAdd, oSub, oMul, oDiv, oMod, oPow, oIs, oIsnt, oIn, oNotIn, inD, lookD, oIx_lst, oIx_tup, oIx_frl, oIx_sq, oIx_dT, oIx_dK, getD, oSl, oInt, oSorted, isB, tPut3, tApp3, tDicT, tDicK, tBk3, tCt3, tMin2, tMax2, tNeg3, tIf3E, tAndV3, tOrV3, tNotV3, tIsi, tIndex3, tYes3, tRaise0, tRaise1, tIsE3, tXf3, wipe3, List.set_cons_zero, List.set_cons_succ, List.getElem?_cons_zero, List.getElem?_cons_succ, List.getElem?_nil, Fl.isSt, D.flat, Fl.nb, Fl.item, cond_true, cond_false, Bool.true_or, Bool.or_true, Bool.false_or, Bool.or_false, Bool.and_true, Bool.true_and, Bool.and_false, Bool.false_and, if_true, if_false, ite_true, ite_false, Bool.false_eq_true, Bool.not_true, Bool.not_false, isNon_non, isNon_lst, isNon_tup, isNon_int, isNon_bl, isNon_str, isNon_sq, ty_ii, ty_bi, ty_tt, ty_tl, ty_ti, ty_tn, ty_lt, ty_ll, ty_ib, ty_bb, ni_int, ni_tup, ni_lst, ni_bl, ni_non, List.length_cons, List.length_nil, reduceIte, List.map_cons, List.map_nil, true_and, and_true, Nat.zero_add, Nat.reduceAdd, List.length_map, Nat.zero_le, Int.toNat_natCast]
      refine lcP_all (fun c => .int (c % 2)) (le_line (by omega)) (fun c hc Z hZ => ?_) ?_
      · try simp only [tSeq3, tNx3, tIf3, tRet3, tRetN3, tSet3, tOwn3, tAsg3, tExpr3, tFrz, frzS, tFor3_eq, tLc3_eq, tLc23_eq, tSeq3I_eq, seqK_lst, seqK_tup, seqK_frl, seqK_sq, oTup_lst, oTup_tup, oTup_sq, oList_lst, oList_tup, oList_sq, oLen_lst, oLen_tup, oLen_frl, oLen_sq, flat_sq, tRg1, tRg2, gN3, gT3, gCons3, gNil3, tV3, tC3, tB3, tT3, tIx3, tCh3, tAnd3, tOr3, tNot3, tNil3, tCons3, tTup3, tLst3, tOfL, tCall3, tU3, tUL, tSl3, tNo3, tSome3, tCat3, tRep3, oEq, oNe, oLt_int, oLt_tup, oLe_int, oLe_tup, oGt_int, oGt_tup, oGe_int, oGe_tup, eqD_int, eqD_str, eqD_bl, eqD_non, eqD_tup, eqD_lst, oAdd, oSub, oMul, oDiv, oMod, oPow, oIs, oIsnt, oIn, oNotIn, inD, lookD, oIx_lst, oIx_tup, oIx_frl, oIx_sq, oIx_dT, oIx_dK, getD, oSl, oInt, oSorted, isB, tPut3, tApp3, tDicT, tDicK, tBk3, tCt3, tMin2, tMax2, tNeg3, tIf3E, tAndV3, tOrV3, tNotV3, tIsi, tIndex3, tYes3, tRaise0, tRaise1, tIsE3, tXf3, wipe3, List.set_cons_zero, List.set_cons_succ, List.getElem?_cons_zero, List.getElem?_cons_succ, List.getElem?_nil, Fl.isSt, D.flat, Fl.nb, Fl.item, cond_true, cond_false, Bool.true_or, Bool.or_true, Bool.false_or, Bool.or_false, Bool.and_true, Bool.true_and, Bool.and_false, Bool.false_and, if_true, if_false, ite_true, ite_false, Bool.false_eq_true, Bool.not_true, Bool.not_false, isNon_non, isNon_lst, isNon_tup, isNon_int, isNon_bl, isNon_str, isNon_sq, ty_ii, ty_bi, ty_tt, ty_tl, ty_ti, ty_tn, ty_lt, ty_ll, ty_ib, ty_bb, ni_int, ni_tup, ni_lst, ni_bl, ni_non, List.length_cons, List.length_nil, reduceIte, List.map_cons, List.map_nil, true_and, and_true, Nat.zero_add, Nat.reduceAdd, List.length_map, Nat.zero_le, Int.toNat_natCast]
        exact ⟨by decide, hZ _ rfl⟩
      rw [show List.map (fun c => D.int (c % 2)) d1 = intsD (d1.map fun c => c % 2) by
        show _ = List.map D.int (List.map _ d1)
        rw [List.map_map]
        rfl]
      have hx : (d1.map fun c => c % 2).all isLet = true := List.all_eq_true.mpr fun c hc => by
        obtain ⟨b, _, rfl⟩ := List.mem_map.mp hc
        simp only [isLet, Bool.and_eq_true, decide_eq_true_eq]
        omega
      have hxl : (d1.map fun c => c % 2).length ≤ 40 := by rw [List.length_map]; omega
      generalize (d1.map fun c => c % 2) = x' at hx hxl ⊢
      refine ⟨cs, 4, rfl, fun v => ?_⟩
      try simp only [tSeq3, tNx3, tIf3, tRet3, tRetN3, tSet3, tOwn3, tAsg3, tExpr3, tFrz, frzS, tFor3_eq, tLc3_eq, tLc23_eq, tSeq3I_eq, seqK_lst, seqK_tup, seqK_frl, seqK_sq, oTup_lst, oTup_tup, oTup_sq, oList_lst, oList_tup, oList_sq, oLen_lst, oLen_tup, oLen_frl, oLen_sq, flat_sq, tRg1, tRg2, gN3, gT3, gCons3, gNil3, tV3, tC3, tB3, tT3, tIx3, tCh3, tAnd3, tOr3, tNot3, tNil3, tCons3, tTup3, tLst3, tOfL, tCall3, tU3, tUL, tSl3, tNo3, tSome3, tCat3, tRep3, oEq, oNe, oLt_int, oLt_tup, oLe_int, oLe_tup, oGt_int, oGt_tup, oGe_int, oGe_tup, eqD_int, eqD_str, eqD_bl, eqD_non, eqD_tup, eqD_lst, oAdd, oSub, oMul, oDiv, oMod, oPow, oIs, oIsnt, oIn, oNotIn, inD, lookD, oIx_lst, oIx_tup, oIx_frl, oIx_sq, oIx_dT, oIx_dK, getD, oSl, oInt, oSorted, isB, tPut3, tApp3, tDicT, tDicK, tBk3, tCt3, tMin2, tMax2, tNeg3, tIf3E, tAndV3, tOrV3, tNotV3, tIsi, tIndex3, tYes3, tRaise0, tRaise1, tIsE3, tXf3, wipe3, List.set_cons_zero, List.set_cons_succ, List.getElem?_cons_zero, List.getElem?_cons_succ, List.getElem?_nil, Fl.isSt, D.flat, Fl.nb, Fl.item, cond_true, cond_false, Bool.true_or, Bool.or_true, Bool.false_or, Bool.or_false, Bool.and_true, Bool.true_and, Bool.and_false, Bool.false_and, if_true, if_false, ite_true, ite_false, Bool.false_eq_true, Bool.not_true, Bool.not_false, isNon_non, isNon_lst, isNon_tup, isNon_int, isNon_bl, isNon_str, isNon_sq, ty_ii, ty_bi, ty_tt, ty_tl, ty_ti, ty_tn, ty_lt, ty_ll, ty_ib, ty_bb, ni_int, ni_tup, ni_lst, ni_bl, ni_non, List.length_cons, List.length_nil, reduceIte, List.map_cons, List.map_nil, true_and, and_true, Nat.zero_add, Nat.reduceAdd, List.length_map, Nat.zero_le, Int.toNat_natCast]
      obtain ⟨n, hn⟩ := nat_of (Int.emod_nonneg (shape / 5000) (b := 10) (by decide))
      have hn2 := Int.emod_lt_of_pos (shape / 5000) (b := 10) (by decide)
      rw [hn] at hn2 ⊢
      refine ⟨by decide, by decide, v, 4, 25 + n, rfl, by decide, by decide, by omega, fun d2 h3 h4 => ?_⟩
      try simp only [tSeq3, tNx3, tIf3, tRet3, tRetN3, tSet3, tOwn3, tAsg3, tExpr3, tFrz, frzS, tFor3_eq, tLc3_eq, tLc23_eq, tSeq3I_eq, seqK_lst, seqK_tup, seqK_frl, seqK_sq, oTup_lst, oTup_tup, oTup_sq, oList_lst, oList_tup, oList_sq, oLen_lst, oLen_tup, oLen_frl, oLen_sq, flat_sq, tRg1, tRg2, gN3, gT3, gCons3, gNil3, tV3, tC3, tB3, tT3, tIx3, tCh3, tAnd3, tOr3, tNot3, tNil3, tCons3, tTup3, tLst3, tOfL, tCall3, tU3, tUL, tSl3, tNo3, tSome3, tCat3, tRep3, oEq, oNe, oLt_int, oLt_tup, oLe_int, oLe_tup, oGt_int, oGt_tup, oGe_int, oGe_tup, eqD_int, eqD_str, eqD_bl, eqD_non, eqD_tup, eqD_lst, oAdd, oSub, oMul, oDiv, oMod, oPow, oIs, oIsnt, oIn, oNotIn, inD, lookD, oIx_lst, oIx_tup, oIx_frl, oIx_sq, oIx_dT, oIx_dK, getD, oSl, oInt, oSorted, isB, tPut3, tApp3, tDicT, tDicK, tBk3, tCt3, tMin2, tMax2, tNeg3, tIf3E, tAndV3, tOrV3, tNotV3, tIsi, tIndex3, tYes3, tRaise0, tRaise1, tIsE3, tXf3, wipe3, List.set_cons_zero, List.set_cons_succ, List.getElem?_cons_zero, List.getElem?_cons_succ, List.getElem?_nil, Fl.isSt, D.flat, Fl.nb, Fl.item, cond_true, cond_false, Bool.true_or, Bool.or_true, Bool.false_or, Bool.or_false, Bool.and_true, Bool.true_and, Bool.and_false, Bool.false_and, if_true, if_false, ite_true, ite_false, Bool.false_eq_true, Bool.not_true, Bool.not_false, isNon_non, isNon_lst, isNon_tup, isNon_int, isNon_bl, isNon_str, isNon_sq, ty_ii, ty_bi, ty_tt, ty_tl, ty_ti, ty_tn, ty_lt, ty_ll, ty_ib, ty_bb, ni_int, ni_tup, ni_lst, ni_bl, ni_non, List.length_cons, List.length_nil, reduceIte, List.map_cons, List.map_nil, true_and, and_true, Nat.zero_add, Nat.reduceAdd, List.length_map, Nat.zero_le, Int.toNat_natCast]
      refine lcP_all (fun c => .int (2 + c % 2)) (le_line (by omega)) (fun c hc Z hZ => ?_) ?_
      · try simp only [tSeq3, tNx3, tIf3, tRet3, tRetN3, tSet3, tOwn3, tAsg3, tExpr3, tFrz, frzS, tFor3_eq, tLc3_eq, tLc23_eq, tSeq3I_eq, seqK_lst, seqK_tup, seqK_frl, seqK_sq, oTup_lst, oTup_tup, oTup_sq, oList_lst, oList_tup, oList_sq, oLen_lst, oLen_tup, oLen_frl, oLen_sq, flat_sq, tRg1, tRg2, gN3, gT3, gCons3, gNil3, tV3, tC3, tB3, tT3, tIx3, tCh3, tAnd3, tOr3, tNot3, tNil3, tCons3, tTup3, tLst3, tOfL, tCall3, tU3, tUL, tSl3, tNo3, tSome3, tCat3, tRep3, oEq, oNe, oLt_int, oLt_tup, oLe_int, oLe_tup, oGt_int, oGt_tup, oGe_int, oGe_tup, eqD_int, eqD_str, eqD_bl, eqD_non, eqD_tup, eqD_lst, oAdd, oSub, oMul, oDiv, oMod, oPow, oIs, oIsnt, oIn, oNotIn, inD, lookD, oIx_lst, oIx_tup, oIx_frl, oIx_sq, oIx_dT, oIx_dK, getD, oSl, oInt, oSorted, isB, tPut3, tApp3, tDicT, tDicK, tBk3, tCt3, tMin2, tMax2, tNeg3, tIf3E, tAndV3, tOrV3, tNotV3, tIsi, tIndex3, tYes3, tRaise0, tRaise1, tIsE3, tXf3, wipe3, List.set_cons_zero, List.set_cons_succ, List.getElem?_cons_zero, List.getElem?_cons_succ, List.getElem?_nil, Fl.isSt, D.flat, Fl.nb, Fl.item, cond_true, cond_false, Bool.true_or, Bool.or_true, Bool.false_or, Bool.or_false, Bool.and_true, Bool.true_and, Bool.and_false, Bool.false_and, if_true, if_false, ite_true, ite_false, Bool.false_eq_true, Bool.not_true, Bool.not_false, isNon_non, isNon_lst, isNon_tup, isNon_int, isNon_bl, isNon_str, isNon_sq, ty_ii, ty_bi, ty_tt, ty_tl, ty_ti, ty_tn, ty_lt, ty_ll, ty_ib, ty_bb, ni_int, ni_tup, ni_lst, ni_bl, ni_non, List.length_cons, List.length_nil, reduceIte, List.map_cons, List.map_nil, true_and, and_true, Nat.zero_add, Nat.reduceAdd, List.length_map, Nat.zero_le, Int.toNat_natCast]
        exact ⟨by decide, hZ _ rfl⟩
      rw [show List.map (fun c => D.int (2 + c % 2)) d2 = intsD (d2.map fun c => 2 + c % 2) by
        show _ = List.map D.int (List.map _ d2)
        rw [List.map_map]
        rfl]
      have hy : (d2.map fun c => 2 + c % 2).all isLet = true := List.all_eq_true.mpr fun c hc => by
        obtain ⟨b, _, rfl⟩ := List.mem_map.mp hc
        simp only [isLet, Bool.and_eq_true, decide_eq_true_eq]
        omega
      have hyl : (d2.map fun c => 2 + c % 2).length ≤ 34 := by rw [List.length_map]; omega
      generalize (d2.map fun c => 2 + c % 2) = y' at hy hyl ⊢
      refine lcP_d (f := prD) (xs := ps) (fun p => decide (1 < p.1) || (decide (p.2 < 2) || decide (3 < p.2))) prD (le_line (by omega)) (fun p hp acc R ha hR => ?_) ?_
      · try simp only [tSeq3, tNx3, tIf3, tRet3, tRetN3, tSet3, tOwn3, tAsg3, tExpr3, tFrz, frzS, tFor3_eq, tLc3_eq, tLc23_eq, tSeq3I_eq, seqK_lst, seqK_tup, seqK_frl, seqK_sq, oTup_lst, oTup_tup, oTup_sq, oList_lst, oList_tup, oList_sq, oLen_lst, oLen_tup, oLen_frl, oLen_sq, flat_sq, tRg1, tRg2, gN3, gT3, gCons3, gNil3, tV3, tC3, tB3, tT3, tIx3, tCh3, tAnd3, tOr3, tNot3, tNil3, tCons3, tTup3, tLst3, tOfL, tCall3, tU3, tUL, tSl3, tNo3, tSome3, tCat3, tRep3, oEq, oNe, oLt_int, oLt_tup, oLe_int, oLe_tup, oGt_int, oGt_tup, oGe_int, oGe_tup, eqD_int, eqD_str, eqD_bl, eqD_non, eqD_tup, eqD_lst, oAdd, oSub, oMul, oDiv, oMod, oPow, oIs, oIsnt, oIn, oNotIn, inD, lookD, oIx_lst, oIx_tup, oIx_frl, oIx_sq, oIx_dT, oIx_dK, getD, oSl, oInt, oSorted, isB, tPut3, tApp3, tDicT, tDicK, tBk3, tCt3, tMin2, tMax2, tNeg3, tIf3E, tAndV3, tOrV3, tNotV3, tIsi, tIndex3, tYes3, tRaise0, tRaise1, tIsE3, tXf3, wipe3, List.set_cons_zero, List.set_cons_succ, List.getElem?_cons_zero, List.getElem?_cons_succ, List.getElem?_nil, Fl.isSt, D.flat, Fl.nb, Fl.item, cond_true, cond_false, Bool.true_or, Bool.or_true, Bool.false_or, Bool.or_false, Bool.and_true, Bool.true_and, Bool.and_false, Bool.false_and, if_true, if_false, ite_true, ite_false, Bool.false_eq_true, Bool.not_true, Bool.not_false, isNon_non, isNon_lst, isNon_tup, isNon_int, isNon_bl, isNon_str, isNon_sq, ty_ii, ty_bi, ty_tt, ty_tl, ty_ti, ty_tn, ty_lt, ty_ll, ty_ib, ty_bb, ni_int, ni_tup, ni_lst, ni_bl, ni_non, List.length_cons, List.length_nil, reduceIte, List.map_cons, List.map_nil, true_and, and_true, Nat.zero_add, Nat.reduceAdd, List.length_map, Nat.zero_le, Int.toNat_natCast]
        refine ⟨_, rfl, ?_⟩
        try simp only [tSeq3, tNx3, tIf3, tRet3, tRetN3, tSet3, tOwn3, tAsg3, tExpr3, tFrz, frzS, tFor3_eq, tLc3_eq, tLc23_eq, tSeq3I_eq, seqK_lst, seqK_tup, seqK_frl, seqK_sq, oTup_lst, oTup_tup, oTup_sq, oList_lst, oList_tup, oList_sq, oLen_lst, oLen_tup, oLen_frl, oLen_sq, flat_sq, tRg1, tRg2, gN3, gT3, gCons3, gNil3, tV3, tC3, tB3, tT3, tIx3, tCh3, tAnd3, tOr3, tNot3, tNil3, tCons3, tTup3, tLst3, tOfL, tCall3, tU3, tUL, tSl3, tNo3, tSome3, tCat3, tRep3, oEq, oNe, oLt_int, oLt_tup, oLe_int, oLe_tup, oGt_int, oGt_tup, oGe_int, oGe_tup, eqD_int, eqD_str, eqD_bl, eqD_non, eqD_tup, eqD_lst, oAdd, oSub, oMul, oDiv, oMod, oPow, oIs, oIsnt, oIn, oNotIn, inD, lookD, oIx_lst, oIx_tup, oIx_frl, oIx_sq, oIx_dT, oIx_dK, getD, oSl, oInt, oSorted, isB, tPut3, tApp3, tDicT, tDicK, tBk3, tCt3, tMin2, tMax2, tNeg3, tIf3E, tAndV3, tOrV3, tNotV3, tIsi, tIndex3, tYes3, tRaise0, tRaise1, tIsE3, tXf3, wipe3, List.set_cons_zero, List.set_cons_succ, List.getElem?_cons_zero, List.getElem?_cons_succ, List.getElem?_nil, Fl.isSt, D.flat, Fl.nb, Fl.item, cond_true, cond_false, Bool.true_or, Bool.or_true, Bool.false_or, Bool.or_false, Bool.and_true, Bool.true_and, Bool.and_false, Bool.false_and, if_true, if_false, ite_true, ite_false, Bool.false_eq_true, Bool.not_true, Bool.not_false, isNon_non, isNon_lst, isNon_tup, isNon_int, isNon_bl, isNon_str, isNon_sq, ty_ii, ty_bi, ty_tt, ty_tl, ty_ti, ty_tn, ty_lt, ty_ll, ty_ib, ty_bb, ni_int, ni_tup, ni_lst, ni_bl, ni_non, List.length_cons, List.length_nil, reduceIte, List.map_cons, List.map_nil, true_and, and_true, Nat.zero_add, Nat.reduceAdd, List.length_map, Nat.zero_le, Int.toNat_natCast]
        by_cases c1 : 1 < p.1
        · simp only [c1, decide_true, if_true, Bool.true_or] at hR ⊢
          exact ⟨ha, hR⟩
        · simp only [c1, decide_false, Bool.false_or, Bool.false_eq_true, if_false] at hR ⊢
          refine ⟨_, rfl, ?_⟩
          try simp only [tSeq3, tNx3, tIf3, tRet3, tRetN3, tSet3, tOwn3, tAsg3, tExpr3, tFrz, frzS, tFor3_eq, tLc3_eq, tLc23_eq, tSeq3I_eq, seqK_lst, seqK_tup, seqK_frl, seqK_sq, oTup_lst, oTup_tup, oTup_sq, oList_lst, oList_tup, oList_sq, oLen_lst, oLen_tup, oLen_frl, oLen_sq, flat_sq, tRg1, tRg2, gN3, gT3, gCons3, gNil3, tV3, tC3, tB3, tT3, tIx3, tCh3, tAnd3, tOr3, tNot3, tNil3, tCons3, tTup3, tLst3, tOfL, tCall3, tU3, tUL, tSl3, tNo3, tSome3, tCat3, tRep3, oEq, oNe, oLt_int, oLt_tup, oLe_int, oLe_tup, oGt_int, oGt_tup, oGe_int, oGe_tup, eqD_int, eqD_str, eqD_bl, eqD_non, eqD_tup, eqD_lst, oAdd, oSub, oMul, oDiv, oMod, oPow, oIs, oIsnt, oIn, oNotIn, inD, lookD, oIx_lst, oIx_tup, oIx_frl, oIx_sq, oIx_dT, oIx_dK, getD, oSl, oInt, oSorted, isB, tPut3, tApp3, tDicT, tDicK, tBk3, tCt3, tMin2, tMax2, tNeg3, tIf3E, tAndV3, tOrV3, tNotV3, tIsi, tIndex3, tYes3, tRaise0, tRaise1, tIsE3, tXf3, wipe3, List.set_cons_zero, List.set_cons_succ, List.getElem?_cons_zero, List.getElem?_cons_succ, List.getElem?_nil, Fl.isSt, D.flat, Fl.nb, Fl.item, cond_true, cond_false, Bool.true_or, Bool.or_true, Bool.false_or, Bool.or_false, Bool.and_true, Bool.true_and, Bool.and_false, Bool.false_and, if_true, if_false, ite_true, ite_false, Bool.false_eq_true, Bool.not_true, Bool.not_false, isNon_non, isNon_lst, isNon_tup, isNon_int, isNon_bl, isNon_str, isNon_sq, ty_ii, ty_bi, ty_tt, ty_tl, ty_ti, ty_tn, ty_lt, ty_ll, ty_ib, ty_bb, ni_int, ni_tup, ni_lst, ni_bl, ni_non, List.length_cons, List.length_nil, reduceIte, List.map_cons, List.map_nil, true_and, and_true, Nat.zero_add, Nat.reduceAdd, List.length_map, Nat.zero_le, Int.toNat_natCast]
          by_cases c2 : p.2 < 2
          · simp only [c2, decide_true, if_true, Bool.true_or] at hR ⊢
            exact ⟨ha, hR⟩
          · simp only [c2, decide_false, Bool.false_or, Bool.false_eq_true, if_false] at hR ⊢
            refine ⟨_, rfl, ?_⟩
            try simp only [tSeq3, tNx3, tIf3, tRet3, tRetN3, tSet3, tOwn3, tAsg3, tExpr3, tFrz, frzS, tFor3_eq, tLc3_eq, tLc23_eq, tSeq3I_eq, seqK_lst, seqK_tup, seqK_frl, seqK_sq, oTup_lst, oTup_tup, oTup_sq, oList_lst, oList_tup, oList_sq, oLen_lst, oLen_tup, oLen_frl, oLen_sq, flat_sq, tRg1, tRg2, gN3, gT3, gCons3, gNil3, tV3, tC3, tB3, tT3, tIx3, tCh3, tAnd3, tOr3, tNot3, tNil3, tCons3, tTup3, tLst3, tOfL, tCall3, tU3, tUL, tSl3, tNo3, tSome3, tCat3, tRep3, oEq, oNe, oLt_int, oLt_tup, oLe_int, oLe_tup, oGt_int, oGt_tup, oGe_int, oGe_tup, eqD_int, eqD_str, eqD_bl, eqD_non, eqD_tup, eqD_lst, oAdd, oSub, oMul, oDiv, oMod, oPow, oIs, oIsnt, oIn, oNotIn, inD, lookD, oIx_lst, oIx_tup, oIx_frl, oIx_sq, oIx_dT, oIx_dK, getD, oSl, oInt, oSorted, isB, tPut3, tApp3, tDicT, tDicK, tBk3, tCt3, tMin2, tMax2, tNeg3, tIf3E, tAndV3, tOrV3, tNotV3, tIsi, tIndex3, tYes3, tRaise0, tRaise1, tIsE3, tXf3, wipe3, List.set_cons_zero, List.set_cons_succ, List.getElem?_cons_zero, List.getElem?_cons_succ, List.getElem?_nil, Fl.isSt, D.flat, Fl.nb, Fl.item, cond_true, cond_false, Bool.true_or, Bool.or_true, Bool.false_or, Bool.or_false, Bool.and_true, Bool.true_and, Bool.and_false, Bool.false_and, if_true, if_false, ite_true, ite_false, Bool.false_eq_true, Bool.not_true, Bool.not_false, isNon_non, isNon_lst, isNon_tup, isNon_int, isNon_bl, isNon_str, isNon_sq, ty_ii, ty_bi, ty_tt, ty_tl, ty_ti, ty_tn, ty_lt, ty_ll, ty_ib, ty_bb, ni_int, ni_tup, ni_lst, ni_bl, ni_non, List.length_cons, List.length_nil, reduceIte, List.map_cons, List.map_nil, true_and, and_true, Nat.zero_add, Nat.reduceAdd, List.length_map, Nat.zero_le, Int.toNat_natCast]
            by_cases c3 : 3 < p.2
            · simp only [c3, decide_true, if_true] at hR ⊢
              exact ⟨ha, hR⟩
            · simp only [c3, decide_false, Bool.false_eq_true, if_false, List.append_nil] at hR ⊢
              exact hR
      · generalize hP : ps.filter (fun p => decide (1 < p.1) || (decide (p.2 < 2) || decide (3 < p.2))) = P'
        have hPm : ∀ p ∈ P', 0 ≤ p.1 ∧ p.1 < p.2 ∧ p.2 < 16 := fun p hp => by
          rw [← hP] at hp
          exact hp2 p (List.mem_filter.mp hp).1
        have hPl : P'.length ≤ 120 := by rw [← hP]; exact Nat.le_trans (List.length_filter_le _ _) hp1
        refine ⟨le_line (by decide), le_line (by decide), le_line (by decide), le_line (by decide), le_line (by decide), le_line (by rw [List.length_map]; omega), ?_⟩
        rw [show List.map prD P' ++ [D.tup [D.int 0, D.int 2], D.tup [D.int 0, D.int 3], D.tup [D.int 1, D.int 2], D.tup [D.int 1, D.int 3]] = List.map prD (P' ++ [(0, 2), (0, 3), (1, 2), (1, 3)]) by rw [List.map_append]; rfl]
        have hP2 : ∀ p ∈ P' ++ [((0 : Int), (2 : Int)), (0, 3), (1, 2), (1, 3)], p.1 < p.2 := fun p hp => by
          rcases List.mem_append.mp hp with h | h
          · exact (hPm p h).2.1
          · simp only [List.mem_cons, List.not_mem_nil, or_false] at h
            rcases h with rfl | rfl | rfl | rfl <;> decide
        have hPl2 : (P' ++ [((0 : Int), (2 : Int)), (0, 3), (1, 2), (1, 3)]).length ≤ 124 := by rw [List.length_append]; simp; omega
        generalize (P' ++ [((0 : Int), (2 : Int)), (0, 3), (1, 2), (1, 3)]) = P2 at hP2 hPl2 ⊢
        refine ⟨P2, rfl, by omega, fun tb' h5 => ?_⟩
        exact hK _ ⟨P2, x', y', tb', ⟨hPl2, ⟨h5, hP2⟩, hx, hxl, hy, hyl⟩, rfl⟩
    · exact hK _ ⟨ps, x, y, tb, ⟨by omega, htb, hx2, by omega, hy1, by omega⟩, rfl⟩
  rintro _ ⟨ps, x, y, tb, ⟨hp1, htb, hx2, hx1, hy1, hy2⟩, rfl⟩
  refine seq_mid (fun st => ∃ s : List Int, (s.all isLet = true ∧ s.length ≤ 9) ∧ st = [.va (.frl (intsD cs)), .va (.int shape), .va (.lst (List.map prD ps)), .va (.lst (intsD x)), .va (.lst (intsD ot)), .va (.lst (intsD dr)), .va (.dT tb), .va (.lst (intsD y)), .va (.lst (intsD s)), .un, .un, .un, .un, .un]) (fun K hK => ?_) ?_
  · try simp only [tSeq3, tNx3, tIf3, tRet3, tRetN3, tSet3, tOwn3, tAsg3, tExpr3, tFrz, frzS, tFor3_eq, tLc3_eq, tLc23_eq, tSeq3I_eq, seqK_lst, seqK_tup, seqK_frl, seqK_sq, oTup_lst, oTup_tup, oTup_sq, oList_lst, oList_tup, oList_sq, oLen_lst, oLen_tup, oLen_frl, oLen_sq, flat_sq, tRg1, tRg2, gN3, gT3, gCons3, gNil3, tV3, tC3, tB3, tT3, tIx3, tCh3, tAnd3, tOr3, tNot3, tNil3, tCons3, tTup3, tLst3, tOfL, tCall3, tU3, tUL, tSl3, tNo3, tSome3, tCat3, tRep3, oEq, oNe, oLt_int, oLt_tup, oLe_int, oLe_tup, oGt_int, oGt_tup, oGe_int, oGe_tup, eqD_int, eqD_str, eqD_bl, eqD_non, eqD_tup, eqD_lst, oAdd, oSub, oMul, oDiv, oMod, oPow, oIs, oIsnt, oIn, oNotIn, inD, lookD, oIx_lst, oIx_tup, oIx_frl, oIx_sq, oIx_dT, oIx_dK, getD, oSl, oInt, oSorted, isB, tPut3, tApp3, tDicT, tDicK, tBk3, tCt3, tMin2, tMax2, tNeg3, tIf3E, tAndV3, tOrV3, tNotV3, tIsi, tIndex3, tYes3, tRaise0, tRaise1, tIsE3, tXf3, wipe3, List.set_cons_zero, List.set_cons_succ, List.getElem?_cons_zero, List.getElem?_cons_succ, List.getElem?_nil, Fl.isSt, D.flat, Fl.nb, Fl.item, cond_true, cond_false, Bool.true_or, Bool.or_true, Bool.false_or, Bool.or_false, Bool.and_true, Bool.true_and, Bool.and_false, Bool.false_and, if_true, if_false, ite_true, ite_false, Bool.false_eq_true, Bool.not_true, Bool.not_false, isNon_non, isNon_lst, isNon_tup, isNon_int, isNon_bl, isNon_str, isNon_sq, ty_ii, ty_bi, ty_tt, ty_tl, ty_ti, ty_tn, ty_lt, ty_ll, ty_ib, ty_bb, ni_int, ni_tup, ni_lst, ni_bl, ni_non, List.length_cons, List.length_nil, reduceIte, List.map_cons, List.map_nil, true_and, and_true, Nat.zero_add, Nat.reduceAdd, List.length_map, Nat.zero_le, Int.toNat_natCast]
    rw [show (9 : Int) = ((9 : Nat) : Int) from rfl, cutD_none_nat, ← List.map_take]
    refine ⟨tb, x.take 9, dr, rfl, by rw [List.length_take]; omega, hd, fun s l hb hm hs => ?_⟩
    try simp only [tSeq3, tNx3, tIf3, tRet3, tRetN3, tSet3, tOwn3, tAsg3, tExpr3, tFrz, frzS, tFor3_eq, tLc3_eq, tLc23_eq, tSeq3I_eq, seqK_lst, seqK_tup, seqK_frl, seqK_sq, oTup_lst, oTup_tup, oTup_sq, oList_lst, oList_tup, oList_sq, oLen_lst, oLen_tup, oLen_frl, oLen_sq, flat_sq, tRg1, tRg2, gN3, gT3, gCons3, gNil3, tV3, tC3, tB3, tT3, tIx3, tCh3, tAnd3, tOr3, tNot3, tNil3, tCons3, tTup3, tLst3, tOfL, tCall3, tU3, tUL, tSl3, tNo3, tSome3, tCat3, tRep3, oEq, oNe, oLt_int, oLt_tup, oLe_int, oLe_tup, oGt_int, oGt_tup, oGe_int, oGe_tup, eqD_int, eqD_str, eqD_bl, eqD_non, eqD_tup, eqD_lst, oAdd, oSub, oMul, oDiv, oMod, oPow, oIs, oIsnt, oIn, oNotIn, inD, lookD, oIx_lst, oIx_tup, oIx_frl, oIx_sq, oIx_dT, oIx_dK, getD, oSl, oInt, oSorted, isB, tPut3, tApp3, tDicT, tDicK, tBk3, tCt3, tMin2, tMax2, tNeg3, tIf3E, tAndV3, tOrV3, tNotV3, tIsi, tIndex3, tYes3, tRaise0, tRaise1, tIsE3, tXf3, wipe3, List.set_cons_zero, List.set_cons_succ, List.getElem?_cons_zero, List.getElem?_cons_succ, List.getElem?_nil, Fl.isSt, D.flat, Fl.nb, Fl.item, cond_true, cond_false, Bool.true_or, Bool.or_true, Bool.false_or, Bool.or_false, Bool.and_true, Bool.true_and, Bool.and_false, Bool.false_and, if_true, if_false, ite_true, ite_false, Bool.false_eq_true, Bool.not_true, Bool.not_false, isNon_non, isNon_lst, isNon_tup, isNon_int, isNon_bl, isNon_str, isNon_sq, ty_ii, ty_bi, ty_tt, ty_tl, ty_ti, ty_tn, ty_lt, ty_ll, ty_ib, ty_bb, ni_int, ni_tup, ni_lst, ni_bl, ni_non, List.length_cons, List.length_nil, reduceIte, List.map_cons, List.map_nil, true_and, and_true, Nat.zero_add, Nat.reduceAdd, List.length_map, Nat.zero_le, Int.toNat_natCast]
    exact hK _ ⟨s, ⟨all_of hx2 fun c hc => List.mem_of_mem_take (hm c hc), hs⟩, rfl⟩
  rintro _ ⟨s, ⟨hs1, hs2⟩, rfl⟩
  refine seq_mid (fun st => ∃ ch : Int, st = [.va (.frl (intsD cs)), .va (.int shape), .va (.lst (List.map prD ps)), .va (.lst (intsD x)), .va (.lst (intsD ot)), .va (.lst (intsD dr)), .va (.dT tb), .va (.lst (intsD y)), .va (.lst (intsD s)), .va (.int ch), .un, .un, .un, .un]) (fun K hK => ?_) ?_
  · try simp only [tSeq3, tNx3, tIf3, tRet3, tRetN3, tSet3, tOwn3, tAsg3, tExpr3, tFrz, frzS, tFor3_eq, tLc3_eq, tLc23_eq, tSeq3I_eq, seqK_lst, seqK_tup, seqK_frl, seqK_sq, oTup_lst, oTup_tup, oTup_sq, oList_lst, oList_tup, oList_sq, oLen_lst, oLen_tup, oLen_frl, oLen_sq, flat_sq, tRg1, tRg2, gN3, gT3, gCons3, gNil3, tV3, tC3, tB3, tT3, tIx3, tCh3, tAnd3, tOr3, tNot3, tNil3, tCons3, tTup3, tLst3, tOfL, tCall3, tU3, tUL, tSl3, tNo3, tSome3, tCat3, tRep3, oEq, oNe, oLt_int, oLt_tup, oLe_int, oLe_tup, oGt_int, oGt_tup, oGe_int, oGe_tup, eqD_int, eqD_str, eqD_bl, eqD_non, eqD_tup, eqD_lst, oAdd, oSub, oMul, oDiv, oMod, oPow, oIs, oIsnt, oIn, oNotIn, inD, lookD, oIx_lst, oIx_tup, oIx_frl, oIx_sq, oIx_dT, oIx_dK, getD, oSl, oInt, oSorted, isB, tPut3, tApp3, tDicT, tDicK, tBk3, tCt3, tMin2, tMax2, tNeg3, tIf3E, tAndV3, tOrV3, tNotV3, tIsi, tIndex3, tYes3, tRaise0, tRaise1, tIsE3, tXf3, wipe3, List.set_cons_zero, List.set_cons_succ, List.getElem?_cons_zero, List.getElem?_cons_succ, List.getElem?_nil, Fl.isSt, D.flat, Fl.nb, Fl.item, cond_true, cond_false, Bool.true_or, Bool.or_true, Bool.false_or, Bool.or_false, Bool.and_true, Bool.true_and, Bool.and_false, Bool.false_and, if_true, if_false, ite_true, ite_false, Bool.false_eq_true, Bool.not_true, Bool.not_false, isNon_non, isNon_lst, isNon_tup, isNon_int, isNon_bl, isNon_str, isNon_sq, ty_ii, ty_bi, ty_tt, ty_tl, ty_ti, ty_tn, ty_lt, ty_ll, ty_ib, ty_bb, ni_int, ni_tup, ni_lst, ni_bl, ni_non, List.length_cons, List.length_nil, reduceIte, List.map_cons, List.map_nil, true_and, and_true, Nat.zero_add, Nat.reduceAdd, List.length_map, Nat.zero_le, Int.toNat_natCast]
    refine ⟨cs, 6, rfl, fun v => ?_⟩
    try simp only [tSeq3, tNx3, tIf3, tRet3, tRetN3, tSet3, tOwn3, tAsg3, tExpr3, tFrz, frzS, tFor3_eq, tLc3_eq, tLc23_eq, tSeq3I_eq, seqK_lst, seqK_tup, seqK_frl, seqK_sq, oTup_lst, oTup_tup, oTup_sq, oList_lst, oList_tup, oList_sq, oLen_lst, oLen_tup, oLen_frl, oLen_sq, flat_sq, tRg1, tRg2, gN3, gT3, gCons3, gNil3, tV3, tC3, tB3, tT3, tIx3, tCh3, tAnd3, tOr3, tNot3, tNil3, tCons3, tTup3, tLst3, tOfL, tCall3, tU3, tUL, tSl3, tNo3, tSome3, tCat3, tRep3, oEq, oNe, oLt_int, oLt_tup, oLe_int, oLe_tup, oGt_int, oGt_tup, oGe_int, oGe_tup, eqD_int, eqD_str, eqD_bl, eqD_non, eqD_tup, eqD_lst, oAdd, oSub, oMul, oDiv, oMod, oPow, oIs, oIsnt, oIn, oNotIn, inD, lookD, oIx_lst, oIx_tup, oIx_frl, oIx_sq, oIx_dT, oIx_dK, getD, oSl, oInt, oSorted, isB, tPut3, tApp3, tDicT, tDicK, tBk3, tCt3, tMin2, tMax2, tNeg3, tIf3E, tAndV3, tOrV3, tNotV3, tIsi, tIndex3, tYes3, tRaise0, tRaise1, tIsE3, tXf3, wipe3, List.set_cons_zero, List.set_cons_succ, List.getElem?_cons_zero, List.getElem?_cons_succ, List.getElem?_nil, Fl.isSt, D.flat, Fl.nb, Fl.item, cond_true, cond_false, Bool.true_or, Bool.or_true, Bool.false_or, Bool.or_false, Bool.and_true, Bool.true_and, Bool.and_false, Bool.false_and, if_true, if_false, ite_true, ite_false, Bool.false_eq_true, Bool.not_true, Bool.not_false, isNon_non, isNon_lst, isNon_tup, isNon_int, isNon_bl, isNon_str, isNon_sq, ty_ii, ty_bi, ty_tt, ty_tl, ty_ti, ty_tn, ty_lt, ty_ll, ty_ib, ty_bb, ni_int, ni_tup, ni_lst, ni_bl, ni_non, List.length_cons, List.length_nil, reduceIte, List.map_cons, List.map_nil, true_and, and_true, Nat.zero_add, Nat.reduceAdd, List.length_map, Nat.zero_le, Int.toNat_natCast]
    exact ⟨by decide, by decide, hK _ ⟨_, rfl⟩⟩
  rintro _ ⟨ch, rfl⟩
  refine seq_mid (fun st => ∃ s : List Int, (s.all isLet = true ∧ s.length ≤ 10) ∧ st = [.va (.frl (intsD cs)), .va (.int shape), .va (.lst (List.map prD ps)), .va (.lst (intsD x)), .va (.lst (intsD ot)), .va (.lst (intsD dr)), .va (.dT tb), .va (.lst (intsD y)), .va (.lst (intsD s)), .va (.int ch), .un, .un, .un, .un]) (fun K hK => ?_) ?_
  · try simp only [tSeq3, tNx3, tIf3, tRet3, tRetN3, tSet3, tOwn3, tAsg3, tExpr3, tFrz, frzS, tFor3_eq, tLc3_eq, tLc23_eq, tSeq3I_eq, seqK_lst, seqK_tup, seqK_frl, seqK_sq, oTup_lst, oTup_tup, oTup_sq, oList_lst, oList_tup, oList_sq, oLen_lst, oLen_tup, oLen_frl, oLen_sq, flat_sq, tRg1, tRg2, gN3, gT3, gCons3, gNil3, tV3, tC3, tB3, tT3, tIx3, tCh3, tAnd3, tOr3, tNot3, tNil3, tCons3, tTup3, tLst3, tOfL, tCall3, tU3, tUL, tSl3, tNo3, tSome3, tCat3, tRep3, oEq, oNe, oLt_int, oLt_tup, oLe_int, oLe_tup, oGt_int, oGt_tup, oGe_int, oGe_tup, eqD_int, eqD_str, eqD_bl, eqD_non, eqD_tup, eqD_lst, oAdd, oSub, oMul, oDiv, oMod, oPow, oIs, oIsnt, oIn, oNotIn, inD, lookD, oIx_lst, oIx_tup, oIx_frl, oIx_sq, oIx_dT, oIx_dK, getD, oSl, oInt, oSorted, isB, tPut3, tApp3, tDicT, tDicK, tBk3, tCt3, tMin2, tMax2, tNeg3, tIf3E, tAndV3, tOrV3, tNotV3, tIsi, tIndex3, tYes3, tRaise0, tRaise1, tIsE3, tXf3, wipe3, List.set_cons_zero, List.set_cons_succ, List.getElem?_cons_zero, List.getElem?_cons_succ, List.getElem?_nil, Fl.isSt, D.flat, Fl.nb, Fl.item, cond_true, cond_false, Bool.true_or, Bool.or_true, Bool.false_or, Bool.or_false, Bool.and_true, Bool.true_and, Bool.and_false, Bool.false_and, if_true, if_false, ite_true, ite_false, Bool.false_eq_true, Bool.not_true, Bool.not_false, isNon_non, isNon_lst, isNon_tup, isNon_int, isNon_bl, isNon_str, isNon_sq, ty_ii, ty_bi, ty_tt, ty_tl, ty_ti, ty_tn, ty_lt, ty_ll, ty_ib, ty_bb, ni_int, ni_tup, ni_lst, ni_bl, ni_non, List.length_cons, List.length_nil, reduceIte, List.map_cons, List.map_nil, true_and, and_true, Nat.zero_add, Nat.reduceAdd, List.length_map, Nat.zero_le, Int.toNat_natCast]
    split
    · refine ⟨_, at_map (k := 12) (by omega), ?_⟩
      try simp only [tSeq3, tNx3, tIf3, tRet3, tRetN3, tSet3, tOwn3, tAsg3, tExpr3, tFrz, frzS, tFor3_eq, tLc3_eq, tLc23_eq, tSeq3I_eq, seqK_lst, seqK_tup, seqK_frl, seqK_sq, oTup_lst, oTup_tup, oTup_sq, oList_lst, oList_tup, oList_sq, oLen_lst, oLen_tup, oLen_frl, oLen_sq, flat_sq, tRg1, tRg2, gN3, gT3, gCons3, gNil3, tV3, tC3, tB3, tT3, tIx3, tCh3, tAnd3, tOr3, tNot3, tNil3, tCons3, tTup3, tLst3, tOfL, tCall3, tU3, tUL, tSl3, tNo3, tSome3, tCat3, tRep3, oEq, oNe, oLt_int, oLt_tup, oLe_int, oLe_tup, oGt_int, oGt_tup, oGe_int, oGe_tup, eqD_int, eqD_str, eqD_bl, eqD_non, eqD_tup, eqD_lst, oAdd, oSub, oMul, oDiv, oMod, oPow, oIs, oIsnt, oIn, oNotIn, inD, lookD, oIx_lst, oIx_tup, oIx_frl, oIx_sq, oIx_dT, oIx_dK, getD, oSl, oInt, oSorted, isB, tPut3, tApp3, tDicT, tDicK, tBk3, tCt3, tMin2, tMax2, tNeg3, tIf3E, tAndV3, tOrV3, tNotV3, tIsi, tIndex3, tYes3, tRaise0, tRaise1, tIsE3, tXf3, wipe3, List.set_cons_zero, List.set_cons_succ, List.getElem?_cons_zero, List.getElem?_cons_succ, List.getElem?_nil, Fl.isSt, D.flat, Fl.nb, Fl.item, cond_true, cond_false, Bool.true_or, Bool.or_true, Bool.false_or, Bool.or_false, Bool.and_true, Bool.true_and, Bool.and_false, Bool.false_and, if_true, if_false, ite_true, ite_false, Bool.false_eq_true, Bool.not_true, Bool.not_false, isNon_non, isNon_lst, isNon_tup, isNon_int, isNon_bl, isNon_str, isNon_sq, ty_ii, ty_bi, ty_tt, ty_tl, ty_ti, ty_tn, ty_lt, ty_ll, ty_ib, ty_bb, ni_int, ni_tup, ni_lst, ni_bl, ni_non, List.length_cons, List.length_nil, reduceIte, List.map_cons, List.map_nil, true_and, and_true, Nat.zero_add, Nat.reduceAdd, List.length_map, Nat.zero_le, Int.toNat_natCast]
      refine ⟨by decide, le_line (by decide), le_line (by omega), ?_⟩
      rw [← intsD_snoc]
      refine hK _ ⟨s ++ [dr[12] % 16], ⟨?_, by simp; exact hs2⟩, rfl⟩
      rw [List.all_append, hs1]
      simp [isLet]
      omega
    · exact hK _ ⟨s, ⟨hs1, by omega⟩, rfl⟩
  rintro _ ⟨s, ⟨hs1, hs2⟩, rfl⟩
  refine seq_mid (fun st => ∃ s : List Int, (s.all isLet = true ∧ s.length ≤ 40) ∧ st = [.va (.frl (intsD cs)), .va (.int shape), .va (.lst (List.map prD ps)), .va (.lst (intsD x)), .va (.lst (intsD ot)), .va (.lst (intsD dr)), .va (.dT tb), .va (.lst (intsD y)), .va (.lst (intsD s)), .va (.int ch), .un, .un, .un, .un]) (fun K hK => ?_) ?_
  · try simp only [tSeq3, tNx3, tIf3, tRet3, tRetN3, tSet3, tOwn3, tAsg3, tExpr3, tFrz, frzS, tFor3_eq, tLc3_eq, tLc23_eq, tSeq3I_eq, seqK_lst, seqK_tup, seqK_frl, seqK_sq, oTup_lst, oTup_tup, oTup_sq, oList_lst, oList_tup, oList_sq, oLen_lst, oLen_tup, oLen_frl, oLen_sq, flat_sq, tRg1, tRg2, gN3, gT3, gCons3, gNil3, tV3, tC3, tB3, tT3, tIx3, tCh3, tAnd3, tOr3, tNot3, tNil3, tCons3, tTup3, tLst3, tOfL, tCall3, tU3, tUL, tSl3, tNo3, tSome3, tCat3, tRep3, oEq, oNe, oLt_int, oLt_tup, oLe_int, oLe_tup, oGt_int, oGt_tup, oGe_int, oGe_tup, eqD_int, eqD_str, eqD_bl, eqD_non, eqD_tup, eqD_lst, oAdd, oSub, oMul, oDiv, oMod, oPow, oIs, oIsnt, oIn, oNotIn, inD, lookD, oIx_lst, oIx_tup, oIx_frl, oIx_sq, oIx_dT, oIx_dK, getD, oSl, oInt, oSorted, isB, tPut3, tApp3, tDicT, tDicK, tBk3, tCt3, tMin2, tMax2, tNeg3, tIf3E, tAndV3, tOrV3, tNotV3, tIsi, tIndex3, tYes3, tRaise0, tRaise1, tIsE3, tXf3, wipe3, List.set_cons_zero, List.set_cons_succ, List.getElem?_cons_zero, List.getElem?_cons_succ, List.getElem?_nil, Fl.isSt, D.flat, Fl.nb, Fl.item, cond_true, cond_false, Bool.true_or, Bool.or_true, Bool.false_or, Bool.or_false, Bool.and_true, Bool.true_and, Bool.and_false, Bool.false_and, if_true, if_false, ite_true, ite_false, Bool.false_eq_true, Bool.not_true, Bool.not_false, isNon_non, isNon_lst, isNon_tup, isNon_int, isNon_bl, isNon_str, isNon_sq, ty_ii, ty_bi, ty_tt, ty_tl, ty_ti, ty_tn, ty_lt, ty_ll, ty_ib, ty_bb, ni_int, ni_tup, ni_lst, ni_bl, ni_non, List.length_cons, List.length_nil, reduceIte, List.map_cons, List.map_nil, true_and, and_true, Nat.zero_add, Nat.reduceAdd, List.length_map, Nat.zero_le, Int.toNat_natCast]
    split
    · exact hK _ ⟨y, ⟨hy1, by omega⟩, rfl⟩
    · exact hK _ ⟨s, ⟨hs1, by omega⟩, rfl⟩
  rintro _ ⟨s, ⟨hs1, hs2⟩, rfl⟩
  refine seq_mid (fun st => ∃ s : List Int, (s.all isLet = true ∧ s.length ≤ 40) ∧ st = [.va (.frl (intsD cs)), .va (.int shape), .va (.lst (List.map prD ps)), .va (.lst (intsD x)), .va (.lst (intsD ot)), .va (.lst (intsD dr)), .va (.dT tb), .va (.lst (intsD y)), .va (.lst (intsD s)), .va (.int ch), .un, .un, .un, .un]) (fun K hK => ?_) ?_
  · try simp only [tSeq3, tNx3, tIf3, tRet3, tRetN3, tSet3, tOwn3, tAsg3, tExpr3, tFrz, frzS, tFor3_eq, tLc3_eq, tLc23_eq, tSeq3I_eq, seqK_lst, seqK_tup, seqK_frl, seqK_sq, oTup_lst, oTup_tup, oTup_sq, oList_lst, oList_tup, oList_sq, oLen_lst, oLen_tup, oLen_frl, oLen_sq, flat_sq, tRg1, tRg2, gN3, gT3, gCons3, gNil3, tV3, tC3, tB3, tT3, tIx3, tCh3, tAnd3, tOr3, tNot3, tNil3, tCons3, tTup3, tLst3, tOfL, tCall3, tU3, tUL, tSl3, tNo3, tSome3, tCat3, tRep3, oEq, oNe, oLt_int, oLt_tup, oLe_int, oLe_tup, oGt_int, oGt_tup, oGe_int, oGe_tup, eqD_int, eqD_str, eqD_bl, eqD_non, eqD_tup, eqD_lst, oAdd, oSub, oMul, oDiv, oMod, oPow, oIs, oIsnt, oIn, oNotIn, inD, lookD, oIx_lst, oIx_tup, oIx_frl, oIx_sq, oIx_dT, oIx_dK, getD, oSl, oInt, oSorted, isB, tPut3, tApp3, tDicT, tDicK, tBk3, tCt3, tMin2, tMax2, tNeg3, tIf3E, tAndV3, tOrV3, tNotV3, tIsi, tIndex3, tYes3, tRaise0, tRaise1, tIsE3, tXf3, wipe3, List.set_cons_zero, List.set_cons_succ, List.getElem?_cons_zero, List.getElem?_cons_succ, List.getElem?_nil, Fl.isSt, D.flat, Fl.nb, Fl.item, cond_true, cond_false, Bool.true_or, Bool.or_true, Bool.false_or, Bool.or_false, Bool.and_true, Bool.true_and, Bool.and_false, Bool.false_and, if_true, if_false, ite_true, ite_false, Bool.false_eq_true, Bool.not_true, Bool.not_false, isNon_non, isNon_lst, isNon_tup, isNon_int, isNon_bl, isNon_str, isNon_sq, ty_ii, ty_bi, ty_tt, ty_tl, ty_ti, ty_tn, ty_lt, ty_ll, ty_ib, ty_bb, ni_int, ni_tup, ni_lst, ni_bl, ni_non, List.length_cons, List.length_nil, reduceIte, List.map_cons, List.map_nil, true_and, and_true, Nat.zero_add, Nat.reduceAdd, List.length_map, Nat.zero_le, Int.toNat_natCast]
    split
    · exact hK _ ⟨x, ⟨hx2, by omega⟩, rfl⟩
    · exact hK _ ⟨s, ⟨hs1, by omega⟩, rfl⟩
  rintro _ ⟨s, ⟨hs1, hs2⟩, rfl⟩
  have hlf := htb.lf
  have r1 : refuse s x = 0 := refuse00 hs1 hx2 (by omega) (by omega)
  have r2 : refuse x y = 0 := refuse00 hx2 hy1 (by omega) (by omega)
  have r3 : refuse y x = 0 := refuse00 hy1 hx2 (by omega) (by omega)
  have same2 : ∀ (q : D → Prop) (z : Exn → Prop), q (.bl true) → fs__law_same_row ex [optT (behind (frP ps) s x), optD (behind (lf tb) s x)] q z := fun q z hq => by
    rw [hlf]
    cases behind (frP ps) s x with
    | none => exact ⟨.inl rfl, hq⟩
    | some l => exact ⟨.inr ⟨l, rfl⟩, hq⟩
  refine seq_mid (fun st => st = [.va (.frl (intsD cs)), .va (.int shape), .va (.lst (List.map prD ps)), .va (.lst (intsD x)), .va (.lst (intsD ot)), .va (.lst (intsD dr)), .va (.dT tb), .va (.lst (intsD y)), .va (.lst (intsD s)), .va (.int ch), .va (.lst (List.map prD ps)), .un, .un, .un]) (fun K hK => ?_) ?_
  · try simp only [tSeq3, tNx3, tIf3, tRet3, tRetN3, tSet3, tOwn3, tAsg3, tExpr3, tFrz, frzS, tFor3_eq, tLc3_eq, tLc23_eq, tSeq3I_eq, seqK_lst, seqK_tup, seqK_frl, seqK_sq, oTup_lst, oTup_tup, oTup_sq, oList_lst, oList_tup, oList_sq, oLen_lst, oLen_tup, oLen_frl, oLen_sq, flat_sq, tRg1, tRg2, gN3, gT3, gCons3, gNil3, tV3, tC3, tB3, tT3, tIx3, tCh3, tAnd3, tOr3, tNot3, tNil3, tCons3, tTup3, tLst3, tOfL, tCall3, tU3, tUL, tSl3, tNo3, tSome3, tCat3, tRep3, oEq, oNe, oLt_int, oLt_tup, oLe_int, oLe_tup, oGt_int, oGt_tup, oGe_int, oGe_tup, eqD_int, eqD_str, eqD_bl, eqD_non, eqD_tup, eqD_lst, oAdd, oSub, oMul, oDiv, oMod, oPow, oIs, oIsnt, oIn, oNotIn, inD, lookD, oIx_lst, oIx_tup, oIx_frl, oIx_sq, oIx_dT, oIx_dK, getD, oSl, oInt, oSorted, isB, tPut3, tApp3, tDicT, tDicK, tBk3, tCt3, tMin2, tMax2, tNeg3, tIf3E, tAndV3, tOrV3, tNotV3, tIsi, tIndex3, tYes3, tRaise0, tRaise1, tIsE3, tXf3, wipe3, List.set_cons_zero, List.set_cons_succ, List.getElem?_cons_zero, List.getElem?_cons_succ, List.getElem?_nil, Fl.isSt, D.flat, Fl.nb, Fl.item, cond_true, cond_false, Bool.true_or, Bool.or_true, Bool.false_or, Bool.or_false, Bool.and_true, Bool.true_and, Bool.and_false, Bool.false_and, if_true, if_false, ite_true, ite_false, Bool.false_eq_true, Bool.not_true, Bool.not_false, isNon_non, isNon_lst, isNon_tup, isNon_int, isNon_bl, isNon_str, isNon_sq, ty_ii, ty_bi, ty_tt, ty_tl, ty_ti, ty_tn, ty_lt, ty_ll, ty_ib, ty_bb, ni_int, ni_tup, ni_lst, ni_bl, ni_non, List.length_cons, List.length_nil, reduceIte, List.map_cons, List.map_nil, true_and, and_true, Nat.zero_add, Nat.reduceAdd, List.length_map, Nat.zero_le, Int.toNat_natCast]
    exact hK _ rfl
  rintro _ rfl
  refine seq_mid (fun st => st = [.va (.frl (intsD cs)), .va (.int shape), .va (.lst (List.map prD ps)), .va (.lst (intsD x)), .va (.lst (intsD ot)), .va (.lst (intsD dr)), .va (.dT tb), .va (.lst (intsD y)), .va (.lst (intsD s)), .va (.int ch), .va (.lst (List.map prD ps)), .va (.lst [.lst (intsD s), .lst (intsD x), .lst (intsD y)]), .un, .un]) (fun K hK => ?_) ?_
  · try simp only [tSeq3, tNx3, tIf3, tRet3, tRetN3, tSet3, tOwn3, tAsg3, tExpr3, tFrz, frzS, tFor3_eq, tLc3_eq, tLc23_eq, tSeq3I_eq, seqK_lst, seqK_tup, seqK_frl, seqK_sq, oTup_lst, oTup_tup, oTup_sq, oList_lst, oList_tup, oList_sq, oLen_lst, oLen_tup, oLen_frl, oLen_sq, flat_sq, tRg1, tRg2, gN3, gT3, gCons3, gNil3, tV3, tC3, tB3, tT3, tIx3, tCh3, tAnd3, tOr3, tNot3, tNil3, tCons3, tTup3, tLst3, tOfL, tCall3, tU3, tUL, tSl3, tNo3, tSome3, tCat3, tRep3, oEq, oNe, oLt_int, oLt_tup, oLe_int, oLe_tup, oGt_int, oGt_tup, oGe_int, oGe_tup, eqD_int, eqD_str, eqD_bl, eqD_non, eqD_tup, eqD_lst, oAdd, oSub, oMul, oDiv, oMod, oPow, oIs, oIsnt, oIn, oNotIn, inD, lookD, oIx_lst, oIx_tup, oIx_frl, oIx_sq, oIx_dT, oIx_dK, getD, oSl, oInt, oSorted, isB, tPut3, tApp3, tDicT, tDicK, tBk3, tCt3, tMin2, tMax2, tNeg3, tIf3E, tAndV3, tOrV3, tNotV3, tIsi, tIndex3, tYes3, tRaise0, tRaise1, tIsE3, tXf3, wipe3, List.set_cons_zero, List.set_cons_succ, List.getElem?_cons_zero, List.getElem?_cons_succ, List.getElem?_nil, Fl.isSt, D.flat, Fl.nb, Fl.item, cond_true, cond_false, Bool.true_or, Bool.or_true, Bool.false_or, Bool.or_false, Bool.and_true, Bool.true_and, Bool.and_false, Bool.false_and, if_true, if_false, ite_true, ite_false, Bool.false_eq_true, Bool.not_true, Bool.not_false, isNon_non, isNon_lst, isNon_tup, isNon_int, isNon_bl, isNon_str, isNon_sq, ty_ii, ty_bi, ty_tt, ty_tl, ty_ti, ty_tn, ty_lt, ty_ll, ty_ib, ty_bb, ni_int, ni_tup, ni_lst, ni_bl, ni_non, List.length_cons, List.length_nil, reduceIte, List.map_cons, List.map_nil, true_and, and_true, Nat.zero_add, Nat.reduceAdd, List.length_map, Nat.zero_le, Int.toNat_natCast]
    exact ⟨le_line (by decide), hK _ rfl⟩
  rintro _ rfl
  refine seq_mid (fun st => st = [.va (.frl (intsD cs)), .va (.int shape), .va (.lst (List.map prD ps)), .va (.lst (intsD x)), .va (.lst (intsD ot)), .va (.lst (intsD dr)), .va (.dT tb), .va (.lst (intsD y)), .va (.lst (intsD s)), .va (.int ch), .va (.lst (List.map prD ps)), .va (.lst [.lst (intsD s), .lst (intsD x), .lst (intsD y)]), .un, .un]) (fun K hK => ?_) ?_
  · try simp only [tSeq3, tNx3, tIf3, tRet3, tRetN3, tSet3, tOwn3, tAsg3, tExpr3, tFrz, frzS, tFor3_eq, tLc3_eq, tLc23_eq, tSeq3I_eq, seqK_lst, seqK_tup, seqK_frl, seqK_sq, oTup_lst, oTup_tup, oTup_sq, oList_lst, oList_tup, oList_sq, oLen_lst, oLen_tup, oLen_frl, oLen_sq, flat_sq, tRg1, tRg2, gN3, gT3, gCons3, gNil3, tV3, tC3, tB3, tT3, tIx3, tCh3, tAnd3, tOr3, tNot3, tNil3, tCons3, tTup3, tLst3, tOfL, tCall3, tU3, tUL, tSl3, tNo3, tSome3, tCat3, tRep3, oEq, oNe, oLt_int, oLt_tup, oLe_int, oLe_tup, oGt_int, oGt_tup, oGe_int, oGe_tup, eqD_int, eqD_str, eqD_bl, eqD_non, eqD_tup, eqD_lst, oAdd, oSub, oMul, oDiv, oMod, oPow, oIs, oIsnt, oIn, oNotIn, inD, lookD, oIx_lst, oIx_tup, oIx_frl, oIx_sq, oIx_dT, oIx_dK, getD, oSl, oInt, oSorted, isB, tPut3, tApp3, tDicT, tDicK, tBk3, tCt3, tMin2, tMax2, tNeg3, tIf3E, tAndV3, tOrV3, tNotV3, tIsi, tIndex3, tYes3, tRaise0, tRaise1, tIsE3, tXf3, wipe3, List.set_cons_zero, List.set_cons_succ, List.getElem?_cons_zero, List.getElem?_cons_succ, List.getElem?_nil, Fl.isSt, D.flat, Fl.nb, Fl.item, cond_true, cond_false, Bool.true_or, Bool.or_true, Bool.false_or, Bool.or_false, Bool.and_true, Bool.true_and, Bool.and_false, Bool.false_and, if_true, if_false, ite_true, ite_false, Bool.false_eq_true, Bool.not_true, Bool.not_false, isNon_non, isNon_lst, isNon_tup, isNon_int, isNon_bl, isNon_str, isNon_sq, ty_ii, ty_bi, ty_tt, ty_tl, ty_ti, ty_tn, ty_lt, ty_ll, ty_ib, ty_bb, ni_int, ni_tup, ni_lst, ni_bl, ni_non, List.length_cons, List.length_nil, reduceIte, List.map_cons, List.map_nil, true_and, and_true, Nat.zero_add, Nat.reduceAdd, List.length_map, Nat.zero_le, Int.toNat_natCast]
    refine ⟨_, rfl, ?_⟩
    try simp only [tSeq3, tNx3, tIf3, tRet3, tRetN3, tSet3, tOwn3, tAsg3, tExpr3, tFrz, frzS, tFor3_eq, tLc3_eq, tLc23_eq, tSeq3I_eq, seqK_lst, seqK_tup, seqK_frl, seqK_sq, oTup_lst, oTup_tup, oTup_sq, oList_lst, oList_tup, oList_sq, oLen_lst, oLen_tup, oLen_frl, oLen_sq, flat_sq, tRg1, tRg2, gN3, gT3, gCons3, gNil3, tV3, tC3, tB3, tT3, tIx3, tCh3, tAnd3, tOr3, tNot3, tNil3, tCons3, tTup3, tLst3, tOfL, tCall3, tU3, tUL, tSl3, tNo3, tSome3, tCat3, tRep3, oEq, oNe, oLt_int, oLt_tup, oLe_int, oLe_tup, oGt_int, oGt_tup, oGe_int, oGe_tup, eqD_int, eqD_str, eqD_bl, eqD_non, eqD_tup, eqD_lst, oAdd, oSub, oMul, oDiv, oMod, oPow, oIs, oIsnt, oIn, oNotIn, inD, lookD, oIx_lst, oIx_tup, oIx_frl, oIx_sq, oIx_dT, oIx_dK, getD, oSl, oInt, oSorted, isB, tPut3, tApp3, tDicT, tDicK, tBk3, tCt3, tMin2, tMax2, tNeg3, tIf3E, tAndV3, tOrV3, tNotV3, tIsi, tIndex3, tYes3, tRaise0, tRaise1, tIsE3, tXf3, wipe3, List.set_cons_zero, List.set_cons_succ, List.getElem?_cons_zero, List.getElem?_cons_succ, List.getElem?_nil, Fl.isSt, D.flat, Fl.nb, Fl.item, cond_true, cond_false, Bool.true_or, Bool.or_true, Bool.false_or, Bool.or_false, Bool.and_true, Bool.true_and, Bool.and_false, Bool.false_and, if_true, if_false, ite_true, ite_false, Bool.false_eq_true, Bool.not_true, Bool.not_false, isNon_non, isNon_lst, isNon_tup, isNon_int, isNon_bl, isNon_str, isNon_sq, ty_ii, ty_bi, ty_tt, ty_tl, ty_ti, ty_tn, ty_lt, ty_ll, ty_ib, ty_bb, ni_int, ni_tup, ni_lst, ni_bl, ni_non, List.length_cons, List.length_nil, reduceIte, List.map_cons, List.map_nil, true_and, and_true, Nat.zero_add, Nat.reduceAdd, List.length_map, Nat.zero_le, Int.toNat_natCast]
    refine ⟨_, rfl, ?_⟩
    try simp only [tSeq3, tNx3, tIf3, tRet3, tRetN3, tSet3, tOwn3, tAsg3, tExpr3, tFrz, frzS, tFor3_eq, tLc3_eq, tLc23_eq, tSeq3I_eq, seqK_lst, seqK_tup, seqK_frl, seqK_sq, oTup_lst, oTup_tup, oTup_sq, oList_lst, oList_tup, oList_sq, oLen_lst, oLen_tup, oLen_frl, oLen_sq, flat_sq, tRg1, tRg2, gN3, gT3, gCons3, gNil3, tV3, tC3, tB3, tT3, tIx3, tCh3, tAnd3, tOr3, tNot3, tNil3, tCons3, tTup3, tLst3, tOfL, tCall3, tU3, tUL, tSl3, tNo3, tSome3, tCat3, tRep3, oEq, oNe, oLt_int, oLt_tup, oLe_int, oLe_tup, oGt_int, oGt_tup, oGe_int, oGe_tup, eqD_int, eqD_str, eqD_bl, eqD_non, eqD_tup, eqD_lst, oAdd, oSub, oMul, oDiv, oMod, oPow, oIs, oIsnt, oIn, oNotIn, inD, lookD, oIx_lst, oIx_tup, oIx_frl, oIx_sq, oIx_dT, oIx_dK, getD, oSl, oInt, oSorted, isB, tPut3, tApp3, tDicT, tDicK, tBk3, tCt3, tMin2, tMax2, tNeg3, tIf3E, tAndV3, tOrV3, tNotV3, tIsi, tIndex3, tYes3, tRaise0, tRaise1, tIsE3, tXf3, wipe3, List.set_cons_zero, List.set_cons_succ, List.getElem?_cons_zero, List.getElem?_cons_succ, List.getElem?_nil, Fl.isSt, D.flat, Fl.nb, Fl.item, cond_true, cond_false, Bool.true_or, Bool.or_true, Bool.false_or, Bool.or_false, Bool.and_true, Bool.true_and, Bool.and_false, Bool.false_and, if_true, if_false, ite_true, ite_false, Bool.false_eq_true, Bool.not_true, Bool.not_false, isNon_non, isNon_lst, isNon_tup, isNon_int, isNon_bl, isNon_str, isNon_sq, ty_ii, ty_bi, ty_tt, ty_tl, ty_ti, ty_tn, ty_lt, ty_ll, ty_ib, ty_bb, ni_int, ni_tup, ni_lst, ni_bl, ni_non, List.length_cons, List.length_nil, reduceIte, List.map_cons, List.map_nil, true_and, and_true, Nat.zero_add, Nat.reduceAdd, List.length_map, Nat.zero_le, Int.toNat_natCast]
    refine ⟨false, ps, false, s, false, x, rfl, by omega, refK_of r1 ?_⟩
    refine ⟨tb, false, s, x, rfl, by omega, ?_⟩
    refine same2 _ _ ?_
    try simp only [tSeq3, tNx3, tIf3, tRet3, tRetN3, tSet3, tOwn3, tAsg3, tExpr3, tFrz, frzS, tFor3_eq, tLc3_eq, tLc23_eq, tSeq3I_eq, seqK_lst, seqK_tup, seqK_frl, seqK_sq, oTup_lst, oTup_tup, oTup_sq, oList_lst, oList_tup, oList_sq, oLen_lst, oLen_tup, oLen_frl, oLen_sq, flat_sq, tRg1, tRg2, gN3, gT3, gCons3, gNil3, tV3, tC3, tB3, tT3, tIx3, tCh3, tAnd3, tOr3, tNot3, tNil3, tCons3, tTup3, tLst3, tOfL, tCall3, tU3, tUL, tSl3, tNo3, tSome3, tCat3, tRep3, oEq, oNe, oLt_int, oLt_tup, oLe_int, oLe_tup, oGt_int, oGt_tup, oGe_int, oGe_tup, eqD_int, eqD_str, eqD_bl, eqD_non, eqD_tup, eqD_lst, oAdd, oSub, oMul, oDiv, oMod, oPow, oIs, oIsnt, oIn, oNotIn, inD, lookD, oIx_lst, oIx_tup, oIx_frl, oIx_sq, oIx_dT, oIx_dK, getD, oSl, oInt, oSorted, isB, tPut3, tApp3, tDicT, tDicK, tBk3, tCt3, tMin2, tMax2, tNeg3, tIf3E, tAndV3, tOrV3, tNotV3, tIsi, tIndex3, tYes3, tRaise0, tRaise1, tIsE3, tXf3, wipe3, List.set_cons_zero, List.set_cons_succ, List.getElem?_cons_zero, List.getElem?_cons_succ, List.getElem?_nil, Fl.isSt, D.flat, Fl.nb, Fl.item, cond_true, cond_false, Bool.true_or, Bool.or_true, Bool.false_or, Bool.or_false, Bool.and_true, Bool.true_and, Bool.and_false, Bool.false_and, if_true, if_false, ite_true, ite_false, Bool.false_eq_true, Bool.not_true, Bool.not_false, isNon_non, isNon_lst, isNon_tup, isNon_int, isNon_bl, isNon_str, isNon_sq, ty_ii, ty_bi, ty_tt, ty_tl, ty_ti, ty_tn, ty_lt, ty_ll, ty_ib, ty_bb, ni_int, ni_tup, ni_lst, ni_bl, ni_non, List.length_cons, List.length_nil, reduceIte, List.map_cons, List.map_nil, true_and, and_true, Nat.zero_add, Nat.reduceAdd, List.length_map, Nat.zero_le, Int.toNat_natCast]
    exact hK _ rfl
  rintro _ rfl
  refine seq_mid (fun st => st = [.va (.frl (intsD cs)), .va (.int shape), .va (.lst (List.map prD ps)), .va (.lst (intsD x)), .va (.lst (intsD ot)), .va (.lst (intsD dr)), .va (.dT tb), .va (.lst (intsD y)), .va (.lst (intsD s)), .va (.int ch), .va (.lst (List.map prD ps)), .va (.lst [.lst (intsD s), .lst (intsD x), .lst (intsD y)]), .un, .un]) (fun K hK => ?_) ?_
  · try simp only [tSeq3, tNx3, tIf3, tRet3, tRetN3, tSet3, tOwn3, tAsg3, tExpr3, tFrz, frzS, tFor3_eq, tLc3_eq, tLc23_eq, tSeq3I_eq, seqK_lst, seqK_tup, seqK_frl, seqK_sq, oTup_lst, oTup_tup, oTup_sq, oList_lst, oList_tup, oList_sq, oLen_lst, oLen_tup, oLen_frl, oLen_sq, flat_sq, tRg1, tRg2, gN3, gT3, gCons3, gNil3, tV3, tC3, tB3, tT3, tIx3, tCh3, tAnd3, tOr3, tNot3, tNil3, tCons3, tTup3, tLst3, tOfL, tCall3, tU3, tUL, tSl3, tNo3, tSome3, tCat3, tRep3, oEq, oNe, oLt_int, oLt_tup, oLe_int, oLe_tup, oGt_int, oGt_tup, oGe_int, oGe_tup, eqD_int, eqD_str, eqD_bl, eqD_non, eqD_tup, eqD_lst, oAdd, oSub, oMul, oDiv, oMod, oPow, oIs, oIsnt, oIn, oNotIn, inD, lookD, oIx_lst, oIx_tup, oIx_frl, oIx_sq, oIx_dT, oIx_dK, getD, oSl, oInt, oSorted, isB, tPut3, tApp3, tDicT, tDicK, tBk3, tCt3, tMin2, tMax2, tNeg3, tIf3E, tAndV3, tOrV3, tNotV3, tIsi, tIndex3, tYes3, tRaise0, tRaise1, tIsE3, tXf3, wipe3, List.set_cons_zero, List.set_cons_succ, List.getElem?_cons_zero, List.getElem?_cons_succ, List.getElem?_nil, Fl.isSt, D.flat, Fl.nb, Fl.item, cond_true, cond_false, Bool.true_or, Bool.or_true, Bool.false_or, Bool.or_false, Bool.and_true, Bool.true_and, Bool.and_false, Bool.false_and, if_true, if_false, ite_true, ite_false, Bool.false_eq_true, Bool.not_true, Bool.not_false, isNon_non, isNon_lst, isNon_tup, isNon_int, isNon_bl, isNon_str, isNon_sq, ty_ii, ty_bi, ty_tt, ty_tl, ty_ti, ty_tn, ty_lt, ty_ll, ty_ib, ty_bb, ni_int, ni_tup, ni_lst, ni_bl, ni_non, List.length_cons, List.length_nil, reduceIte, List.map_cons, List.map_nil, true_and, and_true, Nat.zero_add, Nat.reduceAdd, List.length_map, Nat.zero_le, Int.toNat_natCast]
    refine ⟨_, rfl, ?_⟩
    try simp only [tSeq3, tNx3, tIf3, tRet3, tRetN3, tSet3, tOwn3, tAsg3, tExpr3, tFrz, frzS, tFor3_eq, tLc3_eq, tLc23_eq, tSeq3I_eq, seqK_lst, seqK_tup, seqK_frl, seqK_sq, oTup_lst, oTup_tup, oTup_sq, oList_lst, oList_tup, oList_sq, oLen_lst, oLen_tup, oLen_frl, oLen_sq, flat_sq, tRg1, tRg2, gN3, gT3, gCons3, gNil3, tV3, tC3, tB3, tT3, tIx3, tCh3, tAnd3, tOr3, tNot3, tNil3, tCons3, tTup3, tLst3, tOfL, tCall3, tU3, tUL, tSl3, tNo3, tSome3, tCat3, tRep3, oEq, oNe, oLt_int, oLt_tup, oLe_int, oLe_tup, oGt_int, oGt_tup, oGe_int, oGe_tup, eqD_int, eqD_str, eqD_bl, eqD_non, eqD_tup, eqD_lst, oAdd, oSub, oMul, oDiv, oMod, oPow, oIs, oIsnt, oIn, oNotIn, inD, lookD, oIx_lst, oIx_tup, oIx_frl, oIx_sq, oIx_dT, oIx_dK, getD, oSl, oInt, oSorted, isB, tPut3, tApp3, tDicT, tDicK, tBk3, tCt3, tMin2, tMax2, tNeg3, tIf3E, tAndV3, tOrV3, tNotV3, tIsi, tIndex3, tYes3, tRaise0, tRaise1, tIsE3, tXf3, wipe3, List.set_cons_zero, List.set_cons_succ, List.getElem?_cons_zero, List.getElem?_cons_succ, List.getElem?_nil, Fl.isSt, D.flat, Fl.nb, Fl.item, cond_true, cond_false, Bool.true_or, Bool.or_true, Bool.false_or, Bool.or_false, Bool.and_true, Bool.true_and, Bool.and_false, Bool.false_and, if_true, if_false, ite_true, ite_false, Bool.false_eq_true, Bool.not_true, Bool.not_false, isNon_non, isNon_lst, isNon_tup, isNon_int, isNon_bl, isNon_str, isNon_sq, ty_ii, ty_bi, ty_tt, ty_tl, ty_ti, ty_tn, ty_lt, ty_ll, ty_ib, ty_bb, ni_int, ni_tup, ni_lst, ni_bl, ni_non, List.length_cons, List.length_nil, reduceIte, List.map_cons, List.map_nil, true_and, and_true, Nat.zero_add, Nat.reduceAdd, List.length_map, Nat.zero_le, Int.toNat_natCast]
    refine ⟨_, rfl, ?_⟩
    try simp only [tSeq3, tNx3, tIf3, tRet3, tRetN3, tSet3, tOwn3, tAsg3, tExpr3, tFrz, frzS, tFor3_eq, tLc3_eq, tLc23_eq, tSeq3I_eq, seqK_lst, seqK_tup, seqK_frl, seqK_sq, oTup_lst, oTup_tup, oTup_sq, oList_lst, oList_tup, oList_sq, oLen_lst, oLen_tup, oLen_frl, oLen_sq, flat_sq, tRg1, tRg2, gN3, gT3, gCons3, gNil3, tV3, tC3, tB3, tT3, tIx3, tCh3, tAnd3, tOr3, tNot3, tNil3, tCons3, tTup3, tLst3, tOfL, tCall3, tU3, tUL, tSl3, tNo3, tSome3, tCat3, tRep3, oEq, oNe, oLt_int, oLt_tup, oLe_int, oLe_tup, oGt_int, oGt_tup, oGe_int, oGe_tup, eqD_int, eqD_str, eqD_bl, eqD_non, eqD_tup, eqD_lst, oAdd, oSub, oMul, oDiv, oMod, oPow, oIs, oIsnt, oIn, oNotIn, inD, lookD, oIx_lst, oIx_tup, oIx_frl, oIx_sq, oIx_dT, oIx_dK, getD, oSl, oInt, oSorted, isB, tPut3, tApp3, tDicT, tDicK, tBk3, tCt3, tMin2, tMax2, tNeg3, tIf3E, tAndV3, tOrV3, tNotV3, tIsi, tIndex3, tYes3, tRaise0, tRaise1, tIsE3, tXf3, wipe3, List.set_cons_zero, List.set_cons_succ, List.getElem?_cons_zero, List.getElem?_cons_succ, List.getElem?_nil, Fl.isSt, D.flat, Fl.nb, Fl.item, cond_true, cond_false, Bool.true_or, Bool.or_true, Bool.false_or, Bool.or_false, Bool.and_true, Bool.true_and, Bool.and_false, Bool.false_and, if_true, if_false, ite_true, ite_false, Bool.false_eq_true, Bool.not_true, Bool.not_false, isNon_non, isNon_lst, isNon_tup, isNon_int, isNon_bl, isNon_str, isNon_sq, ty_ii, ty_bi, ty_tt, ty_tl, ty_ti, ty_tn, ty_lt, ty_ll, ty_ib, ty_bb, ni_int, ni_tup, ni_lst, ni_bl, ni_non, List.length_cons, List.length_nil, reduceIte, List.map_cons, List.map_nil, true_and, and_true, Nat.zero_add, Nat.reduceAdd, List.length_map, Nat.zero_le, Int.toNat_natCast]
    refine ⟨tb, ps, x, y, rfl, htb, by omega, r2, r3, ?_⟩
    try simp only [tSeq3, tNx3, tIf3, tRet3, tRetN3, tSet3, tOwn3, tAsg3, tExpr3, tFrz, frzS, tFor3_eq, tLc3_eq, tLc23_eq, tSeq3I_eq, seqK_lst, seqK_tup, seqK_frl, seqK_sq, oTup_lst, oTup_tup, oTup_sq, oList_lst, oList_tup, oList_sq, oLen_lst, oLen_tup, oLen_frl, oLen_sq, flat_sq, tRg1, tRg2, gN3, gT3, gCons3, gNil3, tV3, tC3, tB3, tT3, tIx3, tCh3, tAnd3, tOr3, tNot3, tNil3, tCons3, tTup3, tLst3, tOfL, tCall3, tU3, tUL, tSl3, tNo3, tSome3, tCat3, tRep3, oEq, oNe, oLt_int, oLt_tup, oLe_int, oLe_tup, oGt_int, oGt_tup, oGe_int, oGe_tup, eqD_int, eqD_str, eqD_bl, eqD_non, eqD_tup, eqD_lst, oAdd, oSub, oMul, oDiv, oMod, oPow, oIs, oIsnt, oIn, oNotIn, inD, lookD, oIx_lst, oIx_tup, oIx_frl, oIx_sq, oIx_dT, oIx_dK, getD, oSl, oInt, oSorted, isB, tPut3, tApp3, tDicT, tDicK, tBk3, tCt3, tMin2, tMax2, tNeg3, tIf3E, tAndV3, tOrV3, tNotV3, tIsi, tIndex3, tYes3, tRaise0, tRaise1, tIsE3, tXf3, wipe3, List.set_cons_zero, List.set_cons_succ, List.getElem?_cons_zero, List.getElem?_cons_succ, List.getElem?_nil, Fl.isSt, D.flat, Fl.nb, Fl.item, cond_true, cond_false, Bool.true_or, Bool.or_true, Bool.false_or, Bool.or_false, Bool.and_true, Bool.true_and, Bool.and_false, Bool.false_and, if_true, if_false, ite_true, ite_false, Bool.false_eq_true, Bool.not_true, Bool.not_false, isNon_non, isNon_lst, isNon_tup, isNon_int, isNon_bl, isNon_str, isNon_sq, ty_ii, ty_bi, ty_tt, ty_tl, ty_ti, ty_tn, ty_lt, ty_ll, ty_ib, ty_bb, ni_int, ni_tup, ni_lst, ni_bl, ni_non, List.length_cons, List.length_nil, reduceIte, List.map_cons, List.map_nil, true_and, and_true, Nat.zero_add, Nat.reduceAdd, List.length_map, Nat.zero_le, Int.toNat_natCast]
    exact hK _ rfl
  rintro _ rfl
  refine seq_mid (fun st => st = [.va (.frl (intsD cs)), .va (.int shape), .va (.lst (List.map prD ps)), .va (.lst (intsD x)), .va (.lst (intsD ot)), .va (.lst (intsD dr)), .va (.dT tb), .va (.lst (intsD y)), .va (.lst (intsD s)), .va (.int ch), .va (.lst (List.map prD ps)), .va (.lst [.lst (intsD s), .lst (intsD x), .lst (intsD y)]), .un, .un]) (fun K hK => ?_) ?_
  · try simp only [tSeq3, tNx3, tIf3, tRet3, tRetN3, tSet3, tOwn3, tAsg3, tExpr3, tFrz, frzS, tFor3_eq, tLc3_eq, tLc23_eq, tSeq3I_eq, seqK_lst, seqK_tup, seqK_frl, seqK_sq, oTup_lst, oTup_tup, oTup_sq, oList_lst, oList_tup, oList_sq, oLen_lst, oLen_tup, oLen_frl, oLen_sq, flat_sq, tRg1, tRg2, gN3, gT3, gCons3, gNil3, tV3, tC3, tB3, tT3, tIx3, tCh3, tAnd3, tOr3, tNot3, tNil3, tCons3, tTup3, tLst3, tOfL, tCall3, tU3, tUL, tSl3, tNo3, tSome3, tCat3, tRep3, oEq, oNe, oLt_int, oLt_tup, oLe_int, oLe_tup, oGt_int, oGt_tup, oGe_int, oGe_tup, eqD_int, eqD_str, eqD_bl, eqD_non, eqD_tup, eqD_lst, oAdd, oSub, oMul, oDiv, oMod, oPow, oIs, oIsnt, oIn, oNotIn, inD, lookD, oIx_lst, oIx_tup, oIx_frl, oIx_sq, oIx_dT, oIx_dK, getD, oSl, oInt, oSorted, isB, tPut3, tApp3, tDicT, tDicK, tBk3, tCt3, tMin2, tMax2, tNeg3, tIf3E, tAndV3, tOrV3, tNotV3, tIsi, tIndex3, tYes3, tRaise0, tRaise1, tIsE3, tXf3, wipe3, List.set_cons_zero, List.set_cons_succ, List.getElem?_cons_zero, List.getElem?_cons_succ, List.getElem?_nil, Fl.isSt, D.flat, Fl.nb, Fl.item, cond_true, cond_false, Bool.true_or, Bool.or_true, Bool.false_or, Bool.or_false, Bool.and_true, Bool.true_and, Bool.and_false, Bool.false_and, if_true, if_false, ite_true, ite_false, Bool.false_eq_true, Bool.not_true, Bool.not_false, isNon_non, isNon_lst, isNon_tup, isNon_int, isNon_bl, isNon_str, isNon_sq, ty_ii, ty_bi, ty_tt, ty_tl, ty_ti, ty_tn, ty_lt, ty_ll, ty_ib, ty_bb, ni_int, ni_tup, ni_lst, ni_bl, ni_non, List.length_cons, List.length_nil, reduceIte, List.map_cons, List.map_nil, true_and, and_true, Nat.zero_add, Nat.reduceAdd, List.length_map, Nat.zero_le, Int.toNat_natCast]
    refine eqG_of (α := List (Int × Int)) (x := ps) (y := ps) ?_
    rw [if_neg (by simp)]
    refine ⟨le_line (by decide), ?_⟩
    refine eqG_of (α := List (List Int)) (x := [s, x, y]) (y := [s, x, y]) ?_
    rw [if_neg (by simp)]
    exact hK _ rfl
  rintro _ rfl
  refine seq_mid (fun st => st = [.va (.frl (intsD cs)), .va (.int shape), .va (.lst (List.map prD ps)), .va (.lst (intsD x)), .va (.lst (intsD ot)), .va (.lst (intsD dr)), .va (.dT tb), .va (.lst (intsD y)), .va (.lst (intsD s)), .va (.int ch), .va (.lst (List.map prD ps)), .va (.lst [.lst (intsD s), .lst (intsD x), .lst (intsD y)]), .un, .un]) (fun K hK => ?_) ?_
  · try simp only [tSeq3, tNx3, tIf3, tRet3, tRetN3, tSet3, tOwn3, tAsg3, tExpr3, tFrz, frzS, tFor3_eq, tLc3_eq, tLc23_eq, tSeq3I_eq, seqK_lst, seqK_tup, seqK_frl, seqK_sq, oTup_lst, oTup_tup, oTup_sq, oList_lst, oList_tup, oList_sq, oLen_lst, oLen_tup, oLen_frl, oLen_sq, flat_sq, tRg1, tRg2, gN3, gT3, gCons3, gNil3, tV3, tC3, tB3, tT3, tIx3, tCh3, tAnd3, tOr3, tNot3, tNil3, tCons3, tTup3, tLst3, tOfL, tCall3, tU3, tUL, tSl3, tNo3, tSome3, tCat3, tRep3, oEq, oNe, oLt_int, oLt_tup, oLe_int, oLe_tup, oGt_int, oGt_tup, oGe_int, oGe_tup, eqD_int, eqD_str, eqD_bl, eqD_non, eqD_tup, eqD_lst, oAdd, oSub, oMul, oDiv, oMod, oPow, oIs, oIsnt, oIn, oNotIn, inD, lookD, oIx_lst, oIx_tup, oIx_frl, oIx_sq, oIx_dT, oIx_dK, getD, oSl, oInt, oSorted, isB, tPut3, tApp3, tDicT, tDicK, tBk3, tCt3, tMin2, tMax2, tNeg3, tIf3E, tAndV3, tOrV3, tNotV3, tIsi, tIndex3, tYes3, tRaise0, tRaise1, tIsE3, tXf3, wipe3, List.set_cons_zero, List.set_cons_succ, List.getElem?_cons_zero, List.getElem?_cons_succ, List.getElem?_nil, Fl.isSt, D.flat, Fl.nb, Fl.item, cond_true, cond_false, Bool.true_or, Bool.or_true, Bool.false_or, Bool.or_false, Bool.and_true, Bool.true_and, Bool.and_false, Bool.false_and, if_true, if_false, ite_true, ite_false, Bool.false_eq_true, Bool.not_true, Bool.not_false, isNon_non, isNon_lst, isNon_tup, isNon_int, isNon_bl, isNon_str, isNon_sq, ty_ii, ty_bi, ty_tt, ty_tl, ty_ti, ty_tn, ty_lt, ty_ll, ty_ib, ty_bb, ni_int, ni_tup, ni_lst, ni_bl, ni_non, List.length_cons, List.length_nil, reduceIte, List.map_cons, List.map_nil, true_and, and_true, Nat.zero_add, Nat.reduceAdd, List.length_map, Nat.zero_le, Int.toNat_natCast]
    refine ⟨true, ps, true, s, true, x, rfl, by omega, refK_of r1 ?_⟩
    refine ⟨tb, false, s, x, rfl, by omega, ?_⟩
    refine same2 _ _ ?_
    try simp only [tSeq3, tNx3, tIf3, tRet3, tRetN3, tSet3, tOwn3, tAsg3, tExpr3, tFrz, frzS, tFor3_eq, tLc3_eq, tLc23_eq, tSeq3I_eq, seqK_lst, seqK_tup, seqK_frl, seqK_sq, oTup_lst, oTup_tup, oTup_sq, oList_lst, oList_tup, oList_sq, oLen_lst, oLen_tup, oLen_frl, oLen_sq, flat_sq, tRg1, tRg2, gN3, gT3, gCons3, gNil3, tV3, tC3, tB3, tT3, tIx3, tCh3, tAnd3, tOr3, tNot3, tNil3, tCons3, tTup3, tLst3, tOfL, tCall3, tU3, tUL, tSl3, tNo3, tSome3, tCat3, tRep3, oEq, oNe, oLt_int, oLt_tup, oLe_int, oLe_tup, oGt_int, oGt_tup, oGe_int, oGe_tup, eqD_int, eqD_str, eqD_bl, eqD_non, eqD_tup, eqD_lst, oAdd, oSub, oMul, oDiv, oMod, oPow, oIs, oIsnt, oIn, oNotIn, inD, lookD, oIx_lst, oIx_tup, oIx_frl, oIx_sq, oIx_dT, oIx_dK, getD, oSl, oInt, oSorted, isB, tPut3, tApp3, tDicT, tDicK, tBk3, tCt3, tMin2, tMax2, tNeg3, tIf3E, tAndV3, tOrV3, tNotV3, tIsi, tIndex3, tYes3, tRaise0, tRaise1, tIsE3, tXf3, wipe3, List.set_cons_zero, List.set_cons_succ, List.getElem?_cons_zero, List.getElem?_cons_succ, List.getElem?_nil, Fl.isSt, D.flat, Fl.nb, Fl.item, cond_true, cond_false, Bool.true_or, Bool.or_true, Bool.false_or, Bool.or_false, Bool.and_true, Bool.true_and, Bool.and_false, Bool.false_and, if_true, if_false, ite_true, ite_false, Bool.false_eq_true, Bool.not_true, Bool.not_false, isNon_non, isNon_lst, isNon_tup, isNon_int, isNon_bl, isNon_str, isNon_sq, ty_ii, ty_bi, ty_tt, ty_tl, ty_ti, ty_tn, ty_lt, ty_ll, ty_ib, ty_bb, ni_int, ni_tup, ni_lst, ni_bl, ni_non, List.length_cons, List.length_nil, reduceIte, List.map_cons, List.map_nil, true_and, and_true, Nat.zero_add, Nat.reduceAdd, List.length_map, Nat.zero_le, Int.toNat_natCast]
    exact hK _ rfl
  rintro _ rfl
  try simp only [tSeq3, tNx3, tIf3, tRet3, tRetN3, tSet3, tOwn3, tAsg3, tExpr3, tFrz, frzS, tFor3_eq, tLc3_eq, tLc23_eq, tSeq3I_eq, seqK_lst, seqK_tup, seqK_frl, seqK_sq, oTup_lst, oTup_tup, oTup_sq, oList_lst, oList_tup, oList_sq, oLen_lst, oLen_tup, oLen_frl, oLen_sq, flat_sq, tRg1, tRg2, gN3, gT3, gCons3, gNil3, tV3, tC3, tB3, tT3, tIx3, tCh3, tAnd3, tOr3, tNot3, tNil3, tCons3, tTup3, tLst3, tOfL, tCall3, tU3, tUL, tSl3, tNo3, tSome3, tCat3, tRep3, oEq, oNe, oLt_int, oLt_tup, oLe_int, oLe_tup, oGt_int, oGt_tup, oGe_int, oGe_tup, eqD_int, eqD_str, eqD_bl, eqD_non, eqD_tup, eqD_lst, oAdd, oSub, oMul, oDiv, oMod, oPow, oIs, oIsnt, oIn, oNotIn, inD, lookD, oIx_lst, oIx_tup, oIx_frl, oIx_sq, oIx_dT, oIx_dK, getD, oSl, oInt, oSorted, isB, tPut3, tApp3, tDicT, tDicK, tBk3, tCt3, tMin2, tMax2, tNeg3, tIf3E, tAndV3, tOrV3, tNotV3, tIsi, tIndex3, tYes3, tRaise0, tRaise1, tIsE3, tXf3, wipe3, List.set_cons_zero, List.set_cons_succ, List.getElem?_cons_zero, List.getElem?_cons_succ, List.getElem?_nil, Fl.isSt, D.flat, Fl.nb, Fl.item, cond_true, cond_false, Bool.true_or, Bool.or_true, Bool.false_or, Bool.or_false, Bool.and_true, Bool.true_and, Bool.and_false, Bool.false_and, if_true, if_false, ite_true, ite_false, Bool.false_eq_true, Bool.not_true, Bool.not_false, isNon_non, isNon_lst, isNon_tup, isNon_int, isNon_bl, isNon_str, isNon_sq, ty_ii, ty_bi, ty_tt, ty_tl, ty_ti, ty_tn, ty_lt, ty_ll, ty_ib, ty_bb, ni_int, ni_tup, ni_lst, ni_bl, ni_non, List.length_cons, List.length_nil, reduceIte, List.map_cons, List.map_nil, true_and, and_true, Nat.zero_add, Nat.reduceAdd, List.length_map, Nat.zero_le, Int.toNat_natCast]
  refine ⟨cs, 7, rfl, fun v => ?_⟩
  try simp only [tSeq3, tNx3, tIf3, tRet3, tRetN3, tSet3, tOwn3, tAsg3, tExpr3, tFrz, frzS, tFor3_eq, tLc3_eq, tLc23_eq, tSeq3I_eq, seqK_lst, seqK_tup, seqK_frl, seqK_sq, oTup_lst, oTup_tup, oTup_sq, oList_lst, oList_tup, oList_sq, oLen_lst, oLen_tup, oLen_frl, oLen_sq, flat_sq, tRg1, tRg2, gN3, gT3, gCons3, gNil3, tV3, tC3, tB3, tT3, tIx3, tCh3, tAnd3, tOr3, tNot3, tNil3, tCons3, tTup3, tLst3, tOfL, tCall3, tU3, tUL, tSl3, tNo3, tSome3, tCat3, tRep3, oEq, oNe, oLt_int, oLt_tup, oLe_int, oLe_tup, oGt_int, oGt_tup, oGe_int, oGe_tup, eqD_int, eqD_str, eqD_bl, eqD_non, eqD_tup, eqD_lst, oAdd, oSub, oMul, oDiv, oMod, oPow, oIs, oIsnt, oIn, oNotIn, inD, lookD, oIx_lst, oIx_tup, oIx_frl, oIx_sq, oIx_dT, oIx_dK, getD, oSl, oInt, oSorted, isB, tPut3, tApp3, tDicT, tDicK, tBk3, tCt3, tMin2, tMax2, tNeg3, tIf3E, tAndV3, tOrV3, tNotV3, tIsi, tIndex3, tYes3, tRaise0, tRaise1, tIsE3, tXf3, wipe3, List.set_cons_zero, List.set_cons_succ, List.getElem?_cons_zero, List.getElem?_cons_succ, List.getElem?_nil, Fl.isSt, D.flat, Fl.nb, Fl.item, cond_true, cond_false, Bool.true_or, Bool.or_true, Bool.false_or, Bool.or_false, Bool.and_true, Bool.true_and, Bool.and_false, Bool.false_and, if_true, if_false, ite_true, ite_false, Bool.false_eq_true, Bool.not_true, Bool.not_false, isNon_non, isNon_lst, isNon_tup, isNon_int, isNon_bl, isNon_str, isNon_sq, ty_ii, ty_bi, ty_tt, ty_tl, ty_ti, ty_tn, ty_lt, ty_ll, ty_ib, ty_bb, ni_int, ni_tup, ni_lst, ni_bl, ni_non, List.length_cons, List.length_nil, reduceIte, List.map_cons, List.map_nil, true_and, and_true, Nat.zero_add, Nat.reduceAdd, List.length_map, Nat.zero_le, Int.toNat_natCast]
  refine ⟨by decide, cs, 8, rfl, fun v' => ?_⟩
  try simp only [tSeq3, tNx3, tIf3, tRet3, tRetN3, tSet3, tOwn3, tAsg3, tExpr3, tFrz, frzS, tFor3_eq, tLc3_eq, tLc23_eq, tSeq3I_eq, seqK_lst, seqK_tup, seqK_frl, seqK_sq, oTup_lst, oTup_tup, oTup_sq, oList_lst, oList_tup, oList_sq, oLen_lst, oLen_tup, oLen_frl, oLen_sq, flat_sq, tRg1, tRg2, gN3, gT3, gCons3, gNil3, tV3, tC3, tB3, tT3, tIx3, tCh3, tAnd3, tOr3, tNot3, tNil3, tCons3, tTup3, tLst3, tOfL, tCall3, tU3, tUL, tSl3, tNo3, tSome3, tCat3, tRep3, oEq, oNe, oLt_int, oLt_tup, oLe_int, oLe_tup, oGt_int, oGt_tup, oGe_int, oGe_tup, eqD_int, eqD_str, eqD_bl, eqD_non, eqD_tup, eqD_lst, oAdd, oSub, oMul, oDiv, oMod, oPow, oIs, oIsnt, oIn, oNotIn, inD, lookD, oIx_lst, oIx_tup, oIx_frl, oIx_sq, oIx_dT, oIx_dK, getD, oSl, oInt, oSorted, isB, tPut3, tApp3, tDicT, tDicK, tBk3, tCt3, tMin2, tMax2, tNeg3, tIf3E, tAndV3, tOrV3, tNotV3, tIsi, tIndex3, tYes3, tRaise0, tRaise1, tIsE3, tXf3, wipe3, List.set_cons_zero, List.set_cons_succ, List.getElem?_cons_zero, List.getElem?_cons_succ, List.getElem?_nil, Fl.isSt, D.flat, Fl.nb, Fl.item, cond_true, cond_false, Bool.true_or, Bool.or_true, Bool.false_or, Bool.or_false, Bool.and_true, Bool.true_and, Bool.and_false, Bool.false_and, if_true, if_false, ite_true, ite_false, Bool.false_eq_true, Bool.not_true, Bool.not_false, isNon_non, isNon_lst, isNon_tup, isNon_int, isNon_bl, isNon_str, isNon_sq, ty_ii, ty_bi, ty_tt, ty_tl, ty_ti, ty_tn, ty_lt, ty_ll, ty_ib, ty_bb, ni_int, ni_tup, ni_lst, ni_bl, ni_non, List.length_cons, List.length_nil, reduceIte, List.map_cons, List.map_nil, true_and, and_true, Nat.zero_add, Nat.reduceAdd, List.length_map, Nat.zero_le, Int.toNat_natCast]
  exact ⟨ps, x, y, _, v', rfl, by omega, by rw [hx2, hy1]; rfl, by omega, by omega, k⟩

end K53

namespace K53
open PySem PySem.Spec L2 PySem.W L3
open PyProof.Rows hiding St
open Tr
abbrev sI : Stmt := inClass (topS 3) 0
def exOf (a b c : Addr) (x : Str) : Addr := if x = "HouseError" then a else if x = "BadLog" then b else c
theorem ex1 (a b c : Addr) : exOf a b c "HouseError" = a := if_pos rfl
theorem ex2 (a b c : Addr) : exOf a b c "BadLog" = b := by unfold exOf; rw [if_neg (by decide), if_pos rfl]
theorem ex3 (a b c : Addr) : exOf a b c "TooMany" = c := by unfold exOf; rw [if_neg (by decide), if_neg (by decide)]
set_option maxHeartbeats 0 in
theorem all_mk {w : World} {K : PySem.W.Frag} {h : Heap} {mg : Str → Option Value} {fa : Addr} (X : K.In h) (G : h.Ns mainGlobals mg) (hfa : mg "law" = some (.ref fa))
    {f0 : Addr} {od0 an0 : Option Addr} {sl0 : Array (Option Value)} {oc0 kV0 dc0 pm0 cd0 ct0 : Value}
    {f1 : Addr} {od1 an1 : Option Addr} {sl1 : Array (Option Value)} {oc1 kV1 dc1 pm1 cd1 ct1 : Value}
    {f2 : Addr} {od2 an2 : Option Addr} {sl2 : Array (Option Value)} {oc2 kV2 dc2 pm2 cd2 ct2 : Value}
    {f3 : Addr} {od3 an3 : Option Addr} {sl3 : Array (Option Value)} {oc3 kV3 dc3 pm3 cd3 ct3 : Value}
    {f4 : Addr} {od4 an4 : Option Addr} {sl4 : Array (Option Value)} {oc4 kV4 dc4 pm4 cd4 ct4 : Value}
    {f5 : Addr} {od5 an5 : Option Addr} {sl5 : Array (Option Value)} {oc5 kV5 dc5 pm5 cd5 ct5 : Value}
    {f6 : Addr} {od6 an6 : Option Addr} {sl6 : Array (Option Value)} {oc6 kV6 dc6 pm6 cd6 ct6 : Value}
    {f7 : Addr} {od7 an7 : Option Addr} {sl7 : Array (Option Value)} {oc7 kV7 dc7 pm7 cd7 ct7 : Value}
    {f8 : Addr} {od8 an8 : Option Addr} {sl8 : Array (Option Value)} {oc8 kV8 dc8 pm8 cd8 ct8 : Value}
    {f9 : Addr} {od9 an9 : Option Addr} {sl9 : Array (Option Value)} {oc9 kV9 dc9 pm9 cd9 ct9 : Value}
    {f10 : Addr} {od10 an10 : Option Addr} {sl10 : Array (Option Value)} {oc10 kV10 dc10 pm10 cd10 ct10 : Value}
    {f11 : Addr} {od11 an11 : Option Addr} {sl11 : Array (Option Value)} {oc11 kV11 dc11 pm11 cd11 ct11 : Value}
    {f12 : Addr} {od12 an12 : Option Addr} {sl12 : Array (Option Value)} {oc12 kV12 dc12 pm12 cd12 ct12 : Value}
    {f13 : Addr} {od13 an13 : Option Addr} {sl13 : Array (Option Value)} {oc13 kV13 dc13 pm13 cd13 ct13 : Value}
    {f14 : Addr} {od14 an14 : Option Addr} {sl14 : Array (Option Value)} {oc14 kV14 dc14 pm14 cd14 ct14 : Value}
    {f15 : Addr} {od15 an15 : Option Addr} {sl15 : Array (Option Value)} {oc15 kV15 dc15 pm15 cd15 ct15 : Value}
    {f16 : Addr} {od16 an16 : Option Addr} {sl16 : Array (Option Value)} {oc16 kV16 dc16 pm16 cd16 ct16 : Value}
    {f17 : Addr} {od17 an17 : Option Addr} {sl17 : Array (Option Value)} {oc17 kV17 dc17 pm17 cd17 ct17 : Value}
    {f18 : Addr} {od18 an18 : Option Addr} {sl18 : Array (Option Value)} {oc18 kV18 dc18 pm18 cd18 ct18 : Value}
    {f19 : Addr} {od19 an19 : Option Addr} {sl19 : Array (Option Value)} {oc19 kV19 dc19 pm19 cd19 ct19 : Value}
    {f20 : Addr} {od20 an20 : Option Addr} {sl20 : Array (Option Value)} {oc20 kV20 dc20 pm20 cd20 ct20 : Value}
    {f21 : Addr} {od21 an21 : Option Addr} {sl21 : Array (Option Value)} {oc21 kV21 dc21 pm21 cd21 ct21 : Value}
    {f22 : Addr} {od22 an22 : Option Addr} {sl22 : Array (Option Value)} {oc22 kV22 dc22 pm22 cd22 ct22 : Value}
    {f23 : Addr} {od23 an23 : Option Addr} {sl23 : Array (Option Value)} {oc23 kV23 dc23 pm23 cd23 ct23 : Value}
    {f24 : Addr} {od24 an24 : Option Addr} {sl24 : Array (Option Value)} {oc24 kV24 dc24 pm24 cd24 ct24 : Value}
    {f25 : Addr} {od25 an25 : Option Addr} {sl25 : Array (Option Value)} {oc25 kV25 dc25 pm25 cd25 ct25 : Value}
    {f26 : Addr} {od26 an26 : Option Addr} {sl26 : Array (Option Value)} {oc26 kV26 dc26 pm26 cd26 ct26 : Value}
    {f27 : Addr} {od27 an27 : Option Addr} {sl27 : Array (Option Value)} {oc27 kV27 dc27 pm27 cd27 ct27 : Value}
    {f28 : Addr} {od28 an28 : Option Addr} {sl28 : Array (Option Value)} {oc28 kV28 dc28 pm28 cd28 ct28 : Value}
    {f29 : Addr} {od29 an29 : Option Addr} {sl29 : Array (Option Value)} {oc29 kV29 dc29 pm29 cd29 ct29 : Value}
    {f30 : Addr} {od30 an30 : Option Addr} {sl30 : Array (Option Value)} {oc30 kV30 dc30 pm30 cd30 ct30 : Value}
    {f31 : Addr} {od31 an31 : Option Addr} {sl31 : Array (Option Value)} {oc31 kV31 dc31 pm31 cd31 ct31 : Value}
    {t_MOST_LETTERS : Tok}
    {t_LETTER_COUNT : Tok}
    {C_HouseError : Addr}
    {C_BadLog : Addr}
    {C_TooMany : Addr}
    {nmT qT : Str} {NT : Addr} {bsT bmT : List Value} {snT : List Str} {subT : List Value} {abT : Bool} {colT : Option Bool} {ddT : Option Addr} {k0T k1T k2T k3T k5T : Option Value}
    {fI cdI ccI : Addr} {ocI kVI dcI pmI ctI cclI clI : Value} {odI anI cddI cldI : Option Addr} {slI ccsI cslI : Array (Option Value)} {vsI : Array Value} {fileI : Str} {tfI : Tok}
    (a0 : PySem.W.nsIn K mainGlobals "free_table" = some (some (.ref f0)))
    (l0 : K.lookup f0 = some ⟨oc0, od0, .func (PySem.W.fnOf "free_table" "free_table" (defArgs s_free_table) (defBody s_free_table) (defScope s_free_table) .none kV0 dc0 pm0 an0 cd0 ct0), sl0⟩)
    (c0 : PySem.W.codeIn K cd0 "free_table" = true)
    (k0 : PySem.W.keepIn K (.ref f0) = true)
    (a1 : PySem.W.nsIn K mainGlobals "are_letters" = some (some (.ref f1)))
    (l1 : K.lookup f1 = some ⟨oc1, od1, .func (PySem.W.fnOf "are_letters" "are_letters" (defArgs s_are_letters) (defBody s_are_letters) (defScope s_are_letters) .none kV1 dc1 pm1 an1 cd1 ct1), sl1⟩)
    (c1 : PySem.W.codeIn K cd1 "are_letters" = true)
    (k1 : PySem.W.keepIn K (.ref f1) = true)
    (a2 : PySem.W.nsIn K mainGlobals "demand_logs" = some (some (.ref f2)))
    (l2 : K.lookup f2 = some ⟨oc2, od2, .func (PySem.W.fnOf "demand_logs" "demand_logs" (defArgs s_demand_logs) (defBody s_demand_logs) (defScope s_demand_logs) .none kV2 dc2 pm2 an2 cd2 ct2), sl2⟩)
    (c2 : PySem.W.codeIn K cd2 "demand_logs" = true)
    (k2 : PySem.W.keepIn K (.ref f2) = true)
    (a3 : PySem.W.nsIn K mainGlobals "is_free_of" = some (some (.ref f3)))
    (l3 : K.lookup f3 = some ⟨oc3, od3, .func (PySem.W.fnOf "is_free_of" "is_free_of" (defArgs s_is_free_of) (defBody s_is_free_of) (defScope s_is_free_of) .none kV3 dc3 pm3 an3 cd3 ct3), sl3⟩)
    (c3 : PySem.W.codeIn K cd3 "is_free_of" = true)
    (k3 : PySem.W.keepIn K (.ref f3) = true)
    (a4 : PySem.W.nsIn K mainGlobals "first_letters" = some (some (.ref f4)))
    (l4 : K.lookup f4 = some ⟨oc4, od4, .func (PySem.W.fnOf "first_letters" "first_letters" (defArgs s_first_letters) (defBody s_first_letters) (defScope s_first_letters) .none kV4 dc4 pm4 an4 cd4 ct4), sl4⟩)
    (c4 : PySem.W.codeIn K cd4 "first_letters" = true)
    (k4 : PySem.W.keepIn K (.ref f4) = true)
    (a5 : PySem.W.nsIn K mainGlobals "without_first" = some (some (.ref f5)))
    (l5 : K.lookup f5 = some ⟨oc5, od5, .func (PySem.W.fnOf "without_first" "without_first" (defArgs s_without_first) (defBody s_without_first) (defScope s_without_first) .none kV5 dc5 pm5 an5 cd5 ct5), sl5⟩)
    (c5 : PySem.W.codeIn K cd5 "without_first" = true)
    (k5 : PySem.W.keepIn K (.ref f5) = true)
    (a6 : PySem.W.nsIn K mainGlobals "least_row" = some (some (.ref f6)))
    (l6 : K.lookup f6 = some ⟨oc6, od6, .func (PySem.W.fnOf "least_row" "least_row" (defArgs s_least_row) (defBody s_least_row) (defScope s_least_row) .none kV6 dc6 pm6 an6 cd6 ct6), sl6⟩)
    (c6 : PySem.W.codeIn K cd6 "least_row" = true)
    (k6 : PySem.W.keepIn K (.ref f6) = true)
    (a7 : PySem.W.nsIn K mainGlobals "remainder" = some (some (.ref f7)))
    (l7 : K.lookup f7 = some ⟨oc7, od7, .func (PySem.W.fnOf "remainder" "remainder" (defArgs s_remainder) (defBody s_remainder) (defScope s_remainder) .none kV7 dc7 pm7 an7 cd7 ct7), sl7⟩)
    (c7 : PySem.W.codeIn K cd7 "remainder" = true)
    (k7 : PySem.W.keepIn K (.ref f7) = true)
    (a8 : PySem.W.nsIn K mainGlobals "shared_parts" = some (some (.ref f8)))
    (l8 : K.lookup f8 = some ⟨oc8, od8, .func (PySem.W.fnOf "shared_parts" "shared_parts" (defArgs s_shared_parts) (defBody s_shared_parts) (defScope s_shared_parts) .none kV8 dc8 pm8 an8 cd8 ct8), sl8⟩)
    (c8 : PySem.W.codeIn K cd8 "shared_parts" = true)
    (k8 : PySem.W.keepIn K (.ref f8) = true)
    (a9 : PySem.W.nsIn K mainGlobals "bound_pairs" = some (some (.ref f9)))
    (l9 : K.lookup f9 = some ⟨oc9, od9, .func (PySem.W.fnOf "bound_pairs" "bound_pairs" (defArgs s_bound_pairs) (defBody s_bound_pairs) (defScope s_bound_pairs) .none kV9 dc9 pm9 an9 cd9 ct9), sl9⟩)
    (c9 : PySem.W.codeIn K cd9 "bound_pairs" = true)
    (k9 : PySem.W.keepIn K (.ref f9) = true)
    (a10 : PySem.W.nsIn K mainGlobals "shared_beginning" = some (some (.ref f10)))
    (l10 : K.lookup f10 = some ⟨oc10, od10, .func (PySem.W.fnOf "shared_beginning" "shared_beginning" (defArgs s_shared_beginning) (defBody s_shared_beginning) (defScope s_shared_beginning) .none kV10 dc10 pm10 an10 cd10 ct10), sl10⟩)
    (c10 : PySem.W.codeIn K cd10 "shared_beginning" = true)
    (k10 : PySem.W.keepIn K (.ref f10) = true)
    (a11 : PySem.W.nsIn K mainGlobals "common_log" = some (some (.ref f11)))
    (l11 : K.lookup f11 = some ⟨oc11, od11, .func (PySem.W.fnOf "common_log" "common_log" (defArgs s_common_log) (defBody s_common_log) (defScope s_common_log) .none kV11 dc11 pm11 an11 cd11 ct11), sl11⟩)
    (c11 : PySem.W.codeIn K cd11 "common_log" = true)
    (k11 : PySem.W.keepIn K (.ref f11) = true)
    (a12 : PySem.W.nsIn K mainGlobals "clash_letters" = some (some (.ref f12)))
    (l12 : K.lookup f12 = some ⟨oc12, od12, .func (PySem.W.fnOf "clash_letters" "clash_letters" (defArgs s_clash_letters) (defBody s_clash_letters) (defScope s_clash_letters) .none kV12 dc12 pm12 an12 cd12 ct12), sl12⟩)
    (c12 : PySem.W.codeIn K cd12 "clash_letters" = true)
    (k12 : PySem.W.keepIn K (.ref f12) = true)
    (a13 : PySem.W.nsIn K mainGlobals "_law_cell" = some (some (.ref f13)))
    (l13 : K.lookup f13 = some ⟨oc13, od13, .func (PySem.W.fnOf "_law_cell" "_law_cell" (defArgs s__law_cell) (defBody s__law_cell) (defScope s__law_cell) .none kV13 dc13 pm13 an13 cd13 ct13), sl13⟩)
    (c13 : PySem.W.codeIn K cd13 "_law_cell" = true)
    (k13 : PySem.W.keepIn K (.ref f13) = true)
    (a14 : PySem.W.nsIn K mainGlobals "_law_draws" = some (some (.ref f14)))
    (l14 : K.lookup f14 = some ⟨oc14, od14, .func (PySem.W.fnOf "_law_draws" "_law_draws" (defArgs s__law_draws) (defBody s__law_draws) (defScope s__law_draws) .none kV14 dc14 pm14 an14 cd14 ct14), sl14⟩)
    (c14 : PySem.W.codeIn K cd14 "_law_draws" = true)
    (k14 : PySem.W.keepIn K (.ref f14) = true)
    (a15 : PySem.W.nsIn K mainGlobals "_law_free" = some (some (.ref f15)))
    (l15 : K.lookup f15 = some ⟨oc15, od15, .func (PySem.W.fnOf "_law_free" "_law_free" (defArgs s__law_free) (defBody s__law_free) (defScope s__law_free) .none kV15 dc15 pm15 an15 cd15 ct15), sl15⟩)
    (c15 : PySem.W.codeIn K cd15 "_law_free" = true)
    (k15 : PySem.W.keepIn K (.ref f15) = true)
    (a16 : PySem.W.nsIn K mainGlobals "_law_table" = some (some (.ref f16)))
    (l16 : K.lookup f16 = some ⟨oc16, od16, .func (PySem.W.fnOf "_law_table" "_law_table" (defArgs s__law_table) (defBody s__law_table) (defScope s__law_table) .none kV16 dc16 pm16 an16 cd16 ct16), sl16⟩)
    (c16 : PySem.W.codeIn K cd16 "_law_table" = true)
    (k16 : PySem.W.keepIn K (.ref f16) = true)
    (a17 : PySem.W.nsIn K mainGlobals "_law_is_free" = some (some (.ref f17)))
    (l17 : K.lookup f17 = some ⟨oc17, od17, .func (PySem.W.fnOf "_law_is_free" "_law_is_free" (defArgs s__law_is_free) (defBody s__law_is_free) (defScope s__law_is_free) .none kV17 dc17 pm17 an17 cd17 ct17), sl17⟩)
    (c17 : PySem.W.codeIn K cd17 "_law_is_free" = true)
    (k17 : PySem.W.keepIn K (.ref f17) = true)
    (a18 : PySem.W.nsIn K mainGlobals "_law_letters" = some (some (.ref f18)))
    (l18 : K.lookup f18 = some ⟨oc18, od18, .func (PySem.W.fnOf "_law_letters" "_law_letters" (defArgs s__law_letters) (defBody s__law_letters) (defScope s__law_letters) .none kV18 dc18 pm18 an18 cd18 ct18), sl18⟩)
    (c18 : PySem.W.codeIn K cd18 "_law_letters" = true)
    (k18 : PySem.W.keepIn K (.ref f18) = true)
    (a19 : PySem.W.nsIn K mainGlobals "_law_stranger" = some (some (.ref f19)))
    (l19 : K.lookup f19 = some ⟨oc19, od19, .func (PySem.W.fnOf "_law_stranger" "_law_stranger" (defArgs s__law_stranger) (defBody s__law_stranger) (defScope s__law_stranger) .none kV19 dc19 pm19 an19 cd19 ct19), sl19⟩)
    (c19 : PySem.W.codeIn K cd19 "_law_stranger" = true)
    (k19 : PySem.W.keepIn K (.ref f19) = true)
    (a20 : PySem.W.nsIn K mainGlobals "_law_taken" = some (some (.ref f20)))
    (l20 : K.lookup f20 = some ⟨oc20, od20, .func (PySem.W.fnOf "_law_taken" "_law_taken" (defArgs s__law_taken) (defBody s__law_taken) (defScope s__law_taken) .none kV20 dc20 pm20 an20 cd20 ct20), sl20⟩)
    (c20 : PySem.W.codeIn K cd20 "_law_taken" = true)
    (k20 : PySem.W.keepIn K (.ref f20) = true)
    (a21 : PySem.W.nsIn K mainGlobals "_law_behind" = some (some (.ref f21)))
    (l21 : K.lookup f21 = some ⟨oc21, od21, .func (PySem.W.fnOf "_law_behind" "_law_behind" (defArgs s__law_behind) (defBody s__law_behind) (defScope s__law_behind) .none kV21 dc21 pm21 an21 cd21 ct21), sl21⟩)
    (c21 : PySem.W.codeIn K cd21 "_law_behind" = true)
    (k21 : PySem.W.keepIn K (.ref f21) = true)
    (a22 : PySem.W.nsIn K mainGlobals "_law_least" = some (some (.ref f22)))
    (l22 : K.lookup f22 = some ⟨oc22, od22, .func (PySem.W.fnOf "_law_least" "_law_least" (defArgs s__law_least) (defBody s__law_least) (defScope s__law_least) .none kV22 dc22 pm22 an22 cd22 ct22), sl22⟩)
    (c22 : PySem.W.codeIn K cd22 "_law_least" = true)
    (k22 : PySem.W.keepIn K (.ref f22) = true)
    (a23 : PySem.W.nsIn K mainGlobals "_law_beginning" = some (some (.ref f23)))
    (l23 : K.lookup f23 = some ⟨oc23, od23, .func (PySem.W.fnOf "_law_beginning" "_law_beginning" (defArgs s__law_beginning) (defBody s__law_beginning) (defScope s__law_beginning) .none kV23 dc23 pm23 an23 cd23 ct23), sl23⟩)
    (c23 : PySem.W.codeIn K cd23 "_law_beginning" = true)
    (k23 : PySem.W.keepIn K (.ref f23) = true)
    (a24 : PySem.W.nsIn K mainGlobals "_law_second" = some (some (.ref f24)))
    (l24 : K.lookup f24 = some ⟨oc24, od24, .func (PySem.W.fnOf "_law_second" "_law_second" (defArgs s__law_second) (defBody s__law_second) (defScope s__law_second) .none kV24 dc24 pm24 an24 cd24 ct24), sl24⟩)
    (c24 : PySem.W.codeIn K cd24 "_law_second" = true)
    (k24 : PySem.W.keepIn K (.ref f24) = true)
    (a25 : PySem.W.nsIn K mainGlobals "_law_is_row" = some (some (.ref f25)))
    (l25 : K.lookup f25 = some ⟨oc25, od25, .func (PySem.W.fnOf "_law_is_row" "_law_is_row" (defArgs s__law_is_row) (defBody s__law_is_row) (defScope s__law_is_row) .none kV25 dc25 pm25 an25 cd25 ct25), sl25⟩)
    (c25 : PySem.W.codeIn K cd25 "_law_is_row" = true)
    (k25 : PySem.W.keepIn K (.ref f25) = true)
    (a26 : PySem.W.nsIn K mainGlobals "_law_same_row" = some (some (.ref f26)))
    (l26 : K.lookup f26 = some ⟨oc26, od26, .func (PySem.W.fnOf "_law_same_row" "_law_same_row" (defArgs s__law_same_row) (defBody s__law_same_row) (defScope s__law_same_row) .none kV26 dc26 pm26 an26 cd26 ct26), sl26⟩)
    (c26 : PySem.W.codeIn K cd26 "_law_same_row" = true)
    (k26 : PySem.W.keepIn K (.ref f26) = true)
    (a27 : PySem.W.nsIn K mainGlobals "_law_shared_is_right" = some (some (.ref f27)))
    (l27 : K.lookup f27 = some ⟨oc27, od27, .func (PySem.W.fnOf "_law_shared_is_right" "_law_shared_is_right" (defArgs s__law_shared_is_right) (defBody s__law_shared_is_right) (defScope s__law_shared_is_right) .none kV27 dc27 pm27 an27 cd27 ct27), sl27⟩)
    (c27 : PySem.W.codeIn K cd27 "_law_shared_is_right" = true)
    (k27 : PySem.W.keepIn K (.ref f27) = true)
    (a28 : PySem.W.nsIn K mainGlobals "_law_answers_meet" = some (some (.ref f28)))
    (l28 : K.lookup f28 = some ⟨oc28, od28, .func (PySem.W.fnOf "_law_answers_meet" "_law_answers_meet" (defArgs s__law_answers_meet) (defBody s__law_answers_meet) (defScope s__law_answers_meet) .none kV28 dc28 pm28 an28 cd28 ct28), sl28⟩)
    (c28 : PySem.W.codeIn K cd28 "_law_answers_meet" = true)
    (k28 : PySem.W.keepIn K (.ref f28) = true)
    (a29 : PySem.W.nsIn K mainGlobals "_law_refusal" = some (some (.ref f29)))
    (l29 : K.lookup f29 = some ⟨oc29, od29, .func (PySem.W.fnOf "_law_refusal" "_law_refusal" (defArgs s__law_refusal) (defBody s__law_refusal) (defScope s__law_refusal) .none kV29 dc29 pm29 an29 cd29 ct29), sl29⟩)
    (c29 : PySem.W.codeIn K cd29 "_law_refusal" = true)
    (k29 : PySem.W.keepIn K (.ref f29) = true)
    (a30 : PySem.W.nsIn K mainGlobals "_law_refused" = some (some (.ref f30)))
    (l30 : K.lookup f30 = some ⟨oc30, od30, .func (PySem.W.fnOf "_law_refused" "_law_refused" (defArgs s__law_refused) (defBody s__law_refused) (defScope s__law_refused) .none kV30 dc30 pm30 an30 cd30 ct30), sl30⟩)
    (c30 : PySem.W.codeIn K cd30 "_law_refused" = true)
    (k30 : PySem.W.keepIn K (.ref f30) = true)
    (a31 : PySem.W.nsIn K mainGlobals "law" = some (some (.ref f31)))
    (l31 : K.lookup f31 = some ⟨oc31, od31, .func (PySem.W.fnOf "law" "law" (defArgs s_law) (defBody s_law) (defScope s_law) .none kV31 dc31 pm31 an31 cd31 ct31), sl31⟩)
    (c31 : PySem.W.codeIn K cd31 "law" = true)
    (k31 : PySem.W.keepIn K (.ref f31) = true)
    (z_len : PySem.W.nsIn K mainGlobals "len" = some none)
    (z_tuple : PySem.W.nsIn K mainGlobals "tuple" = some none)
    (z_sorted : PySem.W.nsIn K mainGlobals "sorted" = some none)
    (z_min : PySem.W.nsIn K mainGlobals "min" = some none)
    (z_max : PySem.W.nsIn K mainGlobals "max" = some none)
    (z_int : PySem.W.nsIn K mainGlobals "int" = some none)
    (z_bool : PySem.W.nsIn K mainGlobals "bool" = some none)
    (z_range : PySem.W.nsIn K mainGlobals "range" = some none)
    (z_list : PySem.W.nsIn K mainGlobals "list" = some none)
    (z_isinstance : PySem.W.nsIn K mainGlobals "isinstance" = some none)
    (z_ValueError : PySem.W.nsIn K mainGlobals "ValueError" = some none)
    (z_super : PySem.W.nsIn K mainGlobals "super" = some none)
    (q_MOST_LETTERS : PySem.W.nsIn K mainGlobals "MOST_LETTERS" = some (some (.int 60 t_MOST_LETTERS)))
    (q_LETTER_COUNT : PySem.W.nsIn K mainGlobals "LETTER_COUNT" = some (some (.int 16 t_LETTER_COUNT)))
    (x_HouseError : PySem.W.nsIn K mainGlobals "HouseError" = some (some (.ref C_HouseError)))
    (x_BadLog : PySem.W.nsIn K mainGlobals "BadLog" = some (some (.ref C_BadLog)))
    (x_TooMany : PySem.W.nsIn K mainGlobals "TooMany" = some (some (.ref C_TooMany)))
    (e1 : PySem.W.excIn K C_BadLog [.type "ValueError", .type "Exception", .type "BaseException", .type "object"] "ValueError.__new__" = true)
    (e2 : PySem.W.keepIn K (.ref C_BadLog) = true)
    (e3BadLog : PySem.W.subIn K (.ref C_BadLog) (.type "BaseException") = some true)
    (e4BadLog : PySem.W.typeIn K (.ref C_BadLog) = some (.type "type"))
    (g1BadLog : PySem.W.findIn K (.ref C_BadLog) "__getattribute__" = some (some (.builtin "BaseException.__getattribute__")))
    (g2BadLog : PySem.W.findIn K (.ref C_BadLog) "__getattr__" = some none)
    (g3BadLog : PySem.W.hasDictIn K C_BadLog = true)
    (g4BadLog : PySem.W.findIn K (.ref C_BadLog) "__class__" = some (some (.builtin "object.__class__")))
    (g7BadLog : PySem.W.mroIn K C_BadLog (.type "object") = some true)
    (e3TooMany : PySem.W.subIn K (.ref C_TooMany) (.type "BaseException") = some true)
    (e4TooMany : PySem.W.typeIn K (.ref C_TooMany) = some (.type "type"))
    (g1TooMany : PySem.W.findIn K (.ref C_TooMany) "__getattribute__" = some (some (.builtin "BaseException.__getattribute__")))
    (g2TooMany : PySem.W.findIn K (.ref C_TooMany) "__getattr__" = some none)
    (g3TooMany : PySem.W.hasDictIn K C_TooMany = true)
    (g4TooMany : PySem.W.findIn K (.ref C_TooMany) "__class__" = some (some (.builtin "object.__class__")))
    (g7TooMany : PySem.W.mroIn K C_TooMany (.type "object") = some true)
    (g5 : PySem.W.specialIn K (.builtin "object.__class__") "__get__" = some (some (.builtin "getset_descriptor.__get__")))
    (g6 : PySem.W.takesIn K (.builtin "object.__class__") = some true)
    (m1 : PySem.W.exmOne K (.ref C_BadLog) (.ref C_HouseError) = some true)
    (m2 : PySem.W.exmOne K (.ref C_TooMany) (.ref C_HouseError) = some true)
    (kk1 : PySem.W.kitOne K (.ref C_BadLog) (.type "ValueError") = some true)
    (kk2 : PySem.W.kitOne K (.ref C_BadLog) (.ref C_BadLog) = some true)
    (kk3 : PySem.W.kitOne K (.ref C_BadLog) (.ref C_TooMany) = some false)
    (kk4 : PySem.W.kitOne K (.ref C_TooMany) (.type "ValueError") = some true)
    (kk5 : PySem.W.kitOne K (.ref C_TooMany) (.ref C_BadLog) = some false)
    (kk6 : PySem.W.kitOne K (.ref C_TooMany) (.ref C_TooMany) = some true)
    (oT : K.lookup C_TooMany = some (excClassObj nmT qT C_TooMany NT bsT bmT true snT subT abT colT ddT k0T k1T k2T k3T k5T "ValueError.__new__"))
    (rT : PySem.HandSPX.refsVE bmT = true)
    (saT : PySem.W.findIn K (.ref C_TooMany) "__setattr__" = some (some (.builtin "object.__setattr__")))
    (kcT : PySem.W.keepIn K (.ref C_TooMany) = true)
    (inT : PySem.W.findIn K (.ref C_TooMany) "__init__" = some (some (.ref fI)))
    (tyI : PySem.W.typeIn K (.ref fI) = some (.type "function"))
    (lI : K.lookup fI = some ⟨ocI, odI, .func (PySem.W.fnX "__init__" "TooMany.__init__" (defArgs sI) (defBody sI) (defScope sI) [("__class__", ccI)] .none kVI dcI pmI anI (.ref cdI) ctI), slI⟩)
    (cI : PySem.W.codeIn K (.ref cdI) "TooMany.__init__" = true)
    (lcI : K.lookup cdI = some ⟨cclI, cddI, .fields vsI, ccsI⟩)
    (vI : vsI[2]? = some (.str fileI tfI))
    (ceI : K.lookup ccI = some ⟨clI, cldI, .cell (some (.ref C_TooMany)), cslI⟩)
    (opq : PySem.W.nsIn K cStatics "thirdparty.any" = some none)
    (supI : ks_superIn K C_TooMany C_TooMany "__init__" = some (some (.builtin "ValueError.__init__")))
    (sbI : PySem.W.subIn K (.ref C_TooMany) (.type "ValueError") = some true)
    (nfT : PySem.W.findIn K (.ref C_TooMany) "limit" = some none)
    (fileOk : ((PySem.Challenge.pw_calmhouse_k53_beginnings.main.file : Str) == fileI) = true) (topOk : (PySem.Challenge.pw_calmhouse_k53_beginnings.main.scope.names.lookup ("super" : Str)).isSome = false) :
    ∃ fd : FuncData, (∀ (s : Shared) (v : Value), BindsTo s fd ⟨[v], []⟩ [("script", v)]) ∧ ∀ base : Heap, K.In base → base.Ns mainGlobals mg → FnOk PySem.Challenge.pw_calmhouse_k53_beginnings w K mg base (L2.CX PySem.Challenge.pw_calmhouse_k53_beginnings w) 7 fa fd ["script"] (spOf 1 (fs_law fun _ => 0)) := by
  have e := hfa.symm.trans (PySem.W.mg_of X G a31)
  cases e
  have F0 := fun_mk (st := s_free_table) l0 c0 k0
  have b0 := F0.binds (ps := ["free"]) fun _ _ _ _ _ _ us hl => match us, hl with | [_], _ => rfl
  have h0 := PySem.W.mg_of X G a0
  have F1 := fun_mk (st := s_are_letters) l1 c1 k1
  have b1 := F1.binds (ps := ["log"]) fun _ _ _ _ _ _ us hl => match us, hl with | [_], _ => rfl
  have h1 := PySem.W.mg_of X G a1
  have F2 := fun_mk (st := s_demand_logs) l2 c2 k2
  have b2 := F2.binds (ps := ["logs"]) fun _ _ _ _ _ _ us hl => match us, hl with | [_], _ => rfl
  have h2 := PySem.W.mg_of X G a2
  have F3 := fun_mk (st := s_is_free_of) l3 c3 k3
  have b3 := F3.binds (ps := ["table", "letter", "others"]) fun _ _ _ _ _ _ us hl => match us, hl with | [_, _, _], _ => rfl
  have h3 := PySem.W.mg_of X G a3
  have F4 := fun_mk (st := s_first_letters) l4 c4 k4
  have b4 := F4.binds (ps := ["table", "row"]) fun _ _ _ _ _ _ us hl => match us, hl with | [_, _], _ => rfl
  have h4 := PySem.W.mg_of X G a4
  have F5 := fun_mk (st := s_without_first) l5 c5 k5
  have b5 := F5.binds (ps := ["row", "letter"]) fun _ _ _ _ _ _ us hl => match us, hl with | [_, _], _ => rfl
  have h5 := PySem.W.mg_of X G a5
  have F6 := fun_mk (st := s_least_row) l6 c6 k6
  have b6 := F6.binds (ps := ["table", "row"]) fun _ _ _ _ _ _ us hl => match us, hl with | [_, _], _ => rfl
  have h6 := PySem.W.mg_of X G a6
  have F7 := fun_mk (st := s_remainder) l7 c7 k7
  have b7 := F7.binds (ps := ["free", "start", "log"]) fun _ _ _ _ _ _ us hl => match us, hl with | [_, _, _], _ => rfl
  have h7 := PySem.W.mg_of X G a7
  have F8 := fun_mk (st := s_shared_parts) l8 c8 k8
  have b8 := F8.binds (ps := ["table", "first", "second"]) fun _ _ _ _ _ _ us hl => match us, hl with | [_, _, _], _ => rfl
  have h8 := PySem.W.mg_of X G a8
  have F9 := fun_mk (st := s_bound_pairs) l9 c9 k9
  have b9 := F9.binds (ps := ["table", "first", "second"]) fun _ _ _ _ _ _ us hl => match us, hl with | [_, _, _], _ => rfl
  have h9 := PySem.W.mg_of X G a9
  have F10 := fun_mk (st := s_shared_beginning) l10 c10 k10
  have b10 := F10.binds (ps := ["free", "first", "second"]) fun _ _ _ _ _ _ us hl => match us, hl with | [_, _, _], _ => rfl
  have h10 := PySem.W.mg_of X G a10
  have F11 := fun_mk (st := s_common_log) l11 c11 k11
  have b11 := F11.binds (ps := ["free", "first", "second"]) fun _ _ _ _ _ _ us hl => match us, hl with | [_, _, _], _ => rfl
  have h11 := PySem.W.mg_of X G a11
  have F12 := fun_mk (st := s_clash_letters) l12 c12 k12
  have b12 := F12.binds (ps := ["free", "first", "second"]) fun _ _ _ _ _ _ us hl => match us, hl with | [_, _, _], _ => rfl
  have h12 := PySem.W.mg_of X G a12
  have F13 := fun_mk (st := s__law_cell) l13 c13 k13
  have b13 := F13.binds (ps := ["script", "k"]) fun _ _ _ _ _ _ us hl => match us, hl with | [_, _], _ => rfl
  have h13 := PySem.W.mg_of X G a13
  have F14 := fun_mk (st := s__law_draws) l14 c14 k14
  have b14 := F14.binds (ps := ["cell", "base", "count"]) fun _ _ _ _ _ _ us hl => match us, hl with | [_, _, _], _ => rfl
  have h14 := PySem.W.mg_of X G a14
  have F15 := fun_mk (st := s__law_free) l15 c15 k15
  have b15 := F15.binds (ps := ["cell", "share"]) fun _ _ _ _ _ _ us hl => match us, hl with | [_, _], _ => rfl
  have h15 := PySem.W.mg_of X G a15
  have F16 := fun_mk (st := s__law_table) l16 c16 k16
  have b16 := F16.binds (ps := ["pairs"]) fun _ _ _ _ _ _ us hl => match us, hl with | [_], _ => rfl
  have h16 := PySem.W.mg_of X G a16
  have F17 := fun_mk (st := s__law_is_free) l17 c17 k17
  have b17 := F17.binds (ps := ["table", "one", "other"]) fun _ _ _ _ _ _ us hl => match us, hl with | [_, _, _], _ => rfl
  have h17 := PySem.W.mg_of X G a17
  have F18 := fun_mk (st := s__law_letters) l18 c18 k18
  have b18 := F18.binds (ps := ["cell", "shape", "size"]) fun _ _ _ _ _ _ us hl => match us, hl with | [_, _, _], _ => rfl
  have h18 := PySem.W.mg_of X G a18
  have F19 := fun_mk (st := s__law_stranger) l19 c19 k19
  have b19 := F19.binds (ps := ["cell"]) fun _ _ _ _ _ _ us hl => match us, hl with | [_], _ => rfl
  have h19 := PySem.W.mg_of X G a19
  have F20 := fun_mk (st := s__law_taken) l20 c20 k20
  have b20 := F20.binds (ps := ["table", "row", "letter"]) fun _ _ _ _ _ _ us hl => match us, hl with | [_, _, _], _ => rfl
  have h20 := PySem.W.mg_of X G a20
  have F21 := fun_mk (st := s__law_behind) l21 c21 k21
  have b21 := F21.binds (ps := ["table", "start", "log"]) fun _ _ _ _ _ _ us hl => match us, hl with | [_, _, _], _ => rfl
  have h21 := PySem.W.mg_of X G a21
  have F22 := fun_mk (st := s__law_least) l22 c22 k22
  have b22 := F22.binds (ps := ["table", "row"]) fun _ _ _ _ _ _ us hl => match us, hl with | [_, _], _ => rfl
  have h22 := PySem.W.mg_of X G a22
  have F23 := fun_mk (st := s__law_beginning) l23 c23 k23
  have b23 := F23.binds (ps := ["table", "log", "draws"]) fun _ _ _ _ _ _ us hl => match us, hl with | [_, _, _], _ => rfl
  have h23 := PySem.W.mg_of X G a23
  have F24 := fun_mk (st := s__law_second) l24 c24 k24
  have b24 := F24.binds (ps := ["table", "log", "choice", "draws", "other"]) fun _ _ _ _ _ _ us hl => match us, hl with | [_, _, _, _, _], _ => rfl
  have h24 := PySem.W.mg_of X G a24
  have F25 := fun_mk (st := s__law_is_row) l25 c25 k25
  have b25 := F25.binds (ps := ["answer"]) fun _ _ _ _ _ _ us hl => match us, hl with | [_], _ => rfl
  have h25 := PySem.W.mg_of X G a25
  have F26 := fun_mk (st := s__law_same_row) l26 c26 k26
  have b26 := F26.binds (ps := ["answer", "due"]) fun _ _ _ _ _ _ us hl => match us, hl with | [_, _], _ => rfl
  have h26 := PySem.W.mg_of X G a26
  have F27 := fun_mk (st := s__law_shared_is_right) l27 c27 k27
  have b27 := F27.binds (ps := ["table", "first", "second", "shared"]) fun _ _ _ _ _ _ us hl => match us, hl with | [_, _, _, _], _ => rfl
  have h27 := PySem.W.mg_of X G a27
  have F28 := fun_mk (st := s__law_answers_meet) l28 c28 k28
  have b28 := F28.binds (ps := ["table", "pairs", "first", "second"]) fun _ _ _ _ _ _ us hl => match us, hl with | [_, _, _, _], _ => rfl
  have h28 := PySem.W.mg_of X G a28
  have F29 := fun_mk (st := s__law_refusal) l29 c29 k29
  have b29 := F29.binds (ps := ["which", "pairs", "first", "second"]) fun _ _ _ _ _ _ us hl => match us, hl with | [_, _, _, _], _ => rfl
  have h29 := PySem.W.mg_of X G a29
  have F30 := fun_mk (st := s__law_refused) l30 c30 k30
  have b30 := F30.binds (ps := ["pairs", "first", "second", "choice", "cell"]) fun _ _ _ _ _ _ us hl => match us, hl with | [_, _, _, _, _], _ => rfl
  have h30 := PySem.W.mg_of X G a30
  have F31 := fun_mk (st := s_law) l31 c31 k31
  have b31 := F31.binds (ps := ["script"]) fun _ _ _ _ _ _ us hl => match us, hl with | [_], _ => rfl
  have h31 := PySem.W.mg_of X G a31
  refine ⟨PySem.W.fnOf "law" "law" (defArgs s_law) (defBody s_law) (defScope s_law) .none kV31 dc31 pm31 an31 cd31 ct31, fun s v => .of_eq rfl, fun base KB GB => ?_⟩
  have SA : SupAt PySem.Challenge.pw_calmhouse_k53_beginnings K C_TooMany fI sI "TooMany.__init__" _ := ⟨⟨ocI, cclI, clI, odI, cddI, cldI, kVI, dcI, pmI, ctI, anI, cdI, ccI, slI, ccsI, cslI, vsI, fileI, tfI, rfl, lI, cI, lcI, vI, fileOk, ceI⟩, ⟨⟨_, _, _, _, _, _, _, _, _, _, _, _, _, _, _, oT, rT⟩, saT, e3TooMany, e4TooMany, kcT⟩, opq, supI, sbI, topOk⟩
  have FI := sup_ok (w := w) (mg := mg) (base := base) (self := "self") (pn := "limit") (fld := "limit") 0 SA rfl (NdefX.nscope_by (by decide +kernel)) rfl rfl rfl (PySem.W.mg_none_of X G z_super) nfT (by decide)
  have T : Tx PySem.Challenge.pw_calmhouse_k53_beginnings w K mg base (exOf C_HouseError C_BadLog C_TooMany) := by
    constructor
    case b_len => exact PySem.W.mg_none_of X G z_len
    case b_tuple => exact PySem.W.mg_none_of X G z_tuple
    case b_sorted => exact PySem.W.mg_none_of X G z_sorted
    case b_min => exact PySem.W.mg_none_of X G z_min
    case b_max => exact PySem.W.mg_none_of X G z_max
    case b_int => exact PySem.W.mg_none_of X G z_int
    case b_bool => exact PySem.W.mg_none_of X G z_bool
    case b_range => exact PySem.W.mg_none_of X G z_range
    case b_list => exact PySem.W.mg_none_of X G z_list
    case b_isinstance => exact PySem.W.mg_none_of X G z_isinstance
    case b_ValueError => exact PySem.W.mg_none_of X G z_ValueError
    case c_MOST_LETTERS => exact ⟨t_MOST_LETTERS, PySem.W.mg_of X G q_MOST_LETTERS⟩
    case c_LETTER_COUNT => exact ⟨t_LETTER_COUNT, PySem.W.mg_of X G q_LETTER_COUNT⟩
    case x_HouseError => rw [ex1]; exact PySem.W.mg_of X G x_HouseError
    case x_BadLog => rw [ex2]; exact PySem.W.mg_of X G x_BadLog
    case x_TooMany => rw [ex3]; exact PySem.W.mg_of X G x_TooMany
    case e_BadLog => rw [ex2]; exact ⟨e1, e2, e3BadLog, e4BadLog⟩
    case i_TooMany => rw [ex3]; exact ⟨SA.oex, fI, _, _, inT, tyI, FI, .all fun us hl => match us, hl with | [_, _], _ => rfl⟩
    case m_BadLog => rw [ex1, ex2]; exact m1
    case m_TooMany => rw [ex1, ex3]; exact m2
    case kc_BadLog => rw [ex2]; exact ⟨g1BadLog, g2BadLog, e3BadLog, g3BadLog, g4BadLog, g5, g6, g7BadLog⟩
    case kc_TooMany => rw [ex3]; exact ⟨g1TooMany, g2TooMany, e3TooMany, g3TooMany, g4TooMany, g5, g6, g7TooMany⟩
    case k1 => rw [ex2]; exact kk1
    case k2 => rw [ex2]; exact kk2
    case k3 => rw [ex2, ex3]; exact kk3
    case k4 => rw [ex3]; exact kk4
    case k5 => rw [ex2, ex3]; exact kk5
    case k6 => rw [ex3]; exact kk6
    case xf_TooMany => rw [ex3]; exact ⟨g1TooMany, g2TooMany, e3TooMany, g3TooMany⟩
    case nf_TooMany => rw [ex3]; exact nfT
  have C0 := ok_free_table T  F0 h0 b0
  have C1 := ok_are_letters T  F1 h1 b1
  have C2 := ok_demand_logs T C1 F2 h2 b2
  have C3 := ok_is_free_of T  F3 h3 b3
  have C4 := ok_first_letters T C3 F4 h4 b4
  have C5 := ok_without_first T  F5 h5 b5
  have C6 := ok_least_row T C4 C5 F6 h6 b6
  have C7 := ok_remainder T C2 C0 C4 C5 F7 h7 b7
  have C8 := ok_shared_parts T C4 C5 F8 h8 b8
  have C9 := ok_bound_pairs T  F9 h9 b9
  have C10 := ok_shared_beginning T C2 C8 C0 F10 h10 b10
  have C11 := ok_common_log T C2 C0 C8 C9 C6 F11 h11 b11
  have C12 := ok_clash_letters T C2 C0 C8 C9 F12 h12 b12
  have C13 := ok__law_cell T  F13 h13 b13
  have C14 := ok__law_draws T  F14 h14 b14
  have C15 := ok__law_free T C14 F15 h15 b15
  have C16 := ok__law_table T  F16 h16 b16
  have C17 := ok__law_is_free T  F17 h17 b17
  have C18 := ok__law_letters T C14 F18 h18 b18
  have C19 := ok__law_stranger T  F19 h19 b19
  have C20 := ok__law_taken T C17 F20 h20 b20
  have C21 := ok__law_behind T C20 F21 h21 b21
  have C22 := ok__law_least T C17 F22 h22 b22
  have C23 := ok__law_beginning T C20 F23 h23 b23
  have C24 := ok__law_second T C23 C21 C17 F24 h24 b24
  have C25 := ok__law_is_row T  F25 h25 b25
  have C26 := ok__law_same_row T C25 F26 h26 b26
  have C27 := ok__law_shared_is_right T C21 C22 C20 F27 h27 b27
  have C28 := ok__law_answers_meet T C10 C25 C27 C21 C17 C22 C12 C26 C11 F28 h28 b28
  have C29 := ok__law_refusal T C7 C10 C11 C12 F29 h29 b29
  have C30 := ok__law_refused T C19 C29 F30 h30 b30
  have e0 : fs_law (exOf C_HouseError C_BadLog C_TooMany) = fs_law (fun _ => 0) := rfl
  rw [← e0]
  exact fn_law T C13 C15 C18 C14 C16 C24 C23 C26 C7 C21 C28 C30 F31
theorem mem_lk {a : Addr} {o : Obj} : ∀ {l : List (Addr × Obj)}, l.lookup a = some o → (a, o) ∈ l
  | [], h => by cases h
  | (b, u) :: r, h => by
    rw [List.lookup_cons] at h
    by_cases e : a = b
    · subst e
      simp at h
      subst h
      exact List.mem_cons_self
    · have e' : (a == b) = false := by simpa using e
      rw [e'] at h
      exact List.mem_cons_of_mem _ (mem_lk h)
def noLists (K : PySem.W.Frag) : Bool := K.all fun p => !(p.2.cls == .type "list")
theorem walk {l : PySem.W.OpenLaw} {q : Program} {loose : List Str} {XP : (Str → Option Value) → Heap → Prop} {YP : World → Heap → Prop} {d : DefRec} {K : Params → PySem.W.Frag} (hn : l.most = some 63) (hdf : d.params.defaults = [])
    (hY : ∀ (w : World) (h : Heap), YP w h → (K w.params).In h) (hL : ∀ w : World, noLists (K w.params) = true)
    (F : ∀ (w : World) (mg : Str → Option Value) (fa : Addr) (h : Heap), (K w.params).In h → h.Ns mainGlobals mg → mg d.name = some (.ref fa) →
      ∃ fd : FuncData, (∀ (s : Shared) (u : Value), BindsTo s fd ⟨[u], []⟩ [("script", u)]) ∧ ∀ base : Heap, (K w.params).In base → base.Ns mainGlobals mg → FnOk l.prog w (K w.params) mg base (L2.CX l.prog w) 7 fa fd ["script"] (spOf 1 (fs_law fun _ => 0))) :
    PySem.W.WalkO q loose XP YP l.row.toRowW d [] (fun f vs => PySem.call f vs) := by
  refine L2.walk_of (n := 63) (k := 7) (x := "script") (CX := fun w => L2.CX l.prog w) (sp := fun _ => spOf 1 (fs_law fun _ => 0)) hn (by decide) hdf ⟨rfl, by decide, by decide⟩ hY F (fun w H a ns hl hO hS => ?_) fun w H s e s' z => ?_
  · have hf : ∃ o, H a = some (.frz o (.lst (ns.map V.int))) := by
      rcases hS with (h | ⟨o, h⟩) | ⟨o, its, n, hk, hc, _⟩
      · rcases hO a with z | ⟨o, xs, z⟩
        · rw [h] at z; cases z
        · rw [h] at z; cases z
      · exact ⟨o, h⟩
      · have hm2 : (a, o) ∈ K w.params := mem_lk hk
        have hm := List.all_eq_true.mp (show ((K w.params).all fun p => !(p.2.cls == .type "list")) = true from hL w) (a, o) hm2
        simp only [hc, beq_self_eq_true, Bool.not_true] at hm
        cases hm
    obtain ⟨o, h⟩ := hf
    exact ⟨rfl, H, [.frl (intsD ns)], fun d => d = .bl true, fun _ => False, .refl _, .cons (.frl h (Reps.of_ints ns)) .nil, ⟨ns, rfl, rfl⟩, fun d v H1 B1 hd g r => by subst hd; cases r; rfl, fun _ _ _ _ _ z => z.elim⟩
  · obtain ⟨_, _, _, _, _, _, _, _, _, _, _, _, z⟩ := z
    exact z.elim
end K53

open PySem PySem.W PyProof.Rows
set_option maxRecDepth 100000 in
set_option maxHeartbeats 0 in
theorem PySem.Challenge.cw_calmhouse_k53_beginnings_holds : PySem.Challenge.rw_calmhouse_k53_beginnings.Holds := by
  w_on; o_law; k_head; (case hw => w_witness2)
  k_fill
  refine K53.walk (l := PySem.Challenge.rw_calmhouse_k53_beginnings) rfl rfl (fun w h Y => PySem.W.kIn_of Y) ?L ?F
  case L => intro w; first | k_is | kernel_rfl | rfl
  case F =>
    intro w mg fa h KX G hmg
    refine' K53.all_mk KX G hmg ?a0 ?l0 ?c0 ?k0 ?a1 ?l1 ?c1 ?k1 ?a2 ?l2 ?c2 ?k2 ?a3 ?l3 ?c3 ?k3 ?a4 ?l4 ?c4 ?k4 ?a5 ?l5 ?c5 ?k5 ?a6 ?l6 ?c6 ?k6 ?a7 ?l7 ?c7 ?k7 ?a8 ?l8 ?c8 ?k8 ?a9 ?l9 ?c9 ?k9 ?a10 ?l10 ?c10 ?k10 ?a11 ?l11 ?c11 ?k11 ?a12 ?l12 ?c12 ?k12 ?a13 ?l13 ?c13 ?k13 ?a14 ?l14 ?c14 ?k14 ?a15 ?l15 ?c15 ?k15 ?a16 ?l16 ?c16 ?k16 ?a17 ?l17 ?c17 ?k17 ?a18 ?l18 ?c18 ?k18 ?a19 ?l19 ?c19 ?k19 ?a20 ?l20 ?c20 ?k20 ?a21 ?l21 ?c21 ?k21 ?a22 ?l22 ?c22 ?k22 ?a23 ?l23 ?c23 ?k23 ?a24 ?l24 ?c24 ?k24 ?a25 ?l25 ?c25 ?k25 ?a26 ?l26 ?c26 ?k26 ?a27 ?l27 ?c27 ?k27 ?a28 ?l28 ?c28 ?k28 ?a29 ?l29 ?c29 ?k29 ?a30 ?l30 ?c30 ?k30 ?a31 ?l31 ?c31 ?k31 ?z_len ?z_tuple ?z_sorted ?z_min ?z_max ?z_int ?z_bool ?z_range ?z_list ?z_isinstance ?z_ValueError ?z_super ?q_MOST_LETTERS ?q_LETTER_COUNT ?x_HouseError ?x_BadLog ?x_TooMany ?e1 ?e2 ?e3BadLog ?e4BadLog ?g1BadLog ?g2BadLog ?g3BadLog ?g4BadLog ?g7BadLog ?e3TooMany ?e4TooMany ?g1TooMany ?g2TooMany ?g3TooMany ?g4TooMany ?g7TooMany ?g5 ?g6 ?m1 ?m2 ?kk1 ?kk2 ?kk3 ?kk4 ?kk5 ?kk6 ?oT ?rT ?saT ?kcT ?inT ?tyI ?lI ?cI ?lcI ?vI ?ceI ?opq ?supI ?sbI ?nfT ?fileOk ?topOk
    (case a0 => first | k_is | rfl)
    (case l0 => first | k_is | rfl)
    (case c0 => first | k_is | rfl)
    (case k0 => first | k_is | rfl)
    (case a1 => first | k_is | rfl)
    (case l1 => first | k_is | rfl)
    (case c1 => first | k_is | rfl)
    (case k1 => first | k_is | rfl)
    (case a2 => first | k_is | rfl)
    (case l2 => first | k_is | rfl)
    (case c2 => first | k_is | rfl)
    (case k2 => first | k_is | rfl)
    (case a3 => first | k_is | rfl)
    (case l3 => first | k_is | rfl)
    (case c3 => first | k_is | rfl)
    (case k3 => first | k_is | rfl)
    (case a4 => first | k_is | rfl)
    (case l4 => first | k_is | rfl)
    (case c4 => first | k_is | rfl)
    (case k4 => first | k_is | rfl)
    (case a5 => first | k_is | rfl)
    (case l5 => first | k_is | rfl)
    (case c5 => first | k_is | rfl)
    (case k5 => first | k_is | rfl)
    (case a6 => first | k_is | rfl)
    (case l6 => first | k_is | rfl)
    (case c6 => first | k_is | rfl)
    (case k6 => first | k_is | rfl)
    (case a7 => first | k_is | rfl)
    (case l7 => first | k_is | rfl)
    (case c7 => first | k_is | rfl)
    (case k7 => first | k_is | rfl)
    (case a8 => first | k_is | rfl)
    (case l8 => first | k_is | rfl)
    (case c8 => first | k_is | rfl)
    (case k8 => first | k_is | rfl)
    (case a9 => first | k_is | rfl)
    (case l9 => first | k_is | rfl)
    (case c9 => first | k_is | rfl)
    (case k9 => first | k_is | rfl)
    (case a10 => first | k_is | rfl)
    (case l10 => first | k_is | rfl)
    (case c10 => first | k_is | rfl)
    (case k10 => first | k_is | rfl)
    (case a11 => first | k_is | rfl)
    (case l11 => first | k_is | rfl)
    (case c11 => first | k_is | rfl)
    (case k11 => first | k_is | rfl)
    (case a12 => first | k_is | rfl)
    (case l12 => first | k_is | rfl)
    (case c12 => first | k_is | rfl)
    (case k12 => first | k_is | rfl)
    (case a13 => first | k_is | rfl)
    (case l13 => first | k_is | rfl)
    (case c13 => first | k_is | rfl)
    (case k13 => first | k_is | rfl)
    (case a14 => first | k_is | rfl)
    (case l14 => first | k_is | rfl)
    (case c14 => first | k_is | rfl)
    (case k14 => first | k_is | rfl)
    (case a15 => first | k_is | rfl)
    (case l15 => first | k_is | rfl)
    (case c15 => first | k_is | rfl)
    (case k15 => first | k_is | rfl)
    (case a16 => first | k_is | rfl)
    (case l16 => first | k_is | rfl)
    (case c16 => first | k_is | rfl)
    (case k16 => first | k_is | rfl)
    (case a17 => first | k_is | rfl)
    (case l17 => first | k_is | rfl)
    (case c17 => first | k_is | rfl)
    (case k17 => first | k_is | rfl)
    (case a18 => first | k_is | rfl)
    (case l18 => first | k_is | rfl)
    (case c18 => first | k_is | rfl)
    (case k18 => first | k_is | rfl)
    (case a19 => first | k_is | rfl)
    (case l19 => first | k_is | rfl)
    (case c19 => first | k_is | rfl)
    (case k19 => first | k_is | rfl)
    (case a20 => first | k_is | rfl)
    (case l20 => first | k_is | rfl)
    (case c20 => first | k_is | rfl)
    (case k20 => first | k_is | rfl)
    (case a21 => first | k_is | rfl)
    (case l21 => first | k_is | rfl)
    (case c21 => first | k_is | rfl)
    (case k21 => first | k_is | rfl)
    (case a22 => first | k_is | rfl)
    (case l22 => first | k_is | rfl)
    (case c22 => first | k_is | rfl)
    (case k22 => first | k_is | rfl)
    (case a23 => first | k_is | rfl)
    (case l23 => first | k_is | rfl)
    (case c23 => first | k_is | rfl)
    (case k23 => first | k_is | rfl)
    (case a24 => first | k_is | rfl)
    (case l24 => first | k_is | rfl)
    (case c24 => first | k_is | rfl)
    (case k24 => first | k_is | rfl)
    (case a25 => first | k_is | rfl)
    (case l25 => first | k_is | rfl)
    (case c25 => first | k_is | rfl)
    (case k25 => first | k_is | rfl)
    (case a26 => first | k_is | rfl)
    (case l26 => first | k_is | rfl)
    (case c26 => first | k_is | rfl)
    (case k26 => first | k_is | rfl)
    (case a27 => first | k_is | rfl)
    (case l27 => first | k_is | rfl)
    (case c27 => first | k_is | rfl)
    (case k27 => first | k_is | rfl)
    (case a28 => first | k_is | rfl)
    (case l28 => first | k_is | rfl)
    (case c28 => first | k_is | rfl)
    (case k28 => first | k_is | rfl)
    (case a29 => first | k_is | rfl)
    (case l29 => first | k_is | rfl)
    (case c29 => first | k_is | rfl)
    (case k29 => first | k_is | rfl)
    (case a30 => first | k_is | rfl)
    (case l30 => first | k_is | rfl)
    (case c30 => first | k_is | rfl)
    (case k30 => first | k_is | rfl)
    (case a31 => first | k_is | rfl)
    (case l31 => first | k_is | rfl)
    (case c31 => first | k_is | rfl)
    (case k31 => first | k_is | rfl)
    (case z_len => first | k_is | rfl)
    (case z_tuple => first | k_is | rfl)
    (case z_sorted => first | k_is | rfl)
    (case z_min => first | k_is | rfl)
    (case z_max => first | k_is | rfl)
    (case z_int => first | k_is | rfl)
    (case z_bool => first | k_is | rfl)
    (case z_range => first | k_is | rfl)
    (case z_list => first | k_is | rfl)
    (case z_isinstance => first | k_is | rfl)
    (case z_ValueError => first | k_is | rfl)
    (case z_super => first | k_is | rfl)
    (case q_MOST_LETTERS => first | k_is | rfl)
    (case q_LETTER_COUNT => first | k_is | rfl)
    (case x_HouseError => first | k_is | rfl)
    (case x_BadLog => first | k_is | rfl)
    (case x_TooMany => first | k_is | rfl)
    (case e1 => k_exc)
    (case e2 => first | k_is | rfl)
    (case e3BadLog => first | k_is | rfl)
    (case e4BadLog => first | k_is | rfl)
    (case g1BadLog => first | k_is | rfl)
    (case g2BadLog => first | k_is | rfl)
    (case g3BadLog => first | k_is | rfl)
    (case g4BadLog => first | k_is | rfl)
    (case g7BadLog => first | k_is | rfl)
    (case e3TooMany => first | k_is | rfl)
    (case e4TooMany => first | k_is | rfl)
    (case g1TooMany => first | k_is | rfl)
    (case g2TooMany => first | k_is | rfl)
    (case g3TooMany => first | k_is | rfl)
    (case g4TooMany => first | k_is | rfl)
    (case g7TooMany => first | k_is | rfl)
    (case g5 => first | k_is | rfl)
    (case g6 => first | k_is | rfl)
    (case m1 => first | k_is | rfl)
    (case m2 => first | k_is | rfl)
    (case kk1 => first | k_is | rfl)
    (case kk2 => first | k_is | rfl)
    (case kk3 => first | k_is | rfl)
    (case kk4 => first | k_is | rfl)
    (case kk5 => first | k_is | rfl)
    (case kk6 => first | k_is | rfl)
    (case oT => first | k_is | rfl)
    (case rT => first | k_is | rfl)
    (case saT => first | k_is | rfl)
    (case kcT => first | k_is | rfl)
    (case inT => first | k_is | rfl)
    (case tyI => first | k_is | rfl)
    (case lI => first | k_is | rfl)
    (case cI => first | k_is | rfl)
    (case lcI => first | k_is | rfl)
    (case vI => first | k_is | rfl)
    (case ceI => first | k_is | rfl)
    (case opq => first | k_is | rfl)
    (case supI => first | k_is | rfl)
    (case sbI => first | k_is | rfl)
    (case nfT => first | k_is | rfl)
    (case fileOk => first | rfl | k_is); (case topOk => first | rfl | k_is)

