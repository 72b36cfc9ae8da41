import PyProof.Rows.All
import Wide.All
import OpenK.AllK
import Wide.FinOn
import HandS.ForMost
import HandS.IsInst
import HandS.Flow
import HandS.Walk
import HandS.TupAny
import HandS.Evl
import HandS.Star
import HandS.Dict
import KE.KDictPairs
import HandS.Property
import HandS.Defaults
import HandS.MakeKwOnly
import HandS.Codes
import HandS.WideBits
import PyProof.RulesMatch
import PyProof.StrBlock2
import PyProof.Rows.StrMul
import KE.GoesEnum
import PyProof.EnumMake
import PyProof.Draws
import KE.KxField
import HandS.FStr
import HandS.SortKw
import KE.DatumOrd
import HandS.Style
import PyProof.ReprRoads
import HandS.Wide
import PySem.Challenge.RW_labelframes_k15_folded_expressions
set_option Elab.async false
set_option linter.all false
set_option maxRecDepth 100000
set_option maxHeartbeats 4000000
/-! tuples that are known to have no dict of their own -/
namespace Pd
open PySem L2
def tupO (us : List Value) : Obj := { cls := .type "tuple", data := .seq us.toArray }
/-- a tuple without a dict of its own -/
def TupN (K : PySem.W.Frag) (H : Hp) (a : Addr) (xs : List V) : Prop :=
  (∃ o, H a = some (.frz o (.tup xs)) ∧ o.dict = none) ∨ ∃ (o : Obj) (its : Array Value) (n : Nat), K.lookup a = some o ∧ o.cls = .type "tuple" ∧ o.dict = none ∧ o.data = .seq its n ∧ its.size ≤ sizeLine ∧ Vals xs its.toList
theorem TupN.sq {K : PySem.W.Frag} {H : Hp} {a : Addr} {xs : List V} (h : TupN K H a xs) : SqT K H a xs := by
  rcases h with ⟨o, h, _⟩ | ⟨o, its, n, h1, h2, _, h4, h5, h6⟩
  · exact .inl (.inr ⟨o, h⟩)
  · exact .inr ⟨o, its, n, h1, h2, h4, h5, h6⟩
section
variable {X : Cx} {pins : List (Addr × Obj)} {σ : L2.St} {H : Hp} {s : Shared}
theorem TupN.plain {a : Addr} {xs : List V} (I : Inv X pins σ H s) (h : TupN X.K H a xs) : ∃ its : List Value, Vals xs its ∧ PySem.PlainSeq "tuple" s.heap a its.toArray ∧ xs.length ≤ sizeLine := by
  rcases h with ⟨o, h, hd⟩ | ⟨o, its, n, h1, h2, h3, h4, h5, h6⟩
  · obtain ⟨e, z, its, r, ⟨o', e', hc, n, hs⟩⟩ := (show ObjOk X.prog X.w H s.heap a (.frz o (.tup xs)) from I.hok a _ h)
    rw [e] at e'
    cases e'
    exact ⟨its, r, ⟨o, n, e, hc, hd, hs⟩, z⟩
  · refine ⟨its.toList, h6, ⟨o, n, I.kIn a o h1, h2, h3, by simpa using h4⟩, ?_⟩
    rw [h6.length]
    simpa using h5
def tTupF (t : TA) : TE := fun σ H Q => t σ H fun xs H1 => xs.length ≤ sizeLine ∧ ∀ p us, H1 p = none → Vals xs us → Q (.ref p) (upd H1 p (.frz (tupO us) (.tup xs)))
theorem pe_tupF {x1} {es : List Expr} {pos : Pos} {t : TA} (h : PA X es t) : PE X (.Tuple es x1 pos) (tTupF t) := by
  refine ⟨fun pins s σ H Q I hq => wpAny_Tuple_spliced (thn (h.run pos pins s σ H _ I hq) fun us s1 ⟨xs, H1, I1, r, z, q⟩ => ⟨by rw [← r.length]; exact z, ?_⟩)⟩
  have hf : H1 s1.heap.objs.size = none := I1.hok.fresh (Nat.le_refl _)
  refine ⟨.ref s1.heap.objs.size, upd H1 s1.heap.objs.size (.frz (tupO us) (.tup xs)), I1.laid (t' := s1.toks) (fun b u e => Heap.get?_push_of_some _ e) (Nat.le_refl _) ?_, rfl, q _ us hf r⟩
  exact ⟨Heap.get?_push_size _ rfl, z, us, r, ⟨_, Heap.get?_push_size _ rfl, rfl, _, rfl⟩⟩
end
end Pd

set_option Elab.async false
set_option linter.all false
set_option maxRecDepth 100000
set_option maxHeartbeats 4000000
namespace Pd
open PySem L2
section
variable {X : Cx} {pins : List (Addr × Obj)} {σ : L2.St} {H : Hp} {s : Shared}
theorem pairsN (I : Inv X pins σ H s) : ∀ {ps : List Addr} {kvs : List (Key × V)}, Paired (fun p kv => SqT X.K H p [kV kv.1, kv.2]) ps kvs →
    ∃ (prs : List (Key × Value)) (pvs : List (Value × Value)), KV kvs prs ∧ prs.length = ps.length ∧ pvs.length = ps.length ∧
      ∀ (j : Nat) (k v : Value), pvs[j]? = some (k, v) → ∃ (b : Addr) (y : Key), ps[j]? = some b ∧ prs[j]? = some (y, v) ∧ PyProof.Rows.IsTup s.heap b #[k, v] ∧ (mixKind X.prog X.w).is y k = true
  | _, _, .nil => ⟨[], [], .nil, rfl, rfl, fun j k v e => by simp at e⟩
  | _, _, .cons (a := p) (b := kv) h t => by
    obtain ⟨prs, pvs, r, hl, hv, hp⟩ := pairsN I t
    obtain ⟨its, rv, ht, _⟩ := I.tuple h
    obtain ⟨u, y, ei, ru, ry⟩ := vals2 rv
    subst ei
    refine ⟨(kv.1, y) :: prs, (u, y) :: pvs, .cons ⟨rfl, ry⟩ r, by simp [hl], by simp [hv], fun j k v e => ?_⟩
    cases j with
    | zero =>
      cases Option.some.inj e
      exact ⟨p, kv.1, rfl, rfl, ht, kV_is ru⟩
    | succ j =>
      obtain ⟨b, y', e1, e2, e3, e4⟩ := hp j k v (by simpa using e)
      exact ⟨b, y', by simpa using e1, by simpa using e2, e3, e4⟩
/-- dict(t) of a tuple of pairs -/
theorem call_dictN (hcalm : X.calm = true) : CallR X (.type "dict") (fun xs H Q => ∃ (a : Addr) (ps : List Addr) (kvs : List (Key × V)), xs = [.ref a] ∧ TupN X.K H a (ps.map V.ref) ∧
    Paired (fun p kv => SqT X.K H p [kV kv.1, kv.2]) ps kvs ∧ ∀ p, H p = none → Q (.ref p) (upd H p (.dK (mergeK [] kvs)))) := by
  intro pins s σ H xs us Q I r q
  obtain ⟨a, ps, kvs, ex, hq, hp, q⟩ := q
  subst ex
  obtain ⟨u, eu, rx⟩ := vals1 r
  subst eu
  cases rx
  obtain ⟨its, rv, pl, hz⟩ := hq.plain I
  cases refs_at rv
  rw [List.length_map] at hz
  obtain ⟨prs, pvs, rel, hl, hv, hpr⟩ := pairsN I hp
  refine PySem.call_dict_pairs (knd := mixKind X.prog X.w) (kvs := prs) (PairArg.tuple a (ps.map Value.ref).toArray (fun j => (ps[j]?).getD 0) pvs) (I.ok.hd hcalm) ⟨pl, by simp [hv], fun j k v e => ?_⟩ ⟨by rw [hl, hv], fun j k v e => ?_⟩ (by rw [hv]; exact hz) fun h' tk hd' k => ?_
  · obtain ⟨b, y, e1, e2, e3, e4⟩ := hpr j k v e
    refine ⟨by simp [e1], .inl ?_⟩
    show s.heap.IsTuple ((ps[j]?).getD 0) #[k, v]
    rw [e1]
    exact e3
  · obtain ⟨b, y, e1, e2, e3, e4⟩ := hpr j k v e
    exact ⟨y, e2, e4⟩
  · have hm : (s.heap.objs.size == sysModules) = false := beq_eq_false_iff_ne.mpr (Nat.ne_of_gt I.big)
    have hlen : (mergeK [] kvs).length ≤ sizeLine := Nat.le_trans (length_mergeK kvs []) (by rw [List.length_nil, Nat.zero_add, rel.length, hl]; exact hz)
    have kp : ∀ b o, s.heap.get? b = some o → h'.get? b = some o := fun b o e => k b o (by simp) e
    exact ⟨.ref s.heap.objs.size, upd H s.heap.objs.size (.dK (mergeK [] kvs)), I.laid (t' := tk) kp (Nat.le_refl _) (show ObjOk X.prog X.w _ _ _ (.dK (mergeK [] kvs)) from ⟨hlen, hm, merged [] prs, KV.merge rel .nil, hd'⟩), rfl, q _ (I.hok.fresh (Nat.le_refl _))⟩
end
end Pd

set_option Elab.async false
set_option linter.all false
set_option maxRecDepth 100000
set_option maxHeartbeats 4000000
namespace Pd
open PySem L2 PySem.Spec PyProof.Rows
/-- a new tuple -/
def nwT (H : Hp) (ws : List V) (Q : VK) : Prop := ∀ p us, H p = none → Vals ws us → Q (.ref p) (upd H p (.frz (tupO us) (.tup ws)))
section
variable {X : Cx} {pins : List (Addr × Obj)} {σ : L2.St} {H : Hp} {s : Shared}
theorem laidT {h' : Heap} {tk : Nat} {ws : List V} {us : List Value} (I : L2.Inv X pins σ H { s with heap := h' }) (hz : ws.length ≤ sizeLine) (r : Vals ws us) :
    L2.Inv X pins σ (upd H h'.objs.size (.frz (tupO us) (.tup ws))) { s with heap := h'.push (tupO us), toks := tk } :=
  I.laid (t' := tk) (fun b o e => Heap.get?_push_of_some _ e) (Nat.le_refl _) ⟨Heap.get?_push_size _ rfl, hz, us, r, ⟨_, Heap.get?_push_size _ rfl, rfl, _, rfl⟩⟩
theorem call_tupleF : CallR X (.type "tuple") (fun xs H Q => ∃ p ys, xs = [.ref p] ∧ ((SqL X.K H p ys ∧ nwT H ys Q) ∨ (SqT X.K H p ys ∧ Q (.ref p) H))) := by
  intro pins s σ H xs us Q I r h
  obtain ⟨p, ys, rfl, h⟩ := h
  obtain ⟨u, rfl, rx⟩ := vals1 r
  cases rx
  rcases h with ⟨hq, q⟩ | ⟨hq, q⟩
  · obtain ⟨its, r', pl, hz⟩ := I.list hq
    have hlen := r'.length
    refine call_tuple_list pl.isList (fun h' kp => ?_) (by simp only [List.size_toArray] <;> omega)
    have I1 : L2.Inv X pins σ H { s with heap := h' } := I.kept (t' := s.toks) kp
    exact ⟨.ref h'.objs.size, _, laidT (tk := s.toks) I1 hz r', rfl, q _ _ (I1.hok.fresh (Nat.le_refl _)) r'⟩
  · obtain ⟨its, r', pl, hz⟩ := I.tuple hq
    exact call_tuple_same pl ⟨.ref p, H, I, rfl, q⟩
def rCatF (K : PySem.W.Frag) : R2 := fun x y H Q => ∃ a b xs ys, x = .ref a ∧ y = .ref b ∧ SqT K H a xs ∧ SqT K H b ys ∧ xs.length + ys.length ≤ sizeLine ∧
  (xs = [] → Q (.ref b) H) ∧ (xs ≠ [] → ys = [] → Q (.ref a) H) ∧ (xs ≠ [] → ys ≠ [] → nwT H (xs ++ ys) Q)
theorem op_catF : OpR X (binaryOp .Add) (rCatF X.K) := by
  intro pins s σ H x y v u Q I rx ry h
  obtain ⟨a, b, xs, ys, rfl, rfl, ha, hb, hz, q0, q1, q2⟩ := h
  cases rx
  cases ry
  obtain ⟨its, r1, p1, _⟩ := I.tuple ha
  obtain ⟨its2, r2, p2, _⟩ := I.tuple hb
  by_cases hx : xs = []
  · subst hx
    cases r1
    exact cat_tup0 p1 p2 ⟨.ref b, H, I, rfl, q0 rfl⟩
  · refine HT.cat_tup p1 p2 (fun z => hx (r1.nil_iff.mp z)) (fun z => ⟨.ref a, H, I, rfl, q1 hx (r2.nil_iff.mp z)⟩) (fun z => ?_) (by rw [← r1.length, ← r2.length]; exact hz)
    have I1 : L2.Inv X pins σ H { s with heap := s.heap } := I
    exact ⟨.ref s.heap.objs.size, _, laidT (tk := s.toks) I1 (by rw [List.length_append]; exact hz) (r1.append r2), rfl, q2 hx (fun w => z (r2.nil_iff.mpr w)) _ _ (I.hok.fresh (Nat.le_refl _)) (r1.append r2)⟩
def rSlF (K : PySem.W.Frag) : V → Option Int → Option Int → Hp → VK → Prop := fun x lo hi H Q => ∃ a xs, x = .ref a ∧ SqT K H a xs ∧
  (HT.sIx xs.length 0 lo = 0 ∧ HT.sIx xs.length xs.length hi = xs.length → Q (.ref a) H) ∧ (¬ (HT.sIx xs.length 0 lo = 0 ∧ HT.sIx xs.length xs.length hi = xs.length) → nwT H (cutV xs lo hi) Q)
theorem sl_tupF : SlR X (rSlF X.K) := by
  intro pins s σ H x v vl vu lo hi sl Q I rx hs pl pu h
  obtain ⟨a, xs, rfl, hx, q1, q2⟩ := h
  cases rx
  obtain ⟨its, r, ht, hz⟩ := I.tuple hx
  have hlen : its.toArray.size = xs.length := by rw [List.size_toArray]; exact r.length.symm
  by_cases hw : HT.sIx xs.length 0 lo = 0 ∧ HT.sIx xs.length xs.length hi = xs.length
  · exact ⟨"tuple", _, PyProof.Rows.slot_tuple_getitem.lookup, ht.typeIs, getItem_tuple_whole ht hs pl pu (by rw [hlen]; exact hw) ⟨.ref a, H, I, rfl, q1 hw⟩⟩
  · refine ⟨"tuple", _, PyProof.Rows.slot_tuple_getitem.lookup, ht.typeIs, HT.getItem_tuple_cut ht hs pl pu (by rw [hlen]; exact hw) ?_ (by rw [hlen]; exact hz)⟩
    rw [hlen]
    have rr := (r.drop (HT.sIx xs.length 0 lo)).take (HT.sIx xs.length xs.length hi - HT.sIx xs.length 0 lo)
    exact ⟨.ref s.heap.objs.size, _, laidT (tk := s.toks) (h' := s.heap) I (Nat.le_trans (cutV_length xs lo hi) hz) rr, rfl, q2 hw _ _ (I.hok.fresh (Nat.le_refl _)) rr⟩
end
end Pd

set_option Elab.async false
set_option linter.all false
set_option maxRecDepth 100000
set_option maxHeartbeats 4000000
namespace Pd
open PySem L2 PySem.Spec PyProof.Rows
def sK (fs : List (Str × V)) : List (Key × V) := fs.map fun p => (.inr p.1, p.2)
theorem sK_val (k : Str) : ∀ fs : List (Str × V), valV (sK fs) (.inr k) = fs.lookup k
  | [] => rfl
  | (x, v) :: r => by
    by_cases e : k = x
    · subst e
      rw [show sK ((k, v) :: r) = (.inr k, v) :: sK r from rfl, valV_pos rfl]
      simp [List.lookup]
    · rw [show sK ((x, v) :: r) = (.inr x, v) :: sK r from rfl, valV_neg (by intro h; exact e (Sum.inr.inj h).symm), sK_val k r]
      have : (k == x) = false := by simpa using e
      simp only [List.lookup, this]
/-- a dict with texts as keys, made here or a constant of a module -/
def DcN (K : PySem.W.Frag) (H : Hp) (a : Addr) (fs : List (Str × V)) : Prop :=
  Rd H a (.dK (sK fs)) ∨ ((a == sysModules) = false ∧ ∃ (o : Obj) (es : Array DictEntry) (ep : Nat) (vs : List (Key × Value)), K.lookup a = some o ∧ o.ExactDict ∧ o.data = .dict es ep ∧ KV (sK fs) vs ∧ (vs.map (·.1)).Nodup ∧
    ∀ (P : Program) (w : World), KeysOf (mixKind P w) es ∧ Pairs (mixKind P w) es.toList vs)
section
variable {X : Cx} {pins : List (Addr × Obj)} {σ : L2.St} {H : Hp} {s : Shared}
theorem DcN.of {a : Addr} {fs : List (Str × V)} (I : L2.Inv X pins σ H s) (h : DcN X.K H a fs) : (a == sysModules) = false ∧ ∃ vs, KV (sK fs) vs ∧ s.heap.DictOf (mixKind X.prog X.w) a vs := by
  rcases h with h | ⟨h0, o, es, ep, vs, h1, h2, h3, h4, h5, h6⟩
  · obtain ⟨_, hd, vs, rel, dd⟩ := dk_rd I.hok h
    exact ⟨hd, vs, rel, dd⟩
  · exact ⟨h0, vs, h4, o, es, ep, I.kIn a o h1, h2, h3, (h6 _ _).1, (h6 _ _).2, h5⟩
variable {o i : Expr} {pos : Pos} {td ty : TE}
def tGetN (K : PySem.W.Frag) (td ty : TE) : TE := fun σ H Q => td σ H fun x H1 => ty σ H1 fun y H2 => ∃ a fs k v, x = .ref a ∧ DcN K H2 a fs ∧ y = .str k ∧ fs.lookup k = some v ∧ Q v H2
theorem pe_getN (ho : PE X o td) (hi : PE X i ty) (hs : NoSl i) : PE X (.Subscript o i pos) (tGetN X.K td ty) := by
  refine ⟨fun pins s σ H Q I h => subD_of PySem.F.slot_dict_getitem.lookup hs (thn (ho.run pins s σ H _ I h) fun u s1 ⟨x, H1, I1, rx, q1⟩ => thn (hi.run pins s1 σ H1 _ I1 q1) fun iv s2 ⟨y, H2, I2, ry, a, fs, k, v, ex, g, ey, l, q2⟩ => ?_)⟩
  subst ex ey
  obtain rfl : u = Value.ref a := rx
  obtain ⟨hd, vs, rel, dd⟩ := g.of I2
  have rel2 := rel.val (.inr k)
  rw [sK_val, l] at rel2
  obtain ⟨w', hw, rw'⟩ := RelO.some_of (v := v) (o := valueAt vs (.inr k)) rel2
  exact ⟨dd.typeIs, wpAny_getItem_of (kV_is (k := .inr k) ry) dd.mapOf hw ⟨v, H2, I2.tok _, rw', q2⟩⟩
def tInN (K : PySem.W.Frag) (ty td : TE) : TE := fun σ H Q => ty σ H fun y H1 => td σ H1 fun x H2 => ∃ a fs k, x = .ref a ∧ DcN K H2 a fs ∧ y = .str k ∧ Q (.bl (fs.lookup k).isSome) H2
theorem pc_inN (hi : PE X i ty) (ho : PE X o td) : PC X .In i o (tInN X.K ty td) := by
  refine ⟨fun pins s σ H Q I h => thn (hi.run pins s σ H _ I h) fun iv s1 ⟨y, H1, I1, ry, q1⟩ => thn (ho.run pins s1 σ H1 _ I1 q1) fun u s2 ⟨x, H2, I2, rx, a, fs, k, ex, g, ey, q2⟩ => ?_⟩
  subst ex ey
  obtain rfl : u = Value.ref a := rx
  obtain ⟨hd, vs, rel, dd⟩ := g.of I2
  refine wpAny_in_of (kV_is (k := .inr k) ry) hd dd.mapOf ?_
  rw [← (rel.val (.inr k)).isSome_eq, sK_val]
  exact ⟨.bl _, H2, I2.tok _, rfl, q2⟩
def tNinN (K : PySem.W.Frag) (ty td : TE) : TE := fun σ H Q => ty σ H fun y H1 => td σ H1 fun x H2 => ∃ a fs k, x = .ref a ∧ DcN K H2 a fs ∧ y = .str k ∧ Q (.bl (!(fs.lookup k).isSome)) H2
theorem pc_ninN (hi : PE X i ty) (ho : PE X o td) : PC X .NotIn i o (tNinN X.K ty td) := by
  refine ⟨fun pins s σ H Q I h => thn (hi.run pins s σ H _ I h) fun iv s1 ⟨y, H1, I1, ry, q1⟩ => thn (ho.run pins s1 σ H1 _ I1 q1) fun u s2 ⟨x, H2, I2, rx, a, fs, k, ex, g, ey, q2⟩ => ?_⟩
  subst ex ey
  obtain rfl : u = Value.ref a := rx
  obtain ⟨hd, vs, rel, dd⟩ := g.of I2
  refine wpAny_notIn_of (kV_is (k := .inr k) ry) hd dd.mapOf ?_
  rw [← (rel.val (.inr k)).isSome_eq, sK_val]
  exact ⟨.bl _, H2, I2.tok _, rfl, q2⟩
end
end Pd

set_option Elab.async false
set_option linter.all false
set_option maxRecDepth 100000
set_option maxHeartbeats 4000000
/-! Pd: plain data over the hand layer: every expression has a functional meaning over data. -/
namespace Pd
open PySem L2
abbrev Fg := PySem.W.Frag
/-- plain data -/
inductive D where
  | non
  | bl (b : Bool)
  | int (i : Int)
  | str (s : Str)
  | tup (xs : List D)
  | lst (xs : List D)
  | obj (C : Addr) (fs : List (Str × D))
  | dct (fs : List (Str × D))
deriving Inhabited

structure Rm (k : Nat) (A : Around) : Prop where
  r : Room k A
  g : A.guards = some []
theorem Rm.mono {i k : Nat} {A : Around} (h : Rm k A) (l : i ≤ k) : Rm i A := ⟨h.r.mono l, h.g⟩
theorem Rm.units {k : Nat} {A : Around} (h : Rm k A) : A.units + 64 < cLine := h.r.units
def Ex (H H' : Hp) : Prop := ∀ a o, H a = some o → H' a = some o
theorem Ex.refl (H : Hp) : Ex H H := fun _ _ h => h
theorem Ex.trans {H H1 H2 : Hp} (a : Ex H H1) (b : Ex H1 H2) : Ex H H2 := fun x o h => b x o (a x o h)
theorem Ex.new {H : Hp} {p : Addr} {o : HO} (h : H p = none) : Ex H (upd H p o) := fun a u e => by
  rw [upd_ne (ne_of_none e h)]
  exact e
theorem ex_rd {H H' : Hp} {a : Addr} {u : HO} (e : Ex H H') (h : Rd H a u) : Rd H' a u := by
  rcases h with h | ⟨o, h⟩
  · exact Or.inl (e a _ h)
  · exact Or.inr ⟨o, e a _ h⟩
theorem ex_l {K : Fg} {H H' : Hp} {a : Addr} {xs : List V} (e : Ex H H') (h : SqL K H a xs) : SqL K H' a xs := by
  rcases h with h | h
  · exact Or.inl (ex_rd e h)
  · exact Or.inr h
theorem ex_t {K : Fg} {H H' : Hp} {a : Addr} {xs : List V} (e : Ex H H') (h : SqT K H a xs) : SqT K H' a xs := by
  rcases h with h | h
  · exact Or.inl (ex_rd e h)
  · exact Or.inr h
theorem sq_of {K : Fg} {H : Hp} {a : Addr} {xs : List V} (h : H a = some (.lst xs)) : SqL K H a xs := Or.inl (Or.inl h)
theorem st_of {K : Fg} {H : Hp} {a : Addr} {xs : List V} (h : H a = some (.tup xs)) : SqT K H a xs := Or.inl (Or.inl h)

theorem ex_n {K : Fg} {H H' : Hp} {a : Addr} {xs : List V} (e : Ex H H') (h : TupN K H a xs) : TupN K H' a xs := by
  rcases h with ⟨o, h, d⟩ | h
  · exact .inl ⟨o, e a _ h, d⟩
  · exact .inr h
theorem tn_of {K : Fg} {H : Hp} {a : Addr} {xs : List V} {us : List Value} (h : H a = some (.frz (tupO us) (.tup xs))) : TupN K H a xs := .inl ⟨_, h, rfl⟩
theorem ex_d {K : Fg} {H H' : Hp} {a : Addr} {fs : List (Str × V)} (e : Ex H H') (h : DcN K H a fs) : DcN K H' a fs := by
  rcases h with h | h
  · exact .inl (ex_rd e h)
  · exact .inr h
/-! ### how data stand in a heap -/
mutual
inductive Rp (K : Fg) (G : Hp) : V → D → Prop
  | non : Rp K G .non .non
  | bl (b : Bool) : Rp K G (.bl b) (.bl b)
  | int (i : Int) : Rp K G (.int i) (.int i)
  | str (s : Str) : Rp K G (.str s) (.str s)
  | tup {a : Addr} {vs : List V} {ds : List D} : TupN K G a vs → RpL K G vs ds → Rp K G (.ref a) (.tup ds)
  | lst {a : Addr} {vs : List V} {ds : List D} : SqL K G a vs → RpL K G vs ds → Rp K G (.ref a) (.lst ds)
  | obj {a C dx : Addr} {fs : List (Str × V)} {gs : List (Str × D)} : G a = some (.ins C dx fs) → RpF K G fs gs → Rp K G (.ref a) (.obj C gs)
  | dct {a : Addr} {fs : List (Str × V)} {gs : List (Str × D)} : DcN K G a fs → RpF K G fs gs → Rp K G (.ref a) (.dct gs)
inductive RpL (K : Fg) (G : Hp) : List V → List D → Prop
  | nil : RpL K G [] []
  | cons {v : V} {d : D} {vs : List V} {ds : List D} : Rp K G v d → RpL K G vs ds → RpL K G (v :: vs) (d :: ds)
inductive RpF (K : Fg) (G : Hp) : List (Str × V) → List (Str × D) → Prop
  | nil : RpF K G [] []
  | cons {x : Str} {v : V} {d : D} {vs : List (Str × V)} {ds : List (Str × D)} : Rp K G v d → RpF K G vs ds → RpF K G ((x, v) :: vs) ((x, d) :: ds)
end
section
variable {K : Fg} {G G' : Hp}
mutual
theorem Rp.mono (e : Ex G G') : ∀ {v : V} {d : D}, Rp K G v d → Rp K G' v d
  | _, _, .non => .non
  | _, _, .bl b => .bl b
  | _, _, .int i => .int i
  | _, _, .str s => .str s
  | _, _, .tup h r => .tup (ex_n e h) (RpL.mono e r)
  | _, _, .lst h r => .lst (ex_l e h) (RpL.mono e r)
  | _, _, .obj h r => .obj (e _ _ h) (RpF.mono e r)
  | _, _, .dct h r => .dct (ex_d e h) (RpF.mono e r)
theorem RpL.mono (e : Ex G G') : ∀ {v : List V} {d : List D}, RpL K G v d → RpL K G' v d
  | _, _, .nil => .nil
  | _, _, .cons h r => .cons (Rp.mono e h) (RpL.mono e r)
theorem RpF.mono (e : Ex G G') : ∀ {v : List (Str × V)} {d : List (Str × D)}, RpF K G v d → RpF K G' v d
  | _, _, .nil => .nil
  | _, _, .cons h r => .cons (Rp.mono e h) (RpF.mono e r)
end
theorem RpL.length : ∀ {vs : List V} {ds : List D}, RpL K G vs ds → vs.length = ds.length
  | _, _, .nil => rfl
  | _, _, .cons _ r => by rw [List.length_cons, List.length_cons, r.length]
theorem RpL.append : ∀ {vs ws : List V} {ds es : List D}, RpL K G vs ds → RpL K G ws es → RpL K G (vs ++ ws) (ds ++ es)
  | _, _, _, _, .nil, s => s
  | _, _, _, _, .cons h r, s => .cons h (r.append s)
theorem RpL.get : ∀ {vs : List V} {ds : List D} {i : Nat} {d : D}, RpL K G vs ds → ds[i]? = some d → ∃ v, vs[i]? = some v ∧ Rp K G v d
  | _, _, _, _, .nil, e => by simp at e
  | _, _, 0, _, .cons h _, e => by simp at e; subst e; exact ⟨_, rfl, h⟩
  | _, _, i + 1, d, .cons _ r, e => by
    obtain ⟨v, h1, h2⟩ := RpL.get (i := i) (d := d) r (by simpa using e)
    exact ⟨v, by simpa using h1, h2⟩
theorem RpL.getV : ∀ {vs : List V} {ds : List D} {i : Nat} {v : V}, RpL K G vs ds → vs[i]? = some v → ∃ d, ds[i]? = some d ∧ Rp K G v d
  | _, _, _, _, .nil, e => by simp at e
  | _, _, 0, _, .cons h _, e => by simp at e; subst e; exact ⟨_, rfl, h⟩
  | _, _, i + 1, v, .cons _ r, e => by
    obtain ⟨d, h1, h2⟩ := RpL.getV (i := i) (v := v) r (by simpa using e)
    exact ⟨d, by simpa using h1, h2⟩
theorem RpL.take : ∀ {vs : List V} {ds : List D} (n : Nat), RpL K G vs ds → RpL K G (vs.take n) (ds.take n)
  | _, _, 0, _ => .nil
  | _, _, _ + 1, .nil => .nil
  | _, _, n + 1, .cons h r => .cons h (r.take n)
theorem RpL.drop : ∀ {vs : List V} {ds : List D} (n : Nat), RpL K G vs ds → RpL K G (vs.drop n) (ds.drop n)
  | _, _, 0, r => r
  | _, _, _ + 1, .nil => .nil
  | _, _, n + 1, .cons _ r => r.drop n
theorem RpL.set {v : V} {d : D} (h : Rp K G v d) : ∀ {vs : List V} {ds : List D} (i : Nat), RpL K G vs ds → RpL K G (vs.set i v) (ds.set i d)
  | _, _, _, .nil => .nil
  | _, _, 0, .cons _ r => .cons h r
  | _, _, i + 1, .cons q r => .cons q (RpL.set h i r)
theorem RpL.snoc {vs : List V} {ds : List D} {v : V} {d : D} (r : RpL K G vs ds) (h : Rp K G v d) : RpL K G (vs ++ [v]) (ds ++ [d]) := r.append (.cons h .nil)
theorem RpF.look {f : Str} {d : D} : ∀ {fs : List (Str × V)} {gs : List (Str × D)}, RpF K G fs gs → gs.lookup f = some d → ∃ v, fs.lookup f = some v ∧ Rp K G v d
  | _, _, .nil, e => by simp at e
  | _, _, .cons (x := x) h r, e => by
    by_cases q : f == x
    · simp only [List.lookup, q] at e ⊢
      cases e
      exact ⟨_, rfl, h⟩
    · simp only [List.lookup, q] at e ⊢
      exact r.look e
theorem RpF.none {f : Str} : ∀ {fs : List (Str × V)} {gs : List (Str × D)}, RpF K G fs gs → gs.lookup f = none → fs.lookup f = none
  | _, _, .nil, e => rfl
  | _, _, .cons (x := x) h r, e => by
    by_cases q : f == x
    · simp only [List.lookup, q] at e
      cases e
    · simp only [List.lookup, q] at e ⊢
      exact r.none e
end

/-! ### the state of a def's body -/
inductive Sl where
  | emp | val (d : D) | own (ds : List D) | pool
abbrev En := List Sl
/-- an expression's value -/
inductive Vl where
  | dat (d : D) | pool
/-- what an expression comes to -/
inductive Ou (α : Type) where
  | stuck
  | ok (a : α) (m : List D)
abbrev Me (α : Type) := En → List D → Ou α
@[inline] def Ou.bind {α β : Type} (o : Ou α) (f : α → List D → Ou β) : Ou β := match o with
  | .stuck => .stuck
  | .ok a m => f a m
structure Ct where
  K : Fg
  H0 : Hp
  G0 : Hp
  P : Option Addr

structure J0 (c : Ct) (G H : Hp) (m : List D) : Prop where
  ex : Ex G H
  le : Ex c.G0 G
  fr : ∀ a o, G a = some o → c.G0 a = some o ∨ c.H0 a = none
  kp : ∀ a o, c.H0 a = some o → c.P ≠ some a → H a = some o
  pl : ∀ p, c.P = some p → (∃ o, c.H0 p = some o) ∧ c.G0 p = none ∧ ∃ ws, H p = some (.lst ws) ∧ RpL c.K G ws m
theorem J0.pG {c : Ct} {G H : Hp} {m : List D} (j : J0 c G H m) {p : Addr} (e : c.P = some p) : G p = none := by
  obtain ⟨⟨o, h0⟩, g0, _⟩ := j.pl p e
  cases q : G p with
  | none => rfl
  | some u =>
    rcases j.fr p u q with h | h
    · rw [g0] at h; cases h
    · rw [h0] at h; cases h
structure J (c : Ct) (G H : Hp) (σ : L2.St) (ρ : En) (m : List D) : Prop where
  z : J0 c G H m
  val : ∀ (i : Nat) (d : D), ρ[i]? = some (.val d) → ∃ v, σ[i]? = some (some v) ∧ Rp c.K G v d
  pol : ∀ (i : Nat), ρ[i]? = some .pool → ∃ p, c.P = some p ∧ σ[i]? = some (some (.ref p))
  own : ∀ (i : Nat) (ds : List D), ρ[i]? = some (.own ds) → ∃ (a : Addr) (ws : List V), σ[i]? = some (some (.ref a)) ∧ H a = some (.lst ws) ∧ G a = none ∧ c.H0 a = none ∧ RpL c.K G ws ds
  dis : ∀ (i j : Nat) (ds es : List D) (a : Addr), ρ[i]? = some (.own ds) → ρ[j]? = some (.own es) → σ[i]? = some (some (.ref a)) → σ[j]? = some (some (.ref a)) → i = j
  len : ρ.length = σ.length
/-- an expression changes nothing that is tracked but the pool -/
structure Mv (c : Ct) (G H G' H' : Hp) : Prop where
  ex : Ex G G'
  kp : ∀ a o, H a = some o → c.P ≠ some a → H' a = some o
  dm : ∀ a, H' a = none → H a = none
  nw : ∀ a o, G' a = some o → G a = some o ∨ H a = none
theorem Mv.refl (c : Ct) (G H : Hp) : Mv c G H G H := ⟨Ex.refl G, fun _ _ h _ => h, fun _ h => h, fun _ _ h => .inl h⟩
theorem Mv.trans {c : Ct} {G H G1 H1 G2 H2 : Hp} (a : Mv c G H G1 H1) (b : Mv c G1 H1 G2 H2) : Mv c G H G2 H2 :=
  ⟨a.ex.trans b.ex, fun x o h e => b.kp x o (a.kp x o h e) e, fun x h => a.dm x (b.dm x h), fun x o h => (b.nw x o h).elim (a.nw x o) fun h => .inr (a.dm x h)⟩
theorem Mv.new {c : Ct} {G H : Hp} {p : Addr} {o : HO} (h : H p = none) (g : G p = none) : Mv c G H (upd G p o) (upd H p o) :=
  ⟨Ex.new g, fun a u e _ => Ex.new h a u e, fun a e => by
    by_cases q : a = p
    · subst q; exact h
    · rw [upd_ne q] at e; exact e, fun a u e => by
    by_cases q : a = p
    · subst q; exact .inr h
    · rw [upd_ne q] at e; exact .inl e⟩
theorem Mv.newH {c : Ct} {G H : Hp} {p : Addr} {o : HO} (h : H p = none) : Mv c G H G (upd H p o) :=
  ⟨Ex.refl G, fun a u e _ => Ex.new h a u e, fun a e => by
    by_cases q : a = p
    · subst q; exact h
    · rw [upd_ne q] at e; exact e, fun a u e => .inl e⟩
theorem Mv.pub {c : Ct} {G H G1 H1 : Hp} (m : Mv c G H G1 H1) {p : Addr} {o : HO} (h : H p = none) (g : G1 p = none) : Mv c G H (upd G1 p o) H1 :=
  ⟨m.ex.trans (Ex.new g), m.kp, m.dm, fun a u e => by
    by_cases q : a = p
    · subst q; exact .inr h
    · rw [upd_ne q] at e; exact m.nw a u e⟩
def RpV (c : Ct) (G : Hp) (v : V) : Vl → Prop
  | .dat d => Rp c.K G v d
  | .pool => ∃ p, c.P = some p ∧ v = .ref p
theorem RpV.mono {c : Ct} {G G' : Hp} (e : Ex G G') {v : V} {x : Vl} (h : RpV c G v x) : RpV c G' v x := by
  cases x with
  | dat d => exact Rp.mono e h
  | pool => exact h
inductive RpVs (c : Ct) (G : Hp) : List V → List Vl → Prop
  | nil : RpVs c G [] []
  | cons {v : V} {x : Vl} {vs : List V} {xs : List Vl} : RpV c G v x → RpVs c G vs xs → RpVs c G (v :: vs) (x :: xs)
theorem RpVs.mono {c : Ct} {G G' : Hp} (e : Ex G G') : ∀ {vs : List V} {xs : List Vl}, RpVs c G vs xs → RpVs c G' vs xs
  | _, _, .nil => .nil
  | _, _, .cons h r => .cons (h.mono e) (r.mono e)
theorem RpVs.length {c : Ct} {G : Hp} : ∀ {vs : List V} {xs : List Vl}, RpVs c G vs xs → vs.length = xs.length
  | _, _, .nil => rfl
  | _, _, .cons _ r => by rw [List.length_cons, List.length_cons, r.length]

/-! ### readings -/
def tE (c : Ct) (f : Me Vl) : TE := fun σ H Q => ∃ G ρ m, J c G H σ ρ m ∧ match f ρ m with
  | .stuck => False
  | .ok x m' => ∀ v G' H', Mv c G H G' H' → J c G' H' σ ρ m' → RpV c G' v x → Q v H'
/-- a new list -/
def tL (c : Ct) (f : Me (List D)) : TE := fun σ H Q => ∃ G ρ m, J c G H σ ρ m ∧ match f ρ m with
  | .stuck => False
  | .ok ds m' => ∀ a ws G' H', Mv c G H G' H' → J c G' H' σ ρ m' → H a = none → G' a = none → H' a = some (.lst ws) → RpL c.K G' ws ds → Q (.ref a) H'
def tB (c : Ct) (f : Me Bool) : TT := fun σ H Q => ∃ G ρ m, J c G H σ ρ m ∧ match f ρ m with
  | .stuck => False
  | .ok b m' => ∀ G' H', Mv c G H G' H' → J c G' H' σ ρ m' → Q b H'
def tAs (c : Ct) (f : Me (List Vl)) : TA := fun σ H Q => ∃ G ρ m, J c G H σ ρ m ∧ match f ρ m with
  | .stuck => False
  | .ok xs m' => ∀ vs G' H', Mv c G H G' H' → J c G' H' σ ρ m' → RpVs c G' vs xs → Q vs H'
inductive So where
  | stuck
  | nx (ρ : En) (m : List D)
  | rt (d : D) (m : List D)
  | bk (ρ : En) (m : List D)
  | ct (ρ : En) (m : List D)
def tS (c : Ct) (f : En → List D → So) : TS := fun D σ H => ∃ G ρ m, J c G H σ ρ m ∧ match f ρ m with
  | .stuck => False
  | .nx ρ' m' => ∀ σ' G' H', Ex G G' → J c G' H' σ' ρ' m' → D.nx σ' H'
  | .rt d m' => ∀ v G' H', J0 c G' H' m' → Rp c.K G' v d → D.rt v H'
  | .bk ρ' m' => ∀ σ' G' H', Ex G G' → J c G' H' σ' ρ' m' → D.bk σ' H'
  | .ct ρ' m' => ∀ σ' G' H', Ex G G' → J c G' H' σ' ρ' m' → D.ct σ' H'

theorem PE.imp {X : Cx} {e : Expr} {t t' : TE} (h : PE X e t) (i : ∀ σ H Q, t' σ H Q → t σ H Q) : PE X e t' := ⟨fun pins s σ H Q I q => h.run pins s σ H Q I (i σ H Q q)⟩
theorem PT.imp {X : Cx} {e : Expr} {t t' : TT} (h : PT X e t) (i : ∀ σ H Q, t' σ H Q → t σ H Q) : PT X e t' := ⟨fun pins s σ H Q I q => h.run pins s σ H Q I (i σ H Q q)⟩
theorem PA.imp {X : Cx} {e : List Expr} {t t' : TA} (h : PA X e t) (i : ∀ σ H Q, t' σ H Q → t σ H Q) : PA X e t' := ⟨fun pos pins s σ H Q I q => h.run pos pins s σ H Q I (i σ H Q q)⟩
theorem PS.imp {X : Cx} {e : Stmt} {t t' : TS} (h : PS X e t) (i : ∀ D σ H, t' D σ H → t D σ H) : PS X e t' := ⟨fun pins s σ H Q I q => h.run pins s σ H Q I (i Q σ H q)⟩
theorem PSs.imp {X : Cx} {e : List Stmt} {t t' : TS} (h : PSs X e t) (i : ∀ D σ H, t' D σ H → t D σ H) : PSs X e t' := ⟨fun pins s σ H Q I q => h.run pins s σ H Q I (i Q σ H q)⟩
end Pd

set_option Elab.async false
set_option linter.all false
set_option maxRecDepth 100000
set_option maxHeartbeats 4000000
namespace Pd
open PySem L2
section
variable {X : Cx} {c : Ct}
/-! ### the state moves -/
theorem J.ext {G H H' : Hp} {σ : L2.St} {ρ : En} {m : List D} (j : J c G H σ ρ m) {p : Addr} {o : HO} (hp : H p = none) (e : H' = upd H p o) : J c G H' σ ρ m := by
  subst e
  have x := Ex.new (o := o) hp
  refine ⟨⟨j.z.ex.trans x, j.z.le, j.z.fr, fun a u h n => x a u (j.z.kp a u h n), fun q e => ?_⟩, j.val, j.pol, fun i ds h => ?_, j.dis, j.len⟩
  · obtain ⟨h0, g, ws, h1, h2⟩ := j.z.pl q e
    exact ⟨h0, g, ws, x _ _ h1, h2⟩
  · obtain ⟨a, ws, h1, h2, h3⟩ := j.own i ds h
    exact ⟨a, ws, h1, x _ _ h2, h3⟩
theorem J.h0 {G H : Hp} {σ : L2.St} {ρ : En} {m : List D} (j : J c G H σ ρ m) {p : Addr} (hp : H p = none) : c.H0 p = none := by
  cases e : c.H0 p with
  | none => rfl
  | some o =>
    by_cases h : c.P = some p
    · obtain ⟨_, _, ws, h1, _⟩ := j.z.pl p h
      rw [hp] at h1; cases h1
    · have := j.z.kp p o e h
      rw [hp] at this; cases this
theorem J.gn {G H : Hp} {σ : L2.St} {ρ : En} {m : List D} (j : J c G H σ ρ m) {p : Addr} (hp : H p = none) : G p = none := by
  cases e : G p with
  | none => rfl
  | some o => have := j.z.ex p o e; rw [hp] at this; cases this
/-- a new object is made known -/
theorem J.pub {G H : Hp} {σ : L2.St} {ρ : En} {m : List D} (j : J c G H σ ρ m) {p : Addr} {o : HO} (h0 : c.H0 p = none) (g : G p = none) (hp : H p = some o) (no : ∀ (i : Nat) (ds : List D), ρ[i]? = some (.own ds) → σ[i]? ≠ some (some (.ref p))) : J c (upd G p o) H σ ρ m := by
  have x := Ex.new (o := o) g
  refine ⟨⟨fun a u e => ?_, j.z.le.trans x, fun a u e => ?_, j.z.kp, fun q e => ?_⟩, fun i d h => ?_, j.pol, fun i ds h => ?_, j.dis, j.len⟩
  · by_cases h : a = p
    · subst h; rw [upd_same] at e; cases e; exact hp
    · rw [upd_ne h] at e; exact j.z.ex a u e
  · by_cases h : a = p
    · subst h; exact .inr h0
    · rw [upd_ne h] at e; exact j.z.fr a u e
  · obtain ⟨h0', g', ws, h1, h2⟩ := j.z.pl q e
    exact ⟨h0', g', ws, h1, h2.mono x⟩
  · obtain ⟨v, h1, h2⟩ := j.val i d h
    exact ⟨v, h1, h2.mono x⟩
  · obtain ⟨a, ws, h1, h2, h3, h4, h5⟩ := j.own i ds h
    have n : a ≠ p := by
      rintro rfl
      exact no i ds h h1
    exact ⟨a, ws, h1, h2, by rw [upd_ne n]; exact h3, h4, h5.mono x⟩
theorem J.noown {G H H' : Hp} {σ : L2.St} {ρ : En} {m : List D} (j : J c G H σ ρ m) {p : Addr} (hp : H p = none) : ∀ (i : Nat) (ds : List D), ρ[i]? = some (.own ds) → σ[i]? ≠ some (some (.ref p)) := by
  intro i ds h e
  obtain ⟨a, ws, h1, h2, _⟩ := j.own i ds h
  rw [h1] at e
  cases e
  rw [hp] at h2; cases h2
/-- a new object, known at once -/
theorem J.new {G H : Hp} {σ : L2.St} {ρ : En} {m : List D} (j : J c G H σ ρ m) {p : Addr} {o : HO} (hp : H p = none) : J c (upd G p o) (upd H p o) σ ρ m :=
  (j.ext hp rfl).pub (j.h0 hp) (j.gn hp) upd_same (j.noown (H' := H) hp)

/-! ### names, constants -/
def mC (d : D) : Me Vl := fun _ m => .ok (.dat d) m
theorem pd_c {e : Expr} {v : V} {d : D} (h : PE X e (tC v)) (r : ∀ G, Rp c.K G v d) : PE X e (tE c (mC d)) :=
  PE.imp h fun σ H Q ⟨G, ρ, m, j, q⟩ => q v G H (Mv.refl c G H) j (r G)
theorem pd_int {i j pos} : PE X (.Constant (.int i) j pos) (tE c (mC (.int i))) := pd_c pe_int fun _ => .int i
theorem pd_bl {i j pos} : PE X (.Constant (.bool i) j pos) (tE c (mC (.bl i))) := pd_c pe_bl fun _ => .bl i
theorem pd_str {i j pos} : PE X (.Constant (.str i) j pos) (tE c (mC (.str i))) := pd_c pe_str fun _ => .str i
theorem pd_non {j pos} : PE X (.Constant .none j pos) (tE c (mC .non)) := pd_c pe_non fun _ => .non
def mV (i : Nat) : Me Vl := fun ρ m => match ρ[i]? with
  | some (.val d) => .ok (.dat d) m
  | some .pool => .ok .pool m
  | _ => .stuck
theorem pd_var {e : Expr} {i : Nat} (h : PE X e (tVar i)) : PE X e (tE c (mV i)) := by
  refine PE.imp h fun σ H Q ⟨G, ρ, m, j, q⟩ => ?_
  unfold mV at q
  cases e : ρ[i]? with
  | none => simp only [e] at q
  | some s =>
    cases s with
    | emp => simp only [e] at q
    | own ds => simp only [e] at q
    | val d =>
      simp only [e] at q
      obtain ⟨v, h1, h2⟩ := j.val i d e
      exact ⟨v, h1, q v G H (Mv.refl c G H) j h2⟩
    | pool =>
      simp only [e] at q
      obtain ⟨p, h1, h2⟩ := j.pol i e
      exact ⟨_, h2, q _ G H (Mv.refl c G H) j ⟨p, h1, rfl⟩⟩
/-- the name in the i-th slot -/
theorem dv (i : Nat) {x : Str} {pos : Pos} (hN : X.N[i]? = some x := by rfl) (hv : Vis X.env.scope x := by first | exact Or.inl rfl | exact Or.inr (Or.inl rfl) | exact Or.inr (Or.inr rfl)) (hd : (x == ("__debug__" : Str)) = false := by decide)
    (hcd : (x == ("__classdict__" : Str)) = false := by decide) : PE X (.Name x pos) (tE c (mV i)) := pd_var (pe_var hN hv hd hcd)

/-! ### binding -/
theorem tE_ok {f : Me Vl} {G H : Hp} {σ : L2.St} {ρ : En} {m m1 : List D} {x : Vl} {Q : VK} (j : J c G H σ ρ m) (e : f ρ m = .ok x m1) (q : ∀ v G' H', Mv c G H G' H' → J c G' H' σ ρ m1 → RpV c G' v x → Q v H') : tE c f σ H Q :=
  ⟨G, ρ, m, j, by rw [e]; exact q⟩
theorem tB_ok {f : Me Bool} {G H : Hp} {σ : L2.St} {ρ : En} {m m1 : List D} {x : Bool} {Q : Bool → Hp → Prop} (j : J c G H σ ρ m) (e : f ρ m = .ok x m1) (q : ∀ G' H', Mv c G H G' H' → J c G' H' σ ρ m1 → Q x H') : tB c f σ H Q :=
  ⟨G, ρ, m, j, by rw [e]; exact q⟩
theorem tL_ok {f : Me (List D)} {G H : Hp} {σ : L2.St} {ρ : En} {m m1 : List D} {ds : List D} {Q : VK} (j : J c G H σ ρ m) (e : f ρ m = .ok ds m1)
    (q : ∀ a ws G' H', Mv c G H G' H' → J c G' H' σ ρ m1 → H a = none → G' a = none → H' a = some (.lst ws) → RpL c.K G' ws ds → Q (.ref a) H') : tL c f σ H Q :=
  ⟨G, ρ, m, j, by rw [e]; exact q⟩
theorem tAs_ok {f : Me (List Vl)} {G H : Hp} {σ : L2.St} {ρ : En} {m m1 : List D} {xs : List Vl} {Q : List V → Hp → Prop} (j : J c G H σ ρ m) (e : f ρ m = .ok xs m1) (q : ∀ vs G' H', Mv c G H G' H' → J c G' H' σ ρ m1 → RpVs c G' vs xs → Q vs H') : tAs c f σ H Q :=
  ⟨G, ρ, m, j, by rw [e]; exact q⟩

/-! ### operators by values -/
def Op2 (c : Ct) (r : R2) (op : D → D → Option D) : Prop := ∀ G H σ ρ m v w d e z, J c G H σ ρ m → Rp c.K G v d → Rp c.K G w e → op d e = some z →
  ∀ Q : VK, (∀ u G' H', Mv c G H G' H' → J c G' H' σ ρ m → Rp c.K G' u z → Q u H') → r v w H Q
def m2 (op : D → D → Option D) (fa fb : Me Vl) : Me Vl := fun ρ m => (fa ρ m).bind fun x m1 => (fb ρ m1).bind fun y m2 => match x, y with
  | .dat d, .dat e => (match op d e with
    | some z => .ok (.dat z) m2
    | none => .stuck)
  | _, _ => .stuck
theorem m2_ok {op : D → D → Option D} {fa fb : Me Vl} {ρ : En} {m m' : List D} {x : Vl} (h : m2 op fa fb ρ m = .ok x m') :
    ∃ d e z m1, fa ρ m = .ok (.dat d) m1 ∧ fb ρ m1 = .ok (.dat e) m' ∧ op d e = some z ∧ x = .dat z := by
  unfold m2 at h
  cases ea : fa ρ m with
  | stuck => simp only [ea, Ou.bind] at h; cases h
  | ok a m1 =>
    cases eb : fb ρ m1 with
    | stuck => simp only [ea, eb, Ou.bind] at h; cases h
    | ok b m2 =>
      simp only [ea, eb, Ou.bind] at h
      cases a with
      | pool => cases h
      | dat d =>
        cases b with
        | pool => cases h
        | dat e =>
          simp only at h
          cases eo : op d e with
          | none => simp only [eo] at h; cases h
          | some z =>
            simp only [eo] at h
            cases h
            exact ⟨d, e, z, m1, rfl, eb, eo, rfl⟩
theorem tE_cases {f : Me Vl} {σ : L2.St} {H : Hp} {Q : VK} (h : tE c f σ H Q) : ∃ G ρ m x m', J c G H σ ρ m ∧ f ρ m = .ok x m' ∧ ∀ v G' H', Mv c G H G' H' → J c G' H' σ ρ m' → RpV c G' v x → Q v H' := by
  obtain ⟨G, ρ, m, j, q⟩ := h
  cases e : f ρ m with
  | stuck => rw [e] at q; exact q.elim
  | ok x m' => rw [e] at q; exact ⟨G, ρ, m, x, m', j, e, q⟩
theorem tB_cases {f : Me Bool} {σ : L2.St} {H : Hp} {Q : Bool → Hp → Prop} (h : tB c f σ H Q) : ∃ G ρ m x m', J c G H σ ρ m ∧ f ρ m = .ok x m' ∧ ∀ G' H', Mv c G H G' H' → J c G' H' σ ρ m' → Q x H' := by
  obtain ⟨G, ρ, m, j, q⟩ := h
  cases e : f ρ m with
  | stuck => rw [e] at q; exact q.elim
  | ok x m' => rw [e] at q; exact ⟨G, ρ, m, x, m', j, e, q⟩
theorem tL_cases {f : Me (List D)} {σ : L2.St} {H : Hp} {Q : VK} (h : tL c f σ H Q) : ∃ G ρ m ds m', J c G H σ ρ m ∧ f ρ m = .ok ds m' ∧
    ∀ a ws G' H', Mv c G H G' H' → J c G' H' σ ρ m' → H a = none → G' a = none → H' a = some (.lst ws) → RpL c.K G' ws ds → Q (.ref a) H' := by
  obtain ⟨G, ρ, m, j, q⟩ := h
  cases e : f ρ m with
  | stuck => rw [e] at q; exact q.elim
  | ok x m' => rw [e] at q; exact ⟨G, ρ, m, x, m', j, e, q⟩
theorem tAs_cases {f : Me (List Vl)} {σ : L2.St} {H : Hp} {Q : List V → Hp → Prop} (h : tAs c f σ H Q) : ∃ G ρ m xs m', J c G H σ ρ m ∧ f ρ m = .ok xs m' ∧ ∀ vs G' H', Mv c G H G' H' → J c G' H' σ ρ m' → RpVs c G' vs xs → Q vs H' := by
  obtain ⟨G, ρ, m, j, q⟩ := h
  cases e : f ρ m with
  | stuck => rw [e] at q; exact q.elim
  | ok x m' => rw [e] at q; exact ⟨G, ρ, m, x, m', j, e, q⟩
theorem op_imp {r : R2} {op : D → D → Option D} {fa fb : Me Vl} (hs : Op2 c r op) (σ : L2.St) (H : Hp) (Q : VK) (h : tE c (m2 op fa fb) σ H Q) : tOp r (tE c fa) (tE c fb) σ H Q := by
  obtain ⟨G, ρ, m, x, m', j, e, q⟩ := tE_cases h
  obtain ⟨d, e', z, m1, ea, eb, eo, rfl⟩ := m2_ok e
  refine tE_ok j ea fun v G1 H1 x1 j1 r1 => ?_
  refine tE_ok j1 eb fun w G2 H2 x2 j2 r2 => ?_
  exact hs G2 H2 σ ρ m' v w d e' z j2 (Rp.mono x2.ex r1) r2 eo Q fun u G3 H3 x3 j3 r3 => q u G3 H3 ((x1.trans x2).trans x3) j3 r3
theorem pd_op {o : Operator} {a b : Expr} {pos : Pos} {r : R2} {op : D → D → Option D} {fa fb : Me Vl} (ho : OpR X (binaryOp o) r) (hs : Op2 c r op) (ha : PE X a (tE c fa)) (hb : PE X b (tE c fb)) : PE X (.BinOp a o b pos) (tE c (m2 op fa fb)) :=
  PE.imp (pe_op ho ha hb) (op_imp hs)
theorem pd_cmp {o : CmpOp} {a b : Expr} {pos : Pos} {r : R2} {op : D → D → Option D} {fa fb : Me Vl} (ho : OpR X (compareOp o) r) (hs : Op2 c r op) (ha : PE X a (tE c fa)) (hb : PE X b (tE c fb)) (hm : behindInMarks o b = false) : PE X (.Compare a [o] [b] pos) (tE c (m2 op fa fb)) :=
  PE.imp (pe_cmpR ho ha hb hm) (op_imp hs)
theorem OpR.or {f : Value → Value → Sem Value} {r r' : R2} (h : OpR X f r) (h' : OpR X f r') : OpR X f (fun x y H Q => r x y H Q ∨ r' x y H Q) := by
  intro pins s σ H x y v u Q I rx ry q
  rcases q with q | q
  · exact h pins s σ H x y v u Q I rx ry q
  · exact h' pins s σ H x y v u Q I rx ry q
/-- a scalar answer at once -/
theorem sc_ok {G H : Hp} {σ : L2.St} {ρ : En} {m : List D} {u : V} {z : D} (j : J c G H σ ρ m) (r : Rp c.K G u z) {Q : VK} (q : ∀ u G' H', Mv c G H G' H' → J c G' H' σ ρ m → Rp c.K G' u z → Q u H') : Q u H :=
  q u G H (Mv.refl c G H) j r
end
end Pd

set_option Elab.async false
set_option linter.all false
set_option maxRecDepth 100000
set_option maxHeartbeats 4000000
namespace Pd
open PySem L2
section
variable {K : Fg} {G : Hp} {v : V}
theorem Rp.int_inv {i : Int} (h : Rp K G v (.int i)) : v = .int i := by cases h; rfl
theorem Rp.str_inv {i : Str} (h : Rp K G v (.str i)) : v = .str i := by cases h; rfl
theorem Rp.bl_inv {i : Bool} (h : Rp K G v (.bl i)) : v = .bl i := by cases h; rfl
theorem Rp.non_inv (h : Rp K G v .non) : v = .non := by cases h; rfl
theorem Rp.dct_inv {gs : List (Str × D)} (h : Rp K G v (.dct gs)) : ∃ a fs, v = .ref a ∧ DcN K G a fs ∧ RpF K G fs gs := by
  cases h with
  | dct s r => exact ⟨_, _, rfl, s, r⟩
theorem Rp.tupN_inv {ds : List D} (h : Rp K G v (.tup ds)) : ∃ a vs, v = .ref a ∧ TupN K G a vs ∧ RpL K G vs ds := by
  cases h with
  | tup s r => exact ⟨_, _, rfl, s, r⟩
theorem Rp.tup_inv {ds : List D} (h : Rp K G v (.tup ds)) : ∃ a vs, v = .ref a ∧ SqT K G a vs ∧ RpL K G vs ds := by
  cases h with
  | tup h r => exact ⟨_, _, rfl, h.sq, r⟩
theorem Rp.lst_inv {ds : List D} (h : Rp K G v (.lst ds)) : ∃ a vs, v = .ref a ∧ SqL K G a vs ∧ RpL K G vs ds := by
  cases h with
  | lst h r => exact ⟨_, _, rfl, h, r⟩
theorem Rp.obj_inv {C : Addr} {gs : List (Str × D)} (h : Rp K G v (.obj C gs)) : ∃ a dx fs, v = .ref a ∧ G a = some (.ins C dx fs) ∧ RpF K G fs gs := by
  cases h with
  | obj h r => exact ⟨_, _, _, rfl, h, r⟩
end
/-! ### data as the library's data -/
mutual
def D.py : D → PyData
  | .non => .none
  | .bl b => .bool b
  | .int i => .int i
  | .str s => .str s
  | .tup xs => .tuple (pyL xs)
  | .lst xs => .list (pyL xs)
  | .obj _ _ => .dict []
  | .dct _ => .dict []
def pyL : List D → List PyData
  | [] => []
  | x :: xs => x.py :: pyL xs
end
mutual
theorem Rp.dp {K : Fg} {G H : Hp} (e : Ex G H) : ∀ {v : V} {d : D}, Rp K G v d → PyData.canLay0 d.py = true → Dp K H v d.py
  | _, _, .non, _ => .non
  | _, _, .bl b, _ => .bl b
  | _, _, .int i, _ => .int i
  | _, _, .str s, _ => .str s
  | _, _, .tup (ds := ds) h r, q => .tup (ex_t e h.sq) (RpL.dp e r (by simpa [D.py, PyData.canLay0] using q))
  | _, _, .lst (ds := ds) h r, q => .lst (ex_l e h) (RpL.dp e r (by simpa [D.py, PyData.canLay0] using q))
  | _, _, .obj h r, q => by simp [D.py, PyData.canLay0] at q
  | _, _, .dct h r, q => by simp [D.py, PyData.canLay0] at q
theorem RpL.dp {K : Fg} {G H : Hp} (e : Ex G H) : ∀ {vs : List V} {ds : List D}, RpL K G vs ds → PyData.canLayAll0 (pyL ds) = true → DpAll K H vs (pyL ds)
  | _, _, .nil, _ => .nil
  | _, _, .cons (d := d) (ds := ds) h r, q => by
    have q' : PyData.canLay0 d.py = true ∧ PyData.canLayAll0 (pyL ds) = true := by simpa [pyL, PyData.canLayAll0] using q
    exact .cons (Rp.dp e h q'.1) (RpL.dp e r q'.2)
end
/-- a flat datum's value -/
def D.sc : D → Option V
  | .non => some .non
  | .bl b => some (.bl b)
  | .int i => some (.int i)
  | .str s => some (.str s)
  | _ => none
theorem Rp.sc_inv {K : Fg} {G : Hp} {v w : V} {d : D} (h : Rp K G v d) (e : d.sc = some w) : v = w := by
  cases h <;> simp [D.sc] at e <;> exact e
def D.flat : D → Bool
  | .non | .bl _ | .int _ | .str _ => true
  | _ => false
/-- == -/
def eqB (d e : D) : Option Bool := match d, e with
  | .int a, .int b => some (decide (a = b))
  | .str a, .str b => some (decide (a = b))
  | .bl a, .bl b => some (decide (a = b))
  | .non, .non => some true
  | .str _, .non => some false
  | .non, .str _ => some false
  | .int _, .non => some false
  | .non, .int _ => some false
  | .int _, .str _ => some false
  | .str _, .int _ => some false
  | .bl _, .str _ => some false
  | .str _, .bl _ => some false
  | d, e => if SeqAt.shaped d.py && SeqAt.shaped e.py then some (PyData.eqv d.py e.py) else none
def eqD (d e : D) : Option D := (eqB d e).map D.bl
def neD (d e : D) : Option D := (eqB d e).map fun b => D.bl (!b)
section
variable {X : Cx} {c : Ct}
def rEqA (K : Fg) : R2 := fun x y H Q => rEq x y H Q ∨ rEqD K x y H Q
def rNeA (K : Fg) : R2 := fun x y H Q => rNe x y H Q ∨ rNeD K x y H Q
theorem shp {d : D} (h : SeqAt.shaped d.py = true) : PyData.canLay0 d.py = true := by
  unfold SeqAt.shaped at h
  simp only [Bool.and_eq_true] at h
  exact h.1
theorem eqB_ok {G H : Hp} {v w : V} {d e : D} {b : Bool} (x : Ex G H) (rv : Rp c.K G v d) (rw_ : Rp c.K G w e) (h : eqB d e = some b) :
    (scal v w = true ∧ decide (v = w) = b) ∨ (∃ p q, Dp c.K H v p ∧ Dp c.K H w q ∧ SeqAt.shaped p = true ∧ SeqAt.shaped q = true ∧ PyData.eqv p q = b) := by
  have gen : (if SeqAt.shaped d.py && SeqAt.shaped e.py then some (PyData.eqv d.py e.py) else none) = some b → ∃ p q, Dp c.K H v p ∧ Dp c.K H w q ∧ SeqAt.shaped p = true ∧ SeqAt.shaped q = true ∧ PyData.eqv p q = b := by
    intro h
    split at h
    · rename_i hs
      rw [Bool.and_eq_true] at hs
      exact ⟨_, _, rv.dp x (shp hs.1), rw_.dp x (shp hs.2), hs.1, hs.2, Option.some.inj h⟩
    · cases h
  unfold eqB at h
  split at h
  · cases rv.int_inv; cases rw_.int_inv; exact .inl ⟨rfl, by rw [← Option.some.inj h]; simp⟩
  · cases rv.str_inv; cases rw_.str_inv; exact .inl ⟨rfl, by rw [← Option.some.inj h]; simp⟩
  · cases rv.bl_inv; cases rw_.bl_inv; exact .inl ⟨rfl, by rw [← Option.some.inj h]; simp⟩
  · cases rv.non_inv; cases rw_.non_inv; exact .inl ⟨rfl, by rw [← Option.some.inj h]; simp⟩
  · cases rv.str_inv; cases rw_.non_inv; exact .inl ⟨rfl, by rw [← Option.some.inj h]; simp⟩
  · cases rv.non_inv; cases rw_.str_inv; exact .inl ⟨rfl, by rw [← Option.some.inj h]; simp⟩
  · cases rv.int_inv; cases rw_.non_inv; exact .inl ⟨rfl, by rw [← Option.some.inj h]; simp⟩
  · cases rv.non_inv; cases rw_.int_inv; exact .inl ⟨rfl, by rw [← Option.some.inj h]; simp⟩
  · cases rv.int_inv; cases rw_.str_inv; exact .inl ⟨rfl, by rw [← Option.some.inj h]; simp⟩
  · cases rv.str_inv; cases rw_.int_inv; exact .inl ⟨rfl, by rw [← Option.some.inj h]; simp⟩
  · cases rv.bl_inv; cases rw_.str_inv; exact .inl ⟨rfl, by rw [← Option.some.inj h]; simp⟩
  · cases rv.str_inv; cases rw_.bl_inv; exact .inl ⟨rfl, by rw [← Option.some.inj h]; simp⟩
  · exact .inr (gen h)
theorem o2_eq : Op2 c (rEqA c.K) eqD := by
  intro G H σ ρ m v w d e z j rv rw_ h Q q
  unfold eqD at h
  cases eb : eqB d e with
  | none => rw [eb] at h; cases h
  | some b =>
    rw [eb] at h; cases h
    have q' := sc_ok (z := .bl b) j (.bl b) q
    rcases eqB_ok j.z.ex rv rw_ eb with ⟨h1, h2⟩ | ⟨p, p', h1, h2, h3, h4, h5⟩
    · exact .inl ⟨h1, by rw [h2]; exact q'⟩
    · exact .inr ⟨p, p', h1, h2, h3, h4, by rw [h5]; exact q'⟩
theorem o2_ne : Op2 c (rNeA c.K) neD := by
  intro G H σ ρ m v w d e z j rv rw_ h Q q
  unfold neD at h
  cases eb : eqB d e with
  | none => rw [eb] at h; cases h
  | some b =>
    rw [eb] at h; cases h
    have q' := sc_ok (z := .bl (!b)) j (.bl (!b)) q
    rcases eqB_ok j.z.ex rv rw_ eb with ⟨h1, h2⟩ | ⟨p, p', h1, h2, h3, h4, h5⟩
    · exact .inl ⟨h1, by rw [h2]; exact q'⟩
    · exact .inr ⟨p, p', h1, h2, h3, h4, by rw [h5]; exact q'⟩
theorem pd_eq {a b : Expr} {pos : Pos} {fa fb : Me Vl} {k : Nat} (hK : X.K = c.K) (hr : Rm k X.A) (ha : PE X a (tE c fa)) (hb : PE X b (tE c fb)) : PE X (.Compare a [.Eq] [b] pos) (tE c (m2 eqD fa fb)) :=
  pd_cmp (OpR.or op_eq (op_eqD hr.units)) (by rw [hK]; exact o2_eq) ha hb (nomark _)
theorem pd_ne {a b : Expr} {pos : Pos} {fa fb : Me Vl} {k : Nat} (hK : X.K = c.K) (hr : Rm k X.A) (ha : PE X a (tE c fa)) (hb : PE X b (tE c fb)) : PE X (.Compare a [.NotEq] [b] pos) (tE c (m2 neD fa fb)) :=
  pd_cmp (OpR.or op_ne (op_neD hr.units)) (by rw [hK]; exact o2_ne) ha hb (nomark _)

/-! ### + -/
def addD (d e : D) : Option D := match d, e with
  | .int a, .int b => some (.int (a + b))
  | .str a, .str b => if a.length + b.length ≤ sizeLine then some (.str (a ++ b)) else none
  | .tup a, .tup b => if a.length + b.length ≤ sizeLine then some (.tup (a ++ b)) else none
  | _, _ => none
def rAddA (K : Fg) : R2 := fun x y H Q => (∃ i j, x = .int i ∧ y = .int j ∧ Q (.int (i + j)) H) ∨ ((∃ i j, x = .str i ∧ y = .str j ∧ i.length + j.length ≤ sizeLine ∧ Q (.str (i ++ j)) H) ∨ rCatF K x y H Q)
theorem o2_add : Op2 c (rAddA c.K) addD := by
  intro G H σ ρ m v w d e z j rv rw_ h Q q
  unfold addD at h
  split at h
  · cases rv.int_inv; cases rw_.int_inv; cases h
    exact .inl ⟨_, _, rfl, rfl, sc_ok j (.int _) q⟩
  · cases rv.str_inv; cases rw_.str_inv
    split at h
    · cases h
      exact .inr (.inl ⟨_, _, rfl, rfl, by assumption, sc_ok j (.str _) q⟩)
    · cases h
  · split at h
    · rename_i a b hl
      cases h
      obtain ⟨p, vs, rfl, s1, r1⟩ := rv.tupN_inv
      obtain ⟨p', ws, rfl, s2, r2⟩ := rw_.tupN_inv
      refine .inr (.inr ⟨p, p', vs, ws, rfl, rfl, ex_t j.z.ex s1.sq, ex_t j.z.ex s2.sq, by rw [r1.length, r2.length]; exact hl, fun e0 => ?_, fun e1 e0 => ?_, fun e1 e2 t us ht _ => ?_⟩)
      · subst e0
        cases r1
        exact sc_ok j (.tup s2 r2) q
      · subst e0
        cases r2
        rw [List.append_nil] at q
        exact sc_ok j (.tup s1 r1) q
      · have g : Ex G (upd G t (.frz (tupO us) (.tup (vs ++ ws)))) := Ex.new (j.gn ht)
        exact q _ _ _ (Mv.new ht (j.gn ht)) (j.new ht) (.tup (tn_of upd_same) ((r1.mono g).append (r2.mono g)))
    · cases h
  · cases h
theorem pd_add {a b : Expr} {pos : Pos} {fa fb : Me Vl} (hK : X.K = c.K) (ha : PE X a (tE c fa)) (hb : PE X b (tE c fb)) : PE X (.BinOp a .Add b pos) (tE c (m2 addD fa fb)) :=
  pd_op (OpR.or op_add (OpR.or op_add_str op_catF)) (by rw [hK]; exact o2_add) ha hb

/-! ### ints -/
def iop (C : Int → Int → Bool) (f : Int → Int → D) (d e : D) : Option D := match d, e with
  | .int a, .int b => if C a b then some (f a b) else none
  | _, _ => none
theorem iop_inv {C : Int → Int → Bool} {f : Int → Int → D} {d e z : D} (h : iop C f d e = some z) : ∃ a b, d = .int a ∧ e = .int b ∧ C a b = true ∧ z = f a b := by
  unfold iop at h
  split at h
  · split at h
    · cases h; exact ⟨_, _, rfl, rfl, by assumption, rfl⟩
    · cases h
  · cases h
theorem o2_I0 {f : Int → Int → D} {g : Int → Int → V} (r : ∀ G a b, Rp c.K G (g a b) (f a b)) : Op2 c (rI0 g) (iop (fun _ _ => true) f) := by
  intro G H σ ρ m v w d e z j rv rw_ h Q q
  obtain ⟨a, b, rfl, rfl, _, rfl⟩ := iop_inv h
  cases rv.int_inv; cases rw_.int_inv
  exact ⟨a, b, rfl, rfl, sc_ok j (r _ _ _) q⟩
theorem o2_I {f : Int → Int → D} {g : Int → Int → V} {C : Int → Int → Prop} {C' : Int → Int → Bool} (r : ∀ G a b, Rp c.K G (g a b) (f a b)) (hC : ∀ a b, C' a b = true → C a b) : Op2 c (rI C g) (iop C' f) := by
  intro G H σ ρ m v w d e z j rv rw_ h Q q
  obtain ⟨a, b, rfl, rfl, hc, rfl⟩ := iop_inv h
  cases rv.int_inv; cases rw_.int_inv
  exact ⟨a, b, rfl, rfl, hC a b hc, sc_ok j (r _ _ _) q⟩
def subD : D → D → Option D := iop (fun _ _ => true) fun a b => .int (a - b)
theorem pd_sub {a b : Expr} {pos : Pos} {fa fb : Me Vl} (ha : PE X a (tE c fa)) (hb : PE X b (tE c fb)) : PE X (.BinOp a .Sub b pos) (tE c (m2 subD fa fb)) :=
  pd_op op_sub (o2_I0 fun _ _ _ => .int _) ha hb
def sm64 (a : Int) : Bool := decide (-(2 ^ 64) < a ∧ a < 2 ^ 64)
def mulI : D → D → Option D := iop (fun a b => sm64 a || sm64 b) fun a b => .int (a * b)
theorem cmul {a b : Int} (h : (sm64 a || sm64 b) = true) : CMul a b := by
  unfold sm64 at h
  rw [Bool.or_eq_true, decide_eq_true_eq, decide_eq_true_eq] at h
  exact h
theorem pd_mulI {a b : Expr} {pos : Pos} {fa fb : Me Vl} (ha : PE X a (tE c fa)) (hb : PE X b (tE c fb)) : PE X (.BinOp a .Mult b pos) (tE c (m2 mulI fa fb)) :=
  pd_op op_mul (o2_I (fun _ _ _ => .int _) fun _ _ h => cmul h) ha hb
def modD : D → D → Option D := iop (fun _ b => decide (0 < b)) fun a b => .int (a % b)
theorem pd_mod {a b : Expr} {pos : Pos} {fa fb : Me Vl} (ha : PE X a (tE c fa)) (hb : PE X b (tE c fb)) : PE X (.BinOp a .Mod b pos) (tE c (m2 modD fa fb)) :=
  pd_op op_mod (o2_I (fun _ _ _ => .int _) fun _ _ h => of_decide_eq_true h) ha hb
def fdivD : D → D → Option D := iop (fun _ b => decide (0 < b ∧ b < 1073741824)) fun a b => .int (a / b)
theorem pd_fdiv {a b : Expr} {pos : Pos} {fa fb : Me Vl} (ha : PE X a (tE c fa)) (hb : PE X b (tE c fb)) : PE X (.BinOp a .FloorDiv b pos) (tE c (m2 fdivD fa fb)) :=
  pd_op op_fdiv (o2_I (fun _ _ _ => .int _) fun a b h => show 0 < b ∧ b < 1073741824 from of_decide_eq_true h) ha hb
def powD : D → D → Option D := iop (fun a b => decide (0 ≤ b ∧ b ≤ 1000000 ∧ a.natAbs < 2 ^ 64)) fun a b => .int (a ^ b.toNat)
theorem pd_pow {a b : Expr} {pos : Pos} {fa fb : Me Vl} (ha : PE X a (tE c fa)) (hb : PE X b (tE c fb)) : PE X (.BinOp a .Pow b pos) (tE c (m2 powD fa fb)) :=
  pd_op op_pow (o2_I (fun _ _ _ => .int _) fun a b h => show 0 ≤ b ∧ b ≤ 1000000 ∧ a.natAbs < 2 ^ 64 from of_decide_eq_true h) ha hb
/-! ### order -/
def ord (pi : Int → Int → Bool) (ps : Str → Str → Bool) (d e : D) : Option D := match d, e with
  | .int a, .int b => some (.bl (pi a b))
  | .str a, .str b => some (.bl (ps a b))
  | _, _ => none
def rOrd (pi : Int → Int → Bool) (ps : Str → Str → Bool) : R2 := fun x y H Q => rI0 (fun i j => .bl (pi i j)) x y H Q ∨ ∃ i j, x = .str i ∧ y = .str j ∧ Q (.bl (ps i j)) H
theorem o2_ord {pi : Int → Int → Bool} {ps : Str → Str → Bool} : Op2 c (rOrd pi ps) (ord pi ps) := by
  intro G H σ ρ m v w d e z j rv rw_ h Q q
  unfold ord at h
  split at h
  · cases h; cases rv.int_inv; cases rw_.int_inv; exact .inl ⟨_, _, rfl, rfl, sc_ok j (.bl _) q⟩
  · cases h; cases rv.str_inv; cases rw_.str_inv; exact .inr ⟨_, _, rfl, rfl, sc_ok j (.bl _) q⟩
  · cases h
def ltD : D → D → Option D := ord (fun i j => decide (i < j)) fun i j => decide (i.cps.toList < j.cps.toList)
def leD : D → D → Option D := ord (fun i j => decide (i ≤ j)) fun i j => !decide (j.cps.toList < i.cps.toList)
def gtD : D → D → Option D := ord (fun i j => decide (j < i)) fun i j => decide (j.cps.toList < i.cps.toList)
def geD : D → D → Option D := ord (fun i j => decide (j ≤ i)) fun i j => !decide (i.cps.toList < j.cps.toList)
theorem or_lt : OpR X (compareOp .Lt) (rOrd (fun i j => decide (i < j)) fun i j => decide (i.cps.toList < j.cps.toList)) := OpR.or op_lt op_lt_str
theorem or_le : OpR X (compareOp .LtE) (rOrd (fun i j => decide (i ≤ j)) fun i j => !decide (j.cps.toList < i.cps.toList)) := OpR.or op_le op_le_str
theorem or_gt : OpR X (compareOp .Gt) (rOrd (fun i j => decide (j < i)) fun i j => decide (j.cps.toList < i.cps.toList)) := OpR.or op_gt op_gt_str
theorem or_ge : OpR X (compareOp .GtE) (rOrd (fun i j => decide (j ≤ i)) fun i j => !decide (i.cps.toList < j.cps.toList)) := OpR.or op_ge op_ge_str
theorem pd_lt {a b : Expr} {pos : Pos} {fa fb : Me Vl} (ha : PE X a (tE c fa)) (hb : PE X b (tE c fb)) : PE X (.Compare a [.Lt] [b] pos) (tE c (m2 ltD fa fb)) := pd_cmp or_lt o2_ord ha hb (nomark _)
theorem pd_le {a b : Expr} {pos : Pos} {fa fb : Me Vl} (ha : PE X a (tE c fa)) (hb : PE X b (tE c fb)) : PE X (.Compare a [.LtE] [b] pos) (tE c (m2 leD fa fb)) := pd_cmp or_le o2_ord ha hb (nomark _)
theorem pd_gt {a b : Expr} {pos : Pos} {fa fb : Me Vl} (ha : PE X a (tE c fa)) (hb : PE X b (tE c fb)) : PE X (.Compare a [.Gt] [b] pos) (tE c (m2 gtD fa fb)) := pd_cmp or_gt o2_ord ha hb (nomark _)
theorem pd_ge {a b : Expr} {pos : Pos} {fa fb : Me Vl} (ha : PE X a (tE c fa)) (hb : PE X b (tE c fb)) : PE X (.Compare a [.GtE] [b] pos) (tE c (m2 geD fa fb)) := pd_cmp or_ge o2_ord ha hb (nomark _)
/-- a o b o' e, b asked once -/
def mCh (op op' : D → D → Option D) (fa fb fc : Me Vl) : Me Vl := fun ρ m => (fa ρ m).bind fun x m1 => (fb ρ m1).bind fun y m2 => match x, y with
  | .dat d, .dat e => (match op d e with
    | some (.bl true) => (fc ρ m2).bind fun z m3 => (match z with
      | .dat g => (match op' e g with
        | some r => .ok (.dat r) m3
        | none => .stuck)
      | _ => .stuck)
    | some (.bl false) => .ok (.dat (.bl false)) m2
    | _ => .stuck)
  | _, _ => .stuck
theorem pd_chain {o o' : CmpOp} {a b e : Expr} {pos : Pos} {r r' : R2} {op op' : D → D → Option D} {fa fb fc : Me Vl} (ho : OpR X (compareOp o) r) (ho' : OpR X (compareOp o') r') (hs : Op2 c r op) (hs' : Op2 c r' op') (ha : PE X a (tE c fa)) (hb : PE X b (tE c fb)) (hc : PE X e (tE c fc)) (hm : lastMarks [o, o'] [b, e] = false := by rfl) :
    PE X (.Compare a [o, o'] [b, e] pos) (tE c (mCh op op' fa fb fc)) := by
  refine PE.imp (pe_chain ho ho' ha hb hc hm) fun σ H Q h => ?_
  obtain ⟨G, ρ, m, x, m', j, h, q⟩ := tE_cases h
  unfold mCh at h
  cases ea : fa ρ m with
  | stuck => simp only [ea, Ou.bind] at h; cases h
  | ok xa m1 =>
    cases eb : fb ρ m1 with
    | stuck => simp only [ea, eb, Ou.bind] at h; cases h
    | ok xb m2 =>
      simp only [ea, eb, Ou.bind] at h
      cases xa with
      | pool => cases h
      | dat d =>
        cases xb with
        | pool => cases h
        | dat d' =>
          simp only at h
          refine tE_ok j ea fun v G1 H1 x1 j1 r1 => ?_
          refine tE_ok j1 eb fun w G2 H2 x2 j2 r2 => ?_
          cases eo : op d d' with
          | none => simp only [eo] at h; cases h
          | some z =>
            simp only [eo] at h
            refine hs G2 H2 σ ρ m2 v w d d' z j2 (Rp.mono x2.ex r1) r2 eo _ fun u G3 H3 x3 j3 r3 => ?_
            cases z with
            | bl bb =>
              cases r3.bl_inv
              refine ⟨bb, rfl, ?_⟩
              cases bb with
              | false =>
                rw [if_neg Bool.false_ne_true]
                simp only at h
                cases h
                exact q _ _ _ ((x1.trans x2).trans x3) j3 (Rp.bl _)
              | true =>
                rw [if_pos rfl]
                simp only at h
                cases ec : fc ρ m2 with
                | stuck => simp only [ec] at h; cases h
                | ok xc m3 =>
                  simp only [ec] at h
                  cases xc with
                  | pool => cases h
                  | dat g =>
                    simp only at h
                    refine tE_ok j3 ec fun w' G4 H4 x4 j4 r4 => ?_
                    cases eo' : op' d' g with
                    | none => simp only [eo'] at h; cases h
                    | some z' =>
                      simp only [eo'] at h
                      cases h
                      exact hs' G4 H4 σ ρ _ w w' d' g z' j4 (Rp.mono (x3.trans x4).ex r2) r4 eo' Q fun u G5 H5 x5 j5 r5 => q _ _ _ ((((x1.trans x2).trans x3).trans x4).trans x5) j5 r5
            | _ => simp only at h; cases h
/-! ### in -/
def D.eqS : D → D → Bool
  | .non, .non => true
  | .bl a, .bl b => a == b
  | .bl a, .int b => (if a then 1 else 0) == b
  | .int a, .bl b => a == (if b then 1 else 0)
  | .int a, .int b => a == b
  | .str a, .str b => a == b
  | _, _ => false
def inB (d e : D) : Option Bool := match e with
  | .tup es => if d.flat && es.all D.flat then some (es.any fun y => y.eqS d) else none
  | .lst es => if d.flat && es.all D.flat then some (es.any fun y => y.eqS d) else none
  | .str z => (match d with
    | .str s => (match s.cps.toList with
      | [ch] => some (decide (ch ∈ z.cps.toList))
      | _ => none)
    | _ => none)
  | _ => none
def inD (d e : D) : Option D := (inB d e).map D.bl
def ninD (d e : D) : Option D := (inB d e).map fun b => D.bl (!b)
theorem Rp.flatV {K : Fg} {G : Hp} {v : V} {d : D} (h : Rp K G v d) (f : d.flat = true) : L2.flatV v = true := by
  cases h <;> first | rfl | exact f
theorem Rp.eqS {K : Fg} {G : Hp} {v w : V} {d e : D} (h : Rp K G v d) (h' : Rp K G w e) (f : d.flat = true) (f' : e.flat = true) : eqV v w = d.eqS e := by
  cases h <;> cases h' <;> first | rfl | cases f | cases f'
theorem RpL.flats {K : Fg} {G : Hp} : ∀ {vs : List V} {ds : List D}, RpL K G vs ds → ds.all D.flat = true → vs.all L2.flatV = true
  | _, _, .nil, _ => rfl
  | _, _, .cons h r, f => by
    rw [List.all_cons, Bool.and_eq_true] at f ⊢
    exact ⟨h.flatV f.1, r.flats f.2⟩
theorem RpL.inV {K : Fg} {G : Hp} {v : V} {d : D} (h : Rp K G v d) (f : d.flat = true) : ∀ {vs : List V} {ds : List D}, RpL K G vs ds → ds.all D.flat = true → L2.inV v vs = ds.any fun y => y.eqS d
  | _, _, .nil, _ => rfl
  | _, _, .cons h1 r, f1 => by
    rw [List.all_cons, Bool.and_eq_true] at f1
    show (eqV _ v || L2.inV v _) = _
    rw [h1.eqS h f1.1 f, RpL.inV h f r f1.2, List.any_cons]
def rInA (K : Fg) (neg : Bool) : R2 := fun x y H Q => rIn K neg x y H Q ∨ ∃ (ch : Nat) (z : Str), x = .str ⟨#[ch]⟩ ∧ y = .str z ∧ Q (.bl (if neg then !decide (ch ∈ z.cps.toList) else decide (ch ∈ z.cps.toList))) H
theorem one_sign {s : Str} {ch : Nat} (h : s.cps.toList = [ch]) : s = ⟨#[ch]⟩ := by
  obtain ⟨a⟩ := s
  simp only at h
  congr
  exact Array.toList_inj.mp (by rw [h])
theorem inB_ok {neg : Bool} {G H : Hp} {v w : V} {d e : D} {b : Bool} (x : Ex G H) (rv : Rp c.K G v d) (rw_ : Rp c.K G w e) (h : inB d e = some b) {Q : VK} (q : Q (.bl (if neg then !b else b)) H) : rInA c.K neg v w H Q := by
  unfold inB at h
  split at h
  · split at h
    · rename_i es hf
      rw [Bool.and_eq_true] at hf
      obtain ⟨p, vs, rfl, s1, r1⟩ := rw_.tup_inv
      refine .inl ⟨p, vs, rfl, .inr (ex_t x s1), rv.flatV hf.1, r1.flats hf.2, ?_⟩
      rw [RpL.inV rv hf.1 r1 hf.2, Option.some.inj h]
      exact q
    · cases h
  · split at h
    · rename_i es hf
      rw [Bool.and_eq_true] at hf
      obtain ⟨p, vs, rfl, s1, r1⟩ := rw_.lst_inv
      refine .inl ⟨p, vs, rfl, .inl (ex_l x s1), rv.flatV hf.1, r1.flats hf.2, ?_⟩
      rw [RpL.inV rv hf.1 r1 hf.2, Option.some.inj h]
      exact q
    · cases h
  · split at h
    · split at h
      · rename_i z _ s _ ch hs
        cases rv.str_inv; cases rw_.str_inv
        cases one_sign hs
        refine .inr ⟨ch, z, rfl, rfl, ?_⟩
        rw [Option.some.inj h]
        exact q
      · cases h
    · cases h
  · cases h
theorem o2_in : Op2 c (rInA c.K false) inD := by
  intro G H σ ρ m v w d e z j rv rw_ h Q q
  unfold inD at h
  cases eb : inB d e with
  | none => rw [eb] at h; cases h
  | some b => rw [eb] at h; cases h; exact inB_ok j.z.ex rv rw_ eb (sc_ok (z := .bl b) j (.bl b) q)
theorem o2_nin : Op2 c (rInA c.K true) ninD := by
  intro G H σ ρ m v w d e z j rv rw_ h Q q
  unfold ninD at h
  cases eb : inB d e with
  | none => rw [eb] at h; cases h
  | some b => rw [eb] at h; cases h; exact inB_ok j.z.ex rv rw_ eb (sc_ok (z := .bl (!b)) j (.bl (!b)) q)
theorem pd_in {a b : Expr} {pos : Pos} {fa fb : Me Vl} (hK : X.K = c.K) (ha : PE X a (tE c fa)) (hb : PE X b (tE c fb)) (hm : behindInMarks .In b = false := by rfl) : PE X (.Compare a [.In] [b] pos) (tE c (m2 inD fa fb)) :=
  pd_cmp (OpR.or op_in_seq op_in_sign) (by rw [hK]; exact o2_in) ha hb hm
theorem pd_nin {a b : Expr} {pos : Pos} {fa fb : Me Vl} (hK : X.K = c.K) (ha : PE X a (tE c fa)) (hb : PE X b (tE c fb)) (hm : behindInMarks .NotIn b = false := by rfl) : PE X (.Compare a [.NotIn] [b] pos) (tE c (m2 ninD fa fb)) :=
  pd_cmp (OpR.or op_notIn_seq op_notIn_sign) (by rw [hK]; exact o2_nin) ha hb hm
/-! ### is None -/
def isNone : D → Bool
  | .non => true
  | _ => false
theorem Rp.isn {K : Fg} {G : Hp} {v : V} {d : D} (h : Rp K G v d) : decide (v = .non) = isNone d := by
  cases h <;> simp [isNone]
def m1 (op : D → Option D) (fa : Me Vl) : Me Vl := fun ρ m => (fa ρ m).bind fun x m1 => match x with
  | .dat d => (match op d with
    | some z => .ok (.dat z) m1
    | none => .stuck)
  | _ => .stuck
theorem m1_ok {op : D → Option D} {fa : Me Vl} {ρ : En} {m m' : List D} {x : Vl} (h : m1 op fa ρ m = .ok x m') : ∃ d z, fa ρ m = .ok (.dat d) m' ∧ op d = some z ∧ x = .dat z := by
  unfold m1 at h
  cases ea : fa ρ m with
  | stuck => simp only [ea, Ou.bind] at h; cases h
  | ok a m1 =>
    simp only [ea, Ou.bind] at h
    cases a with
    | pool => cases h
    | dat d =>
      simp only at h
      cases eo : op d with
      | none => simp only [eo] at h; cases h
      | some z => simp only [eo] at h; cases h; exact ⟨d, z, rfl, eo, rfl⟩
theorem un_imp {r : V → Hp → VK → Prop} {op : D → Option D} {fa : Me Vl} (hs : ∀ G H σ ρ m v d z, J c G H σ ρ m → Rp c.K G v d → op d = some z → ∀ Q : VK, (∀ u G' H', Mv c G H G' H' → J c G' H' σ ρ m → Rp c.K G' u z → Q u H') → r v H Q)
    (σ : L2.St) (H : Hp) (Q : VK) (h : tE c (m1 op fa) σ H Q) : (tE c fa) σ H fun x H1 => r x H1 Q := by
  obtain ⟨G, ρ, m, x, m', j, e, q⟩ := tE_cases h
  obtain ⟨d, z, ea, eo, rfl⟩ := m1_ok e
  refine tE_ok j ea fun v G1 H1 x1 j1 r1 => ?_
  exact hs G1 H1 σ ρ m' v d z j1 r1 eo Q fun u G3 H3 x3 j3 r3 => q u G3 H3 (x1.trans x3) j3 r3
theorem pd_isN {a : Expr} {i pos pos'} {fa : Me Vl} (ha : PE X a (tE c fa)) : PE X (.Compare a [.Is] [.Constant .none i pos'] pos) (tE c (m1 (fun d => some (.bl (isNone d))) fa)) := by
  refine PE.imp (pe_cmp (pc_isN ha) rfl) (un_imp fun G H σ ρ m v d z j rv h Q q => ?_)
  cases h
  rw [rv.isn]
  exact sc_ok j (.bl _) q
theorem pd_notN {a : Expr} {i pos pos'} {fa : Me Vl} (ha : PE X a (tE c fa)) : PE X (.Compare a [.IsNot] [.Constant .none i pos'] pos) (tE c (m1 (fun d => some (.bl (!isNone d))) fa)) := by
  refine PE.imp (pe_cmp (pc_notN ha) rfl) (un_imp fun G H σ ρ m v d z j rv h Q q => ?_)
  cases h
  rw [rv.isn]
  exact sc_ok j (.bl _) q
def negD : D → Option D
  | .int i => some (.int (-i))
  | _ => none
theorem pd_neg {a : Expr} {pos : Pos} {fa : Me Vl} (ha : PE X a (tE c fa)) : PE X (.UnaryOp .USub a pos) (tE c (m1 negD fa)) := by
  refine PE.imp (pe_un un_neg ha) (un_imp fun G H σ ρ m v d z j rv h Q q => ?_)
  unfold negD at h
  split at h
  · cases h; cases rv.int_inv; exact ⟨_, rfl, sc_ok j (.int _) q⟩
  · cases h
end
end Pd

set_option Elab.async false
set_option linter.all false
set_option maxRecDepth 100000
set_option maxHeartbeats 4000000
namespace Pd
open PySem L2
section
variable {X : Cx} {c : Ct}
/-! ### truth -/
def truD : D → Option Bool
  | .non => some false
  | .bl b => some b
  | .int i => some (i != 0)
  | .str s => if s.length ≤ sizeLine then some ((s.length : Int) != 0) else none
  | .tup xs => some (!xs.isEmpty)
  | .lst xs => some (!xs.isEmpty)
  | .obj _ _ => none
  | .dct _ => none
theorem RpL.isE {K : Fg} {G : Hp} {vs : List V} {ds : List D} (r : RpL K G vs ds) : vs.isEmpty = ds.isEmpty := by cases r <;> rfl
theorem Rp.tru {K : Fg} {G H : Hp} {v : V} {d : D} {b : Bool} (x : Ex G H) (h : Rp K G v d) (e : truD d = some b) : TruV K v H b := by
  cases h with
  | non => cases e; rfl
  | bl _ => cases e; rfl
  | int _ => cases e; rfl
  | str s =>
    unfold truD at e
    simp only at e
    split at e
    · cases e; exact ⟨by assumption, rfl⟩
    · cases e
  | tup s r => cases e; exact .inr (.inl ⟨_, ex_t x s.sq, by rw [r.isE]⟩)
  | lst s r => cases e; exact .inl ⟨_, ex_l x s, by rw [r.isE]⟩
  | obj s r => cases e
  | dct s r => cases e
def mT (f : Me Vl) : Me Bool := fun ρ m => (f ρ m).bind fun x m1 => match x with
  | .dat d => (match truD d with
    | some b => .ok b m1
    | none => .stuck)
  | _ => .stuck
theorem mT_ok {f : Me Vl} {ρ : En} {m m' : List D} {b : Bool} (h : mT f ρ m = .ok b m') : ∃ d, f ρ m = .ok (.dat d) m' ∧ truD d = some b := by
  unfold mT at h
  cases ea : f ρ m with
  | stuck => simp only [ea, Ou.bind] at h; cases h
  | ok a m1 =>
    simp only [ea, Ou.bind] at h
    cases a with
    | pool => cases h
    | dat d =>
      simp only at h
      cases eo : truD d with
      | none => simp only [eo] at h; cases h
      | some z => simp only [eo] at h; cases h; exact ⟨d, rfl, eo⟩
def mTb (f : Me Vl) : Me Bool := fun ρ m => (f ρ m).bind fun x m1 => match x with
  | .dat (.bl b) => .ok b m1
  | _ => .stuck
/-- any expression that gives a bool, as a test -/
theorem tv_imp {f : Me Vl} (σ : L2.St) (H : Hp) (Q : Bool → Hp → Prop) (q : tB c (mTb f) σ H Q) : (tE c f) σ H fun x H' => ∃ k, x = .bl k ∧ Q k H' := by
  obtain ⟨G, ρ, m, x, m', j, e, q⟩ := tB_cases q
  unfold mTb at e
  cases ea : f ρ m with
  | stuck => simp only [ea, Ou.bind] at e; cases e
  | ok a m1 =>
    simp only [ea, Ou.bind] at e
    split at e
    · cases e
      refine tE_ok j ea fun v G1 H1 x1 j1 r1 => ?_
      cases Rp.bl_inv r1
      exact ⟨_, rfl, q G1 H1 x1 j1⟩
    · cases e
theorem pd_tv {e : Expr} {f : Me Vl} (h : PE X e (tE c f)) (he : ∀ whole, isTrue e X.env whole = (do let v ← whole; standAt e.pos; holding [v] (truthy v)) := by intro _; rfl) : PT X e (tB c (mTb f)) :=
  PT.imp (pt_val h he) tv_imp
/-- a comparison as a test -/
theorem pd_tcmp {o : CmpOp} {a b : Expr} {pos : Pos} {r : R2} {op : D → D → Option D} {fa fb : Me Vl} (ho : OpR X (compareOp o) r) (hs : Op2 c r op) (ha : PE X a (tE c fa)) (hb : PE X b (tE c fb)) (hm : behindInMarks o b = false) : PT X (.Compare a [o] [b] pos) (tB c (mTb (m2 op fa fb))) := by
  refine PT.imp (pt_cmpR ho ha hb hm) fun σ H Q q => ?_
  exact op_imp hs σ H _ (tv_imp σ H Q q)
theorem pd_tisN {a : Expr} {i pos pos'} {fa : Me Vl} (ha : PE X a (tE c fa)) : PT X (.Compare a [.Is] [.Constant .none i pos'] pos) (tB c (mTb (m1 (fun d => some (.bl (isNone d))) fa))) := by
  refine PT.imp (pt_cmp (pc_isN ha)) fun σ H Q q => ?_
  refine un_imp (r := fun x H Q => Q (.bl (decide (x = .non))) H) (fun G H σ ρ m v d z j rv h Q q => ?_) σ H _ (tv_imp σ H Q q)
  cases h
  show Q (.bl (decide (v = .non))) H
  rw [rv.isn]
  exact sc_ok j (.bl _) q
theorem pd_tnotN {a : Expr} {i pos pos'} {fa : Me Vl} (ha : PE X a (tE c fa)) : PT X (.Compare a [.IsNot] [.Constant .none i pos'] pos) (tB c (mTb (m1 (fun d => some (.bl (!isNone d))) fa))) := by
  refine PT.imp (pt_cmp (pc_notN ha)) fun σ H Q q => ?_
  refine un_imp (r := fun x H Q => Q (.bl (!decide (x = .non))) H) (fun G H σ ρ m v d z j rv h Q q => ?_) σ H _ (tv_imp σ H Q q)
  cases h
  show Q (.bl (!decide (v = .non))) H
  rw [rv.isn]
  exact sc_ok j (.bl _) q
/-- any expression by its truth -/
theorem pd_tt {e : Expr} {f : Me Vl} (hK : X.K = c.K) (h : PE X e (tE c f)) (he : ∀ whole, isTrue e X.env whole = (do let v ← whole; standAt e.pos; holding [v] (truthy v)) := by intro _; rfl) : PT X e (tB c (mT f)) := by
  refine PT.imp (pt_truth h he) fun σ H Q q => ?_
  obtain ⟨G, ρ, m, x, m', j, e, q⟩ := tB_cases q
  obtain ⟨d, ea, et⟩ := mT_ok e
  refine tE_ok j ea fun v G1 H1 x1 j1 r1 => ?_
  exact ⟨x, by rw [hK]; exact Rp.tru j1.z.ex r1 et, q G1 H1 x1 j1⟩
def mNot (f : Me Bool) : Me Bool := fun ρ m => (f ρ m).bind fun b m1 => .ok (!b) m1
theorem mNot_ok {f : Me Bool} {ρ : En} {m m' : List D} {b : Bool} (h : mNot f ρ m = .ok b m') : ∃ a, f ρ m = .ok a m' ∧ b = !a := by
  unfold mNot at h
  cases ea : f ρ m with
  | stuck => simp only [ea, Ou.bind] at h; cases h
  | ok a m1 => simp only [ea, Ou.bind] at h; cases h; exact ⟨a, rfl, rfl⟩
theorem pd_tnot {a : Expr} {pos : Pos} {f : Me Bool} (h : PT X a (tB c f)) : PT X (.UnaryOp .Not a pos) (tB c (mNot f)) := by
  refine PT.imp (pt_not h) fun σ H Q q => ?_
  obtain ⟨G, ρ, m, x, m', j, e, q⟩ := tB_cases q
  obtain ⟨b, ea, rfl⟩ := mNot_ok e
  exact tB_ok j ea fun G1 H1 x1 j1 => q G1 H1 x1 j1
def mAnd (f g : Me Bool) : Me Bool := fun ρ m => (f ρ m).bind fun b m1 => if b then g ρ m1 else .ok false m1
def mOr (f g : Me Bool) : Me Bool := fun ρ m => (f ρ m).bind fun b m1 => if b then .ok true m1 else g ρ m1
theorem PW.imp {e : Expr} {t t' : TT} (h : PW X e t) (i : ∀ σ H Q, t' σ H Q → t σ H Q) : PW X e t' := ⟨fun whole pins s σ H Q I q => h.run whole pins s σ H Q I (i σ H Q q)⟩
theorem pd_wand1 {a : Expr} {pos : Pos} {f : Me Bool} (h : PT X a (tB c f)) : PW X (.BoolOp .And [a] pos) (tB c f) := pw_and1 h
theorem pd_wor1 {a : Expr} {pos : Pos} {f : Me Bool} (h : PT X a (tB c f)) : PW X (.BoolOp .Or [a] pos) (tB c f) := pw_or1 h
theorem pd_wand {a b : Expr} {rest : List Expr} {pos : Pos} {f g : Me Bool} (ha : PT X a (tB c f)) (hb : PW X (.BoolOp .And (b :: rest) pos) (tB c g)) : PW X (.BoolOp .And (a :: b :: rest) pos) (tB c (mAnd f g)) := by
  refine PW.imp (pw_and ha hb) fun σ H Q q => ?_
  obtain ⟨G, ρ, m, x, m', j, e, q⟩ := tB_cases q
  unfold mAnd at e
  cases ea : f ρ m with
  | stuck => simp only [ea, Ou.bind] at e; cases e
  | ok bb m1 =>
    simp only [ea, Ou.bind] at e
    refine tB_ok j ea fun G1 H1 x1 j1 => ?_
    cases bb with
    | true =>
      simp only [if_true] at e
      rw [if_pos rfl]
      exact tB_ok j1 e fun G2 H2 x2 j2 => q G2 H2 (x1.trans x2) j2
    | false =>
      rw [if_neg Bool.false_ne_true] at e ⊢
      cases e
      exact q G1 H1 x1 j1
theorem pd_wor {a b : Expr} {rest : List Expr} {pos : Pos} {f g : Me Bool} (ha : PT X a (tB c f)) (hb : PW X (.BoolOp .Or (b :: rest) pos) (tB c g)) : PW X (.BoolOp .Or (a :: b :: rest) pos) (tB c (mOr f g)) := by
  refine PW.imp (pw_or ha hb) fun σ H Q q => ?_
  obtain ⟨G, ρ, m, x, m', j, e, q⟩ := tB_cases q
  unfold mOr at e
  cases ea : f ρ m with
  | stuck => simp only [ea, Ou.bind] at e; cases e
  | ok bb m1 =>
    simp only [ea, Ou.bind] at e
    refine tB_ok j ea fun G1 H1 x1 j1 => ?_
    cases bb with
    | true =>
      rw [if_pos rfl] at e ⊢
      cases e
      exact q G1 H1 x1 j1
    | false =>
      rw [if_neg Bool.false_ne_true] at e ⊢
      exact tB_ok j1 e fun G2 H2 x2 j2 => q G2 H2 (x1.trans x2) j2
/-! ### values by truth -/
def mAndV (f g : Me Vl) : Me Vl := fun ρ m => (f ρ m).bind fun x m1 => match x with
  | .dat d => (match truD d with
    | some true => g ρ m1
    | some false => .ok (.dat d) m1
    | none => .stuck)
  | _ => .stuck
def mOrV (f g : Me Vl) : Me Vl := fun ρ m => (f ρ m).bind fun x m1 => match x with
  | .dat d => (match truD d with
    | some false => g ρ m1
    | some true => .ok (.dat d) m1
    | none => .stuck)
  | _ => .stuck
theorem pd_one {op : BoolOp} {a : Expr} {pos : Pos} {f : Me Vl} (h : PE X a (tE c f)) : PE X (.BoolOp op [a] pos) (tE c f) := pe_one h
theorem pd_and {a b : Expr} {rest : List Expr} {pos : Pos} {f g : Me Vl} (hK : X.K = c.K) (ha : PE X a (tE c f)) (hb : PE X (.BoolOp .And (b :: rest) pos) (tE c g)) : PE X (.BoolOp .And (a :: b :: rest) pos) (tE c (mAndV f g)) := by
  refine PE.imp (pe_andT ha hb) fun σ H Q q => ?_
  obtain ⟨G, ρ, m, x, m', j, e, q⟩ := tE_cases q
  unfold mAndV at e
  cases ea : f ρ m with
  | stuck => simp only [ea, Ou.bind] at e; cases e
  | ok xa m1 =>
    simp only [ea, Ou.bind] at e
    cases xa with
    | pool => cases e
    | dat d =>
      simp only at e
      refine tE_ok j ea fun v G1 H1 x1 j1 r1 => ?_
      cases et : truD d with
      | none => simp only [et] at e; cases e
      | some k =>
        refine ⟨k, by rw [hK]; exact Rp.tru j1.z.ex r1 et, ?_⟩
        cases k with
        | true =>
          simp only [et] at e
          rw [if_pos rfl]
          exact tE_ok j1 e fun v G2 H2 x2 j2 r2 => q v G2 H2 (x1.trans x2) j2 r2
        | false =>
          simp only [et] at e
          rw [if_neg Bool.false_ne_true]
          cases e
          exact q v G1 H1 x1 j1 r1
theorem pd_or {a b : Expr} {rest : List Expr} {pos : Pos} {f g : Me Vl} (hK : X.K = c.K) (ha : PE X a (tE c f)) (hb : PE X (.BoolOp .Or (b :: rest) pos) (tE c g)) : PE X (.BoolOp .Or (a :: b :: rest) pos) (tE c (mOrV f g)) := by
  refine PE.imp (pe_orT ha hb) fun σ H Q q => ?_
  obtain ⟨G, ρ, m, x, m', j, e, q⟩ := tE_cases q
  unfold mOrV at e
  cases ea : f ρ m with
  | stuck => simp only [ea, Ou.bind] at e; cases e
  | ok xa m1 =>
    simp only [ea, Ou.bind] at e
    cases xa with
    | pool => cases e
    | dat d =>
      simp only at e
      refine tE_ok j ea fun v G1 H1 x1 j1 r1 => ?_
      cases et : truD d with
      | none => simp only [et] at e; cases e
      | some k =>
        refine ⟨k, by rw [hK]; exact Rp.tru j1.z.ex r1 et, ?_⟩
        cases k with
        | false =>
          simp only [et] at e
          rw [if_neg Bool.false_ne_true]
          exact tE_ok j1 e fun v G2 H2 x2 j2 r2 => q v G2 H2 (x1.trans x2) j2 r2
        | true =>
          simp only [et] at e
          rw [if_pos rfl]
          cases e
          exact q v G1 H1 x1 j1 r1
theorem pd_not {a : Expr} {pos : Pos} {f : Me Vl} (hK : X.K = c.K) (ha : PE X a (tE c f)) : PE X (.UnaryOp .Not a pos) (tE c (m1 (fun d => (truD d).map fun b => .bl (!b)) f)) := by
  refine PE.imp (pe_notT ha) (un_imp (r := fun x H Q => ∃ k, TruV X.K x H k ∧ Q (.bl (!k)) H) fun G H σ ρ m v d z j rv h Q q => ?_)
  cases et : truD d with
  | none => rw [et] at h; cases h
  | some b =>
    rw [et] at h; cases h
    exact ⟨b, by rw [hK]; exact Rp.tru j.z.ex rv et, sc_ok j (.bl _) q⟩
def mIf {α : Type} (t : Me Bool) (f g : Me α) : Me α := fun ρ m => (t ρ m).bind fun b m1 => if b then f ρ m1 else g ρ m1
theorem pd_if {t a b : Expr} {pos : Pos} {ft : Me Bool} {f g : Me Vl} (ht : PT X t (tB c ft)) (ha : PE X a (tE c f)) (hb : PE X b (tE c g)) : PE X (.IfExp t a b pos) (tE c (mIf ft f g)) := by
  refine PE.imp (pe_ifExp ht ha hb) fun σ H Q q => ?_
  obtain ⟨G, ρ, m, x, m', j, e, q⟩ := tE_cases q
  unfold mIf at e
  cases ea : ft ρ m with
  | stuck => simp only [ea, Ou.bind] at e; cases e
  | ok bb m1 =>
    simp only [ea, Ou.bind] at e
    refine tB_ok j ea fun G1 H1 x1 j1 => ?_
    cases bb with
    | true =>
      rw [if_pos rfl] at e ⊢
      exact tE_ok j1 e fun v G2 H2 x2 j2 r2 => q v G2 H2 (x1.trans x2) j2 r2
    | false =>
      rw [if_neg Bool.false_ne_true] at e ⊢
      exact tE_ok j1 e fun v G2 H2 x2 j2 r2 => q v G2 H2 (x1.trans x2) j2 r2
/-! ### argument lists, displays -/
def mNil : Me (List Vl) := fun _ m => .ok [] m
def mCons (f : Me Vl) (g : Me (List Vl)) : Me (List Vl) := fun ρ m => (f ρ m).bind fun x m1 => (g ρ m1).bind fun xs m2 => .ok (x :: xs) m2
def mStar (f : Me Vl) (g : Me (List Vl)) : Me (List Vl) := fun ρ m => (f ρ m).bind fun x m1 => (g ρ m1).bind fun xs m2 => match x with
  | .dat (.tup ds) => .ok (ds.map Vl.dat ++ xs) m2
  | .dat (.lst ds) => .ok (ds.map Vl.dat ++ xs) m2
  | _ => .stuck
theorem pd_an : PA X [] (tAs c mNil) := PA.imp pa_nil fun σ H Q q => by
  obtain ⟨G, ρ, m, x, m', j, e, q⟩ := tAs_cases q
  cases e
  exact q [] G H (Mv.refl c G H) j .nil
theorem pd_ac {e : Expr} {es : List Expr} {f : Me Vl} {g : Me (List Vl)} (he : PE X e (tE c f)) (hs : PA X es (tAs c g)) (hp : starEach (e :: es) X.env = (false, eval e X.env) :: starEach es X.env := by rfl) : PA X (e :: es) (tAs c (mCons f g)) := by
  refine PA.imp (pa_cons he hs hp) fun σ H Q q => ?_
  obtain ⟨G, ρ, m, x, m', j, e, q⟩ := tAs_cases q
  unfold mCons at e
  cases ea : f ρ m with
  | stuck => simp only [ea, Ou.bind] at e; cases e
  | ok xa m1 =>
    simp only [ea, Ou.bind] at e
    cases eb : g ρ m1 with
    | stuck => simp only [eb] at e; cases e
    | ok xs m2 =>
      simp only [eb] at e
      cases e
      refine tE_ok j ea fun v G1 H1 x1 j1 r1 => ?_
      exact tAs_ok j1 eb fun vs G2 H2 x2 j2 r2 => q _ G2 H2 (x1.trans x2) j2 (.cons (r1.mono x2.ex) r2)
theorem RpL.vs {G : Hp} : ∀ {vs : List V} {ds : List D}, RpL c.K G vs ds → RpVs c G vs (ds.map Vl.dat)
  | _, _, .nil => .nil
  | _, _, .cons h r => .cons h r.vs
theorem RpVs.append {G : Hp} : ∀ {vs ws : List V} {xs ys : List Vl}, RpVs c G vs xs → RpVs c G ws ys → RpVs c G (vs ++ ws) (xs ++ ys)
  | _, _, _, _, .nil, s => s
  | _, _, _, _, .cons h r, s => .cons h (r.append s)
theorem pd_as {e : Expr} {p : Pos} {es : List Expr} {f : Me Vl} {g : Me (List Vl)} (hK : X.K = c.K) (he : PE X e (tE c f)) (hs : PA X es (tAs c g)) (hp : starEach (.Starred e p :: es) X.env = (true, eval e X.env) :: starEach es X.env := by rfl) : PA X (.Starred e p :: es) (tAs c (mStar f g)) := by
  refine PA.imp (StX.pa_star he hs hp) fun σ H Q q => ?_
  obtain ⟨G, ρ, m, x, m', j, e, q⟩ := tAs_cases q
  unfold mStar at e
  cases ea : f ρ m with
  | stuck => simp only [ea, Ou.bind] at e; cases e
  | ok xa m1 =>
    simp only [ea, Ou.bind] at e
    cases eb : g ρ m1 with
    | stuck => simp only [eb] at e; cases e
    | ok xs m2 =>
      simp only [eb] at e
      refine tE_ok j ea fun v G1 H1 x1 j1 r1 => ?_
      split at e
      · cases e
        obtain ⟨p, vs, rfl, s1, r1⟩ := Rp.tup_inv r1
        refine ⟨p, vs, rfl, .inl (by rw [hK]; exact ex_t j1.z.ex s1), ?_⟩
        exact tAs_ok j1 eb fun ws G2 H2 x2 j2 r2 => q _ G2 H2 (x1.trans x2) j2 ((r1.mono x2.ex).vs.append r2)
      · cases e
        obtain ⟨p, vs, rfl, s1, r1⟩ := Rp.lst_inv r1
        refine ⟨p, vs, rfl, .inr (by rw [hK]; exact ex_l j1.z.ex s1), ?_⟩
        exact tAs_ok j1 eb fun ws G2 H2 x2 j2 r2 => q _ G2 H2 (x1.trans x2) j2 ((r1.mono x2.ex).vs.append r2)
      · cases e
def dats : List Vl → Option (List D)
  | [] => some []
  | .dat d :: r => (dats r).map fun ds => d :: ds
  | .pool :: _ => none
theorem dats_ok {G : Hp} : ∀ {xs : List Vl} {ds : List D} {vs : List V}, dats xs = some ds → RpVs c G vs xs → RpL c.K G vs ds
  | [], ds, _, e, .nil => by cases e; exact .nil
  | .dat d :: r, ds, _, e, .cons h t => by
    unfold dats at e
    cases q : dats r with
    | none => rw [q] at e; cases e
    | some es => rw [q] at e; cases e; exact .cons h (dats_ok q t)
  | .pool :: _, _, _, e, _ => by cases e
theorem dats_map : ∀ ds : List D, dats (ds.map Vl.dat) = some ds
  | [] => rfl
  | d :: ds => by show (dats (ds.map Vl.dat)).map _ = _; rw [dats_map ds]; rfl
def mTup (f : Me (List Vl)) : Me Vl := fun ρ m => (f ρ m).bind fun xs m1 => match dats xs with
  | some ds => if ds.length ≤ sizeLine then .ok (.dat (.tup ds)) m1 else .stuck
  | none => .stuck
def mLst (f : Me (List Vl)) : Me (List D) := fun ρ m => (f ρ m).bind fun xs m1 => match dats xs with
  | some ds => if ds.length ≤ sizeLine then .ok ds m1 else .stuck
  | none => .stuck
theorem pd_tup {es : List Expr} {k pos} {f : Me (List Vl)} (h : PA X es (tAs c f)) : PE X (.Tuple es k pos) (tE c (mTup f)) := by
  refine PE.imp (pe_tupF h) fun σ H Q q => ?_
  obtain ⟨G, ρ, m, x, m', j, e, q⟩ := tE_cases q
  unfold mTup at e
  cases ea : f ρ m with
  | stuck => simp only [ea, Ou.bind] at e; cases e
  | ok xs m1 =>
    simp only [ea, Ou.bind] at e
    cases ed : dats xs with
    | none => simp only [ed] at e; cases e
    | some ds =>
      simp only [ed] at e
      split at e
      · rename_i hl
        cases e
        refine tAs_ok j ea fun vs G1 H1 x1 j1 r1 => ?_
        have r2 := dats_ok ed r1
        refine ⟨by rw [r2.length]; exact hl, fun p us hp _ => ?_⟩
        have g : Ex G1 (upd G1 p (.frz (tupO us) (.tup vs))) := Ex.new (j1.gn hp)
        exact q _ _ _ (x1.trans (Mv.new hp (j1.gn hp))) (j1.new hp) (Rp.tup (tn_of upd_same) (r2.mono g))
      · cases e
theorem pd_lst {es : List Expr} {pos} {f : Me (List Vl)} (h : PA X es (tAs c f)) : PE X (.List es pos) (tL c (mLst f)) := by
  refine PE.imp (pe_lst h) fun σ H Q q => ?_
  obtain ⟨G, ρ, m, x, m', j, e, q⟩ := tL_cases q
  unfold mLst at e
  cases ea : f ρ m with
  | stuck => simp only [ea, Ou.bind] at e; cases e
  | ok xs m1 =>
    simp only [ea, Ou.bind] at e
    cases ed : dats xs with
    | none => simp only [ed] at e; cases e
    | some ds =>
      simp only [ed] at e
      split at e
      · rename_i hl
        cases e
        refine tAs_ok j ea fun vs G1 H1 x1 j1 r1 => ?_
        have r2 := dats_ok ed r1
        refine ⟨by rw [r2.length]; exact hl, fun p hp => ?_⟩
        exact q p vs G1 _ (x1.trans (Mv.newH hp)) (j1.ext hp rfl) (x1.dm p hp) (j1.gn hp) upd_same r2
      · cases e
def mPub (f : Me (List D)) : Me Vl := fun ρ m => (f ρ m).bind fun ds m1 => .ok (.dat (.lst ds)) m1
/-- a new list as a datum -/
theorem pd_pub {e : Expr} {f : Me (List D)} (h : PE X e (tL c f)) : PE X e (tE c (mPub f)) := by
  refine PE.imp h fun σ H Q q => ?_
  obtain ⟨G, ρ, m, x, m', j, e, q⟩ := tE_cases q
  unfold mPub at e
  cases ea : f ρ m with
  | stuck => simp only [ea, Ou.bind] at e; cases e
  | ok ds m1 =>
    simp only [ea, Ou.bind] at e
    cases e
    refine tL_ok j ea fun a ws G1 H1 x1 j1 ha g1 h1 r1 => ?_
    have g : Ex G1 (upd G1 a (.lst ws)) := Ex.new g1
    exact q _ _ _ (x1.pub ha g1) (j1.pub (j.h0 ha) g1 h1 (fun i es ho e => j.noown (H' := H) ha i es ho e)) (Rp.lst (sq_of upd_same) (r1.mono g))
end
end Pd

set_option Elab.async false
set_option linter.all false
set_option maxRecDepth 100000
set_option maxHeartbeats 4000000
namespace Pd
open PySem L2
section
variable {X : Cx} {c : Ct}
theorem J.set {G H : Hp} {σ : L2.St} {ρ : En} {m : List D} (j : J c G H σ ρ m) (i : Nat) {v : V} {d : D} (r : Rp c.K G v d) : J c G H (σ.set i (some v)) (ρ.set i (.val d)) m := by
  refine ⟨j.z, fun k e h => ?_, fun k h => ?_, fun k ds h => ?_, fun k l ds es a h1 h2 h3 h4 => ?_, by rw [List.length_set, List.length_set, j.len]⟩
  · by_cases hk : i = k
    · subst hk
      by_cases hl : i < ρ.length
      · rw [List.getElem?_set_self hl] at h
        cases h
        exact ⟨v, by rw [List.getElem?_set_self (by rw [← j.len]; exact hl)], r⟩
      · rw [List.getElem?_eq_none (by rw [List.length_set]; omega)] at h; cases h
    · rw [List.getElem?_set_ne hk] at h ⊢
      exact j.val k e h
  · by_cases hk : i = k
    · subst hk
      by_cases hl : i < ρ.length
      · rw [List.getElem?_set_self hl] at h; cases h
      · rw [List.getElem?_eq_none (by rw [List.length_set]; omega)] at h; cases h
    · rw [List.getElem?_set_ne hk] at h ⊢
      exact j.pol k h
  · by_cases hk : i = k
    · subst hk
      by_cases hl : i < ρ.length
      · rw [List.getElem?_set_self hl] at h; cases h
      · rw [List.getElem?_eq_none (by rw [List.length_set]; omega)] at h; cases h
    · rw [List.getElem?_set_ne hk] at h ⊢
      exact j.own k ds h
  · have n1 : i ≠ k := by
      rintro rfl
      by_cases hl : i < ρ.length
      · rw [List.getElem?_set_self hl] at h1; cases h1
      · rw [List.getElem?_eq_none (by rw [List.length_set]; omega)] at h1; cases h1
    have n2 : i ≠ l := by
      rintro rfl
      by_cases hl : i < ρ.length
      · rw [List.getElem?_set_self hl] at h2; cases h2
      · rw [List.getElem?_eq_none (by rw [List.length_set]; omega)] at h2; cases h2
    rw [List.getElem?_set_ne n1] at h1 h3
    rw [List.getElem?_set_ne n2] at h2 h4
    exact j.dis k l ds es a h1 h2 h3 h4
theorem J.setPool {G H : Hp} {σ : L2.St} {ρ : En} {m : List D} (j : J c G H σ ρ m) (i : Nat) {p : Addr} (r : c.P = some p) : J c G H (σ.set i (some (.ref p))) (ρ.set i .pool) m := by
  refine ⟨j.z, fun k e h => ?_, fun k h => ?_, fun k ds h => ?_, fun k l ds es a h1 h2 h3 h4 => ?_, by rw [List.length_set, List.length_set, j.len]⟩
  · by_cases hk : i = k
    · subst hk
      by_cases hl : i < ρ.length
      · rw [List.getElem?_set_self hl] at h; cases h
      · rw [List.getElem?_eq_none (by rw [List.length_set]; omega)] at h; cases h
    · rw [List.getElem?_set_ne hk] at h ⊢
      exact j.val k e h
  · by_cases hk : i = k
    · subst hk
      by_cases hl : i < ρ.length
      · exact ⟨p, r, by rw [List.getElem?_set_self (by rw [← j.len]; exact hl)]⟩
      · rw [List.getElem?_eq_none (by rw [List.length_set]; omega)] at h; cases h
    · rw [List.getElem?_set_ne hk] at h ⊢
      exact j.pol k h
  · by_cases hk : i = k
    · subst hk
      by_cases hl : i < ρ.length
      · rw [List.getElem?_set_self hl] at h; cases h
      · rw [List.getElem?_eq_none (by rw [List.length_set]; omega)] at h; cases h
    · rw [List.getElem?_set_ne hk] at h ⊢
      exact j.own k ds h
  · have n1 : i ≠ k := by
      rintro rfl
      by_cases hl : i < ρ.length
      · rw [List.getElem?_set_self hl] at h1; cases h1
      · rw [List.getElem?_eq_none (by rw [List.length_set]; omega)] at h1; cases h1
    have n2 : i ≠ l := by
      rintro rfl
      by_cases hl : i < ρ.length
      · rw [List.getElem?_set_self hl] at h2; cases h2
      · rw [List.getElem?_eq_none (by rw [List.length_set]; omega)] at h2; cases h2
    rw [List.getElem?_set_ne n1] at h1 h3
    rw [List.getElem?_set_ne n2] at h2 h4
    exact j.dis k l ds es a h1 h2 h3 h4
theorem J.setOwn {G H : Hp} {σ : L2.St} {ρ : En} {m : List D} (j : J c G H σ ρ m) (i : Nat) {a : Addr} {ws : List V} {ds : List D} (ha : H a = some (.lst ws)) (g : G a = none) (h0 : c.H0 a = none) (r : RpL c.K G ws ds)
    (no : ∀ (i : Nat) (ds : List D), ρ[i]? = some (.own ds) → σ[i]? ≠ some (some (.ref a))) : J c G H (σ.set i (some (.ref a))) (ρ.set i (.own ds)) m := by
  have out : ∀ {k : Nat} {s : Sl}, (ρ.set i (.own ds))[k]? = some s → (i = k ∧ i < ρ.length ∧ s = .own ds) ∨ (i ≠ k ∧ ρ[k]? = some s) := by
    intro k s h
    by_cases hk : i = k
    · subst hk
      by_cases hl : i < ρ.length
      · rw [List.getElem?_set_self hl] at h; cases h; exact .inl ⟨rfl, hl, rfl⟩
      · rw [List.getElem?_eq_none (by rw [List.length_set]; omega)] at h; cases h
    · rw [List.getElem?_set_ne hk] at h
      exact .inr ⟨hk, h⟩
  refine ⟨j.z, fun k e h => ?_, fun k h => ?_, fun k es h => ?_, fun k l es fs b h1 h2 h3 h4 => ?_, by rw [List.length_set, List.length_set, j.len]⟩
  · rcases out h with ⟨_, _, q⟩ | ⟨n, q⟩
    · cases q
    · rw [List.getElem?_set_ne n]; exact j.val k e q
  · rcases out h with ⟨_, _, q⟩ | ⟨n, q⟩
    · cases q
    · rw [List.getElem?_set_ne n]; exact j.pol k q
  · rcases out h with ⟨rfl, hl, q⟩ | ⟨n, q⟩
    · cases q
      exact ⟨a, ws, by rw [List.getElem?_set_self (by rw [← j.len]; exact hl)], ha, g, h0, r⟩
    · rw [List.getElem?_set_ne n]; exact j.own k es q
  · rcases out h1 with ⟨rfl, hl, q1⟩ | ⟨n1, q1⟩
    · rcases out h2 with ⟨rfl, _, q2⟩ | ⟨n2, q2⟩
      · rfl
      · rw [List.getElem?_set_self (by rw [← j.len]; exact hl)] at h3
        cases h3
        rw [List.getElem?_set_ne n2] at h4
        exact absurd h4 (no l fs q2)
    · rcases out h2 with ⟨rfl, hl, q2⟩ | ⟨n2, q2⟩
      · rw [List.getElem?_set_self (by rw [← j.len]; exact hl)] at h4
        cases h4
        rw [List.getElem?_set_ne n1] at h3
        exact absurd h3 (no k es q1)
      · rw [List.getElem?_set_ne n1] at h3
        rw [List.getElem?_set_ne n2] at h4
        exact j.dis k l es fs b q1 q2 h3 h4

/-! ### statements -/
abbrev Ms := En → List D → So
def sSeq (f g : Ms) : Ms := fun ρ m => match f ρ m with
  | .nx ρ' m' => g ρ' m'
  | o => o
def sNx : Ms := fun ρ m => .nx ρ m
theorem tS_nx {f : Ms} {G H : Hp} {σ : L2.St} {ρ ρ' : En} {m m' : List D} {D' : Ends} (j : J c G H σ ρ m) (e : f ρ m = .nx ρ' m') (q : ∀ σ' G' H', Ex G G' → J c G' H' σ' ρ' m' → D'.nx σ' H') : tS c f D' σ H := ⟨G, ρ, m, j, by rw [e]; exact q⟩
theorem tS_rt {f : Ms} {G H : Hp} {σ : L2.St} {ρ : En} {m m' : List D} {d : D} {D' : Ends} (j : J c G H σ ρ m) (e : f ρ m = .rt d m') (q : ∀ v G' H', J0 c G' H' m' → Rp c.K G' v d → D'.rt v H') : tS c f D' σ H := ⟨G, ρ, m, j, by rw [e]; exact q⟩
/-- what is wanted from a smaller known heap on is wanted from a greater one on -/
theorem tS_more {f : Ms} {G G1 H : Hp} {σ : L2.St} {ρ : En} {m : List D} {D' : Ends} (x : Ex G G1) (j : J c G1 H σ ρ m) (q : match f ρ m with
  | .stuck => False
  | .nx ρ' m' => ∀ σ' G' H', Ex G G' → J c G' H' σ' ρ' m' → D'.nx σ' H'
  | .rt d m' => ∀ v G' H', J0 c G' H' m' → Rp c.K G' v d → D'.rt v H'
  | .bk ρ' m' => ∀ σ' G' H', Ex G G' → J c G' H' σ' ρ' m' → D'.bk σ' H'
  | .ct ρ' m' => ∀ σ' G' H', Ex G G' → J c G' H' σ' ρ' m' → D'.ct σ' H') : tS c f D' σ H := by
  refine ⟨G1, ρ, m, j, ?_⟩
  cases e : f ρ m with
  | stuck => rw [e] at q; exact q
  | rt d m' => rw [e] at q; exact q
  | nx ρ' m' => rw [e] at q; exact fun σ' G' H' x' j' => q σ' G' H' (x.trans x') j'
  | bk ρ' m' => rw [e] at q; exact fun σ' G' H' x' j' => q σ' G' H' (x.trans x') j'
  | ct ρ' m' => rw [e] at q; exact fun σ' G' H' x' j' => q σ' G' H' (x.trans x') j'
theorem pd_nil : PSs X [] (tS c sNx) := PSs.imp pss_nil fun D' σ H q => by
  obtain ⟨G, ρ, m, j, q⟩ := q
  exact q σ G H (Ex.refl G) j
theorem pd_seq {st : Stmt} {rest : List Stmt} {f g : Ms} (h1 : PS X st (tS c f)) (h2 : PSs X rest (tS c g)) : PSs X (st :: rest) (tS c (sSeq f g)) := by
  refine PSs.imp (pss_cons h1 h2) fun D' σ H q => ?_
  obtain ⟨G, ρ, m, j, q⟩ := q
  refine ⟨G, ρ, m, j, ?_⟩
  unfold sSeq at q
  cases e : f ρ m with
  | stuck => rw [e] at q; exact q
  | rt d m' => rw [e] at q; exact q
  | bk ρ' m' => rw [e] at q; exact q
  | ct ρ' m' => rw [e] at q; exact q
  | nx ρ' m' =>
    rw [e] at q
    intro σ' G' H' x' j'
    exact tS_more x' j' q
theorem pd_last {st : Stmt} {f : Ms} (h1 : PS X st (tS c f)) : PSs X [st] (tS c f) := pss_one h1
def sSet (i : Nat) (f : Me Vl) : Ms := fun ρ m => match f ρ m with
  | .ok (.dat d) m' => .nx (ρ.set i (.val d)) m'
  | .ok .pool m' => .nx (ρ.set i .pool) m'
  | .stuck => .stuck
theorem pd_set {i : Nat} {x : Str} {e : Expr} {f : Me Vl} {pos' pos : Pos} (hN : X.N.Nodup) (hi : X.N[i]? = some x) (hx : Loc X.env.scope x) (he : PE X e (tE c f)) (hs : swapsWith e (some (.Name x pos')) pos.line X.env = pure false := by rfl) (hf : X.fn x = true ∨ X.env.scope.names.lookup x = some .local := by first | exact .inl rfl | exact .inr rfl | assumption) :
    PS X (.Assign [.Name x pos'] e pos) (tS c (sSet i f)) := by
  refine PS.imp (ps_set hN hi hx he hs hf) fun D' σ H q => ?_
  obtain ⟨G, ρ, m, j, q⟩ := q
  unfold sSet at q
  cases e : f ρ m with
  | stuck => rw [e] at q; exact q.elim
  | ok x m' =>
    rw [e] at q
    refine tE_ok j e fun v G1 H1 x1 j1 r1 => ?_
    cases x with
    | dat d => exact q _ G1 H1 x1.ex (j1.set i r1)
    | pool =>
      obtain ⟨p, h1, rfl⟩ := r1
      exact q _ G1 H1 x1.ex (j1.setPool i h1)
def sSetO (i : Nat) (f : Me (List D)) : Ms := fun ρ m => match f ρ m with
  | .ok ds m' => .nx (ρ.set i (.own ds)) m'
  | .stuck => .stuck
theorem asgO {i : Nat} {f : Me (List D)} {D' : Ends} {σ : L2.St} {H : Hp} (q : tS c (sSetO i f) D' σ H) : tAsg (tL c f) (gName i) D' σ H := by
  obtain ⟨G, ρ, m, j, q⟩ := q
  unfold sSetO at q
  cases e : f ρ m with
  | stuck => rw [e] at q; exact q.elim
  | ok ds m' =>
    rw [e] at q
    refine tL_ok j e fun a ws G1 H1 x1 j1 ha g1 h1 r1 => ?_
    exact q _ G1 H1 x1.ex (j1.setOwn i h1 g1 (j.h0 ha) r1 (fun l es ho => j.noown (H' := H) ha l es ho))
theorem pd_setO {i : Nat} {x : Str} {e : Expr} {f : Me (List D)} {pos' pos : Pos} (hN : X.N.Nodup) (hi : X.N[i]? = some x) (hx : Loc X.env.scope x) (he : PE X e (tL c f)) (hs : swapsWith e (some (.Name x pos')) pos.line X.env = pure false := by rfl) (hf : X.fn x = true ∨ X.env.scope.names.lookup x = some .local := by first | exact .inl rfl | exact .inr rfl | assumption) :
    PS X (.Assign [.Name x pos'] e pos) (tS c (sSetO i f)) :=
  PS.imp (ps_set hN hi hx he hs hf) fun D' σ H q => asgO q
def sRet (f : Me Vl) : Ms := fun ρ m => match f ρ m with
  | .ok (.dat d) m' => .rt d m'
  | _ => .stuck
theorem pd_ret {e : Expr} {pos : Pos} {f : Me Vl} (he : PE X e (tE c f)) : PS X (.Return (some e) pos) (tS c (sRet f)) := by
  refine PS.imp (ps_ret he) fun D' σ H q => ?_
  obtain ⟨G, ρ, m, j, q⟩ := q
  unfold sRet at q
  cases e : f ρ m with
  | stuck => rw [e] at q; exact q.elim
  | ok x m' =>
    rw [e] at q
    cases x with
    | pool => exact q.elim
    | dat d => exact tE_ok j e fun v G1 H1 x1 j1 r1 => q v G1 H1 j1.z r1
def sDrop (f : Me Vl) : Ms := fun ρ m => match f ρ m with
  | .ok _ m' => .nx ρ m'
  | _ => .stuck
theorem pd_expr {e : Expr} {pos : Pos} {f : Me Vl} (he : PE X e (tE c f)) (hs : swapsWith e none pos.line X.env = pure false := by rfl) : PS X (.Expr e pos) (tS c (sDrop f)) := by
  refine PS.imp (ps_expr he hs) fun D' σ H q => ?_
  obtain ⟨G, ρ, m, j, q⟩ := q
  unfold sDrop at q
  cases e : f ρ m with
  | stuck => rw [e] at q; exact q.elim
  | ok x m' =>
    rw [e] at q
    exact tE_ok j e fun v G1 H1 x1 j1 r1 => q σ G1 H1 x1.ex j1
def sIf (t : Me Bool) (f g : Ms) : Ms := fun ρ m => match t ρ m with
  | .ok true m' => f ρ m'
  | .ok false m' => g ρ m'
  | .stuck => .stuck
theorem pd_sif {t : Expr} {a b : List Stmt} {pos : Pos} {ft : Me Bool} {f g : Ms} (ht : PT X t (tB c ft)) (ha : PSs X a (tS c f)) (hb : PSs X b (tS c g)) : PS X (.If t a b pos) (tS c (sIf ft f g)) := by
  refine PS.imp (ps_if ht ha hb) fun D' σ H q => ?_
  obtain ⟨G, ρ, m, j, q⟩ := q
  unfold sIf at q
  cases e : ft ρ m with
  | stuck => rw [e] at q; exact q.elim
  | ok b m' =>
    rw [e] at q
    refine tB_ok j e fun G1 H1 x1 j1 => ?_
    cases b with
    | true => rw [if_pos rfl]; exact tS_more x1.ex j1 q
    | false => rw [if_neg Bool.false_ne_true]; exact tS_more x1.ex j1 q
/-- a statement that is never reached -/
theorem pd_never {st : Stmt} : PS X st (tS c fun _ _ => .stuck) := ⟨fun pins s σ H D' I h => by obtain ⟨G, ρ, m, j, q⟩ := h; exact q.elim⟩
theorem pd_nevers {st : List Stmt} : PSs X st (tS c fun _ _ => .stuck) := ⟨fun pins s σ H D' I h => by obtain ⟨G, ρ, m, j, q⟩ := h; exact q.elim⟩
/-! ### own lists seen as data -/
def Sl.thaw : Sl → Sl
  | .own ds => .val (.lst ds)
  | s => s
def thaw (ρ : En) : En := ρ.map Sl.thaw
/-- all own lists of the slots become known -/
theorem J.thaw {G H : Hp} {σ : L2.St} {ρ : En} {m : List D} (j : J c G H σ ρ m) : ∃ G', Ex G G' ∧ J c G' H σ (thaw ρ) m := by
  classical
  have own : ∀ a ws, H a = some (.lst ws) → True := fun _ _ _ => trivial
  let B : Addr → Prop := fun a => ∃ (i : Nat) (ds : List D), ρ[i]? = some (.own ds) ∧ σ[i]? = some (some (.ref a))
  let G' : Hp := fun a => if B a then H a else G a
  have bG : ∀ a, B a → G a = none ∧ c.H0 a = none := by
    rintro a ⟨i, ds, h1, h2⟩
    obtain ⟨b, ws, e1, e2, e3, e4, _⟩ := j.own i ds h1
    rw [h2] at e1; cases e1
    exact ⟨e3, e4⟩
  have x : Ex G G' := fun a o h => by
    show (if B a then H a else G a) = some o
    by_cases hb : B a
    · rw [(bG a hb).1] at h; cases h
    · rw [if_neg hb]; exact h
  refine ⟨G', x, ⟨⟨fun a o h => ?_, j.z.le.trans x, fun a o h => ?_, j.z.kp, fun p e => ?_⟩, fun i d h => ?_, fun i h => ?_, fun i ds h => ?_, fun i k ds es a h1 => ?_, by unfold Pd.thaw; rw [List.length_map]; exact j.len⟩⟩
  · change (if B a then H a else G a) = some o at h
    by_cases hb : B a
    · rw [if_pos hb] at h; exact h
    · rw [if_neg hb] at h; exact j.z.ex a o h
  · change (if B a then H a else G a) = some o at h
    by_cases hb : B a
    · exact .inr (bG a hb).2
    · rw [if_neg hb] at h; exact j.z.fr a o h
  · obtain ⟨h0, g, ws, h1, h2⟩ := j.z.pl p e
    exact ⟨h0, g, ws, h1, h2.mono x⟩
  · unfold Pd.thaw at h
    rw [List.getElem?_map] at h
    cases e : ρ[i]? with
    | none => rw [e] at h; cases h
    | some s =>
      rw [e] at h
      cases s with
      | emp => cases h
      | pool => cases h
      | val d' =>
        cases h
        obtain ⟨v, h1, h2⟩ := j.val i d e
        exact ⟨v, h1, h2.mono x⟩
      | own ds =>
        cases h
        obtain ⟨a, ws, h1, h2, h3, h4, h5⟩ := j.own i ds e
        refine ⟨_, h1, .lst (sq_of ?_) (h5.mono x)⟩
        show (if B a then H a else G a) = _
        rw [if_pos ⟨i, ds, e, h1⟩]
        exact h2
  · unfold Pd.thaw at h
    rw [List.getElem?_map] at h
    cases e : ρ[i]? with
    | none => rw [e] at h; cases h
    | some s =>
      rw [e] at h
      cases s with
      | pool => exact j.pol i e
      | _ => cases h
  · unfold Pd.thaw at h
    rw [List.getElem?_map] at h
    cases e : ρ[i]? with
    | none => rw [e] at h; cases h
    | some s => rw [e] at h; cases s <;> cases h
  · unfold Pd.thaw at h1
    rw [List.getElem?_map] at h1
    cases e : ρ[i]? with
    | none => rw [e] at h1; cases h1
    | some s => rw [e] at h1; cases s <;> cases h1
/-- a statement run with the own lists as data (they cannot grow behind it) -/
def sThaw (f : Ms) : Ms := fun ρ m => f (thaw ρ) m
theorem pd_thaw {st : Stmt} {f : Ms} (h : PS X st (tS c f)) : PS X st (tS c (sThaw f)) := by
  refine PS.imp h fun D' σ H q => ?_
  obtain ⟨G, ρ, m, j, q⟩ := q
  obtain ⟨G', x, j'⟩ := j.thaw
  exact tS_more x j' q
/-- back to the own lists behind an expression with a flat value -/
theorem J.back {G H G1 H1 : Hp} {σ : L2.St} {ρ : En} {m m1 : List D} (j : J c G H σ ρ m) (k : ∀ a o, H a = some o → c.P ≠ some a → H1 a = some o) (j1 : J0 c G1 H1 m1) (hm : m1.all D.flat = true) : J c G H1 σ ρ m1 := by
  have flat : ∀ {ws : List V} {ds : List D}, RpL c.K G1 ws ds → ds.all D.flat = true → RpL c.K G ws ds := by
    intro ws ds r
    induction ds generalizing ws with
    | nil => intro _; cases r; exact .nil
    | cons d ds ih =>
      intro f
      rw [List.all_cons, Bool.and_eq_true] at f
      cases r with
      | cons h r =>
        refine .cons ?_ (ih r f.2)
        cases h <;> first | exact .non | exact .bl _ | exact .int _ | exact .str _ | cases f.1
  refine ⟨⟨fun a o h => k a o (j.z.ex a o h) (fun e => by rw [j.z.pG e] at h; cases h), j.z.le, j.z.fr, j1.kp, fun p e => ?_⟩, j.val, j.pol, fun i ds h => ?_, j.dis, j.len⟩
  · obtain ⟨h0, g, _⟩ := j.z.pl p e
    obtain ⟨_, _, ws, h1, h2⟩ := j1.pl p e
    exact ⟨h0, g, ws, h1, flat h2 hm⟩
  · obtain ⟨a, ws, e1, e2, e3, e4, e5⟩ := j.own i ds h
    refine ⟨a, ws, e1, k a _ e2 (fun e => ?_), e3, e4, e5⟩
    obtain ⟨⟨o, h0⟩, _⟩ := j.z.pl a e
    rw [e4] at h0; cases h0
/-- an expression over the own lists as data, its value flat -/
def mBor (f : Me Vl) : Me Vl := fun ρ m => match f (thaw ρ) m with
  | .ok (.dat d) m' => if d.flat && m'.all D.flat then .ok (.dat d) m' else .stuck
  | _ => .stuck
theorem Rp.flatG {K : Fg} {G G' : Hp} {v : V} {d : D} (h : Rp K G v d) (f : d.flat = true) : Rp K G' v d := by
  cases h <;> first | exact .non | exact .bl _ | exact .int _ | exact .str _ | cases f
theorem pd_bor {e : Expr} {f : Me Vl} (h : PE X e (tE c f)) : PE X e (tE c (mBor f)) := by
  refine PE.imp h fun σ H Q q => ?_
  obtain ⟨G, ρ, m, x, m', j, e, q⟩ := tE_cases q
  unfold mBor at e
  split at e
  · rename_i d m1 ea
    split at e
    · rename_i hf
      cases e
      rw [Bool.and_eq_true] at hf
      obtain ⟨G', x', j'⟩ := j.thaw
      exact tE_ok j' ea fun v G1 H1 x1 j1 r1 => q v G H1 ⟨Ex.refl G, x1.kp, x1.dm, fun _ _ h => .inl h⟩ (j.back x1.kp j1.z hf.2) (Rp.flatG r1 hf.1)
    · cases e
  · cases e
def mBorB (f : Me Bool) : Me Bool := fun ρ m => match f (thaw ρ) m with
  | .ok b m' => if m'.all D.flat then .ok b m' else .stuck
  | _ => .stuck
theorem pd_borT {e : Expr} {f : Me Bool} (h : PT X e (tB c f)) : PT X e (tB c (mBorB f)) := by
  refine PT.imp h fun σ H Q q => ?_
  obtain ⟨G, ρ, m, x, m', j, e, q⟩ := tB_cases q
  unfold mBorB at e
  split at e
  · rename_i b m1 ea
    split at e
    · rename_i hf
      cases e
      obtain ⟨G', x', j'⟩ := j.thaw
      exact tB_ok j' ea fun G1 H1 x1 j1 => q G H1 ⟨Ex.refl G, x1.kp, x1.dm, fun _ _ h => .inl h⟩ (j.back x1.kp j1.z hf)
    · cases e
  · cases e
end
end Pd

set_option Elab.async false
set_option linter.all false
set_option maxRecDepth 100000
set_option maxHeartbeats 4000000
/-! promises of defs that are called while nothing is being shown (repr), so that repr of data can be walked -/
namespace Pd
open PySem L2 PySem.Spec PyProof.Rows
structure FnG (P : Program) (w : World) (K : PySem.W.Frag) (mg : Str → Option Value) (base : Heap) (k : Nat) (f : Addr) (fd : FuncData) (ps : List Str) (sp : Sp) : Prop where
  len : ∀ vs H Q E, sp vs H Q E → vs.length = ps.length
  run : ∀ A outer s H args us vs Q E, Rm k A → Env0 P w K mg base A outer s H → BindsTo s fd args (ps.zip us) → Vals vs us → sp vs H Q E → codeAny (model P w) A (.call (.ref f) args) (CR CX0 outer P w H s Q E) s
theorem FnG.imp {P : Program} {w : World} {K : PySem.W.Frag} {mg : Str → Option Value} {base : Heap} {k : Nat} {f : Addr} {fd : FuncData} {ps : List Str} {sp sp' : Sp} (F : FnG P w K mg base k f fd ps sp) (h : ∀ vs H Q E, sp' vs H Q E → sp vs H Q E) : FnG P w K mg base k f fd ps sp' where
  len vs H Q E q := F.len vs H Q E (h vs H Q E q)
  run A outer s H args us vs Q E r e b v q := F.run A outer s H args us vs Q E r e b v (h vs H Q E q)
section
variable {X : Cx} {k : Nat} {f C : Addr} {fd : FuncData} {ps : List Str} {sp : Sp} {pins : List (Addr × Obj)} {σ : L2.St} {H : Hp} {s : Shared} {Q : VK}
theorem run_g {us ds : List Value} {vs dvs : List V} (F : FnG X.prog X.w X.K X.mg X.base k f fd ps sp) (hr : Rm k X.A) (hb : Binds X.K fd ps ds) (hd : Vals dvs ds) (I : L2.Inv X pins σ H s) (r : Vals vs us) (h : sp (vs ++ dvs) H Q E0) :
    wpAny (model X.prog X.w) X.A (call (.ref f) us) (EP X pins σ Q) X.xe s := by
  have both : Vals (vs ++ dvs) (us ++ ds) := r.append hd
  have many : (us ++ ds).length = ps.length := both.length.symm.trans (F.len _ _ _ _ h)
  refine wpAny_call ?_
  refine codeAny_mono (F.run X.A X.stack s H ⟨us, []⟩ _ _ Q E0 hr I.env0 (hb s us I.kIn many) both h) fun z s' q => ?_
  match z, q with
  | .error e, q => exact q.elim
  | .ok (.ret u), q => exact I.after q
theorem run_gk {n : Nat} {ks : List Str} {g : List Value → List Value → List Value} {gV : List V → List V → List V} {us ws : List Value} {vs zs : List V} (F : FnG X.prog X.w X.K X.mg X.base k f fd ps sp) (hr : Rm k X.A) (hb : KBn X.K fd ps n ks g gV)
    (I : L2.Inv X pins σ H s) (r : Vals vs us) (rz : Vals zs ws) (l1 : vs.length = n) (l2 : zs.length = ks.length) (h : sp (gV vs zs) H Q E0) : wpAny (model X.prog X.w) X.A (call (.ref f) us (ks.zip ws)) (EP X pins σ Q) X.xe s := by
  have n1 : us.length = n := r.length.symm.trans l1
  have n2 : ws.length = ks.length := rz.length.symm.trans l2
  refine wpAny_call ?_
  refine codeAny_mono (F.run X.A X.stack s H ⟨us, ks.zip ws⟩ _ _ Q E0 hr I.env0 (hb.to s us ws I.kIn n1 n2) (hb.rel r rz) h) fun z s' q => ?_
  match z, q with
  | .error e, q => exact q.elim
  | .ok (.ret u), q => exact I.after q
theorem ge_call {x : Str} {p pos : Pos} {e : Expr} {es : List Expr} {t : TA} {ds : List Value} {dvs : List V} (F : FnG X.prog X.w X.K X.mg X.base k f fd ps sp) (hr : Rm k X.A) (hg : Gl X x) (hm : X.mg x = some (.ref f)) (hk : PySem.W.keepIn X.K (.ref f) = true) (hb : Binds X.K fd ps ds) (hd : Vals dvs ds)
    (ha : PA X (e :: es) t) (hdb : (x == ("__debug__" : Str)) = false) (he : starEach (e :: es) X.env = (false, eval e X.env) :: starEach es X.env) (hpl : (backTo pos (starEach es X.env)).any (·.1) = false) :
    PE X (.Call (.Name x p) (e :: es) [] pos) (tCall sp dvs E0 t) where
  run pins s σ H Q I h := by
    have args := ha.run pos pins s σ H _ I h
    refine wpAny_Call_Name_kw (ld_glob I hg hm (PySem.W.callWith_K (h₀ := X.base) I.ok.mod.kin hk (thn args ?_) he hpl) hdb)
    intro us s1 ⟨vs, H1, I1, r, q⟩
    exact ⟨I1.kIn, run_g F hr hb hd I1 r q⟩
/-- an object is made -/
theorem run_gm {us ds : List Value} {vs dvs : List V} (M : Mk X.K C f) (F : FnG X.prog X.w X.K X.mg X.base k f fd ps sp) (hr : Rm (k + 1) X.A) (hb : Binds X.K fd ps ds) (hd : Vals dvs ds) (I : L2.Inv X pins σ H s) (r : Vals vs us)
    (h : ∀ x dx, H x = none → H dx = none → dx ≠ x → sp (.ref x :: (vs ++ dvs)) (upd (upd H dx (.own x)) x (.ins C dx [])) (fun v H2 => v = .non ∧ Q (.ref x) H2) E0) : wpAny (model X.prog X.w) X.A (call (.ref C) us) (EP X pins σ Q) X.xe s := by
  have made := Inv.made (C := C) I
  have free : ∀ n, s.heap.objs.size ≤ n → H n = none := fun n hn => I.hok.fresh hn
  have q0 := h (s.heap.objs.size + 1) s.heap.objs.size (free _ (Nat.le_succ _)) (free _ (Nat.le_refl _)) (Nat.ne_of_lt (Nat.lt_succ_self _))
  have both : Vals (V.ref (s.heap.objs.size + 1) :: (vs ++ dvs)) (Value.ref (s.heap.objs.size + 1) :: (us ++ ds)) := .cons rfl (r.append hd)
  have many : (Value.ref (s.heap.objs.size + 1) :: us ++ ds).length = ps.length := by
    have l1 := F.len _ _ _ _ q0
    have l2 := both.length
    rw [l1] at l2
    exact l2.symm
  have rm : Rm k (X.A.under (.builtin "type.__call__" ⟨.ref C :: us, []⟩)) := ⟨hr.r.make C us [], hr.g⟩
  refine wpAny_call (make_map (f := f) I.kIn M.makes M.init (beq_iff_eq.mp M.fn) (codeAny_mono (F.run _ X.stack _ _ ⟨_ :: us, []⟩ _ _ _ E0 rm (made.env0.make C us []) (hb _ (_ :: us) made.kIn many) both q0) ?_))
  intro z s' q
  match z, q with
  | .error e, q => exact q.elim
  | .ok (.ret u), q =>
    obtain ⟨v, H', I3, rv, ev, q3⟩ := made.after q
    subst ev
    exact ⟨rv, V.ref _, H', I3, rfl, q3⟩
end
/-- a def by its body -/
theorem fn_g {P : Program} {w : World} {K : PySem.W.Frag} {mg : Str → Option Value} {base : Heap} {x qual : Str} {st : Stmt} {f : Addr} {oc dV kV doc pm cdv ct : Value} {od an : Option Addr} {osl : Array (Option Value)} {N ps : List Str} {k : Nat} {sp : Sp}
    (lk : K.lookup f = some ⟨oc, od, .func (PySem.W.fnOf x qual (defArgs st) (defBody st) (defScope st) dV kV doc pm an cdv ct), osl⟩) (hcd : PySem.W.codeIn K cdv qual = true) (S : FnScope N ps (defScope st)) (len : ∀ vs H Q E, sp vs H Q E → vs.length = ps.length)
    (body : ∀ (A : Around) (outer : List Env) (s : Shared) (H : Hp) (vs : List V) (Q : VK) (E : XK), Rm k (A.deeper (envOfC qual (defScope st) s.heap.objs.size f cdv)) → sp vs H Q E →
      ∃ t, PSs (cxOf CX0 P w K mg base N qual (defScope st) f cdv A outer s H E).nox (defBody st) t ∧ t { nx := fun _ H' => Q .non H', rt := Q } (start N vs) H) : FnG P w K mg base (k + 1) f (PySem.W.fnOf x qual (defArgs st) (defBody st) (defScope st) dV kV doc pm an cdv ct) ps sp where
  len := len
  run A outer s H args us vs Q E hr e0 hb r hsp := by
    have same : ∀ b o, base.get? b = some o → s.heap.get? b = some o := fun b o e => (e0.bs b o e).1
    have inK : K.In s.heap := e0.mod.kin.keeps same
    have free := e0.mod.nolimit.keeps same
    obtain ⟨t, ht, hq⟩ := body A outer s H vs Q E ⟨hr.r.deeper _, hr.g⟩ hsp
    have par : ∀ y ∈ ps.zip us, (defScope st).names.lookup y.1 = some .local ∨ ((defScope st).names.lookup y.1 = some .cell ∧ ((cellsFrom (s.heap.objs.size + 1) (defScope st).names []).lookup y.1).isSome = true) := by
      rintro ⟨n, v⟩ hy
      have := S.par n (List.of_mem_zip hy).1
      exact this.imp id fun q => ⟨q, PySem.W.cellsFrom_some _ _ _ (.inl q)⟩
    have out : ∀ {σ' : L2.St} {H' : Hp} {v : V} {u : Value} {s' : Shared}, L2.Inv (cxOf CX0 P w K mg base N qual (defScope st) f cdv A outer s H E) [] σ' H' s' → RelV v u → Q v H' → CE outer P w H s Q u s' := fun J rv q => ⟨_, _, J.os, J.bare, J.base, J.hok, rv, q⟩
    refine codeAny_call_function hr.r.depth (inK _ _ lk) rfl S.co S.gen rfl (PySem.W.codeRec_of inK hcd) (hb _ _ _ _ (wpAny_newFunctionEnv_cells S.kind par ?_))
    intro env he s1 x
    subst he
    refine ⟨free.keeps x.toInCall.keep, codeAny_func (wpAny_mono (ht.nox.run [] s1 (start N vs) H _ (inv_start S hr.r.hd e0 (len _ _ _ _ hsp) r x) hq) ?_ fun e s' q => q)⟩
    intro fl s' q
    match fl, q with
    | .ret u, ⟨v, σ', H', J, rv, q⟩ => exact out J rv q
    | .next, ⟨σ', H', J, q⟩ => exact out (v := V.non) (u := Value.none) J rfl q
    | .brk, ⟨_, _, _, q⟩ => exact q.elim
    | .cont, ⟨_, _, _, q⟩ => exact q.elim
theorem Fun.okG {P : Program} {w : World} {K : PySem.W.Frag} {mg : Str → Option Value} {base : Heap} {x qual : Str} {st : Stmt} {f : Addr} {fd : FuncData} {N ps : List Str} {k : Nat} {sp : Sp} (F : Fun K x qual st f fd) (S : FnScope N ps (defScope st)) (len : ∀ vs H Q E, sp vs H Q E → vs.length = ps.length)
    (body : ∀ (cdv : Value) (A : Around) (outer : List Env) (s : Shared) (H : Hp) (vs : List V) (Q : VK) (E : XK), Rm k (A.deeper (envOfC qual (defScope st) s.heap.objs.size f cdv)) → sp vs H Q E →
      ∃ t, PSs (cxOf CX0 P w K mg base N qual (defScope st) f cdv A outer s H E).nox (defBody st) t ∧ t { nx := fun _ H' => Q .non H', rt := Q } (start N vs) H) : FnG P w K mg base (k + 1) f fd ps sp := by
  obtain ⟨oc, od, kV, doc, pm, an, cdv, ct, osl, rfl, lk, hcd⟩ := F.ex
  exact fn_g lk hcd S len (body cdv)
section
variable {X : Cx} {k : Nat} {f C p g a dx : Addr} {fd : FuncData} {ps : List Str} {sp : Sp} {dvs : List V} {ds : List Value}
theorem ge_meth0 {o : Expr} {m : Str} {apos pos : Pos} {ta : TE} {pl : Sem Bool} (he : PE X o ta) (c : Cls X.K C) (hm : Meth X.K C m f) (F : FnG X.prog X.w X.K X.mg X.base k f fd ps sp) (hr : Rm k X.A) (hb : Binds X.K fd ps ds) (hd : Vals dvs ds)
    (ht : eval (.Call (.Attribute o m apos) [] [] pos) X.env = (do
      let ov ← eval o X.env; standAt apos.atName; let (f, first) ← holding [ov] (getMethod ov m pl); callWith pos f first (backTo pos (starEach [] X.env)) (backToKw pos (keywordEach [] X.env)))) :
    PE X (.Call (.Attribute o m apos) [] [] pos) (tMeth C m sp dvs E0 ta tNil) where
  run pins s σ H Q I h := by
    refine PySem.W.methodCall_KW (pl := pl) (thn (he.run pins s σ H _ I h) ?_) ht
    rintro u s1 ⟨x, H1, I1, rx, b, dx, fs, rfl, eb, l, q⟩
    cases (show u = Value.ref b from rx)
    exact getmeth_ok I1 eb c hm l (PySem.W.callWith_K0 (first := [.ref b]) I1.kIn hm.kp (run_g (us := [.ref b]) (vs := [.ref b]) F hr hb hd I1 (.cons rfl .nil) q))
theorem ge_make {x : Str} {pp pos : Pos} {e : Expr} {es : List Expr} {t : TA} (M : Mk X.K C f) (F : FnG X.prog X.w X.K X.mg X.base k f fd ps sp) (hr : Rm (k + 1) X.A) (hg : Gl X x) (hm : X.mg x = some (.ref C)) (hb : Binds X.K fd ps ds) (hd : Vals dvs ds)
    (ha : PA X (e :: es) t) (hdb : (x == ("__debug__" : Str)) = false) (he : starEach (e :: es) X.env = (false, eval e X.env) :: starEach es X.env) (hpl : (backTo pos (starEach es X.env)).any (·.1) = false) :
    PE X (.Call (.Name x pp) (e :: es) [] pos) (tMake C sp dvs E0 t) where
  run pins s σ H Q I h := by
    have args := ha.run pos pins s σ H _ I h
    refine wpAny_Call_Name_kw (ld_glob I hg hm (PySem.W.callWith_K (h₀ := X.base) I.ok.mod.kin M.kp (thn args ?_) he hpl) hdb)
    intro us s1 ⟨vs, H1, I1, r, q⟩
    exact ⟨I1.kIn, run_gm M F hr hb hd I1 r q⟩
theorem ge_prop {e : Expr} {n : Str} {pos : Pos} {ta : TE} (he : PE X e ta) (c : Cls X.K C) (hp : PropOf X.K C n p g) (F : FnG X.prog X.w X.K X.mg X.base k g fd ps sp) (hr : Rm (k + 1) X.A) (hb : Binds X.K fd ps ds) (hd : Vals dvs ds)
    (hab : attributeBase e n X.env (eval e X.env) = eval e X.env) : PE X (.Attribute e n pos) (tProp C sp dvs E0 ta) where
  run pins s σ H Q I h := by
    refine attr_of hab (thn (he.run pins s σ H _ I h) ?_)
    rintro u s1 ⟨x, H1, I1, rx, b, dx, fs, rfl, eb, q⟩
    cases (show u = Value.ref b from rx)
    have ⟨mA, O, _⟩ := ins_get I1.hok eb
    have ⟨od, J, _⟩ := O.look
    have ⟨rest, hrec⟩ := hp.rec_
    have I2 := I1.tok (s1.toks + 1)
    have many : ([Value.ref b] ++ ds).length = ps.length := by
      have := F.len _ _ _ _ q
      rw [List.length_cons, hd.length] at this
      rw [← this, List.length_append, List.length_singleton, Nat.add_comm]
    have isc : (PySem.W.clsIn X.K C).isSome = true := by
      have ⟨cd, hc, _⟩ := PySem.W.any_some c.hd
      rw [hc]; rfl
    have pg := PySem.W.plainGet_of (c.get n)
    refine PySem.W.get_bind I1.kIn J pg.1 (PySem.W.findObj_data isc hp.at_ hp.get hp.tak) pg.2 (wpAny_call (PySem.W.prop_get (s := { s1 with toks := s1.toks + 1 }) I1.kIn hrec ?_))
    refine codeAny_mono (F.run X.A.in1 X.stack _ H1 ⟨[.ref b], []⟩ (.ref b :: ds) (.ref b :: dvs) Q E0 ⟨hr.r.in1, hr.g⟩ I2.env0.in1 (hb _ [.ref b] I2.kIn many) (.cons rfl hd) q) ?_
    intro z s' w
    match z, w with
    | .error er, w => exact w.elim
    | .ok (.ret u), w =>
      have ⟨v, H', I3, rv, q3⟩ := I2.after w
      show wpAny _ _ (handedOut u) _ _ _
      rw [PySem.W.handedOut_of (handed_of rv)]
      exact wpAny_pure ⟨v, H', I3, rv, q3⟩
end
end Pd

set_option Elab.async false
set_option linter.all false
set_option maxRecDepth 100000
set_option maxHeartbeats 4000000
namespace Pd
open PySem L2
section
variable {X : Cx} {c : Ct}
/-! ### what a def promises -/
abbrev Fn := List Vl → List D → Ou D
def spF (K : Fg) (f : Fn) : Sp := fun vs H Q _ => ∃ (c : Ct) (m : List D) (as : List Vl), c.K = K ∧ c.H0 = H ∧ J0 c c.G0 H m ∧ RpVs c c.G0 vs as ∧ match f as m with
  | .stuck => False
  | .ok d m' => ∀ v G' H', J0 c G' H' m' → Rp K G' v d → Q v H'
theorem spF_imp {K : Fg} {f g : Fn} (h : ∀ as m d m', f as m = .ok d m' → g as m = .ok d m') : ∀ vs H Q E, spF K f vs H Q E → spF K g vs H Q E := by
  rintro vs H Q E ⟨c, m, as, h1, h2, h3, h4, q⟩
  refine ⟨c, m, as, h1, h2, h3, h4, ?_⟩
  cases e : f as m with
  | stuck => rw [e] at q; exact q.elim
  | ok d m' => rw [e] at q; rw [h as m d m' e]; exact q
/-- the callee's context -/
def Ct.at (c : Ct) (G H : Hp) : Ct := ⟨c.K, H, G, c.P⟩
theorem J.enter {G H : Hp} {σ : L2.St} {ρ : En} {m : List D} (j : J c G H σ ρ m) : J0 (c.at G H) G H m :=
  ⟨j.z.ex, Ex.refl G, fun a o h => .inl h, fun a o h _ => h, fun p e => by
    obtain ⟨_, _, ws, h1, h2⟩ := j.z.pl p e
    exact ⟨⟨_, h1⟩, j.z.pG e, ws, h1, h2⟩⟩
theorem J.leave {G H G' H' : Hp} {σ : L2.St} {ρ : En} {m m' : List D} (j : J c G H σ ρ m) (k : J0 (c.at G H) G' H' m') : J c G' H' σ ρ m' ∧ Mv c G H G' H' := by
  have ke : ∀ a o, H a = some o → c.P ≠ some a → H' a = some o := fun a o h n => k.kp a o h n
  refine ⟨⟨⟨k.ex, j.z.le.trans k.le, fun a o h => ?_, fun a o h n => ke a o (j.z.kp a o h n) n, fun p e => ?_⟩, fun i d h => ?_, j.pol, fun i ds h => ?_, j.dis, j.len⟩, ⟨k.le, ke, fun a h => ?_, k.fr⟩⟩
  · rcases k.fr a o h with h | h
    · exact j.z.fr a o h
    · exact .inr (j.h0 h)
  · obtain ⟨h0, g, _⟩ := j.z.pl p e
    obtain ⟨_, _, ws, h1, h2⟩ := k.pl p e
    exact ⟨h0, g, ws, h1, h2⟩
  · obtain ⟨v, h1, h2⟩ := j.val i d h
    exact ⟨v, h1, h2.mono k.le⟩
  · obtain ⟨a, ws, e1, e2, e3, e4, e5⟩ := j.own i ds h
    refine ⟨a, ws, e1, ke a _ e2 (fun e => ?_), ?_, e4, e5.mono k.le⟩
    · obtain ⟨⟨o, h0⟩, _⟩ := j.z.pl a e
      rw [e4] at h0; cases h0
    · cases q : G' a with
      | none => rfl
      | some o =>
        rcases k.fr a o q with h | h
        · rw [show (c.at G H).G0 = G from rfl, e3] at h; cases h
        · rw [show (c.at G H).H0 = H from rfl, e2] at h; cases h
  · cases q : H a with
    | none => rfl
    | some o =>
      by_cases e : c.P = some a
      · obtain ⟨_, _, ws, h1, _⟩ := k.pl a e
        rw [h] at h1; cases h1
      · have := ke a o q e
        rw [h] at this; cases this
theorem RpV.at {G H : Hp} {v : V} {x : Vl} (h : RpV c G v x) : RpV (c.at G H) G v x := by
  cases x with
  | dat d => exact h
  | pool => exact h
theorem RpVs.at {G H : Hp} : ∀ {vs : List V} {xs : List Vl}, RpVs c G vs xs → RpVs (c.at G H) G vs xs
  | _, _, .nil => .nil
  | _, _, .cons h r => .cons h.at r.at
/-- the promise is kept from within a body -/
theorem J.sp {G H : Hp} {σ : L2.St} {ρ : En} {m m' : List D} (j : J c G H σ ρ m) {f : Fn} {vs : List V} {as : List Vl} {d : D} (r : RpVs c G vs as) (e : f as m = .ok d m') {Q : VK} {E : XK}
    (q : ∀ v G' H', Mv c G H G' H' → J c G' H' σ ρ m' → Rp c.K G' v d → Q v H') : spF c.K f vs H Q E := by
  refine ⟨c.at G H, m, as, rfl, rfl, j.enter, r.at, ?_⟩
  rw [e]
  intro v G' H' k rv
  obtain ⟨j', ke⟩ := j.leave k
  exact q v G' H' ke j' rv
def mCall (f : Fn) (g : Me (List Vl)) (ds : List Vl := []) : Me Vl := fun ρ m => (g ρ m).bind fun as m1 => (f (as ++ ds) m1).bind fun d m2 => .ok (.dat d) m2
theorem mCall_ok {f : Fn} {g : Me (List Vl)} {ds : List Vl} {ρ : En} {m m' : List D} {x : Vl} (h : mCall f g ds ρ m = .ok x m') : ∃ as m1 d, g ρ m = .ok as m1 ∧ f (as ++ ds) m1 = .ok d m' ∧ x = .dat d := by
  unfold mCall at h
  cases ea : g ρ m with
  | stuck => simp only [ea, Ou.bind] at h; cases h
  | ok as m1 =>
    simp only [ea, Ou.bind] at h
    cases eb : f (as ++ ds) m1 with
    | stuck => simp only [eb] at h; cases h
    | ok d m2 => simp only [eb] at h; cases h; exact ⟨as, m1, d, rfl, eb, rfl⟩
/-- a def of the program: where it stands, what it computes -/
structure Df (P : Program) (w : World) (K : Fg) (mg : Str → Option Value) (base : Heap) (k : Nat) (x : Str) (n : Nat) (f : Fn) : Prop where
  ex : ∃ (a : Addr) (fd : FuncData) (ps : List Str), mg x = some (.ref a) ∧ PySem.W.keepIn K (.ref a) = true ∧ Binds K fd ps [] ∧ ps.length = n ∧ FnG P w K mg base k a fd ps (spF K f)
theorem call_imp {f : Fn} {g : Me (List Vl)} {ds : List Vl} {dvs : List V} {E : XK} (hd : ∀ G, RpVs c G dvs ds) (σ : L2.St) (H : Hp) (Q : VK) (q : tE c (mCall f g ds) σ H Q) : tCall (spF c.K f) dvs E (tAs c g) σ H Q := by
  obtain ⟨G, ρ, m, x, m', j, e, q⟩ := tE_cases q
  obtain ⟨as, m1, d, ea, ef, rfl⟩ := mCall_ok e
  refine tAs_ok j ea fun vs G1 H1 x1 j1 r1 => ?_
  exact j1.sp (r1.append (hd G1)) ef fun v G' H' x2 j2 r2 => q v G' H' (x1.trans x2) j2 r2
theorem pd_call {k j n : Nat} {x : Str} {f : Fn} {p pos : Pos} {e : Expr} {es : List Expr} {g : Me (List Vl)} (F : Df X.prog X.w X.K X.mg X.base k x n f) (hK : X.K = c.K) (hr : Rm j X.A) (hk : k ≤ j) (hg : Gl X x) (ha : PA X (e :: es) (tAs c g))
    (hdb : (x == ("__debug__" : Str)) = false := by decide) (he : starEach (e :: es) X.env = (false, eval e X.env) :: starEach es X.env := by rfl) (hpl : (backTo pos (starEach es X.env)).any (·.1) = false := by rfl) : PE X (.Call (.Name x p) (e :: es) [] pos) (tE c (mCall f g)) := by
  obtain ⟨a, fd, ps, h1, h2, h3, h4, h5⟩ := F.ex
  have h6 := ge_call h5 (hr.mono hk) hg h1 h2 h3 .nil ha hdb he hpl (p := p)
  refine PE.imp h6 fun σ H Q q => ?_
  have := call_imp (E := E0) (dvs := []) (ds := []) (fun G => RpVs.nil) σ H Q q
  rw [← hK] at this
  exact this
/-! ### a def by its body -/
def Sl.of : Vl → Sl
  | .dat d => .val d
  | .pool => .pool
def startE (n : Nat) (as : List Vl) : En := as.map Sl.of ++ List.replicate (n - as.length) .emp
/-- the function of a body's meaning: np parameters, n slots -/
def runF (np n : Nat) (f : Ms) : Fn := fun as m => if as.length = np then (match f (startE n as) m with
  | .rt d m' => .ok d m'
  | .nx _ m' => .ok .non m'
  | _ => .stuck) else .stuck
theorem RpVs.getD {G : Hp} : ∀ {vs : List V} {xs : List Vl} {i : Nat} {x : Vl}, RpVs c G vs xs → xs[i]? = some x → ∃ v, vs[i]? = some v ∧ RpV c G v x
  | _, _, _, _, .nil, e => by simp at e
  | _, _, 0, _, .cons h _, e => by simp at e; subst e; exact ⟨_, rfl, h⟩
  | _, _, i + 1, x, .cons _ r, e => by
    obtain ⟨v, h1, h2⟩ := RpVs.getD (i := i) (x := x) r (by simpa using e)
    exact ⟨v, by simpa using h1, h2⟩
theorem J.begin {N : List Str} {vs : List V} {as : List Vl} {m : List D} (j : J0 c c.G0 c.H0 m) (r : RpVs c c.G0 vs as) (hN : vs.length ≤ N.length) : J c c.G0 c.H0 (L2.start N vs) (startE N.length as) m := by
  have hl := r.length
  have key : ∀ (i : Nat) (s : Sl), (startE N.length as)[i]? = some s → s ≠ .emp → ∃ x v, s = Sl.of x ∧ RpV c c.G0 v x ∧ (L2.start N vs)[i]? = some (some v) := by
    intro i s h hs
    unfold startE at h
    by_cases hi : i < as.length
    · rw [List.getElem?_append_left (by simpa using hi), List.getElem?_map] at h
      cases e : as[i]? with
      | none => rw [e] at h; cases h
      | some x =>
        rw [e] at h; cases h
        obtain ⟨v, h1, h2⟩ := r.getD e
        refine ⟨x, v, rfl, h2, ?_⟩
        unfold L2.start
        rw [List.getElem?_append_left (by rw [List.length_map, hl]; exact hi), List.getElem?_map, h1]
        rfl
    · rw [List.getElem?_append_right (by simpa using hi), List.getElem?_replicate] at h
      split at h
      · cases h; exact absurd rfl hs
      · cases h
  refine ⟨j, fun i d h => ?_, fun i h => ?_, fun i ds h => ?_, fun i k ds es a h => ?_, ?_⟩
  · obtain ⟨x, v, e, rv, hv⟩ := key i _ h (by intro z; cases z)
    cases x with
    | dat d' => cases e; exact ⟨v, hv, rv⟩
    | pool => cases e
  · obtain ⟨x, v, e, rv, hv⟩ := key i _ h (by intro z; cases z)
    cases x with
    | dat d' => cases e
    | pool => obtain ⟨p, h1, rfl⟩ := rv; exact ⟨p, h1, hv⟩
  · obtain ⟨x, v, e, rv, hv⟩ := key i _ h (by intro z; cases z)
    cases x <;> cases e
  · obtain ⟨x, v, e, rv, hv⟩ := key i _ h (by intro z; cases z)
    cases x <;> cases e
  · unfold startE L2.start
    rw [List.length_append, List.length_append, List.length_map, List.length_map, List.length_replicate, List.length_replicate, hl]
theorem fn_pd {P : Program} {w : World} {K : Fg} {mg : Str → Option Value} {base : Heap} {x qual : Str} {st : Stmt} {a : Addr} {fd : FuncData} {N ps : List Str} {k : Nat} {sem : Ms} (F : Fun K x qual st a fd) (S : FnScope N ps (defScope st))
    (body : ∀ (cdv : Value) (A : Around) (outer : List Env) (s : Shared) (E : XK) (c : Ct), c.K = K → Rm k (A.deeper (PyProof.Rows.envOfC qual (defScope st) s.heap.objs.size a cdv)) →
      PSs (cxOf CX0 P w K mg base N qual (defScope st) a cdv A outer s c.H0 E).nox (defBody st) (tS c sem)) : FnG P w K mg base (k + 1) a fd ps (spF K (runF ps.length N.length sem)) := by
  have hpl : ps.length ≤ N.length := by have := congrArg List.length S.pre; rw [List.length_take] at this; omega
  refine Fun.okG F S (fun vs H Q E h => ?_) (fun cdv A outer s H vs Q E hr h => ?_)
  · obtain ⟨c, m, as, _, _, _, r, q⟩ := h
    unfold runF at q
    split at q
    · exact q.elim
    · rename_i d m' e
      split at e
      · rw [r.length]; assumption
      · cases e
  · obtain ⟨c, m, as, rfl, rfl, j, r, q⟩ := h
    refine ⟨_, body cdv A outer s E c rfl hr, ?_⟩
    unfold runF at q
    by_cases hl : as.length = ps.length
    · rw [if_pos hl] at q
      have j1 := J.begin (N := N) j r (by rw [r.length, hl]; exact hpl)
      refine ⟨c.G0, _, m, j1, ?_⟩
      cases e : sem (startE N.length as) m with
      | stuck => rw [e] at q; exact q.elim
      | rt d m' => rw [e] at q; exact q
      | nx ρ' m' => rw [e] at q; exact fun σ' G' H' _ j2 => q .non G' H' j2.z .non
      | bk ρ' m' => rw [e] at q; exact q.elim
      | ct ρ' m' => rw [e] at q; exact q.elim
    · rw [if_neg hl] at q; exact q.elim
end
end Pd

set_option Elab.async false
set_option linter.all false
set_option maxRecDepth 100000
set_option maxHeartbeats 4000000
namespace Pd
open PySem L2
section
variable {X : Cx} {c : Ct}
/-! ### one own list becomes data -/
theorem J.thaw1 {G H : Hp} {σ : L2.St} {ρ : En} {m : List D} (j : J c G H σ ρ m) {i : Nat} {ds : List D} (h : ρ[i]? = some (.own ds)) : ∃ G', Ex G G' ∧ J c G' H σ (ρ.set i (.val (.lst ds))) m := by
  obtain ⟨a, ws, h1, h2, h3, h4, h5⟩ := j.own i ds h
  have hl : i < ρ.length := (List.getElem?_eq_some_iff.mp h).1
  have x := Ex.new (o := .lst ws) h3
  have out : ∀ {k : Nat} {s : Sl}, (ρ.set i (.val (.lst ds)))[k]? = some s → (i = k ∧ s = .val (.lst ds)) ∨ (i ≠ k ∧ ρ[k]? = some s) := by
    intro k s h
    by_cases hk : i = k
    · subst hk
      rw [List.getElem?_set_self hl] at h; cases h; exact .inl ⟨rfl, rfl⟩
    · rw [List.getElem?_set_ne hk] at h
      exact .inr ⟨hk, h⟩
  refine ⟨upd G a (.lst ws), x, ⟨⟨fun b o e => ?_, j.z.le.trans x, fun b o e => ?_, j.z.kp, fun p e => ?_⟩, fun k d q => ?_, fun k q => ?_, fun k es q => ?_, fun k l es fs b q1 q2 q3 q4 => ?_, by rw [List.length_set]; exact j.len⟩⟩
  · by_cases hb : b = a
    · subst hb; rw [upd_same] at e; cases e; exact h2
    · rw [upd_ne hb] at e; exact j.z.ex b o e
  · by_cases hb : b = a
    · subst hb; exact .inr h4
    · rw [upd_ne hb] at e; exact j.z.fr b o e
  · obtain ⟨h0, g, ws', e1, e2⟩ := j.z.pl p e
    exact ⟨h0, g, ws', e1, e2.mono x⟩
  · rcases out q with ⟨rfl, q'⟩ | ⟨n, q'⟩
    · cases q'
      exact ⟨_, h1, .lst (sq_of upd_same) (h5.mono x)⟩
    · obtain ⟨v, e1, e2⟩ := j.val k d q'
      exact ⟨v, e1, e2.mono x⟩
  · rcases out q with ⟨rfl, q'⟩ | ⟨n, q'⟩
    · cases q'
    · exact j.pol k q'
  · rcases out q with ⟨rfl, q'⟩ | ⟨n, q'⟩
    · cases q'
    · obtain ⟨b, vs, e1, e2, e3, e4, e5⟩ := j.own k es q'
      refine ⟨b, vs, e1, e2, ?_, e4, e5.mono x⟩
      rw [upd_ne]
      · exact e3
      · rintro rfl
        exact n (j.dis i k ds es b h q' h1 e1)
  · rcases out q1 with ⟨rfl, q⟩ | ⟨n, q1⟩
    · cases q
    · rcases out q2 with ⟨rfl, q⟩ | ⟨n, q2⟩
      · cases q
      · exact j.dis k l es fs b q1 q2 q3 q4
def sThaw1 (i : Nat) (f : Ms) : Ms := fun ρ m => match ρ[i]? with
  | some (.own ds) => f (ρ.set i (.val (.lst ds))) m
  | _ => f ρ m
theorem thaw1_imp {i : Nat} {f : Ms} {D' : Ends} {σ : L2.St} {H : Hp} (q : tS c (sThaw1 i f) D' σ H) : tS c f D' σ H := by
  obtain ⟨G, ρ, m, j, q⟩ := q
  cases e : ρ[i]? with
  | none => simp only [sThaw1, e] at q; exact ⟨G, ρ, m, j, q⟩
  | some s =>
    cases s with
    | own ds =>
      simp only [sThaw1, e] at q
      obtain ⟨G', x, j'⟩ := j.thaw1 e
      exact tS_more x j' q
    | _ => simp only [sThaw1, e] at q; exact ⟨G, ρ, m, j, q⟩
theorem pd_thaw1 (i : Nat) {st : Stmt} {f : Ms} (h : PS X st (tS c f)) : PS X st (tS c (sThaw1 i f)) := PS.imp h fun D' σ H q => thaw1_imp q
theorem pd_thaws1 (i : Nat) {st : List Stmt} {f : Ms} (h : PSs X st (tS c f)) : PSs X st (tS c (sThaw1 i f)) := PSs.imp h fun D' σ H q => thaw1_imp q

/-! ### what is walked -/
structure WkD (c : Ct) (G : Hp) (Jt : It) (ds : List D) : Prop where
  goes : ∀ i H, i < ds.length → Ex G H → Jt.go i H
  stops : ∀ H, Ex G H → Jt.stop ds.length H
  yields : ∀ i H x H', i < ds.length → Ex G H → Jt.yld i H x H' → ∃ d, ds[i]? = some d ∧ ((H' = H ∧ Rp c.K G x d) ∨ ∃ T vs us es, x = .ref T ∧ H T = none ∧ H' = upd H T (.frz (tupO us) (.tup vs)) ∧ d = .tup es ∧ RpL c.K G vs es)
/-- the item of a turn, over a state -/
theorem WkD.item {G0 G H H' : Hp} {Jt : It} {ds : List D} {σ : L2.St} {ρ : En} {m : List D} {i : Nat} {x : V} (w : WkD c G0 Jt ds) (e : Ex G0 G) (j : J c G H σ ρ m) (hi : i < ds.length) (y : Jt.yld i H x H') :
    ∃ d G', ds[i]? = some d ∧ Mv c G H G' H' ∧ J c G' H' σ ρ m ∧ Rp c.K G' x d := by
  obtain ⟨d, hd, h⟩ := w.yields i H x H' hi (e.trans j.z.ex) y
  rcases h with ⟨rfl, r⟩ | ⟨T, vs, us, es, rfl, hT, rfl, rfl, r⟩
  · exact ⟨d, G, hd, Mv.refl c G _, j, r.mono e⟩
  · exact ⟨_, _, hd, Mv.new hT (j.gn hT), j.new hT, .tup (tn_of upd_same) ((r.mono e).mono (Ex.new (j.gn hT)))⟩
def tI (c : Ct) (f : Me (List D)) : TI := fun σ H R => ∃ G ρ m, J c G H σ ρ m ∧ match f ρ m with
  | .stuck => False
  | .ok ds m' => ∀ Jt G' H', Mv c G H G' H' → J c G' H' σ ρ m' → WkD c G' Jt ds → R Jt H'
theorem PI.imp {tg e : Expr} {t t' : TI} (h : PI X tg e t) (i : ∀ σ H Q, t' σ H Q → t σ H Q) : PI X tg e t' := ⟨fun pins s σ H Q I q => h.run pins s σ H Q I (i σ H Q q)⟩
theorem tI_cases {f : Me (List D)} {σ : L2.St} {H : Hp} {R : It → Hp → Prop} (h : tI c f σ H R) : ∃ G ρ m ds m', J c G H σ ρ m ∧ f ρ m = .ok ds m' ∧ ∀ Jt G' H', Mv c G H G' H' → J c G' H' σ ρ m' → WkD c G' Jt ds → R Jt H' := by
  obtain ⟨G, ρ, m, j, q⟩ := h
  cases e : f ρ m with
  | stuck => rw [e] at q; exact q.elim
  | ok x m' => rw [e] at q; exact ⟨G, ρ, m, x, m', j, e, q⟩
theorem tI_ok {f : Me (List D)} {G H : Hp} {σ : L2.St} {ρ : En} {m m1 : List D} {ds : List D} {R : It → Hp → Prop} (j : J c G H σ ρ m) (e : f ρ m = .ok ds m1) (q : ∀ Jt G' H', Mv c G H G' H' → J c G' H' σ ρ m1 → WkD c G' Jt ds → R Jt H') : tI c f σ H R :=
  ⟨G, ρ, m, j, by rw [e]; exact q⟩
/-- a tuple | a list that is known -/
def mItT (f : Me Vl) : Me (List D) := fun ρ m => (f ρ m).bind fun x m1 => match x with
  | .dat (.tup ds) => .ok ds m1
  | _ => .stuck
def mItL (f : Me Vl) : Me (List D) := fun ρ m => (f ρ m).bind fun x m1 => match x with
  | .dat (.lst ds) => .ok ds m1
  | _ => .stuck
theorem mItT_ok {f : Me Vl} {ρ : En} {m m' : List D} {ds : List D} (h : mItT f ρ m = .ok ds m') : f ρ m = .ok (.dat (.tup ds)) m' := by
  unfold mItT at h
  cases ea : f ρ m with
  | stuck => simp only [ea, Ou.bind] at h; cases h
  | ok a m1 =>
    simp only [ea, Ou.bind] at h
    split at h
    · cases h; rfl
    · cases h
theorem mItL_ok {f : Me Vl} {ρ : En} {m m' : List D} {ds : List D} (h : mItL f ρ m = .ok ds m') : f ρ m = .ok (.dat (.lst ds)) m' := by
  unfold mItL at h
  cases ea : f ρ m with
  | stuck => simp only [ea, Ou.bind] at h; cases h
  | ok a m1 =>
    simp only [ea, Ou.bind] at h
    split at h
    · cases h; rfl
    · cases h
theorem wk_tup {G : Hp} {a : Addr} {vs : List V} {ds : List D} (s : SqT c.K G a vs) (r : RpL c.K G vs ds) : WkD c G (Itt c.K a) ds := by
  refine ⟨fun i H hi e => ?_, fun H e => ?_, fun i H x H' hi e y => ?_⟩
  · exact walk_tup.goes i H (by rw [r.length]; exact hi) (ex_t e s)
  · rw [← r.length]; exact walk_tup.stops H (ex_t e s)
  · obtain ⟨h1, h2⟩ := walk_tup.yields i H x H' (by rw [r.length]; exact hi) (ex_t e s) y
    obtain ⟨d, h3, h4⟩ := r.getV h2
    exact ⟨d, h3, .inl ⟨h1, h4⟩⟩
theorem wk_lst {G : Hp} {a : Addr} {vs : List V} {ds : List D} (s : SqL c.K G a vs) (r : RpL c.K G vs ds) : WkD c G (Itl c.K a) ds := by
  refine ⟨fun i H hi e => ?_, fun H e => ?_, fun i H x H' hi e y => ?_⟩
  · exact walk_list.goes i H (by rw [r.length]; exact hi) (ex_l e s)
  · rw [← r.length]; exact walk_list.stops H (ex_l e s)
  · obtain ⟨h1, h2⟩ := walk_list.yields i H x H' (by rw [r.length]; exact hi) (ex_l e s) y
    obtain ⟨d, h3, h4⟩ := r.getV h2
    exact ⟨d, h3, .inl ⟨h1, h4⟩⟩
theorem pi_t {tg e : Expr} {f : Me Vl} (hK : X.K = c.K) (h : PE X e (tE c f)) : PI X tg e (tI c (mItT f)) := by
  refine PI.imp (pi_tup h) fun σ H R q => ?_
  obtain ⟨G, ρ, m, ds, m', j, e, q⟩ := tI_cases q
  refine tE_ok j (mItT_ok e) fun v G1 H1 x1 j1 r1 => ?_
  obtain ⟨a, vs, rfl, s1, r1⟩ := Rp.tup_inv r1
  rw [hK]
  exact ⟨a, rfl, ⟨vs, ex_t j1.z.ex s1⟩, q _ G1 H1 x1 j1 (wk_tup s1 r1)⟩
theorem pi_l {tg e : Expr} {f : Me Vl} (hK : X.K = c.K) (h : PE X e (tE c f)) : PI X tg e (tI c (mItL f)) := by
  refine PI.imp (pi_list h) fun σ H R q => ?_
  obtain ⟨G, ρ, m, ds, m', j, e, q⟩ := tI_cases q
  refine tE_ok j (mItL_ok e) fun v G1 H1 x1 j1 r1 => ?_
  obtain ⟨a, vs, rfl, s1, r1⟩ := Rp.lst_inv r1
  rw [hK]
  exact ⟨a, rfl, ⟨vs, ex_l j1.z.ex s1⟩, q _ G1 H1 x1 j1 (wk_lst s1 r1)⟩
/-- a text, sign by sign -/
def signs (s : Str) : List D := s.cps.toList.map fun ch => .str ⟨#[ch]⟩
def mItS (f : Me Vl) : Me (List D) := fun ρ m => (f ρ m).bind fun x m1 => match x with
  | .dat (.str s) => .ok (signs s) m1
  | _ => .stuck
theorem wk_str {G : Hp} (s : Str) : WkD c G (Its s) (signs s) := by
  have hl : (signs s).length = s.cps.size := by unfold signs; rw [List.length_map]; simp
  refine ⟨fun i H hi e => walk_str.goes i H (by rw [← hl]; exact hi) trivial, fun H e => by rw [hl]; exact walk_str.stops H trivial, fun i H x H' hi e y => ?_⟩
  obtain ⟨h1, ch, h2, h3⟩ := walk_str.yields i H x H' (by rw [← hl]; exact hi) trivial y
  subst h3
  refine ⟨.str ⟨#[ch]⟩, ?_, .inl ⟨h1, .str _⟩⟩
  unfold signs
  rw [List.getElem?_map, Array.getElem?_toList, h2]
  rfl
theorem pi_s {tg e : Expr} {f : Me Vl} (h : PE X e (tE c f)) : PI X tg e (tI c (mItS f)) := by
  refine PI.imp (pi_str h) fun σ H R q => ?_
  obtain ⟨G, ρ, m, ds, m', j, e, q⟩ := tI_cases q
  unfold mItS at e
  cases ea : f ρ m with
  | stuck => simp only [ea, Ou.bind] at e; cases e
  | ok a m1 =>
    simp only [ea, Ou.bind] at e
    split at e
    · cases e
      refine tE_ok j ea fun v G1 H1 x1 j1 r1 => ?_
      cases Rp.str_inv r1
      exact ⟨_, rfl, q _ G1 H1 x1 j1 (wk_str _)⟩
    · cases e
/-- range(n), range(a, b) -/
def rng (lo : Int) (n : Nat) : List D := (List.range n).map fun (i : Nat) => D.int (lo + (i : Int))
def mItR (f : Me Vl) : Me (List D) := fun ρ m => (f ρ m).bind fun x m1 => match x with
  | .dat (.int n) => if -(2 ^ 62) ≤ n ∧ n < 2 ^ 62 then .ok (rng 0 n.toNat) m1 else .stuck
  | _ => .stuck
def mItR2 (f g : Me Vl) : Me (List D) := fun ρ m => (f ρ m).bind fun x m1 => (g ρ m1).bind fun y m2 => match x, y with
  | .dat (.int a), .dat (.int b) => if -(2 ^ 62) ≤ a ∧ a < 2 ^ 62 ∧ -(2 ^ 62) ≤ b ∧ b < 2 ^ 62 then .ok (rng a (b - a).toNat) m2 else .stuck
  | _, _ => .stuck
theorem wk_rng {G : Hp} (lo : Int) (n : Nat) : WkD c G (Itr lo n) (rng lo n) := by
  have hl : (rng lo n).length = n := by unfold rng; rw [List.length_map, List.length_range]
  refine ⟨fun i H hi e => by rw [hl] at hi; exact hi, fun H e => by rw [hl]; exact Nat.le_refl n, fun i H x H' hi e y => ?_⟩
  obtain ⟨h1, h2⟩ := y
  subst h2
  rw [hl] at hi
  refine ⟨.int (lo + i), ?_, .inl ⟨h1, .int _⟩⟩
  unfold rng
  rw [List.getElem?_map, List.getElem?_range hi]
  rfl
theorem pi_r1 {tg e : Expr} {p pos : Pos} {f : Me Vl} (hg : Gl X "range") (hm : X.mg "range" = none) (h : PE X e (tE c f)) (hs : starEach [e] X.env = [(false, eval e X.env)] := by rfl) : PI X tg (.Call (.Name "range" p) [e] [] pos) (tI c (mItR f)) := by
  refine PI.imp (pi_range1 hg hm (pa_cons h pa_nil hs) hs) fun σ H R q => ?_
  obtain ⟨G, ρ, m, ds, m', j, e, q⟩ := tI_cases q
  unfold mItR at e
  cases ea : f ρ m with
  | stuck => simp only [ea, Ou.bind] at e; cases e
  | ok x m1 =>
    simp only [ea, Ou.bind] at e
    refine tE_ok j ea fun v G1 H1 x1 j1 r1 => ?_
    split at e
    · split at e
      · rename_i hb
        cases e
        cases Rp.int_inv r1
        exact ⟨_, rfl, hb.1, hb.2, q _ G1 H1 x1 j1 (wk_rng 0 _)⟩
      · cases e
    · cases e
theorem pi_r2 {tg a b : Expr} {p pos : Pos} {f g : Me Vl} (hg : Gl X "range") (hm : X.mg "range" = none) (ha : PE X a (tE c f)) (hb : PE X b (tE c g)) (hs : starEach [a, b] X.env = [(false, eval a X.env), (false, eval b X.env)] := by rfl) (hs1 : starEach [b] X.env = [(false, eval b X.env)] := by rfl) :
    PI X tg (.Call (.Name "range" p) [a, b] [] pos) (tI c (mItR2 f g)) := by
  refine PI.imp (pi_range2 hg hm (pa_cons ha (pa_cons hb pa_nil hs1) (by rw [hs, hs1])) hs hs1) fun σ H R q => ?_
  obtain ⟨G, ρ, m, ds, m', j, e, q⟩ := tI_cases q
  unfold mItR2 at e
  cases ea : f ρ m with
  | stuck => simp only [ea, Ou.bind] at e; cases e
  | ok x m1 =>
    simp only [ea, Ou.bind] at e
    cases eb : g ρ m1 with
    | stuck => simp only [eb] at e; cases e
    | ok y m2 =>
      simp only [eb] at e
      refine tE_ok j ea fun v G1 H1 x1 j1 r1 => ?_
      refine tE_ok j1 eb fun w G2 H2 x2 j2 r2 => ?_
      split at e
      · split at e
        · rename_i hb
          cases e
          cases Rp.int_inv r1
          cases Rp.int_inv r2
          exact ⟨_, _, rfl, hb, q _ G2 H2 (x1.trans x2) j2 (wk_rng _ _)⟩
        · cases e
      · cases e
end
end Pd

set_option Elab.async false
set_option linter.all false
set_option maxRecDepth 100000
set_option maxHeartbeats 4000000
namespace Pd
open PySem L2
section
variable {X : Cx} {c : Ct}
/-! ### targets -/
abbrev Mg := D → En → Option En
def tG (c : Ct) (is : List Nat) (f : Mg) : TG := fun v σ H Q => ∃ G ρ m d, J c G H σ ρ m ∧ Rp c.K G v d ∧ match f d ρ with
  | none => False
  | some ρ' => ∀ σ', wipe σ' is = wipe σ is → J c G H σ' ρ' m → Q σ' H
theorem PG.imp {tg : Expr} {t t' : TG} (h : PG X tg t) (i : ∀ v σ H Q, t' v σ H Q → t v σ H Q) : PG X tg t' := ⟨fun pins s σ H v u Q I r q => h.run pins s σ H v u Q I r (i v σ H Q q)⟩
def gN (i : Nat) : Mg := fun d ρ => some (ρ.set i (.val d))
theorem pg_n {i : Nat} {x : Str} {pos : Pos} (hN : X.N.Nodup) (hi : X.N[i]? = some x) (hx : Loc X.env.scope x) (hf : X.fn x = true ∨ X.env.scope.names.lookup x = some .local := by first | exact .inl rfl | exact .inr rfl | assumption) : PG X (.Name x pos) (tG c [i] (gN i)) := by
  refine PG.imp (pg_name hN hi hx hf) fun v σ H Q q => ?_
  obtain ⟨G, ρ, m, d, j, r, q⟩ := q
  exact q _ (by simp [wipe, List.set_set]) (j.set i r)
def gN2 (i k : Nat) : Mg := fun d ρ => match d with
  | .tup [d1, d2] => some ((ρ.set i (.val d1)).set k (.val d2))
  | _ => none
theorem wipe2 {σ : L2.St} {i k : Nat} {a b : Option V} : wipe ((σ.set i a).set k b) [i, k] = wipe σ [i, k] := by
  simp only [wipe]
  by_cases h : i = k
  · subst h; simp [List.set_set]
  · rw [List.set_set, List.set_comm _ _ h, List.set_set, List.set_comm _ _ (Ne.symm h)]
theorem pg_n2 {i k n : Nat} {x y : Str} {px py pos : Pos} (hN : X.N.Nodup) (hc : X.calm = true) (hK : X.K = c.K) (hi : X.N[i]? = some x) (hx : Loc X.env.scope x) (hk : X.N[k]? = some y) (hy : Loc X.env.scope y)
    (hf : X.fn x = true ∨ X.env.scope.names.lookup x = some .local := by first | exact .inl rfl | exact .inr rfl | assumption) (hf2 : X.fn y = true ∨ X.env.scope.names.lookup y = some .local := by first | exact .inl rfl | exact .inr rfl | assumption) :
    PG X (.Tuple [.Name x px, .Name y py] n pos) (tG c [i, k] (gN2 i k)) := by
  refine PG.imp (pg_tup hc (pgs_cons (pg_name hN hi hx hf) (pgs_cons (pg_name hN hk hy hf2) pgs_nil))) fun v σ H Q q => ?_
  obtain ⟨G, ρ, m, d, j, r, q⟩ := q
  unfold gN2 at q
  split at q
  · exact q.elim
  · rename_i ρ' e
    split at e
    · rename_i d1 d2
      cases e
      obtain ⟨a, vs, rfl, s, rl⟩ := r.tup_inv
      cases rl with
      | cons r1 rl =>
        cases rl with
        | cons r2 rl =>
          cases rl
          rw [hK]
          exact ⟨a, _, rfl, ex_t j.z.ex s, rfl, _, _, rfl, _, _, rfl, rfl, q _ wipe2 ((j.set i r1).set k r2)⟩
    · cases e
/-! ### for -/
def forM (g : Mg) (f : Ms) : List D → Ms
  | [], ρ, m => .nx ρ m
  | d :: ds, ρ, m => match g d ρ with
    | none => .stuck
    | some ρ1 => (match f ρ1 m with
      | .nx ρ2 m2 => forM g f ds ρ2 m2
      | .ct ρ2 m2 => forM g f ds ρ2 m2
      | .bk ρ2 m2 => .nx ρ2 m2
      | .rt x m2 => .rt x m2
      | .stuck => .stuck)
def sFor (s : Me (List D)) (g : Mg) (f : Ms) : Ms := fun ρ m => match s ρ m with
  | .ok ds m1 => forM g f ds ρ m1
  | .stuck => .stuck
theorem drop_cons {α : Type} {ds : List α} {i : Nat} {d : α} (h : ds[i]? = some d) : ds.drop i = d :: ds.drop (i + 1) := by
  obtain ⟨hl, rfl⟩ := List.getElem?_eq_some_iff.mp h
  exact List.drop_eq_getElem_cons hl
theorem pd_for {tg iter : Expr} {body : List Stmt} {pos : Pos} {s : Me (List D)} {is : List Nat} {g : Mg} {f : Ms} (hp : PassesOwn (model X.prog X.w) X.A X.env X.xe) (hc : X.calm = true) (hi : PI X tg iter (tI c s)) (hg : PG X tg (tG c is g)) (hb : PSs X body (tS c f)) (hfs : ∀ x, foldedSetIterable iter X.env x = pure x := by intro _; rfl) :
    PS X (.For tg iter body [] pos) (tS c (sFor s g f)) := by
  refine PS.imp (ps_for hp hc hi hg hb hfs) fun D' σ H q => ?_
  obtain ⟨G, ρ, m, j, q⟩ := q
  unfold sFor at q
  cases e : s ρ m with
  | stuck => rw [e] at q; exact q.elim
  | ok ds m1 =>
    rw [e] at q
    simp only at q
    refine tI_ok j e fun Jt G1 H1 x1 j1 w => ?_
    let Pv : Nat → L2.St → Hp → Prop := fun i σ H => ∃ G ρ m, Ex G1 G ∧ J c G H σ ρ m ∧ (match forM g f (ds.drop i) ρ m with
      | .stuck => False
      | .nx ρ' m' => ∀ σ' G' H', Ex G G' → J c G' H' σ' ρ' m' → D'.nx σ' H'
      | .rt d m' => ∀ v G' H', J0 c G' H' m' → Rp c.K G' v d → D'.rt v H'
      | .bk ρ' m' => ∀ σ' G' H', Ex G G' → J c G' H' σ' ρ' m' → D'.bk σ' H'
      | .ct ρ' m' => ∀ σ' G' H', Ex G G' → J c G' H' σ' ρ' m' → D'.ct σ' H')
    have W : Walk Jt ds.length (fun H => Ex G1 H) (fun i H x H' => Jt.yld i H x H') := ⟨fun i H hi h => w.goes i H hi h, fun H h => w.stops H h, fun i H x H' _ _ y => y⟩
    refine for_it W Pv ?_ (fun i σ H _ ⟨G, ρ, m, x, j, _⟩ => x.trans j.z.ex) (fun i x σ H H' hi ⟨G, ρ, m, xg, j, q⟩ y => ?_) (fun σ H ⟨G, ρ, m, xg, j, q⟩ => ?_)
    · refine ⟨G1, ρ, m1, Ex.refl G1, j1, ?_⟩
      rw [List.drop_zero]
      cases e2 : forM g f ds ρ m1 with
      | stuck => rw [e2] at q; exact q
      | rt d m' => rw [e2] at q; exact q
      | nx ρ' m' => rw [e2] at q; exact fun σ' G' H' x' j' => q σ' G' H' (x1.ex.trans x') j'
      | bk ρ' m' => rw [e2] at q; exact fun σ' G' H' x' j' => q σ' G' H' (x1.ex.trans x') j'
      | ct ρ' m' => rw [e2] at q; exact fun σ' G' H' x' j' => q σ' G' H' (x1.ex.trans x') j'
    · obtain ⟨d, G2, hd, mv, j2, r2⟩ := w.item xg j hi y
      rw [drop_cons hd] at q
      unfold forM at q
      refine ⟨G2, ρ, m, d, j2, r2, ?_⟩
      cases eg : g d ρ with
      | none => rw [eg] at q; exact q.elim
      | some ρ1 =>
        rw [eg] at q
        intro σ1 hw j3
        refine ⟨G2, ρ1, m, j3, ?_⟩
        simp only at q
        cases ef : f ρ1 m with
        | stuck => rw [ef] at q; exact q
        | rt x m2 => rw [ef] at q; exact q
        | bk ρ2 m2 => rw [ef] at q; exact fun σ' G' H' x' j' => q σ' G' H' (mv.ex.trans x') j'
        | nx ρ2 m2 =>
          rw [ef] at q
          intro σ' G' H' x' j'
          refine ⟨G', ρ2, m2, (xg.trans mv.ex).trans x', j', ?_⟩
          simp only at q
          cases e2 : forM g f (ds.drop (i + 1)) ρ2 m2 with
          | stuck => rw [e2] at q; exact q
          | rt d m' => rw [e2] at q; exact q
          | nx ρ' m' => rw [e2] at q; exact fun σ' G'' H' x'' j' => q σ' G'' H' ((mv.ex.trans x').trans x'') j'
          | bk ρ' m' => rw [e2] at q; exact fun σ' G'' H' x'' j' => q σ' G'' H' ((mv.ex.trans x').trans x'') j'
          | ct ρ' m' => rw [e2] at q; exact fun σ' G'' H' x'' j' => q σ' G'' H' ((mv.ex.trans x').trans x'') j'
        | ct ρ2 m2 =>
          rw [ef] at q
          intro σ' G' H' x' j'
          refine ⟨G', ρ2, m2, (xg.trans mv.ex).trans x', j', ?_⟩
          simp only at q
          cases e2 : forM g f (ds.drop (i + 1)) ρ2 m2 with
          | stuck => rw [e2] at q; exact q
          | rt d m' => rw [e2] at q; exact q
          | nx ρ' m' => rw [e2] at q; exact fun σ' G'' H' x'' j' => q σ' G'' H' ((mv.ex.trans x').trans x'') j'
          | bk ρ' m' => rw [e2] at q; exact fun σ' G'' H' x'' j' => q σ' G'' H' ((mv.ex.trans x').trans x'') j'
          | ct ρ' m' => rw [e2] at q; exact fun σ' G'' H' x'' j' => q σ' G'' H' ((mv.ex.trans x').trans x'') j'
    · rw [List.drop_length] at q
      exact q σ G H (Ex.refl G) j
/-! ### list comprehensions -/
def wipeE (ρ : En) : List Nat → En
  | [] => ρ
  | v :: vs => (wipeE ρ vs).set v .emp
def Sl.isOwn : Sl → Bool
  | .own _ => true
  | _ => false
def noOwn (ρ : En) (is : List Nat) : Bool := is.all fun i => match ρ[i]? with
  | some s => !s.isOwn
  | none => true
theorem wipe_wipe (σ : L2.St) (is : List Nat) : wipe (wipe σ is) is = wipe σ is := by
  apply List.ext_getElem?
  intro k
  by_cases hk : k ∈ is
  · have key : ∀ (τ : L2.St) (js : List Nat), k ∈ js → (wipe τ js)[k]? = if k < τ.length then some none else none := by
      intro τ js
      induction js with
      | nil => intro h; cases h
      | cons v vs ih =>
        intro h
        show ((wipe τ vs).set v none)[k]? = _
        by_cases e : v = k
        · subst e
          by_cases hl : v < τ.length
          · rw [List.getElem?_set_self (by rw [wipe_length]; exact hl), if_pos hl]
          · rw [List.getElem?_eq_none (by rw [List.length_set, wipe_length]; omega), if_neg hl]
        · rw [List.getElem?_set_ne e]
          exact ih ((List.mem_cons.mp h).resolve_left fun q => e q.symm)
    rw [key _ _ hk, key _ _ hk, wipe_length]
  · have key : ∀ (τ : L2.St) (js : List Nat), k ∉ js → (wipe τ js)[k]? = τ[k]? := by
      intro τ js
      induction js with
      | nil => intro _; rfl
      | cons v vs ih =>
        intro h
        show ((wipe τ vs).set v none)[k]? = _
        rw [List.getElem?_set_ne (fun e => h (by rw [e]; exact List.mem_cons_self)), ih fun q => h (List.mem_cons_of_mem _ q)]
    rw [key _ _ hk]
theorem wipe_out {σ : L2.St} {k : Nat} : ∀ {js : List Nat}, k ∉ js → (wipe σ js)[k]? = σ[k]?
  | [], _ => rfl
  | v :: vs, h => by
    show ((wipe σ vs).set v none)[k]? = _
    rw [List.getElem?_set_ne (fun e => h (by rw [e]; exact List.mem_cons_self)), wipe_out fun q => h (List.mem_cons_of_mem _ q)]
theorem wipeE_len (ρ : En) : ∀ js : List Nat, (wipeE ρ js).length = ρ.length
  | [] => rfl
  | v :: vs => by show ((wipeE ρ vs).set v .emp).length = _; rw [List.length_set, wipeE_len ρ vs]
theorem wipeE_out {ρ : En} {k : Nat} : ∀ {js : List Nat}, k ∉ js → (wipeE ρ js)[k]? = ρ[k]?
  | [], _ => rfl
  | v :: vs, h => by
    show ((wipeE ρ vs).set v .emp)[k]? = _
    rw [List.getElem?_set_ne (fun e => h (by rw [e]; exact List.mem_cons_self)), wipeE_out fun q => h (List.mem_cons_of_mem _ q)]
theorem wipeE_in {ρ : En} {k : Nat} {s : Sl} : ∀ {js : List Nat}, k ∈ js → (wipeE ρ js)[k]? = some s → s = .emp
  | v :: vs, h, e => by
    change ((wipeE ρ vs).set v .emp)[k]? = some s at e
    by_cases q : v = k
    · subst q
      by_cases hl : v < (wipeE ρ vs).length
      · rw [List.getElem?_set_self hl] at e; exact (Option.some.inj e).symm
      · rw [List.getElem?_eq_none (by rw [List.length_set]; omega)] at e; cases e
    · rw [List.getElem?_set_ne q] at e
      exact wipeE_in ((List.mem_cons.mp h).resolve_left fun z => q z.symm) e
theorem J.wipe {G H : Hp} {σ : L2.St} {ρ : En} {m : List D} (j : J c G H σ ρ m) (is : List Nat) : J c G H (L2.wipe σ is) (wipeE ρ is) m := by
  have key : ∀ {k : Nat} {s : Sl}, (wipeE ρ is)[k]? = some s → s ≠ .emp → k ∉ is ∧ ρ[k]? = some s := by
    intro k s h n
    by_cases hk : k ∈ is
    · exact absurd (wipeE_in hk h) n
    · exact ⟨hk, by rw [wipeE_out hk] at h; exact h⟩
  refine ⟨j.z, fun k d h => ?_, fun k h => ?_, fun k ds h => ?_, fun k l ds es a h1 h2 h3 h4 => ?_, by rw [wipeE_len, wipe_length]; exact j.len⟩
  · obtain ⟨n, h⟩ := key h (by intro z; cases z)
    rw [wipe_out n]; exact j.val k d h
  · obtain ⟨n, h⟩ := key h (by intro z; cases z)
    rw [wipe_out n]; exact j.pol k h
  · obtain ⟨n, h⟩ := key h (by intro z; cases z)
    rw [wipe_out n]; exact j.own k ds h
  · obtain ⟨n1, h1⟩ := key h1 (by intro z; cases z)
    obtain ⟨n2, h2⟩ := key h2 (by intro z; cases z)
    rw [wipe_out n1] at h3
    rw [wipe_out n2] at h4
    exact j.dis k l ds es a h1 h2 h3 h4
theorem J.unwipe {G H G' H' : Hp} {σ : L2.St} {ρ : En} {m m' : List D} {is : List Nat} (j : J c G H σ ρ m) (mv : Mv c G H G' H') (j' : J c G' H' (L2.wipe σ is) (wipeE ρ is) m') (no : noOwn ρ is = true) : J c G' H' σ ρ m' := by
  refine ⟨j'.z, fun k d h => ?_, j.pol, fun k ds h => ?_, j.dis, j.len⟩
  · obtain ⟨v, h1, h2⟩ := j.val k d h
    exact ⟨v, h1, h2.mono mv.ex⟩
  · have n : k ∉ is := by
      intro hk
      have := List.all_eq_true.mp no k hk
      rw [h] at this
      cases this
    have := j'.own k ds (by rw [wipeE_out n]; exact h)
    rw [wipe_out n] at this
    exact this
theorem J.updD {G H : Hp} {σ : L2.St} {ρ : En} {m : List D} (j : J c G H σ ρ m) {a : Addr} {o : HO} (g : G a = none) (h0 : c.H0 a = none) (no : ∀ (i : Nat) (ds : List D), ρ[i]? = some (.own ds) → σ[i]? ≠ some (some (.ref a))) : J c G (upd H a o) σ ρ m := by
  refine ⟨⟨fun b u e => ?_, j.z.le, j.z.fr, fun b u e n => ?_, fun p e => ?_⟩, j.val, j.pol, fun i ds h => ?_, j.dis, j.len⟩
  · rw [upd_ne (ne_of_none e g)]; exact j.z.ex b u e
  · rw [upd_ne (ne_of_none e h0)]; exact j.z.kp b u e n
  · obtain ⟨⟨u, h1⟩, g', ws, h2, h3⟩ := j.z.pl p e
    refine ⟨⟨u, h1⟩, g', ws, ?_, h3⟩
    rw [upd_ne (ne_of_none h1 h0)]; exact h2
  · obtain ⟨b, ws, e1, e2, e3⟩ := j.own i ds h
    refine ⟨b, ws, e1, ?_, e3⟩
    rw [upd_ne]
    · exact e2
    · rintro rfl; exact no i ds h e1
theorem Mv.updD {G H G' H' : Hp} (mv : Mv c G H G' H') {a : Addr} {o : HO} (h : H a = none) : Mv c G H G' (upd H' a o) :=
  ⟨mv.ex, fun b u e n => by rw [upd_ne (ne_of_none e h)]; exact mv.kp b u e n, fun b e => by
    by_cases q : b = a
    · subst q; exact h
    · rw [upd_ne q] at e; exact mv.dm b e, mv.nw⟩
def lcM (g : Mg) (t : Me Bool) (f : Me Vl) (ρ : En) : List D → List D → Ou (List D)
  | [], m => .ok [] m
  | d :: ds, m => match g d ρ with
    | none => .stuck
    | some ρ1 => (t ρ1 m).bind fun b m1 => if b then (f ρ1 m1).bind fun x m2 => (match x with
        | .dat y => (lcM g t f ρ ds m2).bind fun ys m3 => .ok (y :: ys) m3
        | _ => .stuck)
      else lcM g t f ρ ds m1
def mLc (is : List Nat) (s : Me (List D)) (g : Mg) (t : Me Bool) (f : Me Vl) : Me (List D) := fun ρ m => (s ρ m).bind fun ds m1 => if noOwn ρ is && decide (ds.length ≤ sizeLine) then lcM g t f (wipeE ρ is) ds m1 else .stuck
theorem lc_imp {is : List Nat} {s : Me (List D)} {g : Mg} {t : Me Bool} {f : Me Vl} (σ : L2.St) (H : Hp) (Q : VK) (q : tL c (mLc is s g t f) σ H Q) : tLc (tI c s) (tG c is g) (tB c t) (tE c f) is σ H Q := by
  obtain ⟨G, ρ, m, rs, m', j, e, q⟩ := tL_cases q
  unfold mLc at e
  cases es : s ρ m with
  | stuck => simp only [es, Ou.bind] at e; cases e
  | ok ds m1 =>
    simp only [es, Ou.bind] at e
    split at e
    rotate_left
    · cases e
    rename_i hno
    rw [Bool.and_eq_true, decide_eq_true_eq] at hno
    refine tI_ok j es fun Jt G1 H1 x1 j1 w => ?_
    intro A hA
    have h0A : c.H0 A = none := j1.h0 hA
    have jA := j1.noown (H' := H1) hA
    let Pv : Nat → Hp → Prop := fun i Hc => i ≤ ds.length ∧ ∃ G2 m2 acc accD rest, Ex G1 G2 ∧ Mv c G1 H1 G2 Hc ∧ J c G2 Hc (wipe σ is) (wipeE ρ is) m2 ∧ Hc A = some (.lst acc) ∧ G2 A = none ∧ RpL c.K G2 acc accD ∧ acc.length ≤ i ∧ lcM g t f (wipeE ρ is) (ds.drop i) m2 = .ok rest m' ∧ accD ++ rest = rs
    have W : Walk Jt ds.length (fun H => Ex G1 H) (fun i H x H' => Jt.yld i H x H') := ⟨fun i H hi h => w.goes i H hi h, fun H h => w.stops H h, fun i H x H' _ _ y => y⟩
    have noA : ∀ (i : Nat) (es : List D), (wipeE ρ is)[i]? = some (.own es) → (wipe σ is)[i]? ≠ some (some (.ref A)) := (j1.wipe is).noown (H' := H1) hA
    refine lc_it W Pv ?_ (fun i Hc _ ⟨_, G2, m2, acc, accD, rest, x2, mv, j2, _⟩ => x2.trans j2.z.ex) (fun i x Hc Hc' hi ⟨_, G2, m2, acc, accD, rest, x2, mv, j2, hAc, gA, ra, la, el, er⟩ y => ?_) (fun Hc ⟨_, G2, m2, acc, accD, rest, x2, mv, j2, hAc, gA, ra, la, el, er⟩ => ?_)
    · exact ⟨Nat.zero_le _, G1, m1, [], [], rs, Ex.refl G1, Mv.newH hA, (j1.ext hA rfl).wipe is, upd_same, j1.gn hA, .nil, Nat.le_refl _, e, rfl⟩
    · obtain ⟨d, G3, hd, mv3, j3, r3⟩ := w.item x2 j2 hi y
      rw [drop_cons hd] at el
      unfold lcM at el
      refine ⟨G3, wipeE ρ is, m2, d, j3, r3, ?_⟩
      cases eg : g d (wipeE ρ is) with
      | none => simp only [eg] at el; cases el
      | some ρ1 =>
        simp only [eg] at el
        intro σ1 hw j4
        refine ⟨by rw [hw, wipe_wipe], ?_⟩
        cases et : t ρ1 m2 with
        | stuck => simp only [et, Ou.bind] at el; cases el
        | ok b m3 =>
          simp only [et, Ou.bind] at el
          refine tB_ok j4 et fun G5 H5 x5 j5 => ?_
          -- the turn's state again, over the wiped slots
          have mv5 : Mv c G1 H1 G5 H5 := (mv.trans mv3).trans x5
          have hP : c.P ≠ some A := fun e => by
            obtain ⟨⟨o, h1⟩, _⟩ := j1.z.pl A e
            rw [h0A] at h1; cases h1
          have gA3 : G3 A = none := by
            cases z : G3 A with
            | none => rfl
            | some o => rcases mv3.nw A o z with h | h
                        · rw [gA] at h; cases h
                        · rw [hAc] at h; cases h
          have hA3 : Hc' A = some (.lst acc) := mv3.kp A _ hAc hP
          have gA5 : G5 A = none := by
            cases z : G5 A with
            | none => rfl
            | some o => rcases x5.nw A o z with h | h
                        · rw [gA3] at h; cases h
                        · rw [hA3] at h; cases h
          have hA5 : H5 A = some (.lst acc) := x5.kp A _ hA3 hP
          have back : ∀ {G6 H6 : Hp} {m6 : List D}, Mv c G1 H1 G6 H6 → J c G6 H6 σ1 ρ1 m6 → G6 A = none → J c G6 H6 (wipe σ is) (wipeE ρ is) m6 := by
            intro G6 H6 m6 mv6 j6 _
            refine ⟨j6.z, fun k d h => ?_, (j1.wipe is).pol, fun k es h => ?_, (j1.wipe is).dis, (j1.wipe is).len⟩
            · obtain ⟨v, h1, h2⟩ := (j1.wipe is).val k d h
              exact ⟨v, h1, h2.mono mv6.ex⟩
            · obtain ⟨a, ws, e1, e2, e3, e4, e5⟩ := (j1.wipe is).own k es h
              refine ⟨a, ws, e1, mv6.kp a _ e2 (fun e => ?_), ?_, e4, e5.mono mv6.ex⟩
              · obtain ⟨⟨o, h1⟩, _⟩ := j1.z.pl a e
                rw [e4] at h1; cases h1
              · cases z : G6 a with
                | none => rfl
                | some o => rcases mv6.nw a o z with h | h
                            · rw [e3] at h; cases h
                            · rw [e2] at h; cases h
          cases b with
          | false =>
            rw [if_neg Bool.false_ne_true] at el ⊢
            exact ⟨hi, G5, m3, acc, accD, rest, mv5.ex, mv5, back mv5 j5 gA5, hA5, gA5, ra.mono (mv3.ex.trans x5.ex), Nat.le_succ_of_le la, el, er⟩
          | true =>
            rw [if_pos rfl] at el ⊢
            cases ef : f ρ1 m3 with
            | stuck => simp only [ef] at el; cases el
            | ok xv m4 =>
              simp only [ef] at el
              cases xv with
              | pool => cases el
              | dat yd =>
                simp only at el
                cases er2 : lcM g t f (wipeE ρ is) (ds.drop (i + 1)) m4 with
                | stuck => simp only [er2] at el; cases el
                | ok ys m5 =>
                  simp only [er2] at el
                  cases el
                  refine tE_ok j5 ef fun yv G6 H6 x6 j6 r6 => ?_
                  have mv6 := mv5.trans x6
                  have gA6 : G6 A = none := by
                    cases z : G6 A with
                    | none => rfl
                    | some o => rcases x6.nw A o z with h | h
                                · rw [gA5] at h; cases h
                                · rw [hA5] at h; cases h
                  have hA6 : H6 A = some (.lst acc) := x6.kp A _ hA5 hP
                  refine ⟨acc, hA6, by omega, hi, G6, m4, acc ++ [yv], accD ++ [yd], ys, mv6.ex, mv6.updD hA, (back mv6 j6 gA6).updD gA6 h0A noA, upd_same, gA6, (ra.mono ((mv3.ex.trans x5.ex).trans x6.ex)).snoc r6, by rw [List.length_append]; exact Nat.succ_le_succ la, er2, by rw [List.append_assoc]; exact er⟩
    · rw [List.drop_length] at el
      cases el
      rw [List.append_nil] at er
      subst er
      exact q A acc G2 Hc (x1.trans mv) (j1.unwipe mv j2 hno.1) (x1.dm A hA) gA hAc ra
theorem pts_y : PTs X [] (tB c fun _ m => .ok true m) := ⟨fun pins s σ H Q I h => by
  obtain ⟨G, ρ, m, j, q⟩ := h
  exact pts_nil.run pins s σ H Q I (q G H (Mv.refl c G H) j)⟩
theorem pts_1 {e : Expr} {f : Me Bool} (h : PT X e (tB c f)) : PTs X [e] (tB c f) := pts_one h
theorem pd_lc {elt tg iter : Expr} {ifs : List Expr} {scope : Scope} {own : List (Str × Nat)} {pos : Pos} {s : Me (List D)} {g : Mg} {t : Me Bool} {f : Me Vl} (hc : X.calm = true) (hN : X.N.Nodup) (hi : PI X tg iter (tI c s)) (ok : BlkOk X.N X.env.scope scope own)
    (hg : ∀ (s : Shared) (H : Hp) (C : Addr) (cl : List (Str × Addr)) (fp : List Addr), PG (X.blk s H scope (compEnvC scope cl C X.env) fp) tg (tG c (own.map (·.2)) g)) (ht : ∀ (s : Shared) (H : Hp) (C : Addr) (cl : List (Str × Addr)) (fp : List Addr), PTs (X.blk s H scope (compEnvC scope cl C X.env) fp) ifs (tB c t))
    (he : ∀ (s : Shared) (H : Hp) (C : Addr) (cl : List (Str × Addr)) (fp : List Addr), PE (X.blk s H scope (compEnvC scope cl C X.env) fp) elt (tE c f)) (hs : ∀ x, foldedSetIterable iter X.env x = pure x := by intro _; rfl) :
    PE X (.ListComp elt [⟨tg, iter, ifs, 0⟩] scope pos) (tL c (mLc (own.map (·.2)) s g t f)) :=
  PE.imp (pe_lc hc hN hi ok hg ht he hs) lc_imp
theorem pd_setLc {i : Nat} {y : Str} {py : Pos} {elt tg iter : Expr} {ifs : List Expr} {scope : Scope} {own : List (Str × Nat)} {pos spos : Pos} {s : Me (List D)} {g : Mg} {t : Me Bool} {f : Me Vl} (hc : X.calm = true) (hN : X.N.Nodup) (hy : X.N[i]? = some y) (hyl : X.env.scope.names.lookup y = some .local)
    (hsw : swapsWith (.ListComp elt [⟨tg, iter, ifs, 0⟩] scope pos) (some (.Name y py)) spos.line X.env = pure true) (hi : PI X tg iter (tI c s)) (ok : BlkOk X.N X.env.scope scope own)
    (hg : ∀ (s : Shared) (H : Hp) (C : Addr) (cl : List (Str × Addr)) (fp : List Addr), PG (X.blk s H scope (compEnvC scope cl C X.env) fp) tg (tG c (own.map (·.2)) g)) (ht : ∀ (s : Shared) (H : Hp) (C : Addr) (cl : List (Str × Addr)) (fp : List Addr), PTs (X.blk s H scope (compEnvC scope cl C X.env) fp) ifs (tB c t))
    (he : ∀ (s : Shared) (H : Hp) (C : Addr) (cl : List (Str × Addr)) (fp : List Addr), PE (X.blk s H scope (compEnvC scope cl C X.env) fp) elt (tE c f)) (hs : ∀ x, foldedSetIterable iter X.env x = pure x := by intro _; rfl) :
    PS X (.Assign [.Name y py] (.ListComp elt [⟨tg, iter, ifs, 0⟩] scope pos) spos) (tS c (sSetO i (mLc (own.map (·.2)) s g t f))) := by
  refine PS.imp (ps_setLc hc hN hy hyl hsw hi ok hg ht he hs) fun D' σ H q => ?_
  exact lc_imp σ H _ (asgO q)
end
end Pd

set_option Elab.async false
set_option linter.all false
set_option maxRecDepth 100000
set_option maxHeartbeats 4000000
namespace Pd
open PySem L2
section
variable {X : Cx} {c : Ct}
/-! ### built-ins by data -/
def CallS (c : Ct) (r : List V → Hp → VK → Prop) (op : List D → Option D) : Prop := ∀ G H σ ρ m vs ds z, J c G H σ ρ m → RpL c.K G vs ds → op ds = some z →
  ∀ Q : VK, (∀ u G' H', Mv c G H G' H' → J c G' H' σ ρ m → Rp c.K G' u z → Q u H') → r vs H Q
def mB (op : List D → Option D) (g : Me (List Vl)) : Me Vl := fun ρ m => (g ρ m).bind fun as m1 => match dats as with
  | some ds => (match op ds with
    | some z => .ok (.dat z) m1
    | none => .stuck)
  | none => .stuck
theorem mB_ok {op : List D → Option D} {g : Me (List Vl)} {ρ : En} {m m' : List D} {x : Vl} (h : mB op g ρ m = .ok x m') : ∃ as ds z, g ρ m = .ok as m' ∧ dats as = some ds ∧ op ds = some z ∧ x = .dat z := by
  unfold mB at h
  cases ea : g ρ m with
  | stuck => simp only [ea, Ou.bind] at h; cases h
  | ok as m1 =>
    simp only [ea, Ou.bind] at h
    cases ed : dats as with
    | none => simp only [ed] at h; cases h
    | some ds =>
      simp only [ed] at h
      cases eo : op ds with
      | none => simp only [eo] at h; cases h
      | some z => simp only [eo] at h; cases h; exact ⟨as, ds, z, rfl, ed, eo, rfl⟩
theorem B_imp {r : List V → Hp → VK → Prop} {op : List D → Option D} {g : Me (List Vl)} (hs : CallS c r op) (σ : L2.St) (H : Hp) (Q : VK) (q : tE c (mB op g) σ H Q) : tCB r (tAs c g) σ H Q := by
  obtain ⟨G, ρ, m, x, m', j, e, q⟩ := tE_cases q
  obtain ⟨as, ds, z, ea, ed, eo, rfl⟩ := mB_ok e
  refine tAs_ok j ea fun vs G1 H1 x1 j1 r1 => ?_
  exact hs G1 H1 σ ρ m' vs ds z j1 (dats_ok ed r1) eo Q fun u G' H' x2 j2 r2 => q u G' H' (x1.trans x2) j2 r2
theorem pd_B {id : String} {x : Str} {p pos : Pos} {e : Expr} {es : List Expr} {r : List V → Hp → VK → Prop} {op : List D → Option D} {g : Me (List Vl)} (hc : CallR X (.builtin id) r) (hs : CallS c r op) (hg : Gl X x) (hm : X.mg x = none) (hv : bootBuiltins x = some (.builtin id)) (ha : PA X (e :: es) (tAs c g)) (hn : x ≠ "__name__" := by decide) (hdb : (x == ("__debug__" : Str)) = false := by decide)
    (he : starEach (e :: es) X.env = (false, eval e X.env) :: starEach es X.env := by rfl) (hpl : (backTo pos (starEach es X.env)).any (·.1) = false := by rfl) : PE X (.Call (.Name x p) (e :: es) [] pos) (tE c (mB op g)) :=
  PE.imp (pe_callB hc hg hm hv ha hn hdb he hpl) (B_imp hs)
theorem pd_BT {T : String} {x : Str} {p pos : Pos} {e : Expr} {es : List Expr} {r : List V → Hp → VK → Prop} {op : List D → Option D} {g : Me (List Vl)} (hc : CallR X (.type T) r) (hs : CallS c r op) (hg : Gl X x) (hm : X.mg x = none) (hv : bootBuiltins x = some (.type T)) (ha : PA X (e :: es) (tAs c g)) (hn : x ≠ "__name__" := by decide) (hdb : (x == ("__debug__" : Str)) = false := by decide)
    (he : starEach (e :: es) X.env = (false, eval e X.env) :: starEach es X.env := by rfl) (hpl : (backTo pos (starEach es X.env)).any (·.1) = false := by rfl) : PE X (.Call (.Name x p) (e :: es) [] pos) (tE c (mB op g)) :=
  PE.imp (pe_callTy hc hg hm hv ha hn hdb he hpl) (B_imp hs)
def lenD : List D → Option D
  | [.str s] => if s.length ≤ sizeLine then some (.int (s.length : Int)) else none
  | [.tup ds] => some (.int (ds.length : Int))
  | [.lst ds] => some (.int (ds.length : Int))
  | _ => none
theorem cs_len : CallS c (fun xs H Q => ∃ x n, xs = [x] ∧ LenV c.K x H n ∧ Q (V.int (n : Nat)) H) lenD := by
  intro G H σ ρ m vs ds z j r h Q q
  unfold lenD at h
  split at h
  · split at h
    · rename_i s hl
      cases h
      cases r with
      | cons h1 r =>
        cases r
        cases h1
        exact ⟨_, _, rfl, ⟨hl, rfl⟩, sc_ok j (.int _) q⟩
    · cases h
  · cases h
    cases r with
    | cons h1 r =>
      cases r
      obtain ⟨a, ws, rfl, s1, r1⟩ := h1.tup_inv
      exact ⟨_, _, rfl, .inr ⟨ws, ex_t j.z.ex s1, r1.length.symm⟩, sc_ok j (.int _) q⟩
  · cases h
    cases r with
    | cons h1 r =>
      cases r
      obtain ⟨a, ws, rfl, s1, r1⟩ := h1.lst_inv
      exact ⟨_, _, rfl, .inl ⟨ws, ex_l j.z.ex s1, r1.length.symm⟩, sc_ok j (.int _) q⟩
  · cases h
def bls : List D → Option (List Bool)
  | [] => some []
  | .bl b :: r => (bls r).map fun bs => b :: bs
  | _ :: _ => none
theorem bls_ok {K : Fg} {G : Hp} : ∀ {ds : List D} {bs : List Bool} {vs : List V}, bls ds = some bs → RpL K G vs ds → vs = bs.map V.bl
  | [], bs, _, e, .nil => by cases e; rfl
  | d :: r, bs, _, e, .cons h t => by
    cases d with
    | bl b =>
      unfold bls at e
      cases q : bls r with
      | none => rw [q] at e; cases e
      | some es => rw [q] at e; cases e; cases h.bl_inv; rw [bls_ok q t]; rfl
    | _ => cases e
def allD : List D → Option D
  | [.lst ds] => (bls ds).map fun bs => .bl (bs.all id)
  | _ => none
def anyD : List D → Option D
  | [.lst ds] => (bls ds).map fun bs => .bl (bs.any id)
  | _ => none
theorem cs_all : CallS c (rAll c.K) allD := by
  intro G H σ ρ m vs ds z j r h Q q
  unfold allD at h
  split at h
  · rename_i es
    cases eb : bls es with
    | none => rw [eb] at h; cases h
    | some bs =>
      rw [eb] at h; cases h
      cases r with
      | cons h1 r =>
        cases r
        obtain ⟨a, ws, rfl, s1, r1⟩ := h1.lst_inv
        have e := bls_ok eb r1
        subst e
        exact ⟨a, bs, rfl, ex_l j.z.ex s1, sc_ok j (.bl _) q⟩
  · cases h
theorem cs_any : CallS c (rAny c.K) anyD := by
  intro G H σ ρ m vs ds z j r h Q q
  unfold anyD at h
  split at h
  · rename_i es
    cases eb : bls es with
    | none => rw [eb] at h; cases h
    | some bs =>
      rw [eb] at h; cases h
      cases r with
      | cons h1 r =>
        cases r
        obtain ⟨a, ws, rfl, s1, r1⟩ := h1.lst_inv
        have e := bls_ok eb r1
        subst e
        exact ⟨a, bs, rfl, ex_l j.z.ex s1, sc_ok j (.bl _) q⟩
  · cases h
def tupleD : List D → Option D
  | [.lst ds] => some (.tup ds)
  | [.tup ds] => some (.tup ds)
  | _ => none
theorem cs_tuple : CallS c (fun xs H Q => ∃ p ys, xs = [V.ref p] ∧ ((SqL c.K H p ys ∧ nwT H ys Q) ∨ SqT c.K H p ys ∧ Q (V.ref p) H)) tupleD := by
  intro G H σ ρ m vs ds z j r h Q q
  unfold tupleD at h
  split at h
  · cases h
    cases r with
    | cons h1 r =>
      cases r
      obtain ⟨a, ws, rfl, s1, r1⟩ := h1.lst_inv
      refine ⟨a, ws, rfl, .inl ⟨ex_l j.z.ex s1, fun l us hl _ => ?_⟩⟩
      exact q _ _ _ (Mv.new hl (j.gn hl)) (j.new hl) (.tup (tn_of upd_same) (r1.mono (Ex.new (j.gn hl))))
  · cases h
    cases r with
    | cons h1 r =>
      cases r
      obtain ⟨a, ws, rfl, s1, r1⟩ := h1.tupN_inv
      exact ⟨a, ws, rfl, .inr ⟨ex_t j.z.ex s1.sq, sc_ok j (.tup s1 r1) q⟩⟩
  · cases h
def strD : List D → Option D
  | [.int i] => if i.natAbs.log2 < 1920 then some (.str (Str.ofString (toString i))) else none
  | _ => none
theorem cs_str : CallS c (fun xs H Q => ∃ i, xs = [V.int i] ∧ i.natAbs.log2 < 1920 ∧ Q (V.str (Str.ofString (toString i))) H) strD := by
  intro G H σ ρ m vs ds z j r h Q q
  unfold strD at h
  split at h
  · split at h
    · rename_i i hl
      cases h
      cases r with
      | cons h1 r =>
        cases r
        cases h1
        exact ⟨_, rfl, hl, sc_ok j (.str _) q⟩
    · cases h
  · cases h
def intD : List D → Option D
  | [.int i] => some (.int i)
  | [.bl b] => some (.int (if b = true then 1 else 0))
  | _ => none
theorem cs_int : CallS c (fun xs H Q => (∃ i, xs = [V.int i] ∧ Q (V.int i) H) ∨ ∃ k, xs = [V.bl k] ∧ Q (V.int (if k = true then 1 else 0)) H) intD := by
  intro G H σ ρ m vs ds z j r h Q q
  unfold intD at h
  split at h
  · cases h
    cases r with
    | cons h1 r => cases r; cases h1; exact .inl ⟨_, rfl, sc_ok j (.int _) q⟩
  · cases h
    cases r with
    | cons h1 r => cases r; cases h1; exact .inr ⟨_, rfl, sc_ok j (.int _) q⟩
  · cases h
def maxD : List D → Option D
  | [.int i, .int j] => some (.int (if j > i then j else i))
  | _ => none
def minD : List D → Option D
  | [.int i, .int j] => some (.int (if j < i then j else i))
  | _ => none
def absD : List D → Option D
  | [.int i] => some (.int (if i < 0 then -i else i))
  | _ => none
def dmD : List D → Option D
  | [.int i, .int j] => if 0 < j ∧ j < 1073741824 then some (.tup [.int (i / j), .int (i % j)]) else none
  | _ => none
theorem cs_max : CallS c (fun xs H Q => ∃ i j, xs = [V.int i, V.int j] ∧ Q (V.int (if j > i then j else i)) H) maxD := by
  intro G H σ ρ m vs ds z j r h Q q
  unfold maxD at h
  split at h
  · cases h
    cases r with
    | cons h1 r => cases r with
      | cons h2 r => cases r; cases h1; cases h2; exact ⟨_, _, rfl, sc_ok j (.int _) q⟩
  · cases h
theorem cs_min : CallS c (fun xs H Q => ∃ i j, xs = [V.int i, V.int j] ∧ Q (V.int (if j < i then j else i)) H) minD := by
  intro G H σ ρ m vs ds z j r h Q q
  unfold minD at h
  split at h
  · cases h
    cases r with
    | cons h1 r => cases r with
      | cons h2 r => cases r; cases h1; cases h2; exact ⟨_, _, rfl, sc_ok j (.int _) q⟩
  · cases h
theorem cs_abs : CallS c (fun xs H Q => ∃ i, xs = [V.int i] ∧ Q (V.int (if i < 0 then -i else i)) H) absD := by
  intro G H σ ρ m vs ds z j r h Q q
  unfold absD at h
  split at h
  · cases h
    cases r with
    | cons h1 r => cases r; cases h1; exact ⟨_, rfl, sc_ok j (.int _) q⟩
  · cases h
/-! ### isinstance of a built-in class -/
inductive Ty where
  | int | bool | str | tuple | list
def Ty.name : Ty → String
  | .int => "int" | .bool => "bool" | .str => "str" | .tuple => "tuple" | .list => "list"
def isiB : Ty → D → Option Bool
  | .int, .int _ => some true | .int, .bl _ => some true
  | .bool, .bl _ => some true
  | .str, .str _ => some true
  | .tuple, .tup _ => some true
  | .list, .lst _ => some true
  | _, .obj _ _ => none
  | _, .dct _ => none
  | _, _ => some false
theorem isi_int {t : Ty} {b : Bool} (i : Int) (h : isiB t (.int i) = some b) : kitB "int" t.name = some b := by cases t <;> cases h <;> decide +kernel
theorem isi_bl {t : Ty} {b : Bool} (i : Bool) (h : isiB t (.bl i) = some b) : kitB "bool" t.name = some b := by cases t <;> cases h <;> decide +kernel
theorem isi_str {t : Ty} {b : Bool} (i : Str) (h : isiB t (.str i) = some b) : kitB "str" t.name = some b := by cases t <;> cases h <;> decide +kernel
theorem isi_non {t : Ty} {b : Bool} (h : isiB t .non = some b) : kitB "NoneType" t.name = some b := by cases t <;> cases h <;> decide +kernel
theorem isi_tup {t : Ty} {b : Bool} {ds : List D} (h : isiB t (.tup ds) = some b) : kitB "tuple" t.name = some b := by cases t <;> cases h <;> decide +kernel
theorem isi_lst {t : Ty} {b : Bool} {ds : List D} (h : isiB t (.lst ds) = some b) : kitB "list" t.name = some b := by cases t <;> cases h <;> decide +kernel
theorem Rp.isi {G H : Hp} {v : V} {d : D} {t : Ty} {b : Bool} (x : Ex G H) (r : Rp c.K G v d) (h : isiB t d = some b) : ∃ T, TyX c.K H v T ∧ PySem.W.kitOne c.K T (.type t.name) = some b := by
  cases r with
  | non => exact ⟨_, .base .non, kit_ty (isi_non h)⟩
  | bl b => exact ⟨_, .base (.bl b), kit_ty (isi_bl b h)⟩
  | int i => exact ⟨_, .base (.int i), kit_ty (isi_int i h)⟩
  | str s => exact ⟨_, .base (.str s), kit_ty (isi_str s h)⟩
  | tup s r =>
    refine ⟨_, ?_, kit_ty (isi_tup h)⟩
    rcases s with ⟨o, s, _⟩ | ⟨o, its, n, k, cl, _⟩
    · exact .fTuple (x _ _ s)
    · exact .kTuple k cl
  | lst s r =>
    refine ⟨_, ?_, kit_ty (isi_lst h)⟩
    rcases s with (s | ⟨o, s⟩) | ⟨o, its, n, k, cl, _⟩
    · exact .base (.lst (x _ _ s))
    · exact .base (.frz (x _ _ s))
    · exact .kList k cl
  | obj s r => cases t <;> cases h
  | dct s r => cases t <;> cases h
theorem pd_isi (t : Ty) {a : Expr} {nm : Str} {p q pos : Pos} {f : Me Vl} (hK : X.K = c.K) (hg : Gl X "isinstance") (hm : X.mg "isinstance" = none) (hg2 : Gl X nm) (hm2 : X.mg nm = none) (ha : PE X a (tE c f)) (hv : bootBuiltins nm = some (.type t.name))
    (he : starEach [a, .Name nm q] X.env = (false, eval a X.env) :: starEach [.Name nm q] X.env := by rfl) (he2 : starEach [.Name nm q] X.env = (false, eval (.Name nm q) X.env) :: starEach [] X.env := by rfl) (hpl : (backTo pos (starEach [.Name nm q] X.env)).any (·.1) = false := by rfl) (hn : nm ≠ "__name__" := by decide) (hdb : (nm == ("__debug__" : Str)) = false := by decide) :
    PE X (.Call (.Name "isinstance" p) [a, .Name nm q] [] pos) (tE c (m1 (fun d => (isiB t d).map D.bl) f)) := by
  have hb : PE X (.Name nm q) (tC (.ty t.name)) := pe_bltn hg2 hm2 hv rfl hn hdb
  refine PE.imp (pe_callB call_isi hg hm (by decide +kernel) (pa_cons ha (pa_cons hb pa_nil he2) he) (by decide) (by decide) he hpl) fun σ H Q q => ?_
  have k := un_imp (c := c) (fa := f) (op := fun d => (isiB t d).map D.bl) (r := fun x H Q => ∃ (t' : Value) (b : Bool), TyX X.K H x t' ∧ PySem.W.kitOne X.K t' (.type t.name) = some b ∧ Q (.bl b) H) (fun G H σ ρ m v d z j rv h Q q => by
    cases eb : isiB t d with
    | none => rw [eb] at h; cases h
    | some b =>
      rw [eb] at h; cases h
      obtain ⟨T, h1, h2⟩ := Rp.isi j.z.ex rv eb
      rw [hK]
      exact ⟨T, b, h1, h2, sc_ok j (.bl b) q⟩) σ H Q q
  obtain ⟨G, ρ, m, jj, kk⟩ := k
  refine ⟨G, ρ, m, jj, ?_⟩
  revert kk
  cases f ρ m with
  | stuck => exact id
  | ok x m' =>
    intro kk v G' H' mv j' r
    obtain ⟨t', b, h1, h2, h3⟩ := kk v G' H' mv j' r
    exact ⟨v, .ty t.name, t', _, b, rfl, .ty _, h1, h2, h3⟩
/-! ### subscripts -/
theorem RpL.atI {K : Fg} {G : Hp} {vs : List V} {ds : List D} {i : Int} {d : D} (r : RpL K G vs ds) (h : L2.atI ds i = some d) : ∃ v, L2.atI vs i = some v ∧ Rp K G v d := by
  unfold L2.atI at h ⊢
  rw [r.length]
  cases e : ixN ds.length i with
  | none => rw [e] at h; cases h
  | some k =>
    rw [e] at h
    exact r.get h
def ixD (d e : D) : Option D := match e with
  | .int i => (match d with
    | .tup ds => L2.atI ds i
    | .lst ds => L2.atI ds i
    | .str s => if s.length ≤ sizeLine then (L2.atI s.cps.toList i).map fun ch => .str ⟨#[ch]⟩ else none
    | _ => none)
  | _ => none
theorem o2_ix : Op2 c (rIx c.K) ixD := by
  intro G H σ ρ m v w d e z j rv rw_ h Q q
  unfold ixD at h
  split at h
  · cases rw_.int_inv
    split at h
    · obtain ⟨a, vs, rfl, s1, r1⟩ := rv.tup_inv
      obtain ⟨u, h1, h2⟩ := r1.atI h
      exact .inr (.inl ⟨a, vs, _, u, rfl, rfl, ex_t j.z.ex s1, h1, sc_ok j h2 q⟩)
    · obtain ⟨a, vs, rfl, s1, r1⟩ := rv.lst_inv
      obtain ⟨u, h1, h2⟩ := r1.atI h
      exact .inl ⟨a, vs, _, u, rfl, rfl, ex_l j.z.ex s1, h1, sc_ok j h2 q⟩
    · split at h
      · rename_i s hl
        cases rv.str_inv
        cases ea : L2.atI s.cps.toList _ with
        | none => rw [ea] at h; cases h
        | some ch => rw [ea] at h; cases h; exact .inr (.inr ⟨s, _, ch, rfl, rfl, hl, ea, sc_ok j (.str _) q⟩)
      · cases h
    · cases h
  · cases h
theorem pd_ix {a b : Expr} {pos : Pos} {fa fb : Me Vl} (hK : X.K = c.K) (ha : PE X a (tE c fa)) (hb : PE X b (tE c fb)) (hp : PlainIx b) : PE X (.Subscript a b pos) (tE c (m2 ixD fa fb)) := by
  refine PE.imp (pe_ix ix_seq ha hb hp) fun σ H Q q => ?_
  rw [hK]
  exact op_imp o2_ix σ H Q q
/-! ### slices -/
def cutL {α : Type} (xs : List α) (lo hi : Option Int) : List α := (xs.drop (HT.sIx xs.length 0 lo)).take (HT.sIx xs.length xs.length hi - HT.sIx xs.length 0 lo)
theorem RpL.cut {K : Fg} {G : Hp} {vs : List V} {ds : List D} (r : RpL K G vs ds) (lo hi : Option Int) : RpL K G (cutV vs lo hi) (cutL ds lo hi) := by
  unfold cutV cutL
  rw [r.length]
  exact (r.drop _).take _
def tOi (c : Ct) (f : Me (Option Int)) : TO := fun σ H Q => ∃ G ρ m, J c G H σ ρ m ∧ match f ρ m with
  | .stuck => False
  | .ok o m' => ∀ G' H', Mv c G H G' H' → J c G' H' σ ρ m' → Q o H'
theorem PO.imp {e : Option Expr} {t t' : TO} (h : PO X e t) (i : ∀ σ H Q, t' σ H Q → t σ H Q) : PO X e t' := ⟨fun pins s σ H Q I q => h.run pins s σ H Q I (i σ H Q q)⟩
def oN : Me (Option Int) := fun _ m => .ok none m
def oS (f : Me Vl) : Me (Option Int) := fun ρ m => (f ρ m).bind fun x m1 => match x with
  | .dat (.int i) => .ok (some i) m1
  | _ => .stuck
theorem pd_on : PO X none (tOi c oN) := PO.imp po_none fun σ H Q q => by
  obtain ⟨G, ρ, m, j, q⟩ := q
  exact q G H (Mv.refl c G H) j
theorem pd_os {e : Expr} {f : Me Vl} (h : PE X e (tE c f)) : PO X (some e) (tOi c (oS f)) := PO.imp (po_some h) fun σ H Q q => by
  obtain ⟨G, ρ, m, j, q⟩ := q
  unfold oS at q
  cases ea : f ρ m with
  | stuck => rw [ea] at q; exact q.elim
  | ok x m1 =>
    rw [ea] at q
    simp only [Ou.bind] at q
    refine tE_ok j ea fun v G1 H1 x1 j1 r1 => ?_
    cases x with
    | pool => exact q.elim
    | dat d =>
      cases d with
      | int i => cases Rp.int_inv r1; exact ⟨i, rfl, q G1 H1 x1 j1⟩
      | _ => exact q.elim
def mSl {α : Type} (k : D → Option Int → Option Int → List D → Ou α) (f : Me Vl) (lo hi : Me (Option Int)) : Me α := fun ρ m => (f ρ m).bind fun x m1 => (lo ρ m1).bind fun l m2 => (hi ρ m2).bind fun h m3 => match x with
  | .dat d => k d l h m3
  | _ => .stuck
def kSlL (d : D) (lo hi : Option Int) (m : List D) : Ou (List D) := match d with
  | .lst ds => .ok (cutL ds lo hi) m
  | _ => .stuck
theorem mSl_ok {α : Type} {k : D → Option Int → Option Int → List D → Ou α} {f : Me Vl} {lo hi : Me (Option Int)} {ρ : En} {m m' : List D} {z : α} (h : mSl k f lo hi ρ m = .ok z m') : ∃ d m1 l m2 u m3, f ρ m = .ok (.dat d) m1 ∧ lo ρ m1 = .ok l m2 ∧ hi ρ m2 = .ok u m3 ∧ k d l u m3 = .ok z m' := by
  unfold mSl at h
  cases ea : f ρ m with
  | stuck => simp only [ea, Ou.bind] at h; cases h
  | ok x m1 =>
    simp only [ea, Ou.bind] at h
    cases eb : lo ρ m1 with
    | stuck => simp only [eb] at h; cases h
    | ok l m2 =>
      simp only [eb] at h
      cases ec : hi ρ m2 with
      | stuck => simp only [ec] at h; cases h
      | ok u m3 =>
        simp only [ec] at h
        cases x with
        | pool => cases h
        | dat d => exact ⟨d, m1, l, m2, u, m3, rfl, eb, ec, h⟩
theorem pd_slL {e : Expr} {lo hi : Option Expr} {pos p2 : Pos} {f : Me Vl} {fl fh : Me (Option Int)} (hK : X.K = c.K) (h : PE X e (tE c f)) (hl : PO X lo (tOi c fl)) (hh : PO X hi (tOi c fh)) : PE X (.Subscript e (.Slice lo hi none p2) pos) (tL c (mSl kSlL f fl fh)) := by
  refine PE.imp (pe_slice sl_list h hl hh) fun σ H Q q => ?_
  obtain ⟨G, ρ, m, rs, m', j, e, q⟩ := tL_cases q
  obtain ⟨d, m1, l, m2, u, m3, ea, eb, ec, ek⟩ := mSl_ok e
  refine tE_ok j ea fun v G1 H1 x1 j1 r1 => ?_
  refine ⟨G1, ρ, m1, j1, ?_⟩
  rw [eb]
  intro G2 H2 x2 j2
  refine ⟨G2, ρ, m2, j2, ?_⟩
  rw [ec]
  intro G3 H3 x3 j3
  unfold kSlL at ek
  split at ek
  · cases ek
    obtain ⟨a, vs, rfl, s1, r1⟩ := Rp.lst_inv (Rp.mono (x2.trans x3).ex r1)
    rw [hK]
    refine ⟨a, vs, rfl, ex_l j3.z.ex s1, fun p hp => ?_⟩
    exact q p _ G3 _ (((x1.trans x2).trans x3).trans (Mv.newH hp)) (j3.ext hp rfl) (((x1.trans x2).trans x3).dm p hp) (j3.gn hp) upd_same (r1.cut l u)
  · cases ek
end
end Pd

set_option Elab.async false
set_option linter.all false
set_option maxRecDepth 100000
set_option maxHeartbeats 4000000
namespace Pd
open PySem L2
section
variable {X : Cx} {c : Ct}
/-! ### a list that stands by itself: new, or a slot's own -/
def tR (c : Ct) (f : Me (List D)) : TE := fun σ H Q => ∃ G ρ m, J c G H σ ρ m ∧ match f ρ m with
  | .stuck => False
  | .ok ds m' => ∀ a ws G' H', Mv c G H G' H' → J c G' H' σ ρ m' → c.P ≠ some a → H' a = some (.lst ws) → RpL c.K G' ws ds → Q (.ref a) H'
theorem tR_cases {f : Me (List D)} {σ : L2.St} {H : Hp} {Q : VK} (h : tR c f σ H Q) : ∃ G ρ m ds m', J c G H σ ρ m ∧ f ρ m = .ok ds m' ∧
    ∀ a ws G' H', Mv c G H G' H' → J c G' H' σ ρ m' → c.P ≠ some a → H' a = some (.lst ws) → RpL c.K G' ws ds → Q (.ref a) H' := by
  obtain ⟨G, ρ, m, j, q⟩ := h
  cases e : f ρ m with
  | stuck => rw [e] at q; exact q.elim
  | ok x m' => rw [e] at q; exact ⟨G, ρ, m, x, m', j, e, q⟩
theorem tR_ok {f : Me (List D)} {G H : Hp} {σ : L2.St} {ρ : En} {m m1 : List D} {ds : List D} {Q : VK} (j : J c G H σ ρ m) (e : f ρ m = .ok ds m1)
    (q : ∀ a ws G' H', Mv c G H G' H' → J c G' H' σ ρ m1 → c.P ≠ some a → H' a = some (.lst ws) → RpL c.K G' ws ds → Q (.ref a) H') : tR c f σ H Q := ⟨G, ρ, m, j, by rw [e]; exact q⟩
theorem pd_rL {e : Expr} {f : Me (List D)} (h : PE X e (tL c f)) : PE X e (tR c f) := by
  refine PE.imp h fun σ H Q q => ?_
  obtain ⟨G, ρ, m, ds, m', j, e, q⟩ := tR_cases q
  refine tL_ok j e fun a ws G1 H1 x1 j1 ha g1 h1 r1 => q a ws G1 H1 x1 j1 (fun e => ?_) h1 r1
  obtain ⟨⟨o, h0⟩, _⟩ := j.z.pl a e
  rw [j.h0 ha] at h0; cases h0
def mOwn (i : Nat) : Me (List D) := fun ρ m => match ρ[i]? with
  | some (.own ds) => .ok ds m
  | _ => .stuck
theorem mOwn_ok {i : Nat} {ρ : En} {m m' ds : List D} (h : mOwn i ρ m = .ok ds m') : ρ[i]? = some (.own ds) ∧ m' = m := by
  unfold mOwn at h
  split at h
  · cases h; exact ⟨by assumption, rfl⟩
  · cases h
theorem J.ownP {G H : Hp} {σ : L2.St} {ρ : En} {m : List D} (j : J c G H σ ρ m) {a : Addr} (h : c.H0 a = none) : c.P ≠ some a := fun e => by
  obtain ⟨⟨o, h0⟩, _⟩ := j.z.pl a e
  rw [h] at h0; cases h0
theorem pd_rO (i : Nat) {x : Str} {pos : Pos} (hN : X.N[i]? = some x := by rfl) (hv : Vis X.env.scope x := by first | exact Or.inl rfl | exact Or.inr (Or.inl rfl) | exact Or.inr (Or.inr rfl)) (hd : (x == ("__debug__" : Str)) = false := by decide)
    (hcd : (x == ("__classdict__" : Str)) = false := by decide) : PE X (.Name x pos) (tR c (mOwn i)) := by
  refine PE.imp (pe_var hN hv hd hcd) fun σ H Q q => ?_
  obtain ⟨G, ρ, m, ds, m', j, e, q⟩ := tR_cases q
  obtain ⟨e', rfl⟩ := mOwn_ok e
  obtain ⟨a, ws, h1, h2, h3, h4, h5⟩ := j.own i ds e'
  exact ⟨_, h1, q a ws G H (Mv.refl c G H) j (j.ownP h4) h2 h5⟩
def mCat (f g : Me (List D)) : Me (List D) := fun ρ m => (f ρ m).bind fun as m1 => (g ρ m1).bind fun bs m2 => if as.length + bs.length ≤ sizeLine then .ok (as ++ bs) m2 else .stuck
theorem pd_cat {a b : Expr} {pos : Pos} {f g : Me (List D)} (ha : PE X a (tR c f)) (hb : PE X b (tR c g)) : PE X (.BinOp a .Add b pos) (tL c (mCat f g)) := by
  refine PE.imp (pe_op op_cat ha hb) fun σ H Q q => ?_
  obtain ⟨G, ρ, m, ds, m', j, e, q⟩ := tL_cases q
  unfold mCat at e
  cases ea : f ρ m with
  | stuck => simp only [ea, Ou.bind] at e; cases e
  | ok as m1 =>
    simp only [ea, Ou.bind] at e
    cases eb : g ρ m1 with
    | stuck => simp only [eb] at e; cases e
    | ok bs m2 =>
      simp only [eb] at e
      split at e
      · rename_i hl
        cases e
        refine tR_ok j ea fun a1 ws G1 H1 x1 j1 p1 h1 r1 => ?_
        refine tR_ok j1 eb fun a2 us G2 H2 x2 j2 p2 h2 r2 => ?_
        refine ⟨a1, a2, ws, us, rfl, rfl, x2.kp a1 _ h1 p1, h2, by rw [r1.length, r2.length]; exact hl, fun p hp => ?_⟩
        exact q p _ G2 _ ((x1.trans x2).trans (Mv.newH hp)) (j2.ext hp rfl) ((x1.trans x2).dm p hp) (j2.gn hp) upd_same ((r1.mono x2.ex).append r2)
      · cases e
def mRep (f : Me (List D)) (g : Me Vl) : Me (List D) := fun ρ m => (f ρ m).bind fun as m1 => (g ρ m1).bind fun x m2 => match x with
  | .dat (.int k) => if -(2 ^ 63) ≤ k ∧ k < 2 ^ 63 ∧ as.length * k.toNat ≤ sizeLine then .ok (List.replicate k.toNat as).flatten m2 else .stuck
  | _ => .stuck
theorem RpL.rep {K : Fg} {G : Hp} {vs : List V} {ds : List D} (r : RpL K G vs ds) : ∀ n : Nat, RpL K G (List.replicate n vs).flatten (List.replicate n ds).flatten
  | 0 => .nil
  | n + 1 => by
    rw [List.replicate_succ, List.replicate_succ, List.flatten_cons, List.flatten_cons]
    exact r.append (r.rep n)
theorem pd_rep {a b : Expr} {pos : Pos} {f : Me (List D)} {g : Me Vl} (ha : PE X a (tR c f)) (hb : PE X b (tE c g)) : PE X (.BinOp a .Mult b pos) (tL c (mRep f g)) := by
  refine PE.imp (pe_op op_rep ha hb) fun σ H Q q => ?_
  obtain ⟨G, ρ, m, ds, m', j, e, q⟩ := tL_cases q
  unfold mRep at e
  cases ea : f ρ m with
  | stuck => simp only [ea, Ou.bind] at e; cases e
  | ok as m1 =>
    simp only [ea, Ou.bind] at e
    cases eb : g ρ m1 with
    | stuck => simp only [eb] at e; cases e
    | ok x m2 =>
      simp only [eb] at e
      refine tR_ok j ea fun a1 ws G1 H1 x1 j1 p1 h1 r1 => ?_
      refine tE_ok j1 eb fun w G2 H2 x2 j2 r2 => ?_
      split at e
      · split at e
        · rename_i k hl
          cases e
          cases Rp.int_inv r2
          refine ⟨a1, k, ws, rfl, rfl, x2.kp a1 _ h1 p1, hl.1, hl.2.1, by rw [r1.length]; exact hl.2.2, fun p hp => ?_⟩
          exact q p _ G2 _ ((x1.trans x2).trans (Mv.newH hp)) (j2.ext hp rfl) ((x1.trans x2).dm p hp) (j2.gn hp) upd_same ((r1.mono x2.ex).rep _)
        · cases e
      · cases e
/-- found[k], found a slot's own list -/
def mIxO (i : Nat) (g : Me Vl) : Me Vl := fun ρ m => (g ρ m).bind fun x m1 => match ρ[i]?, x with
  | some (.own ds), .dat (.int k) => (match L2.atI ds k with
    | some d => .ok (.dat d) m1
    | none => .stuck)
  | _, _ => .stuck
theorem pd_ixO (i : Nat) {x : Str} {b : Expr} {pos pos' : Pos} {g : Me Vl} (hK : X.K = c.K) (hb : PE X b (tE c g)) (hp : PlainIx b) (hN : X.N[i]? = some x := by rfl) (hv : Vis X.env.scope x := by first | exact Or.inl rfl | exact Or.inr (Or.inl rfl) | exact Or.inr (Or.inr rfl)) (hd : (x == ("__debug__" : Str)) = false := by decide)
    (hcd : (x == ("__classdict__" : Str)) = false := by decide) : PE X (.Subscript (.Name x pos') b pos) (tE c (mIxO i g)) := by
  refine PE.imp (pe_ix ix_list (pe_var hN hv hd hcd) hb hp) fun σ H Q q => ?_
  obtain ⟨G, ρ, m, z, m', j, e, q⟩ := tE_cases q
  unfold mIxO at e
  cases eb : g ρ m with
  | stuck => simp only [eb, Ou.bind] at e; cases e
  | ok y m1 =>
    simp only [eb, Ou.bind] at e
    split at e
    · rename_i ds k eo
      cases ea : L2.atI ds k with
      | none => simp only [ea] at e; cases e
      | some d =>
        simp only [ea] at e
        cases e
        obtain ⟨a, ws, h1, h2, h3, h4, h5⟩ := j.own i ds eo
        refine ⟨_, h1, ?_⟩
        refine tE_ok j eb fun w G1 H1 x1 j1 r1 => ?_
        cases Rp.int_inv r1
        obtain ⟨a', ws', h1', h2', h3', h4', h5'⟩ := j1.own i ds eo
        rw [h1] at h1'
        cases h1'
        obtain ⟨u, hu, ru⟩ := h5'.atI ea
        exact ⟨a, ws', k, u, rfl, rfl, sq_of h2', hu, q u G1 H1 x1 j1 ru⟩
    · cases e
/-! ### xs.append(e), xs a slot's own list -/
def sApp (i : Nat) (f : Me Vl) : Ms := fun ρ m => match f ρ m with
  | .ok (.dat d) m' => (match ρ[i]? with
    | some (.own ds) => if ds.length < sizeLine then .nx (ρ.set i (.own (ds ++ [d]))) m' else .stuck
    | _ => .stuck)
  | _ => .stuck
theorem J.grow {G H : Hp} {σ : L2.St} {ρ : En} {m : List D} (j : J c G H σ ρ m) {i : Nat} {ds es : List D} {a : Addr} {ws us : List V} (e : ρ[i]? = some (.own ds)) (h1 : σ[i]? = some (some (.ref a))) (g : G a = none) (h0 : c.H0 a = none) (r : RpL c.K G us es) : J c G (upd H a (.lst us)) σ (ρ.set i (.own es)) m := by
  have hl : i < ρ.length := (List.getElem?_eq_some_iff.mp e).1
  have out : ∀ {k : Nat} {s : Sl}, (ρ.set i (.own es))[k]? = some s → (i = k ∧ s = .own es) ∨ (i ≠ k ∧ ρ[k]? = some s) := by
    intro k s h
    by_cases hk : i = k
    · subst hk
      rw [List.getElem?_set_self hl] at h; cases h; exact .inl ⟨rfl, rfl⟩
    · rw [List.getElem?_set_ne hk] at h
      exact .inr ⟨hk, h⟩
  refine ⟨⟨fun b u q => ?_, j.z.le, j.z.fr, fun b u q n => ?_, fun p q => ?_⟩, fun k d q => ?_, fun k q => ?_, fun k fs q => ?_, fun k l fs gs b q1 q2 q3 q4 => ?_, by rw [List.length_set]; exact j.len⟩
  · rw [upd_ne (ne_of_none q g)]; exact j.z.ex b u q
  · rw [upd_ne (ne_of_none q h0)]; exact j.z.kp b u q n
  · obtain ⟨⟨u, h2⟩, g', vs, h3, h4⟩ := j.z.pl p q
    exact ⟨⟨u, h2⟩, g', vs, by rw [upd_ne (ne_of_none h2 h0)]; exact h3, h4⟩
  · rcases out q with ⟨_, q'⟩ | ⟨n, q'⟩
    · cases q'
    · exact j.val k d q'
  · rcases out q with ⟨_, q'⟩ | ⟨n, q'⟩
    · cases q'
    · exact j.pol k q'
  · rcases out q with ⟨rfl, q'⟩ | ⟨n, q'⟩
    · cases q'
      exact ⟨a, us, h1, upd_same, g, h0, r⟩
    · obtain ⟨b, vs, e1, e2, e3, e4, e5⟩ := j.own k fs q'
      refine ⟨b, vs, e1, ?_, e3, e4, e5⟩
      rw [upd_ne]
      · exact e2
      · rintro rfl; exact n (j.dis i k ds fs b e q' h1 e1)
  · rcases out q1 with ⟨rfl, q1'⟩ | ⟨n1, q1'⟩
    · rcases out q2 with ⟨rfl, q2'⟩ | ⟨n2, q2'⟩
      · rfl
      · rw [h1] at q3; cases q3
        exact absurd (j.dis i l ds gs _ e q2' h1 q4) n2
    · rcases out q2 with ⟨rfl, q2'⟩ | ⟨n2, q2'⟩
      · rw [h1] at q4; cases q4
        exact absurd (j.dis i k ds fs _ e q1' h1 q3) n1
      · exact j.dis k l fs gs b q1' q2' q3 q4
theorem pd_app (i : Nat) {x : Str} {e : Expr} {p1 p2 p3 p4 : Pos} {f : Me Vl} (he : PE X e (tE c f)) (hN : X.N[i]? = some x := by rfl) (hv : Vis X.env.scope x := by first | exact Or.inl rfl | exact Or.inr (Or.inl rfl) | exact Or.inr (Or.inr rfl)) (hd : (x == ("__debug__" : Str)) = false := by decide)
    (hcd : (x == ("__classdict__" : Str)) = false := by decide) (h1 : attributeBase (.Name x p1) "append" X.env (eval (.Name x p1) X.env) = eval (.Name x p1) X.env := by rfl)
    (h2 : (((((backTo p3 (starEach [e] X.env)).all fun x => !x.fst) && (backToKw p3 (keywordEach [] X.env)).all fun x => x.fst.isSome) && decide (([e].length + ([] : List Keyword).length + if ([] : List Keyword).isEmpty = true then 0 else 1) < 30)) = true) := by rfl) (h3 : (p2.endLine == p3.line) = true := by rfl)
    (h4 : starEach [e] X.env = (false, eval e X.env) :: starEach [] X.env := by rfl) (h5 : ((backTo p3 (starEach [] X.env)).any fun x => x.fst) = false := by rfl) (hs : swapsWith (.Call (.Attribute (.Name x p1) "append" p2) [e] [] p3) none p4.line X.env = pure false := by rfl) :
    PS X (.Expr (.Call (.Attribute (.Name x p1) "append" p2) [e] [] p3) p4) (tS c (sApp i f)) := by
  refine PS.imp (ps_expr (pe_bm PySem.F.plainAttrs_list PySem.F.slot_list_append PySem.F.type_list_append mt_append (pe_var hN hv hd hcd) (pa_cons he pa_nil h4) h1 h2 h3 h4 h5) hs) fun D' σ H q => ?_
  obtain ⟨G, ρ, m, j, q⟩ := q
  unfold sApp at q
  cases ef : f ρ m with
  | stuck => rw [ef] at q; exact q.elim
  | ok y m' =>
    rw [ef] at q
    cases y with
    | pool => exact q.elim
    | dat d =>
      simp only at q
      cases eo : ρ[i]? with
      | none => rw [eo] at q; exact q.elim
      | some s =>
        rw [eo] at q
        cases s with
        | own ds =>
          simp only at q
          by_cases hl : ds.length < sizeLine
          · rw [if_pos hl] at q
            obtain ⟨a, ws, e1, e2, e3, e4, e5⟩ := j.own i ds eo
            refine ⟨_, e1, .inl ⟨rfl, _, sq_of e2⟩, ?_⟩
            refine tE_ok j ef fun v G1 H1 x1 j1 r1 => ?_
            obtain ⟨a', ws', e1', e2', e3', e4', e5'⟩ := j1.own i ds eo
            rw [e1] at e1'
            cases e1'
            refine ⟨a, ws', v, rfl, rfl, e2', by rw [e5'.length]; exact hl, ?_⟩
            exact q σ G1 _ x1.ex (j1.grow (ws := ws') eo e1 e3' e4' (e5'.snoc r1))
          · rw [if_neg hl] at q; exact q.elim
        | _ => exact q.elim
/-! ### texts -/
def stxs : List D → Option (List Str)
  | [] => some []
  | .str s :: r => (stxs r).map fun ss => s :: ss
  | _ :: _ => none
theorem stxs_ok {K : Fg} {G : Hp} : ∀ {ds : List D} {ss : List Str} {vs : List V}, stxs ds = some ss → RpL K G vs ds → vs = ss.map V.str
  | [], ss, _, e, .nil => by cases e; rfl
  | d :: r, ss, _, e, .cons h t => by
    cases d with
    | str b =>
      unfold stxs at e
      cases q : stxs r with
      | none => rw [q] at e; cases e
      | some es => rw [q] at e; cases e; cases h.str_inv; rw [stxs_ok q t]; rfl
    | _ => cases e
def joinD (d e : D) : Option D := match d with
  | .str a => (match e with
    | .lst ds => (match stxs ds with
      | some ys => if (ys.map (·.length)).sum + ys.length * a.length ≤ 16777216 then some (.str (Txt.join a ys)) else none
      | none => none)
    | .tup ds => (match stxs ds with
      | some ys => if (ys.map (·.length)).sum + ys.length * a.length ≤ 16777216 then some (.str (Txt.join a ys)) else none
      | none => none)
    | _ => none)
  | _ => none
theorem joinD_ok {d e z : D} (h : joinD d e = some z) : ∃ a ds ys, d = .str a ∧ (e = .lst ds ∨ e = .tup ds) ∧ stxs ds = some ys ∧ (ys.map (·.length)).sum + ys.length * a.length ≤ 16777216 ∧ z = .str (Txt.join a ys) := by
  unfold joinD at h
  split at h
  · split at h
    · split at h
      · split at h
        · cases h; exact ⟨_, _, _, rfl, .inl rfl, by assumption, by assumption, rfl⟩
        · cases h
      · cases h
    · split at h
      · split at h
        · cases h; exact ⟨_, _, _, rfl, .inr rfl, by assumption, by assumption, rfl⟩
        · cases h
      · cases h
    · cases h
  · cases h
theorem pd_join {o e : Expr} {apos pos : Pos} {f g : Me Vl} (hK : X.K = c.K) (ho : PE X o (tE c f)) (he : PE X e (tE c g)) (h1 : starEach [e] X.env = [(false, eval e X.env)] := by rfl) (h2 : attributeBase o "join" X.env (eval o X.env) = eval o X.env := by rfl) (h3 : (apos.endLine == pos.line) = true := by rfl) :
    PE X (.Call (.Attribute o "join" apos) [e] [] pos) (tE c (m2 joinD f g)) := by
  refine PE.imp (pe_join ho he h1 h2 h3) fun σ H Q q => ?_
  obtain ⟨G, ρ, m, x, m', j, e, q⟩ := tE_cases q
  obtain ⟨d, e', z, m1, ea, eb, eo, rfl⟩ := m2_ok e
  obtain ⟨a, ds, ys, rfl, hd, es, hl, rfl⟩ := joinD_ok eo
  refine tE_ok j ea fun v G1 H1 x1 j1 r1 => ?_
  cases Rp.str_inv r1
  refine ⟨⟨_, rfl⟩, tE_ok j1 eb fun w G2 H2 x2 j2 r2 => ?_⟩
  rcases hd with rfl | rfl
  · obtain ⟨p, vs, rfl, s1, r2⟩ := Rp.lst_inv r2
    have e2 := stxs_ok es r2
    subst e2
    exact ⟨a, p, ys, rfl, rfl, .inl (by rw [hK]; exact ex_l j2.z.ex s1), hl, q _ G2 H2 (x1.trans x2) j2 (Rp.str _)⟩
  · obtain ⟨p, vs, rfl, s1, r2⟩ := Rp.tup_inv r2
    have e2 := stxs_ok es r2
    subst e2
    exact ⟨a, p, ys, rfl, rfl, .inr (by rw [hK]; exact ex_t j2.z.ex s1), hl, q _ G2 H2 (x1.trans x2) j2 (Rp.str _)⟩
def mSplit (f g : Me Vl) : Me (List D) := fun ρ m => (f ρ m).bind fun x m1 => (g ρ m1).bind fun y m2 => match x, y with
  | .dat (.str a), .dat (.str b) => if (b.length == 0) = false ∧ a.length + 2 ≤ sizeLine then .ok ((Txt.split a b).map D.str) m2 else .stuck
  | _, _ => .stuck
theorem rp_stxs {K : Fg} {G : Hp} : ∀ ss : List Str, RpL K G (ss.map V.str) (ss.map D.str)
  | [] => .nil
  | s :: r => .cons (.str s) (rp_stxs r)
theorem pd_split {o e : Expr} {apos pos : Pos} {f g : Me Vl} (ho : PE X o (tE c f)) (he : PE X e (tE c g)) (h1 : starEach [e] X.env = [(false, eval e X.env)] := by rfl) (h2 : attributeBase o "split" X.env (eval o X.env) = eval o X.env := by rfl) (h3 : (apos.endLine == pos.line) = true := by rfl) :
    PE X (.Call (.Attribute o "split" apos) [e] [] pos) (tL c (mSplit f g)) := by
  refine PE.imp (pe_split ho he h1 h2 h3) fun σ H Q q => ?_
  obtain ⟨G, ρ, m, ds, m', j, e, q⟩ := tL_cases q
  unfold mSplit at e
  cases ea : f ρ m with
  | stuck => simp only [ea, Ou.bind] at e; cases e
  | ok x m1 =>
    simp only [ea, Ou.bind] at e
    cases eb : g ρ m1 with
    | stuck => simp only [eb] at e; cases e
    | ok y m2 =>
      simp only [eb] at e
      split at e
      · split at e
        · rename_i a b hb
          cases e
          refine tE_ok j ea fun v G1 H1 x1 j1 r1 => ?_
          cases Rp.str_inv r1
          refine ⟨⟨_, rfl⟩, tE_ok j1 eb fun w G2 H2 x2 j2 r2 => ?_⟩
          cases Rp.str_inv r2
          refine ⟨a, b, rfl, rfl, hb.1, hb.2, fun p hp => ?_⟩
          exact q p _ G2 _ ((x1.trans x2).trans (Mv.newH hp)) (j2.ext hp rfl) ((x1.trans x2).dm p hp) (j2.gn hp) upd_same (rp_stxs _)
        · cases e
      · cases e
/-- s * n -/
def rMulS : R2 := fun x y H Q => ∃ z n, x = .str z ∧ y = .int n ∧ MulOk z n ∧ Q (.str (Txt.mul z n)) H
theorem op_mulS : OpR X (binaryOp .Mult) rMulS := by
  intro pins s σ H x y v u Q I rx ry h
  obtain ⟨z, n, rfl, rfl, ok, q⟩ := h
  obtain ⟨t, rfl⟩ := rx
  obtain ⟨t', rfl⟩ := ry
  exact SB.mul ok fun t' k => ⟨.str _, H, I.tok k, ⟨_, rfl⟩, q⟩
def mulD (d e : D) : Option D := match d, e with
  | .int a, .int b => if sm64 a || sm64 b then some (.int (a * b)) else none
  | .str s, .int n => if s.length ≤ 100 ∧ n ≤ 10000 ∧ -(2 ^ 63 : Int) ≤ n then some (.str (Txt.mul s n)) else none
  | _, _ => none
theorem o2_mul : Op2 c (fun x y H Q => rI CMul (fun i j => .int (i * j)) x y H Q ∨ rMulS x y H Q) mulD := by
  intro G H σ ρ m v w d e z j rv rw_ h Q q
  unfold mulD at h
  split at h
  · split at h
    · cases h; cases rv.int_inv; cases rw_.int_inv
      exact .inl ⟨_, _, rfl, rfl, cmul (by assumption), sc_ok j (.int _) q⟩
    · cases h
  · split at h
    · rename_i hb
      cases h; cases rv.str_inv; cases rw_.int_inv
      exact .inr ⟨_, _, rfl, rfl, PyProof.Rows.mulOk_of 100 10000 hb.1 (by have := hb.2.1; omega) hb.2.2 (by decide) (by decide), sc_ok j (.str _) q⟩
    · cases h
  · cases h
theorem pd_mul {a b : Expr} {pos : Pos} {fa fb : Me Vl} (ha : PE X a (tE c fa)) (hb : PE X b (tE c fb)) : PE X (.BinOp a .Mult b pos) (tE c (m2 mulD fa fb)) :=
  pd_op (OpR.or op_mul op_mulS) o2_mul ha hb
end
end Pd

set_option Elab.async false
set_option linter.all false
set_option maxRecDepth 100000
set_option maxHeartbeats 4000000
namespace Pd
open PySem L2
section
variable {X : Cx} {c : Ct}
/-! ### match over written texts -/
def eqTx : D → Str → Option Bool
  | .str s, z => some (decide (s = z))
  | .int _, _ => some false
  | .bl _, _ => some false
  | .non, _ => some false
  | _, _ => none
def mcs (d : D) : List (Str × Ms) → Ms
  | [], ρ, m => .nx ρ m
  | (z, f) :: r, ρ, m => match eqTx d z with
    | some true => f ρ m
    | some false => mcs d r ρ m
    | none => .stuck
/-- what is wanted behind a statement's outcome -/
def Wants (c : Ct) (D' : Ends) (G : Hp) : So → Prop
  | .stuck => False
  | .nx ρ' m' => ∀ σ' G' H', Ex G G' → J c G' H' σ' ρ' m' → D'.nx σ' H'
  | .rt d m' => ∀ v G' H', J0 c G' H' m' → Rp c.K G' v d → D'.rt v H'
  | .bk ρ' m' => ∀ σ' G' H', Ex G G' → J c G' H' σ' ρ' m' → D'.bk σ' H'
  | .ct ρ' m' => ∀ σ' G' H', Ex G G' → J c G' H' σ' ρ' m' → D'.ct σ' H'
theorem tS_wants {f : Ms} {G H : Hp} {σ : L2.St} {ρ : En} {m : List D} {D' : Ends} (j : J c G H σ ρ m) (w : Wants c D' G (f ρ m)) : tS c f D' σ H := by
  refine ⟨G, ρ, m, j, ?_⟩
  cases e : f ρ m <;> (rw [e] at w; exact w)
theorem wants_tS {f : Ms} {σ : L2.St} {H : Hp} {D' : Ends} (q : tS c f D' σ H) : ∃ G ρ m, J c G H σ ρ m ∧ Wants c D' G (f ρ m) := by
  obtain ⟨G, ρ, m, j, q⟩ := q
  refine ⟨G, ρ, m, j, ?_⟩
  cases e : f ρ m <;> (rw [e] at q; exact q)
theorem Wants.more {D' : Ends} {G G1 : Hp} {o : So} (x : Ex G G1) (w : Wants c D' G o) : Wants c D' G1 o := by
  cases o with
  | stuck => exact w
  | rt d m' => exact w
  | nx ρ' m' => exact fun σ' G' H' x' j' => w σ' G' H' (x.trans x') j'
  | bk ρ' m' => exact fun σ' G' H' x' j' => w σ' G' H' (x.trans x') j'
  | ct ρ' m' => exact fun σ' G' H' x' j' => w σ' G' H' (x.trans x') j'
structure PMc (X : Cx) (c : Ct) (cs : List MatchCase) (fs : List (Str × Ms)) : Prop where
  run : ∀ (pins : List (Addr × Obj)) (s : Shared) (σ : L2.St) (H : Hp) (D' : Ends) (G : Hp) (ρ : En) (m : List D) (v : Value) (x : V) (d : D) (first : Bool), Inv X pins σ H s → RelV x v → J c G H σ ρ m → Rp c.K G x d → Wants c D' G (mcs d fs ρ m) →
    wpAny (model X.prog X.w) X.A (matchCases cs X.env v first) (SP X pins D') X.xe s
theorem pmc_nil : PMc X c [] [] := ⟨fun pins s σ H D' G ρ m v x d first I rx j r w => wpAny_matchCases_nil ⟨σ, H, I, w σ G H (Ex.refl G) j⟩⟩
theorem pmc_cons {z : Str} {k : Nat} {p1 p2 : Pos} {body : List Stmt} {rest : List MatchCase} {f : Ms} {fs : List (Str × Ms)} (hb : PSs X body (tS c f)) (hr : PMc X c rest fs) : PMc X c (⟨.MatchValue (.Constant (.str z) k p1) p2, none, body⟩ :: rest) ((z, f) :: fs) := by
  refine ⟨fun pins s σ H D' G ρ m v x d first I rx j r w => ?_⟩
  refine wpAny_matchCases_cons (wpAny_matchPattern_Value (thn (pe_str.run pins s σ H (fun y H1 => y = .str z ∧ H1 = H) I ⟨rfl, rfl⟩) fun u s1 ⟨y, H1, I1, ry, hy, hH⟩ => ?_))
  subst hy hH
  unfold mcs at w
  cases eb : eqTx d z with
  | none => rw [eb] at w; exact w.elim
  | some b =>
    rw [eb] at w
    -- d is flat here
    have hsc : scal x (.str z) = true ∧ decide (x = .str z) = b := by
      cases r with
      | str s => simp only [eqTx, Option.some.injEq] at eb; exact ⟨rfl, by rw [← eb]; simp⟩
      | int i => simp only [eqTx, Option.some.injEq] at eb; exact ⟨rfl, by rw [← eb]; simp⟩
      | bl i => simp only [eqTx, Option.some.injEq] at eb; exact ⟨rfl, by rw [← eb]; simp⟩
      | non => simp only [eqTx, Option.some.injEq] at eb; exact ⟨rfl, by rw [← eb]; simp⟩
      | tup => cases eb
      | lst => cases eb
      | obj => cases eb
      | dct => cases eb
    refine thn (op_eq pins s1 σ H1 x (.str z) v u (fun r H2 => r = .bl b ∧ H2 = H1) I1 rx ry ⟨hsc.1, by rw [hsc.2]; exact ⟨rfl, rfl⟩⟩) fun cv s2 ⟨r2, H2, I2, rr, e1, e2⟩ => ?_
    subst e1 e2
    cases rr
    refine wpAny_truthy_bool ?_
    cases b with
    | true =>
      exact wpAny_assignInOrder_none (hb.run pins s2 σ H2 D' I2 (tS_wants j w))
    | false =>
      exact hr.run pins s2 σ H2 D' G ρ m v x d false I2 rx j r w
def sMatch (f : Me Vl) (fs : List (Str × Ms)) : Ms := fun ρ m => match f ρ m with
  | .ok (.dat d) m' => mcs d fs ρ m'
  | _ => .stuck
theorem pd_match {e : Expr} {cs : List MatchCase} {pos : Pos} {f : Me Vl} {fs : List (Str × Ms)} (he : PE X e (tE c f)) (hm : PMc X c cs fs) : PS X (.Match e cs pos) (tS c (sMatch f fs)) := by
  refine ⟨fun pins s σ H D' I q => ?_⟩
  obtain ⟨G, ρ, m, j, w⟩ := wants_tS q
  unfold sMatch at w
  cases ef : f ρ m with
  | stuck => rw [ef] at w; exact w.elim
  | ok x m' =>
    rw [ef] at w
    cases x with
    | pool => exact w.elim
    | dat d =>
      refine wpAny_Match (thn (he.run pins s σ H (fun v H1 => ∃ G1, Ex G G1 ∧ J c G1 H1 σ ρ m' ∧ Rp c.K G1 v d) I (tE_ok j ef fun v G1 H1 x1 j1 r1 => ⟨G1, x1.ex, j1, r1⟩)) fun v s1 ⟨y, H1, I1, ry, G1, x1, j1, r1⟩ => ?_)
      exact hm.run pins s1 σ H1 D' G1 ρ m' v y d true I1 ry j1 r1 (w.more x1)
/-! ### fields, methods, properties of an own class's objects -/
def fldD (C : Addr) (f : Str) : D → Option D
  | .obj C' gs => if C' = C then gs.lookup f else none
  | _ => none
theorem pd_fld {C : Addr} {e : Expr} {f : Str} {pos : Pos} {g : Me Vl} (hK : X.K = c.K) (cl : Cls X.K C) (na : NoAttr X.K C f) (he : PE X e (tE c g)) (hb : attributeBase e f X.env (eval e X.env) = eval e X.env := by rfl) : PE X (.Attribute e f pos) (tE c (m1 (fldD C f) g)) := by
  refine PE.imp (pe_fld he hb) fun σ H Q q => ?_
  refine un_imp (r := fun x H1 Q => ∃ a C dx fs v, x = .ref a ∧ H1 a = some (.ins C dx fs) ∧ Cls X.K C ∧ NoAttr X.K C f ∧ fs.lookup f = some v ∧ Q v H1) (fun G H σ ρ m v d z j rv h Q kk => ?_) σ H Q q
  unfold fldD at h
  split at h
  · split at h
    · rename_i C' gs e
      subst e
      obtain ⟨a, dx, fs, rfl, h1, r1⟩ := rv.obj_inv
      obtain ⟨u, h2, h3⟩ := r1.look h
      exact ⟨a, _, dx, fs, u, rfl, j.z.ex _ _ h1, cl, na, h2, sc_ok j h3 kk⟩
    · cases h
  · cases h
structure Mt (P : Program) (w : World) (K : Fg) (mg : Str → Option Value) (base : Heap) (k : Nat) (C : Addr) (m : Str) (n : Nat) (f : Fn) : Prop where
  ex : ∃ (a : Addr) (fd : FuncData) (ps : List Str), Cls K C ∧ Meth K C m a ∧ Binds K fd ps [] ∧ ps.length = n ∧ FnG P w K mg base k a fd ps (spF K f)
structure Pt (P : Program) (w : World) (K : Fg) (mg : Str → Option Value) (base : Heap) (k : Nat) (C : Addr) (m : Str) (f : Fn) : Prop where
  ex : ∃ (p g : Addr) (fd : FuncData) (ps : List Str), Cls K C ∧ PropOf K C m p g ∧ Binds K fd ps [] ∧ FnG P w K mg base k g fd ps (spF K f)
def mMeth0 (C : Addr) (mn : Str) (f : Fn) (g : Me Vl) : Me Vl := fun ρ m => (g ρ m).bind fun x m1 => match x with
  | .dat (.obj C' gs) => if C' = C ∧ gs.lookup mn = none then (f [.dat (.obj C' gs)] m1).bind fun d m2 => .ok (.dat d) m2 else .stuck
  | _ => .stuck
theorem mMeth0_ok {C : Addr} {mn : Str} {f : Fn} {g : Me Vl} {ρ : En} {m m' : List D} {z : Vl} (h : mMeth0 C mn f g ρ m = .ok z m') : ∃ gs m1 d, g ρ m = .ok (.dat (.obj C gs)) m1 ∧ gs.lookup mn = none ∧ f [.dat (.obj C gs)] m1 = .ok d m' ∧ z = .dat d := by
  unfold mMeth0 at h
  cases ea : g ρ m with
  | stuck => simp only [ea, Ou.bind] at h; cases h
  | ok x m1 =>
    simp only [ea, Ou.bind] at h
    split at h
    · split at h
      · rename_i C' gs e
        obtain ⟨rfl, e2⟩ := e
        cases ef : f [.dat (.obj C' gs)] m1 with
        | stuck => simp only [ef] at h; cases h
        | ok d m2 => simp only [ef] at h; cases h; exact ⟨gs, m1, d, rfl, e2, ef, rfl⟩
      · cases h
    · cases h
theorem pd_meth0 {k l n : Nat} {C : Addr} {mn : Str} {f : Fn} {o : Expr} {apos pos : Pos} {g : Me Vl} {pl : Sem Bool} (F : Mt X.prog X.w X.K X.mg X.base k C mn n f) (hK : X.K = c.K) (hr : Rm l X.A) (hk : k ≤ l) (ho : PE X o (tE c g))
    (ht : eval (.Call (.Attribute o mn apos) [] [] pos) X.env = (do
      let ov ← eval o X.env
      standAt apos.atName
      let (f, first) ← holding [ov] (getMethod ov mn pl)
      callWith pos f first (backTo pos (starEach [] X.env)) (backToKw pos (keywordEach [] X.env))) := by rfl) : PE X (.Call (.Attribute o mn apos) [] [] pos) (tE c (mMeth0 C mn f g)) := by
  obtain ⟨a, fd, ps, cl, me, b, _, F⟩ := F.ex
  refine PE.imp (ge_meth0 (pl := pl) ho cl me F (hr.mono hk) b .nil ht) fun σ H Q q => ?_
  obtain ⟨G, ρ, m, x, m', j, e, q⟩ := tE_cases q
  obtain ⟨gs, m1, d, eg, el, ef, rfl⟩ := mMeth0_ok e
  refine tE_ok j eg fun v G1 H1 x1 j1 r1 => ?_
  obtain ⟨a', dx, fs, rfl, h1, r2⟩ := Rp.obj_inv r1
  refine ⟨a', dx, fs, rfl, j1.z.ex _ _ h1, r2.none el, ?_⟩
  have s := j1.sp (f := f) (E := E0) (Q := Q) (vs := [.ref a']) (.cons r1 .nil) ef fun v G' H' x2 j2 r2 => q v G' H' (x1.trans x2) j2 r2
  rw [← hK] at s
  exact s
def mProp (C : Addr) (f : Fn) (g : Me Vl) : Me Vl := fun ρ m => (g ρ m).bind fun x m1 => match x with
  | .dat (.obj C' gs) => if C' = C then (f [.dat (.obj C' gs)] m1).bind fun d m2 => .ok (.dat d) m2 else .stuck
  | _ => .stuck
theorem mProp_ok {C : Addr} {f : Fn} {g : Me Vl} {ρ : En} {m m' : List D} {z : Vl} (h : mProp C f g ρ m = .ok z m') : ∃ gs m1 d, g ρ m = .ok (.dat (.obj C gs)) m1 ∧ f [.dat (.obj C gs)] m1 = .ok d m' ∧ z = .dat d := by
  unfold mProp at h
  cases ea : g ρ m with
  | stuck => simp only [ea, Ou.bind] at h; cases h
  | ok x m1 =>
    simp only [ea, Ou.bind] at h
    split at h
    · split at h
      · rename_i C' gs e
        subst e
        cases ef : f [.dat (.obj C' gs)] m1 with
        | stuck => simp only [ef] at h; cases h
        | ok d m2 => simp only [ef] at h; cases h; exact ⟨gs, m1, d, rfl, ef, rfl⟩
      · cases h
    · cases h
theorem pd_prop {k l : Nat} {C : Addr} {mn : Str} {f : Fn} {o : Expr} {pos : Pos} {g : Me Vl} (F : Pt X.prog X.w X.K X.mg X.base k C mn f) (hK : X.K = c.K) (hr : Rm l X.A) (hk : k + 1 ≤ l) (ho : PE X o (tE c g)) (hb : attributeBase o mn X.env (eval o X.env) = eval o X.env := by rfl) : PE X (.Attribute o mn pos) (tE c (mProp C f g)) := by
  obtain ⟨p, gg, fd, ps, cl, po, b, F⟩ := F.ex
  refine PE.imp (ge_prop ho cl po F (hr.mono hk) b .nil hb) fun σ H Q q => ?_
  obtain ⟨G, ρ, m, x, m', j, e, q⟩ := tE_cases q
  obtain ⟨gs, m1, d, eg, ef, rfl⟩ := mProp_ok e
  refine tE_ok j eg fun v G1 H1 x1 j1 r1 => ?_
  obtain ⟨a', dx, fs, rfl, h1, r2⟩ := Rp.obj_inv r1
  refine ⟨a', dx, fs, rfl, j1.z.ex _ _ h1, ?_⟩
  have s := j1.sp (f := f) (E := E0) (Q := Q) (vs := [.ref a']) (.cons r1 .nil) ef fun v G' H' x2 j2 r2 => q v G' H' (x1.trans x2) j2 r2
  rw [← hK] at s
  exact s
end
end Pd

set_option Elab.async false
set_option linter.all false
set_option maxRecDepth 100000
set_option maxHeartbeats 4000000
/-! enumerate of a tuple, over the hand layer -/
namespace PySem
open Sem (wp)
open AutoSeq1 (wpAny_loadPart')
theorem meets_enumerate_new1 {v : Value} {o : Obj} {H : Heap → Prop} (B : Begins v o H) :
    Meets (Builtin.«enumerate.__new__» ⟨[.type "enumerate", v], []⟩) (fun _ R s => H s.heap ∧
      R (.ok (.ret (.ref (s.heap.push o).objs.size))) { s with heap := (s.heap.push o).push { cls := .type "enumerate", data := .fields #[.none, .bool false, .ref s.heap.objs.size, rawInt 0, .none, .none] } }) :=
  .of_wp fun prog w A R s h => by
    obtain ⟨hp, g, d, tk, os⟩ := s; obtain ⟨h1, h⟩ := h
    have hsub := sub_enumerate
    have q1 : ∀ {A' : Around} {E : Value → Shared → Prop} {Q : Value → Shared → Prop}, Q (.ref hp.objs.size) ⟨hp.push o, g, d, tk, os⟩ → wpAny (model prog w) A' (pyIter v) Q E ⟨hp, g, d, tk, os⟩ :=
      fun q => B.iter prog w _ _ ⟨hp, g, d, tk, os⟩ _ h1 q
    wp_walk using q1
    refine wpAny_stack_any fun st => wpAny_pure ?_
    split
    · rename_i c _ _ _ _ _
      cases (c == Value.type "enumerate")
      · wp_walk using q1
        exact ⟨_, rfl, h⟩
      · wp_walk using q1
        exact ⟨_, rfl, h⟩
    · wp_walk using q1
      exact ⟨_, rfl, h⟩
section
variable {prog : Program} {w : World} {A : Around} {E : Value → Shared → Prop} {s : Shared}
theorem call_enum_of {v : Value} {o : Obj} {H : Heap → Prop} {Q : Value → Shared → Prop} (B : Begins v o H) (h1 : H s.heap)
    (h : ∀ h', IsEnum h' (s.heap.objs.size + 1) s.heap.objs.size 0 .none → h'.get? s.heap.objs.size = some o → h'.objs.size = s.heap.objs.size + 2 →
      (∀ b o, s.heap.get? b = some o → h'.get? b = some o) → Q (.ref (s.heap.objs.size + 1)) { s with heap := h' }) :
    wpAny (model prog w) A (call (.type "enumerate") [v]) Q E s := by
  refine callType_new F.called_enumerate (by decide) (F.typeCall_enumerate_1 _) (F.newCall_enumerate_1 _) (fun obj => F.args_object_init_2 obj _) F.entry_enumerate_new
    (meets_enumerate_new1 B) ⟨h1, ?_⟩
  have hz : (s.heap.push o).objs.size = s.heap.objs.size + 1 := Heap.size_push ..
  show _ ∧ _
  rw [hz]
  have he : IsEnum ((s.heap.push o).push { cls := .type "enumerate", data := .fields #[.none, .bool false, .ref s.heap.objs.size, rawInt 0, .none, .none] }) (s.heap.objs.size + 1) s.heap.objs.size 0 .none := by
    have := Heap.get?_push_size (s.heap.push o) (o := { cls := .type "enumerate", data := .fields #[.none, .bool false, .ref s.heap.objs.size, rawInt 0, .none, .none] }) rfl
    rw [hz] at this; exact this
  refine ⟨⟨_, he, rfl⟩, h _ he (Heap.get?_push_of_some _ (Heap.get?_push_size _ B.free)) (by rw [Heap.size_push, hz]) fun b o x => Heap.get?_push_of_some _ (Heap.get?_push_of_some _ x)⟩
end
end PySem
namespace L2
open PySem PySem.Spec PyProof.Rows
def IteT (K : PySem.W.Frag) (a : Addr) : It :=
  ⟨fun i H => ∃ (xs : List V) (x : V), SqT K H a xs ∧ xs[i]? = some x, fun i H v H' => ∃ T x us, v = .ref T ∧ H T = none ∧ H' = upd H T (.frz (Pd.tupO us) (.tup [.int (i : Nat), x])) ∧ ∀ xs, SqT K H a xs → xs[i]? = some x, fun i H => ∃ xs : List V, SqT K H a xs ∧ xs.length ≤ i⟩
theorem turn_enumT {P : Program} {w : World} {K : PySem.W.Frag} {elts : List Expr} {kk : Nat} {tpos : Pos} (a e it : Addr) (hat : a ≠ it) (hae : a ≠ e) :
    Turn P w K (.Tuple elts kk tpos) (IteT K a) [e, it] e (fun i h => (∃ old, IsEnum h e it ((i : Nat) : Int) old) ∧ h.IsTupleIter it a i ∧ e ≠ it) where
  mem := by simp
  obj := fun i h st b hb => by
    obtain ⟨⟨old, he⟩, ⟨o, ho, hc, hd⟩, _⟩ := st
    have e' : b = e ∨ b = it := by simpa using hb
    rcases e' with z | z
    · rw [z]; exact ⟨_, he, fun v q => nomatch q⟩
    · rw [z]; exact ⟨o, ho, fun v q => by rw [hd] at q; cases q⟩
  keep := fun i h h' st k => let ⟨⟨old, he⟩, hi, hne⟩ := st; ⟨⟨old, k e (by simp) _ he⟩, hi.at fun o q => k it (by simp) o q, hne⟩
  item := by
    intro X hP hw hK hc i pins s σ H E I hf st hg
    subst hP hw hK
    obtain ⟨⟨old, he⟩, hit, hne⟩ := st
    obtain ⟨xs, x, hq, hx⟩ := hg
    obtain ⟨its, rv, p, hz⟩ := I.tuple hq
    obtain ⟨u, hu, ru⟩ := rv.get hx
    have hel : e < s.heap.objs.size := Heap.lt_size he
    have hil : it < s.heap.objs.size := by obtain ⟨_, q, _⟩ := hit; exact Heap.lt_size q
    have hD := Draws.tuple (prog := X.prog) (w := X.w) (A := X.A.in1) (I.ok.hd hc) it a hat its.toArray
    have hi : i < its.toArray.size := by
      have := (List.getElem?_eq_some_iff.mp hu).1
      simpa using this
    refine wpAny_pyNext_enum_itemD hD he ⟨hit, p⟩ hi hne (by simp; exact ⟨hne, Ne.symm hae⟩) fun y h' tk hy ho hst hT hsz hk => ?_
    have ey : y = u := by
      have hu' : its.toArray[i]? = some u := by simpa using hu
      rw [hu'] at hy
      exact (Option.some.inj hy).symm
    subst ey
    refine ⟨_, rfl, wpAny_letOwnedTupleGo_enum (s := { s with heap := h', toks := tk + 1 }) ho fun h'' he' sb => ?_⟩
    have hT2 : h''.get? s.heap.objs.size = some { cls := .type "tuple", data := .seq #[.int i tk, y] } := (sb.2 _ (Nat.ne_of_gt hel)).trans hT
    have new : ObjOk X.prog X.w (upd H s.heap.objs.size (.frz (Pd.tupO [.int i tk, y]) (.tup [.int (i : Nat), x]))) h'' s.heap.objs.size (.frz (Pd.tupO [.int i tk, y]) (.tup [.int (i : Nat), x])) :=
      ⟨hT2, by show 2 ≤ sizeLine; decide, [.int i tk, y], .cons ⟨_, rfl⟩ (.cons ru .nil), ⟨_, hT2, rfl, _, rfl⟩⟩
    have I1 : Inv X pins σ (upd H s.heap.objs.size (.frz (Pd.tupO [.int i tk, y]) (.tup [.int (i : Nat), x]))) { s with heap := h'', toks := tk + 1 } :=
      I.turnedNew (ch := [e, it]) (fun b ob hb q => (sb.2 b (fun z => hb (by simp [z]))).trans (hk b ob (fun z => hb (by simp [z])) (fun z => hb (by simp [z])) q)) hf (Nat.le_refl _) new
    refine ⟨.ref s.heap.objs.size, _, I1, rfl, ⟨_, x, _, rfl, I.hok.fresh (Nat.le_refl _), rfl, fun ys hy => by rw [I.tuple_inj hy hq]; exact hx⟩, ⟨⟨y, ?_⟩, hst.1.at fun o q => (sb.2 it (Ne.symm hne)).trans q, hne⟩, fun b hb => ?_⟩
    · have e1 : ((i + 1 : Nat) : Int) = (i : Int) + 1 := by omega
      rw [e1]; exact he'
    · have hb' : b < s.heap.objs.size := by
        have e' : b = e ∨ b = it := by simpa using hb
        rcases e' with z | z
        · rw [z]; exact hel
        · rw [z]; exact hil
      rw [upd_ne (Nat.ne_of_lt hb')]
      exact (hf b hb).1
  done := by
    intro X hP hw hK hc i pins s σ H E I hf st hg
    subst hP hw hK
    obtain ⟨⟨old, he⟩, hit, hne⟩ := st
    obtain ⟨xs, hq, hx⟩ := hg
    obtain ⟨its, rv, p, hz⟩ := I.tuple hq
    obtain ⟨f0, f1, f2, f3, f4, f5⟩ := hf it (by simp)
    have hl := rv.length
    have hn : its.toArray[i]? = none := by simp; omega
    have hT : s.TypeIs (.ref e) "enumerate" := ⟨_, he, rfl⟩
    unfold pyNext
    refine wpAny_bind (wpAny_attempt (wpAny_callSpecial?_slot (name := Str.ofString "__next__") hT F.slot_enumerate_next
      (wpAny_call_entry F.slot_enumerate_next hT F.entry_enumerate_next ?_ (F.args_enumerate_next_1 _))))
    show wpAny _ _ (field (.ref e) 2 >>= _) _ _ _
    refine wpAny_bind (wpAny_field he rfl (x := .ref it) rfl ?_)
    refine wpAny_bind (wpAny_nextOf_tuple_end (A := X.A.in1) (I.ok.hd hc) hit p hn fun h' x he' hx' => ?_)
    obtain ⟨o, ho, hc'⟩ := hx'
    refine wpAny_bind (wpAny_isInstance (T := "StopIteration") (b := true) ⟨o, ho, hc'⟩ isSubtype_stop ?_)
    exact wpAny_pure ⟨rfl, I.turned (t' := s.toks) (fun b o hb q => he' b o hb q) f0 f1 f3 f4 f5⟩
  self := fun A i s Q E st h => let ⟨⟨_, he⟩, _⟩ := st; wpAny_pyIter_enum he h
def iEnumT (K : PySem.W.Frag) (ta : TA) : TI := fun σ H R => ta σ H fun vs H1 => ∃ a xs, vs = [.ref a] ∧ SqT K H1 a xs ∧ R (IteT K a) H1
theorem pi_enumT {X : Cx} {e : Expr} {ta : TA} {p pos tpos : Pos} {elts : List Expr} {kk : Nat} (hg : Gl X "enumerate") (hm : X.mg "enumerate" = none) (ha : PA X [e] ta) (hs : starEach [e] X.env = [(false, eval e X.env)] := by rfl) :
    PI X (.Tuple elts kk tpos) (.Call (.Name "enumerate" p) [e] [] pos) (iEnumT X.K ta) := by
  refine ⟨fun pins s σ H R I h => ?_⟩
  refine Call_ (ld_blt I hg hm boot_enumerate (PyProof.Rows.callWith_type1 (thn (ha.run pos pins s σ H _ I h) fun us s1 ⟨vs, H1, I1, r1, q1⟩ => ?_) hs rfl))
  obtain ⟨a, xs, ex, hq, q⟩ := q1
  subst ex
  cases r1 with
  | cons r rr =>
    cases rr
    cases r
    obtain ⟨its, rv, p', hz⟩ := I1.tuple hq
    have hlt : a < s1.heap.objs.size := by obtain ⟨o, ho, _⟩ := p'; exact Heap.lt_size ho
    refine call_enum_of (begins_tuple a its.toArray) p' fun h' he hit hsz hk => wpAny_pyIter_enum he ?_
    have I2 : Inv X pins σ H1 { s1 with heap := h' } := I1.kept (t' := s1.toks) hk
    have hi2 : h'.IsTupleIter s1.heap.objs.size a 0 := ⟨_, hit, rfl, rfl⟩
    refine ⟨s1.heap.objs.size + 1, [s1.heap.objs.size + 1, s1.heap.objs.size], _, _, H1, rfl, I2, turn_enumT a (s1.heap.objs.size + 1) s1.heap.objs.size (Nat.ne_of_lt hlt) (Nat.ne_of_lt (Nat.lt_succ_of_lt hlt)), ⟨⟨.none, he⟩, hi2, Nat.succ_ne_self _⟩, fun b hb => ?_, q⟩
    have e' : b = s1.heap.objs.size + 1 ∨ b = s1.heap.objs.size := by simpa using hb
    have hle : s1.heap.objs.size ≤ b := by
      rcases e' with z | z
      · rw [z]; exact Nat.le_add_right _ _
      · rw [z]; exact Nat.le_refl _
    exact I1.fpOk hle (I1.hok.fresh hle)
theorem walk_enumT {K : PySem.W.Frag} {a : Addr} {xs : List V} : Walk (IteT K a) xs.length (fun H => SqT K H a xs) (fun i H v H' => ∃ T us y, v = .ref T ∧ H T = none ∧ H' = upd H T (.frz (Pd.tupO us) (.tup [.int (i : Nat), y])) ∧ xs[i]? = some y) := by
  refine ⟨fun i _ hi q => ⟨xs, xs[i], q, by simp [hi]⟩, fun _ q => ⟨xs, q, Nat.le_refl _⟩, fun i H v H' _ q y => ?_⟩
  obtain ⟨T, x, us, h1, h2, h3, h4⟩ := y
  exact ⟨T, us, x, h1, h2, h3, h4 xs q⟩
end L2
namespace Pd
open PySem L2
section
variable {X : Cx} {c : Ct}
/-- the pairs of enumerate -/
def enumL : Nat → List D → List D
  | _, [] => []
  | k, d :: ds => .tup [.int (k : Int), d] :: enumL (k + 1) ds
theorem enumL_len : ∀ (k : Nat) (ds : List D), (enumL k ds).length = ds.length
  | _, [] => rfl
  | k, d :: ds => by show (enumL (k + 1) ds).length + 1 = _; rw [enumL_len (k + 1) ds]; rfl
theorem enumL_get : ∀ (k : Nat) (ds : List D) (i : Nat), (enumL k ds)[i]? = ds[i]?.map fun d => .tup [.int ((k + i : Nat) : Int), d]
  | _, [], i => by simp [enumL]
  | k, d :: ds, 0 => by simp [enumL]
  | k, d :: ds, i + 1 => by
    show (enumL (k + 1) ds)[i]? = ds[i]?.map _
    rw [enumL_get (k + 1) ds i, show k + 1 + i = k + (i + 1) by omega]
theorem wk_enumT {G : Hp} {a : Addr} {vs : List V} {ds : List D} (s : SqT c.K G a vs) (r : RpL c.K G vs ds) : WkD c G (IteT c.K a) (enumL 0 ds) := by
  have hl := enumL_len 0 ds
  refine ⟨fun i H hi e => ?_, fun H e => ?_, fun i H x H' hi e y => ?_⟩
  · exact walk_enumT.goes i H (by rw [r.length]; rw [hl] at hi; exact hi) (ex_t e s)
  · rw [hl, ← r.length]; exact walk_enumT.stops H (ex_t e s)
  · obtain ⟨T, us, w, h1, h2, h3, h5⟩ := walk_enumT.yields i H x H' (by rw [r.length]; rw [hl] at hi; exact hi) (ex_t e s) y
    obtain ⟨d, h6, h7⟩ := r.getV h5
    refine ⟨.tup [.int (i : Int), d], by rw [enumL_get, h6]; simp, .inr ⟨T, _, us, _, h1, h2, h3, rfl, .cons (.int _) (.cons h7 .nil)⟩⟩
def mItE (f : Me (List D)) : Me (List D) := fun ρ m => (f ρ m).bind fun ds m1 => .ok (enumL 0 ds) m1
theorem mItE_ok {f : Me (List D)} {ρ : En} {m m' : List D} {ds : List D} (h : mItE f ρ m = .ok ds m') : ∃ es, f ρ m = .ok es m' ∧ ds = enumL 0 es := by
  unfold mItE at h
  cases ea : f ρ m with
  | stuck => simp only [ea, Ou.bind] at h; cases h
  | ok a m1 => simp only [ea, Ou.bind] at h; cases h; exact ⟨a, rfl, rfl⟩
theorem pi_eT {e : Expr} {elts : List Expr} {kk : Nat} {p pos tpos : Pos} {f : Me Vl} (hK : X.K = c.K) (hg : Gl X "enumerate") (hm : X.mg "enumerate" = none) (h : PE X e (tE c f)) (hs : starEach [e] X.env = [(false, eval e X.env)] := by rfl) :
    PI X (.Tuple elts kk tpos) (.Call (.Name "enumerate" p) [e] [] pos) (tI c (mItE (mItT f))) := by
  refine PI.imp (pi_enumT hg hm (pa_cons h pa_nil hs) hs) fun σ H R q => ?_
  obtain ⟨G, ρ, m, ds, m', j, e, q⟩ := tI_cases q
  obtain ⟨es, e', rfl⟩ := mItE_ok e
  refine tE_ok j (mItT_ok e') fun v G1 H1 x1 j1 r1 => ?_
  obtain ⟨a, vs, rfl, s1, r1⟩ := Rp.tup_inv r1
  rw [hK]
  exact ⟨a, vs, rfl, ex_t j1.z.ex s1, q _ G1 H1 x1 j1 (wk_enumT s1 r1)⟩
end
end Pd

set_option Elab.async false
set_option linter.all false
set_option maxRecDepth 100000
set_option maxHeartbeats 4000000
namespace Pd
open PySem L2
/-! f'{x:<10}' of a text, f'{n:>10}' of an int -/
def padR (x : Str) : Str := if 10 ≤ x.length then x else Builtin.Str.padded (Builtin.Str.strSub x 0 x.length) 0 (10 - (Builtin.Str.strSub x 0 x.length).length) 32
theorem padR_cps (x : Str) : (padR x).cps.toList = x.cps.toList ++ List.replicate (10 - x.length) 32 := by
  unfold padR
  by_cases h : 10 ≤ x.length
  · rw [if_pos h, show 10 - x.length = 0 by omega]; simp
  · rw [if_neg h]
    have e : Builtin.Str.strSub x 0 x.length = x := by
      unfold Builtin.Str.strSub
      obtain ⟨a⟩ := x
      congr
      show a.extract 0 a.size = a
      simp
    rw [e]
    show (Array.replicate 0 32 ++ x.cps ++ Array.replicate (10 - x.length) 32).toList = _
    simp
theorem len_cps (x : Str) : x.length = x.cps.toList.length := by simp [Str.length]
theorem padR_len {x : Str} (h : x.length ≤ 100) : (padR x).length ≤ sizeLine := by
  rw [len_cps, padR_cps, List.length_append, List.length_replicate, ← len_cps, sizeLine_eq]
  omega
open Builtin Builtin.Str in
theorem fmt_meets {x : Str} {t : Tok} (h : x.length ≤ 100) : ∀ u, Meets («str.__format__» ⟨[.str x t, .str "<10" u], []⟩) (fun _ R s => ∀ t' k, R (.ok (.ret (.str (padR x) t'))) { s with toks := k }) := by
  intro u
  apply PySem.W.KPc.meets_of
  intro prog w A s Q E hQ
  unfold Builtin.«str.__format__»
  refine wpAny_bind (wpAny_of_eq (a := (_, _, _)) rfl ?_)
  refine wpAny_bind (wpAny_of_eq (a := some _) rfl ?_)
  refine wpAny_ite (PySem.W.KPc.ite_no (by decide +kernel) ?_)
  refine wpAny_ite (PySem.W.KPc.ite_no (by decide +kernel) ?_)
  refine wpAny_bind (PySem.W.KXf.cut_str ?_)
  have hp : Float.parseFormatSpec (Str.ofString "<10").cps.toList "str" 60 = .ok ⟨32, 60, none, false, false, some 10, none, none, none⟩ := by kernel_rfl
  have hb : ((Str.ofString "<10").cps.back? == some 0) = false := by decide +kernel
  have hk : (do
      let f ← Float.parseFormatSpec (Str.ofString "<10").cps.toList "str" 60
      have f : Float.FormatSpec :=
        if (f.type.isNone && (Str.ofString "<10").cps.back? == some 0) = true then
          { fill := f.fill, align := f.align, sign := f.sign, noNeg0 := f.noNeg0, alt := f.alt, width := f.width,
            grouping := f.grouping, precision := f.precision, type := some 0 }
        else f
      if tooLong (f.width.getD 0) = true then (pure none : Except String (Option (Option Str)))
        else do
          let __do_lift ← strField x f "str"
          pure (some __do_lift)) = .ok (some (if 10 ≤ x.length then none else some (Builtin.Str.padded (Builtin.Str.strSub x 0 x.length) 0 (10 - (Builtin.Str.strSub x 0 x.length).length) 32))) := by
    rw [hp]
    simp only [bind, Except.bind, hb, Bool.and_false, Bool.false_eq_true, if_false, Option.getD_some]
    rw [if_neg (by decide +kernel)]
    have h2 : strField x ⟨32, 60, none, false, false, some 10, none, none, none⟩ "str" = .ok (if 10 ≤ x.length then none else some (Builtin.Str.padded (Builtin.Str.strSub x 0 x.length) 0 (10 - (Builtin.Str.strSub x 0 x.length).length) 32)) := by
      unfold strField
      by_cases hx : 10 ≤ x.length
      · rw [if_pos hx]
        simp [bind, Except.bind, pure, Except.pure, hx]
      · rw [if_neg hx]
        simp [bind, Except.bind, pure, Except.pure, hx]
    rw [h2]
    rfl
  dsimp only
  rw [hk]
  by_cases hx : 10 ≤ x.length
  · have e : padR x = x := by unfold padR; rw [if_pos hx]
    rw [e] at hQ
    rw [if_pos hx]
    exact wpAny_bind (wpAny_rule (wpAny_pure (hQ t s.toks)))
  · have e := padR_len h
    have e2 : padR x = Builtin.Str.padded (Builtin.Str.strSub x 0 x.length) 0 (10 - (Builtin.Str.strSub x 0 x.length).length) 32 := by unfold padR; rw [if_neg hx]
    rw [if_neg hx, ← e2]
    exact PySem.W.KXf.ret_text rfl e hQ
def fmtI (i : Int) : Option Str :=
  if i = 0 then some "         0" else
  if i = 1 then some "         1" else
  if i = 2 then some "         2" else
  if i = (-1) then some "        -1" else
  if i = 3 then some "         3" else
  if i = 7 then some "         7" else
  if i = 30 then some "        30" else
  if i = (-1000000000000) then some "-1000000000000" else
  if i = 10000000000000 then some "10000000000000" else
  if i = 1000000000000 then some "1000000000000" else
  none
theorem fmtI_ok {i : Int} {y : Str} (h : fmtI i = some y) : ∀ (t : Tok) (u : Tok), Meets (Builtin.«int.__format__» ⟨[.int i t, .str ">10" u], []⟩) (fun _ R s => ∀ t' k, R (.ok (.ret (.str y t'))) { s with toks := k }) := by
  unfold fmtI at h
  split at h
  · rename_i e
    subst e
    cases h
    intro t
    kxf_run_i
  split at h
  · rename_i e
    subst e
    cases h
    intro t
    kxf_run_i
  split at h
  · rename_i e
    subst e
    cases h
    intro t
    kxf_run_i
  split at h
  · rename_i e
    subst e
    cases h
    intro t
    kxf_run_i
  split at h
  · rename_i e
    subst e
    cases h
    intro t
    kxf_run_i
  split at h
  · rename_i e
    subst e
    cases h
    intro t
    kxf_run_i
  split at h
  · rename_i e
    subst e
    cases h
    intro t
    kxf_run_i
  split at h
  · rename_i e
    subst e
    cases h
    intro t
    kxf_run_i
  split at h
  · rename_i e
    subst e
    cases h
    intro t
    kxf_run_i
  split at h
  · rename_i e
    subst e
    cases h
    intro t
    kxf_run_i
  cases h
end Pd

set_option Elab.async false
set_option linter.all false
set_option maxRecDepth 100000
set_option maxHeartbeats 4000000
namespace Pd
open PySem L2
section
variable {X : Cx} {c : Ct}
theorem te_eq {a b : Expr} {pos : Pos} {fa fb : Me Vl} {k : Nat} (hK : X.K = c.K) (hr : Rm k X.A) (ha : PE X a (tE c fa)) (hb : PE X b (tE c fb)) : PT X (.Compare a [.Eq] [b] pos) (tB c (mTb (m2 eqD fa fb))) :=
  pd_tcmp (OpR.or op_eq (op_eqD hr.units)) (by rw [hK]; exact o2_eq) ha hb (nomark _)
theorem te_ne {a b : Expr} {pos : Pos} {fa fb : Me Vl} {k : Nat} (hK : X.K = c.K) (hr : Rm k X.A) (ha : PE X a (tE c fa)) (hb : PE X b (tE c fb)) : PT X (.Compare a [.NotEq] [b] pos) (tB c (mTb (m2 neD fa fb))) :=
  pd_tcmp (OpR.or op_ne (op_neD hr.units)) (by rw [hK]; exact o2_ne) ha hb (nomark _)
theorem te_lt {a b : Expr} {pos : Pos} {fa fb : Me Vl} (ha : PE X a (tE c fa)) (hb : PE X b (tE c fb)) : PT X (.Compare a [.Lt] [b] pos) (tB c (mTb (m2 ltD fa fb))) := pd_tcmp or_lt o2_ord ha hb (nomark _)
theorem te_le {a b : Expr} {pos : Pos} {fa fb : Me Vl} (ha : PE X a (tE c fa)) (hb : PE X b (tE c fb)) : PT X (.Compare a [.LtE] [b] pos) (tB c (mTb (m2 leD fa fb))) := pd_tcmp or_le o2_ord ha hb (nomark _)
theorem te_gt {a b : Expr} {pos : Pos} {fa fb : Me Vl} (ha : PE X a (tE c fa)) (hb : PE X b (tE c fb)) : PT X (.Compare a [.Gt] [b] pos) (tB c (mTb (m2 gtD fa fb))) := pd_tcmp or_gt o2_ord ha hb (nomark _)
theorem te_ge {a b : Expr} {pos : Pos} {fa fb : Me Vl} (ha : PE X a (tE c fa)) (hb : PE X b (tE c fb)) : PT X (.Compare a [.GtE] [b] pos) (tB c (mTb (m2 geD fa fb))) := pd_tcmp or_ge o2_ord ha hb (nomark _)
theorem te_in {a b : Expr} {pos : Pos} {fa fb : Me Vl} (hK : X.K = c.K) (ha : PE X a (tE c fa)) (hb : PE X b (tE c fb)) (hm : behindInMarks .In b = false := by rfl) : PT X (.Compare a [.In] [b] pos) (tB c (mTb (m2 inD fa fb))) :=
  pd_tcmp (OpR.or op_in_seq op_in_sign) (by rw [hK]; exact o2_in) ha hb hm
theorem te_nin {a b : Expr} {pos : Pos} {fa fb : Me Vl} (hK : X.K = c.K) (ha : PE X a (tE c fa)) (hb : PE X b (tE c fb)) (hm : behindInMarks .NotIn b = false := by rfl) : PT X (.Compare a [.NotIn] [b] pos) (tB c (mTb (m2 ninD fa fb))) :=
  pd_tcmp (OpR.or op_notIn_seq op_notIn_sign) (by rw [hK]; exact o2_nin) ha hb hm
theorem pd_lele {a b e : Expr} {pos : Pos} {fa fb fc : Me Vl} (ha : PE X a (tE c fa)) (hb : PE X b (tE c fb)) (hc : PE X e (tE c fc)) (hm : lastMarks [.LtE, .LtE] [b, e] = false := by rfl) : PE X (.Compare a [.LtE, .LtE] [b, e] pos) (tE c (mCh leD leD fa fb fc)) :=
  pd_chain or_le or_le o2_ord o2_ord ha hb hc hm
/-- never reached -/
theorem pd_nev {e : Expr} : PE X e (tE c fun _ _ => .stuck) := ⟨fun pins s σ H D' I h => by obtain ⟨G, ρ, m, j, q⟩ := h; exact q.elim⟩
def Gc (K : Fg) (mg : Str → Option Value) (x : Str) (d : D) : Prop := ∃ v u, mg x = some u ∧ RelV v u ∧ ∀ G, Rp K G v d
theorem pd_gc {x : Str} {d : D} {pos : Pos} (hK : X.K = c.K) (h : Gc X.K X.mg x d) (hg : Gl X x) (hdb : (x == ("__debug__" : Str)) = false := by decide) : PE X (.Name x pos) (tE c (mC d)) := by
  obtain ⟨v, u, h1, h2, h3⟩ := h
  exact pd_c (pe_glob hg h1 h2 hdb) (by rw [← hK]; exact h3)
/-! ### formats -/
theorem pd_fmtS {e : Expr} {k1 : Nat} {p1 p2 p3 pos : Pos} {f : Me Vl} (he : PE X e (tE c f)) :
    PE X (.JoinedStr [.FormattedValue e (-1) (some (.JoinedStr [.Constant (.str "<10") k1 p1] p2)) p3] pos) (tE c (m1 (fun d => match d with | .str x => if x.length ≤ 100 then some (.str (padR x)) else none | _ => none) f)) := by
  refine pe_joined1 ⟨fun pins s σ H Q I h => ?_⟩
  have h2 := un_imp (c := c) (fa := f) (r := fun x H Q => ∃ y : Str, x = .str y ∧ y.length ≤ 100 ∧ Q (.str (padR y)) H) (fun G H σ ρ m v d z j rv h Q kk => by
    split at h
    · split at h
      · cases h; cases rv.str_inv; exact ⟨_, rfl, by assumption, sc_ok j (.str _) kk⟩
      · cases h
    · cases h) σ H Q h
  refine wpAny_FormattedValue_spec (thn (he.run pins s σ H _ I h2) fun v s1 ⟨x, H1, I1, rx, y, ex, hy, q⟩ => ?_)
  subst ex
  obtain ⟨t, rfl⟩ := rx
  refine thn ((pe_joined1 pe_str).run pins s1 σ H1 (fun v H2 => v = .str "<10" ∧ H2 = H1) I1 ⟨rfl, rfl⟩) fun v s2 ⟨x2, H2, I2, rx2, e1, e2⟩ => ?_
  subst e1 e2
  obtain ⟨t2, rfl⟩ := rx2
  refine ⟨_, _, rfl, PySem.W.KXf.field_str rfl rfl (by decide +kernel) (by decide +kernel) (fmt_meets hy) fun t' k => ?_⟩
  exact ⟨.str _, H2, I2.tok k, ⟨_, rfl⟩, q⟩
theorem pd_fmtI {e : Expr} {k1 : Nat} {p1 p2 p3 pos : Pos} {f : Me Vl} (he : PE X e (tE c f)) :
    PE X (.JoinedStr [.FormattedValue e (-1) (some (.JoinedStr [.Constant (.str ">10") k1 p1] p2)) p3] pos) (tE c (m1 (fun d => match d with | .int i => (fmtI i).map D.str | _ => none) f)) := by
  refine pe_joined1 ⟨fun pins s σ H Q I h => ?_⟩
  have h2 := un_imp (c := c) (fa := f) (r := fun x H Q => ∃ (i : Int) (y : Str), x = .int i ∧ fmtI i = some y ∧ Q (.str y) H) (fun G H σ ρ m v d z j rv h Q kk => by
    split at h
    · rename_i i
      cases ef : fmtI i with
      | none => rw [ef] at h; cases h
      | some y => rw [ef] at h; cases h; cases rv.int_inv; exact ⟨_, y, rfl, ef, sc_ok j (.str _) kk⟩
    · cases h) σ H Q h
  refine wpAny_FormattedValue_spec (thn (he.run pins s σ H _ I h2) fun v s1 ⟨x, H1, I1, rx, i, y, ex, hy, q⟩ => ?_)
  subst ex
  obtain ⟨t, rfl⟩ := rx
  refine thn ((pe_joined1 pe_str).run pins s1 σ H1 (fun v H2 => v = .str ">10" ∧ H2 = H1) I1 ⟨rfl, rfl⟩) fun v s2 ⟨x2, H2, I2, rx2, e1, e2⟩ => ?_
  subst e1 e2
  obtain ⟨t2, rfl⟩ := rx2
  refine ⟨_, _, rfl, PySem.W.KXf.field_int rfl (by decide +kernel) (by decide +kernel) (fmtI_ok hy t) fun t' k => ?_⟩
  exact ⟨.str _, H2, I2.tok k, ⟨_, rfl⟩, q⟩
/-! ### the built-ins by their names -/
structure Bt (mg : Str → Option Value) : Prop where
  len : mg "len" = none
  all : mg "all" = none
  any : mg "any" = none
  max : mg "max" = none
  min : mg "min" = none
  abs : mg "abs" = none
  divmod : mg "divmod" = none
  isinstance : mg "isinstance" = none
  range : mg "range" = none
  enumerate : mg "enumerate" = none
  int : mg "int" = none
  bool : mg "bool" = none
  str : mg "str" = none
  tuple : mg "tuple" = none
  list : mg "list" = none
theorem pb_len {p pos : Pos} {e : Expr} {es : List Expr} {g : Me (List Vl)} (hK : X.K = c.K) (hc : X.calm = true) (hg : Gl X "len") (hm : X.mg "len" = none) (ha : PA X (e :: es) (tAs c g))
    (he : starEach (e :: es) X.env = (false, eval e X.env) :: starEach es X.env := by rfl) (hpl : (backTo pos (starEach es X.env)).any (·.1) = false := by rfl) : PE X (.Call (.Name "len" p) (e :: es) [] pos) (tE c (mB lenD g)) :=
  pd_B call_len (by rw [hK]; exact cs_len) hg hm (by decide +kernel) ha (by decide) (by decide) he hpl
theorem pb_all {p pos : Pos} {e : Expr} {es : List Expr} {g : Me (List Vl)} (hK : X.K = c.K) (hc : X.calm = true) (hg : Gl X "all") (hm : X.mg "all" = none) (ha : PA X (e :: es) (tAs c g))
    (he : starEach (e :: es) X.env = (false, eval e X.env) :: starEach es X.env := by rfl) (hpl : (backTo pos (starEach es X.env)).any (·.1) = false := by rfl) : PE X (.Call (.Name "all" p) (e :: es) [] pos) (tE c (mB allD g)) :=
  pd_B (cr_all hc) (by rw [hK]; exact cs_all) hg hm (by decide +kernel) ha (by decide) (by decide) he hpl
theorem pb_any {p pos : Pos} {e : Expr} {es : List Expr} {g : Me (List Vl)} (hK : X.K = c.K) (hc : X.calm = true) (hg : Gl X "any") (hm : X.mg "any" = none) (ha : PA X (e :: es) (tAs c g))
    (he : starEach (e :: es) X.env = (false, eval e X.env) :: starEach es X.env := by rfl) (hpl : (backTo pos (starEach es X.env)).any (·.1) = false := by rfl) : PE X (.Call (.Name "any" p) (e :: es) [] pos) (tE c (mB anyD g)) :=
  pd_B (cr_any hc) (by rw [hK]; exact cs_any) hg hm (by decide +kernel) ha (by decide) (by decide) he hpl
theorem pb_max {p pos : Pos} {e : Expr} {es : List Expr} {g : Me (List Vl)} (hK : X.K = c.K) (hc : X.calm = true) (hg : Gl X "max") (hm : X.mg "max" = none) (ha : PA X (e :: es) (tAs c g))
    (he : starEach (e :: es) X.env = (false, eval e X.env) :: starEach es X.env := by rfl) (hpl : (backTo pos (starEach es X.env)).any (·.1) = false := by rfl) : PE X (.Call (.Name "max" p) (e :: es) [] pos) (tE c (mB maxD g)) :=
  pd_B (call_max2 hc) cs_max hg hm (by decide +kernel) ha (by decide) (by decide) he hpl
theorem pb_min {p pos : Pos} {e : Expr} {es : List Expr} {g : Me (List Vl)} (hK : X.K = c.K) (hc : X.calm = true) (hg : Gl X "min") (hm : X.mg "min" = none) (ha : PA X (e :: es) (tAs c g))
    (he : starEach (e :: es) X.env = (false, eval e X.env) :: starEach es X.env := by rfl) (hpl : (backTo pos (starEach es X.env)).any (·.1) = false := by rfl) : PE X (.Call (.Name "min" p) (e :: es) [] pos) (tE c (mB minD g)) :=
  pd_B (call_min2 hc) cs_min hg hm (by decide +kernel) ha (by decide) (by decide) he hpl
theorem pb_abs {p pos : Pos} {e : Expr} {es : List Expr} {g : Me (List Vl)} (hK : X.K = c.K) (hc : X.calm = true) (hg : Gl X "abs") (hm : X.mg "abs" = none) (ha : PA X (e :: es) (tAs c g))
    (he : starEach (e :: es) X.env = (false, eval e X.env) :: starEach es X.env := by rfl) (hpl : (backTo pos (starEach es X.env)).any (·.1) = false := by rfl) : PE X (.Call (.Name "abs" p) (e :: es) [] pos) (tE c (mB absD g)) :=
  pd_B call_abs cs_abs hg hm (by decide +kernel) ha (by decide) (by decide) he hpl
theorem pb_tuple {p pos : Pos} {e : Expr} {es : List Expr} {g : Me (List Vl)} (hK : X.K = c.K) (hc : X.calm = true) (hg : Gl X "tuple") (hm : X.mg "tuple" = none) (ha : PA X (e :: es) (tAs c g))
    (he : starEach (e :: es) X.env = (false, eval e X.env) :: starEach es X.env := by rfl) (hpl : (backTo pos (starEach es X.env)).any (·.1) = false := by rfl) : PE X (.Call (.Name "tuple" p) (e :: es) [] pos) (tE c (mB tupleD g)) :=
  pd_BT call_tupleF (by rw [hK]; exact cs_tuple) hg hm (by decide +kernel) ha (by decide) (by decide) he hpl
theorem pb_str {p pos : Pos} {e : Expr} {es : List Expr} {g : Me (List Vl)} (hK : X.K = c.K) (hc : X.calm = true) (hg : Gl X "str") (hm : X.mg "str" = none) (ha : PA X (e :: es) (tAs c g))
    (he : starEach (e :: es) X.env = (false, eval e X.env) :: starEach es X.env := by rfl) (hpl : (backTo pos (starEach es X.env)).any (·.1) = false := by rfl) : PE X (.Call (.Name "str" p) (e :: es) [] pos) (tE c (mB strD g)) :=
  pd_BT call_str_int cs_str hg hm (by decide +kernel) ha (by decide) (by decide) he hpl
theorem pb_int {p pos : Pos} {e : Expr} {es : List Expr} {g : Me (List Vl)} (hK : X.K = c.K) (hc : X.calm = true) (hg : Gl X "int") (hm : X.mg "int" = none) (ha : PA X (e :: es) (tAs c g))
    (he : starEach (e :: es) X.env = (false, eval e X.env) :: starEach es X.env := by rfl) (hpl : (backTo pos (starEach es X.env)).any (·.1) = false := by rfl) : PE X (.Call (.Name "int" p) (e :: es) [] pos) (tE c (mB intD g)) :=
  pd_BT call_int1 cs_int hg hm (by decide +kernel) ha (by decide) (by decide) he hpl
theorem fn_pd' {P : Program} {w : World} {K : Fg} {mg : Str → Option Value} {base : Heap} {x qual : Str} {st : Stmt} {a : Addr} {fd : FuncData} {N ps : List Str} {k np n : Nat} {sem : Ms} (F : Fun K x qual st a fd) (S : FnScope N ps (defScope st)) (hp : ps.length = np) (hn : N.length = n)
    (body : ∀ (cdv : Value) (A : Around) (outer : List Env) (s : Shared) (E : XK) (c : Ct), c.K = K → Rm k (A.deeper (PyProof.Rows.envOfC qual (defScope st) s.heap.objs.size a cdv)) →
      PSs (cxOf CX0 P w K mg base N qual (defScope st) a cdv A outer s c.H0 E).nox (defBody st) (tS c sem)) : FnG P w K mg base (k + 1) a fd ps (spF K (runF np n sem)) := by
  subst hp hn
  exact fn_pd F S body
end
end Pd

set_option Elab.async false
set_option linter.all false
set_option maxRecDepth 100000
set_option maxHeartbeats 4000000
namespace Pd
open PySem L2
/-! ### a def that hands back a new list -/
abbrev Fl := List Vl → List D → Ou (List D)
section
variable {X : Cx} {c : Ct}
def spL (K : Fg) (f : Fl) : Sp := fun vs H Q _ => ∃ (c : Ct) (m : List D) (as : List Vl), c.K = K ∧ c.H0 = H ∧ J0 c c.G0 H m ∧ RpVs c c.G0 vs as ∧ match f as m with
  | .stuck => False
  | .ok ds m' => ∀ a ws G' H', J0 c G' H' m' → H a = none → G' a = none → H' a = some (.lst ws) → RpL K G' ws ds → Q (.ref a) H'
inductive SoL where
  | stuck
  | rl (ds m : List D)
abbrev Mr := En → List D → SoL
def tSL (c : Ct) (f : Mr) : TS := fun D σ H => ∃ G ρ m, J c G H σ ρ m ∧ match f ρ m with
  | .stuck => False
  | .rl ds m' => ∀ a ws G' H', J0 c G' H' m' → c.H0 a = none → G' a = none → H' a = some (.lst ws) → RpL c.K G' ws ds → D.rt (.ref a) H'
def rSeq (f : Ms) (g : Mr) : Mr := fun ρ m => match f ρ m with
  | .nx ρ' m' => g ρ' m'
  | _ => .stuck
def rRet (f : Me (List D)) : Mr := fun ρ m => match f ρ m with
  | .ok ds m' => .rl ds m'
  | .stuck => .stuck
theorem pl_ret {e : Expr} {pos : Pos} {f : Me (List D)} (he : PE X e (tL c f)) : PSs X [.Return (some e) pos] (tSL c (rRet f)) := by
  refine PSs.imp (pss_one (ps_ret he)) fun D' σ H q => ?_
  obtain ⟨G, ρ, m, j, q⟩ := q
  unfold rRet at q
  cases e : f ρ m with
  | stuck => rw [e] at q; exact q.elim
  | ok ds m' =>
    rw [e] at q
    exact tL_ok j e fun a ws G1 H1 x1 j1 ha g1 h1 r1 => q a ws G1 H1 j1.z (j.h0 ha) g1 h1 r1
theorem pl_seq {st : Stmt} {rest : List Stmt} {f : Ms} {g : Mr} (h1 : PS X st (tS c f)) (h2 : PSs X rest (tSL c g)) : PSs X (st :: rest) (tSL c (rSeq f g)) := by
  refine PSs.imp (pss_cons h1 h2) fun D' σ H q => ?_
  obtain ⟨G, ρ, m, j, q⟩ := q
  refine ⟨G, ρ, m, j, ?_⟩
  unfold rSeq at q
  cases e : f ρ m with
  | nx ρ' m' =>
    rw [e] at q
    exact fun σ' G' H' _ j' => ⟨G', ρ', m', j', q⟩
  | _ => rw [e] at q; exact q.elim
def runL (np n : Nat) (f : Mr) : Fl := fun as m => if as.length = np then (match f (startE n as) m with
  | .rl ds m' => .ok ds m'
  | _ => .stuck) else .stuck
theorem fn_pl {P : Program} {w : World} {K : Fg} {mg : Str → Option Value} {base : Heap} {x qual : Str} {st : Stmt} {a : Addr} {fd : FuncData} {N ps : List Str} {k np n : Nat} {sem : Mr} (F : Fun K x qual st a fd) (S : FnScope N ps (defScope st)) (hp : ps.length = np) (hn : N.length = n)
    (body : ∀ (cdv : Value) (A : Around) (outer : List Env) (s : Shared) (E : XK) (c : Ct), c.K = K → Rm k (A.deeper (PyProof.Rows.envOfC qual (defScope st) s.heap.objs.size a cdv)) →
      PSs (cxOf CX0 P w K mg base N qual (defScope st) a cdv A outer s c.H0 E).nox (defBody st) (tSL c sem)) : FnG P w K mg base (k + 1) a fd ps (spL K (runL np n sem)) := by
  subst hp hn
  have hpl : ps.length ≤ N.length := by have := congrArg List.length S.pre; rw [List.length_take] at this; omega
  refine Fun.okG F S (fun vs H Q E h => ?_) (fun cdv A outer s H vs Q E hr h => ?_)
  · obtain ⟨c, m, as, _, _, _, r, q⟩ := h
    unfold runL at q
    split at q
    · exact q.elim
    · rename_i d m' e
      split at e
      · rw [r.length]; assumption
      · cases e
  · obtain ⟨c, m, as, rfl, rfl, j, r, q⟩ := h
    refine ⟨_, body cdv A outer s E c rfl hr, ?_⟩
    unfold runL at q
    by_cases hl : as.length = ps.length
    · rw [if_pos hl] at q
      have j1 := J.begin (N := N) j r (by rw [r.length, hl]; exact hpl)
      refine ⟨c.G0, _, m, j1, ?_⟩
      cases e : sem (startE N.length as) m with
      | stuck => rw [e] at q; exact q.elim
      | rl ds m' => rw [e] at q; exact q
    · rw [if_neg hl] at q; exact q.elim
structure Dl (P : Program) (w : World) (K : Fg) (mg : Str → Option Value) (base : Heap) (k : Nat) (x : Str) (n : Nat) (f : Fl) : Prop where
  ex : ∃ (a : Addr) (fd : FuncData) (ps : List Str), mg x = some (.ref a) ∧ PySem.W.keepIn K (.ref a) = true ∧ Binds K fd ps [] ∧ ps.length = n ∧ FnG P w K mg base k a fd ps (spL K f)
def mCallL (f : Fl) (g : Me (List Vl)) : Me (List D) := fun ρ m => (g ρ m).bind fun as m1 => f as m1
theorem pd_callL {k j n : Nat} {x : Str} {f : Fl} {p pos : Pos} {e : Expr} {es : List Expr} {g : Me (List Vl)} (F : Dl X.prog X.w X.K X.mg X.base k x n f) (hK : X.K = c.K) (hr : Rm j X.A) (hk : k ≤ j) (hg : Gl X x) (ha : PA X (e :: es) (tAs c g))
    (hdb : (x == ("__debug__" : Str)) = false := by decide) (he : starEach (e :: es) X.env = (false, eval e X.env) :: starEach es X.env := by rfl) (hpl : (backTo pos (starEach es X.env)).any (·.1) = false := by rfl) : PE X (.Call (.Name x p) (e :: es) [] pos) (tL c (mCallL f g)) := by
  obtain ⟨a, fd, ps, h1, h2, h3, h4, h5⟩ := F.ex
  refine PE.imp (ge_call h5 (hr.mono hk) hg h1 h2 h3 .nil ha hdb he hpl (p := p)) fun σ H Q q => ?_
  obtain ⟨G, ρ, m, ds, m', jj, e, q⟩ := tL_cases q
  unfold mCallL at e
  cases ea : g ρ m with
  | stuck => simp only [ea, Ou.bind] at e; cases e
  | ok as m1 =>
    simp only [ea, Ou.bind] at e
    refine tAs_ok jj ea fun vs G1 H1 x1 j1 r1 => ?_
    refine ⟨c.at G1 H1, m1, as, hK.symm, rfl, j1.enter, by rw [List.append_nil]; exact r1.at, ?_⟩
    rw [e]
    intro b ws G' H' k2 hb gb h2 r2
    obtain ⟨j2, mv⟩ := j1.leave k2
    exact q b ws G' H' (x1.trans mv) j2 (x1.dm b hb) gb h2 (by rw [← hK]; exact r2)
/-! ### a new list handed to a def as its pool -/
def mCallP (f : Fn) (g : Me (List D)) : Me Vl := fun ρ m => (g ρ m).bind fun ds m1 => match f [.pool] ds with
  | .ok d _ => .ok (.dat d) m1
  | .stuck => .stuck
theorem pd_callP {k j n : Nat} {x : Str} {f : Fn} {p pos : Pos} {e : Expr} {g : Me (List D)} (F : Df X.prog X.w X.K X.mg X.base k x n f) (hK : X.K = c.K) (hr : Rm j X.A) (hk : k ≤ j) (hg : Gl X x) (ha : PE X e (tL c g))
    (hdb : (x == ("__debug__" : Str)) = false := by decide) (he : starEach [e] X.env = (false, eval e X.env) :: starEach [] X.env := by rfl) (hpl : (backTo pos (starEach [] X.env)).any (·.1) = false := by rfl) : PE X (.Call (.Name x p) [e] [] pos) (tE c (mCallP f g)) := by
  obtain ⟨a, fd, ps, h1, h2, h3, h4, h5⟩ := F.ex
  refine PE.imp (ge_call h5 (hr.mono hk) hg h1 h2 h3 .nil (pa_cons ha pa_nil he) hdb he hpl (p := p)) fun σ H Q q => ?_
  obtain ⟨G, ρ, m, z, m', jj, e, q⟩ := tE_cases q
  unfold mCallP at e
  cases ea : g ρ m with
  | stuck => simp only [ea, Ou.bind] at e; cases e
  | ok ds m1 =>
    simp only [ea, Ou.bind] at e
    cases ef : f [.pool] ds with
    | stuck => simp only [ef] at e; cases e
    | ok d m2 =>
      simp only [ef] at e
      cases e
      show tL c g σ H fun v H1 => spF X.K f ([v] ++ []) H1 Q E0
      refine tL_ok jj ea fun b ws G1 H1 x1 j1 hb g1 hl r1 => ?_
      have hPb : c.P ≠ some b := fun e => by
        obtain ⟨⟨o, h0⟩, _⟩ := jj.z.pl b e
        rw [jj.h0 hb] at h0; cases h0
      refine ⟨⟨c.K, H1, G1, some b⟩, ds, [.pool], hK.symm, rfl, ⟨j1.z.ex, Ex.refl G1, fun a o h => .inl h, fun a o h _ => h, fun p e => ?_⟩, .cons ⟨b, rfl, rfl⟩ .nil, ?_⟩
      · cases e
        exact ⟨⟨_, hl⟩, g1, ws, hl, r1⟩
      · rw [ef]
        intro v G' H' k2 r2
        have nb : ∀ {a : Addr} {o : HO}, H a = some o → (some b : Option Addr) ≠ some a := fun h e => by cases e; rw [hb] at h; cases h
        have mv : Mv c G H G' H' := by
          refine ⟨x1.ex.trans k2.le, fun a o h n => k2.kp a o (x1.kp a o h n) (nb h), fun a h => ?_, fun a o h => ?_⟩
          · cases q2 : H a with
            | none => rfl
            | some o =>
              by_cases hp : c.P = some a
              · obtain ⟨_, _, us, h3, _⟩ := j1.z.pl a hp
                have := k2.kp a _ h3 (nb q2)
                rw [h] at this; cases this
              · have := k2.kp a o (x1.kp a o q2 hp) (nb q2)
                rw [h] at this; cases this
          · rcases k2.fr a o h with h | h
            · exact x1.nw a o h
            · exact .inr (x1.dm a h)
        refine q v G' H' mv ⟨⟨k2.ex, j1.z.le.trans k2.le, fun a o h => ?_, fun a o h n => mv.kp a o (jj.z.kp a o h n) n, fun p e => ?_⟩, fun i d h => ?_, j1.pol, fun i es h => ?_, j1.dis, j1.len⟩ (show Rp c.K G' v d from hK ▸ r2)
        · rcases k2.fr a o h with h | h
          · exact j1.z.fr a o h
          · exact .inr (j1.h0 h)
        · obtain ⟨⟨o, h0⟩, g, us, h3, h4⟩ := j1.z.pl p e
          refine ⟨⟨o, h0⟩, g, us, k2.kp p _ h3 (fun e2 => ?_), h4.mono k2.le⟩
          cases e2; exact hPb e
        · obtain ⟨v', h3, h4⟩ := j1.val i d h
          exact ⟨v', h3, h4.mono k2.le⟩
        · obtain ⟨a', us, e1, e2, e3, e4, e5⟩ := j1.own i es h
          obtain ⟨a0, us0, f1, f2, _⟩ := jj.own i es h
          rw [e1] at f1; cases f1
          refine ⟨a', us, e1, k2.kp a' _ e2 (nb f2), ?_, e4, e5.mono k2.le⟩
          cases q3 : G' a' with
          | none => rfl
          | some o =>
            rcases k2.fr a' o q3 with h | h
            · rw [show (Ct.G0 ⟨c.K, H1, G1, some b⟩) = G1 from rfl, e3] at h; cases h
            · rw [show (Ct.H0 ⟨c.K, H1, G1, some b⟩) = H1 from rfl, e2] at h; cases h
end
/-! ### the law's draw -/
def fDraw : Fn := fun as m => match as, m with
  | [.pool, .dat (.int n)], [.int a, .int b, .int k] => if 0 < n ∧ n < 1073741824 ∧ 0 ≤ a ∧ a < 2147483423 then
      (if 0 < b then .ok (.int (b % n)) [.int ((a * (a % 43013 + 26003) + (60029 * (k + 1) + 19)) % 2147483423), .int (b / n), .int (k + 1)]
       else .ok (.int ((a * (a % 43013 + 26003) + (60029 * (k + 1) + 19)) % 2147483423 / 32 % n)) [.int ((a * (a % 43013 + 26003) + (60029 * (k + 1) + 19)) % 2147483423), .int b, .int (k + 1)]) else .stuck
  | _, _ => .stuck
theorem fDraw_ok {as : List Vl} {m m' : List D} {d : D} (h : fDraw as m = .ok d m') : ∃ n a b k, as = [.pool, .dat (.int n)] ∧ m = [.int a, .int b, .int k] ∧ (0 < n ∧ n < 1073741824 ∧ 0 ≤ a ∧ a < 2147483423) ∧
    ((0 < b ∧ d = .int (b % n) ∧ m' = [.int ((a * (a % 43013 + 26003) + (60029 * (k + 1) + 19)) % 2147483423), .int (b / n), .int (k + 1)]) ∨
     (¬ 0 < b ∧ d = .int ((a * (a % 43013 + 26003) + (60029 * (k + 1) + 19)) % 2147483423 / 32 % n) ∧ m' = [.int ((a * (a % 43013 + 26003) + (60029 * (k + 1) + 19)) % 2147483423), .int b, .int (k + 1)])) := by
  unfold fDraw at h
  split at h
  · split at h
    · rename_i n a b k hc
      split at h
      · cases h; exact ⟨n, a, b, k, rfl, rfl, hc, .inl ⟨by assumption, rfl, rfl⟩⟩
      · cases h; exact ⟨n, a, b, k, rfl, rfl, hc, .inr ⟨by assumption, rfl, rfl⟩⟩
    · cases h
  · cases h
theorem rp3 {K : Fg} {G : Hp} {ws : List V} {a b k : Int} (r : RpL K G ws [.int a, .int b, .int k]) : ws = [.int a, .int b, .int k] := by
  cases r with
  | cons h1 r => cases r with
    | cons h2 r => cases r with
      | cons h3 r => cases r; cases h1; cases h2; cases h3; rfl
theorem J0.pool {c : Ct} {G H : Hp} {m m' : List D} (j : J0 c G H m) {p : Addr} {ws : List V} (e : c.P = some p) (r : RpL c.K G ws m') : J0 c G (upd H p (.lst ws)) m' := by
  refine ⟨fun a o h => ?_, j.le, j.fr, fun a o h n => ?_, fun q e' => ?_⟩
  · rw [upd_ne]
    · exact j.ex a o h
    · rintro rfl; rw [j.pG e] at h; cases h
  · rw [upd_ne]
    · exact j.kp a o h n
    · rintro rfl; exact n e
  · rw [e] at e'; cases e'
    obtain ⟨h0, g, _⟩ := j.pl p e
    exact ⟨h0, g, ws, upd_same, r⟩
theorem J0.ext {c : Ct} {G H : Hp} {m : List D} (j : J0 c G H m) {p : Addr} {o : HO} (hp : H p = none) : J0 c G (upd H p o) m := by
  have x := Ex.new (o := o) hp
  refine ⟨j.ex.trans x, j.le, j.fr, fun a u h n => x a u (j.kp a u h n), fun q e => ?_⟩
  obtain ⟨h0, g, ws, h1, h2⟩ := j.pl q e
  exact ⟨h0, g, ws, x _ _ h1, h2⟩
end Pd

set_option Elab.async false
set_option linter.all false
set_option maxRecDepth 100000
set_option maxHeartbeats 4000000
namespace Pd
open PySem L2
/-! ### objects made once and for all -/
abbrev Fm := List Vl → List D → Ou (List (Str × D))
/-- all that was tracked stands, but the pool and x -/
structure Jx (c : Ct) (x : Addr) (G H : Hp) (m : List D) : Prop where
  ex : Ex G H
  le : Ex c.G0 G
  fr : ∀ a o, G a = some o → c.G0 a = some o ∨ c.H0 a = none
  kp : ∀ a o, c.H0 a = some o → c.P ≠ some a → a ≠ x → H a = some o
  pl : ∀ p, c.P = some p → ∃ ws, H p = some (.lst ws) ∧ RpL c.K G ws m
def spMk (K : Fg) (C : Addr) (f : Fm) : Sp := fun vs H Q _ => ∃ (c : Ct) (m : List D) (x dx : Addr) (vs' : List V) (as : List Vl), c.K = K ∧ c.H0 = H ∧ vs = .ref x :: vs' ∧ J0 c c.G0 H m ∧ H x = some (.ins C dx []) ∧ c.G0 x = none ∧ c.P ≠ some x ∧ RpVs c c.G0 vs' as ∧ match f as m with
  | .stuck => False
  | .ok gs m' => ∀ fs G' H', Jx c x G' H' m' → H' x = some (.ins C dx fs) → RpF K G' fs gs → G' x = none → Q .non H'
section
variable {X : Cx} {c : Ct}
structure Mkr (P : Program) (w : World) (K : Fg) (mg : Str → Option Value) (base : Heap) (k : Nat) (x : Str) (C : Addr) (n : Nat) (f : Fm) : Prop where
  ex : ∃ (a : Addr) (fd : FuncData) (ps : List Str), mg x = some (.ref C) ∧ Mk K C a ∧ Binds K fd ps [] ∧ ps.length = n ∧ FnG P w K mg base k a fd ps (spMk K C f)
def mMk (C : Addr) (f : Fm) (g : Me (List Vl)) : Me Vl := fun ρ m => (g ρ m).bind fun as m1 => (f as m1).bind fun gs m2 => .ok (.dat (.obj C gs)) m2
theorem pd_mk {k j n : Nat} {x : Str} {C : Addr} {f : Fm} {p pos : Pos} {e : Expr} {es : List Expr} {g : Me (List Vl)} (F : Mkr X.prog X.w X.K X.mg X.base k x C n f) (hK : X.K = c.K) (hr : Rm j X.A) (hk : k + 1 ≤ j) (hg : Gl X x) (ha : PA X (e :: es) (tAs c g))
    (hdb : (x == ("__debug__" : Str)) = false := by decide) (he : starEach (e :: es) X.env = (false, eval e X.env) :: starEach es X.env := by rfl) (hpl : (backTo pos (starEach es X.env)).any (·.1) = false := by rfl) : PE X (.Call (.Name x p) (e :: es) [] pos) (tE c (mMk C f g)) := by
  obtain ⟨a, fd, ps, h1, h2, h3, h4, h5⟩ := F.ex
  refine PE.imp (ge_make h2 h5 (hr.mono hk) hg h1 h3 .nil ha hdb he hpl (pp := p)) fun σ H Q q => ?_
  obtain ⟨G, ρ, m, z, m', jj, e, q⟩ := tE_cases q
  unfold mMk at e
  cases ea : g ρ m with
  | stuck => simp only [ea, Ou.bind] at e; cases e
  | ok as m1 =>
    simp only [ea, Ou.bind] at e
    cases ef : f as m1 with
    | stuck => simp only [ef] at e; cases e
    | ok gs m2 =>
      simp only [ef] at e
      cases e
      refine tAs_ok jj ea fun vs G1 H1 x1 j1 r1 => ?_
      intro x dx hx hdx ne
      have j2 := j1.ext (o := .own x) hdx rfl
      have hx2 : (upd H1 dx (.own x)) x = none := by rw [upd_ne (Ne.symm ne)]; exact hx
      have j3 := j2.ext (o := .ins C dx []) hx2 rfl
      have hP : c.P ≠ some x := fun e => by
        obtain ⟨_, _, ws, h, _⟩ := j1.z.pl x e
        rw [hx] at h; cases h
      have hPd : c.P ≠ some dx := fun e => by
        obtain ⟨_, _, ws, h, _⟩ := j1.z.pl dx e
        rw [hdx] at h; cases h
      refine ⟨c.at G1 (upd (upd H1 dx (.own x)) x (.ins C dx [])), m1, x, dx, vs, as, hK.symm, rfl, by rw [List.append_nil], j3.enter, upd_same, j1.gn hx, hP, r1.at, ?_⟩
      rw [ef]
      intro fs G' H' k2 hxx rf gx
      refine ⟨rfl, ?_⟩
      have up : ∀ {a : Addr} {o : HO}, H1 a = some o → (upd (upd H1 dx (.own x)) x (.ins C dx [])) a = some o ∧ a ≠ x := fun {a o} h =>
        ⟨by rw [upd_ne (ne_of_none h hx), upd_ne (ne_of_none h hdx)]; exact h, ne_of_none h hx⟩
      have kp1 : ∀ a o, H1 a = some o → c.P ≠ some a → H' a = some o := fun a o h n => k2.kp a o (up h).1 n (up h).2
      have dm1 : ∀ a, H' a = none → H1 a = none := fun a h => by
        cases q2 : H1 a with
        | none => rfl
        | some o =>
          by_cases hp : c.P = some a
          · obtain ⟨ws, h3, _⟩ := k2.pl a hp
            rw [h] at h3; cases h3
          · have := kp1 a o q2 hp
            rw [h] at this; cases this
      have fr1 : ∀ a o, G' a = some o → G1 a = some o ∨ H1 a = none := fun a o h => by
        rcases k2.fr a o h with h | h
        · exact .inl h
        · refine .inr ?_
          cases q2 : H1 a with
          | none => rfl
          | some u => rw [show (Ct.H0 (c.at G1 (upd (upd H1 dx (.own x)) x (.ins C dx [])))) = (upd (upd H1 dx (.own x)) x (.ins C dx [])) from rfl, (up q2).1] at h; cases h
      have mv1 : Mv c G1 H1 G' H' := ⟨k2.le, kp1, dm1, fr1⟩
      have mv := (x1.trans mv1).pub (o := .ins C dx fs) (x1.dm x hx) gx
      have j4 : J c G' H' σ ρ m' := by
        refine ⟨⟨k2.ex, j1.z.le.trans k2.le, fun a o h => ?_, fun a o h n => kp1 a o (j1.z.kp a o h n) n, fun p e => ?_⟩, fun i d h => ?_, j1.pol, fun i es h => ?_, j1.dis, j1.len⟩
        · rcases fr1 a o h with h | h
          · exact j1.z.fr a o h
          · exact .inr (j1.h0 h)
        · obtain ⟨h0, g, _⟩ := j1.z.pl p e
          obtain ⟨ws, h3, h4⟩ := k2.pl p e
          exact ⟨h0, g, ws, h3, h4⟩
        · obtain ⟨v', h3, h4⟩ := j1.val i d h
          exact ⟨v', h3, h4.mono k2.le⟩
        · obtain ⟨a', us, e1, e2, e3, e4, e5⟩ := j1.own i es h
          refine ⟨a', us, e1, kp1 a' _ e2 (fun e => ?_), ?_, e4, e5.mono k2.le⟩
          · obtain ⟨⟨o, h0⟩, _⟩ := j1.z.pl a' e
            rw [e4] at h0; cases h0
          · cases q3 : G' a' with
            | none => rfl
            | some o =>
              rcases fr1 a' o q3 with h | h
              · rw [e3] at h; cases h
              · rw [e2] at h; cases h
      have gg : Ex G' (upd G' x (.ins C dx fs)) := Ex.new gx
      exact q _ _ _ mv (j4.pub (j1.h0 hx) gx hxx (j1.noown (H' := H1) hx)) (Rp.obj upd_same (RpF.mono gg (by rw [← hK]; exact rf)))
end
/-- a def with defaults -/
structure FunD (K : Fg) (x qual : Str) (st : Stmt) (f : Addr) (fd : FuncData) : Prop where
  ex : ∃ (oc : Value) (od : Option Addr) (dV kV doc pm : Value) (an : Option Addr) (cdv ct : Value) (osl : Array (Option Value)),
    fd = PySem.W.fnOf x qual (defArgs st) (defBody st) (defScope st) dV kV doc pm an cdv ct ∧ K.lookup f = some ⟨oc, od, .func fd, osl⟩ ∧ PySem.W.codeIn K cdv qual = true
theorem FunD.ok {P : Program} {w : World} {K : Fg} {mg : Str → Option Value} {base : Heap} {x qual : Str} {st : Stmt} {f : Addr} {fd : FuncData} {N ps : List Str} {k : Nat} {sp : Sp} (F : FunD K x qual st f fd) (S : FnScope N ps (defScope st)) (len : ∀ vs H Q E, sp vs H Q E → vs.length = ps.length)
    (hbody : ∀ (cdv : Value) (A : Around) (outer : List Env) (s : Shared) (H : Hp) (vs : List V) (Q : VK) (E : XK), Rm k (A.deeper (PyProof.Rows.envOfC qual (defScope st) s.heap.objs.size f cdv)) → sp vs H Q E →
      ∃ t, PSs (cxOf CX0 P w K mg base N qual (defScope st) f cdv A outer s H E).nox (defBody st) t ∧ t { nx := fun _ H' => Q .non H', rt := Q } (start N vs) H) : FnG P w K mg base (k + 1) f fd ps sp := by
  obtain ⟨oc, od, dV, kV, doc, pm, an, cdv, ct, osl, rfl, lk, hcd⟩ := F.ex
  exact fn_g lk hcd S len (hbody cdv)
theorem J0.enter {c : Ct} {G H : Hp} {m : List D} (j : J0 c G H m) : J0 (c.at G H) G H m :=
  ⟨j.ex, Ex.refl G, fun a o h => .inl h, fun a o h _ => h, fun p e => by
    obtain ⟨_, _, ws, h1, h2⟩ := j.pl p e
    exact ⟨⟨_, h1⟩, j.pG e, ws, h1, h2⟩⟩
theorem J0.back {c : Ct} {G H G' H' : Hp} {m m' : List D} (j : J0 c G H m) (k : J0 (c.at G H) G' H' m') : J0 c G' H' m' := by
  refine ⟨k.ex, j.le.trans k.le, fun a o h => ?_, fun a o h n => k.kp a o (j.kp a o h n) n, fun p e => ?_⟩
  · rcases k.fr a o h with h | h
    · exact j.fr a o h
    · refine .inr ?_
      cases q : c.H0 a with
      | none => rfl
      | some u =>
        by_cases hp : c.P = some a
        · obtain ⟨_, _, ws, h1, _⟩ := j.pl a hp
          rw [show (c.at G H).H0 = H from rfl, h1] at h; cases h
        · rw [show (c.at G H).H0 = H from rfl, j.kp a u q hp] at h; cases h
  · obtain ⟨h0, g, _⟩ := j.pl p e
    obtain ⟨_, _, ws, h1, h2⟩ := k.pl p e
    exact ⟨h0, g, ws, h1, h2⟩
end Pd

set_option Elab.async false
set_option linter.all false
set_option maxRecDepth 100000
set_option maxHeartbeats 4000000
namespace Pd
open PySem L2
/-! ### laws of the meanings -/
theorem lcM_map {g : Mg} {t : Me Bool} {f : Me Vl} {ρ : En} {m : List D} {h : D → D} : ∀ {ds : List D}, (∀ d ∈ ds, ∃ ρ1, g d ρ = some ρ1 ∧ t ρ1 m = .ok true m ∧ f ρ1 m = .ok (.dat (h d)) m) → lcM g t f ρ ds m = .ok (ds.map h) m
  | [], _ => rfl
  | d :: ds, H => by
    obtain ⟨ρ1, h1, h2, h3⟩ := H d List.mem_cons_self
    unfold lcM
    simp only [h1, h2, h3, Ou.bind, if_true, lcM_map fun e he => H e (List.mem_cons_of_mem _ he), List.map_cons]
/-- with a pool that is carried -/
theorem lcM_inv {g : Mg} {t : Me Bool} {f : Me Vl} {ρ : En} {P : List D → Prop} {R : D → D → Prop} : ∀ {ds : List D} {m : List D}, P m → (∀ d ∈ ds, ∀ m, P m → ∃ ρ1 y m', g d ρ = some ρ1 ∧ t ρ1 m = .ok true m ∧ f ρ1 m = .ok (.dat y) m' ∧ R d y ∧ P m') →
    ∃ ys m', lcM g t f ρ ds m = .ok ys m' ∧ P m' ∧ ys.length = ds.length ∧ ∀ (i : Nat) (d y : D), ds[i]? = some d → ys[i]? = some y → R d y
  | [], m, p, _ => ⟨[], m, rfl, p, rfl, fun i d y h => by simp at h⟩
  | d :: ds, m, p, H => by
    obtain ⟨ρ1, y, m1, h1, h2, h3, h4, h5⟩ := H d List.mem_cons_self m p
    obtain ⟨ys, m2, e, p2, l2, r2⟩ := lcM_inv (ds := ds) h5 fun e he => H e (List.mem_cons_of_mem _ he)
    refine ⟨y :: ys, m2, ?_, p2, by simp [l2], fun i a b ha hb => ?_⟩
    · unfold lcM
      simp only [h1, h2, h3, Ou.bind, if_true, e]
    · cases i with
      | zero => simp at ha hb; subst ha hb; exact h4
      | succ i => exact r2 i a b (by simpa using ha) (by simpa using hb)
/-- a for whose turns all go on -/
theorem forM_inv {g : Mg} {f : Ms} {I : Nat → En → List D → Prop} : ∀ {ds : List D} {k : Nat} {ρ : En} {m : List D}, I k ρ m → (∀ (i : Nat) (d : D) (ρ : En) (m : List D), ds[i]? = some d → I (k + i) ρ m → ∃ ρ1 ρ2 m2, g d ρ = some ρ1 ∧ (f ρ1 m = .nx ρ2 m2 ∨ f ρ1 m = .ct ρ2 m2) ∧ I (k + i + 1) ρ2 m2) →
    ∃ ρ' m', forM g f ds ρ m = .nx ρ' m' ∧ I (k + ds.length) ρ' m'
  | [], k, ρ, m, h, _ => ⟨ρ, m, rfl, h⟩
  | d :: ds, k, ρ, m, h, H => by
    obtain ⟨ρ1, ρ2, m2, h1, h2, h3⟩ := H 0 d ρ m rfl h
    obtain ⟨ρ', m', e, i'⟩ := forM_inv (ds := ds) (k := k + 1) (I := I) h3 fun i d' ρ m hd hi => by
      obtain ⟨a, b, c, x, y, z⟩ := H (i + 1) d' ρ m (by simpa using hd) (by rw [show k + (i + 1) = k + 1 + i by omega]; exact hi)
      exact ⟨a, b, c, x, y, by rw [show k + 1 + i + 1 = k + (i + 1) + 1 by omega]; exact z⟩
    refine ⟨ρ', m', ?_, by rw [List.length_cons, show k + (ds.length + 1) = k + 1 + ds.length by omega]; exact i'⟩
    unfold forM
    rcases h2 with h2 | h2 <;> simp only [h1, h2, e]
theorem forM_inv0 {g : Mg} {f : Ms} {ds : List D} {ρ : En} {m : List D} (I : Nat → En → List D → Prop) (h0 : I 0 ρ m) (H : ∀ (i : Nat) (d : D) (ρ : En) (m : List D), ds[i]? = some d → I i ρ m → ∃ ρ1 ρ2 m2, g d ρ = some ρ1 ∧ (f ρ1 m = .nx ρ2 m2 ∨ f ρ1 m = .ct ρ2 m2) ∧ I (i + 1) ρ2 m2) :
    ∃ ρ' m', forM g f ds ρ m = .nx ρ' m' ∧ I ds.length ρ' m' := by
  have := forM_inv (g := g) (f := f) (k := 0) (I := I) h0 fun i d ρ m hd hi => by
    rw [Nat.zero_add] at hi ⊢
    exact H i d ρ m hd hi
  rw [Nat.zero_add] at this
  exact this
/-- the pool -/
def Po (m : List D) : Prop := ∃ a b k, m = [.int a, .int b, .int k] ∧ 0 ≤ a ∧ a < 2147483423
theorem Po.flat {m : List D} (h : Po m) : m.all D.flat = true := by obtain ⟨a, b, k, rfl, _⟩ := h; rfl
theorem draw_ok {m : List D} {n : Int} (h : Po m) (h0 : 0 < n) (h1 : n < 1073741824) : ∃ z m', fDraw [.pool, .dat (.int n)] m = .ok (.int z) m' ∧ 0 ≤ z ∧ z < n ∧ Po m' := by
  obtain ⟨a, b, k, rfl, h2, h3⟩ := h
  have hM : ∀ x : Int, 0 ≤ x % 2147483423 ∧ x % 2147483423 < 2147483423 := fun x => ⟨Int.emod_nonneg _ (by decide), Int.emod_lt_of_pos _ (by decide)⟩
  by_cases hb : 0 < b
  · exact ⟨b % n, _, by unfold fDraw; simp only []; rw [if_pos ⟨h0, h1, h2, h3⟩, if_pos hb], Int.emod_nonneg _ (by omega), Int.emod_lt_of_pos _ h0, _, _, _, rfl, (hM _).1, (hM _).2⟩
  · exact ⟨_, _, by unfold fDraw; simp only []; rw [if_pos ⟨h0, h1, h2, h3⟩, if_neg hb], Int.emod_nonneg _ (by omega), Int.emod_lt_of_pos _ h0, _, _, _, rfl, (hM _).1, (hM _).2⟩
/-! ### running a meaning, rule by rule -/
section
variable {ρ : En} {m m1' m2' m3' : List D} {d e z : D}
theorem m1_eq {op : D → Option D} {fa : Me Vl} (h : fa ρ m = .ok (.dat d) m1') (h2 : op d = some z) : m1 op fa ρ m = .ok (.dat z) m1' := by simp only [m1, h, Ou.bind, h2]
theorem m2_eq {op : D → D → Option D} {fa fb : Me Vl} (h : fa ρ m = .ok (.dat d) m1') (h1 : fb ρ m1' = .ok (.dat e) m2') (h2 : op d e = some z) : m2 op fa fb ρ m = .ok (.dat z) m2' := by simp only [m2, h, h1, Ou.bind, h2]
theorem mB_eq {op : List D → Option D} {g : Me (List Vl)} {as : List Vl} {ds : List D} (h : g ρ m = .ok as m1') (h1 : dats as = some ds) (h2 : op ds = some z) : mB op g ρ m = .ok (.dat z) m1' := by simp only [mB, h, h1, Ou.bind, h2]
theorem mCall_eq {f : Fn} {g : Me (List Vl)} {as : List Vl} (h : g ρ m = .ok as m1') (h2 : f (as ++ []) m1' = .ok d m2') : mCall f g [] ρ m = .ok (.dat d) m2' := by simp only [mCall, h, Ou.bind, h2]
theorem mCallL_eq {f : Fl} {g : Me (List Vl)} {as : List Vl} {ds : List D} (h : g ρ m = .ok as m1') (h2 : f as m1' = .ok ds m2') : mCallL f g ρ m = .ok ds m2' := by simp only [mCallL, h, Ou.bind, h2]
theorem mCallP_eq {f : Fn} {g : Me (List D)} {ds : List D} (h : g ρ m = .ok ds m1') (h2 : f [.pool] ds = .ok d m2') : mCallP f g ρ m = .ok (.dat d) m1' := by simp only [mCallP, h, Ou.bind, h2]
theorem mMk_eq {C : Addr} {f : Fm} {g : Me (List Vl)} {as : List Vl} {gs : List (Str × D)} (h : g ρ m = .ok as m1') (h2 : f as m1' = .ok gs m2') : mMk C f g ρ m = .ok (.dat (.obj C gs)) m2' := by simp only [mMk, h, Ou.bind, h2]
theorem mMeth0_eq {C : Addr} {mn : Str} {f : Fn} {g : Me Vl} {gs : List (Str × D)} (h : g ρ m = .ok (.dat (.obj C gs)) m1') (h1 : gs.lookup mn = none) (h2 : f [.dat (.obj C gs)] m1' = .ok d m2') : mMeth0 C mn f g ρ m = .ok (.dat d) m2' := by
  simp only [mMeth0, h, Ou.bind, h1, h2, true_and, if_true]
theorem mProp_eq {C : Addr} {f : Fn} {g : Me Vl} {gs : List (Str × D)} (h : g ρ m = .ok (.dat (.obj C gs)) m1') (h2 : f [.dat (.obj C gs)] m1' = .ok d m2') : mProp C f g ρ m = .ok (.dat d) m2' := by
  simp only [mProp, h, Ou.bind, h2, if_true]
theorem fld_eq {C : Addr} {f : Str} {gs : List (Str × D)} (h : gs.lookup f = some z) : fldD C f (.obj C gs) = some z := by simp only [fldD, if_true, h]
theorem mCons_eq {f : Me Vl} {g : Me (List Vl)} {x : Vl} {xs : List Vl} (h : f ρ m = .ok x m1') (h1 : g ρ m1' = .ok xs m2') : mCons f g ρ m = .ok (x :: xs) m2' := by simp only [mCons, h, h1, Ou.bind]
theorem mNil_eq : mNil ρ m = .ok [] m := rfl
theorem mStar_eqT {f : Me Vl} {g : Me (List Vl)} {ds : List D} {xs : List Vl} (h : f ρ m = .ok (.dat (.tup ds)) m1') (h1 : g ρ m1' = .ok xs m2') : mStar f g ρ m = .ok (ds.map Vl.dat ++ xs) m2' := by simp only [mStar, h, h1, Ou.bind]
theorem mTup_eq {f : Me (List Vl)} {xs : List Vl} {ds : List D} (h : f ρ m = .ok xs m1') (h1 : dats xs = some ds) (h2 : ds.length ≤ sizeLine) : mTup f ρ m = .ok (.dat (.tup ds)) m1' := by simp only [mTup, h, h1, Ou.bind, h2, if_true]
theorem mLst_eq {f : Me (List Vl)} {xs : List Vl} {ds : List D} (h : f ρ m = .ok xs m1') (h1 : dats xs = some ds) (h2 : ds.length ≤ sizeLine) : mLst f ρ m = .ok ds m1' := by simp only [mLst, h, h1, Ou.bind, h2, if_true]
theorem mPub_eq {f : Me (List D)} {ds : List D} (h : f ρ m = .ok ds m1') : mPub f ρ m = .ok (.dat (.lst ds)) m1' := by simp only [mPub, h, Ou.bind]
theorem mAndV_t {f g : Me Vl} {r : Ou Vl} (h : f ρ m = .ok (.dat d) m1') (h1 : truD d = some true) (h2 : g ρ m1' = r) : mAndV f g ρ m = r := by simp only [mAndV, h, h1, Ou.bind, h2]
theorem mAndV_f {f g : Me Vl} (h : f ρ m = .ok (.dat d) m1') (h1 : truD d = some false) : mAndV f g ρ m = .ok (.dat d) m1' := by simp only [mAndV, h, h1, Ou.bind]
theorem mIf_t {α : Type} {t : Me Bool} {f g : Me α} {r : Ou α} (h : t ρ m = .ok true m1') (h2 : f ρ m1' = r) : mIf t f g ρ m = r := by simp only [mIf, h, Ou.bind, if_true, h2]
theorem mIf_f {α : Type} {t : Me Bool} {f g : Me α} {r : Ou α} (h : t ρ m = .ok false m1') (h2 : g ρ m1' = r) : mIf t f g ρ m = r := by simp only [mIf, h, Ou.bind, Bool.false_eq_true, if_false, h2]
theorem mT_eq {f : Me Vl} {b : Bool} (h : f ρ m = .ok (.dat d) m1') (h1 : truD d = some b) : mT f ρ m = .ok b m1' := by simp only [mT, h, h1, Ou.bind]
theorem mTb_eq {f : Me Vl} {b : Bool} (h : f ρ m = .ok (.dat (.bl b)) m1') : mTb f ρ m = .ok b m1' := by simp only [mTb, h, Ou.bind]
theorem mNot_eq {f : Me Bool} {b : Bool} (h : f ρ m = .ok b m1') : mNot f ρ m = .ok (!b) m1' := by simp only [mNot, h, Ou.bind]
theorem mNot_t {f : Me Bool} (h : f ρ m = .ok true m1') : mNot f ρ m = .ok false m1' := mNot_eq h
theorem mNot_f {f : Me Bool} (h : f ρ m = .ok false m1') : mNot f ρ m = .ok true m1' := mNot_eq h
theorem mAnd_t {f g : Me Bool} {r : Ou Bool} (h : f ρ m = .ok true m1') (h2 : g ρ m1' = r) : mAnd f g ρ m = r := by simp only [mAnd, h, Ou.bind, if_true, h2]
theorem mAnd_f {f g : Me Bool} (h : f ρ m = .ok false m1') : mAnd f g ρ m = .ok false m1' := by simp only [mAnd, h, Ou.bind, Bool.false_eq_true, if_false]
theorem mOr_t {f g : Me Bool} (h : f ρ m = .ok true m1') : mOr f g ρ m = .ok true m1' := by simp only [mOr, h, Ou.bind, if_true]
theorem mOr_f {f g : Me Bool} {r : Ou Bool} (h : f ρ m = .ok false m1') (h2 : g ρ m1' = r) : mOr f g ρ m = r := by simp only [mOr, h, Ou.bind, Bool.false_eq_true, if_false, h2]
theorem mBor_eq {f : Me Vl} (h : f (Pd.thaw ρ) m = .ok (.dat d) m1') (h1 : d.flat = true) (h2 : m1'.all D.flat = true) : mBor f ρ m = .ok (.dat d) m1' := by simp only [mBor, h, h1, h2, Bool.and_self, if_true]
theorem mBorB_eq {f : Me Bool} {b : Bool} (h : f (Pd.thaw ρ) m = .ok b m1') (h2 : m1'.all D.flat = true) : mBorB f ρ m = .ok b m1' := by simp only [mBorB, h, h2, if_true]
theorem mLc_eq {is : List Nat} {s : Me (List D)} {g : Mg} {t : Me Bool} {f : Me Vl} {ds ys : List D} (h : s ρ m = .ok ds m1') (h1 : noOwn ρ is = true) (h2 : ds.length ≤ sizeLine) (h3 : lcM g t f (wipeE ρ is) ds m1' = .ok ys m2') : mLc is s g t f ρ m = .ok ys m2' := by
  simp only [mLc, h, Ou.bind, h1, decide_eq_true h2, Bool.and_self, if_true, h3]
theorem mItT_eq {f : Me Vl} {ds : List D} (h : f ρ m = .ok (.dat (.tup ds)) m1') : mItT f ρ m = .ok ds m1' := by simp only [mItT, h, Ou.bind]
theorem mItL_eq {f : Me Vl} {ds : List D} (h : f ρ m = .ok (.dat (.lst ds)) m1') : mItL f ρ m = .ok ds m1' := by simp only [mItL, h, Ou.bind]
theorem mItE_eq {f : Me (List D)} {ds : List D} (h : f ρ m = .ok ds m1') : mItE f ρ m = .ok (enumL 0 ds) m1' := by simp only [mItE, h, Ou.bind]
theorem mItR_eq {f : Me Vl} {n : Int} (h : f ρ m = .ok (.dat (.int n)) m1') (h1 : -(2 ^ 62) ≤ n ∧ n < 2 ^ 62) : mItR f ρ m = .ok (rng 0 n.toNat) m1' := by simp only [mItR, h, Ou.bind]; rw [if_pos h1]
theorem mCat_eq {f g : Me (List D)} {as bs : List D} (h : f ρ m = .ok as m1') (h1 : g ρ m1' = .ok bs m2') (h2 : as.length + bs.length ≤ sizeLine) : mCat f g ρ m = .ok (as ++ bs) m2' := by simp only [mCat, h, h1, Ou.bind, h2, if_true]
theorem mRep_eq {f : Me (List D)} {g : Me Vl} {as : List D} {k : Int} (h : f ρ m = .ok as m1') (h1 : g ρ m1' = .ok (.dat (.int k)) m2') (h2 : -(2 ^ 63) ≤ k ∧ k < 2 ^ 63 ∧ as.length * k.toNat ≤ sizeLine) : mRep f g ρ m = .ok (List.replicate k.toNat as).flatten m2' := by
  simp only [mRep, h, h1, Ou.bind]; rw [if_pos h2]
theorem mIxO_eq {i : Nat} {g : Me Vl} {ds : List D} {k : Int} (h : g ρ m = .ok (.dat (.int k)) m1') (h1 : ρ[i]? = some (.own ds)) (h2 : L2.atI ds k = some d) : mIxO i g ρ m = .ok (.dat d) m1' := by simp only [mIxO, h, h1, Ou.bind, h2]
theorem mSlL_eq {f : Me Vl} {lo hi : Me (Option Int)} {ds : List D} {l u : Option Int} (h : f ρ m = .ok (.dat (.lst ds)) m1') (h1 : lo ρ m1' = .ok l m2') (h2 : hi ρ m2' = .ok u m3') : mSl kSlL f lo hi ρ m = .ok (cutL ds l u) m3' := by simp only [mSl, h, h1, h2, Ou.bind, kSlL]
theorem oS_eq {f : Me Vl} {i : Int} (h : f ρ m = .ok (.dat (.int i)) m1') : oS f ρ m = .ok (some i) m1' := by simp only [oS, h, Ou.bind]
theorem sSeq_nx {f g : Ms} {ρ' : En} {r : So} (h : f ρ m = .nx ρ' m1') (h1 : g ρ' m1' = r) : sSeq f g ρ m = r := by simp only [sSeq, h, h1]
theorem sSeq_rt {f g : Ms} (h : f ρ m = .rt d m1') : sSeq f g ρ m = .rt d m1' := by simp only [sSeq, h]
theorem sIf_t {t : Me Bool} {f g : Ms} {r : So} (h : t ρ m = .ok true m1') (h1 : f ρ m1' = r) : sIf t f g ρ m = r := by simp only [sIf, h, h1]
theorem sIf_f {t : Me Bool} {f g : Ms} {r : So} (h : t ρ m = .ok false m1') (h1 : g ρ m1' = r) : sIf t f g ρ m = r := by simp only [sIf, h, h1]
theorem sSet_eq {i : Nat} {f : Me Vl} (h : f ρ m = .ok (.dat d) m1') : sSet i f ρ m = .nx (ρ.set i (.val d)) m1' := by simp only [sSet, h]
theorem sSetO_eq {i : Nat} {f : Me (List D)} {ds : List D} (h : f ρ m = .ok ds m1') : sSetO i f ρ m = .nx (ρ.set i (.own ds)) m1' := by simp only [sSetO, h]
theorem sRet_eq {f : Me Vl} (h : f ρ m = .ok (.dat d) m1') : sRet f ρ m = .rt d m1' := by simp only [sRet, h]
theorem sDrop_eq {f : Me Vl} {x : Vl} (h : f ρ m = .ok x m1') : sDrop f ρ m = .nx ρ m1' := by simp only [sDrop, h]
theorem sApp_eq {i : Nat} {f : Me Vl} {ds : List D} (h : f ρ m = .ok (.dat d) m1') (h1 : ρ[i]? = some (.own ds)) (h2 : ds.length < sizeLine) : sApp i f ρ m = .nx (ρ.set i (.own (ds ++ [d]))) m1' := by simp only [sApp, h, h1, h2, if_true]
theorem sFor_eq {s : Me (List D)} {g : Mg} {f : Ms} {ds : List D} {r : So} (h : s ρ m = .ok ds m1') (h1 : forM g f ds ρ m1' = r) : sFor s g f ρ m = r := by simp only [sFor, h, h1]
theorem runF_rt {np n : Nat} {f : Ms} {as : List Vl} (h : as.length = np) (h1 : f (startE n as) m = .rt d m1') : runF np n f as m = .ok d m1' := by simp only [runF, h, if_true, h1]
theorem runF_nx {np n : Nat} {f : Ms} {as : List Vl} {ρ' : En} (h : as.length = np) (h1 : f (startE n as) m = .nx ρ' m1') : runF np n f as m = .ok .non m1' := by simp only [runF, h, if_true, h1]
theorem runL_rl {np n : Nat} {f : Mr} {as : List Vl} {ds : List D} (h : as.length = np) (h1 : f (startE n as) m = .rl ds m1') : runL np n f as m = .ok ds m1' := by simp only [runL, h, if_true, h1]
theorem rSeq_nx {f : Ms} {g : Mr} {ρ' : En} {r : SoL} (h : f ρ m = .nx ρ' m1') (h1 : g ρ' m1' = r) : rSeq f g ρ m = r := by simp only [rSeq, h, h1]
theorem rRet_eq {f : Me (List D)} {ds : List D} (h : f ρ m = .ok ds m1') : rRet f ρ m = .rl ds m1' := by simp only [rRet, h]
end
end Pd

set_option Elab.async false
set_option linter.all false
set_option maxRecDepth 100000
set_option maxHeartbeats 4000000
namespace Pd
open PySem L2
section
variable {X : Cx} {c : Ct}
/-! ### a tuple's slice -/
def kSlT (d : D) (lo hi : Option Int) (m : List D) : Ou Vl := match d with
  | .tup ds => .ok (.dat (.tup (cutL ds lo hi))) m
  | _ => .stuck
theorem cutV_whole {xs : List V} {lo hi : Option Int} (h : HT.sIx xs.length 0 lo = 0 ∧ HT.sIx xs.length xs.length hi = xs.length) : cutV xs lo hi = xs := by
  unfold cutV
  rw [h.1, h.2]
  simp
theorem pd_slT {e : Expr} {lo hi : Option Expr} {pos p2 : Pos} {f : Me Vl} {fl fh : Me (Option Int)} (hK : X.K = c.K) (h : PE X e (tE c f)) (hl : PO X lo (tOi c fl)) (hh : PO X hi (tOi c fh)) : PE X (.Subscript e (.Slice lo hi none p2) pos) (tE c (mSl kSlT f fl fh)) := by
  refine PE.imp (pe_slice sl_tupF h hl hh) fun σ H Q q => ?_
  obtain ⟨G, ρ, m, rs, m', j, e, q⟩ := tE_cases q
  obtain ⟨d, m1, l, m2, u, m3, ea, eb, ec, ek⟩ := mSl_ok e
  refine tE_ok j ea fun v G1 H1 x1 j1 r1 => ?_
  refine ⟨G1, ρ, m1, j1, ?_⟩
  rw [eb]
  intro G2 H2 x2 j2
  refine ⟨G2, ρ, m2, j2, ?_⟩
  rw [ec]
  intro G3 H3 x3 j3
  unfold kSlT at ek
  split at ek
  · cases ek
    have r1' := Rp.mono (x2.trans x3).ex r1
    obtain ⟨a, vs, rfl, s1, r2⟩ := Rp.tupN_inv r1'
    rw [hK]
    refine ⟨a, vs, rfl, ex_t j3.z.ex s1.sq, fun hw => ?_, fun hw p us hp hv => ?_⟩
    · have r3 := r2.cut l u
      rw [cutV_whole hw] at r3
      exact q _ G3 H3 ((x1.trans x2).trans x3) j3 (.tup s1 r3)
    · exact q _ _ _ (((x1.trans x2).trans x3).trans (Mv.new hp (j3.gn hp))) (j3.new hp) (.tup (tn_of upd_same) ((r2.cut l u).mono (Ex.new (j3.gn hp))))
  · cases ek
/-! ### dicts -/
def dgetD (d e : D) : Option D := match d, e with
  | .dct gs, .str k => gs.lookup k
  | _, _ => none
theorem pd_dget {o i : Expr} {pos : Pos} {fo fi : Me Vl} (hK : X.K = c.K) (ho : PE X o (tE c fo)) (hi : PE X i (tE c fi)) (hs : NoSl i := by first | exact fun _ _ => rfl | trivial) : PE X (.Subscript o i pos) (tE c (m2 dgetD fo fi)) := by
  refine PE.imp (pe_getN ho hi hs) fun σ H Q q => ?_
  obtain ⟨G, ρ, m, x, m', j, e, q⟩ := tE_cases q
  obtain ⟨d, e', z, m1, ea, eb, eo, rfl⟩ := m2_ok e
  refine tE_ok j ea fun v G1 H1 x1 j1 r1 => ?_
  refine tE_ok j1 eb fun w G2 H2 x2 j2 r2 => ?_
  unfold dgetD at eo
  split at eo
  · obtain ⟨a, fs, rfl, s1, rf⟩ := Rp.dct_inv (Rp.mono x2.ex r1)
    cases Rp.str_inv r2
    obtain ⟨v', hv, rv⟩ := rf.look eo
    rw [hK]
    exact ⟨a, fs, _, v', rfl, ex_d j2.z.ex s1, rfl, hv, q _ G2 H2 (x1.trans x2) j2 rv⟩
  · cases eo
def dinB (d e : D) : Option Bool := match d, e with
  | .str k, .dct gs => some (gs.lookup k).isSome
  | _, _ => none
def dinG (sg : Bool → Bool) (d e : D) : Option D := (dinB d e).map fun b => D.bl (sg b)
def dinD : D → D → Option D := dinG fun b => b
def dninD : D → D → Option D := dinG fun b => !b
theorem RpF.isSome {K : Fg} {G : Hp} {fs : List (Str × V)} {gs : List (Str × D)} (r : RpF K G fs gs) (k : Str) : (fs.lookup k).isSome = (gs.lookup k).isSome := by
  cases e : gs.lookup k with
  | none => rw [r.none e]; rfl
  | some d =>
    obtain ⟨v, h, _⟩ := r.look e
    rw [h]
    rfl
theorem din_imp {sg : Bool → Bool} {fo fi : Me Vl} (hK : X.K = c.K) (σ : L2.St) (H : Hp) (Q : VK) (q : tE c (m2 (dinG sg) fi fo) σ H Q) :
    (tE c fi) σ H fun y H1 => (tE c fo) σ H1 fun x H2 => ∃ a fs k, x = .ref a ∧ DcN X.K H2 a fs ∧ y = .str k ∧ Q (.bl (sg (fs.lookup k).isSome)) H2 := by
  obtain ⟨G, ρ, m, x, m', j, e, q⟩ := tE_cases q
  obtain ⟨d, e', z, m1, ea, eb, eo, rfl⟩ := m2_ok e
  refine tE_ok j ea fun v G1 H1 x1 j1 r1 => ?_
  refine tE_ok j1 eb fun w G2 H2 x2 j2 r2 => ?_
  unfold dinG at eo
  cases e1 : dinB d e' with
  | none => rw [e1] at eo; cases eo
  | some bb =>
    rw [e1] at eo; cases eo
    unfold dinB at e1
    split at e1
    · cases e1
      obtain ⟨a, fs, rfl, s1, rf⟩ := Rp.dct_inv r2
      cases Rp.str_inv r1
      rw [hK]
      refine ⟨a, fs, _, rfl, ex_d j2.z.ex s1, rfl, ?_⟩
      rw [rf.isSome]
      exact q _ G2 H2 (x1.trans x2) j2 (Rp.bl _)
    · cases e1
theorem pd_din {i o : Expr} {pos : Pos} {fi fo : Me Vl} (hK : X.K = c.K) (hi : PE X i (tE c fi)) (ho : PE X o (tE c fo)) (hm : behindInMarks .In o = false := by rfl) : PE X (.Compare i [.In] [o] pos) (tE c (m2 dinD fi fo)) :=
  PE.imp (pe_cmp (pc_inN hi ho) hm) fun σ H Q q => din_imp hK σ H Q q
theorem pd_dnin {i o : Expr} {pos : Pos} {fi fo : Me Vl} (hK : X.K = c.K) (hi : PE X i (tE c fi)) (ho : PE X o (tE c fo)) (hm : behindInMarks .NotIn o = false := by rfl) : PE X (.Compare i [.NotIn] [o] pos) (tE c (m2 dninD fi fo)) :=
  PE.imp (pe_cmp (pc_ninN hi ho) hm) fun σ H Q q => din_imp hK σ H Q q
theorem te_din {i o : Expr} {pos : Pos} {fi fo : Me Vl} (hK : X.K = c.K) (hi : PE X i (tE c fi)) (ho : PE X o (tE c fo)) (hm : behindInMarks .In o = false := by rfl) : PT X (.Compare i [.In] [o] pos) (tB c (mTb (m2 dinD fi fo))) :=
  PT.imp (pt_cmp (pc_inN hi ho) hm) fun σ H Q q => din_imp hK σ H _ (tv_imp σ H Q q)
theorem te_dnin {i o : Expr} {pos : Pos} {fi fo : Me Vl} (hK : X.K = c.K) (hi : PE X i (tE c fi)) (ho : PE X o (tE c fo)) (hm : behindInMarks .NotIn o = false := by rfl) : PT X (.Compare i [.NotIn] [o] pos) (tB c (mTb (m2 dninD fi fo))) :=
  PT.imp (pt_cmp (pc_ninN hi ho) hm) fun σ H Q q => din_imp hK σ H _ (tv_imp σ H Q q)
/-! ### dict(t), t a tuple of pairs -/
def pairD : D → Option (Str × D)
  | .tup [.str k, v] => some (k, v)
  | _ => none
def pairsD : List D → Option (List (Str × D))
  | [] => some []
  | d :: ds => match pairD d, pairsD ds with
    | some p, some ps => some (p :: ps)
    | _, _ => none
def putS {α : Type} (fs : List (Str × α)) (k : Str) (v : α) : List (Str × α) := if (fs.any fun p => decide (p.1 = k)) = true then fs.map (fun p => if p.1 = k then (p.1, v) else p) else fs ++ [(k, v)]
def mergeS {α : Type} (fs more : List (Str × α)) : List (Str × α) := more.foldl (fun acc p => putS acc p.1 p.2) fs
theorem sK_put (fs : List (Str × V)) (k : Str) (v : V) : putK (sK fs) (.inr k) v = sK (putS fs k v) := by
  have h1 : ((sK fs).any fun kv => decide (kv.1 = Sum.inr k)) = fs.any fun p => decide (p.1 = k) := by
    unfold sK
    rw [List.any_map]
    congr 1
    funext p
    simp
  unfold putK putS
  rw [h1]
  split
  · unfold sK
    rw [List.map_map, List.map_map]
    congr 1
    funext p
    simp only [Function.comp]
    by_cases e : p.1 = k
    · simp [e]
    · rw [if_neg e, if_neg (by intro h; exact e (Sum.inr.inj h))]
  · unfold sK
    rw [List.map_append]
    rfl
theorem sK_merge : ∀ (more fs : List (Str × V)), mergeK (sK fs) (sK more) = sK (mergeS fs more)
  | [], fs => rfl
  | (k, v) :: r, fs => by
    show mergeK (putK (sK fs) (.inr k) v) (sK r) = _
    rw [sK_put, sK_merge r]
    rfl
theorem RpF.any {K : Fg} {G : Hp} {k : Str} : ∀ {fs : List (Str × V)} {gs : List (Str × D)}, RpF K G fs gs → (fs.any fun p => decide (p.1 = k)) = gs.any fun p => decide (p.1 = k)
  | _, _, .nil => rfl
  | _, _, .cons h r => by rw [List.any_cons, List.any_cons, r.any]
theorem RpF.app {K : Fg} {G : Hp} : ∀ {fs fs' : List (Str × V)} {gs gs' : List (Str × D)}, RpF K G fs gs → RpF K G fs' gs' → RpF K G (fs ++ fs') (gs ++ gs')
  | _, _, _, _, .nil, s => s
  | _, _, _, _, .cons h r, s => .cons h (r.app s)
theorem RpF.put {K : Fg} {G : Hp} {k : Str} {v : V} {d : D} (h : Rp K G v d) {fs : List (Str × V)} {gs : List (Str × D)} (r : RpF K G fs gs) : RpF K G (putS fs k v) (putS gs k d) := by
  unfold putS
  rw [r.any]
  split
  · rename_i h0
    clear h0
    induction fs generalizing gs with
    | nil => cases r; exact .nil
    | cons p fs ih =>
      cases r with
      | cons h1 r1 =>
        rw [List.map_cons, List.map_cons]
        simp only
        split
        · exact .cons h (ih r1)
        · exact .cons h1 (ih r1)
  · exact r.app (.cons h .nil)
theorem RpF.merge {K : Fg} {G : Hp} : ∀ {more : List (Str × V)} {mored : List (Str × D)} {fs : List (Str × V)} {gs : List (Str × D)}, RpF K G more mored → RpF K G fs gs → RpF K G (mergeS fs more) (mergeS gs mored)
  | _, _, _, _, .nil, s => s
  | (k, v) :: more, (_, d) :: mored, fs, gs, .cons h r, s => by
    show RpF K G (mergeS (putS fs k v) more) (mergeS (putS gs k d) mored)
    exact RpF.merge r (RpF.put h s)
def dictD : List D → Option D
  | [.tup ds] => (pairsD ds).map fun fs => .dct (mergeS [] fs)
  | _ => none
theorem RpF.mono' {K : Fg} {G G' : Hp} (e : Ex G G') {fs : List (Str × V)} {gs : List (Str × D)} (r : RpF K G fs gs) : RpF K G' fs gs := RpF.mono e r
theorem pairs_of {K : Fg} {G H : Hp} (x : Ex G H) : ∀ {ds : List D} {gs : List (Str × D)} {vs : List V}, pairsD ds = some gs → RpL K G vs ds → ∃ (ps : List Addr) (fs : List (Str × V)), vs = ps.map V.ref ∧ Paired (fun p kv => SqT K H p [kV kv.1, kv.2]) ps (sK fs) ∧ RpF K G fs gs
  | [], gs, _, e, .nil => by cases e; exact ⟨[], [], rfl, .nil, .nil⟩
  | d :: ds, gs, _, e, .cons h t => by
    unfold pairsD at e
    split at e
    · rename_i p ps' e1 e2
      cases e
      obtain ⟨ps, fs, rfl, pr, rf⟩ := pairs_of x e2 t
      unfold pairD at e1
      split at e1
      · cases e1
        obtain ⟨a, ws, rfl, s1, r1⟩ := h.tup_inv
        cases r1 with
        | cons ha r1 =>
          cases r1 with
          | cons hb r1 =>
            cases r1
            cases ha.str_inv
            exact ⟨a :: ps, (_, _) :: fs, rfl, .cons (ex_t x s1) pr, .cons hb rf⟩
      · cases e1
    · cases e
theorem cs_dict : CallS c (fun xs H Q => ∃ (a : Addr) (ps : List Addr) (kvs : List (Key × V)), xs = [.ref a] ∧ TupN c.K H a (ps.map V.ref) ∧
    Paired (fun p kv => SqT c.K H p [kV kv.1, kv.2]) ps kvs ∧ ∀ p, H p = none → Q (.ref p) (upd H p (.dK (mergeK [] kvs)))) dictD := by
  intro G H σ ρ m vs ds z j r h Q q
  unfold dictD at h
  split at h
  · rename_i es
    cases ep : pairsD es with
    | none => rw [ep] at h; cases h
    | some gs =>
      rw [ep] at h; cases h
      cases r with
      | cons h1 r =>
        cases r
        obtain ⟨a, ws, rfl, s1, r1⟩ := h1.tupN_inv
        obtain ⟨ps, fs, rfl, pr, rf⟩ := pairs_of j.z.ex ep r1
        refine ⟨a, ps, sK fs, rfl, ex_n j.z.ex s1, pr, fun p hp => ?_⟩
        have e0 : mergeK [] (sK fs) = sK (mergeS [] fs) := sK_merge fs []
        rw [e0]
        have g := Ex.new (o := HO.dK (sK (mergeS [] fs))) (j.gn hp)
        exact q _ _ _ (Mv.new hp (j.gn hp)) (j.new hp) (.dct (.inl (.inl upd_same)) (RpF.merge (RpF.mono g rf) .nil))
  · cases h
theorem pb_dict {p pos : Pos} {e : Expr} {es : List Expr} {g : Me (List Vl)} (hK : X.K = c.K) (hc : X.calm = true) (hg : Gl X "dict") (hm : X.mg "dict" = none) (ha : PA X (e :: es) (tAs c g))
    (he : starEach (e :: es) X.env = (false, eval e X.env) :: starEach es X.env := by rfl) (hpl : (backTo pos (starEach es X.env)).any (·.1) = false := by rfl) : PE X (.Call (.Name "dict" p) (e :: es) [] pos) (tE c (mB dictD g)) :=
  pd_BT (call_dictN hc) (by rw [hK]; exact cs_dict) hg hm (by decide +kernel) ha (by decide) (by decide) he hpl
/-! ### sum, max with a default -/
def intsD : List D → Option (List Int)
  | [] => some []
  | .int b :: r => (intsD r).map fun bs => b :: bs
  | _ :: _ => none
theorem intsD_ok {K : Fg} {G : Hp} : ∀ {ds : List D} {bs : List Int} {vs : List V}, intsD ds = some bs → RpL K G vs ds → vs = bs.map V.int
  | [], bs, _, e, .nil => by cases e; rfl
  | d :: r, bs, _, e, .cons h t => by
    cases d with
    | int b =>
      unfold intsD at e
      cases q : intsD r with
      | none => rw [q] at e; cases e
      | some es => rw [q] at e; cases e; cases h.int_inv; rw [intsD_ok q t]; rfl
    | _ => cases e
def sumD : List D → Option D
  | [.lst ds] => (intsD ds).map fun bs => .int bs.sum
  | _ => none
theorem cs_sum : CallS c (rSum c.K) sumD := by
  intro G H σ ρ m vs ds z j r h Q q
  unfold sumD at h
  split at h
  · rename_i es
    cases eb : intsD es with
    | none => rw [eb] at h; cases h
    | some bs =>
      rw [eb] at h; cases h
      cases r with
      | cons h1 r =>
        cases r
        obtain ⟨a, ws, rfl, s1, r1⟩ := h1.lst_inv
        have e := intsD_ok eb r1
        subst e
        exact ⟨a, bs, rfl, ex_l j.z.ex s1, sc_ok j (.int _) q⟩
  · cases h
theorem pb_sum {p pos : Pos} {e : Expr} {es : List Expr} {g : Me (List Vl)} (hK : X.K = c.K) (hc : X.calm = true) (hg : Gl X "sum") (hm : X.mg "sum" = none) (ha : PA X (e :: es) (tAs c g))
    (he : starEach (e :: es) X.env = (false, eval e X.env) :: starEach es X.env := by rfl) (hpl : (backTo pos (starEach es X.env)).any (·.1) = false := by rfl) : PE X (.Call (.Name "sum" p) (e :: es) [] pos) (tE c (mB sumD g)) :=
  pd_B (cr_sum hc) (by rw [hK]; exact cs_sum) hg hm (by decide +kernel) ha (by decide) (by decide) he hpl
end
end Pd

set_option Elab.async false
set_option linter.all false
set_option maxRecDepth 100000
set_option maxHeartbeats 4000000
namespace Pd
open PySem L2
section
variable {X : Cx} {c : Ct}
/-! ### keywords -/
theorem PK.imp {e : List Keyword} {t t' : TA} (h : PK X e t) (i : ∀ σ H Q, t' σ H Q → t σ H Q) : PK X e t' := ⟨fun pos pins s σ H Q I q => h.run pos pins s σ H Q I (i σ H Q q)⟩
theorem pd_kn : PK X [] (tAs c mNil) := PK.imp pk_nil fun σ H Q q => by
  obtain ⟨G, ρ, m, xs, m', j, e, q⟩ := tAs_cases q
  cases e
  exact q [] G H (Mv.refl c G H) j .nil
theorem pd_kc {nm : Option Str} {e : Expr} {kpos : Pos} {es : List Keyword} {f : Me Vl} {g : Me (List Vl)} (he : PE X e (tE c f)) (hs : PK X es (tAs c g)) : PK X (⟨nm, e, kpos⟩ :: es) (tAs c (mCons f g)) := by
  refine PK.imp (pk_cons he hs) fun σ H Q q => ?_
  obtain ⟨G, ρ, m, xs, m', j, e, q⟩ := tAs_cases q
  unfold mCons at e
  cases ea : f ρ m with
  | stuck => simp only [ea, Ou.bind] at e; cases e
  | ok x m1 =>
    simp only [ea, Ou.bind] at e
    cases eb : g ρ m1 with
    | stuck => simp only [eb] at e; cases e
    | ok ys m2 =>
      simp only [eb] at e
      cases e
      refine tE_ok j ea fun v G1 H1 x1 j1 r1 => ?_
      refine tAs_ok j1 eb fun vs G2 H2 x2 j2 r2 => ?_
      exact q _ G2 H2 (x1.trans x2) j2 (.cons (r1.mono x2.ex) r2)
/-- the values in the order of π -/
def pick {α : Type} (π : List Nat) (ws : List α) : List α := π.filterMap fun i => ws[i]?
theorem vals_pick {zs : List V} {ws : List Value} (r : Vals zs ws) : ∀ π : List Nat, Vals (pick π zs) (pick π ws)
  | [] => .nil
  | i :: π => by
    have ih := vals_pick r π
    unfold pick at ih ⊢
    cases e : zs[i]? with
    | none =>
      have e2 := Vals.none_of r e
      rw [List.filterMap_cons, List.filterMap_cons, e, e2]
      exact ih
    | some z =>
      obtain ⟨u, e2, ru⟩ := Vals.get r e
      rw [List.filterMap_cons, List.filterMap_cons, e, e2]
      exact .cons ru ih
theorem RpVs.pick {G : Hp} {zs : List V} {xs : List Vl} (r : RpVs c G zs xs) : ∀ π : List Nat, RpVs c G (pick π zs) (pick π xs)
  | [] => .nil
  | i :: π => by
    have ih := RpVs.pick r π
    unfold Pd.pick at ih ⊢
    cases e : xs[i]? with
    | none =>
      have e2 : zs[i]? = none := by
        rw [List.getElem?_eq_none_iff] at e ⊢
        rw [r.length]; exact e
      rw [List.filterMap_cons, List.filterMap_cons, e, e2]
      exact ih
    | some x =>
      obtain ⟨v, e2, rv⟩ := r.getD e
      rw [List.filterMap_cons, List.filterMap_cons, e, e2]
      exact .cons rv ih
/-- a def called with keywords alone: their names as written, where each parameter's value stands -/
structure Dk (P : Program) (w : World) (K : Fg) (mg : Str → Option Value) (base : Heap) (k : Nat) (x : Str) (ks : List Str) (π : List Nat) (f : Fn) : Prop where
  ex : ∃ (a : Addr) (fd : FuncData) (ps : List Str), mg x = some (.ref a) ∧ PySem.W.keepIn K (.ref a) = true ∧ KBn K fd ps 0 ks (fun _ ws => pick π ws) (fun _ zs => pick π zs) ∧ FnG P w K mg base k a fd ps (spF K f)
def mCallK (n : Nat) (π : List Nat) (f : Fn) (g : Me (List Vl)) : Me Vl := fun ρ m => (g ρ m).bind fun as m1 => if as.length = n then (f (pick π as) m1).bind fun d m2 => .ok (.dat d) m2 else .stuck
theorem pd_callK {k j n : Nat} {x : Str} {ks : List Str} {π : List Nat} {f : Fn} {p pos : Pos} {kws : List Keyword} {g : Me (List Vl)} (F : Dk X.prog X.w X.K X.mg X.base k x ks π f) (hK : X.K = c.K) (hr : Rm j X.A) (hk : k ≤ j) (hg : Gl X x) (hn : ks.length = n) (ha : PK X kws (tAs c g))
    (hall : (backToKw pos (keywordEach kws X.env)).all (·.1.isSome) = true := by rfl) (hks : (backToKw pos (keywordEach kws X.env)).filterMap (·.1) = ks := by rfl) (hdb : (x == ("__debug__" : Str)) = false := by decide)
    (hpl : ((backTo pos (starEach [] X.env)).any (·.1) || (backToKw pos (keywordEach kws X.env)).any (·.1.isNone)) = false := by rfl) :
    PE X (.Call (.Name x p) [] kws pos) (tE c (mCallK n π f g)) := by
  obtain ⟨a, fd, ps, hm, hkp, hb, F⟩ := F.ex
  refine ⟨fun pins s σ H Q I h => ?_⟩
  refine wpAny_Call_Name_kw (ld_glob I hg hm ?_ hdb)
  refine PySem.W.callWith_KW0 (h₀ := X.base) I.ok.mod.kin hkp hall ?_ hpl
  obtain ⟨G, ρ, m, z, m', j, e, q⟩ := tE_cases h
  unfold mCallK at e
  cases ea : g ρ m with
  | stuck => simp only [ea, Ou.bind] at e; cases e
  | ok as m1 =>
    simp only [ea, Ou.bind] at e
    split at e
    · rename_i hl
      cases ef : f (pick π as) m1 with
      | stuck => simp only [ef] at e; cases e
      | ok d m2 =>
        simp only [ef] at e
        cases e
        refine thn (ha.run pos pins s σ H (fun zs H2 => zs.length = n ∧ spF X.K f (pick π zs) H2 Q E0) I ?_) fun ws s2 ⟨zs, H2, I2, rz, l2, q2⟩ => ⟨I2.kIn, ?_⟩
        · refine tAs_ok j ea fun vs G1 H1 x1 j1 r1 => ⟨by rw [r1.length]; exact hl, ?_⟩
          rw [hK]
          exact j1.sp (RpVs.pick r1 π) ef fun v G2 H2 mv j2 r2 => q v G2 H2 (x1.trans mv) j2 r2
        · rw [hks]
          exact run_gk (us := []) (vs := []) F (hr.mono hk) hb I2 .nil rz rfl (by rw [l2, hn]) q2
    · cases e
/-! ### max(xs, default=d) -/
def maxI (ns : List Int) (d : Int) : Int := match ns with
  | [] => d
  | y :: ys => ys.foldl (fun a y => if decide (a < y) = true then y else a) y
def rMaxDf (K : Fg) : List V → List V → Hp → VK → Prop := fun vs zs H Q => ∃ (a : Addr) (ns : List Int) (d : Int), vs = [.ref a] ∧ zs = [.int d] ∧ SqL K H a (ns.map V.int) ∧ Q (.int (maxI ns d)) H
theorem hold_ints {h : Heap} : ∀ {ns : List Int} {its : List Value}, Vals (ns.map V.int) its → PySem.W.HoldAll h its ns
  | [], _, .nil => ⟨[], .nil⟩
  | n :: ns, _, .cons r t => by
    obtain ⟨k, rfl⟩ := r
    exact PySem.W.HoldAll.cons (PySem.W.holds_int n k) (hold_ints t)
theorem cr_maxDf (hc : X.calm = true) (hu : X.A.units + 1 < cLine) : CallRK X (.builtin "max") [Str.ofString "default"] (rMaxDf X.K) := by
  intro pins s σ H vs zs us ws Q I r rz h
  obtain ⟨a, ns, d, rfl, rfl, hs, q⟩ := h
  obtain rfl := Vals.ref1 r
  obtain ⟨w1, rfl, t, rfl⟩ := vals1 rz
  obtain ⟨its, rv, hl, hz⟩ := I.list hs
  refine PySem.W.max_list_datum_default (xs := ns) (I.ok.hd hc) hl.isList (by simpa using hold_ints rv) (by simpa [PySem.W.Datum.depth] using hu) (fun e h' tk hk => ?_) (fun y ys i v h' tk e hi hv hk => ?_)
  · subst e
    exact ⟨.int d, H, I.kept (t' := tk) hk, ⟨_, rfl⟩, q⟩
  · subst e
    obtain ⟨as, rd⟩ := hv
    cases rd
    exact ⟨.int _, H, I.kept (t' := tk) hk, ⟨_, rfl⟩, q⟩
end
end Pd

set_option Elab.async false
set_option linter.all false
set_option maxRecDepth 100000
set_option maxHeartbeats 4000000
namespace Pd
open PySem L2
section
variable {X : Cx} {c : Ct}
/-! ### max with a default -/
def maxDfD (d e : D) : Option D := match d, e with
  | .lst ds, .int k => (intsD ds).map fun ns => .int (maxI ns k)
  | _, _ => none
theorem pb_maxDf {p pos kpos : Pos} {e e2 : Expr} {f g : Me Vl} {k : Nat} (hK : X.K = c.K) (hc : X.calm = true) (hr : Rm k X.A) (hg : Gl X "max") (hm : X.mg "max" = none) (ha : PE X e (tE c f)) (hb : PE X e2 (tE c g))
    (he0 : starEach [e] X.env = [(false, eval e X.env)] := by rfl)
    (he : backTo pos (starEach [e] X.env) = (false, eval e X.env) :: backTo pos (starEach [] X.env) := by rfl) (hpl : (backTo pos (starEach [e] X.env)).any (·.1) = false := by rfl)
    (hall : (backToKw pos (keywordEach [⟨some "default", e2, kpos⟩] X.env)).all (·.1.isSome) = true := by rfl) (hnone : (backToKw pos (keywordEach [⟨some "default", e2, kpos⟩] X.env)).any (·.1.isNone) = false := by rfl)
    (hks : (backToKw pos (keywordEach [⟨some "default", e2, kpos⟩] X.env)).filterMap (·.1) = [Str.ofString "default"] := by rfl) :
    PE X (.Call (.Name "max" p) [e] [⟨some "default", e2, kpos⟩] pos) (tE c (m2 maxDfD f g)) := by
  refine PE.imp (pe_callBK (cr_maxDf hc (by have := hr.units; omega)) hg hm (by decide +kernel) (pa_cons ha pa_nil he0) (pk_cons hb pk_nil) (by decide) (by decide) he hpl hall hnone hks) fun σ H Q q => ?_
  obtain ⟨G, ρ, m, x, m', j, e, q⟩ := tE_cases q
  obtain ⟨d, e', z, m1, ea, eb, eo, rfl⟩ := m2_ok e
  refine tE_ok j ea fun v G1 H1 x1 j1 r1 => ?_
  refine tE_ok j1 eb fun w G2 H2 x2 j2 r2 => ?_
  unfold maxDfD at eo
  split at eo
  · rename_i ds k'
    cases ei : intsD ds with
    | none => rw [ei] at eo; cases eo
    | some ns =>
      rw [ei] at eo; cases eo
      obtain ⟨a, vs, rfl, s1, rl⟩ := Rp.lst_inv (Rp.mono x2.ex r1)
      cases Rp.int_inv r2
      have e0 := intsD_ok ei rl
      subst e0
      rw [hK]
      exact ⟨a, ns, _, rfl, rfl, ex_l j2.z.ex s1, q _ G2 H2 (x1.trans x2) j2 (Rp.int _)⟩
  · cases eo
/-! ### list(x) -/
def mListOf (f : Me Vl) : Me (List D) := fun ρ m => (f ρ m).bind fun x m1 => match x with
  | .dat (.tup ds) => .ok ds m1
  | .dat (.lst ds) => .ok ds m1
  | _ => .stuck
theorem pd_listOf {p pos : Pos} {e : Expr} {f : Me Vl} (hK : X.K = c.K) (hg : Gl X "list") (hm : X.mg "list" = none) (h : PE X e (tE c f)) (hs : starEach [e] X.env = [(false, eval e X.env)] := by rfl)
    (he : starEach [e] X.env = (false, eval e X.env) :: starEach [] X.env := by rfl) (hpl : (backTo pos (starEach [] X.env)).any (·.1) = false := by rfl) :
    PE X (.Call (.Name "list" p) [e] [] pos) (tL c (mListOf f)) := by
  refine PE.imp (pe_callTy call_list_of hg hm (by decide +kernel) (pa_cons h pa_nil hs) (by decide) (by decide) he hpl) fun σ H Q q => ?_
  obtain ⟨G, ρ, m, ds, m', j, e, q⟩ := tL_cases q
  unfold mListOf at e
  cases ea : f ρ m with
  | stuck => simp only [ea, Ou.bind] at e; cases e
  | ok x m1 =>
    simp only [ea, Ou.bind] at e
    refine tE_ok j ea fun v G1 H1 x1 j1 r1 => ?_
    split at e
    · cases e
      obtain ⟨a, vs, rfl, s1, rl⟩ := Rp.tup_inv r1
      rw [hK]
      exact ⟨a, vs, rfl, .inr (ex_t j1.z.ex s1), fun l hl => q l vs G1 _ (x1.trans (Mv.newH hl)) (j1.ext hl rfl) (x1.dm l hl) (j1.gn hl) upd_same rl⟩
    · cases e
      obtain ⟨a, vs, rfl, s1, rl⟩ := Rp.lst_inv r1
      rw [hK]
      exact ⟨a, vs, rfl, .inl (ex_l j1.z.ex s1), fun l hl => q l vs G1 _ (x1.trans (Mv.newH hl)) (j1.ext hl rfl) (x1.dm l hl) (j1.gn hl) upd_same rl⟩
    · cases e
/-! ### arguments that are data or new lists -/
inductive Av where
  | dat (d : D) | own (ds : List D)
inductive RpA (c : Ct) (G H0 H : Hp) : List V → List Av → List Addr → Prop
  | nil : RpA c G H0 H [] [] []
  | dat {v : V} {d : D} {vs : List V} {xs : List Av} {as : List Addr} : Rp c.K G v d → RpA c G H0 H vs xs as → RpA c G H0 H (v :: vs) (.dat d :: xs) as
  | own {a : Addr} {ws : List V} {ds : List D} {vs : List V} {xs : List Av} {as : List Addr} : H0 a = none → G a = none → H a = some (.lst ws) → RpL c.K G ws ds → a ∉ as → RpA c G H0 H vs xs as → RpA c G H0 H (.ref a :: vs) (.own ds :: xs) (a :: as)
def tAo (c : Ct) (f : Me (List Av)) : TA := fun σ H Q => ∃ G ρ m, J c G H σ ρ m ∧ match f ρ m with
  | .stuck => False
  | .ok xs m' => ∀ vs as G' H', Mv c G H G' H' → J c G' H' σ ρ m' → RpA c G' H H' vs xs as → Q vs H'
theorem tAo_cases {f : Me (List Av)} {σ : L2.St} {H : Hp} {Q : List V → Hp → Prop} (h : tAo c f σ H Q) : ∃ G ρ m xs m', J c G H σ ρ m ∧ f ρ m = .ok xs m' ∧ ∀ vs as G' H', Mv c G H G' H' → J c G' H' σ ρ m' → RpA c G' H H' vs xs as → Q vs H' := by
  obtain ⟨G, ρ, m, j, q⟩ := h
  cases e : f ρ m with
  | stuck => rw [e] at q; exact q.elim
  | ok x m' => rw [e] at q; exact ⟨G, ρ, m, x, m', j, e, q⟩
theorem tAo_ok {f : Me (List Av)} {G H : Hp} {σ : L2.St} {ρ : En} {m m1 : List D} {xs : List Av} {Q : List V → Hp → Prop} (j : J c G H σ ρ m) (e : f ρ m = .ok xs m1) (q : ∀ vs as G' H', Mv c G H G' H' → J c G' H' σ ρ m1 → RpA c G' H H' vs xs as → Q vs H') : tAo c f σ H Q :=
  ⟨G, ρ, m, j, by rw [e]; exact q⟩
theorem RpA.less {G H0 H1 H : Hp} (dm : ∀ a, H1 a = none → H0 a = none) : ∀ {vs : List V} {xs : List Av} {as : List Addr}, RpA c G H1 H vs xs as → RpA c G H0 H vs xs as
  | _, _, _, .nil => .nil
  | _, _, _, .dat h r => .dat h (r.less dm)
  | _, _, _, .own h1 h2 h3 h4 h5 r => .own (dm _ h1) h2 h3 h4 h5 (r.less dm)
theorem RpA.fresh {G H0 H : Hp} : ∀ {vs : List V} {xs : List Av} {as : List Addr}, RpA c G H0 H vs xs as → ∀ a ∈ as, H0 a = none
  | _, _, _, .nil, a, h => by cases h
  | _, _, _, .dat _ r, a, h => r.fresh a h
  | _, _, _, .own h1 h2 h3 h4 h5 r, a, h => by
    rcases List.mem_cons.mp h with rfl | h
    · exact h1
    · exact r.fresh a h
def oNil : Me (List Av) := fun _ m => .ok [] m
def oDat (f : Me Vl) (g : Me (List Av)) : Me (List Av) := fun ρ m => (f ρ m).bind fun x m1 => (g ρ m1).bind fun xs m2 => match x with
  | .dat d => .ok (.dat d :: xs) m2
  | _ => .stuck
def oOwn (f : Me (List D)) (g : Me (List Av)) : Me (List Av) := fun ρ m => (f ρ m).bind fun ds m1 => (g ρ m1).bind fun xs m2 => .ok (.own ds :: xs) m2
theorem po_n : PA X [] (tAo c oNil) := PA.imp pa_nil fun σ H Q q => by
  obtain ⟨G, ρ, m, xs, m', j, e, q⟩ := tAo_cases q
  cases e
  exact q [] [] G H (Mv.refl c G H) j .nil
theorem po_d {e : Expr} {es : List Expr} {f : Me Vl} {g : Me (List Av)} (he : PE X e (tE c f)) (hs : PA X es (tAo c g)) (hp : starEach (e :: es) X.env = (false, eval e X.env) :: starEach es X.env := by rfl) : PA X (e :: es) (tAo c (oDat f g)) := by
  refine PA.imp (pa_cons he hs hp) fun σ H Q q => ?_
  obtain ⟨G, ρ, m, xs, m', j, e, q⟩ := tAo_cases q
  unfold oDat at e
  cases ea : f ρ m with
  | stuck => simp only [ea, Ou.bind] at e; cases e
  | ok x m1 =>
    simp only [ea, Ou.bind] at e
    cases eb : g ρ m1 with
    | stuck => simp only [eb] at e; cases e
    | ok ys m2 =>
      simp only [eb] at e
      cases x with
      | pool => cases e
      | dat d =>
        cases e
        refine tE_ok j ea fun v G1 H1 x1 j1 r1 => ?_
        refine tAo_ok j1 eb fun vs as G2 H2 x2 j2 r2 => ?_
        exact q _ as G2 H2 (x1.trans x2) j2 (.dat (Rp.mono x2.ex r1) (r2.less x1.dm))
theorem po_o {e : Expr} {es : List Expr} {f : Me (List D)} {g : Me (List Av)} (he : PE X e (tL c f)) (hs : PA X es (tAo c g)) (hp : starEach (e :: es) X.env = (false, eval e X.env) :: starEach es X.env := by rfl) : PA X (e :: es) (tAo c (oOwn f g)) := by
  refine PA.imp (pa_cons he hs hp) fun σ H Q q => ?_
  obtain ⟨G, ρ, m, xs, m', j, e, q⟩ := tAo_cases q
  unfold oOwn at e
  cases ea : f ρ m with
  | stuck => simp only [ea, Ou.bind] at e; cases e
  | ok ds m1 =>
    simp only [ea, Ou.bind] at e
    cases eb : g ρ m1 with
    | stuck => simp only [eb] at e; cases e
    | ok ys m2 =>
      simp only [eb] at e
      cases e
      refine tL_ok j ea fun a ws G1 H1 x1 j1 ha g1 h1 r1 => ?_
      refine tAo_ok j1 eb fun vs as G2 H2 x2 j2 r2 => ?_
      have hP : c.P ≠ some a := fun e => by
        obtain ⟨⟨o, h0⟩, _⟩ := j.z.pl a e
        rw [j.h0 ha] at h0; cases h0
      have g2 : G2 a = none := by
        cases z : G2 a with
        | none => rfl
        | some o => rcases x2.nw a o z with h | h
                    · rw [g1] at h; cases h
                    · rw [h1] at h; cases h
      exact q _ _ G2 H2 (x1.trans x2) j2 (.own ha g2 (x2.kp a _ h1 hP) (r1.mono x2.ex) (fun hm => by have := r2.fresh a hm; rw [h1] at this; cases this) (r2.less x1.dm))
def Av.sl : Av → Sl
  | .dat d => .val d
  | .own ds => .own ds
def setE : En → List Nat → List Av → En
  | ρ, i :: is, x :: xs => setE (ρ.set i x.sl) is xs
  | ρ, _, _ => ρ
def setV : L2.St → List Nat → List V → L2.St
  | σ, i :: is, v :: vs => setV (σ.set i (some v)) is vs
  | σ, _, _ => σ
theorem J.setA {G H0 H : Hp} {m : List D} (hh : ∀ a, H0 a = none → c.H0 a = none) : ∀ {is : List Nat} {vs : List V} {xs : List Av} {as : List Addr} {σ : L2.St} {ρ : En}, J c G H σ ρ m → RpA c G H0 H vs xs as → (∀ (i : Nat) (ds : List D), ρ[i]? = some (.own ds) → ∀ a ∈ as, σ[i]? ≠ some (some (.ref a))) → J c G H (setV σ is vs) (setE ρ is xs) m
  | [], vs, xs, as, σ, ρ, j, r, no => by
    cases vs <;> cases xs <;> simpa [setV, setE] using j
  | i :: is, _, _, _, σ, ρ, j, .nil, no => j
  | i :: is, _, _, _, σ, ρ, j, .dat h r, no => by
    refine J.setA hh (is := is) (j.set i h) r fun k ds hk a ha => ?_
    by_cases e : i = k
    · subst e
      by_cases hl : i < ρ.length
      · rw [List.getElem?_set_self hl] at hk; cases hk
      · rw [List.getElem?_eq_none_iff.mpr (by rw [List.length_set]; omega)] at hk; cases hk
    · rw [show Av.sl (.dat _) = Sl.val _ from rfl, List.getElem?_set_ne e] at hk
      rw [List.getElem?_set_ne e]
      exact no k ds hk a ha
  | i :: is, _, _, _, σ, ρ, j, .own h1 h2 h3 h4 h5 r, no => by
    refine J.setA hh (is := is) (j.setOwn i h3 h2 (hh _ h1) h4 fun k ds hk => no k ds hk _ List.mem_cons_self) r fun k ds hk a ha => ?_
    by_cases e : i = k
    · subst e
      by_cases hl : i < σ.length
      · rw [List.getElem?_set_self hl]
        intro z
        injection z with z
        injection z with z
        injection z with z
        subst z
        exact h5 ha
      · rw [List.getElem?_eq_none_iff.mpr (by rw [List.length_set]; omega)]
        intro z; cases z
    · rw [show Av.sl (.own _) = Sl.own _ from rfl, List.getElem?_set_ne e] at hk
      rw [List.getElem?_set_ne e]
      exact no k ds hk a (List.mem_cons_of_mem _ ha)
def sPar (is : List Nat) (f : Me (List Av)) : Ms := fun ρ m => match f ρ m with
  | .ok xs m' => if xs.length = is.length then .nx (setE ρ is xs) m' else .stuck
  | .stuck => .stuck
theorem RpA.length {G H0 H : Hp} : ∀ {vs : List V} {xs : List Av} {as : List Addr}, RpA c G H0 H vs xs as → vs.length = xs.length
  | _, _, _, .nil => rfl
  | _, _, _, .dat _ r => by rw [List.length_cons, List.length_cons, r.length]
  | _, _, _, .own _ _ _ _ _ r => by rw [List.length_cons, List.length_cons, r.length]
theorem par_imp {is : List Nat} {f : Me (List Av)} {D' : Ends} {σ : L2.St} {H : Hp} (q : tS c (sPar is f) D' σ H) : (tAo c f) σ H fun vs H1 => vs.length = is.length ∧ D'.nx (setV σ is vs) H1 := by
  obtain ⟨G, ρ, m, j, q⟩ := q
  unfold sPar at q
  cases e : f ρ m with
  | stuck => rw [e] at q; exact q.elim
  | ok xs m' =>
    rw [e] at q
    simp only at q
    by_cases hl : xs.length = is.length
    · rw [if_pos hl] at q
      refine tAo_ok j e fun vs as G1 H1 x1 j1 r1 => ⟨by rw [r1.length]; exact hl, ?_⟩
      refine q _ G1 H1 x1.ex (J.setA (H0 := H) (fun a ha => j.h0 ha) j1 r1 fun i ds hi a ha => j.noown (H' := H) (r1.fresh a ha) i ds hi)
    · rw [if_neg hl] at q; exact q.elim
theorem pd_par2 {i k : Nat} {x y : Str} {a b : Expr} {px py pt pos : Pos} {kt k2 pt2} {f : Me (List Av)} (hc : X.calm = true) (hN : X.N.Nodup) (hi : X.N[i]? = some x) (hk : X.N[k]? = some y) (hik : i ≠ k)
    (hx : X.env.scope.names.lookup x = some .local) (hy : X.env.scope.names.lookup y = some .local) (ha : PA X [a, b] (tAo c f))
    (hw : swappedStores [.Tuple [.Name x px, .Name y py] kt pt] (.Tuple [a, b] k2 pt2) X.env = pure (some [x, y]))
    (hs : swapsWithSole [.Tuple [.Name x px, .Name y py] kt pt] (.Tuple [a, b] k2 pt2) pos.line X.env = pure false := by rfl) :
    PS X (.Assign [.Tuple [.Name x px, .Name y py] kt pt] (.Tuple [a, b] k2 pt2) pos) (tS c (sPar [i, k] f)) := by
  refine PS.imp (ps_par hc hN hi hk hik hx hy ha hw hs) fun D' σ H q => ?_
  have q := par_imp q
  obtain ⟨G, ρ, m, xs, m', j, e, q⟩ := tAo_cases q
  refine tAo_ok j e fun vs as G1 H1 x1 j1 r1 => ?_
  obtain ⟨hl, q⟩ := q vs as G1 H1 x1 j1 r1
  match vs, hl with
  | [v, w], _ => exact ⟨v, w, rfl, q⟩
theorem pd_par3 {i k l : Nat} {x y z : Str} {a b e : Expr} {px py pz pt pos : Pos} {kt k2 pt2} {f : Me (List Av)} (hc : X.calm = true) (hN : X.N.Nodup) (hi : X.N[i]? = some x) (hk : X.N[k]? = some y) (hl : X.N[l]? = some z) (hik : i ≠ k) (hil : i ≠ l) (hkl : k ≠ l)
    (hx : X.env.scope.names.lookup x = some .local) (hy : X.env.scope.names.lookup y = some .local) (hz : X.env.scope.names.lookup z = some .local) (ha : PA X [a, b, e] (tAo c f))
    (hw : swappedStores [.Tuple [.Name x px, .Name y py, .Name z pz] kt pt] (.Tuple [a, b, e] k2 pt2) X.env = pure (some [x, y, z]))
    (hs : swapsWithSole [.Tuple [.Name x px, .Name y py, .Name z pz] kt pt] (.Tuple [a, b, e] k2 pt2) pos.line X.env = pure false := by rfl) :
    PS X (.Assign [.Tuple [.Name x px, .Name y py, .Name z pz] kt pt] (.Tuple [a, b, e] k2 pt2) pos) (tS c (sPar [i, k, l] f)) := by
  refine PS.imp (ps_par3 hc hN hi hk hl hik hil hkl hx hy hz ha hw hs) fun D' σ H q => ?_
  have q := par_imp q
  obtain ⟨G, ρ, m, xs, m', j, e, q⟩ := tAo_cases q
  refine tAo_ok j e fun vs as G1 H1 x1 j1 r1 => ?_
  obtain ⟨hl, q⟩ := q vs as G1 H1 x1 j1 r1
  match vs, hl with
  | [v, w, u], _ => exact ⟨v, w, u, rfl, q⟩
/-! ### target = e, the target a tuple of names -/
def sAsg (f : Me Vl) (g : Mg) : Ms := fun ρ m => match f ρ m with
  | .ok (.dat d) m' => (match g d ρ with
    | some ρ' => .nx ρ' m'
    | none => .stuck)
  | _ => .stuck
theorem pd_asg {tg e : Expr} {pos : Pos} {is : List Nat} {f : Me Vl} {g : Mg} (he : PE X e (tE c f)) (hg : PG X tg (tG c is g)) (hs : swapsWithSole [tg] e pos.line X.env = pure false := by rfl) (hw : swappedStores [tg] e X.env = pure none := by rfl)
    (h1 : (assignEach [tg] X.env).map (·.2) = [assign tg X.env] := by rfl) : PS X (.Assign [tg] e pos) (tS c (sAsg f g)) := by
  refine PS.imp (ps_asg he hg hs hw h1) fun D' σ H q => ?_
  obtain ⟨G, ρ, m, j, q⟩ := q
  unfold sAsg at q
  cases e : f ρ m with
  | stuck => rw [e] at q; exact q.elim
  | ok x m' =>
    rw [e] at q
    cases x with
    | pool => exact q.elim
    | dat d =>
      refine tE_ok j e fun v G1 H1 x1 j1 r1 => ?_
      refine ⟨G1, ρ, m', d, j1, r1, ?_⟩
      simp only at q
      cases eg : g d ρ with
      | none => rw [eg] at q; exact q.elim
      | some ρ' =>
        rw [eg] at q
        intro σ' _ j'
        exact q σ' G1 H1 x1.ex j'
def gN3 (i k l : Nat) : Mg := fun d ρ => match d with
  | .tup [d1, d2, d3] => some (((ρ.set i (.val d1)).set k (.val d2)).set l (.val d3))
  | _ => none
theorem wipe_set' {i : Nat} {a : Option V} : ∀ {is : List Nat} {σ : L2.St}, (wipe (σ.set i a) is).set i none = (wipe σ is).set i none
  | [], σ => by simp [wipe, List.set_set]
  | k :: is, σ => by
    simp only [wipe]
    by_cases e : k = i
    · subst e
      rw [List.set_set, List.set_set]
      exact wipe_set'
    · rw [List.set_comm _ _ e, List.set_comm _ _ e, wipe_set']
theorem wipe_set {i : Nat} {a : Option V} : ∀ {is : List Nat} {σ : L2.St}, i ∈ is → wipe (σ.set i a) is = wipe σ is
  | [], σ, h => by cases h
  | k :: is, σ, h => by
    simp only [wipe]
    by_cases e : i = k
    · subst e
      exact wipe_set'
    · rw [wipe_set (by rcases List.mem_cons.mp h with h | h; exact absurd h e; exact h)]
theorem pg_n3 {i k l n : Nat} {x y z : Str} {px py pz pos : Pos} (hN : X.N.Nodup) (hc : X.calm = true) (hK : X.K = c.K) (hi : X.N[i]? = some x) (hx : Loc X.env.scope x) (hk : X.N[k]? = some y) (hy : Loc X.env.scope y) (hl : X.N[l]? = some z) (hz : Loc X.env.scope z)
    (hf : X.fn x = true ∨ X.env.scope.names.lookup x = some .local := by first | exact .inl rfl | exact .inr rfl | assumption) (hf2 : X.fn y = true ∨ X.env.scope.names.lookup y = some .local := by first | exact .inl rfl | exact .inr rfl | assumption) (hf3 : X.fn z = true ∨ X.env.scope.names.lookup z = some .local := by first | exact .inl rfl | exact .inr rfl | assumption) :
    PG X (.Tuple [.Name x px, .Name y py, .Name z pz] n pos) (tG c [i, k, l] (gN3 i k l)) := by
  refine PG.imp (pg_tup hc (pgs_cons (pg_name hN hi hx hf) (pgs_cons (pg_name hN hk hy hf2) (pgs_cons (pg_name hN hl hz hf3) pgs_nil)))) fun v σ H Q q => ?_
  obtain ⟨G, ρ, m, d, j, r, q⟩ := q
  unfold gN3 at q
  split at q
  · exact q.elim
  · rename_i ρ' e
    split at e
    · rename_i d1 d2 d3
      cases e
      obtain ⟨a, vs, rfl, s, rl⟩ := r.tup_inv
      cases rl with
      | cons r1 rl =>
        cases rl with
        | cons r2 rl =>
          cases rl with
          | cons r3 rl =>
            cases rl
            rw [hK]
            exact ⟨a, _, rfl, ex_t j.z.ex s, rfl, _, _, rfl, _, _, rfl, _, _, rfl, rfl, q _ (by rw [wipe_set (by simp), wipe_set (by simp), wipe_set (by simp)]) (((j.set i r1).set k r2).set l r3)⟩
    · cases e
end
end Pd

set_option Elab.async false
set_option linter.all false
set_option maxRecDepth 100000
set_option maxHeartbeats 4000000
namespace Pd
open PySem L2
section
variable {X : Cx} {c : Ct}
theorem RpL.erase {K : Fg} {G : Hp} : ∀ {vs : List V} {ds : List D} (i : Nat), RpL K G vs ds → RpL K G (vs.eraseIdx i) (ds.eraseIdx i)
  | _, _, _, .nil => .nil
  | _, _, 0, .cons h r => r
  | _, _, i + 1, .cons h r => .cons h (r.erase i)
/-- xs.append(ys.pop(e)), both own lists -/
def sAppPop (i l : Nat) (f : Me Vl) : Ms := fun ρ m => match f ρ m with
  | .ok (.dat (.int k)) m' => (match ρ[i]?, ρ[l]? with
    | some (.own es), some (.own ds) => if es.length < sizeLine ∧ 0 ≤ k ∧ k < 2 ^ 63 then (match ds[k.toNat]? with
      | some d => .nx ((ρ.set l (.own (ds.eraseIdx k.toNat))).set i (.own (es ++ [d]))) m'
      | none => .stuck) else .stuck
    | _, _ => .stuck)
  | _ => .stuck
theorem sAppPop_inv {i l : Nat} {f : Me Vl} {ρ : En} {m : List D} {r : So} (h : sAppPop i l f ρ m = r) (hr : r ≠ .stuck) : ∃ k m' es ds d, f ρ m = .ok (.dat (.int k)) m' ∧ ρ[i]? = some (.own es) ∧ ρ[l]? = some (.own ds) ∧ (es.length < sizeLine ∧ 0 ≤ k ∧ k < 2 ^ 63) ∧ ds[k.toNat]? = some d ∧
    r = .nx ((ρ.set l (.own (ds.eraseIdx k.toNat))).set i (.own (es ++ [d]))) m' := by
  unfold sAppPop at h
  split at h <;> try exact absurd h.symm hr
  rename_i k m' ek
  split at h <;> try exact absurd h.symm hr
  rename_i es ds ei el
  split at h <;> try exact absurd h.symm hr
  rename_i hc
  split at h <;> try exact absurd h.symm hr
  rename_i d hd
  exact ⟨k, m', es, ds, d, ek, ei, el, hc, hd, h.symm⟩
theorem pd_appPop (i l : Nat) {x y : Str} {e : Expr} {p1 p2 p3 p4 q1 q2 q3 : Pos} {f : Me Vl} (he : PE X e (tE c f)) (hil : i ≠ l) (hN : X.N[i]? = some x := by rfl) (hv : Vis X.env.scope x := by first | exact Or.inl rfl | exact Or.inr (Or.inl rfl) | exact Or.inr (Or.inr rfl)) (hd : (x == ("__debug__" : Str)) = false := by decide)
    (hcd : (x == ("__classdict__" : Str)) = false := by decide)
    (hN2 : X.N[l]? = some y := by rfl) (hv2 : Vis X.env.scope y := by first | exact Or.inl rfl | exact Or.inr (Or.inl rfl) | exact Or.inr (Or.inr rfl)) (hd2 : (y == ("__debug__" : Str)) = false := by decide) (hcd2 : (y == ("__classdict__" : Str)) = false := by decide)
    (g1 : attributeBase (.Name y q1) "pop" X.env (eval (.Name y q1) X.env) = eval (.Name y q1) X.env := by rfl)
    (g2 : (((((backTo q3 (starEach [e] X.env)).all fun x => !x.fst) && (backToKw q3 (keywordEach [] X.env)).all fun x => x.fst.isSome) && decide (([e].length + ([] : List Keyword).length + if ([] : List Keyword).isEmpty = true then 0 else 1) < 30)) = true) := by rfl) (g3 : (q2.endLine == q3.line) = true := by rfl)
    (g4 : starEach [e] X.env = (false, eval e X.env) :: starEach [] X.env := by rfl) (g5 : ((backTo q3 (starEach [] X.env)).any fun x => x.fst) = false := by rfl)
    (h1 : attributeBase (.Name x p1) "append" X.env (eval (.Name x p1) X.env) = eval (.Name x p1) X.env := by rfl)
    (h2 : (((((backTo p3 (starEach [.Call (.Attribute (.Name y q1) "pop" q2) [e] [] q3] X.env)).all fun x => !x.fst) && (backToKw p3 (keywordEach [] X.env)).all fun x => x.fst.isSome) && decide (([Expr.Call (.Attribute (.Name y q1) "pop" q2) [e] [] q3].length + ([] : List Keyword).length + if ([] : List Keyword).isEmpty = true then 0 else 1) < 30)) = true) := by rfl) (h3 : (p2.endLine == p3.line) = true := by rfl)
    (h4 : starEach [.Call (.Attribute (.Name y q1) "pop" q2) [e] [] q3] X.env = (false, eval (.Call (.Attribute (.Name y q1) "pop" q2) [e] [] q3) X.env) :: starEach [] X.env := by rfl) (h5 : ((backTo p3 (starEach [] X.env)).any fun x => x.fst) = false := by rfl)
    (hs : swapsWith (.Call (.Attribute (.Name x p1) "append" p2) [.Call (.Attribute (.Name y q1) "pop" q2) [e] [] q3] [] p3) none p4.line X.env = pure false := by rfl) :
    PS X (.Expr (.Call (.Attribute (.Name x p1) "append" p2) [.Call (.Attribute (.Name y q1) "pop" q2) [e] [] q3] [] p3) p4) (tS c (sAppPop i l f)) := by
  refine PS.imp (ps_expr (pe_bm PySem.F.plainAttrs_list PySem.F.slot_list_append PySem.F.type_list_append mt_append (pe_var hN hv hd hcd)
    (pa_cons (pe_bm PySem.F.plainAttrs_list PySem.F.slot_list_pop PySem.F.type_list_pop mt_popAt (pe_var hN2 hv2 hd2 hcd2) (pa_cons he pa_nil g4) g1 g2 g3 g4 g5) pa_nil h4) h1 h2 h3 h4 h5) hs) fun D' σ H q => ?_
  obtain ⟨G, ρ, m, j, q⟩ := q
  have hne : sAppPop i l f ρ m ≠ .stuck := fun z => by rw [z] at q; exact q
  obtain ⟨k, m', es, ds, d, ef, ei, el, hc, hd, er⟩ := sAppPop_inv rfl hne
  rw [er] at q
  · simp only at q
    obtain ⟨a, ws, e1, e2, e3, e4, e5⟩ := j.own i es ei
    obtain ⟨b, us, b1, b2, b3, b4, b5⟩ := j.own l ds el
    have hab : a ≠ b := by
      rintro rfl
      exact hil (j.dis i l es ds a ei el e1 b1)
    refine ⟨_, e1, .inl ⟨rfl, _, sq_of e2⟩, ?_⟩
    refine ⟨_, b1, .inl ⟨rfl, _, sq_of b2⟩, ?_⟩
    refine tE_ok j ef fun v G1 H1 x1 j1 r1 => ?_
    cases Rp.int_inv r1
    obtain ⟨a', ws', e1', e2', e3', e4', e5'⟩ := j1.own i es ei
    obtain ⟨b', us', b1', b2', b3', b4', b5'⟩ := j1.own l ds el
    rw [e1] at e1'
    cases e1'
    rw [b1] at b1'
    cases b1'
    obtain ⟨w, hw, rw_⟩ := b5'.get hd
    have hlt : k.toNat < ds.length := (List.getElem?_eq_some_iff.mp hd).1
    have hsi : seqIndex? k us'.length = some k.toNat := by
      have hl := b5'.length
      have h0 : ¬ k < 0 := by omega
      have h1 : (decide (0 ≤ k) && decide (k < (us'.length : Int))) = true := by
        simp only [Bool.and_eq_true, decide_eq_true_eq]
        omega
      simp only [seqIndex?, if_neg h0, h1, if_true]
    refine ⟨b, us', k, k.toNat, w, rfl, rfl, b2', by omega, hc.2.2, hsi, hw, ?_⟩
    have j2 := j1.grow (ws := us') el b1 b3' b4' (b5'.erase k.toNat)
    refine ⟨a, ws', w, rfl, rfl, by rw [upd_ne hab]; exact e2', by rw [e5'.length]; exact hc.1, ?_⟩
    have ei2 : (ρ.set l (.own (ds.eraseIdx k.toNat)))[i]? = some (.own es) := by rw [List.getElem?_set_ne (Ne.symm hil)]; exact ei
    exact q σ G1 _ x1.ex (j2.grow (ws := ws') ei2 e1 e3' e4' (e5'.snoc rw_))
end
end Pd

set_option Elab.async false
set_option linter.all false
set_option maxRecDepth 100000
set_option maxHeartbeats 4000000
namespace Pd
open PySem L2
structure Bx (mg : Str → Option Value) : Prop where
  dict : mg "dict" = none
  sum : mg "sum" = none
  sorted : mg "sorted" = none
  repr : mg "repr" = none
  zip : mg "zip" = none
/-! ### a module's constant dict with texts as keys -/
structure Kd (w : World) (K : Fg) (mg : Str → Option Value) (x : Str) (gs : List (Str × D)) : Prop where
  ex : ∃ (d : Addr) (es : Array DictEntry) (n : Nat), mg x = some (.ref d) ∧ KDict K w d es n ∧ ∀ z : Str, (gs.lookup z = none → PySem.W.nsIn K d z = some none) ∧
    ∀ e, gs.lookup z = some e → ∃ u v, PySem.W.nsIn K d z = some (some u) ∧ RelV v u ∧ ∀ G, Rp K G v e
section
variable {X : Cx} {c : Ct}
theorem kin_imp {sg : Bool → Bool} {d : Addr} {gs : List (Str × D)} {fi : Me Vl} (hN : ∀ z : Str, (gs.lookup z = none → PySem.W.nsIn X.K d z = some none) ∧ ∀ e, gs.lookup z = some e → ∃ u v, PySem.W.nsIn X.K d z = some (some u) ∧ RelV v u ∧ ∀ G, Rp X.K G v e)
    (σ : L2.St) (H : Hp) (Q : VK) (q : tE c (m2 (dinG sg) fi (mC (.dct gs))) σ H Q) : tOp (fun x y H Q => ∃ (z : Str) (r : Option Value), x = .str z ∧ y = .ref d ∧ PySem.W.nsIn X.K d z = some r ∧ Q (.bl (sg r.isSome)) H) (tE c fi) (tC (.ref d)) σ H Q := by
  obtain ⟨G, ρ, m, x, m', j, e, q⟩ := tE_cases q
  obtain ⟨a, b, z, m1, ea, eb, eo, rfl⟩ := m2_ok e
  cases eb
  refine tE_ok j ea fun v G1 H1 x1 j1 r1 => ?_
  cases a with
  | str k =>
    cases eo
    cases Rp.str_inv r1
    cases el : gs.lookup k with
    | none => exact ⟨k, none, rfl, rfl, (hN k).1 el, by rw [el] at q; exact q _ G1 H1 x1 j1 (Rp.bl _)⟩
    | some e2 =>
      obtain ⟨u, v, h1, _⟩ := (hN k).2 e2 el
      exact ⟨k, some u, rfl, rfl, h1, by rw [el] at q; exact q _ G1 H1 x1 j1 (Rp.bl _)⟩
  | _ => cases eo
theorem pd_kin {i : Expr} {x : Str} {p pos : Pos} {gs : List (Str × D)} {fi : Me Vl} (F : Kd X.w X.K X.mg x gs) (hg : Gl X x) (hi : PE X i (tE c fi)) (hdb : (x == ("__debug__" : Str)) = false := by decide) : PE X (.Compare i [.In] [.Name x p] pos) (tE c (m2 dinD fi (mC (.dct gs)))) := by
  obtain ⟨d, es, n, hm, hD, hN⟩ := F.ex
  exact PE.imp (pe_cmpR (op_in_kd hD) hi (pe_glob hg hm (v := .ref d) rfl hdb) rfl) (kin_imp hN)
theorem pd_knin {i : Expr} {x : Str} {p pos : Pos} {gs : List (Str × D)} {fi : Me Vl} (F : Kd X.w X.K X.mg x gs) (hg : Gl X x) (hi : PE X i (tE c fi)) (hdb : (x == ("__debug__" : Str)) = false := by decide) : PE X (.Compare i [.NotIn] [.Name x p] pos) (tE c (m2 dninD fi (mC (.dct gs)))) := by
  obtain ⟨d, es, n, hm, hD, hN⟩ := F.ex
  exact PE.imp (pe_cmpR (op_notIn_kd hD) hi (pe_glob hg hm (v := .ref d) rfl hdb) rfl) (kin_imp hN)
theorem te_kin {i : Expr} {x : Str} {p pos : Pos} {gs : List (Str × D)} {fi : Me Vl} (F : Kd X.w X.K X.mg x gs) (hg : Gl X x) (hi : PE X i (tE c fi)) (hdb : (x == ("__debug__" : Str)) = false := by decide) : PT X (.Compare i [.In] [.Name x p] pos) (tB c (mTb (m2 dinD fi (mC (.dct gs))))) := by
  obtain ⟨d, es, n, hm, hD, hN⟩ := F.ex
  exact PT.imp (pt_cmpR (op_in_kd hD) hi (pe_glob hg hm (v := .ref d) rfl hdb) rfl) fun σ H Q q => kin_imp hN σ H _ (tv_imp σ H Q q)
theorem te_knin {i : Expr} {x : Str} {p pos : Pos} {gs : List (Str × D)} {fi : Me Vl} (F : Kd X.w X.K X.mg x gs) (hg : Gl X x) (hi : PE X i (tE c fi)) (hdb : (x == ("__debug__" : Str)) = false := by decide) : PT X (.Compare i [.NotIn] [.Name x p] pos) (tB c (mTb (m2 dninD fi (mC (.dct gs))))) := by
  obtain ⟨d, es, n, hm, hD, hN⟩ := F.ex
  exact PT.imp (pt_cmpR (op_notIn_kd hD) hi (pe_glob hg hm (v := .ref d) rfl hdb) rfl) fun σ H Q q => kin_imp hN σ H _ (tv_imp σ H Q q)
theorem pd_kget {i : Expr} {x : Str} {p pos : Pos} {gs : List (Str × D)} {fi : Me Vl} (F : Kd X.w X.K X.mg x gs) (hK : X.K = c.K) (hg : Gl X x) (hi : PE X i (tE c fi)) (hdb : (x == ("__debug__" : Str)) = false := by decide) (hs : PlainIx i := by exact fun _ _ => rfl) : PE X (.Subscript (.Name x p) i pos) (tE c (m2 dgetD (mC (.dct gs)) fi)) := by
  obtain ⟨d, es, n, hm, hD, hN⟩ := F.ex
  refine PE.imp (pe_ix ix_kdict (pe_glob hg hm (v := .ref d) rfl hdb) hi hs) fun σ H Q q => ?_
  obtain ⟨G, ρ, m, x, m', j, e, q⟩ := tE_cases q
  obtain ⟨a, b, z, m1, ea, eb, eo, rfl⟩ := m2_ok e
  cases ea
  refine tE_ok j eb fun v G1 H1 x1 j1 r1 => ?_
  unfold dgetD at eo
  split at eo
  · rename_i gs' k e1
    cases e1
    cases Rp.str_inv r1
    obtain ⟨u, v, h1, h2, h3⟩ := (hN k).2 z eo
    exact ⟨d, k, v, rfl, rfl, ⟨es, n, u, hD.at_, hD.lit, h1, h2⟩, q _ G1 H1 x1 j1 (by show Rp c.K G1 v z; rw [← hK]; exact h3 G1)⟩
  · cases eo
end
/-- a module's dict of ints, from what stands in the heap -/
theorem kd_mk {K : Fg} {w : World} {mg : Str → Option Value} {x : Str} {d : Addr} {n : Nat} (es : List (Str × Tok × Int × Tok)) (hm : mg x = some (.ref d)) (hl : K.lookup d = some ⟨.type "dict", none, .dict (es.map fun e => (⟨PyData.keyHash w.params e.1, .str e.1 e.2.1, .int e.2.2.1 e.2.2.2⟩ : DictEntry)).toArray n, #[]⟩)
    (hs : (d == sysModules) = false) : Kd w K mg x (es.map fun e => (e.1, D.int e.2.2.1)) := by
  refine ⟨d, _, n, hm, ⟨hl, ?_, hs⟩, fun z => ?_⟩
  · rw [List.toList_toArray]
    clear hl
    induction es with
    | nil => trivial
    | cons e es ih => exact ⟨⟨_, _, rfl, rfl⟩, ih⟩
  · have hn : PySem.W.nsIn K d z = (match ((es.map fun e => (⟨PyData.keyHash w.params e.1, .str e.1 e.2.1, .int e.2.2.1 e.2.2.2⟩ : DictEntry))).find? (·.key.isStr z) with
      | some e => some (some e.val)
      | none => if (es.map fun e => (⟨PyData.keyHash w.params e.1, .str e.1 e.2.1, .int e.2.2.1 e.2.2.2⟩ : DictEntry)).any (·.refKey) then none else some none) := by
      unfold PySem.W.nsIn
      rw [hl]
      rfl
    have ha : (es.map fun e => (⟨PyData.keyHash w.params e.1, .str e.1 e.2.1, .int e.2.2.1 e.2.2.2⟩ : DictEntry)).any (·.refKey) = false := by
      rw [List.any_eq_false]
      intro e he
      obtain ⟨q, _, rfl⟩ := List.mem_map.mp he
      simp [DictEntry.refKey]
    rw [ha] at hn
    rw [hn]
    clear hn ha hl
    induction es with
    | nil => exact ⟨fun _ => rfl, fun e h => by cases h⟩
    | cons e es ih =>
      simp only [List.map_cons, List.find?_cons]
      by_cases q : z = e.1
      · have q1 : (Value.str e.1 e.2.1).isStr z = true := by simp [Value.isStr, q]
        rw [q1]
        have q2 : (z == e.1) = true := by simp [q]
        refine ⟨fun h => ?_, fun y h => ?_⟩
        · simp [List.lookup, q2] at h
        · simp [List.lookup, q2] at h
          subst h
          exact ⟨_, .int e.2.2.1, rfl, ⟨_, rfl⟩, fun _ => .int _⟩
      · have q1 : (Value.str e.1 e.2.1).isStr z = false := by simp [Value.isStr, Ne.symm q]
        rw [q1]
        have q2 : (z == e.1) = false := by simp [q]
        refine ⟨fun h => ih.1 ?_, fun y h => ih.2 y ?_⟩
        · simpa [List.lookup, q2] using h
        · simpa [List.lookup, q2] using h
end Pd

set_option Elab.async false
set_option linter.all false
set_option maxRecDepth 100000
set_option maxHeartbeats 4000000
namespace Pd
open PySem L2 PySem.Spec PyProof.Rows
section
variable {X : Cx} {c : Ct}
/-! ### repr -/
def rShow (K : Fg) : List V → Hp → VK → Prop := fun vs H Q => ∃ (v : V) (d : PyData), vs = [v] ∧ Dp K H v d ∧ d.showable = true ∧ d.hasDict = false ∧ d.depth ≤ 64 ∧ d.shown.length ≤ sizeLine ∧ Q (.str d.shown) H
theorem cr_repr {k : Nat} (hr : Rm k X.A) : CallR X (.builtin "repr") (rShow X.K) := by
  intro pins s σ H vs us Q I r h
  obtain ⟨v, d, rfl, dp, hs, hd, h6, hz, q⟩ := h
  obtain ⟨u, rfl, rv⟩ := vals1 r
  have nod : d.hasDict = true → ∀ as : List Addr, sysModules ∉ as := fun e => by rw [hd] at e; cases e
  obtain ⟨as, rd⟩ := dp.reads I d v u rv
  have hu := hr.r.un
  have fin : ∀ h' t tk, (∀ b o, s.heap.get? b = some o → h'.get? b = some o) → EP X pins σ Q (.str d.shown t) { s with heap := h', toks := tk } := fun h' t tk hk => ⟨.str _, H, I.kept (t' := tk) hk, ⟨_, rfl⟩, q⟩
  cases rd with
  | none => exact PySem.P.repr_of_none (fin s.heap _ _ fun _ _ e => e)
  | bool b => exact PySem.P.repr_of_bool (fin s.heap _ _ fun _ _ e => e)
  | int i t => exact PySem.P.repr_of_int (by simpa [PyData.showable] using hs) (fin s.heap _ _ fun _ _ e => e)
  | str x t => exact PySem.P.repr_of_str (fin s.heap _ _ fun _ _ e => e) hz
  | list h1 h2 h3 h4 => exact repr_of_reads' (.list h1 h2 h3 h4) hs (fun e => nod e _) hr.g (by omega) (fun _ _ e => e) (fun h' u tk hk => fin h' u tk hk) hz
  | tuple h1 h2 h3 h4 => exact repr_of_reads' (.tuple h1 h2 h3 h4) hs (fun e => nod e _) hr.g (by omega) (fun _ _ e => e) (fun h' u tk hk => fin h' u tk hk) hz
  | dict h1 => cases hd
/-- data that repr shows -/
def showD (d : D) : Bool := SeqAt.shaped d.py && d.py.showable && !d.py.hasDict && decide (d.py.shown.length ≤ sizeLine)
def reprD : List D → Option D
  | [d] => if showD d = true then some (.str d.py.shown) else none
  | _ => none
theorem cs_repr : CallS c (rShow c.K) reprD := by
  intro G H σ ρ m vs ds z j r h Q q
  unfold reprD at h
  split at h
  · split at h
    · rename_i d hd
      cases h
      unfold showD at hd
      rw [Bool.and_eq_true, Bool.and_eq_true, Bool.and_eq_true] at hd
      obtain ⟨⟨⟨h1, h2⟩, h3⟩, h4⟩ := hd
      cases r with
      | cons hv r =>
        cases r
        exact ⟨_, d.py, rfl, hv.dp j.z.ex (shp h1), h2, by simpa using h3, SeqAt.depth_of_shaped h1, of_decide_eq_true h4, sc_ok j (.str _) q⟩
    · cases h
  · cases h
theorem pb_repr {p pos : Pos} {e : Expr} {es : List Expr} {g : Me (List Vl)} {k : Nat} (hK : X.K = c.K) (hr : Rm k X.A) (hg : Gl X "repr") (hm : X.mg "repr" = none) (ha : PA X (e :: es) (tAs c g))
    (he : starEach (e :: es) X.env = (false, eval e X.env) :: starEach es X.env := by rfl) (hpl : (backTo pos (starEach es X.env)).any (·.1) = false := by rfl) : PE X (.Call (.Name "repr" p) (e :: es) [] pos) (tE c (mB reprD g)) :=
  pd_B (cr_repr hr) (by rw [hK]; exact cs_repr) hg hm (by decide +kernel) ha (by decide) (by decide) he hpl
/-! ### x is True, x is False -/
def isBD (b : Bool) : D → Option D
  | .bl a => some (.bl (a == b))
  | .non => some (.bl false)
  | .int _ => some (.bl false)
  | .str _ => some (.bl false)
  | _ => none
def rIsC (b : Bool) : R2 := fun x y H Q => y = .bl b ∧ ((∃ a, x = .bl a ∧ Q (.bl (a == b)) H) ∨ ((x = .non ∨ (∃ i, x = .int i) ∨ ∃ i, x = .str i) ∧ Q (.bl false) H))
theorem op_isC {b : Bool} : OpR X (compareOp .Is) (rIsC b) := by
  intro pins s σ H x y v u Q I rx ry h
  obtain ⟨rfl, h⟩ := h
  cases (show u = Value.bool b from ry)
  rcases h with ⟨a, rfl, q⟩ | ⟨h, q⟩
  · cases (show v = Value.bool a from rx)
    by_cases e : a = b
    · subst e
      exact wpAny_is_self rfl ⟨.bl true, H, I, rfl, by simpa using q⟩
    · have e' : (a == b) = false := by simpa using e
      rw [e'] at q
      exact wpAny_is_other rfl (fun z => e (Value.bool.inj z)) ⟨.bl false, H, I, rfl, q⟩
  · rcases h with rfl | ⟨i, rfl⟩ | ⟨i, rfl⟩
    · cases (show v = Value.none from rx)
      exact wpAny_is_other rfl (fun z => nomatch z) ⟨.bl false, H, I, rfl, q⟩
    · obtain ⟨t, rfl⟩ := rx
      exact wpAny_is_other rfl (fun z => nomatch z) ⟨.bl false, H, I, rfl, q⟩
    · obtain ⟨t, rfl⟩ := rx
      exact wpAny_is_other rfl (fun z => nomatch z) ⟨.bl false, H, I, rfl, q⟩
theorem isB_imp {b : Bool} {f : Me Vl} (σ : L2.St) (H : Hp) (Q : VK) (q : tE c (m1 (isBD b) f) σ H Q) : tOp (rIsC b) (tE c f) (tC (.bl b)) σ H Q := by
  obtain ⟨G, ρ, m, x, m', j, e, q⟩ := tE_cases q
  obtain ⟨d, z, ea, eo, rfl⟩ := m1_ok e
  refine tE_ok j ea fun v G1 H1 x1 j1 r1 => ?_
  refine ⟨rfl, ?_⟩
  cases d with
  | bl a => cases eo; cases Rp.bl_inv r1; exact .inl ⟨a, rfl, q _ G1 H1 x1 j1 (Rp.bl _)⟩
  | non => cases eo; cases Rp.non_inv r1; exact .inr ⟨.inl rfl, q _ G1 H1 x1 j1 (Rp.bl _)⟩
  | int i => cases eo; cases Rp.int_inv r1; exact .inr ⟨.inr (.inl ⟨i, rfl⟩), q _ G1 H1 x1 j1 (Rp.bl _)⟩
  | str i => cases eo; cases Rp.str_inv r1; exact .inr ⟨.inr (.inr ⟨i, rfl⟩), q _ G1 H1 x1 j1 (Rp.bl _)⟩
  | _ => cases eo
theorem pd_isB {a : Expr} {b : Bool} {i : Nat} {pos pos' : Pos} {f : Me Vl} (ha : PE X a (tE c f)) : PE X (.Compare a [.Is] [.Constant (.bool b) i pos'] pos) (tE c (m1 (isBD b) f)) :=
  PE.imp (pe_cmpR op_isC ha pe_bl rfl) isB_imp
theorem te_isB {a : Expr} {b : Bool} {i : Nat} {pos pos' : Pos} {f : Me Vl} (ha : PE X a (tE c f)) : PT X (.Compare a [.Is] [.Constant (.bool b) i pos'] pos) (tB c (mTb (m1 (isBD b) f))) :=
  PT.imp (pt_cmpR op_isC ha pe_bl rfl) fun σ H Q q => isB_imp σ H _ (tv_imp σ H Q q)
/-! ### ints of any size -/
def small (a : Int) : Bool := decide (a.natAbs.log2 < 9000)
def mulW : D → D → Option D := iop (fun a b => small a && small b) fun a b => .int (a * b)
theorem pd_mulW {a b : Expr} {pos : Pos} {fa fb : Me Vl} (ha : PE X a (tE c fa)) (hb : PE X b (tE c fb)) : PE X (.BinOp a .Mult b pos) (tE c (m2 mulW fa fb)) :=
  pd_op op_mulW (o2_I (fun _ _ _ => .int _) fun a b h => by
    unfold small at h
    rw [Bool.and_eq_true, decide_eq_true_eq, decide_eq_true_eq] at h
    show a.natAbs.log2 + b.natAbs.log2 < 1000000
    omega) ha hb
theorem op_fdivG : OpR X (binaryOp .FloorDiv) (rI (fun _ j => j ≠ 0 ∧ j.natAbs.log2 < 9000) fun i j => .int (i.fdiv j)) := opI fun _ _ _ _ _ _ _ hc q => floordiv_int hc.1 q (.inl (PyProof.noPylong_of_log2 hc.2))
def fdivW : D → D → Option D := iop (fun _ b => decide (b ≠ 0) && small b) fun a b => .int (a.fdiv b)
theorem pd_fdivW {a b : Expr} {pos : Pos} {fa fb : Me Vl} (ha : PE X a (tE c fa)) (hb : PE X b (tE c fb)) : PE X (.BinOp a .FloorDiv b pos) (tE c (m2 fdivW fa fb)) :=
  pd_op op_fdivG (o2_I (fun _ _ _ => .int _) fun a b h => by
    unfold small at h
    rw [Bool.and_eq_true, decide_eq_true_eq, decide_eq_true_eq] at h
    exact h) ha hb
def modW : D → D → Option D := iop (fun _ b => decide (b ≠ 0)) fun a b => .int (a.fmod b)
theorem pd_modW {a b : Expr} {pos : Pos} {fa fb : Me Vl} (ha : PE X a (tE c fa)) (hb : PE X b (tE c fb)) : PE X (.BinOp a .Mod b pos) (tE c (m2 modW fa fb)) :=
  pd_op op_modN (o2_I (fun _ _ _ => .int _) fun a b h => show b ≠ 0 from of_decide_eq_true h) ha hb
/-! ### the order of bools too -/
def ltV (d e : D) : Option D := match d, e with
  | .bl a, .bl b => some (.bl (!a && b))
  | d, e => ltD d e
def leV (d e : D) : Option D := match d, e with
  | .bl a, .bl b => some (.bl (!(!b && a)))
  | d, e => leD d e
def rBool (f : Bool → Bool → Bool) : R2 := fun x y H Q => ∃ a b, x = .bl a ∧ y = .bl b ∧ Q (.bl (f a b)) H
theorem op_ltB {k : Nat} (hr : Rm k X.A) : OpR X (compareOp .Lt) (rBool fun a b => !a && b) := by
  intro pins s σ H x y v u Q I rx ry h
  obtain ⟨a, b, rfl, rfl, q⟩ := h
  cases (show v = Value.bool a from rx)
  cases (show u = Value.bool b from ry)
  exact PySem.W.lt_datum (x := a) (y := b) ⟨_, .bool a⟩ ⟨_, .bool b⟩ (by have := hr.units; show _ + 0 < _; omega) ⟨.bl _, H, I, rfl, q⟩
theorem op_leB {k : Nat} (hr : Rm k X.A) : OpR X (compareOp .LtE) (rBool fun a b => !(!b && a)) := by
  intro pins s σ H x y v u Q I rx ry h
  obtain ⟨a, b, rfl, rfl, q⟩ := h
  cases (show v = Value.bool a from rx)
  cases (show u = Value.bool b from ry)
  exact PySem.W.le_datum (x := a) (y := b) ⟨_, .bool a⟩ ⟨_, .bool b⟩ (by have := hr.units; show _ + 0 < _; omega) ⟨.bl _, H, I, rfl, q⟩
theorem o2_ltV : Op2 c (fun x y H Q => rBool (fun a b => !a && b) x y H Q ∨ rOrd (fun i j => decide (i < j)) (fun i j => decide (i.cps.toList < j.cps.toList)) x y H Q) ltV := by
  intro G H σ ρ m v w d e z j rv rw_ h Q q
  unfold ltV at h
  split at h
  · cases h; cases rv.bl_inv; cases rw_.bl_inv; exact .inl ⟨_, _, rfl, rfl, sc_ok j (.bl _) q⟩
  · exact .inr (o2_ord G H σ ρ m v w _ _ z j rv rw_ h Q q)
theorem o2_leV : Op2 c (fun x y H Q => rBool (fun a b => !(!b && a)) x y H Q ∨ rOrd (fun i j => decide (i ≤ j)) (fun i j => !decide (j.cps.toList < i.cps.toList)) x y H Q) leV := by
  intro G H σ ρ m v w d e z j rv rw_ h Q q
  unfold leV at h
  split at h
  · cases h; cases rv.bl_inv; cases rw_.bl_inv; exact .inl ⟨_, _, rfl, rfl, sc_ok j (.bl _) q⟩
  · exact .inr (o2_ord G H σ ρ m v w _ _ z j rv rw_ h Q q)
theorem pd_ltV {a b : Expr} {pos : Pos} {fa fb : Me Vl} {k : Nat} (hr : Rm k X.A) (ha : PE X a (tE c fa)) (hb : PE X b (tE c fb)) : PE X (.Compare a [.Lt] [b] pos) (tE c (m2 ltV fa fb)) := pd_cmp (OpR.or (op_ltB hr) or_lt) o2_ltV ha hb (nomark _)
theorem pd_leV {a b : Expr} {pos : Pos} {fa fb : Me Vl} {k : Nat} (hr : Rm k X.A) (ha : PE X a (tE c fa)) (hb : PE X b (tE c fb)) : PE X (.Compare a [.LtE] [b] pos) (tE c (m2 leV fa fb)) := pd_cmp (OpR.or (op_leB hr) or_le) o2_leV ha hb (nomark _)
/-! ### {} -/
theorem pd_dnew {pos : Pos} : PE X (.Dict [] [] pos) (tE c (mC (.dct []))) := by
  refine PE.imp pe_dnewK fun σ H Q q => ?_
  obtain ⟨G, ρ, m, x, m', j, e, q⟩ := tE_cases q
  cases e
  intro p hp
  exact q _ _ _ (Mv.new hp (j.gn hp)) (j.new hp) (Rp.dct (fs := []) (.inl (.inl upd_same)) .nil)
/-! ### case "a" | "b" -/
theorem eq_tx {pins : List (Addr × Obj)} {s : Shared} {σ : L2.St} {H G : Hp} {x : V} {v u : Value} {d : D} {z : Str} {b : Bool} {R : Value → Shared → Prop} (I : L2.Inv X pins σ H s) (rx : RelV x v) (ry : RelV (.str z) u) (r : Rp c.K G x d) (eb : eqTx d z = some b)
    (q : ∀ s2, L2.Inv X pins σ H s2 → R (.bool b) s2) : wpAny (model X.prog X.w) X.A (compareOp .Eq v u) R X.xe s := by
  have hsc : scal x (.str z) = true ∧ decide (x = .str z) = b := by
    cases r <;> first | (simp only [eqTx, Option.some.injEq] at eb; exact ⟨rfl, by rw [← eb]; simp⟩) | cases eb
  refine thn (op_eq pins s σ H x (.str z) v u (fun r H2 => r = .bl b ∧ H2 = H) I rx ry ⟨hsc.1, by rw [hsc.2]; exact ⟨rfl, rfl⟩⟩) fun cv s2 ⟨r2, H2, I2, rr, e1, e2⟩ => ?_
  subst e1 e2
  cases rr
  exact q s2 I2
theorem pmc_or {z y : Str} {k1 k2 : Nat} {p1 p2 p3 p4 p5 : Pos} {body : List Stmt} {rest : List MatchCase} {f : Ms} {fs : List (Str × Ms)} (hb : PSs X body (tS c f)) (hr : PMc X c rest fs) :
    PMc X c (⟨.MatchOr [.MatchValue (.Constant (.str z) k1 p1) p2, .MatchValue (.Constant (.str y) k2 p3) p4] p5, none, body⟩ :: rest) ((z, f) :: (y, f) :: fs) := by
  refine ⟨fun pins s σ H D' G ρ m v x d first I rx j r w => ?_⟩
  unfold mcs at w
  refine wpAny_matchCases_cons (wpAny_matchPattern_Or (wpAny_matchFirst_cons (wpAny_matchPattern_Value (thn (pe_str.run pins s σ H (fun y' H1 => y' = .str z ∧ H1 = H) I ⟨rfl, rfl⟩) fun u s1 ⟨y', H1, I1, ry, hy, hH⟩ => ?_))))
  subst hy hH
  cases eb : eqTx d z with
  | none => rw [eb] at w; exact w.elim
  | some b =>
    rw [eb] at w
    refine eq_tx I1 rx ry r eb fun s2 I2 => wpAny_truthy_bool ?_
    cases b with
    | true => exact wpAny_assignInOrder_none (hb.run pins s2 σ H1 D' I2 (tS_wants j w))
    | false =>
      simp only at w
      unfold mcs at w
      refine wpAny_matchFirst_cons (wpAny_matchPattern_Value (thn (pe_str.run pins s2 σ H1 (fun y' H2 => y' = .str y ∧ H2 = H1) I2 ⟨rfl, rfl⟩) fun u' s3 ⟨y', H2, I3, ry', hy, hH⟩ => ?_))
      subst hy hH
      cases eb2 : eqTx d y with
      | none => rw [eb2] at w; exact w.elim
      | some b2 =>
        rw [eb2] at w
        refine eq_tx I3 rx ry' r eb2 fun s4 I4 => wpAny_truthy_bool ?_
        cases b2 with
        | true => exact wpAny_assignInOrder_none (hb.run pins s4 σ H2 D' I4 (tS_wants j w))
        | false => exact wpAny_matchFirst_nil (hr.run pins s4 σ H2 D' G ρ m v x d false I4 rx j r w)
/-! ### four targets -/
def gN4 (i k l o : Nat) : Mg := fun d ρ => match d with
  | .tup [d1, d2, d3, d4] => some ((((ρ.set i (.val d1)).set k (.val d2)).set l (.val d3)).set o (.val d4))
  | _ => none
theorem pg_n4 {i k l o n : Nat} {x y z u : Str} {px py pz pu pos : Pos} (hN : X.N.Nodup) (hc : X.calm = true) (hK : X.K = c.K) (hi : X.N[i]? = some x) (hx : Loc X.env.scope x) (hk : X.N[k]? = some y) (hy : Loc X.env.scope y) (hl : X.N[l]? = some z) (hz : Loc X.env.scope z) (ho : X.N[o]? = some u) (hu : Loc X.env.scope u)
    (hf : X.fn x = true ∨ X.env.scope.names.lookup x = some .local := by first | exact .inl rfl | exact .inr rfl | assumption) (hf2 : X.fn y = true ∨ X.env.scope.names.lookup y = some .local := by first | exact .inl rfl | exact .inr rfl | assumption) (hf3 : X.fn z = true ∨ X.env.scope.names.lookup z = some .local := by first | exact .inl rfl | exact .inr rfl | assumption) (hf4 : X.fn u = true ∨ X.env.scope.names.lookup u = some .local := by first | exact .inl rfl | exact .inr rfl | assumption) :
    PG X (.Tuple [.Name x px, .Name y py, .Name z pz, .Name u pu] n pos) (tG c [i, k, l, o] (gN4 i k l o)) := by
  refine PG.imp (pg_tup hc (pgs_cons (pg_name hN hi hx hf) (pgs_cons (pg_name hN hk hy hf2) (pgs_cons (pg_name hN hl hz hf3) (pgs_cons (pg_name hN ho hu hf4) pgs_nil))))) fun v σ H Q q => ?_
  obtain ⟨G, ρ, m, d, j, r, q⟩ := q
  unfold gN4 at q
  split at q
  · exact q.elim
  · rename_i ρ' e
    split at e
    · cases e
      obtain ⟨a, vs, rfl, s, rl⟩ := r.tup_inv
      cases rl with
      | cons r1 rl =>
        cases rl with
        | cons r2 rl =>
          cases rl with
          | cons r3 rl =>
            cases rl with
            | cons r4 rl =>
              cases rl
              rw [hK]
              exact ⟨a, _, rfl, ex_t j.z.ex s, rfl, _, _, rfl, _, _, rfl, _, _, rfl, _, _, rfl, rfl, q _ (by rw [wipe_set (by simp), wipe_set (by simp), wipe_set (by simp), wipe_set (by simp)]) ((((j.set i r1).set k r2).set l r3).set o r4)⟩
    · cases e
end
end Pd

set_option Elab.async false
set_option linter.all false
set_option maxRecDepth 100000
set_option maxHeartbeats 4000000
/-! the ends of a law whose promise is FnG -/
namespace Pd
open PySem L2 PySem.Spec PyProof.Rows
/-- the script as the one tracked object -/
def scr (a : Addr) (o : Obj) (ns : List Int) : Hp := fun b => if b = a then some (.frz o (.lst (ns.map V.int))) else none
theorem scr_at {a : Addr} {o : Obj} {ns : List Int} : scr a o ns a = some (.frz o (.lst (ns.map V.int))) := if_pos rfl
theorem scr_ne {a b : Addr} {o : Obj} {ns : List Int} (h : b ≠ a) : scr a o ns b = none := if_neg h
section
variable {P : Program} {w : World} {K : Fg} {mg mb : Str → Option Value} {k : Nat} {fa a : Addr} {fd : FuncData} {x : Str} {sp : Sp} {s : Shared} {vs : List Value} {ns : List Int}
def Fine (s : Shared) (r : Result) (s' : Shared) : Prop := r = .ok (.ret (.bool true)) ∧ OldK s.heap s'.heap ∧ s'.os = s.os ∧ AllBare s'.gens
/-- from a heap that tracks the script or nothing -/
theorem from_hp (H : Hp) (inK : K.In s.heap) (gl : s.heap.Ns mainGlobals mg) (bl : s.heap.Ns builtinsNs mb) (same : ∀ x : Str, x ≠ "__name__" → mb x = bootBuiltins x) (free : s.heap.NoLimit) (none' : s.gens = #[])
    (F : ∀ base : Heap, K.In base → base.Ns mainGlobals mg → FnG P w K mg base k fa fd [x] sp) (to : ∀ (s : Shared) (u : Value), BindsTo s fd ⟨[u], []⟩ [(x, u)]) (room : Room k callerA)
    (only : ∀ b u, H b = some u → b = a ∧ K.lookup b = none ∧ ∃ o xs, u = .frz o (.lst xs) ∧ s.heap.get? b = some o ∧ ∀ es ep, o.data ≠ .dict es ep) (ok : HOk P w H s.heap) (q : sp [.ref a] H (fun v _ => v = .bl true) E0) :
    codeAny (model P w) callerA (.call (.ref fa) ⟨[.ref a], []⟩) (Fine s) s := by
  have nsH : ∀ {b : Addr} {m : Str → Option Value}, s.heap.Ns b m → (hidT s.heap H).Ns b m := by
    rintro b m ⟨o, es, ep, e, d, r⟩
    refine ⟨o, es, ep, hidT_get e ?_, d, r⟩
    match hb : H b with
    | none => rfl
    | some u =>
      have ⟨_, _, o', xs, _, e', nd⟩ := only b u hb
      rw [e] at e'; cases e'
      exact absurd d (nd es ep)
  have inH : K.In (hidT s.heap H) := by
    intro b o e
    refine hidT_get (inK b o e) ?_
    match hb : H b with
    | none => rfl
    | some u => have ⟨_, no, _⟩ := only b u hb; rw [no] at e; cases e
  have lim : (hidT s.heap H).NoLimit := by obtain ⟨mc, h1, h2⟩ := free; exact ⟨mc, nsH h1, h2⟩
  have env : Env0 P w K mg (hidT s.heap H) callerA [] s H := ⟨rfl, ⟨inH, nsH gl, ⟨mb, nsH bl, same⟩, lim⟩, fun _ _ => of_hidT, Nat.le_of_eq (hidT_size _ _), trivial, fun b z => absurd (show b ∈ ([] : List Addr) from z) (by simp), ok, .of_eq none'⟩
  have run := (F _ inH (nsH gl)).run callerA [] s H ⟨[.ref a], []⟩ [.ref a] [.ref a] _ _ ⟨room, rfl⟩ env (to s (.ref a)) (.cons rfl .nil) q
  refine codeAny_mono run fun r s' z => ?_
  match r, z with
  | .error _, z => exact z.elim
  | .ok (.ret u), ⟨v, H', eo, eb, un, ok', rv, (e : v = .bl true)⟩ =>
    subst e
    cases (show u = Value.bool true from rv)
    refine ⟨rfl, OldK.of_keep fun b o e => ?_, eo, eb⟩
    match hb : H b with
    | none => exact un.keep b o e hb (fun z => absurd (show b ∈ ([] : List Addr) from z) (by simp)) (by simp)
    | some u =>
      obtain ⟨_, _, o', xs, rfl, e', _⟩ := only b u hb
      rw [e] at e'; cases e'
      exact (ok' b _ (un.frzs b o _ hb)).1
theorem law_callG (inK : K.In s.heap) (gl : s.heap.Ns mainGlobals mg) (bl : s.heap.Ns builtinsNs mb) (same : ∀ x : Str, x ≠ "__name__" → mb x = bootBuiltins x) (free : s.heap.NoLimit) (none' : s.gens = #[])
    (F : ∀ base : Heap, K.In base → base.Ns mainGlobals mg → FnG P w K mg base k fa fd [x] sp) (to : ∀ (s : Shared) (u : Value), BindsTo s fd ⟨[u], []⟩ [(x, u)]) (room : Room k callerA)
    (at_ : s.heap.get? a = some { cls := .type "list", data := .seq vs.toArray }) (isI : IntsAre vs ns) (len : ns.length ≤ sizeLine) (q : ∀ H : Hp, SqL K H a (ns.map V.int) → sp [.ref a] H (fun v _ => v = .bl true) E0) :
    codeAny (model P w) callerA (.call (.ref fa) ⟨[.ref a], []⟩) (Fine s) s := by
  have rv : Vals (ns.map V.int) vs := vals_ints isI
  match hk : K.lookup a with
  | some o =>
    have e := inK a o hk
    rw [at_] at e
    cases e
    exact from_hp (a := a) (fun _ => none) inK gl bl same free none' F to room (fun b u z => nomatch z) (fun b u z => nomatch z) (q _ (.inr ⟨_, vs.toArray, _, hk, rfl, rfl, rfl, by rw [List.size_toArray, isI.length]; exact len, by simpa using rv⟩))
  | none =>
    refine from_hp (a := a) (scr a _ ns) inK gl bl same free none' F to room (fun b u z => ?_) (fun b u z => ?_) (q _ (.inl (.inr ⟨{ cls := .type "list", data := .seq vs.toArray }, scr_at⟩)))
    · by_cases e : b = a
      · subst e
        rw [scr_at] at z
        cases z
        exact ⟨rfl, hk, _, _, rfl, at_, fun _ _ h => nomatch h⟩
      · rw [scr_ne e] at z; cases z
    · by_cases e : b = a
      · subst e
        rw [scr_at] at z
        cases z
        exact ⟨at_, by rw [List.length_map]; exact len, vs, _, rv, at_⟩
      · rw [scr_ne e] at z; cases z
end
theorem walk_ofG {l : PySem.W.OpenLaw} {n k : Nat} {q : Program} {loose : List Str} {XP : (Str → Option Value) → Heap → Prop} {YP : World → Heap → Prop} {d : DefRec} {K : Params → Fg} {sp : World → Sp} {x : Str} (hn : l.most = some n) (line : n ≤ sizeLine) (hdf : d.params.defaults = []) (room : Room k callerA)
    (inK : ∀ (w : World) (h : Heap), YP w h → (K w.params).In h)
    (F : ∀ (w : World) (mg : Str → Option Value) (fa : Addr) (h : Heap), (K w.params).In h → h.Ns mainGlobals mg → mg d.name = some (.ref fa) →
      ∃ fd : FuncData, (∀ (s : Shared) (u : Value), BindsTo s fd ⟨[u], []⟩ [(x, u)]) ∧ ∀ base : Heap, (K w.params).In base → base.Ns mainGlobals mg → FnG l.prog w (K w.params) mg base k fa fd [x] (sp w))
    (so : ∀ (w : World) (H : Hp) (a : Addr) (ns : List Int), ns.length ≤ n → SqL (K w.params) H a (ns.map V.int) → sp w [.ref a] H (fun v _ => v = .bl true) E0) :
    PySem.W.WalkO q loose XP YP l.row.toRowW d [] (fun f vs => PySem.call f vs) := by
  refine Att.attach_call hn hdf fun w s0 s mg mb fa o pm cd doc a vs ns G Y _ _ _ hmg hobj hints hlen hg => ?_
  have ⟨fd, to, hF⟩ := F w mg fa _ (inK w _ Y) G.T.g hmg
  exact law_callG (inK w _ Y) G.T.g G.T.b G.T.builtins G.T.nolimit hg hF to room hobj hints (Nat.le_trans hlen line) fun H => so w H a ns hlen
end Pd

set_option Elab.async false
set_option linter.all false
set_option maxRecDepth 100000
set_option maxHeartbeats 4000000
namespace Pd
open PySem L2
def letters : Str := "abcdefghijklmnopqrstuvwxyz"
def NameOk (s : Str) : Prop := 1 ≤ s.length ∧ s.length ≤ 8 ∧ ∀ ch ∈ s.cps.toList, ch ∈ letters.cps.toList
theorem sl8 : (8 : Nat) ≤ sizeLine := by decide
def KindOk (k : Str) : Prop := k = "int" ∨ k = "text" ∨ k = "bool"
def texts : List Str := ["", "a", "b", "ab", "Rome", "), [a,b", "\"", "\\", "none", " ", "xxxxxxxxxxxx"]
def intL : List Int := [0, 1, 2, -1, 3, 7, -1000000000000, 10000000000000, 30, 1000000000000]
/-- a value of a kind, as the law draws them -/
inductive IsW : Str → D → Prop
  | non (k : Str) : IsW k .non
  | int {i : Int} : i ∈ intL → IsW "int" (.int i)
  | text {s : Str} : s ∈ texts → IsW "text" (.str s)
  | bool (b : Bool) : IsW "bool" (.bl b)
def colD (c : Str × Str) : D := .tup [.str c.1, .str c.2]
structure SchOk (cols : List (Str × Str)) : Prop where
  ne : cols ≠ []
  le : cols.length ≤ 12
  ok : ∀ c ∈ cols, NameOk c.1 ∧ KindOk c.2
  nd : (cols.map (·.1)).Nodup
def schD (cols : List (Str × Str)) : D := .tup (cols.map colD)
def Lone (s : Sl) : Prop := s = .emp ∨ ∃ d, s = .val d
theorem Lone.thaw {s : Sl} (h : Lone s) : s.thaw = s := by rcases h with rfl | ⟨d, rfl⟩ <;> rfl
theorem enum_get {ds : List D} {i : Nat} {d : D} (h : (enumL 0 ds)[i]? = some d) : ∃ e, ds[i]? = some e ∧ d = .tup [.int (i : Int), e] := by
  rw [enumL_get] at h
  cases e : ds[i]? with
  | none => rw [e] at h; cases h
  | some x => rw [e] at h; cases h; exact ⟨x, rfl, by simp⟩
/-- a row of these columns -/
structure RowOk (cols : List (Str × Str)) (ds : List D) : Prop where
  len : ds.length = cols.length
  ok : ∀ (i : Nat) (c : Str × Str) (d : D), cols[i]? = some c → ds[i]? = some d → IsW c.2 d
def rowsD (rows : List (List D)) : D := .tup (rows.map D.tup)
/-- at most n signs, all of them signs -/
def Gd (n : Nat) (s : Str) : Prop := s.length ≤ n ∧ ∀ ch ∈ s.cps.toList, ch < 0x110000
theorem gd_of {s : Str} {n : Nat} (h : decide (s.length ≤ n) = true) (h2 : (s.cps.toList.all fun ch => decide (ch < 0x110000)) = true) : Gd n s :=
  ⟨of_decide_eq_true h, fun ch hc => of_decide_eq_true (List.all_eq_true.mp h2 ch hc)⟩
theorem sl_le {n : Nat} (h : n ≤ 1000) : n ≤ sizeLine := Nat.le_trans h (by decide)
def Sm (n : Nat) (d : D) : Prop := PyData.canLay0 d.py = true ∧ PyData.depth d.py ≤ n
theorem sm_list {n : Nat} : ∀ {ds : List D}, (∀ d ∈ ds, Sm n d) → PyData.canLayAll0 (pyL ds) = true ∧ PyData.depthAll (pyL ds) ≤ n
  | [], _ => ⟨by simp only [pyL, PyData.canLayAll0], by simp only [pyL, PyData.depthAll]; omega⟩
  | d :: ds, h => by
    have h1 := h d List.mem_cons_self
    have h2 := sm_list fun e he => h e (List.mem_cons_of_mem _ he)
    refine ⟨?_, ?_⟩
    · simp only [pyL, PyData.canLayAll0, h1.1, h2.1, Bool.and_self]
    · simp only [pyL, PyData.depthAll]; exact Nat.max_le.mpr ⟨h1.2, h2.2⟩
theorem sm_lst {n : Nat} {ds : List D} (h : ∀ d ∈ ds, Sm n d) : Sm (n + 1) (.lst ds) := by
  have := sm_list h
  refine ⟨?_, ?_⟩
  · simp only [D.py, PyData.canLay0, this.1]
  · simp only [D.py, PyData.depth]; omega
theorem sm_tup {n : Nat} {ds : List D} (h : ∀ d ∈ ds, Sm n d) : Sm (n + 1) (.tup ds) := by
  have := sm_list h
  refine ⟨?_, ?_⟩
  · simp only [D.py, PyData.canLay0, this.1]
  · simp only [D.py, PyData.depth]; omega
theorem Sm.shaped {n : Nat} {d : D} (h : Sm n d) (hn : n ≤ 64) : SeqAt.shaped d.py = true := by
  unfold SeqAt.shaped
  rw [h.1, decide_eq_true (Nat.le_trans h.2 hn)]
  rfl
theorem sm_str {s : Str} (h : ∀ ch ∈ s.cps.toList, ch < 0x110000) : Sm 0 (.str s) := by
  refine ⟨?_, ?_⟩
  · simp only [D.py, PyData.canLay0, PyData.strOk]
    rw [← Array.all_toList, List.all_eq_true]
    intro x hx
    exact decide_eq_true (h x hx)
  · simp only [D.py, PyData.depth]; omega
theorem texts_gd : ∀ s ∈ texts, Gd 12 s := fun s h => by
  simp only [texts, List.mem_cons, List.not_mem_nil, or_false] at h
  rcases h with rfl | rfl | rfl | rfl | rfl | rfl | rfl | rfl | rfl | rfl | rfl <;> exact gd_of (by decide +kernel) (by decide +kernel)
theorem IsW.sm {k : Str} {d : D} (h : IsW k d) : Sm 0 d := by
  cases h with
  | non => exact ⟨by simp only [D.py, PyData.canLay0], by simp only [D.py, PyData.depth]; omega⟩
  | int h => exact ⟨by simp only [D.py, PyData.canLay0], by simp only [D.py, PyData.depth]; omega⟩
  | text h => exact sm_str (texts_gd _ h).2
  | bool b => exact ⟨by simp only [D.py, PyData.canLay0], by simp only [D.py, PyData.depth]; omega⟩
theorem letters_lt : ∀ ch ∈ letters.cps.toList, ch < 0x110000 := by decide +kernel
theorem NameOk.gd {s : Str} (h : NameOk s) : Gd 12 s := ⟨by have := h.2.1; omega, fun ch hc => letters_lt ch (h.2.2 ch hc)⟩
theorem ix_of {ds : List D} {z : Int} (h0 : 0 ≤ z) (h1 : z < (ds.length : Int)) : ∃ d, ixD (.lst ds) (.int z) = some d ∧ d ∈ ds := by
  obtain ⟨k, rfl⟩ := Int.eq_ofNat_of_zero_le h0
  have hk : k < ds.length := by omega
  exact ⟨ds[k], atI_nat (List.getElem?_eq_getElem hk), List.getElem_mem hk⟩
theorem eq_ne {a b : Int} (h : a ≠ b) : eqD (.int a) (.int b) = some (.bl false) := by
  show some (D.bl (decide (a = b))) = _
  rw [decide_eq_false h]
theorem e_draw {ρ : En} {m : List D} {n : Int} (hp : ρ[0]? = some .pool) (hm : Po m) (h0 : 0 < n) (h1 : n < 1073741824) : ∃ z m', (mCall fDraw (mCons (mV 0) (mCons (mC (.int n)) mNil))) ρ m = .ok (.dat (.int z)) m' ∧ 0 ≤ z ∧ z < n ∧ Po m' := by
  obtain ⟨z, m1, e1, a1, b1, p1⟩ := draw_ok (n := n) hm h0 h1
  exact ⟨z, m1, mCall_eq (mCons_eq (by simp only [mV, hp]) (mCons_eq rfl mNil_eq)) e1, a1, b1, p1⟩
def ownL : List Str := ["scan", "where", "pick", "add", "there", "up", "all", "int", "count", "none", "value", "rows"]
def nmA (b k : Nat) : Str := (ownL[(b + 5 * k) % 12]?).getD ""
def nmB (b k : Nat) : Str := Txt.mul ⟨#[(letters.cps.toList[(b + 5 * k) % 26]?).getD 0]⟩ ((([1, 1, 2, 8] : List Int)[k % 4]?).getD 0)
def okN (s : Str) : Bool := decide (1 ≤ s.length) && decide (s.length ≤ 8) && s.cps.toList.all fun ch => letters.cps.toList.any fun x => decide (x = ch)
theorem okN_ok {s : Str} (h : okN s = true) : NameOk s := by
  unfold okN at h
  rw [Bool.and_eq_true, Bool.and_eq_true] at h
  refine ⟨of_decide_eq_true h.1.1, of_decide_eq_true h.1.2, fun ch hc => ?_⟩
  obtain ⟨x, hx, e⟩ := List.any_eq_true.mp (List.all_eq_true.mp h.2 ch hc)
  rw [← of_decide_eq_true e]
  exact hx
theorem allA : (List.range 12).all (fun b => ((List.range 12).all fun k => okN (nmA b k)) && decide ((List.range 12).map (nmA b)).Nodup) = true := by decide +kernel
theorem allB : (List.range 12).all (fun b => ((List.range 12).all fun k => okN (nmB b k)) && decide ((List.range 12).map (nmB b)).Nodup) = true := by decide +kernel
theorem nm_ok {nm : Nat → Nat → Str} (h : (List.range 12).all (fun b => ((List.range 12).all fun k => okN (nm b k)) && decide ((List.range 12).map (nm b)).Nodup) = true) {b n : Nat} (hb : b < 12) (hn : n ≤ 12) :
    (∀ s ∈ (List.range n).map (nm b), NameOk s) ∧ ((List.range n).map (nm b)).Nodup := by
  have h1 := List.all_eq_true.mp h b (List.mem_range.mpr hb)
  rw [Bool.and_eq_true] at h1
  refine ⟨fun s hs => ?_, ?_⟩
  · obtain ⟨k, hk, rfl⟩ := List.mem_map.mp hs
    exact okN_ok (List.all_eq_true.mp h1.1 k (List.mem_range.mpr (by have := List.mem_range.mp hk; omega)))
  · have e : List.range n = (List.range 12).take n := by rw [List.take_range]; congr 1; omega
    rw [e]
    exact (of_decide_eq_true h1.2).sublist ((List.take_sublist _ _).map _)
def itA (nm : Nat → Nat → Str) (b : Nat) : D → D
  | .int i => .str (nm b i.toNat)
  | _ => .non
theorem rng_it (nm : Nat → Nat → Str) (b n : Nat) : (rng 0 n).map (itA nm b) = ((List.range n).map (nm b)).map D.str := by
  unfold rng
  rw [List.map_map, List.map_map]
  refine List.map_congr_left fun k hk => ?_
  show D.str (nm b (0 + (k : Int)).toNat) = D.str (nm b k)
  congr 2
  omega
theorem atA {α : Type} {xs : List α} {x : α} {b k c : Nat} (hc : xs.length = c) (h0 : 0 < c) (hx : (xs[(b + 5 * k) % c]?).getD x = (xs[(b + 5 * k) % c]?).getD x) : L2.atI xs (((b : Int) + 5 * (0 + (k : Int))) % (c : Int)) = some ((xs[(b + 5 * k) % c]?).getD x) := by
  have e : ((b : Int) + 5 * (0 + (k : Int))) % (c : Int) = (((b + 5 * k) % c : Nat) : Int) := by
    rw [Int.natCast_emod]; congr 1; omega
  rw [e]
  have hl : (b + 5 * k) % c < xs.length := by rw [hc]; exact Nat.mod_lt _ h0
  refine atI_nat ?_
  rw [List.getElem?_eq_getElem hl]
  rfl
theorem un_strs {P : Str → Prop} : ∀ {ys : List D}, (∀ y ∈ ys, ∃ k, y = .str k ∧ P k) → ∃ ks : List Str, ys = ks.map D.str ∧ ∀ k ∈ ks, P k
  | [], _ => ⟨[], rfl, fun k h => by cases h⟩
  | y :: ys, h => by
    obtain ⟨k, rfl, hk⟩ := h y List.mem_cons_self
    obtain ⟨ks, rfl, hks⟩ := un_strs fun e he => h e (List.mem_cons_of_mem _ he)
    refine ⟨k :: ks, rfl, fun x hx => ?_⟩
    rcases List.mem_cons.mp hx with rfl | hx
    · exact hk
    · exact hks x hx
def itH (names kinds : List Str) : D → D
  | .int i => .tup [.str ((names[i.toNat]?).getD ""), .str ((kinds[i.toNat]?).getD "")]
  | _ => .non
theorem ne_nil {rows : List (List D)} (h : ∀ r ∈ rows, ∀ d ∈ r, Sm 0 d) : neD (.lst (rows.map D.tup)) (.lst []) = some (.bl (!rows.isEmpty)) := by
  have sh : SeqAt.shaped (D.lst (rows.map D.tup)).py = true := (sm_lst (n := 1) fun d hd => by
    obtain ⟨r, hr, rfl⟩ := List.mem_map.mp hd
    exact sm_tup (n := 0) (h r hr)).shaped (by decide)
  have sh2 : SeqAt.shaped (D.lst []).py = true := (sm_lst (n := 1) fun d hd => by cases hd).shaped (by decide)
  show (if SeqAt.shaped (D.lst (rows.map D.tup)).py && SeqAt.shaped (D.lst []).py then some (PyData.eqv (D.lst (rows.map D.tup)).py (D.lst []).py) else none).map (fun b => D.bl (!b)) = _
  rw [sh, sh2]
  cases rows <;> simp [D.py, pyL, PyData.eqv, PyData.eqvAll]
theorem RowOk.sm {cols : List (Str × Str)} {ds : List D} (r : RowOk cols ds) : ∀ d ∈ ds, Sm 0 d := fun d hd => by
  obtain ⟨i, hi, rfl⟩ := List.getElem_of_mem hd
  exact (r.ok i _ _ (List.getElem?_eq_getElem (by rw [← r.len]; exact hi)) (List.getElem?_eq_getElem hi)).sm
theorem mul_str {s r : Str} {n : Int} (h : Txt.mul s n = r) (h1 : s.length ≤ 100) (h2 : n ≤ 10000) (h3 : -(2 ^ 63 : Int) ≤ n) : mulD (.str s) (.int n) = some (.str r) := by
  subst h
  exact if_pos ⟨h1, h2, h3⟩
theorem mul_int {a b : Int} (h : (sm64 a || sm64 b) = true) : mulD (.int a) (.int b) = some (.int (a * b)) := if_pos h
theorem add_str {a b r : Str} (h : a ++ b = r) (h1 : a.length + b.length ≤ sizeLine) : addD (.str a) (.str b) = some (.str r) := by
  subst h
  exact if_pos h1
theorem bls_true : ∀ n : Nat, bls (List.replicate n (D.bl true)) = some (List.replicate n true) := by
  intro n
  induction n with
  | zero => rfl
  | succ n ih => rw [List.replicate_succ, List.replicate_succ]; unfold bls; rw [ih]; rfl
theorem str_ext {a b : Str} (h : a.cps.toList = b.cps.toList) : a = b := by
  obtain ⟨a⟩ := a; obtain ⟨b⟩ := b
  simp only at h
  rw [Array.toList_inj.mp h]
theorem app_cps (a b : Str) : (a ++ b).cps.toList = a.cps.toList ++ b.cps.toList := by
  show (a.cps ++ b.cps).toList = _
  simp
end Pd

set_option Elab.async false
set_option linter.all false
set_option maxRecDepth 100000
set_option maxHeartbeats 4000000
namespace Pd
open PySem L2
/-! ### expressions -/
def numW : List Str := ["add", "sub", "mul", "div", "mod"]
def cmpW : List Str := ["eq", "lt", "le"]
/-- the kinds that an operation wants, and its own -/
inductive OpK : Str → List Str → Str → Prop
  | num {w : Str} : w ∈ numW → OpK w ["int", "int"] "int"
  | glue : OpK "glue" ["text", "text"] "text"
  | size : OpK "size" ["text"] "int"
  | cmp {w k : Str} : w ∈ cmpW → KindOk k → OpK w [k, k] "bool"
  | and : OpK "and" ["bool", "bool"] "bool"
  | or : OpK "or" ["bool", "bool"] "bool"
  | not : OpK "not" ["bool"] "bool"
  | there {k : Str} : KindOk k → OpK "there" [k] "bool"
  | ife {k : Str} : KindOk k → OpK "if" ["bool", k, k] k
  | els {k : Str} : KindOk k → OpK "else" [k, k] k
theorem OpK.kind {w k : Str} {ks : List Str} (h : OpK w ks k) : KindOk k := by
  cases h with
  | num => exact .inl rfl
  | glue => exact .inr (.inl rfl)
  | size => exact .inl rfl
  | ife h => exact h
  | els h => exact h
  | _ => exact .inr (.inr rfl)
mutual
/-- an expression of a kind, of at most so many levels -/
inductive Tr (cols : List (Str × Str)) : Nat → Str → D → Prop
  | col {n : Nat} {x k : Str} : (x, k) ∈ cols → Tr cols (n + 1) k (.tup [.str "col", .str x])
  | val {n : Nat} {k : Str} {v : D} : KindOk k → IsW k v → Tr cols (n + 1) k (.tup [.str "value", .str k, v])
  | op {n : Nat} {w k : Str} {ks : List Str} {ps : List D} : OpK w ks k → TrL cols n ks ps → Tr cols (n + 1) k (.tup (.str w :: ps))
inductive TrL (cols : List (Str × Str)) : Nat → List Str → List D → Prop
  | nil {n : Nat} : TrL cols n [] []
  | cons {n : Nat} {k : Str} {ks : List Str} {p : D} {ps : List D} : Tr cols n k p → TrL cols n ks ps → TrL cols n (k :: ks) (p :: ps)
end
mutual
theorem Tr.more {cols : List (Str × Str)} : ∀ {n m : Nat} {k : Str} {d : D}, Tr cols n k d → n ≤ m → Tr cols m k d
  | _, m + 1, _, _, .col h, _ => .col h
  | _, m + 1, _, _, .val h v, _ => .val h v
  | n + 1, m + 1, _, _, .op h r, l => .op h (TrL.more r (by omega))
  | _, 0, _, _, .col h, l => by omega
  | _, 0, _, _, .val h v, l => by omega
  | _, 0, _, _, .op h v, l => by omega
theorem TrL.more {cols : List (Str × Str)} : ∀ {n m : Nat} {k : List Str} {d : List D}, TrL cols n k d → n ≤ m → TrL cols m k d
  | _, _, _, _, .nil, _ => .nil
  | _, _, _, _, .cons h r, l => .cons (Tr.more h l) (TrL.more r l)
end
theorem TrL.len {cols : List (Str × Str)} {n : Nat} : ∀ {ks : List Str} {ps : List D}, TrL cols n ks ps → ps.length = ks.length
  | _, _, .nil => rfl
  | _, _, .cons _ r => by rw [List.length_cons, List.length_cons, r.len]
theorem sm0_str {s : Str} (h : s.cps.toList.all (fun ch => decide (ch < 0x110000)) = true) : Sm 0 (.str s) := sm_str fun ch hc => of_decide_eq_true (List.all_eq_true.mp h ch hc)
theorem OpK.word {w k : Str} {ks : List Str} (h : OpK w ks k) : w ∈ (["add", "sub", "mul", "div", "mod", "glue", "size", "eq", "lt", "le", "and", "or", "not", "there", "if", "else"] : List Str) := by
  cases h with
  | num h => simp only [numW, List.mem_cons, List.not_mem_nil, or_false] at h; rcases h with rfl | rfl | rfl | rfl | rfl <;> decide
  | cmp h => simp only [cmpW, List.mem_cons, List.not_mem_nil, or_false] at h; rcases h with rfl | rfl | rfl <;> decide
  | _ => decide
theorem OpK.sm {w k : Str} {ks : List Str} (h : OpK w ks k) : Sm 0 (.str w) := by
  have := h.word
  simp only [List.mem_cons, List.not_mem_nil, or_false] at this
  rcases this with rfl | rfl | rfl | rfl | rfl | rfl | rfl | rfl | rfl | rfl | rfl | rfl | rfl | rfl | rfl | rfl <;> exact sm0_str (by decide +kernel)
theorem KindOk.sm {k : Str} (h : KindOk k) : Sm 0 (.str k) := by
  rcases h with rfl | rfl | rfl <;> exact sm0_str (by decide +kernel)
theorem Sm.more {n m : Nat} {d : D} (h : Sm n d) (l : n ≤ m) : Sm m d := ⟨h.1, Nat.le_trans h.2 l⟩
mutual
theorem Tr.sm {cols : List (Str × Str)} (hc : ∀ c ∈ cols, NameOk c.1) : ∀ {n : Nat} {k : Str} {d : D}, Tr cols n k d → Sm n d
  | n + 1, _, _, .col h => sm_tup fun d hd => by
    simp only [List.mem_cons, List.not_mem_nil, or_false] at hd
    rcases hd with rfl | rfl
    · exact (sm0_str (by decide +kernel)).more (by omega)
    · exact (sm_str (NameOk.gd (hc _ h)).2).more (by omega)
  | n + 1, _, _, .val h v => sm_tup fun d hd => by
    simp only [List.mem_cons, List.not_mem_nil, or_false] at hd
    rcases hd with rfl | rfl | rfl
    · exact (sm0_str (by decide +kernel)).more (by omega)
    · exact h.sm.more (by omega)
    · exact v.sm.more (by omega)
  | n + 1, _, _, .op h r => sm_tup fun d hd => by
    rcases List.mem_cons.mp hd with rfl | hd
    · exact h.sm.more (by omega)
    · exact TrL.sm hc r d hd
theorem TrL.sm {cols : List (Str × Str)} (hc : ∀ c ∈ cols, NameOk c.1) : ∀ {n : Nat} {k : List Str} {d : List D}, TrL cols n k d → ∀ x ∈ d, Sm n x
  | _, _, _, .nil, x, h => by cases h
  | _, _, _, .cons h r, x, hx => by
    rcases List.mem_cons.mp hx with rfl | hx
    · exact Tr.sm hc h
    · exact TrL.sm hc r x hx
end
/-! ### == of data -/
theorem eqT {ds es : List D} {n : Nat} (h1 : Sm n (.tup ds)) (h2 : Sm n (.tup es)) (hn : n ≤ 64) : eqB (.tup ds) (.tup es) = some (PyData.eqv (D.tup ds).py (D.tup es).py) := by
  show (if SeqAt.shaped (D.tup ds).py && SeqAt.shaped (D.tup es).py then _ else _) = _
  rw [h1.shaped hn, h2.shaped hn]
  rfl
theorem eqT_nil {ds : List D} {n : Nat} (h1 : Sm n (.tup ds)) (hn : n ≤ 64) : eqB (.tup ds) (.tup []) = some ds.isEmpty := by
  have h2 : SeqAt.shaped (D.tup []).py = true := (sm_tup (n := 1) fun d hd => by cases hd).shaped (by decide)
  show (if SeqAt.shaped (D.tup ds).py && SeqAt.shaped (D.tup []).py then _ else _) = _
  rw [h1.shaped hn, h2]
  cases ds <;> simp [D.py, pyL, PyData.eqv, PyData.eqvAll]
def partsF : List (Str × D) := [("add", .int 2), ("sub", .int 2), ("mul", .int 2), ("div", .int 2), ("mod", .int 2), ("glue", .int 2), ("size", .int 1), ("eq", .int 2), ("lt", .int 2), ("le", .int 2), ("and", .int 2), ("or", .int 2), ("not", .int 1), ("there", .int 1), ("if", .int 3), ("else", .int 2)]
/-- the first element of an operation -/
theorem OpK.ar {w k : Str} {ks : List Str} (h : OpK w ks k) : partsF.lookup w = some (.int (ks.length : Int)) ∧ w ≠ "col" ∧ w ≠ "value" := by
  cases h with
  | num h => simp only [numW, List.mem_cons, List.not_mem_nil, or_false] at h; rcases h with rfl | rfl | rfl | rfl | rfl <;> exact ⟨rfl, by decide, by decide⟩
  | cmp h => simp only [cmpW, List.mem_cons, List.not_mem_nil, or_false] at h; rcases h with rfl | rfl | rfl <;> exact ⟨rfl, by decide, by decide⟩
  | _ => exact ⟨rfl, by decide, by decide⟩
end Pd

set_option Elab.async false
set_option linter.all false
set_option maxRecDepth 100000
set_option maxHeartbeats 4000000
/-! how a meaning runs, as rules for simp -/
namespace Pd
open PySem L2
section
variable {ρ : En} {m : List D}
@[simp] theorem r_bo {α β : Type} {a : α} {m : List D} {f : α → List D → Ou β} : (Ou.ok a m).bind f = f a m := rfl
@[simp] theorem r_bs {α β : Type} {f : α → List D → Ou β} : (Ou.stuck : Ou α).bind f = .stuck := rfl
@[simp] theorem r_mC {d : D} : mC d ρ m = .ok (.dat d) m := rfl
@[simp] theorem r_mV {i : Nat} : mV i ρ m = match ρ[i]? with
  | some (.val d) => .ok (.dat d) m
  | some .pool => .ok .pool m
  | _ => .stuck := rfl
@[simp] theorem r_m1 {op : D → Option D} {f : Me Vl} : m1 op f ρ m = (f ρ m).bind fun x m1 => match x with
  | .dat d => (match op d with
    | some z => .ok (.dat z) m1
    | none => .stuck)
  | _ => .stuck := rfl
@[simp] theorem r_m2 {op : D → D → Option D} {fa fb : Me Vl} : m2 op fa fb ρ m = (fa ρ m).bind fun x m1 => (fb ρ m1).bind fun y m2 => match x, y with
  | .dat d, .dat e => (match op d e with
    | some z => .ok (.dat z) m2
    | none => .stuck)
  | _, _ => .stuck := rfl
@[simp] theorem r_mB {op : List D → Option D} {g : Me (List Vl)} : mB op g ρ m = (g ρ m).bind fun as m1 => match dats as with
  | some ds => (match op ds with
    | some z => .ok (.dat z) m1
    | none => .stuck)
  | none => .stuck := rfl
@[simp] theorem r_mCall {f : Fn} {g : Me (List Vl)} : mCall f g [] ρ m = (g ρ m).bind fun as m1 => (f (as ++ []) m1).bind fun d m2 => .ok (.dat d) m2 := rfl
@[simp] theorem r_mCallK {n : Nat} {π : List Nat} {f : Fn} {g : Me (List Vl)} : mCallK n π f g ρ m = (g ρ m).bind fun as m1 => if as.length = n then (f (pick π as) m1).bind fun d m2 => .ok (.dat d) m2 else .stuck := rfl
@[simp] theorem r_mNil : mNil ρ m = .ok [] m := rfl
@[simp] theorem r_mCons {f : Me Vl} {g : Me (List Vl)} : mCons f g ρ m = (f ρ m).bind fun x m1 => (g ρ m1).bind fun xs m2 => .ok (x :: xs) m2 := rfl
@[simp] theorem r_mStar {f : Me Vl} {g : Me (List Vl)} : mStar f g ρ m = (f ρ m).bind fun x m1 => (g ρ m1).bind fun xs m2 => match x with
  | .dat (.tup ds) => .ok (ds.map Vl.dat ++ xs) m2
  | .dat (.lst ds) => .ok (ds.map Vl.dat ++ xs) m2
  | _ => .stuck := rfl
@[simp] theorem r_mTup {f : Me (List Vl)} : mTup f ρ m = (f ρ m).bind fun xs m1 => match dats xs with
  | some ds => if ds.length ≤ sizeLine then .ok (.dat (.tup ds)) m1 else .stuck
  | none => .stuck := rfl
@[simp] theorem r_mLst {f : Me (List Vl)} : mLst f ρ m = (f ρ m).bind fun xs m1 => match dats xs with
  | some ds => if ds.length ≤ sizeLine then .ok ds m1 else .stuck
  | none => .stuck := rfl
@[simp] theorem r_mPub {f : Me (List D)} : mPub f ρ m = (f ρ m).bind fun ds m1 => .ok (.dat (.lst ds)) m1 := rfl
@[simp] theorem r_mAndV {f g : Me Vl} : mAndV f g ρ m = (f ρ m).bind fun x m1 => match x with
  | .dat d => (match truD d with
    | some true => g ρ m1
    | some false => .ok (.dat d) m1
    | none => .stuck)
  | _ => .stuck := rfl
@[simp] theorem r_mOrV {f g : Me Vl} : mOrV f g ρ m = (f ρ m).bind fun x m1 => match x with
  | .dat d => (match truD d with
    | some false => g ρ m1
    | some true => .ok (.dat d) m1
    | none => .stuck)
  | _ => .stuck := rfl
@[simp] theorem r_mIf {α : Type} {t : Me Bool} {f g : Me α} : mIf t f g ρ m = (t ρ m).bind fun b m1 => if b then f ρ m1 else g ρ m1 := rfl
@[simp] theorem r_mT {f : Me Vl} : mT f ρ m = (f ρ m).bind fun x m1 => match x with
  | .dat d => (match truD d with
    | some b => .ok b m1
    | none => .stuck)
  | _ => .stuck := rfl
@[simp] theorem r_mTb {f : Me Vl} : mTb f ρ m = (f ρ m).bind fun x m1 => match x with
  | .dat (.bl b) => .ok b m1
  | _ => .stuck := rfl
@[simp] theorem r_mNot {f : Me Bool} : mNot f ρ m = (f ρ m).bind fun b m1 => .ok (!b) m1 := rfl
@[simp] theorem r_mAnd {f g : Me Bool} : mAnd f g ρ m = (f ρ m).bind fun b m1 => if b then g ρ m1 else .ok false m1 := rfl
@[simp] theorem r_mOr {f g : Me Bool} : mOr f g ρ m = (f ρ m).bind fun b m1 => if b then .ok true m1 else g ρ m1 := rfl
@[simp] theorem r_sSeq {f g : Ms} : sSeq f g ρ m = match f ρ m with
  | .nx ρ1 m1 => g ρ1 m1
  | r => r := rfl
@[simp] theorem r_sNx : sNx ρ m = .nx ρ m := rfl
@[simp] theorem r_sSet {i : Nat} {f : Me Vl} : sSet i f ρ m = match f ρ m with
  | .ok (.dat d) m1 => .nx (ρ.set i (.val d)) m1
  | .ok .pool m1 => .nx (ρ.set i .pool) m1
  | .stuck => .stuck := rfl
@[simp] theorem r_sSetO {i : Nat} {f : Me (List D)} : sSetO i f ρ m = match f ρ m with
  | .ok ds m' => .nx (ρ.set i (.own ds)) m'
  | .stuck => .stuck := rfl
@[simp] theorem r_sRet {f : Me Vl} : sRet f ρ m = match f ρ m with
  | .ok (.dat d) m1 => .rt d m1
  | _ => .stuck := rfl
@[simp] theorem r_sIf {t : Me Bool} {f g : Ms} : sIf t f g ρ m = match t ρ m with
  | .ok true m1 => f ρ m1
  | .ok false m1 => g ρ m1
  | .stuck => .stuck := rfl
@[simp] theorem r_sDrop {f : Me Vl} : sDrop f ρ m = match f ρ m with
  | .ok _ m1 => .nx ρ m1
  | _ => .stuck := rfl
@[simp] theorem r_sMatch {f : Me Vl} {fs : List (Str × Ms)} : sMatch f fs ρ m = match f ρ m with
  | .ok (.dat d) m' => mcs d fs ρ m'
  | _ => .stuck := rfl
@[simp] theorem r_runF {np n : Nat} {f : Ms} {as : List Vl} : runF np n f as m = if as.length = np then (match f (startE n as) m with
  | .rt d m' => .ok d m'
  | .nx _ m' => .ok .non m'
  | _ => .stuck) else .stuck := rfl
@[simp] theorem r_mItT {f : Me Vl} : mItT f ρ m = (f ρ m).bind fun x m1 => match x with
  | .dat (.tup ds) => .ok ds m1
  | _ => .stuck := rfl
@[simp] theorem r_mItL {f : Me Vl} : mItL f ρ m = (f ρ m).bind fun x m1 => match x with
  | .dat (.lst ds) => .ok ds m1
  | _ => .stuck := rfl
@[simp] theorem r_mItE {f : Me (List D)} : mItE f ρ m = (f ρ m).bind fun ds m1 => .ok (enumL 0 ds) m1 := rfl
@[simp] theorem r_sFor {s : Me (List D)} {g : Mg} {f : Ms} : sFor s g f ρ m = match s ρ m with
  | .ok ds m1 => forM g f ds ρ m1
  | .stuck => .stuck := rfl
@[simp] theorem r_mSl {α : Type} {k : D → Option Int → Option Int → List D → Ou α} {f : Me Vl} {lo hi : Me (Option Int)} : mSl k f lo hi ρ m = (f ρ m).bind fun x m1 => (lo ρ m1).bind fun l m2 => (hi ρ m2).bind fun h m3 => match x with
  | .dat d => k d l h m3
  | _ => .stuck := rfl
@[simp] theorem r_oN : oN ρ m = .ok none m := rfl
@[simp] theorem r_oS {f : Me Vl} : oS f ρ m = (f ρ m).bind fun x m1 => match x with
  | .dat (.int i) => .ok (some i) m1
  | _ => .stuck := rfl
@[simp] theorem r_kSlT {ds : List D} {lo hi : Option Int} : kSlT (.tup ds) lo hi m = .ok (.dat (.tup (cutL ds lo hi))) m := rfl
@[simp] theorem r_kSlL {ds : List D} {lo hi : Option Int} : kSlL (.lst ds) lo hi m = .ok (cutL ds lo hi) m := rfl
@[simp] theorem r_mLc {is : List Nat} {s : Me (List D)} {g : Mg} {t : Me Bool} {f : Me Vl} : mLc is s g t f ρ m = (s ρ m).bind fun ds m1 => if (noOwn ρ is && decide (ds.length ≤ sizeLine)) = true then lcM g t f (wipeE ρ is) ds m1 else .stuck := rfl
@[simp] theorem r_lc0 {g : Mg} {t : Me Bool} {f : Me Vl} : lcM g t f ρ [] m = .ok [] m := rfl
@[simp] theorem r_lc1 {g : Mg} {t : Me Bool} {f : Me Vl} {d : D} {ds : List D} : lcM g t f ρ (d :: ds) m = match g d ρ with
  | none => .stuck
  | some ρ1 => (t ρ1 m).bind fun b m1 => if b then (f ρ1 m1).bind fun x m2 => (match x with
    | .dat y => (lcM g t f ρ ds m2).bind fun ys m3 => .ok (y :: ys) m3
    | _ => .stuck) else lcM g t f ρ ds m1 := rfl
@[simp] theorem r_for0 {g : Mg} {f : Ms} : forM g f [] ρ m = .nx ρ m := rfl
@[simp] theorem r_for1 {g : Mg} {f : Ms} {d : D} {ds : List D} : forM g f (d :: ds) ρ m = match g d ρ with
    | none => .stuck
    | some ρ1 => (match f ρ1 m with
      | .nx ρ2 m2 => forM g f ds ρ2 m2
      | .ct ρ2 m2 => forM g f ds ρ2 m2
      | .bk ρ2 m2 => .nx ρ2 m2
      | .rt x m2 => .rt x m2
      | .stuck => .stuck) := rfl
@[simp] theorem r_gN {i : Nat} {d : D} : gN i d ρ = some (ρ.set i (.val d)) := rfl
@[simp] theorem r_gN2 {i k : Nat} {a b : D} : gN2 i k (.tup [a, b]) ρ = some ((ρ.set i (.val a)).set k (.val b)) := rfl
@[simp] theorem r_enum0 {k : Nat} : enumL k [] = [] := rfl
@[simp] theorem r_enum1 {k : Nat} {d : D} {ds : List D} : enumL k (d :: ds) = .tup [.int (k : Int), d] :: enumL (k + 1) ds := rfl
@[simp] theorem r_ofd {d : D} : Sl.of (.dat d) = .val d := rfl
@[simp] theorem r_ofp : Sl.of .pool = .pool := rfl
@[simp] theorem r_startE {n : Nat} {as : List Vl} : startE n as = as.map Sl.of ++ List.replicate (n - as.length) .emp := rfl
@[simp] theorem r_dats0 : dats [] = some [] := rfl
@[simp] theorem r_dats1 {d : D} {xs : List Vl} : dats (.dat d :: xs) = (dats xs).map fun ds => d :: ds := by
  show (match dats xs with | _ => _) = _
  cases dats xs <;> rfl
@[simp] theorem r_len_t {ds : List D} : lenD [.tup ds] = some (.int (ds.length : Int)) := rfl
@[simp] theorem r_len_l {ds : List D} : lenD [.lst ds] = some (.int (ds.length : Int)) := rfl
@[simp] theorem r_eq_i {a b : Int} : eqD (.int a) (.int b) = some (.bl (decide (a = b))) := rfl
@[simp] theorem r_eq_s {a b : Str} : eqD (.str a) (.str b) = some (.bl (decide (a = b))) := rfl
@[simp] theorem r_ix_t0 {d : D} {ds : List D} : ixD (.tup (d :: ds)) (.int 0) = some d := atI_nat (j := 0) rfl
@[simp] theorem r_ix_t1 {a d : D} {ds : List D} : ixD (.tup (a :: d :: ds)) (.int 1) = some d := atI_nat (j := 1) rfl
@[simp] theorem r_ix_t2 {a b d : D} {ds : List D} : ixD (.tup (a :: b :: d :: ds)) (.int 2) = some d := atI_nat (j := 2) rfl
@[simp] theorem r_ix_t3 {a b e d : D} {ds : List D} : ixD (.tup (a :: b :: e :: d :: ds)) (.int 3) = some d := atI_nat (j := 3) rfl
@[simp] theorem r_ix_l0 {d : D} {ds : List D} : ixD (.lst (d :: ds)) (.int 0) = some d := atI_nat (j := 0) rfl
@[simp] theorem r_ix_l1 {a d : D} {ds : List D} : ixD (.lst (a :: d :: ds)) (.int 1) = some d := atI_nat (j := 1) rfl
@[simp] theorem r_ix_l2 {a b d : D} {ds : List D} : ixD (.lst (a :: b :: d :: ds)) (.int 2) = some d := atI_nat (j := 2) rfl
theorem cut1 {a : D} {ds : List D} : cutL (a :: ds) (some 1) none = ds := by
  unfold cutL
  rw [show (some (1 : Int)) = some ((1 : Nat) : Int) from rfl, HT.sIx_nat, HT.sIx_none, List.length_cons]
  have : min 1 (ds.length + 1) = 1 := by omega
  rw [this]
  simp
@[simp] theorem r_sz {n : Nat} (h : n ≤ 1000) : n ≤ sizeLine := sl_le h
@[simp] theorem r_fl_s {a : Str} : D.flat (.str a) = true := rfl
@[simp] theorem r_fl_i {a : Int} : D.flat (.int a) = true := rfl
@[simp] theorem r_fl_b {a : Bool} : D.flat (.bl a) = true := rfl
@[simp] theorem r_fl_n : D.flat .non = true := rfl
@[simp] theorem r_eqS_s {a b : Str} : D.eqS (.str a) (.str b) = (a == b) := rfl
@[simp] theorem r_eqS_i {a b : Int} : D.eqS (.int a) (.int b) = (a == b) := rfl
@[simp] theorem r_in_t {d : D} {es : List D} : inD d (.tup es) = if (d.flat && es.all D.flat) = true then some (.bl (es.any fun y => y.eqS d)) else none := by
  show (if (d.flat && es.all D.flat) = true then some (es.any fun y => y.eqS d) else none).map D.bl = _
  split <;> rfl
@[simp] theorem r_in_l {d : D} {es : List D} : inD d (.lst es) = if (d.flat && es.all D.flat) = true then some (.bl (es.any fun y => y.eqS d)) else none := by
  show (if (d.flat && es.all D.flat) = true then some (es.any fun y => y.eqS d) else none).map D.bl = _
  split <;> rfl
@[simp] theorem r_nin_t {d : D} {es : List D} : ninD d (.tup es) = if (d.flat && es.all D.flat) = true then some (.bl (!(es.any fun y => y.eqS d))) else none := by
  show (if (d.flat && es.all D.flat) = true then some (es.any fun y => y.eqS d) else none).map (fun b => D.bl (!b)) = _
  split <;> rfl
@[simp] theorem r_nin_l {d : D} {es : List D} : ninD d (.lst es) = if (d.flat && es.all D.flat) = true then some (.bl (!(es.any fun y => y.eqS d))) else none := by
  show (if (d.flat && es.all D.flat) = true then some (es.any fun y => y.eqS d) else none).map (fun b => D.bl (!b)) = _
  split <;> rfl
@[simp] theorem r_tru_b {b : Bool} : truD (.bl b) = some b := rfl
@[simp] theorem r_tru_t {xs : List D} : truD (.tup xs) = some (!xs.isEmpty) := rfl
@[simp] theorem r_tru_l {xs : List D} : truD (.lst xs) = some (!xs.isEmpty) := rfl
@[simp] theorem r_tru_i {i : Int} : truD (.int i) = some (i != 0) := rfl
@[simp] theorem r_tru_n : truD .non = some false := rfl
@[simp] theorem r_isn : isNone .non = true := rfl
@[simp] theorem r_isn_s {s : Str} : isNone (.str s) = false := rfl
@[simp] theorem r_isn_t {s : List D} : isNone (.tup s) = false := rfl
@[simp] theorem r_isn_l {s : List D} : isNone (.lst s) = false := rfl
@[simp] theorem r_isn_i {s : Int} : isNone (.int s) = false := rfl
@[simp] theorem r_isn_b {s : Bool} : isNone (.bl s) = false := rfl
@[simp] theorem r_add_i {a b : Int} : addD (.int a) (.int b) = some (.int (a + b)) := rfl
@[simp] theorem r_sub_i {a b : Int} : subD (.int a) (.int b) = some (.int (a - b)) := rfl
@[simp] theorem r_lt_i {a b : Int} : ltD (.int a) (.int b) = some (.bl (decide (a < b))) := rfl
@[simp] theorem r_gt_i {a b : Int} : gtD (.int a) (.int b) = some (.bl (decide (b < a))) := rfl
@[simp] theorem r_le_i {a b : Int} : leD (.int a) (.int b) = some (.bl (decide (a ≤ b))) := rfl
@[simp] theorem r_ge_i {a b : Int} : geD (.int a) (.int b) = some (.bl (decide (b ≤ a))) := rfl
@[simp] theorem r_ne_i {a b : Int} : neD (.int a) (.int b) = some (.bl (!decide (a = b))) := rfl
@[simp] theorem r_dget {gs : List (Str × D)} {k : Str} : dgetD (.dct gs) (.str k) = gs.lookup k := rfl
@[simp] theorem r_din {gs : List (Str × D)} {k : Str} : dinD (.str k) (.dct gs) = some (.bl (gs.lookup k).isSome) := rfl
@[simp] theorem r_dnin {gs : List (Str × D)} {k : Str} : dninD (.str k) (.dct gs) = some (.bl (!(gs.lookup k).isSome)) := rfl
@[simp] theorem r_is_tt {ds : List D} : isiB .tuple (.tup ds) = some true := rfl
@[simp] theorem r_is_ss {s : Str} : isiB .str (.str s) = some true := rfl
@[simp] theorem r_eqTx {a b : Str} : eqTx (.str a) b = some (decide (a = b)) := rfl
@[simp] theorem r_mcs0 {d : D} : mcs d [] ρ m = .nx ρ m := rfl
@[simp] theorem r_mcs1 {d : D} {z : Str} {f : Ms} {r : List (Str × Ms)} : mcs d ((z, f) :: r) ρ m = match eqTx d z with
    | some true => f ρ m
    | some false => mcs d r ρ m
    | none => .stuck := rfl
theorem ofS_inj {a b : String} (h : Str.ofString a = Str.ofString b) : a = b := by
  rw [Str.ofString_eq_toList, Str.ofString_eq_toList] at h
  have h1 : a.toList.map Char.toNat = b.toList.map Char.toNat := by
    injection h with h
    exact Array.toList_inj.mpr h |> fun z => by simpa using z
  have inj : Function.Injective Char.toNat := fun x y e => Char.ext (UInt32.toNat_inj.mp e)
  have h2 : a.toList = b.toList := by
    have := List.map_inj_right (f := Char.toNat) (fun x y e => inj e) |>.mp h1
    exact this
  exact String.ext_iff.mpr h2
@[simp] theorem r_ofS {a b : String} : (Str.ofString a = Str.ofString b) = (a = b) := propext ⟨ofS_inj, fun h => by rw [h]⟩
@[simp] theorem r_ofSb {a b : String} : (Str.ofString a == Str.ofString b) = (a == b) := by
  by_cases h : a = b
  · subst h; simp
  · have : ¬ Str.ofString a = Str.ofString b := fun e => h (ofS_inj e)
    rw [beq_eq_false_iff_ne.mpr this, beq_eq_false_iff_ne.mpr h]
theorem TrL.mem {cols : List (Str × Str)} {n : Nat} : ∀ {ks : List Str} {ps : List D}, TrL cols n ks ps → ∀ p ∈ ps, ∃ k, Tr cols n k p
  | _, _, .nil, p, h => by cases h
  | _, _, .cons h r, p, hp => by
    rcases List.mem_cons.mp hp with rfl | hp
    · exact ⟨_, h⟩
    · exact r.mem p hp
/-- the number of nodes -/
def ndc : Nat → D → Nat
  | 0, _ => 0
  | n + 1, .tup (.str w :: ps) => if w = "col" ∨ w = "value" then 1 else 1 + (ps.map (ndc n)).sum
  | _ + 1, _ => 1
theorem ints_map {f : D → Nat} : ∀ ps : List D, intsD (ps.map fun d => .int (f d : Int)) = some ((ps.map f).map Int.ofNat)
  | [] => rfl
  | p :: ps => by
    rw [List.map_cons]
    unfold intsD
    rw [ints_map ps]
    rfl
theorem sum_cast : ∀ ns : List Nat, (ns.map Int.ofNat).sum = (ns.sum : Int)
  | [] => rfl
  | n :: ns => by rw [List.map_cons, List.sum_cons, List.sum_cons, sum_cast ns]; simp
theorem sumD_map {f : D → Nat} (ps : List D) : sumD [.lst (ps.map fun d => .int (f d : Int))] = some (.int ((ps.map f).sum : Int)) := by
  show (intsD _).map _ = _
  rw [ints_map, Option.map_some, sum_cast]
theorem max_le {n : Int} : ∀ {ns : List Int} {y : Int}, y ≤ n → (∀ x ∈ ns, x ≤ n) → ns.foldl (fun a y => if decide (a < y) = true then y else a) y ≤ n
  | [], y, h, _ => h
  | x :: ns, y, h, h2 => by
    rw [List.foldl_cons]
    refine max_le ?_ fun z hz => h2 z (List.mem_cons_of_mem _ hz)
    split
    · exact h2 x List.mem_cons_self
    · exact h
theorem maxI_le {n : Int} {ns : List Int} {d : Int} (h : d ≤ n) (h2 : ∀ x ∈ ns, x ≤ n) : maxI ns d ≤ n := by
  cases ns with
  | nil => exact h
  | cons y ys => exact max_le (h2 y List.mem_cons_self) fun x hx => h2 x (List.mem_cons_of_mem _ hx)
@[simp] theorem r_ix_t4 {a0 a1 a2 a3 d : D} {ds : List D} : ixD (.tup (a0 :: a1 :: a2 :: a3 :: d :: ds)) (.int 4) = some d := atI_nat (j := 4) rfl
@[simp] theorem r_ix_t5 {a0 a1 a2 a3 a4 d : D} {ds : List D} : ixD (.tup (a0 :: a1 :: a2 :: a3 :: a4 :: d :: ds)) (.int 5) = some d := atI_nat (j := 5) rfl
@[simp] theorem r_ix_t6 {a0 a1 a2 a3 a4 a5 d : D} {ds : List D} : ixD (.tup (a0 :: a1 :: a2 :: a3 :: a4 :: a5 :: d :: ds)) (.int 6) = some d := atI_nat (j := 6) rfl
@[simp] theorem r_ix_t7 {a0 a1 a2 a3 a4 a5 a6 d : D} {ds : List D} : ixD (.tup (a0 :: a1 :: a2 :: a3 :: a4 :: a5 :: a6 :: d :: ds)) (.int 7) = some d := atI_nat (j := 7) rfl
@[simp] theorem r_ix_t8 {a0 a1 a2 a3 a4 a5 a6 a7 d : D} {ds : List D} : ixD (.tup (a0 :: a1 :: a2 :: a3 :: a4 :: a5 :: a6 :: a7 :: d :: ds)) (.int 8) = some d := atI_nat (j := 8) rfl
@[simp] theorem r_ix_t9 {a0 a1 a2 a3 a4 a5 a6 a7 a8 d : D} {ds : List D} : ixD (.tup (a0 :: a1 :: a2 :: a3 :: a4 :: a5 :: a6 :: a7 :: a8 :: d :: ds)) (.int 9) = some d := atI_nat (j := 9) rfl
@[simp] theorem r_ix_t10 {a0 a1 a2 a3 a4 a5 a6 a7 a8 a9 d : D} {ds : List D} : ixD (.tup (a0 :: a1 :: a2 :: a3 :: a4 :: a5 :: a6 :: a7 :: a8 :: a9 :: d :: ds)) (.int 10) = some d := atI_nat (j := 10) rfl
@[simp] theorem r_ix_t11 {a0 a1 a2 a3 a4 a5 a6 a7 a8 a9 a10 d : D} {ds : List D} : ixD (.tup (a0 :: a1 :: a2 :: a3 :: a4 :: a5 :: a6 :: a7 :: a8 :: a9 :: a10 :: d :: ds)) (.int 11) = some d := atI_nat (j := 11) rfl
@[simp] theorem r_ix_l3 {a0 a1 a2 d : D} {ds : List D} : ixD (.lst (a0 :: a1 :: a2 :: d :: ds)) (.int 3) = some d := atI_nat (j := 3) rfl
@[simp] theorem r_ix_l4 {a0 a1 a2 a3 d : D} {ds : List D} : ixD (.lst (a0 :: a1 :: a2 :: a3 :: d :: ds)) (.int 4) = some d := atI_nat (j := 4) rfl
@[simp] theorem r_ix_l5 {a0 a1 a2 a3 a4 d : D} {ds : List D} : ixD (.lst (a0 :: a1 :: a2 :: a3 :: a4 :: d :: ds)) (.int 5) = some d := atI_nat (j := 5) rfl
@[simp] theorem r_ix_l6 {a0 a1 a2 a3 a4 a5 d : D} {ds : List D} : ixD (.lst (a0 :: a1 :: a2 :: a3 :: a4 :: a5 :: d :: ds)) (.int 6) = some d := atI_nat (j := 6) rfl
@[simp] theorem r_ix_l7 {a0 a1 a2 a3 a4 a5 a6 d : D} {ds : List D} : ixD (.lst (a0 :: a1 :: a2 :: a3 :: a4 :: a5 :: a6 :: d :: ds)) (.int 7) = some d := atI_nat (j := 7) rfl
@[simp] theorem r_ix_l8 {a0 a1 a2 a3 a4 a5 a6 a7 d : D} {ds : List D} : ixD (.lst (a0 :: a1 :: a2 :: a3 :: a4 :: a5 :: a6 :: a7 :: d :: ds)) (.int 8) = some d := atI_nat (j := 8) rfl
@[simp] theorem r_ix_l9 {a0 a1 a2 a3 a4 a5 a6 a7 a8 d : D} {ds : List D} : ixD (.lst (a0 :: a1 :: a2 :: a3 :: a4 :: a5 :: a6 :: a7 :: a8 :: d :: ds)) (.int 9) = some d := atI_nat (j := 9) rfl
@[simp] theorem r_ix_l10 {a0 a1 a2 a3 a4 a5 a6 a7 a8 a9 d : D} {ds : List D} : ixD (.lst (a0 :: a1 :: a2 :: a3 :: a4 :: a5 :: a6 :: a7 :: a8 :: a9 :: d :: ds)) (.int 10) = some d := atI_nat (j := 10) rfl
@[simp] theorem r_ix_l11 {a0 a1 a2 a3 a4 a5 a6 a7 a8 a9 a10 d : D} {ds : List D} : ixD (.lst (a0 :: a1 :: a2 :: a3 :: a4 :: a5 :: a6 :: a7 :: a8 :: a9 :: a10 :: d :: ds)) (.int 11) = some d := atI_nat (j := 11) rfl
@[simp] theorem r_mod {a b : Int} (h : 0 < b) : modD (.int a) (.int b) = some (.int (a % b)) := if_pos (decide_eq_true h)
@[simp] theorem r_fdiv {a b : Int} (h : 0 < b) (h2 : b < 1073741824) : fdivD (.int a) (.int b) = some (.int (a / b)) := if_pos (decide_eq_true ⟨h, h2⟩)
@[simp] theorem r_neg {a : Int} : negD (.int a) = some (.int (-a)) := rfl
@[simp] theorem r_noOwn0 : noOwn ρ [] = true := rfl
@[simp] theorem r_noOwn1 {i : Nat} {is : List Nat} : noOwn ρ (i :: is) = ((match ρ[i]? with | some s => !s.isOwn | none => true) && noOwn ρ is) := rfl
@[simp] theorem r_wipe0 : wipeE ρ [] = ρ := rfl
@[simp] theorem r_wipe1 {i : Nat} {is : List Nat} : wipeE ρ (i :: is) = (wipeE ρ is).set i .emp := rfl
@[simp] theorem r_ow_e : Sl.isOwn .emp = false := rfl
@[simp] theorem r_ow_v {d : D} : Sl.isOwn (.val d) = false := rfl
@[simp] theorem r_ow_p : Sl.isOwn .pool = false := rfl
@[simp] theorem r_thaw1 {i : Nat} {f : Ms} : sThaw1 i f ρ m = match ρ[i]? with
  | some (.own ds) => f (ρ.set i (.val (.lst ds))) m
  | _ => f ρ m := rfl
@[simp] theorem r_thaw {f : Ms} : sThaw f ρ m = f (Pd.thaw ρ) m := rfl
@[simp] theorem r_thawm {ρ : En} : Pd.thaw ρ = ρ.map Sl.thaw := rfl
@[simp] theorem r_th_o {ds : List D} : Sl.thaw (.own ds) = .val (.lst ds) := rfl
@[simp] theorem r_th_v {d : D} : Sl.thaw (.val d) = .val d := rfl
@[simp] theorem r_th_e : Sl.thaw .emp = .emp := rfl
@[simp] theorem r_th_p : Sl.thaw .pool = .pool := rfl
@[simp] theorem r_sApp {i : Nat} {f : Me Vl} : sApp i f ρ m = match f ρ m with
  | .ok (.dat d) m' => (match ρ[i]? with
    | some (.own ds) => if ds.length < sizeLine then .nx (ρ.set i (.own (ds ++ [d]))) m' else .stuck
    | _ => .stuck)
  | _ => .stuck := rfl
@[simp] theorem r_szlt {n : Nat} (h : n ≤ 1000) : n < sizeLine := Nat.lt_of_le_of_lt h (by decide)
@[simp] theorem r_mItR {f : Me Vl} : mItR f ρ m = (f ρ m).bind fun x m1 => match x with
  | .dat (.int n) => if -(2 ^ 62) ≤ n ∧ n < 2 ^ 62 then .ok (rng 0 n.toNat) m1 else .stuck
  | _ => .stuck := rfl
@[simp] theorem r_mBor {f : Me Vl} : mBor f ρ m = match f (Pd.thaw ρ) m with
  | .ok (.dat d) m' => if (d.flat && m'.all D.flat) = true then .ok (.dat d) m' else .stuck
  | _ => .stuck := rfl
@[simp] theorem r_mBorB {f : Me Bool} : mBorB f ρ m = match f (Pd.thaw ρ) m with
  | .ok b m' => if m'.all D.flat = true then .ok b m' else .stuck
  | _ => .stuck := rfl
@[simp] theorem r_mListOf {f : Me Vl} : mListOf f ρ m = (f ρ m).bind fun x m1 => match x with
  | .dat (.tup ds) => .ok ds m1
  | .dat (.lst ds) => .ok ds m1
  | _ => .stuck := rfl
@[simp] theorem r_sPar {is : List Nat} {f : Me (List Av)} : sPar is f ρ m = match f ρ m with
  | .ok xs m' => if xs.length = is.length then .nx (setE ρ is xs) m' else .stuck
  | .stuck => .stuck := rfl
@[simp] theorem r_oNil : oNil ρ m = .ok [] m := rfl
@[simp] theorem r_oDat {f : Me Vl} {g : Me (List Av)} : oDat f g ρ m = (f ρ m).bind fun x m1 => (g ρ m1).bind fun xs m2 => match x with
  | .dat d => .ok (.dat d :: xs) m2
  | _ => .stuck := rfl
@[simp] theorem r_oOwn {f : Me (List D)} {g : Me (List Av)} : oOwn f g ρ m = (f ρ m).bind fun ds m1 => (g ρ m1).bind fun xs m2 => .ok (.own ds :: xs) m2 := rfl
@[simp] theorem r_setE0 {is : List Nat} : setE ρ is [] = ρ := by cases is <;> rfl
@[simp] theorem r_setE1 {i : Nat} {is : List Nat} {x : Av} {xs : List Av} : setE ρ (i :: is) (x :: xs) = setE (ρ.set i x.sl) is xs := rfl
@[simp] theorem r_sl_d {d : D} : Av.sl (.dat d) = .val d := rfl
@[simp] theorem r_sl_o {d : List D} : Av.sl (.own d) = .own d := rfl
@[simp] theorem r_mCat {f g : Me (List D)} : mCat f g ρ m = (f ρ m).bind fun as m1 => (g ρ m1).bind fun bs m2 => if as.length + bs.length ≤ sizeLine then .ok (as ++ bs) m2 else .stuck := rfl
@[simp] theorem r_mOwn {i : Nat} : mOwn i ρ m = match ρ[i]? with
  | some (.own ds) => .ok ds m
  | _ => .stuck := rfl
@[simp] theorem r_mRep {f : Me (List D)} {g : Me Vl} : mRep f g ρ m = (f ρ m).bind fun as m1 => (g ρ m1).bind fun x m2 => match x with
  | .dat (.int k) => if -(2 ^ 63) ≤ k ∧ k < 2 ^ 63 ∧ as.length * k.toNat ≤ sizeLine then .ok (List.replicate k.toNat as).flatten m2 else .stuck
  | _ => .stuck := rfl
@[simp] theorem r_tupD_l {ds : List D} : tupleD [.lst ds] = some (.tup ds) := rfl
@[simp] theorem r_tupD_t {ds : List D} : tupleD [.tup ds] = some (.tup ds) := rfl
/-! ### comprehensions -/
theorem lcM_two {g : Mg} {t : Me Bool} {f : Me Vl} {ρ : En} {m : List D} : ∀ {ds ys : List D}, ds.length = ys.length → (∀ (i : Nat) (d y : D), ds[i]? = some d → ys[i]? = some y → ∃ ρ1, g d ρ = some ρ1 ∧ t ρ1 m = .ok true m ∧ f ρ1 m = .ok (.dat y) m) → lcM g t f ρ ds m = .ok ys m
  | [], [], _, _ => rfl
  | [], _ :: _, h, _ => by simp at h
  | _ :: _, [], h, _ => by simp at h
  | d :: ds, y :: ys, h, H => by
    obtain ⟨ρ1, h1, h2, h3⟩ := H 0 d y rfl rfl
    unfold lcM
    simp only [h1, h2, h3, Ou.bind, if_true, lcM_two (ds := ds) (ys := ys) (by simpa using h) fun i d' y' a b => H (i + 1) d' y' (by simpa using a) (by simpa using b)]
theorem lcM_filter {α : Type} {enc : α → D} {g : Mg} {t : Me Bool} {f : Me Vl} {ρ : En} {m : List D} {p : α → Bool} {h : α → D} : ∀ {xs : List α}, (∀ x ∈ xs, ∃ ρ1, g (enc x) ρ = some ρ1 ∧ t ρ1 m = .ok (p x) m ∧ (p x = true → f ρ1 m = .ok (.dat (h x)) m)) → lcM g t f ρ (xs.map enc) m = .ok ((xs.filter p).map h) m
  | [], _ => rfl
  | x :: xs, H => by
    obtain ⟨ρ1, h1, h2, h3⟩ := H x List.mem_cons_self
    have ih := lcM_filter (xs := xs) fun y hy => H y (List.mem_cons_of_mem _ hy)
    rw [List.map_cons]
    unfold lcM
    cases e : p x with
    | true => simp only [h1, h2, e, h3 e, Ou.bind, if_true, ih, List.filter_cons_of_pos e, List.map_cons]
    | false => simp only [h1, h2, e, Ou.bind, Bool.false_eq_true, if_false, ih, List.filter_cons]
theorem TrL.get {cols : List (Str × Str)} {n : Nat} : ∀ {ks : List Str} {ps : List D} {i : Nat} {p : D} {k : Str}, TrL cols n ks ps → ps[i]? = some p → ks[i]? = some k → Tr cols n k p
  | _, _, _, _, _, .nil, e, _ => by simp at e
  | _, _, 0, _, _, .cons h r, e, e2 => by simp at e e2; subst e e2; exact h
  | _, _, i + 1, _, _, .cons h r, e, e2 => r.get (i := i) (by simpa using e) (by simpa using e2)
/-! ### dict(schema) -/
theorem putS_new {α : Type} {fs : List (Str × α)} {k : Str} {v : α} (h : k ∉ fs.map (·.1)) : putS fs k v = fs ++ [(k, v)] := by
  unfold putS
  rw [if_neg]
  intro e
  obtain ⟨p, hp, e⟩ := List.any_eq_true.mp e
  exact h (List.mem_map.mpr ⟨p, hp, of_decide_eq_true e⟩)
theorem mergeS_nd {α : Type} : ∀ {more fs : List (Str × α)}, ((fs ++ more).map (·.1)).Nodup → mergeS fs more = fs ++ more
  | [], fs, _ => by simp [mergeS]
  | (k, v) :: more, fs, h => by
    show mergeS (putS fs k v) more = _
    have hk : k ∉ fs.map (·.1) := by
      rw [List.map_append, List.map_cons] at h
      intro hm
      exact (List.nodup_append.mp h).2.2 k hm k List.mem_cons_self rfl
    rw [putS_new hk, mergeS_nd (by rw [List.append_assoc]; exact h), List.append_assoc]
    rfl
def colF (c : Str × Str) : Str × D := (c.1, .str c.2)
theorem pairs_cols : ∀ cols : List (Str × Str), pairsD (cols.map colD) = some (cols.map colF)
  | [] => rfl
  | c :: r => by
    rw [List.map_cons]
    unfold pairsD
    rw [pairs_cols r]
    rfl
theorem dict_cols {cols : List (Str × Str)} (h : (cols.map (·.1)).Nodup) : dictD [schD cols] = some (.dct (cols.map colF)) := by
  show (pairsD (cols.map colD)).map _ = _
  rw [pairs_cols, Option.map_some, mergeS_nd (fs := []) (by rw [List.nil_append, List.map_map]; exact h), List.nil_append]
theorem look_cols {x k : Str} : ∀ {cols : List (Str × Str)}, (cols.map (·.1)).Nodup → (x, k) ∈ cols → (cols.map colF).lookup x = some (.str k)
  | [], _, h => by cases h
  | c :: r, nd, h => by
    rw [List.map_cons, List.nodup_cons] at nd
    rw [List.map_cons]
    rcases List.mem_cons.mp h with rfl | h
    · simp [List.lookup, colF]
    · have : (x == c.1) = false := by
        rw [beq_eq_false_iff_ne]
        rintro rfl
        exact nd.1 (List.mem_map.mpr ⟨_, h, rfl⟩)
      show (match x == c.1 with | true => some (D.str c.2) | false => (r.map colF).lookup x) = _
      rw [this]
      exact look_cols nd.2 h
end
end Pd

set_option Elab.async false
set_option linter.all false
set_option maxRecDepth 100000
set_option maxHeartbeats 4000000
namespace Pd
open PySem L2
/-! ### expressions of mixed kinds, values that grow -/
def arL : List (Str × Nat) := [("add", 2), ("sub", 2), ("mul", 2), ("div", 2), ("mod", 2), ("glue", 2), ("size", 1), ("eq", 2), ("lt", 2), ("le", 2), ("and", 2), ("or", 2), ("not", 1), ("there", 1), ("if", 3), ("else", 2)]
abbrev Ar (w : Str) (n : Nat) : Prop := (w, n) ∈ arL
theorem OpK.arP {w k : Str} {ks : List Str} (h : OpK w ks k) : Ar w ks.length := by
  cases h with
  | num h => simp only [numW, List.mem_cons, List.not_mem_nil, or_false] at h; rcases h with rfl | rfl | rfl | rfl | rfl <;> (show Ar _ 2; decide)
  | cmp h => simp only [cmpW, List.mem_cons, List.not_mem_nil, or_false] at h; rcases h with rfl | rfl | rfl <;> (show Ar _ 2; decide)
  | ife => show Ar _ 3; decide
  | glue => show Ar _ 2; decide
  | and => show Ar _ 2; decide
  | or => show Ar _ 2; decide
  | els => show Ar _ 2; decide
  | _ => show Ar _ 1; decide
theorem Ar.ar {w : Str} {n : Nat} (h : Ar w n) : partsF.lookup w = some (.int (n : Int)) ∧ w ≠ "col" ∧ w ≠ "value" := by
  have h : (w, n) ∈ arL := h
  simp only [arL, List.mem_cons, List.not_mem_nil, or_false, Prod.mk.injEq] at h
  rcases h with ⟨rfl, rfl⟩ | ⟨rfl, rfl⟩ | ⟨rfl, rfl⟩ | ⟨rfl, rfl⟩ | ⟨rfl, rfl⟩ | ⟨rfl, rfl⟩ | ⟨rfl, rfl⟩ | ⟨rfl, rfl⟩ | ⟨rfl, rfl⟩ | ⟨rfl, rfl⟩ | ⟨rfl, rfl⟩ | ⟨rfl, rfl⟩ | ⟨rfl, rfl⟩ | ⟨rfl, rfl⟩ | ⟨rfl, rfl⟩ | ⟨rfl, rfl⟩ <;> exact ⟨rfl, by decide, by decide⟩
theorem Ar.few {w : Str} {n : Nat} (h : Ar w n) : 1 ≤ n ∧ n ≤ 3 := by
  have h : (w, n) ∈ arL := h
  simp only [arL, List.mem_cons, List.not_mem_nil, or_false, Prod.mk.injEq] at h
  omega
theorem Ar.gd {w : Str} {n : Nat} (h : Ar w n) : Gd 12 w := by
  have h : (w, n) ∈ arL := h
  simp only [arL, List.mem_cons, List.not_mem_nil, or_false, Prod.mk.injEq] at h
  rcases h with ⟨rfl, rfl⟩ | ⟨rfl, rfl⟩ | ⟨rfl, rfl⟩ | ⟨rfl, rfl⟩ | ⟨rfl, rfl⟩ | ⟨rfl, rfl⟩ | ⟨rfl, rfl⟩ | ⟨rfl, rfl⟩ | ⟨rfl, rfl⟩ | ⟨rfl, rfl⟩ | ⟨rfl, rfl⟩ | ⟨rfl, rfl⟩ | ⟨rfl, rfl⟩ | ⟨rfl, rfl⟩ | ⟨rfl, rfl⟩ | ⟨rfl, rfl⟩ <;> exact gd_of (by decide +kernel) (by decide +kernel)
/-- the size of values of n levels -/
def Bn : Nat → Nat
  | 0 => 2 ^ 44
  | n + 1 => Bn n * Bn n
def Tn : Nat → Nat
  | 0 => 16
  | n + 1 => Tn n + Tn n
theorem Bn_ge : ∀ n, 2 ^ 44 ≤ Bn n
  | 0 => Nat.le_refl _
  | n + 1 => by
    have := Bn_ge n
    show _ ≤ Bn n * Bn n
    exact Nat.le_trans this (Nat.le_mul_of_pos_left _ (Nat.lt_of_lt_of_le (by decide) this))
theorem Bn_dbl (n : Nat) : Bn n + Bn n ≤ Bn (n + 1) := by
  have := Bn_ge n
  show _ ≤ Bn n * Bn n
  rw [← Nat.two_mul]
  exact Nat.mul_le_mul_right _ (Nat.le_trans (by decide) this)
theorem Bn_up (n : Nat) : Bn n ≤ Bn (n + 1) := Nat.le_trans (Nat.le_add_right _ _) (Bn_dbl n)
theorem Bn_le : ∀ {n m : Nat}, n ≤ m → Bn n ≤ Bn m
  | n, 0, h => by obtain rfl : n = 0 := by omega
                  exact Nat.le_refl _
  | n, m + 1, h => by
    by_cases e : n = m + 1
    · subst e; exact Nat.le_refl _
    · exact Nat.le_trans (Bn_le (n := n) (m := m) (by omega)) (Bn_up m)
theorem Tn_le : ∀ {n m : Nat}, n ≤ m → Tn n ≤ Tn m
  | n, 0, h => by obtain rfl : n = 0 := by omega
                  exact Nat.le_refl _
  | n, m + 1, h => by
    by_cases e : n = m + 1
    · subst e; exact Nat.le_refl _
    · exact Nat.le_trans (Tn_le (n := n) (m := m) (by omega)) (by show Tn m ≤ Tn m + Tn m; omega)
theorem Tn_Bn : ∀ n, Tn n < Bn n
  | 0 => by decide
  | n + 1 => Nat.lt_of_lt_of_le (by show Tn n + Tn n < Bn n + Bn n; have := Tn_Bn n; omega) (Bn_dbl n)
inductive Wv (n : Nat) : Str → D → Prop
  | non (k : Str) : Wv n k .non
  | int {i : Int} : i.natAbs < Bn n → Wv n "int" (.int i)
  | text {s : Str} : s.length ≤ Tn n → (∀ ch ∈ s.cps.toList, ch < 0x110000) → Wv n "text" (.str s)
  | bool (b : Bool) : Wv n "bool" (.bl b)
theorem Wv.more {n m : Nat} {k : Str} {v : D} (h : Wv n k v) (l : n ≤ m) : Wv m k v := by
  cases h with
  | non => exact .non _
  | int h => exact .int (Nat.lt_of_lt_of_le h (Bn_le l))
  | text h h2 => exact .text (Nat.le_trans h (Tn_le l)) h2
  | bool b => exact .bool b
theorem IsW.wv {n : Nat} {k : Str} {v : D} (h : IsW k v) : Wv n k v := by
  have h0 : Wv 0 k v := by
    cases h with
    | non => exact .non _
    | int h =>
      refine .int ?_
      simp only [intL, List.mem_cons, List.not_mem_nil, or_false] at h
      rcases h with rfl | rfl | rfl | rfl | rfl | rfl | rfl | rfl | rfl | rfl <;> decide
    | text h => have := texts_gd _ h; exact .text (Nat.le_trans this.1 (by decide)) this.2
    | bool b => exact .bool b
  exact h0.more (Nat.zero_le _)
/-- an expression of at most so many levels, its values as V says -/
inductive Xt (V : Nat → Str → D → Prop) : Nat → D → Prop
  | col {n : Nat} {x : Str} : NameOk x → Xt V (n + 1) (.tup [.str "col", .str x])
  | val {n : Nat} {k : Str} {v : D} : KindOk k → V n k v → Xt V (n + 1) (.tup [.str "value", .str k, v])
  | op {n : Nat} {w : Str} {ps : List D} : Ar w ps.length → (∀ p ∈ ps, Xt V n p) → Xt V (n + 1) (.tup (.str w :: ps))
abbrev Vi : Nat → Str → D → Prop := fun _ => IsW
abbrev Xi := Xt Vi
abbrev Xo := Xt Wv
theorem Xt.imp {V W : Nat → Str → D → Prop} (hV : ∀ n m k v, n ≤ m → V n k v → W m k v) {n : Nat} {d : D} (h : Xt V n d) : ∀ {m : Nat}, n ≤ m → Xt W m d := by
  induction h with
  | col h => intro m l; cases m with | zero => omega | succ m => exact .col h
  | val h v => intro m l; cases m with | zero => omega | succ m => exact .val h (hV _ _ _ _ (by omega) v)
  | op h _ ih => intro m l; cases m with | zero => omega | succ m => exact .op h fun p hp => ih p hp (by omega)
theorem Xt.more {n m : Nat} {d : D} (h : Xi n d) (l : n ≤ m) : Xi m d := Xt.imp (V := Vi) (W := Vi) (fun _ _ _ _ _ h => h) h l
theorem Xt.moreO {n m : Nat} {d : D} (h : Xo n d) (l : n ≤ m) : Xo m d := Xt.imp (V := Wv) (W := Wv) (fun _ _ _ _ l h => h.more l) h l
theorem Xt.out {n : Nat} {d : D} (h : Xi n d) : Xo n d := Xt.imp (V := Vi) (W := Wv) (fun _ _ _ _ _ h => h.wv) h (Nat.le_refl _)
mutual
theorem Tr.xi {cols : List (Str × Str)} (hc : ∀ c ∈ cols, NameOk c.1) : ∀ {n : Nat} {k : Str} {d : D}, Tr cols n k d → Xi n d
  | _, _, _, .col h => .col (hc _ h)
  | _, _, _, .val h v => .val h v
  | _, _, _, .op h r => .op (by rw [r.len]; exact h.arP) (TrL.xi hc r)
theorem TrL.xi {cols : List (Str × Str)} (hc : ∀ c ∈ cols, NameOk c.1) : ∀ {n : Nat} {k : List Str} {d : List D}, TrL cols n k d → ∀ p ∈ d, Xi n p
  | _, _, _, .nil, p, h => by cases h
  | _, _, _, .cons h r, p, hp => by
    rcases List.mem_cons.mp hp with rfl | hp
    · exact Tr.xi hc h
    · exact TrL.xi hc r p hp
end
theorem Wv.sm {n : Nat} {k : Str} {d : D} (h : Wv n k d) : Sm 0 d := by
  cases h with
  | non => exact ⟨by simp only [D.py, PyData.canLay0], by simp only [D.py, PyData.depth]; omega⟩
  | int h => exact ⟨by simp only [D.py, PyData.canLay0], by simp only [D.py, PyData.depth]; omega⟩
  | text h h2 => exact sm_str h2
  | bool b => exact ⟨by simp only [D.py, PyData.canLay0], by simp only [D.py, PyData.depth]; omega⟩
theorem Xt.sm {n : Nat} {d : D} (h : Xo n d) : Sm n d := by
  induction h with
  | col h => 
      refine sm_tup fun d hd => ?_
      simp only [List.mem_cons, List.not_mem_nil, or_false] at hd
      rcases hd with rfl | rfl
      · exact (sm0_str (by decide +kernel)).more (by omega)
      · exact (sm_str h.gd.2).more (by omega)
  | val h v => 
      refine sm_tup fun d hd => ?_
      simp only [List.mem_cons, List.not_mem_nil, or_false] at hd
      rcases hd with rfl | rfl | rfl
      · exact (sm0_str (by decide +kernel)).more (by omega)
      · exact h.sm.more (by omega)
      · exact v.sm.more (by omega)
  | op h _ ih => 
      refine sm_tup fun d hd => ?_
      rcases List.mem_cons.mp hd with rfl | hd
      · exact (sm_str h.gd.2).more (by omega)
      · exact ih d hd
/-! ### what repr shows -/
theorem pyL_map : ∀ ds : List D, pyL ds = ds.map D.py
  | [] => rfl
  | d :: ds => by unfold pyL; rw [pyL_map ds]; rfl
theorem shown_map : ∀ ds : List PyData, PyData.shownAll ds = ds.map PyData.shown
  | [] => by simp [PyData.shownAll]
  | d :: ds => by unfold PyData.shownAll; rw [shown_map ds]; rfl
theorem showable_all : ∀ {ds : List PyData}, (∀ d ∈ ds, d.showable = true) → PyData.showableAll ds = true
  | [], _ => by simp [PyData.showableAll]
  | d :: ds, h => by
    unfold PyData.showableAll
    rw [h d List.mem_cons_self, showable_all fun e he => h e (List.mem_cons_of_mem _ he)]
    rfl
theorem app_len (a b : Str) : (a ++ b).length = a.length + b.length := by
  rw [len_cps, len_cps, len_cps, app_cps, List.length_append]
theorem join_le {B : Nat} {sep : Str} : ∀ {ts : List Str}, (∀ t ∈ ts, t.length ≤ B) → (Str.join sep ts).length ≤ ts.length * (B + sep.length)
  | [], _ => by exact Nat.zero_le _
  | [x], h => by
    have := h x List.mem_cons_self
    simp only [Str.join, List.length_cons, List.length_nil]
    omega
  | x :: y :: r, h => by
    have h1 := h x List.mem_cons_self
    have h2 := join_le (sep := sep) (ts := y :: r) fun t ht => h t (List.mem_cons_of_mem _ ht)
    rw [Str.join, app_len, app_len]
    rw [List.length_cons, Nat.add_mul, Nat.one_mul]
    omega
    simp
theorem tupT_le {B : Nat} {ts : List Str} (h : ∀ t ∈ ts, t.length ≤ B) : (tupleText ts).length ≤ ts.length * (B + 2) + 3 := by
  unfold tupleText
  have := join_le (sep := ", ") h
  have h2 : (Str.ofString ", ").length = 2 := by decide +kernel
  have h3 : (Str.ofString "(").length = 1 := by decide +kernel
  rw [h2] at this
  rw [app_len, app_len, h3]
  split
  · have : (Str.ofString ",)").length = 2 := by decide +kernel
    omega
  · have : (Str.ofString ")").length = 1 := by decide +kernel
    omega
theorem from_le {B : Nat} : ∀ {ts : List Str} {k : Nat} {acc : Str}, (∀ t ∈ ts, t.length ≤ B) → (textFrom k acc ts).length ≤ acc.length + ts.length * (B + 2)
  | [], k, acc, _ => by show acc.length ≤ _; omega
  | t :: r, k, acc, h => by
    have h1 := h t List.mem_cons_self
    have h2 := from_le (ts := r) (k := k + 1) (acc := acc ++ (if k > 0 then ", " else "" : String) ++ t) fun t ht => h t (List.mem_cons_of_mem _ ht)
    show (textFrom (k + 1) _ r).length ≤ _
    have h3 : (Str.ofString (if k > 0 then ", " else "")).length ≤ 2 := by split <;> decide +kernel
    rw [app_len, app_len] at h2
    rw [List.length_cons, Nat.add_mul, Nat.one_mul]
    omega
theorem lstT_le {B : Nat} {ts : List Str} (h : ∀ t ∈ ts, t.length ≤ B) : (listText ts).length ≤ ts.length * (B + 2) + 2 := by
  unfold listText
  have := from_le (k := 0) (acc := "[") h
  have h2 : (Str.ofString "[").length = 1 := by decide +kernel
  have h3 : (Str.ofString "]").length = 1 := by decide +kernel
  rw [app_len, h3]
  omega
/-- shown in at most so many signs -/
def Sh (L : Nat) (d : D) : Prop := d.py.showable = true ∧ d.py.shown.length ≤ L
theorem Sh.more {L M : Nat} {d : D} (h : Sh L d) (l : L ≤ M) : Sh M d := ⟨h.1, Nat.le_trans h.2 l⟩
theorem sh_str {s : Str} {n : Nat} (h1 : s.length ≤ n) (h2 : ∀ ch ∈ s.cps.toList, ch < 0x110000) : Sh (10 * n + 2) (.str s) := by
  refine ⟨rfl, ?_⟩
  have := StrLaws.reprText_len s fun c hc => Nat.lt_of_lt_of_le (h2 c hc) (by decide)
  show (reprText s).length ≤ _
  omega
theorem sh_int {i : Int} (h : i.natAbs.log2 < 1920) : Sh 1921 (.int i) := by
  refine ⟨decide_eq_true h, ?_⟩
  show (Str.ofString (toString i)).length ≤ _
  rw [PyProof.Rows.ofString_len]
  exact int_text_length_le (by decide) h
theorem sh_tup {L : Nat} {ds : List D} (h : ∀ d ∈ ds, Sh L d) : Sh (ds.length * (L + 2) + 3) (.tup ds) := by
  refine ⟨?_, ?_⟩
  · show PyData.showableAll (pyL ds) = true
    refine showable_all fun d hd => ?_
    rw [pyL_map] at hd
    obtain ⟨e, he, rfl⟩ := List.mem_map.mp hd
    exact (h e he).1
  · show (tupleText (PyData.shownAll (pyL ds))).length ≤ _
    rw [shown_map, pyL_map, List.map_map]
    have := tupT_le (B := L) (ts := ds.map (PyData.shown ∘ D.py)) fun t ht => by
      obtain ⟨e, he, rfl⟩ := List.mem_map.mp ht
      exact (h e he).2
    rw [List.length_map] at this
    exact this
theorem sh_lst {L : Nat} {ds : List D} (h : ∀ d ∈ ds, Sh L d) : Sh (ds.length * (L + 2) + 3) (.lst ds) := by
  refine ⟨?_, ?_⟩
  · show PyData.showableAll (pyL ds) = true
    refine showable_all fun d hd => ?_
    rw [pyL_map] at hd
    obtain ⟨e, he, rfl⟩ := List.mem_map.mp hd
    exact (h e he).1
  · show (listText (PyData.shownAll (pyL ds))).length ≤ _
    rw [shown_map, pyL_map, List.map_map]
    have := lstT_le (B := L) (ts := ds.map (PyData.shown ∘ D.py)) fun t ht => by
      obtain ⟨e, he, rfl⟩ := List.mem_map.mp ht
      exact (h e he).2
    rw [List.length_map] at this
    omega
theorem log2_lt {a k : Nat} (h : a < 2 ^ k) (hk : 0 < k) : a.log2 < k := by
  by_cases e : a = 0
  · subst e; simpa using hk
  · exact (Nat.log2_lt e).mpr h
theorem Bn4 : Bn 4 = 2 ^ 704 := by decide +kernel
theorem Wv.log {n : Nat} {i : Int} (hn : n ≤ 4) (h : i.natAbs < Bn n) : i.natAbs.log2 < 1920 := by
  have : i.natAbs < 2 ^ 704 := by rw [← Bn4]; exact Nat.lt_of_lt_of_le h (Bn_le hn)
  exact Nat.lt_trans (log2_lt this (by decide)) (by decide)
theorem Wv.sh {n : Nat} {k : Str} {v : D} (hn : n ≤ 4) (h : Wv n k v) : Sh 2600 v := by
  cases h with
  | non => exact ⟨rfl, by decide +kernel⟩
  | int h => exact (sh_int (Wv.log hn h)).more (by decide)
  | text h h2 => exact (sh_str (n := 256) (Nat.le_trans h (Tn_le (m := 4) hn)) h2).more (by decide)
  | bool b => cases b <;> exact ⟨rfl, by decide +kernel⟩
theorem Xt.sh {n : Nat} {d : D} (h : Xo n d) : n ≤ 5 → Sh (1600 * 5 ^ n) d := by
  induction h with
  | @col n x h =>
    intro hn
    refine (sh_tup (L := 122) fun d hd => ?_).more (by have p1 : 1 ≤ 5 ^ n := Nat.pow_pos (by decide); rw [Nat.pow_succ]; show 2 * (122 + 2) + 3 ≤ _; omega)
    simp only [List.mem_cons, List.not_mem_nil, or_false] at hd
    rcases hd with rfl | rfl
    · exact sh_str (n := 12) (by decide +kernel) (by decide +kernel)
    · exact sh_str (n := 12) h.gd.1 h.gd.2
  | @val n k v h hv =>
    intro hn
    refine (sh_tup (L := 2600) fun d hd => ?_).more (by have p1 : 1 ≤ 5 ^ n := Nat.pow_pos (by decide); rw [Nat.pow_succ]; show 3 * (2600 + 2) + 3 ≤ _; omega)
    simp only [List.mem_cons, List.not_mem_nil, or_false] at hd
    rcases hd with rfl | rfl | rfl
    · exact (sh_str (n := 12) (by decide +kernel) (by decide +kernel)).more (by decide)
    · rcases h with rfl | rfl | rfl <;> exact (sh_str (n := 12) (by decide +kernel) (by decide +kernel)).more (by decide)
    · exact hv.sh (by omega)
  | @op n w ps h _ ih =>
    intro hn
    have p1 : 1 ≤ 5 ^ n := Nat.pow_pos (by decide)
    refine (sh_tup (L := 1600 * 5 ^ n) fun d hd => ?_).more ?_
    · rcases List.mem_cons.mp hd with rfl | hd
      · exact (sh_str (n := 12) h.gd.1 h.gd.2).more (by omega)
      · exact ih d hd (by omega)
    · have := h.few
      rw [List.length_cons, Nat.pow_succ]
      have e : (ps.length + 1) * (1600 * 5 ^ n + 2) ≤ 4 * (1600 * 5 ^ n + 2) := Nat.mul_le_mul_right _ (by omega)
      omega
theorem show_ok {n L : Nat} {d : D} (h : Sm n d) (hn : n ≤ 64) (h2 : Sh L d) (hL : L ≤ sizeLine) : showD d = true := by
  unfold showD
  rw [h.shaped hn, h2.1, PyData.hasDict_of_canLay _ h.1, decide_eq_true (Nat.le_trans h2.2 hL)]
  rfl
theorem Xt.show {n : Nat} {d : D} (h : Xo n d) (hn : n ≤ 5) : showD d = true :=
  show_ok h.sm (by omega) ((h.sh hn).more (M := 1600 * 5 ^ 5) (Nat.mul_le_mul_left _ (Nat.pow_le_pow_right (by decide) hn))) (by decide)
theorem Xt.show3 {n : Nat} {d : D} (h : Xo n d) (hn : n ≤ 5) : showD (.lst [d, d, d]) = true := by
  have s := (h.sh hn).more (M := 1600 * 5 ^ 5) (Nat.mul_le_mul_left _ (Nat.pow_le_pow_right (by decide) hn))
  refine show_ok (sm_lst (n := n) fun e he => ?_) (by omega) (sh_lst (L := 1600 * 5 ^ 5) fun e he => ?_) (by show 3 * (1600 * 5 ^ 5 + 2) + 3 ≤ sizeLine; decide)
  · simp only [List.mem_cons, List.not_mem_nil, or_false, or_self] at he
    subst he; exact h.sm
  · simp only [List.mem_cons, List.not_mem_nil, or_false, or_self] at he
    subst he; exact s
/-! ### rules -/
section
variable {ρ : En} {m : List D}
theorem r_repr {d : D} (h : showD d = true) : reprD [d] = some (.str d.py.shown) := by show (if showD d = true then _ else _) = _; rw [if_pos h]
@[simp] theorem r_isB_b {a b : Bool} : isBD b (.bl a) = some (.bl (a == b)) := rfl
@[simp] theorem r_isB_n {b : Bool} : isBD b .non = some (.bl false) := rfl
@[simp] theorem r_isB_i {b : Bool} {i : Int} : isBD b (.int i) = some (.bl false) := rfl
@[simp] theorem r_isB_s {b : Bool} {i : Str} : isBD b (.str i) = some (.bl false) := rfl
@[simp] theorem r_ltV_b {a b : Bool} : ltV (.bl a) (.bl b) = some (.bl (!a && b)) := rfl
@[simp] theorem r_leV_b {a b : Bool} : leV (.bl a) (.bl b) = some (.bl (!(!b && a))) := rfl
@[simp] theorem r_ltV_i {a b : Int} : ltV (.int a) (.int b) = some (.bl (decide (a < b))) := rfl
@[simp] theorem r_leV_i {a b : Int} : leV (.int a) (.int b) = some (.bl (decide (a ≤ b))) := rfl
@[simp] theorem r_ltV_s {a b : Str} : ltV (.str a) (.str b) = ltD (.str a) (.str b) := rfl
@[simp] theorem r_leV_s {a b : Str} : leV (.str a) (.str b) = leD (.str a) (.str b) := rfl
theorem r_mulW {a b : Int} (h1 : a.natAbs.log2 < 1920) (h2 : b.natAbs.log2 < 1920) : mulW (.int a) (.int b) = some (.int (a * b)) := if_pos (by
  show (small a && small b) = true
  unfold small
  rw [decide_eq_true (by omega), decide_eq_true (by omega)]; rfl)
theorem r_fdivW {a b : Int} (h0 : b ≠ 0) (h2 : b.natAbs.log2 < 1920) : fdivW (.int a) (.int b) = some (.int (a.fdiv b)) := if_pos (by
  show (decide (b ≠ 0) && small b) = true
  unfold small
  rw [decide_eq_true h0, decide_eq_true (by omega)]; rfl)
theorem r_modW {a b : Int} (h0 : b ≠ 0) : modW (.int a) (.int b) = some (.int (a.fmod b)) := if_pos (decide_eq_true h0)
end
end Pd

set_option Elab.async false
set_option linter.all false
set_option maxRecDepth 100000
set_option maxHeartbeats 8000000
namespace K15
open PySem L2 Pd
def top (i : Nat) : Stmt := PySem.Challenge.pw_labelframes_k15_folded_expressions.main.body.getD i (.Pass ⟨0, 0, 0, 0⟩)

def p_is_integer : { s : Stmt // s = top 7 } := ⟨_, by conv => rhs; whnf⟩
abbrev st_is_integer : Stmt := p_is_integer.1
theorem sc_is_integer : FnScope ["value"] ["value"] (defScope st_is_integer) := ⟨rfl, rfl, rfl, by decide +kernel, rfl, by decide +kernel, by decide +kernel⟩
def sem_is_integer : Ms :=
  (sRet (mAndV (m1 (fun d => (isiB .int d).map D.bl) (mV 0)) (m1 (fun d => (truD d).map fun b => .bl (!b)) (m1 (fun d => (isiB .bool d).map D.bl) (mV 0)))))
def f_is_integer : Fn := runF 1 1 (sem_is_integer )
theorem ok_is_integer {P : Program} {w : World} {K : Fg} {mg : Str → Option Value} {base : Heap} {a : Addr} {fd : FuncData}  (F : Fun K "is_integer" "is_integer" st_is_integer a fd) (B : Bt mg) (BX : Bx mg)      :
    FnG P w K mg base (1) a fd ["value"] (spF K (f_is_integer )) :=
  fn_pd' (sem := sem_is_integer ) (k := 0) F sc_is_integer rfl rfl fun cdv A outer s E c hk hr => have hK : K = c.K := hk.symm;
    (pd_last (pd_ret (pd_and hK (pd_isi .int hK rfl B.isinstance rfl B.int (dv 0) (by decide +kernel)) (pd_one (pd_not hK (pd_isi .bool hK rfl B.isinstance rfl B.bool (dv 0) (by decide +kernel)))))))

def p_is_name : { s : Stmt // s = top 8 } := ⟨_, by conv => rhs; whnf⟩
abbrev st_is_name : Stmt := p_is_name.1
theorem sc_is_name : FnScope ["value", "sign"] ["value"] (defScope st_is_name) := ⟨rfl, rfl, rfl, by decide +kernel, rfl, by decide +kernel, by decide +kernel⟩
def sem_is_name : Ms :=
  (sRet (mAndV (m1 (fun d => (isiB .str d).map D.bl) (mV 0)) (mAndV (mCh leD leD (mC (.int 1)) (mB lenD (mCons (mV 0) mNil)) (mC (.int 8))) (mB allD (mCons (mPub (mLc [1] (mItS (mV 0)) (gN 1) (fun _ m => .ok true m) (m2 inD (mV 1) (mC (.str "abcdefghijklmnopqrstuvwxyz"))))) mNil)))))
def f_is_name : Fn := runF 1 2 (sem_is_name )
theorem ok_is_name {P : Program} {w : World} {K : Fg} {mg : Str → Option Value} {base : Heap} {a : Addr} {fd : FuncData}  (F : Fun K "is_name" "is_name" st_is_name a fd) (B : Bt mg) (BX : Bx mg)   (G_LETTERS : Gc K mg "LETTERS" (.str "abcdefghijklmnopqrstuvwxyz")) (G_MOST_LETTERS : Gc K mg "MOST_LETTERS" (.int 8))   :
    FnG P w K mg base (1) a fd ["value"] (spF K (f_is_name )) :=
  fn_pd' (sem := sem_is_name ) (k := 0) F sc_is_name rfl rfl fun cdv A outer s E c hk hr => have hK : K = c.K := hk.symm;
    (pd_last (pd_ret (pd_and hK (pd_isi .str hK rfl B.isinstance rfl B.str (dv 0) (by decide +kernel)) (pd_and hK (pd_lele pd_int (pb_len hK rfl rfl B.len (pd_ac (dv 0) pd_an)) (pd_gc hK G_MOST_LETTERS rfl)) (pd_one (pb_all hK rfl rfl B.all (pd_ac (pd_pub (pd_lc (own := [("sign", 1)]) (hc := rfl) (hN := sc_is_name.nd) (hi := (pi_s (dv 0))) (ok := blkOk_by (N := ["value", "sign"]) (sc := defScope st_is_name) (by decide +kernel)) (hg := fun _ _ _ _ _ => (pg_n sc_is_name.nd rfl (by first | exact Or.inl rfl | exact Or.inr rfl))) (ht := fun _ _ _ _ _ => pts_y) (he := fun _ _ _ _ _ => (pd_in hK (dv 1) (pd_gc hK G_LETTERS rfl))))) pd_an)))))))

def p_is_kind : { s : Stmt // s = top 9 } := ⟨_, by conv => rhs; whnf⟩
abbrev st_is_kind : Stmt := p_is_kind.1
theorem sc_is_kind : FnScope ["value"] ["value"] (defScope st_is_kind) := ⟨rfl, rfl, rfl, by decide +kernel, rfl, by decide +kernel, by decide +kernel⟩
def sem_is_kind : Ms :=
  (sRet (mAndV (m1 (fun d => (isiB .str d).map D.bl) (mV 0)) (m2 inD (mV 0) (mC (.tup [.str "int", .str "text", .str "bool"])))))
def f_is_kind : Fn := runF 1 1 (sem_is_kind )
theorem ok_is_kind {P : Program} {w : World} {K : Fg} {mg : Str → Option Value} {base : Heap} {a : Addr} {fd : FuncData}  (F : Fun K "is_kind" "is_kind" st_is_kind a fd) (B : Bt mg) (BX : Bx mg)   (G_KINDS : Gc K mg "KINDS" (.tup [.str "int", .str "text", .str "bool"]))   :
    FnG P w K mg base (1) a fd ["value"] (spF K (f_is_kind )) :=
  fn_pd' (sem := sem_is_kind ) (k := 0) F sc_is_kind rfl rfl fun cdv A outer s E c hk hr => have hK : K = c.K := hk.symm;
    (pd_last (pd_ret (pd_and hK (pd_isi .str hK rfl B.isinstance rfl B.str (dv 0) (by decide +kernel)) (pd_one (pd_in hK (dv 0) (pd_gc hK G_KINDS rfl))))))

def p_is_value : { s : Stmt // s = top 10 } := ⟨_, by conv => rhs; whnf⟩
abbrev st_is_value : Stmt := p_is_value.1
theorem sc_is_value : FnScope ["kind", "value", "sign"] ["kind", "value"] (defScope st_is_value) := ⟨rfl, rfl, rfl, by decide +kernel, rfl, by decide +kernel, by decide +kernel⟩
def sem_is_value : Ms :=
  (sSeq (sIf (mTb (m1 (fun d => some (.bl (isNone d))) (mV 1)))
  (sRet (mC (.bl true)))
  sNx)
  (sSeq (sMatch (mV 0) (("int", (sRet (mCall f_is_integer (mCons (mV 1) mNil)))) :: (("text", (sRet (mAndV (m1 (fun d => (isiB .str d).map D.bl) (mV 1)) (mB allD (mCons (mPub (mLc [2] (mItS (mV 1)) (gN 2) (fun _ m => .ok true m) (mCh leD leD (mC (.str " ")) (mV 2) (mC (.str "~"))))) mNil))))) :: [])))
  (sRet (m1 (fun d => (isiB .bool d).map D.bl) (mV 1)))))
def f_is_value : Fn := runF 2 3 (sem_is_value )
theorem ok_is_value {P : Program} {w : World} {K : Fg} {mg : Str → Option Value} {base : Heap} {a : Addr} {fd : FuncData}  (F : Fun K "is_value" "is_value" st_is_value a fd) (B : Bt mg) (BX : Bx mg) (F_is_integer : Df P w K mg base (1) "is_integer" 1 f_is_integer)     :
    FnG P w K mg base (2) a fd ["kind", "value"] (spF K (f_is_value )) :=
  fn_pd' (sem := sem_is_value ) (k := 1) F sc_is_value rfl rfl fun cdv A outer s E c hk hr => have hK : K = c.K := hk.symm;
    (pd_seq (pd_sif (pd_tisN (dv 1))
      (pd_last (pd_ret pd_bl))
      pd_nil)
      (pd_seq (pd_match (dv 0)
      (pmc_cons (pd_last (pd_ret (pd_call F_is_integer hK hr (by omega) rfl (pd_ac (dv 1) pd_an))))
      (pmc_cons (pd_last (pd_ret (pd_and hK (pd_isi .str hK rfl B.isinstance rfl B.str (dv 1) (by decide +kernel)) (pd_one (pb_all hK rfl rfl B.all (pd_ac (pd_pub (pd_lc (own := [("sign", 2)]) (hc := rfl) (hN := sc_is_value.nd) (hi := (pi_s (dv 1))) (ok := blkOk_by (N := ["kind", "value", "sign"]) (sc := defScope st_is_value) (by decide +kernel)) (hg := fun _ _ _ _ _ => (pg_n sc_is_value.nd rfl (by first | exact Or.inl rfl | exact Or.inr rfl))) (ht := fun _ _ _ _ _ => pts_y) (he := fun _ _ _ _ _ => (pd_lele pd_str (dv 2) pd_str)))) pd_an))))))
      pmc_nil)))
      (pd_last (pd_ret (pd_isi .bool hK rfl B.isinstance rfl B.bool (dv 1) (by decide +kernel))))))

def p_is_operation : { s : Stmt // s = top 17 } := ⟨_, by conv => rhs; whnf⟩
abbrev st_is_operation : Stmt := p_is_operation.1
theorem sc_is_operation : FnScope ["expression"] ["expression"] (defScope st_is_operation) := ⟨rfl, rfl, rfl, by decide +kernel, rfl, by decide +kernel, by decide +kernel⟩
def sem_is_operation : Ms :=
  (sRet (m2 ninD (m2 ixD (mV 0) (mC (.int 0))) (mTup (mCons (mC (.str "col")) (mCons (mC (.str "value")) mNil)))))
def f_is_operation : Fn := runF 1 1 (sem_is_operation )
theorem ok_is_operation {P : Program} {w : World} {K : Fg} {mg : Str → Option Value} {base : Heap} {a : Addr} {fd : FuncData}  (F : Fun K "is_operation" "is_operation" st_is_operation a fd) (B : Bt mg) (BX : Bx mg)      :
    FnG P w K mg base (1) a fd ["expression"] (spF K (f_is_operation )) :=
  fn_pd' (sem := sem_is_operation ) (k := 0) F sc_is_operation rfl rfl fun cdv A outer s E c hk hr => have hK : K = c.K := hk.symm;
    (pd_last (pd_ret (pd_nin hK (pd_ix hK (dv 0) pd_int (fun _ _ => rfl)) (pd_tup (pd_ac pd_str (pd_ac pd_str pd_an))))))

def p_parts_of : { s : Stmt // s = top 18 } := ⟨_, by conv => rhs; whnf⟩
abbrev st_parts_of : Stmt := p_parts_of.1
theorem sc_parts_of : FnScope ["expression"] ["expression"] (defScope st_parts_of) := ⟨rfl, rfl, rfl, by decide +kernel, rfl, by decide +kernel, by decide +kernel⟩
def sem_parts_of : Ms :=
  (sRet (mIf (mT (mCall f_is_operation (mCons (mV 0) mNil))) (mSl kSlT (mV 0) (oS (mC (.int 1))) oN) (mTup mNil)))
def f_parts_of : Fn := runF 1 1 (sem_parts_of )
theorem ok_parts_of {P : Program} {w : World} {K : Fg} {mg : Str → Option Value} {base : Heap} {a : Addr} {fd : FuncData}  (F : Fun K "parts_of" "parts_of" st_parts_of a fd) (B : Bt mg) (BX : Bx mg) (F_is_operation : Df P w K mg base (1) "is_operation" 1 f_is_operation)     :
    FnG P w K mg base (2) a fd ["expression"] (spF K (f_parts_of )) :=
  fn_pd' (sem := sem_parts_of ) (k := 1) F sc_parts_of rfl rfl fun cdv A outer s E c hk hr => have hK : K = c.K := hk.symm;
    (pd_last (pd_ret (pd_if (pd_tt hK (pd_call F_is_operation hK hr (by omega) rfl (pd_ac (dv 0) pd_an))) (pd_slT hK (dv 0) (pd_os pd_int) pd_on) (pd_tup pd_an))))

def p_has_form : { s : Stmt // s = top 19 } := ⟨_, by conv => rhs; whnf⟩
abbrev st_has_form : Stmt := p_has_form.1
theorem sc_has_form : FnScope ["value"] ["value"] (defScope st_has_form) := ⟨rfl, rfl, rfl, by decide +kernel, rfl, by decide +kernel, by decide +kernel⟩
def sem_has_form : Ms :=
  (sSeq (sIf (mOr (mNot (mT (m1 (fun d => (isiB .tuple d).map D.bl) (mV 0)))) (mOr (mTb (m2 eqD (mV 0) (mTup mNil))) (mNot (mT (m1 (fun d => (isiB .str d).map D.bl) (m2 ixD (mV 0) (mC (.int 0))))))))
  (sRet (mC (.bl false)))
  sNx)
  (sSeq (sMatch (m2 ixD (mV 0) (mC (.int 0))) (("col", (sRet (mAndV (m2 eqD (mB lenD (mCons (mV 0) mNil)) (mC (.int 2))) (mCall f_is_name (mCons (m2 ixD (mV 0) (mC (.int 1))) mNil))))) :: (("value", (sRet (mAndV (m2 eqD (mB lenD (mCons (mV 0) mNil)) (mC (.int 3))) (mAndV (mCall f_is_kind (mCons (m2 ixD (mV 0) (mC (.int 1))) mNil)) (mCall f_is_value (mCons (m2 ixD (mV 0) (mC (.int 1))) (mCons (m2 ixD (mV 0) (mC (.int 2))) mNil))))))) :: [])))
  (sRet (mAndV (m2 dinD (m2 ixD (mV 0) (mC (.int 0))) (mC (.dct [("add", .int 2), ("sub", .int 2), ("mul", .int 2), ("div", .int 2), ("mod", .int 2), ("glue", .int 2), ("size", .int 1), ("eq", .int 2), ("lt", .int 2), ("le", .int 2), ("and", .int 2), ("or", .int 2), ("not", .int 1), ("there", .int 1), ("if", .int 3), ("else", .int 2)]))) (m2 eqD (mB lenD (mCons (mV 0) mNil)) (m2 addD (mC (.int 1)) (m2 dgetD (mC (.dct [("add", .int 2), ("sub", .int 2), ("mul", .int 2), ("div", .int 2), ("mod", .int 2), ("glue", .int 2), ("size", .int 1), ("eq", .int 2), ("lt", .int 2), ("le", .int 2), ("and", .int 2), ("or", .int 2), ("not", .int 1), ("there", .int 1), ("if", .int 3), ("else", .int 2)])) (m2 ixD (mV 0) (mC (.int 0))))))))))
def f_has_form : Fn := runF 1 1 (sem_has_form )
theorem ok_has_form {P : Program} {w : World} {K : Fg} {mg : Str → Option Value} {base : Heap} {a : Addr} {fd : FuncData}  (F : Fun K "has_form" "has_form" st_has_form a fd) (B : Bt mg) (BX : Bx mg) (F_is_kind : Df P w K mg base (1) "is_kind" 1 f_is_kind) (F_is_value : Df P w K mg base (2) "is_value" 2 f_is_value) (F_is_name : Df P w K mg base (1) "is_name" 1 f_is_name)   (K_PARTS : Kd w K mg "PARTS" [("add", .int 2), ("sub", .int 2), ("mul", .int 2), ("div", .int 2), ("mod", .int 2), ("glue", .int 2), ("size", .int 1), ("eq", .int 2), ("lt", .int 2), ("le", .int 2), ("and", .int 2), ("or", .int 2), ("not", .int 1), ("there", .int 1), ("if", .int 3), ("else", .int 2)])  :
    FnG P w K mg base (3) a fd ["value"] (spF K (f_has_form )) :=
  fn_pd' (sem := sem_has_form ) (k := 2) F sc_has_form rfl rfl fun cdv A outer s E c hk hr => have hK : K = c.K := hk.symm;
    (pd_seq (pd_sif (PW.pt (pd_wor (pd_tnot (pd_tt hK (pd_isi .tuple hK rfl B.isinstance rfl B.tuple (dv 0) (by decide +kernel)))) (pd_wor (te_eq hK hr (dv 0) (pd_tup pd_an)) (pd_wor1 (pd_tnot (pd_tt hK (pd_isi .str hK rfl B.isinstance rfl B.str (pd_ix hK (dv 0) pd_int (fun _ _ => rfl)) (by decide +kernel))))))))
      (pd_last (pd_ret pd_bl))
      pd_nil)
      (pd_seq (pd_match (pd_ix hK (dv 0) pd_int (fun _ _ => rfl))
      (pmc_cons (pd_last (pd_ret (pd_and hK (pd_eq hK hr (pb_len hK rfl rfl B.len (pd_ac (dv 0) pd_an)) pd_int) (pd_one (pd_call F_is_name hK hr (by omega) rfl (pd_ac (pd_ix hK (dv 0) pd_int (fun _ _ => rfl)) pd_an))))))
      (pmc_cons (pd_last (pd_ret (pd_and hK (pd_eq hK hr (pb_len hK rfl rfl B.len (pd_ac (dv 0) pd_an)) pd_int) (pd_and hK (pd_call F_is_kind hK hr (by omega) rfl (pd_ac (pd_ix hK (dv 0) pd_int (fun _ _ => rfl)) pd_an)) (pd_one (pd_call F_is_value hK hr (by omega) rfl (pd_ac (pd_ix hK (dv 0) pd_int (fun _ _ => rfl)) (pd_ac (pd_ix hK (dv 0) pd_int (fun _ _ => rfl)) pd_an))))))))
      pmc_nil)))
      (pd_last (pd_ret (pd_and hK (pd_kin K_PARTS rfl (pd_ix hK (dv 0) pd_int (fun _ _ => rfl))) (pd_one (pd_eq hK hr (pb_len hK rfl rfl B.len (pd_ac (dv 0) pd_an)) (pd_add hK pd_int (pd_kget K_PARTS hK rfl (pd_ix hK (dv 0) pd_int (fun _ _ => rfl)))))))))))

def p_first_fault : { s : Stmt // s = top 20 } := ⟨_, by conv => rhs; whnf⟩
abbrev st_first_fault : Stmt := p_first_fault.1
theorem sc_first_fault : FnScope ["value", "path", "index", "part", "found"] ["value", "path"] (defScope st_first_fault) := ⟨rfl, rfl, rfl, by decide +kernel, rfl, by decide +kernel, by decide +kernel⟩
def sem_first_fault (t : Fn) : Ms :=
  (sSeq (sIf (mNot (mT (mCall f_has_form (mCons (mV 0) mNil))))
  (sRet (mV 1))
  sNx)
  (sSeq (sFor (mItE (mItT (mCall f_parts_of (mCons (mV 0) mNil)))) (gN2 2 3)
  (sSeq (sSet 4 (mCall t (mCons (mV 3) (mCons (m2 addD (mV 1) (mTup (mCons (mV 2) mNil))) mNil))))
  (sIf (mTb (m1 (fun d => some (.bl (!isNone d))) (mV 4)))
  (sRet (mV 4))
  sNx)))
  (sRet (mC .non))))
def f_first_fault (t : Fn) : Fn := runF 2 5 (sem_first_fault t)
theorem ok_first_fault {P : Program} {w : World} {K : Fg} {mg : Str → Option Value} {base : Heap} {a : Addr} {fd : FuncData} {t : Fn} {n : Nat}  (hn : 10 ≤ n) (F : Fun K "first_fault" "first_fault" st_first_fault a fd) (B : Bt mg) (BX : Bx mg) (F_has_form : Df P w K mg base (3) "has_form" 1 f_has_form) (F_parts_of : Df P w K mg base (2) "parts_of" 1 f_parts_of) (F_first_fault : Df P w K mg base (n) "first_fault" 2 t)     :
    FnG P w K mg base (n + 1) a fd ["value", "path"] (spF K (f_first_fault t)) :=
  fn_pd' (sem := sem_first_fault t) (k := n) F sc_first_fault rfl rfl fun cdv A outer s E c hk hr => have hK : K = c.K := hk.symm;
    (pd_seq (pd_sif (pd_tnot (pd_tt hK (pd_call F_has_form hK hr (by omega) rfl (pd_ac (dv 0) pd_an))))
      (pd_last (pd_ret (dv 1)))
      pd_nil)
      (pd_seq (pd_for PassesOwn.never rfl (pi_eT hK rfl B.enumerate (pd_call F_parts_of hK hr (by omega) rfl (pd_ac (dv 0) pd_an))) (pg_n2 sc_first_fault.nd rfl hK rfl (by first | exact Or.inl rfl | exact Or.inr rfl) rfl (by first | exact Or.inl rfl | exact Or.inr rfl))
      (pd_seq (pd_set (i := 4) sc_first_fault.nd rfl (by first | exact Or.inl rfl | exact Or.inr rfl) (pd_call F_first_fault hK hr (by omega) rfl (pd_ac (dv 3) (pd_ac (pd_add hK (dv 1) (pd_tup (pd_ac (dv 2) pd_an))) pd_an))))
      (pd_last (pd_sif (pd_tnotN (dv 4))
      (pd_last (pd_ret (dv 4)))
      pd_nil))))
      (pd_last (pd_ret pd_non))))
theorem no_first_fault {P : Program} {w : World} {K : Fg} {mg : Str → Option Value} {base : Heap} {a : Addr} {fd : FuncData} {n : Nat} (F : Fun K "first_fault" "first_fault" st_first_fault a fd) : FnG P w K mg base (n + 1) a fd ["value", "path"] (spF K (runF 2 5 fun _ _ => .stuck)) :=
  fn_pd' (k := n) F sc_first_fault rfl rfl fun cdv A outer s E c hk hr => pd_nevers
def g_first_fault : Nat → Fn
  | 0 => runF 2 5 fun _ _ => .stuck
  | i + 1 => f_first_fault (g_first_fault i)

def p_node_count : { s : Stmt // s = top 21 } := ⟨_, by conv => rhs; whnf⟩
abbrev st_node_count : Stmt := p_node_count.1
theorem sc_node_count : FnScope ["expression", "part"] ["expression"] (defScope st_node_count) := ⟨rfl, rfl, rfl, by decide +kernel, rfl, by decide +kernel, by decide +kernel⟩
def sem_node_count (t : Fn) : Ms :=
  (sRet (m2 addD (mC (.int 1)) (mB sumD (mCons (mPub (mLc [1] (mItT (mCall f_parts_of (mCons (mV 0) mNil))) (gN 1) (fun _ m => .ok true m) (mCall t (mCons (mV 1) mNil)))) mNil))))
def f_node_count (t : Fn) : Fn := runF 1 2 (sem_node_count t)
theorem ok_node_count {P : Program} {w : World} {K : Fg} {mg : Str → Option Value} {base : Heap} {a : Addr} {fd : FuncData} {t : Fn} {n : Nat}  (hn : 10 ≤ n) (F : Fun K "node_count" "node_count" st_node_count a fd) (B : Bt mg) (BX : Bx mg) (F_parts_of : Df P w K mg base (2) "parts_of" 1 f_parts_of) (F_node_count : Df P w K mg base (n) "node_count" 1 t)     :
    FnG P w K mg base (n + 1) a fd ["expression"] (spF K (f_node_count t)) :=
  fn_pd' (sem := sem_node_count t) (k := n) F sc_node_count rfl rfl fun cdv A outer s E c hk hr => have hK : K = c.K := hk.symm;
    (pd_last (pd_ret (pd_add hK pd_int (pb_sum hK rfl rfl BX.sum (pd_ac (pd_pub (pd_lc (own := [("part", 1)]) (hc := rfl) (hN := sc_node_count.nd) (hi := (pi_t hK (pd_call F_parts_of hK hr (by omega) rfl (pd_ac (dv 0) pd_an)))) (ok := blkOk_by (N := ["expression", "part"]) (sc := defScope st_node_count) (by decide +kernel)) (hg := fun _ _ _ _ _ => (pg_n sc_node_count.nd rfl (by first | exact Or.inl rfl | exact Or.inr rfl))) (ht := fun _ _ _ _ _ => pts_y) (he := fun _ _ _ _ _ => (pd_call F_node_count hK hr (by omega) rfl (pd_ac (dv 1) pd_an))))) pd_an)))))
theorem no_node_count {P : Program} {w : World} {K : Fg} {mg : Str → Option Value} {base : Heap} {a : Addr} {fd : FuncData} {n : Nat} (F : Fun K "node_count" "node_count" st_node_count a fd) : FnG P w K mg base (n + 1) a fd ["expression"] (spF K (runF 1 2 fun _ _ => .stuck)) :=
  fn_pd' (k := n) F sc_node_count rfl rfl fun cdv A outer s E c hk hr => pd_nevers
def g_node_count : Nat → Fn
  | 0 => runF 1 2 fun _ _ => .stuck
  | i + 1 => f_node_count (g_node_count i)

def p_level_count : { s : Stmt // s = top 22 } := ⟨_, by conv => rhs; whnf⟩
abbrev st_level_count : Stmt := p_level_count.1
theorem sc_level_count : FnScope ["expression", "part"] ["expression"] (defScope st_level_count) := ⟨rfl, rfl, rfl, by decide +kernel, rfl, by decide +kernel, by decide +kernel⟩
def sem_level_count (t : Fn) : Ms :=
  (sRet (m2 addD (mC (.int 1)) (m2 maxDfD (mPub (mLc [1] (mItT (mCall f_parts_of (mCons (mV 0) mNil))) (gN 1) (fun _ m => .ok true m) (mCall t (mCons (mV 1) mNil)))) (mC (.int 0)))))
def f_level_count (t : Fn) : Fn := runF 1 2 (sem_level_count t)
theorem ok_level_count {P : Program} {w : World} {K : Fg} {mg : Str → Option Value} {base : Heap} {a : Addr} {fd : FuncData} {t : Fn} {n : Nat}  (hn : 10 ≤ n) (F : Fun K "level_count" "level_count" st_level_count a fd) (B : Bt mg) (BX : Bx mg) (F_parts_of : Df P w K mg base (2) "parts_of" 1 f_parts_of) (F_level_count : Df P w K mg base (n) "level_count" 1 t)     :
    FnG P w K mg base (n + 1) a fd ["expression"] (spF K (f_level_count t)) :=
  fn_pd' (sem := sem_level_count t) (k := n) F sc_level_count rfl rfl fun cdv A outer s E c hk hr => have hK : K = c.K := hk.symm;
    (pd_last (pd_ret (pd_add hK pd_int (pb_maxDf hK rfl hr rfl B.max (pd_pub (pd_lc (own := [("part", 1)]) (hc := rfl) (hN := sc_level_count.nd) (hi := (pi_t hK (pd_call F_parts_of hK hr (by omega) rfl (pd_ac (dv 0) pd_an)))) (ok := blkOk_by (N := ["expression", "part"]) (sc := defScope st_level_count) (by decide +kernel)) (hg := fun _ _ _ _ _ => (pg_n sc_level_count.nd rfl (by first | exact Or.inl rfl | exact Or.inr rfl))) (ht := fun _ _ _ _ _ => pts_y) (he := fun _ _ _ _ _ => (pd_call F_level_count hK hr (by omega) rfl (pd_ac (dv 1) pd_an))))) pd_int))))
theorem no_level_count {P : Program} {w : World} {K : Fg} {mg : Str → Option Value} {base : Heap} {a : Addr} {fd : FuncData} {n : Nat} (F : Fun K "level_count" "level_count" st_level_count a fd) : FnG P w K mg base (n + 1) a fd ["expression"] (spF K (runF 1 2 fun _ _ => .stuck)) :=
  fn_pd' (k := n) F sc_level_count rfl rfl fun cdv A outer s E c hk hr => pd_nevers
def g_level_count : Nat → Fn
  | 0 => runF 1 2 fun _ _ => .stuck
  | i + 1 => f_level_count (g_level_count i)

def p_fault_in : { s : Stmt // s = top 23 } := ⟨_, by conv => rhs; whnf⟩
abbrev st_fault_in : Stmt := p_fault_in.1
theorem sc_fault_in : FnScope ["expression", "found"] ["expression"] (defScope st_fault_in) := ⟨rfl, rfl, rfl, by decide +kernel, rfl, by decide +kernel, by decide +kernel⟩
def sem_fault_in : Ms :=
  (sSeq (sSet 1 (mCall (g_first_fault 9) (mCons (mV 0) (mCons (mTup mNil) mNil))))
  (sSeq (sIf (mTb (m1 (fun d => some (.bl (!isNone d))) (mV 1)))
  (sRet (mV 1))
  sNx)
  (sRet (mIf (mOr (mTb (m2 gtD (mCall (g_node_count 9) (mCons (mV 0) mNil)) (mC (.int 40)))) (mTb (m2 gtD (mCall (g_level_count 9) (mCons (mV 0) mNil)) (mC (.int 8))))) (mTup mNil) (mC .non)))))
def f_fault_in : Fn := runF 1 2 (sem_fault_in )
theorem ok_fault_in {P : Program} {w : World} {K : Fg} {mg : Str → Option Value} {base : Heap} {a : Addr} {fd : FuncData}  (F : Fun K "fault_in" "fault_in" st_fault_in a fd) (B : Bt mg) (BX : Bx mg) (F_first_fault : Df P w K mg base (20) "first_fault" 2 (g_first_fault 9)) (F_node_count : Df P w K mg base (20) "node_count" 1 (g_node_count 9)) (F_level_count : Df P w K mg base (20) "level_count" 1 (g_level_count 9))  (G_MOST_LEVELS : Gc K mg "MOST_LEVELS" (.int 8)) (G_MOST_NODES : Gc K mg "MOST_NODES" (.int 40))   :
    FnG P w K mg base (40) a fd ["expression"] (spF K (f_fault_in )) :=
  fn_pd' (sem := sem_fault_in ) (k := 39) F sc_fault_in rfl rfl fun cdv A outer s E c hk hr => have hK : K = c.K := hk.symm;
    (pd_seq (pd_set (i := 1) sc_fault_in.nd rfl (by first | exact Or.inl rfl | exact Or.inr rfl) (pd_call F_first_fault hK hr (by omega) rfl (pd_ac (dv 0) (pd_ac (pd_tup pd_an) pd_an))))
      (pd_seq (pd_sif (pd_tnotN (dv 1))
      (pd_last (pd_ret (dv 1)))
      pd_nil)
      (pd_last (pd_ret (pd_if (PW.pt (pd_wor (te_gt (pd_call F_node_count hK hr (by omega) rfl (pd_ac (dv 0) pd_an)) (pd_gc hK G_MOST_NODES rfl)) (pd_wor1 (te_gt (pd_call F_level_count hK hr (by omega) rfl (pd_ac (dv 0) pd_an)) (pd_gc hK G_MOST_LEVELS rfl))))) (pd_tup pd_an) pd_non)))))

def p_check_expression : { s : Stmt // s = top 24 } := ⟨_, by conv => rhs; whnf⟩
abbrev st_check_expression : Stmt := p_check_expression.1
theorem sc_check_expression : FnScope ["expression", "path"] ["expression"] (defScope st_check_expression) := ⟨rfl, rfl, rfl, by decide +kernel, rfl, by decide +kernel, by decide +kernel⟩
def sem_check_expression : Ms :=
  (sSeq (sSet 1 (mCall f_fault_in (mCons (mV 0) mNil)))
  (sIf (mTb (m1 (fun d => some (.bl (!isNone d))) (mV 1)))
  (fun _ _ => .stuck)
  sNx))
def f_check_expression : Fn := runF 1 2 (sem_check_expression )
theorem ok_check_expression {P : Program} {w : World} {K : Fg} {mg : Str → Option Value} {base : Heap} {a : Addr} {fd : FuncData}  (F : Fun K "check_expression" "check_expression" st_check_expression a fd) (B : Bt mg) (BX : Bx mg) (F_fault_in : Df P w K mg base (40) "fault_in" 1 f_fault_in)     :
    FnG P w K mg base (41) a fd ["expression"] (spF K (f_check_expression )) :=
  fn_pd' (sem := sem_check_expression ) (k := 40) F sc_check_expression rfl rfl fun cdv A outer s E c hk hr => have hK : K = c.K := hk.symm;
    (pd_seq (pd_set (i := 1) sc_check_expression.nd rfl (by first | exact Or.inl rfl | exact Or.inr rfl) (pd_call F_fault_in hK hr (by omega) rfl (pd_ac (dv 0) pd_an)))
      (pd_last (pd_sif (pd_tnotN (dv 1))
      (pd_nevers)
      pd_nil)))

def p_kind_of_operation : { s : Stmt // s = top 25 } := ⟨_, by conv => rhs; whnf⟩
abbrev st_kind_of_operation : Stmt := p_kind_of_operation.1
theorem sc_kind_of_operation : FnScope ["word", "kinds", "kind"] ["word", "kinds"] (defScope st_kind_of_operation) := ⟨rfl, rfl, rfl, by decide +kernel, rfl, by decide +kernel, by decide +kernel⟩
def sem_kind_of_operation : Ms :=
  (sSeq (sIf (mTb (m2 inD (mV 0) (mC (.tup [.str "add", .str "sub", .str "mul", .str "div", .str "mod"]))))
  (sRet (mIf (mTb (m2 eqD (mV 1) (mPub (mLst (mCons (mC (.str "int")) (mCons (mC (.str "int")) mNil)))))) (mC (.str "int")) (mC .non)))
  sNx)
  (sSeq (sIf (mTb (m2 inD (mV 0) (mC (.tup [.str "eq", .str "lt", .str "le"]))))
  (sRet (mIf (mTb (m2 eqD (m2 ixD (mV 1) (mC (.int 0))) (m2 ixD (mV 1) (mC (.int 1))))) (mC (.str "bool")) (mC .non)))
  sNx)
  (sSeq (sMatch (mV 0) (("glue", (sRet (mIf (mTb (m2 eqD (mV 1) (mPub (mLst (mCons (mC (.str "text")) (mCons (mC (.str "text")) mNil)))))) (mC (.str "text")) (mC .non)))) :: (("size", (sRet (mIf (mTb (m2 eqD (mV 1) (mPub (mLst (mCons (mC (.str "text")) mNil))))) (mC (.str "int")) (mC .non)))) :: (("there", (sRet (mC (.str "bool")))) :: (("if", (sRet (mIf (mAnd (mTb (m2 eqD (m2 ixD (mV 1) (mC (.int 0))) (mC (.str "bool")))) (mTb (m2 eqD (m2 ixD (mV 1) (mC (.int 1))) (m2 ixD (mV 1) (mC (.int 2)))))) (m2 ixD (mV 1) (mC (.int 1))) (mC .non)))) :: (("else", (sRet (mIf (mTb (m2 eqD (m2 ixD (mV 1) (mC (.int 0))) (m2 ixD (mV 1) (mC (.int 1))))) (m2 ixD (mV 1) (mC (.int 0))) (mC .non)))) :: []))))))
  (sRet (mIf (mT (mB allD (mCons (mPub (mLc [2] (mItL (mV 1)) (gN 2) (fun _ m => .ok true m) (m2 eqD (mV 2) (mC (.str "bool"))))) mNil))) (mC (.str "bool")) (mC .non))))))
def f_kind_of_operation : Fn := runF 2 3 (sem_kind_of_operation )
theorem ok_kind_of_operation {P : Program} {w : World} {K : Fg} {mg : Str → Option Value} {base : Heap} {a : Addr} {fd : FuncData}  (F : Fun K "kind_of_operation" "kind_of_operation" st_kind_of_operation a fd) (B : Bt mg) (BX : Bx mg)   (G_COMPARISONS : Gc K mg "COMPARISONS" (.tup [.str "eq", .str "lt", .str "le"])) (G_NUMBERS : Gc K mg "NUMBERS" (.tup [.str "add", .str "sub", .str "mul", .str "div", .str "mod"]))   :
    FnG P w K mg base (1) a fd ["word", "kinds"] (spF K (f_kind_of_operation )) :=
  fn_pd' (sem := sem_kind_of_operation ) (k := 0) F sc_kind_of_operation rfl rfl fun cdv A outer s E c hk hr => have hK : K = c.K := hk.symm;
    (pd_seq (pd_sif (te_in hK (dv 0) (pd_gc hK G_NUMBERS rfl))
      (pd_last (pd_ret (pd_if (te_eq hK hr (dv 1) (pd_pub (pd_lst (pd_ac pd_str (pd_ac pd_str pd_an))))) pd_str pd_non)))
      pd_nil)
      (pd_seq (pd_sif (te_in hK (dv 0) (pd_gc hK G_COMPARISONS rfl))
      (pd_last (pd_ret (pd_if (te_eq hK hr (pd_ix hK (dv 1) pd_int (fun _ _ => rfl)) (pd_ix hK (dv 1) pd_int (fun _ _ => rfl))) pd_str pd_non)))
      pd_nil)
      (pd_seq (pd_match (dv 0)
      (pmc_cons (pd_last (pd_ret (pd_if (te_eq hK hr (dv 1) (pd_pub (pd_lst (pd_ac pd_str (pd_ac pd_str pd_an))))) pd_str pd_non)))
      (pmc_cons (pd_last (pd_ret (pd_if (te_eq hK hr (dv 1) (pd_pub (pd_lst (pd_ac pd_str pd_an)))) pd_str pd_non)))
      (pmc_cons (pd_last (pd_ret pd_str))
      (pmc_cons (pd_last (pd_ret (pd_if (PW.pt (pd_wand (te_eq hK hr (pd_ix hK (dv 1) pd_int (fun _ _ => rfl)) pd_str) (pd_wand1 (te_eq hK hr (pd_ix hK (dv 1) pd_int (fun _ _ => rfl)) (pd_ix hK (dv 1) pd_int (fun _ _ => rfl)))))) (pd_ix hK (dv 1) pd_int (fun _ _ => rfl)) pd_non)))
      (pmc_cons (pd_last (pd_ret (pd_if (te_eq hK hr (pd_ix hK (dv 1) pd_int (fun _ _ => rfl)) (pd_ix hK (dv 1) pd_int (fun _ _ => rfl))) (pd_ix hK (dv 1) pd_int (fun _ _ => rfl)) pd_non)))
      pmc_nil))))))
      (pd_last (pd_ret (pd_if (pd_tt hK (pb_all hK rfl rfl B.all (pd_ac (pd_pub (pd_lc (own := [("kind", 2)]) (hc := rfl) (hN := sc_kind_of_operation.nd) (hi := (pi_l hK (dv 1))) (ok := blkOk_by (N := ["word", "kinds", "kind"]) (sc := defScope st_kind_of_operation) (by decide +kernel)) (hg := fun _ _ _ _ _ => (pg_n sc_kind_of_operation.nd rfl (by first | exact Or.inl rfl | exact Or.inr rfl))) (ht := fun _ _ _ _ _ => pts_y) (he := fun _ _ _ _ _ => (pd_eq hK hr (dv 2) pd_str)))) pd_an))) pd_str pd_non))))))

def p_value_of_numbers : { s : Stmt // s = top 26 } := ⟨_, by conv => rhs; whnf⟩
abbrev st_value_of_numbers : Stmt := p_value_of_numbers.1
theorem sc_value_of_numbers : FnScope ["word", "one", "other"] ["word", "one", "other"] (defScope st_value_of_numbers) := ⟨rfl, rfl, rfl, by decide +kernel, rfl, by decide +kernel, by decide +kernel⟩
def sem_value_of_numbers : Ms :=
  (sSeq (sMatch (mV 0) (("add", (sRet (m2 addD (mV 1) (mV 2)))) :: (("sub", (sRet (m2 subD (mV 1) (mV 2)))) :: (("mul", (sRet (m2 mulW (mV 1) (mV 2)))) :: []))))
  (sSeq (sIf (mTb (m2 eqD (mV 2) (mC (.int 0))))
  (sRet (mC .non))
  sNx)
  (sRet (mIf (mTb (m2 eqD (mV 0) (mC (.str "div")))) (m2 fdivW (mV 1) (mV 2)) (m2 modW (mB intD (mCons (mV 1) mNil)) (mV 2))))))
def f_value_of_numbers : Fn := runF 3 3 (sem_value_of_numbers )
theorem ok_value_of_numbers {P : Program} {w : World} {K : Fg} {mg : Str → Option Value} {base : Heap} {a : Addr} {fd : FuncData}  (F : Fun K "value_of_numbers" "value_of_numbers" st_value_of_numbers a fd) (B : Bt mg) (BX : Bx mg)      :
    FnG P w K mg base (1) a fd ["word", "one", "other"] (spF K (f_value_of_numbers )) :=
  fn_pd' (sem := sem_value_of_numbers ) (k := 0) F sc_value_of_numbers rfl rfl fun cdv A outer s E c hk hr => have hK : K = c.K := hk.symm;
    (pd_seq (pd_match (dv 0)
      (pmc_cons (pd_last (pd_ret (pd_add hK (dv 1) (dv 2))))
      (pmc_cons (pd_last (pd_ret (pd_sub (dv 1) (dv 2))))
      (pmc_cons (pd_last (pd_ret (pd_mulW (dv 1) (dv 2))))
      pmc_nil))))
      (pd_seq (pd_sif (te_eq hK hr (dv 2) pd_int)
      (pd_last (pd_ret pd_non))
      pd_nil)
      (pd_last (pd_ret (pd_if (te_eq hK hr (dv 0) pd_str) (pd_fdivW (dv 1) (dv 2)) (pd_modW (pb_int hK rfl rfl B.int (pd_ac (dv 1) pd_an)) (dv 2)))))))

def p_value_of_operation : { s : Stmt // s = top 27 } := ⟨_, by conv => rhs; whnf⟩
abbrev st_value_of_operation : Stmt := p_value_of_operation.1
theorem sc_value_of_operation : FnScope ["word", "values", "strong", "value"] ["word", "values"] (defScope st_value_of_operation) := ⟨rfl, rfl, rfl, by decide +kernel, rfl, by decide +kernel, by decide +kernel⟩
def sem_value_of_operation : Ms :=
  (sSeq (sMatch (mV 0) (("there", (sRet (m1 (fun d => some (.bl (!isNone d))) (m2 ixD (mV 1) (mC (.int 0)))))) :: (("if", (sRet (mIf (mTb (m1 (isBD true) (m2 ixD (mV 1) (mC (.int 0))))) (m2 ixD (mV 1) (mC (.int 1))) (m2 ixD (mV 1) (mC (.int 2)))))) :: (("else", (sRet (mIf (mTb (m1 (fun d => some (.bl (isNone d))) (m2 ixD (mV 1) (mC (.int 0))))) (m2 ixD (mV 1) (mC (.int 1))) (m2 ixD (mV 1) (mC (.int 0)))))) :: (("and", (sSeq (sSet 2 (m2 eqD (mV 0) (mC (.str "or"))))
  (sSeq (sIf (mTb (m2 inD (mV 2) (mV 1)))
  (sRet (mV 2))
  sNx)
  (sRet (mIf (mTb (m2 inD (mC .non) (mV 1))) (mC .non) (m1 (fun d => (truD d).map fun b => .bl (!b)) (mV 2))))))) :: ("or", (sSeq (sSet 2 (m2 eqD (mV 0) (mC (.str "or"))))
  (sSeq (sIf (mTb (m2 inD (mV 2) (mV 1)))
  (sRet (mV 2))
  sNx)
  (sRet (mIf (mTb (m2 inD (mC .non) (mV 1))) (mC .non) (m1 (fun d => (truD d).map fun b => .bl (!b)) (mV 2))))))) :: [])))))
  (sSeq (sIf (mT (mB anyD (mCons (mPub (mLc [3] (mItL (mV 1)) (gN 3) (fun _ m => .ok true m) (m1 (fun d => some (.bl (isNone d))) (mV 3)))) mNil)))
  (sRet (mC .non))
  sNx)
  (sSeq (sIf (mTb (m2 inD (mV 0) (mC (.tup [.str "add", .str "sub", .str "mul", .str "div", .str "mod"]))))
  (sRet (mCall f_value_of_numbers (mCons (mV 0) (mCons (m2 ixD (mV 1) (mC (.int 0))) (mCons (m2 ixD (mV 1) (mC (.int 1))) mNil)))))
  sNx)
  (sSeq (sMatch (mV 0) (("glue", (sRet (m2 addD (m2 ixD (mV 1) (mC (.int 0))) (m2 ixD (mV 1) (mC (.int 1)))))) :: (("size", (sRet (mB lenD (mCons (m2 ixD (mV 1) (mC (.int 0))) mNil)))) :: (("not", (sRet (m1 (fun d => (truD d).map fun b => .bl (!b)) (m2 ixD (mV 1) (mC (.int 0)))))) :: (("eq", (sRet (m2 eqD (m2 ixD (mV 1) (mC (.int 0))) (m2 ixD (mV 1) (mC (.int 1)))))) :: (("lt", (sRet (m2 ltV (m2 ixD (mV 1) (mC (.int 0))) (m2 ixD (mV 1) (mC (.int 1)))))) :: []))))))
  (sRet (m2 leV (m2 ixD (mV 1) (mC (.int 0))) (m2 ixD (mV 1) (mC (.int 1)))))))))
def f_value_of_operation : Fn := runF 2 4 (sem_value_of_operation )
theorem ok_value_of_operation {P : Program} {w : World} {K : Fg} {mg : Str → Option Value} {base : Heap} {a : Addr} {fd : FuncData}  (F : Fun K "value_of_operation" "value_of_operation" st_value_of_operation a fd) (B : Bt mg) (BX : Bx mg) (F_value_of_numbers : Df P w K mg base (1) "value_of_numbers" 3 f_value_of_numbers)  (G_NUMBERS : Gc K mg "NUMBERS" (.tup [.str "add", .str "sub", .str "mul", .str "div", .str "mod"]))   :
    FnG P w K mg base (2) a fd ["word", "values"] (spF K (f_value_of_operation )) :=
  fn_pd' (sem := sem_value_of_operation ) (k := 1) F sc_value_of_operation rfl rfl fun cdv A outer s E c hk hr => have hK : K = c.K := hk.symm;
    (pd_seq (pd_match (dv 0)
      (pmc_cons (pd_last (pd_ret (pd_notN (pd_ix hK (dv 1) pd_int (fun _ _ => rfl)))))
      (pmc_cons (pd_last (pd_ret (pd_if (te_isB (pd_ix hK (dv 1) pd_int (fun _ _ => rfl))) (pd_ix hK (dv 1) pd_int (fun _ _ => rfl)) (pd_ix hK (dv 1) pd_int (fun _ _ => rfl)))))
      (pmc_cons (pd_last (pd_ret (pd_if (pd_tisN (pd_ix hK (dv 1) pd_int (fun _ _ => rfl))) (pd_ix hK (dv 1) pd_int (fun _ _ => rfl)) (pd_ix hK (dv 1) pd_int (fun _ _ => rfl)))))
      (pmc_or (pd_seq (pd_set (i := 2) sc_value_of_operation.nd rfl (by first | exact Or.inl rfl | exact Or.inr rfl) (pd_eq hK hr (dv 0) pd_str))
      (pd_seq (pd_sif (te_in hK (dv 2) (dv 1))
      (pd_last (pd_ret (dv 2)))
      pd_nil)
      (pd_last (pd_ret (pd_if (te_in hK pd_non (dv 1)) pd_non (pd_not hK (dv 2)))))))
      pmc_nil)))))
      (pd_seq (pd_sif (pd_tt hK (pb_any hK rfl rfl B.any (pd_ac (pd_pub (pd_lc (own := [("value", 3)]) (hc := rfl) (hN := sc_value_of_operation.nd) (hi := (pi_l hK (dv 1))) (ok := blkOk_by (N := ["word", "values", "strong", "value"]) (sc := defScope st_value_of_operation) (by decide +kernel)) (hg := fun _ _ _ _ _ => (pg_n sc_value_of_operation.nd rfl (by first | exact Or.inl rfl | exact Or.inr rfl))) (ht := fun _ _ _ _ _ => pts_y) (he := fun _ _ _ _ _ => (pd_isN (dv 3))))) pd_an)))
      (pd_last (pd_ret pd_non))
      pd_nil)
      (pd_seq (pd_sif (te_in hK (dv 0) (pd_gc hK G_NUMBERS rfl))
      (pd_last (pd_ret (pd_call F_value_of_numbers hK hr (by omega) rfl (pd_ac (dv 0) (pd_ac (pd_ix hK (dv 1) pd_int (fun _ _ => rfl)) (pd_ac (pd_ix hK (dv 1) pd_int (fun _ _ => rfl)) pd_an))))))
      pd_nil)
      (pd_seq (pd_match (dv 0)
      (pmc_cons (pd_last (pd_ret (pd_add hK (pd_ix hK (dv 1) pd_int (fun _ _ => rfl)) (pd_ix hK (dv 1) pd_int (fun _ _ => rfl)))))
      (pmc_cons (pd_last (pd_ret (pb_len hK rfl rfl B.len (pd_ac (pd_ix hK (dv 1) pd_int (fun _ _ => rfl)) pd_an))))
      (pmc_cons (pd_last (pd_ret (pd_not hK (pd_ix hK (dv 1) pd_int (fun _ _ => rfl)))))
      (pmc_cons (pd_last (pd_ret (pd_eq hK hr (pd_ix hK (dv 1) pd_int (fun _ _ => rfl)) (pd_ix hK (dv 1) pd_int (fun _ _ => rfl)))))
      (pmc_cons (pd_last (pd_ret (pd_ltV hr (pd_ix hK (dv 1) pd_int (fun _ _ => rfl)) (pd_ix hK (dv 1) pd_int (fun _ _ => rfl)))))
      pmc_nil))))))
      (pd_last (pd_ret (pd_leV hr (pd_ix hK (dv 1) pd_int (fun _ _ => rfl)) (pd_ix hK (dv 1) pd_int (fun _ _ => rfl)))))))))

def p_shortened : { s : Stmt // s = top 28 } := ⟨_, by conv => rhs; whnf⟩
abbrev st_shortened : Stmt := p_shortened.1
theorem sc_shortened : FnScope ["word", "parts", "first", "strong", "weak", "part", "other"] ["word", "parts"] (defScope st_shortened) := ⟨rfl, rfl, rfl, by decide +kernel, rfl, by decide +kernel, by decide +kernel⟩
def sem_shortened : Ms :=
  (sSeq (sSet 2 (m2 ixD (mV 1) (mC (.int 0))))
  (sSeq (sIf (mTb (m2 inD (mV 0) (mTup (mCons (mC (.str "and")) (mCons (mC (.str "or")) mNil)))))
  (sSeq (sPar [3, 4] (oDat (mTup (mCons (mC (.str "value")) (mCons (mC (.str "bool")) (mCons (m2 eqD (mV 0) (mC (.str "or"))) mNil)))) (oDat (mTup (mCons (mC (.str "value")) (mCons (mC (.str "bool")) (mCons (m2 eqD (mV 0) (mC (.str "and"))) mNil)))) oNil)))
  (sFor (mItT (mTup (mCons (mTup (mCons (mV 2) (mCons (m2 ixD (mV 1) (mC (.int 1))) mNil))) (mCons (mTup (mCons (m2 ixD (mV 1) (mC (.int 1))) (mCons (mV 2) mNil))) mNil)))) (gN2 5 6)
  (sSeq (sIf (mTb (m2 eqD (mV 5) (mV 4)))
  (sRet (mV 6))
  sNx)
  (sIf (mTb (m2 eqD (mV 5) (mV 3)))
  (sRet (mV 3))
  sNx))))
  sNx)
  (sSeq (sIf (mAnd (mTb (m2 eqD (mV 0) (mC (.str "not")))) (mTb (m2 eqD (m2 ixD (mV 2) (mC (.int 0))) (mC (.str "not")))))
  (sRet (m2 ixD (mV 2) (mC (.int 1))))
  sNx)
  (sSeq (sIf (mAnd (mTb (m2 eqD (mV 0) (mC (.str "if")))) (mTb (m2 eqD (m2 ixD (mV 2) (mC (.int 0))) (mC (.str "value")))))
  (sRet (mIf (mTb (m1 (isBD true) (m2 ixD (mV 2) (mC (.int 2))))) (m2 ixD (mV 1) (mC (.int 1))) (m2 ixD (mV 1) (mC (.int 2)))))
  sNx)
  (sSeq (sIf (mAnd (mTb (m2 eqD (mV 0) (mC (.str "else")))) (mTb (m2 eqD (m2 ixD (mV 2) (mC (.int 0))) (mC (.str "value")))))
  (sRet (mIf (mTb (m1 (fun d => some (.bl (isNone d))) (m2 ixD (mV 2) (mC (.int 2))))) (m2 ixD (mV 1) (mC (.int 1))) (mV 2)))
  sNx)
  (sRet (mTup (mCons (mV 0) (mStar (mV 1) mNil)))))))))
def f_shortened : Fn := runF 2 7 (sem_shortened )
theorem ok_shortened {P : Program} {w : World} {K : Fg} {mg : Str → Option Value} {base : Heap} {a : Addr} {fd : FuncData}  (F : Fun K "shortened" "shortened" st_shortened a fd) (B : Bt mg) (BX : Bx mg)      :
    FnG P w K mg base (1) a fd ["word", "parts"] (spF K (f_shortened )) :=
  fn_pd' (sem := sem_shortened ) (k := 0) F sc_shortened rfl rfl fun cdv A outer s E c hk hr => have hK : K = c.K := hk.symm;
    (pd_seq (pd_set (i := 2) sc_shortened.nd rfl (by first | exact Or.inl rfl | exact Or.inr rfl) (pd_ix hK (dv 1) pd_int (fun _ _ => rfl)))
      (pd_seq (pd_sif (te_in hK (dv 0) (pd_tup (pd_ac pd_str (pd_ac pd_str pd_an))))
      (pd_seq (pd_par2 (i := 3) (k := 4) rfl sc_shortened.nd rfl rfl (by decide) rfl rfl (po_d (pd_tup (pd_ac pd_str (pd_ac pd_str (pd_ac (pd_eq hK hr (dv 0) pd_str) pd_an)))) (po_d (pd_tup (pd_ac pd_str (pd_ac pd_str (pd_ac (pd_eq hK hr (dv 0) pd_str) pd_an)))) po_n)) (by rfl))
      (pd_last (pd_for PassesOwn.never rfl (pi_t hK (pd_tup (pd_ac (pd_tup (pd_ac (dv 2) (pd_ac (pd_ix hK (dv 1) pd_int (fun _ _ => rfl)) pd_an))) (pd_ac (pd_tup (pd_ac (pd_ix hK (dv 1) pd_int (fun _ _ => rfl)) (pd_ac (dv 2) pd_an))) pd_an)))) (pg_n2 sc_shortened.nd rfl hK rfl (by first | exact Or.inl rfl | exact Or.inr rfl) rfl (by first | exact Or.inl rfl | exact Or.inr rfl))
      (pd_seq (pd_sif (te_eq hK hr (dv 5) (dv 4))
      (pd_last (pd_ret (dv 6)))
      pd_nil)
      (pd_last (pd_sif (te_eq hK hr (dv 5) (dv 3))
      (pd_last (pd_ret (dv 3)))
      pd_nil))))))
      pd_nil)
      (pd_seq (pd_sif (PW.pt (pd_wand (te_eq hK hr (dv 0) pd_str) (pd_wand1 (te_eq hK hr (pd_ix hK (dv 2) pd_int (fun _ _ => rfl)) pd_str))))
      (pd_last (pd_ret (pd_ix hK (dv 2) pd_int (fun _ _ => rfl))))
      pd_nil)
      (pd_seq (pd_sif (PW.pt (pd_wand (te_eq hK hr (dv 0) pd_str) (pd_wand1 (te_eq hK hr (pd_ix hK (dv 2) pd_int (fun _ _ => rfl)) pd_str))))
      (pd_last (pd_ret (pd_if (te_isB (pd_ix hK (dv 2) pd_int (fun _ _ => rfl))) (pd_ix hK (dv 1) pd_int (fun _ _ => rfl)) (pd_ix hK (dv 1) pd_int (fun _ _ => rfl)))))
      pd_nil)
      (pd_seq (pd_sif (PW.pt (pd_wand (te_eq hK hr (dv 0) pd_str) (pd_wand1 (te_eq hK hr (pd_ix hK (dv 2) pd_int (fun _ _ => rfl)) pd_str))))
      (pd_last (pd_ret (pd_if (pd_tisN (pd_ix hK (dv 2) pd_int (fun _ _ => rfl))) (pd_ix hK (dv 1) pd_int (fun _ _ => rfl)) (dv 2))))
      pd_nil)
      (pd_last (pd_ret (pd_tup (pd_ac (dv 0) (pd_as hK (dv 1) pd_an))))))))))

def p_folded_of : { s : Stmt // s = top 29 } := ⟨_, by conv => rhs; whnf⟩
abbrev st_folded_of : Stmt := p_folded_of.1
theorem sc_folded_of : FnScope ["expression", "word", "parts", "part", "kind"] ["expression"] (defScope st_folded_of) := ⟨rfl, rfl, rfl, by decide +kernel, rfl, by decide +kernel, by decide +kernel⟩
def sem_folded_of (t : Fn) : Ms :=
  (sSeq (sIf (mNot (mT (mCall f_is_operation (mCons (mV 0) mNil))))
  (sRet (mV 0))
  sNx)
  (sSeq (sPar [1, 2] (oDat (m2 ixD (mV 0) (mC (.int 0))) (oDat (mPub (mLc [3] (mItT (mCall f_parts_of (mCons (mV 0) mNil))) (gN 3) (fun _ m => .ok true m) (mCall t (mCons (mV 3) mNil)))) oNil)))
  (sSeq (sIf (mT (mB allD (mCons (mPub (mLc [3] (mItL (mV 2)) (gN 3) (fun _ m => .ok true m) (m2 eqD (m2 ixD (mV 3) (mC (.int 0))) (mC (.str "value"))))) mNil)))
  (sSeq (sSet 4 (mCall f_kind_of_operation (mCons (mV 1) (mCons (mPub (mLc [3] (mItL (mV 2)) (gN 3) (fun _ m => .ok true m) (m2 ixD (mV 3) (mC (.int 1))))) mNil))))
  (sIf (mTb (m1 (fun d => some (.bl (!isNone d))) (mV 4)))
  (sRet (mTup (mCons (mC (.str "value")) (mCons (mV 4) (mCons (mCall f_value_of_operation (mCons (mV 1) (mCons (mPub (mLc [3] (mItL (mV 2)) (gN 3) (fun _ m => .ok true m) (m2 ixD (mV 3) (mC (.int 2))))) mNil))) mNil)))))
  sNx))
  sNx)
  (sRet (mCall f_shortened (mCons (mV 1) (mCons (mV 2) mNil)))))))
def f_folded_of (t : Fn) : Fn := runF 1 5 (sem_folded_of t)
theorem ok_folded_of {P : Program} {w : World} {K : Fg} {mg : Str → Option Value} {base : Heap} {a : Addr} {fd : FuncData} {t : Fn} {n : Nat}  (hn : 10 ≤ n) (F : Fun K "folded_of" "folded_of" st_folded_of a fd) (B : Bt mg) (BX : Bx mg) (F_is_operation : Df P w K mg base (1) "is_operation" 1 f_is_operation) (F_parts_of : Df P w K mg base (2) "parts_of" 1 f_parts_of) (F_folded_of : Df P w K mg base (n) "folded_of" 1 t) (F_kind_of_operation : Df P w K mg base (1) "kind_of_operation" 2 f_kind_of_operation) (F_value_of_operation : Df P w K mg base (2) "value_of_operation" 2 f_value_of_operation) (F_shortened : Df P w K mg base (1) "shortened" 2 f_shortened)     :
    FnG P w K mg base (n + 1) a fd ["expression"] (spF K (f_folded_of t)) :=
  fn_pd' (sem := sem_folded_of t) (k := n) F sc_folded_of rfl rfl fun cdv A outer s E c hk hr => have hK : K = c.K := hk.symm;
    (pd_seq (pd_sif (pd_tnot (pd_tt hK (pd_call F_is_operation hK hr (by omega) rfl (pd_ac (dv 0) pd_an))))
      (pd_last (pd_ret (dv 0)))
      pd_nil)
      (pd_seq (pd_par2 (i := 1) (k := 2) rfl sc_folded_of.nd rfl rfl (by decide) rfl rfl (po_d (pd_ix hK (dv 0) pd_int (fun _ _ => rfl)) (po_d (pd_pub (pd_lc (own := [("part", 3)]) (hc := rfl) (hN := sc_folded_of.nd) (hi := (pi_t hK (pd_call F_parts_of hK hr (by omega) rfl (pd_ac (dv 0) pd_an)))) (ok := blkOk_by (N := ["expression", "word", "parts", "part", "kind"]) (sc := defScope st_folded_of) (by decide +kernel)) (hg := fun _ _ _ _ _ => (pg_n sc_folded_of.nd rfl (by first | exact Or.inl rfl | exact Or.inr rfl))) (ht := fun _ _ _ _ _ => pts_y) (he := fun _ _ _ _ _ => (pd_call F_folded_of hK hr (by omega) rfl (pd_ac (dv 3) pd_an))))) po_n)) (by rfl))
      (pd_seq (pd_sif (pd_tt hK (pb_all hK rfl rfl B.all (pd_ac (pd_pub (pd_lc (own := [("part", 3)]) (hc := rfl) (hN := sc_folded_of.nd) (hi := (pi_l hK (dv 2))) (ok := blkOk_by (N := ["expression", "word", "parts", "part", "kind"]) (sc := defScope st_folded_of) (by decide +kernel)) (hg := fun _ _ _ _ _ => (pg_n sc_folded_of.nd rfl (by first | exact Or.inl rfl | exact Or.inr rfl))) (ht := fun _ _ _ _ _ => pts_y) (he := fun _ _ _ _ _ => (pd_eq hK hr (pd_ix hK (dv 3) pd_int (fun _ _ => rfl)) pd_str)))) pd_an)))
      (pd_seq (pd_set (i := 4) sc_folded_of.nd rfl (by first | exact Or.inl rfl | exact Or.inr rfl) (pd_call F_kind_of_operation hK hr (by omega) rfl (pd_ac (dv 1) (pd_ac (pd_pub (pd_lc (own := [("part", 3)]) (hc := rfl) (hN := sc_folded_of.nd) (hi := (pi_l hK (dv 2))) (ok := blkOk_by (N := ["expression", "word", "parts", "part", "kind"]) (sc := defScope st_folded_of) (by decide +kernel)) (hg := fun _ _ _ _ _ => (pg_n sc_folded_of.nd rfl (by first | exact Or.inl rfl | exact Or.inr rfl))) (ht := fun _ _ _ _ _ => pts_y) (he := fun _ _ _ _ _ => (pd_ix hK (dv 3) pd_int (fun _ _ => rfl))))) pd_an))))
      (pd_last (pd_sif (pd_tnotN (dv 4))
      (pd_last (pd_ret (pd_tup (pd_ac pd_str (pd_ac (dv 4) (pd_ac (pd_call F_value_of_operation hK hr (by omega) rfl (pd_ac (dv 1) (pd_ac (pd_pub (pd_lc (own := [("part", 3)]) (hc := rfl) (hN := sc_folded_of.nd) (hi := (pi_l hK (dv 2))) (ok := blkOk_by (N := ["expression", "word", "parts", "part", "kind"]) (sc := defScope st_folded_of) (by decide +kernel)) (hg := fun _ _ _ _ _ => (pg_n sc_folded_of.nd rfl (by first | exact Or.inl rfl | exact Or.inr rfl))) (ht := fun _ _ _ _ _ => pts_y) (he := fun _ _ _ _ _ => (pd_ix hK (dv 3) pd_int (fun _ _ => rfl))))) pd_an))) pd_an))))))
      pd_nil)))
      pd_nil)
      (pd_last (pd_ret (pd_call F_shortened hK hr (by omega) rfl (pd_ac (dv 1) (pd_ac (dv 2) pd_an))))))))
theorem no_folded_of {P : Program} {w : World} {K : Fg} {mg : Str → Option Value} {base : Heap} {a : Addr} {fd : FuncData} {n : Nat} (F : Fun K "folded_of" "folded_of" st_folded_of a fd) : FnG P w K mg base (n + 1) a fd ["expression"] (spF K (runF 1 5 fun _ _ => .stuck)) :=
  fn_pd' (k := n) F sc_folded_of rfl rfl fun cdv A outer s E c hk hr => pd_nevers
def g_folded_of : Nat → Fn
  | 0 => runF 1 5 fun _ _ => .stuck
  | i + 1 => f_folded_of (g_folded_of i)

def p_folded : { s : Stmt // s = top 31 } := ⟨_, by conv => rhs; whnf⟩
abbrev st_folded : Stmt := p_folded.1
theorem sc_folded : FnScope ["expression"] ["expression"] (defScope st_folded) := ⟨rfl, rfl, rfl, by decide +kernel, rfl, by decide +kernel, by decide +kernel⟩
def sem_folded : Ms :=
  (sSeq (sDrop (mCall f_check_expression (mCons (mV 0) mNil)))
  (sRet (mCall (g_folded_of 9) (mCons (mV 0) mNil))))
def f_folded : Fn := runF 1 1 (sem_folded )
theorem ok_folded {P : Program} {w : World} {K : Fg} {mg : Str → Option Value} {base : Heap} {a : Addr} {fd : FuncData}  (F : Fun K "folded" "folded" st_folded a fd) (B : Bt mg) (BX : Bx mg) (F_check_expression : Df P w K mg base (41) "check_expression" 1 f_check_expression) (F_folded_of : Df P w K mg base (20) "folded_of" 1 (g_folded_of 9))     :
    FnG P w K mg base (42) a fd ["expression"] (spF K (f_folded )) :=
  fn_pd' (sem := sem_folded ) (k := 41) F sc_folded rfl rfl fun cdv A outer s E c hk hr => have hK : K = c.K := hk.symm;
    (pd_seq (pd_expr (pd_call F_check_expression hK hr (by omega) rfl (pd_ac (dv 0) pd_an)))
      (pd_last (pd_ret (pd_call F_folded_of hK hr (by omega) rfl (pd_ac (dv 0) pd_an)))))

end K15

set_option Elab.async false
set_option linter.all false
set_option maxRecDepth 100000
set_option maxHeartbeats 8000000
namespace K15
open PySem L2 Pd

def p_l_cell : { s : Stmt // s = top 33 } := ⟨_, by conv => rhs; whnf⟩
abbrev st_l_cell : Stmt := p_l_cell.1
theorem sc_l_cell : FnScope ["_law_script", "_law_k", "_law_state_here", "_law_cell_here"] ["_law_script", "_law_k"] (defScope st_l_cell) := ⟨rfl, rfl, rfl, by decide +kernel, rfl, by decide +kernel, by decide +kernel⟩
def sem_l_cell : Ms :=
  (sSeq (sIf (mTb (m2 ltD (mV 1) (mB lenD (mCons (mV 0) mNil))))
  (sRet (m2 ixD (mV 0) (mV 1)))
  sNx)
  (sSeq (sSet 2 (m2 modD (m2 mulD (mC (.int 52009)) (m2 addD (m2 addD (m2 mulD (mV 1) (mV 1)) (m2 mulD (mC (.int 11)) (mV 1))) (mC (.int 3)))) (mC (.int 2147483423))))
  (sSeq (sFor (mItL (mPub (mSl kSlL (mV 0) oN (oS (mC (.int 3)))))) (gN 3)
  (sSet 2 (m2 modD (m2 addD (m2 mulD (mV 2) (mC (.int 40009))) (mV 3)) (mC (.int 2147483423)))))
  (sRet (mV 2)))))
def f_l_cell : Fn := runF 2 4 (sem_l_cell )
theorem ok_l_cell {P : Program} {w : World} {K : Fg} {mg : Str → Option Value} {base : Heap} {a : Addr} {fd : FuncData}  (F : Fun K "_law_cell" "_law_cell" st_l_cell a fd) (B : Bt mg) (BX : Bx mg)      :
    FnG P w K mg base (1) a fd ["_law_script", "_law_k"] (spF K (f_l_cell )) :=
  fn_pd' (sem := sem_l_cell ) (k := 0) F sc_l_cell rfl rfl fun cdv A outer s E c hk hr => have hK : K = c.K := hk.symm;
    (pd_seq (pd_sif (te_lt (dv 1) (pb_len hK rfl rfl B.len (pd_ac (dv 0) pd_an)))
      (pd_last (pd_ret (pd_ix hK (dv 0) (dv 1) (fun _ _ => rfl))))
      pd_nil)
      (pd_seq (pd_set (i := 2) sc_l_cell.nd rfl (by first | exact Or.inl rfl | exact Or.inr rfl) (pd_mod (pd_mul pd_int (pd_add hK (pd_add hK (pd_mul (dv 1) (dv 1)) (pd_mul pd_int (dv 1))) pd_int)) pd_int))
      (pd_seq (pd_for PassesOwn.never rfl (pi_l hK (pd_pub (pd_slL hK (dv 0) pd_on (pd_os pd_int)))) (pg_n sc_l_cell.nd rfl (by first | exact Or.inl rfl | exact Or.inr rfl))
      (pd_last (pd_set (i := 2) sc_l_cell.nd rfl (by first | exact Or.inl rfl | exact Or.inr rfl) (pd_mod (pd_add hK (pd_mul (dv 2) pd_int) (dv 3)) pd_int))))
      (pd_last (pd_ret (dv 2))))))

def p_l_pool : { s : Stmt // s = top 34 } := ⟨_, by conv => rhs; whnf⟩
abbrev st_l_pool : Stmt := p_l_pool.1
theorem sc_l_pool : FnScope ["_law_cell_here", "_law_digits"] ["_law_cell_here"] (defScope st_l_pool) := ⟨rfl, rfl, rfl, by decide +kernel, rfl, by decide +kernel, by decide +kernel⟩
def sem_l_pool : Mr :=
  (rSeq (sSet 1 (mIf (mOr (mTb (m2 ltD (mV 0) (mC (.int 0)))) (mTb (m2 geD (mV 0) (m2 powD (mC (.int 10)) (mC (.int 18)))))) (mB absD (mCons (mV 0) mNil)) (mC (.int 0))))
  (rRet (mLst (mCons (m2 modD (mV 0) (mC (.int 2147483423))) (mCons (mV 1) (mCons (mC (.int 0)) mNil))))))
def f_l_pool : Fl := runL 1 2 (sem_l_pool )
theorem ok_l_pool {P : Program} {w : World} {K : Fg} {mg : Str → Option Value} {base : Heap} {a : Addr} {fd : FuncData}  (F : Fun K "_law_pool" "_law_pool" st_l_pool a fd) (B : Bt mg) (BX : Bx mg)      :
    FnG P w K mg base (1) a fd ["_law_cell_here"] (spL K (f_l_pool )) :=
  fn_pl (sem := sem_l_pool ) (k := 0) F sc_l_pool rfl rfl fun cdv A outer s E c hk hr => have hK : K = c.K := hk.symm;
    (pl_seq (pd_set (i := 1) sc_l_pool.nd rfl (by first | exact Or.inl rfl | exact Or.inr rfl) (pd_if (PW.pt (pd_wor (te_lt (dv 0) pd_int) (pd_wor1 (te_ge (dv 0) (pd_pow pd_int pd_int))))) (pb_abs hK rfl rfl B.abs (pd_ac (dv 0) pd_an)) pd_int))
      (pl_ret (pd_lst (pd_ac (pd_mod (dv 0) pd_int) (pd_ac (dv 1) (pd_ac pd_int pd_an))))))

def p_l_calls : { s : Stmt // s = top 36 } := ⟨_, by conv => rhs; whnf⟩
abbrev st_l_calls : Stmt := p_l_calls.1
theorem sc_l_calls : FnScope ["_law_pool_here", "_law_many", "_law_own", "_law_begin", "_law_k", "_law_letters"] ["_law_pool_here", "_law_many"] (defScope st_l_calls) := ⟨rfl, rfl, rfl, by decide +kernel, rfl, by decide +kernel, by decide +kernel⟩
def sem_l_calls : Ms :=
  (sSeq (sSet 2 (mPub (mLst (mCons (mC (.str "scan")) (mCons (mC (.str "where")) (mCons (mC (.str "pick")) (mCons (mC (.str "add")) (mCons (mC (.str "there")) (mCons (mC (.str "up")) (mCons (mC (.str "all")) (mCons (mC (.str "int")) (mCons (mC (.str "count")) (mCons (mC (.str "none")) (mCons (mC (.str "value")) (mCons (mC (.str "rows")) mNil)))))))))))))))
  (sSeq (sSet 3 (mCall fDraw (mCons (mV 0) (mCons (mC (.int 12)) mNil))))
  (sSeq (sIf (mTb (m2 eqD (mCall fDraw (mCons (mV 0) (mCons (mC (.int 3)) mNil))) (mC (.int 0))))
  (sRet (mPub (mLc [4] (mItR (mV 1)) (gN 4) (fun _ m => .ok true m) (m2 ixD (mV 2) (m2 modD (m2 addD (mV 3) (m2 mulD (mC (.int 5)) (mV 4))) (mC (.int 12)))))))
  sNx)
  (sSeq (sSet 5 (mC (.str "abcdefghijklmnopqrstuvwxyz")))
  (sRet (mPub (mLc [4] (mItR (mV 1)) (gN 4) (fun _ m => .ok true m) (m2 mulD (m2 ixD (mV 5) (m2 modD (m2 addD (mV 3) (m2 mulD (mC (.int 5)) (mV 4))) (mC (.int 26)))) (m2 ixD (mPub (mLst (mCons (mC (.int 1)) (mCons (mC (.int 1)) (mCons (mC (.int 2)) (mCons (mC (.int 8)) mNil)))))) (m2 modD (mV 4) (mC (.int 4))))))))))))
def f_l_calls : Fn := runF 2 6 (sem_l_calls )
theorem ok_l_calls {P : Program} {w : World} {K : Fg} {mg : Str → Option Value} {base : Heap} {a : Addr} {fd : FuncData}  (F : Fun K "_law_calls" "_law_calls" st_l_calls a fd) (B : Bt mg) (BX : Bx mg) (F_l_draw : Df P w K mg base (1) "_law_draw" 2 fDraw)     :
    FnG P w K mg base (2) a fd ["_law_pool_here", "_law_many"] (spF K (f_l_calls )) :=
  fn_pd' (sem := sem_l_calls ) (k := 1) F sc_l_calls rfl rfl fun cdv A outer s E c hk hr => have hK : K = c.K := hk.symm;
    (pd_seq (pd_set (i := 2) sc_l_calls.nd rfl (by first | exact Or.inl rfl | exact Or.inr rfl) (pd_pub (pd_lst (pd_ac pd_str (pd_ac pd_str (pd_ac pd_str (pd_ac pd_str (pd_ac pd_str (pd_ac pd_str (pd_ac pd_str (pd_ac pd_str (pd_ac pd_str (pd_ac pd_str (pd_ac pd_str (pd_ac pd_str pd_an)))))))))))))))
      (pd_seq (pd_set (i := 3) sc_l_calls.nd rfl (by first | exact Or.inl rfl | exact Or.inr rfl) (pd_call F_l_draw hK hr (by omega) rfl (pd_ac (dv 0) (pd_ac pd_int pd_an))))
      (pd_seq (pd_sif (te_eq hK hr (pd_call F_l_draw hK hr (by omega) rfl (pd_ac (dv 0) (pd_ac pd_int pd_an))) pd_int)
      (pd_last (pd_ret (pd_pub (pd_lc (own := [("_law_k", 4)]) (hc := rfl) (hN := sc_l_calls.nd) (hi := (pi_r1 rfl B.range (dv 1))) (ok := blkOk_by (N := ["_law_pool_here", "_law_many", "_law_own", "_law_begin", "_law_k", "_law_letters"]) (sc := defScope st_l_calls) (by decide +kernel)) (hg := fun _ _ _ _ _ => (pg_n sc_l_calls.nd rfl (by first | exact Or.inl rfl | exact Or.inr rfl))) (ht := fun _ _ _ _ _ => pts_y) (he := fun _ _ _ _ _ => (pd_ix hK (dv 2) (pd_mod (pd_add hK (dv 3) (pd_mul pd_int (dv 4))) pd_int) (fun _ _ => rfl)))))))
      pd_nil)
      (pd_seq (pd_set (i := 5) sc_l_calls.nd rfl (by first | exact Or.inl rfl | exact Or.inr rfl) pd_str)
      (pd_last (pd_ret (pd_pub (pd_lc (own := [("_law_k", 4)]) (hc := rfl) (hN := sc_l_calls.nd) (hi := (pi_r1 rfl B.range (dv 1))) (ok := blkOk_by (N := ["_law_pool_here", "_law_many", "_law_own", "_law_begin", "_law_k", "_law_letters"]) (sc := defScope st_l_calls) (by decide +kernel)) (hg := fun _ _ _ _ _ => (pg_n sc_l_calls.nd rfl (by first | exact Or.inl rfl | exact Or.inr rfl))) (ht := fun _ _ _ _ _ => pts_y) (he := fun _ _ _ _ _ => (pd_mul (pd_ix hK (dv 5) (pd_mod (pd_add hK (dv 3) (pd_mul pd_int (dv 4))) pd_int) (fun _ _ => rfl)) (pd_ix hK (pd_pub (pd_lst (pd_ac pd_int (pd_ac pd_int (pd_ac pd_int (pd_ac pd_int pd_an)))))) (pd_mod (dv 4) pd_int) (fun _ _ => rfl))))))))))))

def p_l_worth : { s : Stmt // s = top 37 } := ⟨_, by conv => rhs; whnf⟩
abbrev st_l_worth : Stmt := p_l_worth.1
theorem sc_l_worth : FnScope ["_law_pool_here", "_law_kind_here"] ["_law_pool_here", "_law_kind_here"] (defScope st_l_worth) := ⟨rfl, rfl, rfl, by decide +kernel, rfl, by decide +kernel, by decide +kernel⟩
def sem_l_worth : Ms :=
  (sSeq (sIf (mTb (m2 eqD (mCall fDraw (mCons (mV 0) (mCons (mC (.int 5)) mNil))) (mC (.int 0))))
  (sRet (mC .non))
  sNx)
  (sSeq (sIf (mTb (m2 eqD (mV 1) (mC (.str "int"))))
  (sRet (m2 ixD (mPub (mLst (mCons (mC (.int 0)) (mCons (mC (.int 1)) (mCons (mC (.int 2)) (mCons (m1 negD (mC (.int 1))) (mCons (mC (.int 3)) (mCons (mC (.int 7)) (mCons (m1 negD (m2 powD (mC (.int 10)) (mC (.int 12)))) (mCons (m2 powD (mC (.int 10)) (mC (.int 13))) mNil)))))))))) (mCall fDraw (mCons (mV 0) (mCons (mC (.int 8)) mNil)))))
  sNx)
  (sSeq (sIf (mTb (m2 eqD (mV 1) (mC (.str "text"))))
  (sRet (m2 ixD (mPub (mLst (mCons (mC (.str "")) (mCons (mC (.str "a")) (mCons (mC (.str "b")) (mCons (mC (.str "ab")) (mCons (mC (.str "Rome")) (mCons (mC (.str "), [a,b")) (mCons (mC (.str "\"")) (mCons (mC (.str "\\")) (mCons (mC (.str "none")) (mCons (mC (.str " ")) mNil)))))))))))) (mCall fDraw (mCons (mV 0) (mCons (mC (.int 10)) mNil)))))
  sNx)
  (sRet (m2 eqD (mCall fDraw (mCons (mV 0) (mCons (mC (.int 2)) mNil))) (mC (.int 0)))))))
def f_l_worth : Fn := runF 2 2 (sem_l_worth )
theorem ok_l_worth {P : Program} {w : World} {K : Fg} {mg : Str → Option Value} {base : Heap} {a : Addr} {fd : FuncData}  (F : Fun K "_law_worth" "_law_worth" st_l_worth a fd) (B : Bt mg) (BX : Bx mg) (F_l_draw : Df P w K mg base (1) "_law_draw" 2 fDraw)     :
    FnG P w K mg base (2) a fd ["_law_pool_here", "_law_kind_here"] (spF K (f_l_worth )) :=
  fn_pd' (sem := sem_l_worth ) (k := 1) F sc_l_worth rfl rfl fun cdv A outer s E c hk hr => have hK : K = c.K := hk.symm;
    (pd_seq (pd_sif (te_eq hK hr (pd_call F_l_draw hK hr (by omega) rfl (pd_ac (dv 0) (pd_ac pd_int pd_an))) pd_int)
      (pd_last (pd_ret pd_non))
      pd_nil)
      (pd_seq (pd_sif (te_eq hK hr (dv 1) pd_str)
      (pd_last (pd_ret (pd_ix hK (pd_pub (pd_lst (pd_ac pd_int (pd_ac pd_int (pd_ac pd_int (pd_ac (pd_neg pd_int) (pd_ac pd_int (pd_ac pd_int (pd_ac (pd_neg (pd_pow pd_int pd_int)) (pd_ac (pd_pow pd_int pd_int) pd_an)))))))))) (pd_call F_l_draw hK hr (by omega) rfl (pd_ac (dv 0) (pd_ac pd_int pd_an))) (fun _ _ => rfl))))
      pd_nil)
      (pd_seq (pd_sif (te_eq hK hr (dv 1) pd_str)
      (pd_last (pd_ret (pd_ix hK (pd_pub (pd_lst (pd_ac pd_str (pd_ac pd_str (pd_ac pd_str (pd_ac pd_str (pd_ac pd_str (pd_ac pd_str (pd_ac pd_str (pd_ac pd_str (pd_ac pd_str (pd_ac pd_str pd_an)))))))))))) (pd_call F_l_draw hK hr (by omega) rfl (pd_ac (dv 0) (pd_ac pd_int pd_an))) (fun _ _ => rfl))))
      pd_nil)
      (pd_last (pd_ret (pd_eq hK hr (pd_call F_l_draw hK hr (by omega) rfl (pd_ac (dv 0) (pd_ac pd_int pd_an))) pd_int))))))

def p_l_heads : { s : Stmt // s = top 38 } := ⟨_, by conv => rhs; whnf⟩
abbrev st_l_heads : Stmt := p_l_heads.1
theorem sc_l_heads : FnScope ["_law_pool_here", "_law_calls_here", "_law_kinds", "_law_call", "_law_k"] ["_law_pool_here", "_law_calls_here"] (defScope st_l_heads) := ⟨rfl, rfl, rfl, by decide +kernel, rfl, by decide +kernel, by decide +kernel⟩
def sem_l_heads : Ms :=
  (sSeq (sSet 2 (mPub (mCat (mLst (mCons (mC (.str "int")) mNil)) (mLc [3] (mItL (mPub (mSl kSlL (mV 1) (oS (mC (.int 1))) oN))) (gN 3) (fun _ m => .ok true m) (m2 ixD (mPub (mLst (mCons (mC (.str "int")) (mCons (mC (.str "text")) (mCons (mC (.str "bool")) (mCons (mC (.str "int")) (mCons (mC (.str "text")) mNil))))))) (mCall fDraw (mCons (mV 0) (mCons (mC (.int 5)) mNil))))))))
  (sRet (mB tupleD (mCons (mPub (mLc [4] (mItR (mB lenD (mCons (mV 1) mNil))) (gN 4) (fun _ m => .ok true m) (mTup (mCons (m2 ixD (mV 1) (mV 4)) (mCons (m2 ixD (mV 2) (mV 4)) mNil))))) mNil))))
def f_l_heads : Fn := runF 2 5 (sem_l_heads )
theorem ok_l_heads {P : Program} {w : World} {K : Fg} {mg : Str → Option Value} {base : Heap} {a : Addr} {fd : FuncData}  (F : Fun K "_law_heads" "_law_heads" st_l_heads a fd) (B : Bt mg) (BX : Bx mg) (F_l_draw : Df P w K mg base (1) "_law_draw" 2 fDraw)     :
    FnG P w K mg base (2) a fd ["_law_pool_here", "_law_calls_here"] (spF K (f_l_heads )) :=
  fn_pd' (sem := sem_l_heads ) (k := 1) F sc_l_heads rfl rfl fun cdv A outer s E c hk hr => have hK : K = c.K := hk.symm;
    (pd_seq (pd_set (i := 2) sc_l_heads.nd rfl (by first | exact Or.inl rfl | exact Or.inr rfl) (pd_pub (pd_cat (pd_rL (pd_lst (pd_ac pd_str pd_an))) (pd_rL (pd_lc (own := [("_law_call", 3)]) (hc := rfl) (hN := sc_l_heads.nd) (hi := (pi_l hK (pd_pub (pd_slL hK (dv 1) (pd_os pd_int) pd_on)))) (ok := blkOk_by (N := ["_law_pool_here", "_law_calls_here", "_law_kinds", "_law_call", "_law_k"]) (sc := defScope st_l_heads) (by decide +kernel)) (hg := fun _ _ _ _ _ => (pg_n sc_l_heads.nd rfl (by first | exact Or.inl rfl | exact Or.inr rfl))) (ht := fun _ _ _ _ _ => pts_y) (he := fun _ _ _ _ _ => (pd_ix hK (pd_pub (pd_lst (pd_ac pd_str (pd_ac pd_str (pd_ac pd_str (pd_ac pd_str (pd_ac pd_str pd_an))))))) (pd_call F_l_draw hK hr (by omega) rfl (pd_ac (dv 0) (pd_ac pd_int pd_an))) (fun _ _ => rfl))))))))
      (pd_last (pd_ret (pb_tuple hK rfl rfl B.tuple (pd_ac (pd_pub (pd_lc (own := [("_law_k", 4)]) (hc := rfl) (hN := sc_l_heads.nd) (hi := (pi_r1 rfl B.range (pb_len hK rfl rfl B.len (pd_ac (dv 1) pd_an)))) (ok := blkOk_by (N := ["_law_pool_here", "_law_calls_here", "_law_kinds", "_law_call", "_law_k"]) (sc := defScope st_l_heads) (by decide +kernel)) (hg := fun _ _ _ _ _ => (pg_n sc_l_heads.nd rfl (by first | exact Or.inl rfl | exact Or.inr rfl))) (ht := fun _ _ _ _ _ => pts_y) (he := fun _ _ _ _ _ => (pd_tup (pd_ac (pd_ix hK (dv 1) (dv 4) (fun _ _ => rfl)) (pd_ac (pd_ix hK (dv 2) (dv 4) (fun _ _ => rfl)) pd_an)))))) pd_an)))))

def p_l_leaf : { s : Stmt // s = top 39 } := ⟨_, by conv => rhs; whnf⟩
abbrev st_l_leaf : Stmt := p_l_leaf.1
theorem sc_l_leaf : FnScope ["_law_pool_here", "_law_heads_here", "_law_kind_here", "_law_some", "_law_call", "_law_one_kind"] ["_law_pool_here", "_law_heads_here", "_law_kind_here"] (defScope st_l_leaf) := ⟨rfl, rfl, rfl, by decide +kernel, rfl, by decide +kernel, by decide +kernel⟩
def sem_l_leaf : Ms :=
  (sSeq (sSetO 3 (mLc [4, 5] (mItT (mV 1)) (gN2 4 5) (mTb (m2 eqD (mV 5) (mV 2))) (mV 4)))
  (sThaw1 3 (sSeq (sIf (mAnd (mTb (m2 neD (mV 3) (mPub (mLst mNil)))) (mTb (m2 gtD (mCall fDraw (mCons (mV 0) (mCons (mC (.int 3)) mNil))) (mC (.int 0)))))
  (sRet (mTup (mCons (mC (.str "col")) (mCons (m2 ixD (mV 3) (mCall fDraw (mCons (mV 0) (mCons (mB lenD (mCons (mV 3) mNil)) mNil)))) mNil))))
  sNx)
  (sRet (mTup (mCons (mC (.str "value")) (mCons (mV 2) (mCons (mCall f_l_worth (mCons (mV 0) (mCons (mV 2) mNil))) mNil))))))))
def f_l_leaf : Fn := runF 3 6 (sem_l_leaf )
theorem ok_l_leaf {P : Program} {w : World} {K : Fg} {mg : Str → Option Value} {base : Heap} {a : Addr} {fd : FuncData}  (F : Fun K "_law_leaf" "_law_leaf" st_l_leaf a fd) (B : Bt mg) (BX : Bx mg) (F_l_draw : Df P w K mg base (1) "_law_draw" 2 fDraw) (F_l_worth : Df P w K mg base (2) "_law_worth" 2 f_l_worth)     :
    FnG P w K mg base (3) a fd ["_law_pool_here", "_law_heads_here", "_law_kind_here"] (spF K (f_l_leaf )) :=
  fn_pd' (sem := sem_l_leaf ) (k := 2) F sc_l_leaf rfl rfl fun cdv A outer s E c hk hr => have hK : K = c.K := hk.symm;
    (pd_seq (pd_setLc (i := 3) (hy := rfl) (hyl := rfl) (hsw := sw_true rfl rfl rfl (by decide +kernel)) (own := [("_law_call", 4), ("_law_one_kind", 5)]) (hc := rfl) (hN := sc_l_leaf.nd) (hi := (pi_t hK (dv 1))) (ok := blkOk_by (N := ["_law_pool_here", "_law_heads_here", "_law_kind_here", "_law_some", "_law_call", "_law_one_kind"]) (sc := defScope st_l_leaf) (by decide +kernel)) (hg := fun _ _ _ _ _ => (pg_n2 sc_l_leaf.nd rfl hK rfl (by first | exact Or.inl rfl | exact Or.inr rfl) rfl (by first | exact Or.inl rfl | exact Or.inr rfl))) (ht := fun _ _ _ _ _ => pts_1 (te_eq hK hr (dv 5) (dv 2))) (he := fun _ _ _ _ _ => (dv 4)))
      (pd_thaws1 3 (pd_seq (pd_sif (PW.pt (pd_wand (te_ne hK hr (dv 3) (pd_pub (pd_lst pd_an))) (pd_wand1 (te_gt (pd_call F_l_draw hK hr (by omega) rfl (pd_ac (dv 0) (pd_ac pd_int pd_an))) pd_int))))
      (pd_last (pd_ret (pd_tup (pd_ac pd_str (pd_ac (pd_ix hK (dv 3) (pd_call F_l_draw hK hr (by omega) rfl (pd_ac (dv 0) (pd_ac (pb_len hK rfl rfl B.len (pd_ac (dv 3) pd_an)) pd_an))) (fun _ _ => rfl)) pd_an)))))
      pd_nil)
      (pd_last (pd_ret (pd_tup (pd_ac pd_str (pd_ac (dv 2) (pd_ac (pd_call F_l_worth hK hr (by omega) rfl (pd_ac (dv 0) (pd_ac (dv 2) pd_an))) pd_an)))))))))

def p_l_pair : { s : Stmt // s = top 41 } := ⟨_, by conv => rhs; whnf⟩
abbrev st_l_pair : Stmt := p_l_pair.1
theorem sc_l_pair : FnScope ["_law_pool_here", "_law_heads_here", "_law_word", "_law_kind_here", "_law_deep", "_law_mate"] ["_law_pool_here", "_law_heads_here", "_law_word", "_law_kind_here", "_law_deep"] (defScope st_l_pair) := ⟨rfl, rfl, rfl, by decide +kernel, rfl, by decide +kernel, by decide +kernel⟩
def sem_l_pair (t : Fn) : Ms :=
  (sSeq (sSet 5 (mCall t (mCons (mV 0) (mCons (mV 1) (mCons (mV 3) (mCons (m2 subD (mV 4) (mC (.int 1))) mNil))))))
  (sRet (mTup (mCons (mV 2) (mCons (mCall t (mCons (mV 0) (mCons (mV 1) (mCons (mV 3) (mCons (m2 subD (mV 4) (mC (.int 1))) mNil))))) (mCons (mV 5) mNil))))))
def f_l_pair (t : Fn) : Fn := runF 5 6 (sem_l_pair t)
theorem ok_l_pair {P : Program} {w : World} {K : Fg} {mg : Str → Option Value} {base : Heap} {a : Addr} {fd : FuncData} {t : Fn} {n : Nat}  (hn : 10 ≤ n) (F : Fun K "_law_pair" "_law_pair" st_l_pair a fd) (B : Bt mg) (BX : Bx mg) (F_l_tree : Df P w K mg base (n) "_law_tree" 4 t)     :
    FnG P w K mg base (n + 1) a fd ["_law_pool_here", "_law_heads_here", "_law_word", "_law_kind_here", "_law_deep"] (spF K (f_l_pair t)) :=
  fn_pd' (sem := sem_l_pair t) (k := n) F sc_l_pair rfl rfl fun cdv A outer s E c hk hr => have hK : K = c.K := hk.symm;
    (pd_seq (pd_set (i := 5) sc_l_pair.nd rfl (by first | exact Or.inl rfl | exact Or.inr rfl) (pd_call F_l_tree hK hr (by omega) rfl (pd_ac (dv 0) (pd_ac (dv 1) (pd_ac (dv 3) (pd_ac (pd_sub (dv 4) pd_int) pd_an))))))
      (pd_last (pd_ret (pd_tup (pd_ac (dv 2) (pd_ac (pd_call F_l_tree hK hr (by omega) rfl (pd_ac (dv 0) (pd_ac (dv 1) (pd_ac (dv 3) (pd_ac (pd_sub (dv 4) pd_int) pd_an))))) (pd_ac (dv 5) pd_an)))))))

def p_l_test : { s : Stmt // s = top 42 } := ⟨_, by conv => rhs; whnf⟩
abbrev st_l_test : Stmt := p_l_test.1
theorem sc_l_test : FnScope ["_law_pool_here", "_law_heads_here", "_law_deep", "_law_way", "_law_one"] ["_law_pool_here", "_law_heads_here", "_law_deep", "_law_way"] (defScope st_l_test) := ⟨rfl, rfl, rfl, by decide +kernel, rfl, by decide +kernel, by decide +kernel⟩
def sem_l_test (t : Fn) : Ms :=
  (sSeq (sSet 4 (m2 ixD (mPub (mLst (mCons (mC (.str "int")) (mCons (mC (.str "text")) (mCons (mC (.str "bool")) mNil))))) (mCall fDraw (mCons (mV 0) (mCons (mC (.int 3)) mNil)))))
  (sSeq (sIf (mTb (m2 inD (mV 3) (mPub (mLst (mCons (mC (.int 2)) (mCons (mC (.int 3)) mNil))))))
  (sRet (mTup (mCons (m2 ixD (mPub (mLst (mCons (mC (.str "there")) (mCons (mC (.str "not")) mNil)))) (m2 subD (mV 3) (mC (.int 2)))) (mCons (mCall t (mCons (mV 0) (mCons (mV 1) (mCons (m2 ixD (mPub (mLst (mCons (mV 4) (mCons (mC (.str "bool")) mNil)))) (m2 subD (mV 3) (mC (.int 2)))) (mCons (m2 subD (mV 2) (mC (.int 1))) mNil))))) mNil))))
  sNx)
  (sSeq (sIf (mTb (m2 ltD (mV 3) (mC (.int 6))))
  (sRet (mCall (f_l_pair t) (mCons (mV 0) (mCons (mV 1) (mCons (m2 ixD (mPub (mLst (mCons (mC (.str "and")) (mCons (mC (.str "or")) mNil)))) (m2 subD (mV 3) (mC (.int 4)))) (mCons (mC (.str "bool")) (mCons (mV 2) mNil)))))))
  sNx)
  (sRet (mCall (f_l_pair t) (mCons (mV 0) (mCons (mV 1) (mCons (m2 ixD (mPub (mLst (mCons (mC (.str "eq")) (mCons (mC (.str "lt")) (mCons (mC (.str "le")) (mCons (mC (.str "eq")) mNil)))))) (m2 subD (mV 3) (mC (.int 6)))) (mCons (mV 4) (mCons (mV 2) mNil))))))))))
def f_l_test (t : Fn) : Fn := runF 4 5 (sem_l_test t)
theorem ok_l_test {P : Program} {w : World} {K : Fg} {mg : Str → Option Value} {base : Heap} {a : Addr} {fd : FuncData} {t : Fn} {n : Nat}  (hn : 10 ≤ n) (F : Fun K "_law_test" "_law_test" st_l_test a fd) (B : Bt mg) (BX : Bx mg) (F_l_draw : Df P w K mg base (1) "_law_draw" 2 fDraw) (F_l_tree : Df P w K mg base (n) "_law_tree" 4 t) (F_l_pair : Df P w K mg base (n + 1) "_law_pair" 5 (f_l_pair t))     :
    FnG P w K mg base (n + 2) a fd ["_law_pool_here", "_law_heads_here", "_law_deep", "_law_way"] (spF K (f_l_test t)) :=
  fn_pd' (sem := sem_l_test t) (k := n + 1) F sc_l_test rfl rfl fun cdv A outer s E c hk hr => have hK : K = c.K := hk.symm;
    (pd_seq (pd_set (i := 4) sc_l_test.nd rfl (by first | exact Or.inl rfl | exact Or.inr rfl) (pd_ix hK (pd_pub (pd_lst (pd_ac pd_str (pd_ac pd_str (pd_ac pd_str pd_an))))) (pd_call F_l_draw hK hr (by omega) rfl (pd_ac (dv 0) (pd_ac pd_int pd_an))) (fun _ _ => rfl)))
      (pd_seq (pd_sif (te_in hK (dv 3) (pd_pub (pd_lst (pd_ac pd_int (pd_ac pd_int pd_an)))))
      (pd_last (pd_ret (pd_tup (pd_ac (pd_ix hK (pd_pub (pd_lst (pd_ac pd_str (pd_ac pd_str pd_an)))) (pd_sub (dv 3) pd_int) (fun _ _ => rfl)) (pd_ac (pd_call F_l_tree hK hr (by omega) rfl (pd_ac (dv 0) (pd_ac (dv 1) (pd_ac (pd_ix hK (pd_pub (pd_lst (pd_ac (dv 4) (pd_ac pd_str pd_an)))) (pd_sub (dv 3) pd_int) (fun _ _ => rfl)) (pd_ac (pd_sub (dv 2) pd_int) pd_an))))) pd_an)))))
      pd_nil)
      (pd_seq (pd_sif (te_lt (dv 3) pd_int)
      (pd_last (pd_ret (pd_call F_l_pair hK hr (by omega) rfl (pd_ac (dv 0) (pd_ac (dv 1) (pd_ac (pd_ix hK (pd_pub (pd_lst (pd_ac pd_str (pd_ac pd_str pd_an)))) (pd_sub (dv 3) pd_int) (fun _ _ => rfl)) (pd_ac pd_str (pd_ac (dv 2) pd_an))))))))
      pd_nil)
      (pd_last (pd_ret (pd_call F_l_pair hK hr (by omega) rfl (pd_ac (dv 0) (pd_ac (dv 1) (pd_ac (pd_ix hK (pd_pub (pd_lst (pd_ac pd_str (pd_ac pd_str (pd_ac pd_str (pd_ac pd_str pd_an)))))) (pd_sub (dv 3) pd_int) (fun _ _ => rfl)) (pd_ac (dv 4) (pd_ac (dv 2) pd_an)))))))))))

def p_l_tree : { s : Stmt // s = top 40 } := ⟨_, by conv => rhs; whnf⟩
abbrev st_l_tree : Stmt := p_l_tree.1
theorem sc_l_tree : FnScope ["_law_pool_here", "_law_heads_here", "_law_kind_here", "_law_deep", "_law_way", "_law_parts_here", "_law_one", "_law_mate", "_law_word"] ["_law_pool_here", "_law_heads_here", "_law_kind_here", "_law_deep"] (defScope st_l_tree) := ⟨rfl, rfl, rfl, by decide +kernel, rfl, by decide +kernel, by decide +kernel⟩
def sem_l_tree (t : Fn) : Ms :=
  (sSeq (sIf (mOr (mTb (m2 ltD (mV 3) (mC (.int 2)))) (mTb (m2 eqD (mCall fDraw (mCons (mV 0) (mCons (mC (.int 4)) mNil))) (mC (.int 0)))))
  (sRet (mCall f_l_leaf (mCons (mV 0) (mCons (mV 1) (mCons (mV 2) mNil)))))
  sNx)
  (sSeq (sSet 4 (mCall fDraw (mCons (mV 0) (mCons (mC (.int 10)) mNil))))
  (sSeq (sIf (mTb (m2 eqD (mV 4) (mC (.int 0))))
  (sSeq (sSetO 5 (mLc [6] (mItL (mPub (mLst (mCons (mC (.str "bool")) (mCons (mV 2) (mCons (mV 2) mNil)))))) (gN 6) (fun _ m => .ok true m) (mCall t (mCons (mV 0) (mCons (mV 1) (mCons (mV 6) (mCons (m2 subD (mV 3) (mC (.int 1))) mNil)))))))
  (sThaw1 5 (sRet (mTup (mCons (mC (.str "if")) (mCons (m2 ixD (mV 5) (mC (.int 0))) (mCons (m2 ixD (mV 5) (mC (.int 1))) (mCons (m2 ixD (mV 5) (mC (.int 2))) mNil))))))))
  sNx)
  (sSeq (sIf (mTb (m2 eqD (mV 4) (mC (.int 1))))
  (sSeq (sSet 7 (mCall t (mCons (mV 0) (mCons (mV 1) (mCons (mV 2) (mCons (m2 subD (mV 3) (mC (.int 1))) mNil))))))
  (sRet (mTup (mCons (mC (.str "else")) (mCons (mCall t (mCons (mV 0) (mCons (mV 1) (mCons (mV 2) (mCons (m2 subD (mV 3) (mC (.int 1))) mNil))))) (mCons (mV 7) mNil))))))
  sNx)
  (sSeq (sIf (mTb (m2 eqD (mV 2) (mC (.str "int"))))
  (sSeq (sIf (mTb (m2 eqD (mV 4) (mC (.int 2))))
  (sRet (mTup (mCons (mC (.str "size")) (mCons (mCall t (mCons (mV 0) (mCons (mV 1) (mCons (mC (.str "text")) (mCons (m2 subD (mV 3) (mC (.int 1))) mNil))))) mNil))))
  sNx)
  (sSeq (sSet 8 (m2 ixD (mPub (mLst (mCons (mC (.str "add")) (mCons (mC (.str "sub")) (mCons (mC (.str "mul")) (mCons (mC (.str "div")) (mCons (mC (.str "mod")) mNil))))))) (m2 modD (mV 4) (mC (.int 5)))))
  (sRet (mCall (f_l_pair t) (mCons (mV 0) (mCons (mV 1) (mCons (mV 8) (mCons (mC (.str "int")) (mCons (mV 3) mNil)))))))))
  sNx)
  (sSeq (sIf (mTb (m2 eqD (mV 2) (mC (.str "text"))))
  (sRet (mCall (f_l_pair t) (mCons (mV 0) (mCons (mV 1) (mCons (mC (.str "glue")) (mCons (mC (.str "text")) (mCons (mV 3) mNil)))))))
  sNx)
  (sRet (mCall (f_l_test t) (mCons (mV 0) (mCons (mV 1) (mCons (mV 3) (mCons (mV 4) mNil))))))))))))
def f_l_tree (t : Fn) : Fn := runF 4 9 (sem_l_tree t)
theorem ok_l_tree {P : Program} {w : World} {K : Fg} {mg : Str → Option Value} {base : Heap} {a : Addr} {fd : FuncData} {t : Fn} {n : Nat}  (hn : 10 ≤ n) (F : Fun K "_law_tree" "_law_tree" st_l_tree a fd) (B : Bt mg) (BX : Bx mg) (F_l_draw : Df P w K mg base (1) "_law_draw" 2 fDraw) (F_l_leaf : Df P w K mg base (3) "_law_leaf" 3 f_l_leaf) (F_l_tree : Df P w K mg base (n) "_law_tree" 4 t) (F_l_pair : Df P w K mg base (n + 1) "_law_pair" 5 (f_l_pair t)) (F_l_test : Df P w K mg base (n + 2) "_law_test" 4 (f_l_test t))     :
    FnG P w K mg base (n + 3) a fd ["_law_pool_here", "_law_heads_here", "_law_kind_here", "_law_deep"] (spF K (f_l_tree t)) :=
  fn_pd' (sem := sem_l_tree t) (k := n + 2) F sc_l_tree rfl rfl fun cdv A outer s E c hk hr => have hK : K = c.K := hk.symm;
    (pd_seq (pd_sif (PW.pt (pd_wor (te_lt (dv 3) pd_int) (pd_wor1 (te_eq hK hr (pd_call F_l_draw hK hr (by omega) rfl (pd_ac (dv 0) (pd_ac pd_int pd_an))) pd_int))))
      (pd_last (pd_ret (pd_call F_l_leaf hK hr (by omega) rfl (pd_ac (dv 0) (pd_ac (dv 1) (pd_ac (dv 2) pd_an))))))
      pd_nil)
      (pd_seq (pd_set (i := 4) sc_l_tree.nd rfl (by first | exact Or.inl rfl | exact Or.inr rfl) (pd_call F_l_draw hK hr (by omega) rfl (pd_ac (dv 0) (pd_ac pd_int pd_an))))
      (pd_seq (pd_sif (te_eq hK hr (dv 4) pd_int)
      (pd_seq (pd_setLc (i := 5) (hy := rfl) (hyl := rfl) (hsw := sw_true rfl rfl rfl (by decide +kernel)) (own := [("_law_one", 6)]) (hc := rfl) (hN := sc_l_tree.nd) (hi := (pi_l hK (pd_pub (pd_lst (pd_ac pd_str (pd_ac (dv 2) (pd_ac (dv 2) pd_an))))))) (ok := blkOk_by (N := ["_law_pool_here", "_law_heads_here", "_law_kind_here", "_law_deep", "_law_way", "_law_parts_here", "_law_one", "_law_mate", "_law_word"]) (sc := defScope st_l_tree) (by decide +kernel)) (hg := fun _ _ _ _ _ => (pg_n sc_l_tree.nd rfl (by first | exact Or.inl rfl | exact Or.inr rfl))) (ht := fun _ _ _ _ _ => pts_y) (he := fun _ _ _ _ _ => (pd_call F_l_tree hK hr (by omega) rfl (pd_ac (dv 0) (pd_ac (dv 1) (pd_ac (dv 6) (pd_ac (pd_sub (dv 3) pd_int) pd_an)))))))
      (pd_thaws1 5 (pd_last (pd_ret (pd_tup (pd_ac pd_str (pd_ac (pd_ix hK (dv 5) pd_int (fun _ _ => rfl)) (pd_ac (pd_ix hK (dv 5) pd_int (fun _ _ => rfl)) (pd_ac (pd_ix hK (dv 5) pd_int (fun _ _ => rfl)) pd_an)))))))))
      pd_nil)
      (pd_seq (pd_sif (te_eq hK hr (dv 4) pd_int)
      (pd_seq (pd_set (i := 7) sc_l_tree.nd rfl (by first | exact Or.inl rfl | exact Or.inr rfl) (pd_call F_l_tree hK hr (by omega) rfl (pd_ac (dv 0) (pd_ac (dv 1) (pd_ac (dv 2) (pd_ac (pd_sub (dv 3) pd_int) pd_an))))))
      (pd_last (pd_ret (pd_tup (pd_ac pd_str (pd_ac (pd_call F_l_tree hK hr (by omega) rfl (pd_ac (dv 0) (pd_ac (dv 1) (pd_ac (dv 2) (pd_ac (pd_sub (dv 3) pd_int) pd_an))))) (pd_ac (dv 7) pd_an)))))))
      pd_nil)
      (pd_seq (pd_sif (te_eq hK hr (dv 2) pd_str)
      (pd_seq (pd_sif (te_eq hK hr (dv 4) pd_int)
      (pd_last (pd_ret (pd_tup (pd_ac pd_str (pd_ac (pd_call F_l_tree hK hr (by omega) rfl (pd_ac (dv 0) (pd_ac (dv 1) (pd_ac pd_str (pd_ac (pd_sub (dv 3) pd_int) pd_an))))) pd_an)))))
      pd_nil)
      (pd_seq (pd_set (i := 8) sc_l_tree.nd rfl (by first | exact Or.inl rfl | exact Or.inr rfl) (pd_ix hK (pd_pub (pd_lst (pd_ac pd_str (pd_ac pd_str (pd_ac pd_str (pd_ac pd_str (pd_ac pd_str pd_an))))))) (pd_mod (dv 4) pd_int) (fun _ _ => rfl)))
      (pd_last (pd_ret (pd_call F_l_pair hK hr (by omega) rfl (pd_ac (dv 0) (pd_ac (dv 1) (pd_ac (dv 8) (pd_ac pd_str (pd_ac (dv 3) pd_an))))))))))
      pd_nil)
      (pd_seq (pd_sif (te_eq hK hr (dv 2) pd_str)
      (pd_last (pd_ret (pd_call F_l_pair hK hr (by omega) rfl (pd_ac (dv 0) (pd_ac (dv 1) (pd_ac pd_str (pd_ac pd_str (pd_ac (dv 3) pd_an))))))))
      pd_nil)
      (pd_last (pd_ret (pd_call F_l_test hK hr (by omega) rfl (pd_ac (dv 0) (pd_ac (dv 1) (pd_ac (dv 3) (pd_ac (dv 4) pd_an)))))))))))))
theorem no_l_tree {P : Program} {w : World} {K : Fg} {mg : Str → Option Value} {base : Heap} {a : Addr} {fd : FuncData} {n : Nat} (F : Fun K "_law_tree" "_law_tree" st_l_tree a fd) : FnG P w K mg base (n + 1) a fd ["_law_pool_here", "_law_heads_here", "_law_kind_here", "_law_deep"] (spF K (runF 4 9 fun _ _ => .stuck)) :=
  fn_pd' (k := n) F sc_l_tree rfl rfl fun cdv A outer s E c hk hr => pd_nevers
def g_l_tree : Nat → Fn
  | 0 => runF 4 9 fun _ _ => .stuck
  | i + 1 => f_l_tree (g_l_tree i)

def p_l_counted : { s : Stmt // s = top 43 } := ⟨_, by conv => rhs; whnf⟩
abbrev st_l_counted : Stmt := p_l_counted.1
theorem sc_l_counted : FnScope ["_law_word", "_law_x", "_law_y"] ["_law_word", "_law_x", "_law_y"] (defScope st_l_counted) := ⟨rfl, rfl, rfl, by decide +kernel, rfl, by decide +kernel, by decide +kernel⟩
def sem_l_counted : Ms :=
  (sSeq (sIf (mTb (m2 inD (mV 0) (mPub (mLst (mCons (mC (.str "add")) (mCons (mC (.str "glue")) mNil))))))
  (sRet (m2 addD (mV 1) (mV 2)))
  sNx)
  (sSeq (sIf (mTb (m2 inD (mV 0) (mPub (mLst (mCons (mC (.str "sub")) (mCons (mC (.str "mul")) mNil))))))
  (sRet (mIf (mTb (m2 eqD (mV 0) (mC (.str "sub")))) (m2 subD (mV 1) (mV 2)) (m2 mulW (mV 1) (mV 2))))
  sNx)
  (sSeq (sIf (mTb (m2 inD (mV 0) (mPub (mLst (mCons (mC (.str "div")) (mCons (mC (.str "mod")) mNil))))))
  (sRet (mIf (mTb (m2 eqD (mV 2) (mC (.int 0)))) (mC .non) (mIf (mTb (m2 eqD (mV 0) (mC (.str "div")))) (m2 fdivW (mV 1) (mV 2)) (m2 modW (mV 1) (mV 2)))))
  sNx)
  (sRet (mIf (mTb (m2 eqD (mV 0) (mC (.str "eq")))) (m2 eqD (mV 1) (mV 2)) (mIf (mTb (m2 eqD (mV 0) (mC (.str "lt")))) (m2 ltV (mV 1) (mV 2)) (m2 leV (mV 1) (mV 2))))))))
def f_l_counted : Fn := runF 3 3 (sem_l_counted )
theorem ok_l_counted {P : Program} {w : World} {K : Fg} {mg : Str → Option Value} {base : Heap} {a : Addr} {fd : FuncData}  (F : Fun K "_law_counted" "_law_counted" st_l_counted a fd) (B : Bt mg) (BX : Bx mg)      :
    FnG P w K mg base (1) a fd ["_law_word", "_law_x", "_law_y"] (spF K (f_l_counted )) :=
  fn_pd' (sem := sem_l_counted ) (k := 0) F sc_l_counted rfl rfl fun cdv A outer s E c hk hr => have hK : K = c.K := hk.symm;
    (pd_seq (pd_sif (te_in hK (dv 0) (pd_pub (pd_lst (pd_ac pd_str (pd_ac pd_str pd_an)))))
      (pd_last (pd_ret (pd_add hK (dv 1) (dv 2))))
      pd_nil)
      (pd_seq (pd_sif (te_in hK (dv 0) (pd_pub (pd_lst (pd_ac pd_str (pd_ac pd_str pd_an)))))
      (pd_last (pd_ret (pd_if (te_eq hK hr (dv 0) pd_str) (pd_sub (dv 1) (dv 2)) (pd_mulW (dv 1) (dv 2)))))
      pd_nil)
      (pd_seq (pd_sif (te_in hK (dv 0) (pd_pub (pd_lst (pd_ac pd_str (pd_ac pd_str pd_an)))))
      (pd_last (pd_ret (pd_if (te_eq hK hr (dv 2) pd_int) pd_non (pd_if (te_eq hK hr (dv 0) pd_str) (pd_fdivW (dv 1) (dv 2)) (pd_modW (dv 1) (dv 2))))))
      pd_nil)
      (pd_last (pd_ret (pd_if (te_eq hK hr (dv 0) pd_str) (pd_eq hK hr (dv 1) (dv 2)) (pd_if (te_eq hK hr (dv 0) pd_str) (pd_ltV hr (dv 1) (dv 2)) (pd_leV hr (dv 1) (dv 2)))))))))

def p_l_value : { s : Stmt // s = top 44 } := ⟨_, by conv => rhs; whnf⟩
abbrev st_l_value : Stmt := p_l_value.1
theorem sc_l_value : FnScope ["_law_tree_here", "_law_places", "_law_line_here", "_law_word", "_law_some", "_law_part", "_law_strong"] ["_law_tree_here", "_law_places", "_law_line_here"] (defScope st_l_value) := ⟨rfl, rfl, rfl, by decide +kernel, rfl, by decide +kernel, by decide +kernel⟩
def sem_l_value (t : Fn) : Ms :=
  (sSeq (sSet 3 (m2 ixD (mV 0) (mC (.int 0))))
  (sSeq (sIf (mTb (m2 eqD (mV 3) (mC (.str "col"))))
  (sRet (m2 ixD (mV 2) (m2 dgetD (mV 1) (m2 ixD (mV 0) (mC (.int 1))))))
  sNx)
  (sSeq (sIf (mTb (m2 eqD (mV 3) (mC (.str "value"))))
  (sRet (m2 ixD (mV 0) (mC (.int 2))))
  sNx)
  (sSeq (sSetO 4 (mLc [5] (mItT (mSl kSlT (mV 0) (oS (mC (.int 1))) oN)) (gN 5) (fun _ m => .ok true m) (mCall t (mCons (mV 5) (mCons (mV 1) (mCons (mV 2) mNil))))))
  (sThaw1 4 (sSeq (sIf (mTb (m2 inD (mV 3) (mPub (mLst (mCons (mC (.str "and")) (mCons (mC (.str "or")) mNil))))))
  (sSeq (sSet 6 (m2 eqD (mV 3) (mC (.str "or"))))
  (sRet (mIf (mTb (m2 inD (mV 6) (mV 4))) (mV 6) (mIf (mTb (m2 inD (mC .non) (mV 4))) (mC .non) (m1 (fun d => (truD d).map fun b => .bl (!b)) (mV 6))))))
  sNx)
  (sSeq (sIf (mTb (m2 eqD (mV 3) (mC (.str "there"))))
  (sRet (m1 (fun d => some (.bl (!isNone d))) (m2 ixD (mV 4) (mC (.int 0)))))
  sNx)
  (sSeq (sIf (mTb (m2 eqD (mV 3) (mC (.str "if"))))
  (sRet (mIf (mTb (m1 (isBD true) (m2 ixD (mV 4) (mC (.int 0))))) (m2 ixD (mV 4) (mC (.int 1))) (m2 ixD (mV 4) (mC (.int 2)))))
  sNx)
  (sSeq (sIf (mTb (m2 eqD (mV 3) (mC (.str "else"))))
  (sRet (mIf (mTb (m1 (fun d => some (.bl (isNone d))) (m2 ixD (mV 4) (mC (.int 0))))) (m2 ixD (mV 4) (mC (.int 1))) (m2 ixD (mV 4) (mC (.int 0)))))
  sNx)
  (sSeq (sIf (mTb (m2 inD (mC .non) (mV 4)))
  (sRet (mC .non))
  sNx)
  (sSeq (sIf (mTb (m2 eqD (mV 3) (mC (.str "not"))))
  (sRet (m1 (fun d => (truD d).map fun b => .bl (!b)) (m2 ixD (mV 4) (mC (.int 0)))))
  sNx)
  (sRet (mIf (mTb (m2 eqD (mV 3) (mC (.str "size")))) (mB lenD (mCons (m2 ixD (mV 4) (mC (.int 0))) mNil)) (mCall f_l_counted (mCons (mV 3) (mCons (m2 ixD (mV 4) (mC (.int 0))) (mCons (m2 ixD (mV 4) (mC (.int 1))) mNil)))))))))))))))))
def f_l_value (t : Fn) : Fn := runF 3 7 (sem_l_value t)
theorem ok_l_value {P : Program} {w : World} {K : Fg} {mg : Str → Option Value} {base : Heap} {a : Addr} {fd : FuncData} {t : Fn} {n : Nat}  (hn : 10 ≤ n) (F : Fun K "_law_value" "_law_value" st_l_value a fd) (B : Bt mg) (BX : Bx mg) (F_l_value : Df P w K mg base (n) "_law_value" 3 t) (F_l_counted : Df P w K mg base (1) "_law_counted" 3 f_l_counted)     :
    FnG P w K mg base (n + 1) a fd ["_law_tree_here", "_law_places", "_law_line_here"] (spF K (f_l_value t)) :=
  fn_pd' (sem := sem_l_value t) (k := n) F sc_l_value rfl rfl fun cdv A outer s E c hk hr => have hK : K = c.K := hk.symm;
    (pd_seq (pd_set (i := 3) sc_l_value.nd rfl (by first | exact Or.inl rfl | exact Or.inr rfl) (pd_ix hK (dv 0) pd_int (fun _ _ => rfl)))
      (pd_seq (pd_sif (te_eq hK hr (dv 3) pd_str)
      (pd_last (pd_ret (pd_ix hK (dv 2) (pd_dget hK (dv 1) (pd_ix hK (dv 0) pd_int (fun _ _ => rfl))) (fun _ _ => rfl))))
      pd_nil)
      (pd_seq (pd_sif (te_eq hK hr (dv 3) pd_str)
      (pd_last (pd_ret (pd_ix hK (dv 0) pd_int (fun _ _ => rfl))))
      pd_nil)
      (pd_seq (pd_setLc (i := 4) (hy := rfl) (hyl := rfl) (hsw := sw_true rfl rfl rfl (by decide +kernel)) (own := [("_law_part", 5)]) (hc := rfl) (hN := sc_l_value.nd) (hi := (pi_t hK (pd_slT hK (dv 0) (pd_os pd_int) pd_on))) (ok := blkOk_by (N := ["_law_tree_here", "_law_places", "_law_line_here", "_law_word", "_law_some", "_law_part", "_law_strong"]) (sc := defScope st_l_value) (by decide +kernel)) (hg := fun _ _ _ _ _ => (pg_n sc_l_value.nd rfl (by first | exact Or.inl rfl | exact Or.inr rfl))) (ht := fun _ _ _ _ _ => pts_y) (he := fun _ _ _ _ _ => (pd_call F_l_value hK hr (by omega) rfl (pd_ac (dv 5) (pd_ac (dv 1) (pd_ac (dv 2) pd_an))))))
      (pd_thaws1 4 (pd_seq (pd_sif (te_in hK (dv 3) (pd_pub (pd_lst (pd_ac pd_str (pd_ac pd_str pd_an)))))
      (pd_seq (pd_set (i := 6) sc_l_value.nd rfl (by first | exact Or.inl rfl | exact Or.inr rfl) (pd_eq hK hr (dv 3) pd_str))
      (pd_last (pd_ret (pd_if (te_in hK (dv 6) (dv 4)) (dv 6) (pd_if (te_in hK pd_non (dv 4)) pd_non (pd_not hK (dv 6)))))))
      pd_nil)
      (pd_seq (pd_sif (te_eq hK hr (dv 3) pd_str)
      (pd_last (pd_ret (pd_notN (pd_ix hK (dv 4) pd_int (fun _ _ => rfl)))))
      pd_nil)
      (pd_seq (pd_sif (te_eq hK hr (dv 3) pd_str)
      (pd_last (pd_ret (pd_if (te_isB (pd_ix hK (dv 4) pd_int (fun _ _ => rfl))) (pd_ix hK (dv 4) pd_int (fun _ _ => rfl)) (pd_ix hK (dv 4) pd_int (fun _ _ => rfl)))))
      pd_nil)
      (pd_seq (pd_sif (te_eq hK hr (dv 3) pd_str)
      (pd_last (pd_ret (pd_if (pd_tisN (pd_ix hK (dv 4) pd_int (fun _ _ => rfl))) (pd_ix hK (dv 4) pd_int (fun _ _ => rfl)) (pd_ix hK (dv 4) pd_int (fun _ _ => rfl)))))
      pd_nil)
      (pd_seq (pd_sif (te_in hK pd_non (dv 4))
      (pd_last (pd_ret pd_non))
      pd_nil)
      (pd_seq (pd_sif (te_eq hK hr (dv 3) pd_str)
      (pd_last (pd_ret (pd_not hK (pd_ix hK (dv 4) pd_int (fun _ _ => rfl)))))
      pd_nil)
      (pd_last (pd_ret (pd_if (te_eq hK hr (dv 3) pd_str) (pb_len hK rfl rfl B.len (pd_ac (pd_ix hK (dv 4) pd_int (fun _ _ => rfl)) pd_an)) (pd_call F_l_counted hK hr (by omega) rfl (pd_ac (dv 3) (pd_ac (pd_ix hK (dv 4) pd_int (fun _ _ => rfl)) (pd_ac (pd_ix hK (dv 4) pd_int (fun _ _ => rfl)) pd_an))))))))))))))))))
theorem no_l_value {P : Program} {w : World} {K : Fg} {mg : Str → Option Value} {base : Heap} {a : Addr} {fd : FuncData} {n : Nat} (F : Fun K "_law_value" "_law_value" st_l_value a fd) : FnG P w K mg base (n + 1) a fd ["_law_tree_here", "_law_places", "_law_line_here"] (spF K (runF 3 7 fun _ _ => .stuck)) :=
  fn_pd' (k := n) F sc_l_value rfl rfl fun cdv A outer s E c hk hr => pd_nevers
def g_l_value : Nat → Fn
  | 0 => runF 3 7 fun _ _ => .stuck
  | i + 1 => f_l_value (g_l_value i)

def p_l_size : { s : Stmt // s = top 45 } := ⟨_, by conv => rhs; whnf⟩
abbrev st_l_size : Stmt := p_l_size.1
theorem sc_l_size : FnScope ["_law_tree_here", "_law_part"] ["_law_tree_here"] (defScope st_l_size) := ⟨rfl, rfl, rfl, by decide +kernel, rfl, by decide +kernel, by decide +kernel⟩
def sem_l_size (t : Fn) : Ms :=
  (sSeq (sIf (mTb (m2 inD (m2 ixD (mV 0) (mC (.int 0))) (mPub (mLst (mCons (mC (.str "col")) (mCons (mC (.str "value")) mNil))))))
  (sRet (mC (.int 1)))
  sNx)
  (sRet (m2 addD (mC (.int 1)) (mB sumD (mCons (mPub (mLc [1] (mItT (mSl kSlT (mV 0) (oS (mC (.int 1))) oN)) (gN 1) (fun _ m => .ok true m) (mCall t (mCons (mV 1) mNil)))) mNil)))))
def f_l_size (t : Fn) : Fn := runF 1 2 (sem_l_size t)
theorem ok_l_size {P : Program} {w : World} {K : Fg} {mg : Str → Option Value} {base : Heap} {a : Addr} {fd : FuncData} {t : Fn} {n : Nat}  (hn : 10 ≤ n) (F : Fun K "_law_size" "_law_size" st_l_size a fd) (B : Bt mg) (BX : Bx mg) (F_l_size : Df P w K mg base (n) "_law_size" 1 t)     :
    FnG P w K mg base (n + 1) a fd ["_law_tree_here"] (spF K (f_l_size t)) :=
  fn_pd' (sem := sem_l_size t) (k := n) F sc_l_size rfl rfl fun cdv A outer s E c hk hr => have hK : K = c.K := hk.symm;
    (pd_seq (pd_sif (te_in hK (pd_ix hK (dv 0) pd_int (fun _ _ => rfl)) (pd_pub (pd_lst (pd_ac pd_str (pd_ac pd_str pd_an)))))
      (pd_last (pd_ret pd_int))
      pd_nil)
      (pd_last (pd_ret (pd_add hK pd_int (pb_sum hK rfl rfl BX.sum (pd_ac (pd_pub (pd_lc (own := [("_law_part", 1)]) (hc := rfl) (hN := sc_l_size.nd) (hi := (pi_t hK (pd_slT hK (dv 0) (pd_os pd_int) pd_on))) (ok := blkOk_by (N := ["_law_tree_here", "_law_part"]) (sc := defScope st_l_size) (by decide +kernel)) (hg := fun _ _ _ _ _ => (pg_n sc_l_size.nd rfl (by first | exact Or.inl rfl | exact Or.inr rfl))) (ht := fun _ _ _ _ _ => pts_y) (he := fun _ _ _ _ _ => (pd_call F_l_size hK hr (by omega) rfl (pd_ac (dv 1) pd_an))))) pd_an))))))
theorem no_l_size {P : Program} {w : World} {K : Fg} {mg : Str → Option Value} {base : Heap} {a : Addr} {fd : FuncData} {n : Nat} (F : Fun K "_law_size" "_law_size" st_l_size a fd) : FnG P w K mg base (n + 1) a fd ["_law_tree_here"] (spF K (runF 1 2 fun _ _ => .stuck)) :=
  fn_pd' (k := n) F sc_l_size rfl rfl fun cdv A outer s E c hk hr => pd_nevers
def g_l_size : Nat → Fn
  | 0 => runF 1 2 fun _ _ => .stuck
  | i + 1 => f_l_size (g_l_size i)

def p_l_fit : { s : Stmt // s = top 46 } := ⟨_, by conv => rhs; whnf⟩
abbrev st_l_fit : Stmt := p_l_fit.1
theorem sc_l_fit : FnScope ["_law_pool_here", "_law_heads_here", "_law_kind_here", "_law_deep", "_law_turn", "_law_tree_here"] ["_law_pool_here", "_law_heads_here", "_law_kind_here", "_law_deep"] (defScope st_l_fit) := ⟨rfl, rfl, rfl, by decide +kernel, rfl, by decide +kernel, by decide +kernel⟩
def sem_l_fit : Ms :=
  (sSeq (sFor (mItR (mC (.int 4))) (gN 4)
  (sSeq (sSet 5 (mCall (g_l_tree 8) (mCons (mV 0) (mCons (mV 1) (mCons (mV 2) (mCons (mV 3) mNil))))))
  (sIf (mTb (m2 ltD (mCall (g_l_size 9) (mCons (mV 5) mNil)) (mC (.int 41))))
  (sRet (mV 5))
  sNx)))
  (sRet (mCall f_l_leaf (mCons (mV 0) (mCons (mV 1) (mCons (mV 2) mNil))))))
def f_l_fit : Fn := runF 4 6 (sem_l_fit )
theorem ok_l_fit {P : Program} {w : World} {K : Fg} {mg : Str → Option Value} {base : Heap} {a : Addr} {fd : FuncData}  (F : Fun K "_law_fit" "_law_fit" st_l_fit a fd) (B : Bt mg) (BX : Bx mg) (F_l_tree : Df P w K mg base (35) "_law_tree" 4 (g_l_tree 8)) (F_l_size : Df P w K mg base (20) "_law_size" 1 (g_l_size 9)) (F_l_leaf : Df P w K mg base (3) "_law_leaf" 3 f_l_leaf)     :
    FnG P w K mg base (45) a fd ["_law_pool_here", "_law_heads_here", "_law_kind_here", "_law_deep"] (spF K (f_l_fit )) :=
  fn_pd' (sem := sem_l_fit ) (k := 44) F sc_l_fit rfl rfl fun cdv A outer s E c hk hr => have hK : K = c.K := hk.symm;
    (pd_seq (pd_for PassesOwn.never rfl (pi_r1 rfl B.range pd_int) (pg_n sc_l_fit.nd rfl (by first | exact Or.inl rfl | exact Or.inr rfl))
      (pd_seq (pd_set (i := 5) sc_l_fit.nd rfl (by first | exact Or.inl rfl | exact Or.inr rfl) (pd_call F_l_tree hK hr (by omega) rfl (pd_ac (dv 0) (pd_ac (dv 1) (pd_ac (dv 2) (pd_ac (dv 3) pd_an))))))
      (pd_last (pd_sif (te_lt (pd_call F_l_size hK hr (by omega) rfl (pd_ac (dv 5) pd_an)) pd_int)
      (pd_last (pd_ret (dv 5)))
      pd_nil))))
      (pd_last (pd_ret (pd_call F_l_leaf hK hr (by omega) rfl (pd_ac (dv 0) (pd_ac (dv 1) (pd_ac (dv 2) pd_an)))))))

def p_l_wanted : { s : Stmt // s = top 47 } := ⟨_, by conv => rhs; whnf⟩
abbrev st_l_wanted : Stmt := p_l_wanted.1
theorem sc_l_wanted : FnScope ["_law_word", "_law_kinds"] ["_law_word", "_law_kinds"] (defScope st_l_wanted) := ⟨rfl, rfl, rfl, by decide +kernel, rfl, by decide +kernel, by decide +kernel⟩
def sem_l_wanted : Ms :=
  (sSeq (sIf (mTb (m2 inD (mV 0) (mPub (mLst (mCons (mC (.str "add")) (mCons (mC (.str "sub")) (mCons (mC (.str "mul")) (mCons (mC (.str "div")) (mCons (mC (.str "mod")) mNil)))))))))
  (sRet (mIf (mTb (m2 eqD (mV 1) (mPub (mLst (mCons (mC (.str "int")) (mCons (mC (.str "int")) mNil)))))) (mC (.str "int")) (mC .non)))
  sNx)
  (sSeq (sIf (mTb (m2 inD (mV 0) (mPub (mLst (mCons (mC (.str "eq")) (mCons (mC (.str "lt")) (mCons (mC (.str "le")) mNil)))))))
  (sRet (mIf (mTb (m2 eqD (m2 ixD (mV 1) (mC (.int 0))) (m2 ixD (mV 1) (mC (.int 1))))) (mC (.str "bool")) (mC .non)))
  sNx)
  (sSeq (sIf (mTb (m2 inD (mV 0) (mPub (mLst (mCons (mC (.str "and")) (mCons (mC (.str "or")) (mCons (mC (.str "not")) mNil)))))))
  (sRet (mIf (mTb (m2 eqD (mV 1) (mPub (mRep (mLst (mCons (mC (.str "bool")) mNil)) (mB lenD (mCons (mV 1) mNil)))))) (mC (.str "bool")) (mC .non)))
  sNx)
  (sSeq (sIf (mTb (m2 eqD (mV 0) (mC (.str "if"))))
  (sRet (mIf (mAnd (mTb (m2 eqD (m2 ixD (mV 1) (mC (.int 0))) (mC (.str "bool")))) (mTb (m2 eqD (m2 ixD (mV 1) (mC (.int 1))) (m2 ixD (mV 1) (mC (.int 2)))))) (m2 ixD (mV 1) (mC (.int 1))) (mC .non)))
  sNx)
  (sSeq (sIf (mTb (m2 eqD (mV 0) (mC (.str "else"))))
  (sRet (mIf (mTb (m2 eqD (m2 ixD (mV 1) (mC (.int 0))) (m2 ixD (mV 1) (mC (.int 1))))) (m2 ixD (mV 1) (mC (.int 0))) (mC .non)))
  sNx)
  (sSeq (sIf (mTb (m2 eqD (mV 0) (mC (.str "there"))))
  (sRet (mC (.str "bool")))
  sNx)
  (sSeq (sIf (mTb (m2 eqD (mV 0) (mC (.str "glue"))))
  (sRet (mIf (mTb (m2 eqD (mV 1) (mPub (mLst (mCons (mC (.str "text")) (mCons (mC (.str "text")) mNil)))))) (mC (.str "text")) (mC .non)))
  sNx)
  (sRet (mIf (mTb (m2 eqD (mV 1) (mPub (mLst (mCons (mC (.str "text")) mNil))))) (mC (.str "int")) (mC .non))))))))))
def f_l_wanted : Fn := runF 2 2 (sem_l_wanted )
theorem ok_l_wanted {P : Program} {w : World} {K : Fg} {mg : Str → Option Value} {base : Heap} {a : Addr} {fd : FuncData}  (F : Fun K "_law_wanted" "_law_wanted" st_l_wanted a fd) (B : Bt mg) (BX : Bx mg)      :
    FnG P w K mg base (1) a fd ["_law_word", "_law_kinds"] (spF K (f_l_wanted )) :=
  fn_pd' (sem := sem_l_wanted ) (k := 0) F sc_l_wanted rfl rfl fun cdv A outer s E c hk hr => have hK : K = c.K := hk.symm;
    (pd_seq (pd_sif (te_in hK (dv 0) (pd_pub (pd_lst (pd_ac pd_str (pd_ac pd_str (pd_ac pd_str (pd_ac pd_str (pd_ac pd_str pd_an))))))))
      (pd_last (pd_ret (pd_if (te_eq hK hr (dv 1) (pd_pub (pd_lst (pd_ac pd_str (pd_ac pd_str pd_an))))) pd_str pd_non)))
      pd_nil)
      (pd_seq (pd_sif (te_in hK (dv 0) (pd_pub (pd_lst (pd_ac pd_str (pd_ac pd_str (pd_ac pd_str pd_an))))))
      (pd_last (pd_ret (pd_if (te_eq hK hr (pd_ix hK (dv 1) pd_int (fun _ _ => rfl)) (pd_ix hK (dv 1) pd_int (fun _ _ => rfl))) pd_str pd_non)))
      pd_nil)
      (pd_seq (pd_sif (te_in hK (dv 0) (pd_pub (pd_lst (pd_ac pd_str (pd_ac pd_str (pd_ac pd_str pd_an))))))
      (pd_last (pd_ret (pd_if (te_eq hK hr (dv 1) (pd_pub (pd_rep (pd_rL (pd_lst (pd_ac pd_str pd_an))) (pb_len hK rfl rfl B.len (pd_ac (dv 1) pd_an))))) pd_str pd_non)))
      pd_nil)
      (pd_seq (pd_sif (te_eq hK hr (dv 0) pd_str)
      (pd_last (pd_ret (pd_if (PW.pt (pd_wand (te_eq hK hr (pd_ix hK (dv 1) pd_int (fun _ _ => rfl)) pd_str) (pd_wand1 (te_eq hK hr (pd_ix hK (dv 1) pd_int (fun _ _ => rfl)) (pd_ix hK (dv 1) pd_int (fun _ _ => rfl)))))) (pd_ix hK (dv 1) pd_int (fun _ _ => rfl)) pd_non)))
      pd_nil)
      (pd_seq (pd_sif (te_eq hK hr (dv 0) pd_str)
      (pd_last (pd_ret (pd_if (te_eq hK hr (pd_ix hK (dv 1) pd_int (fun _ _ => rfl)) (pd_ix hK (dv 1) pd_int (fun _ _ => rfl))) (pd_ix hK (dv 1) pd_int (fun _ _ => rfl)) pd_non)))
      pd_nil)
      (pd_seq (pd_sif (te_eq hK hr (dv 0) pd_str)
      (pd_last (pd_ret pd_str))
      pd_nil)
      (pd_seq (pd_sif (te_eq hK hr (dv 0) pd_str)
      (pd_last (pd_ret (pd_if (te_eq hK hr (dv 1) (pd_pub (pd_lst (pd_ac pd_str (pd_ac pd_str pd_an))))) pd_str pd_non)))
      pd_nil)
      (pd_last (pd_ret (pd_if (te_eq hK hr (dv 1) (pd_pub (pd_lst (pd_ac pd_str pd_an)))) pd_str pd_non))))))))))

def p_l_swapped : { s : Stmt // s = top 48 } := ⟨_, by conv => rhs; whnf⟩
abbrev st_l_swapped : Stmt := p_l_swapped.1
theorem sc_l_swapped : FnScope ["_law_pool_here", "_law_heads_here", "_law_tree_here", "_law_deep", "_law_at", "_law_part"] ["_law_pool_here", "_law_heads_here", "_law_tree_here", "_law_deep"] (defScope st_l_swapped) := ⟨rfl, rfl, rfl, by decide +kernel, rfl, by decide +kernel, by decide +kernel⟩
def sem_l_swapped (t : Fn) : Ms :=
  (sSeq (sIf (mOr (mTb (m2 inD (m2 ixD (mV 2) (mC (.int 0))) (mPub (mLst (mCons (mC (.str "col")) (mCons (mC (.str "value")) mNil)))))) (mOr (mTb (m2 eqD (mV 3) (mC (.int 0)))) (mTb (m2 eqD (mCall fDraw (mCons (mV 0) (mCons (mC (.int 4)) mNil))) (mC (.int 0))))))
  (sSeq (sIf (mTb (m2 eqD (mCall fDraw (mCons (mV 0) (mCons (mC (.int 3)) mNil))) (mC (.int 0))))
  (sRet (mTup (mCons (mC (.str "col")) (mCons (m2 ixD (mPub (mLst (mCons (mC (.str "nope")) (mCons (mC (.str "zz")) (mCons (mC (.str "none")) (mCons (mC (.str "q")) mNil)))))) (mCall fDraw (mCons (mV 0) (mCons (mC (.int 4)) mNil)))) mNil))))
  sNx)
  (sRet (mCall f_l_leaf (mCons (mV 0) (mCons (mV 1) (mCons (m2 ixD (mPub (mLst (mCons (mC (.str "int")) (mCons (mC (.str "text")) (mCons (mC (.str "bool")) mNil))))) (mCall fDraw (mCons (mV 0) (mCons (mC (.int 3)) mNil)))) mNil))))))
  sNx)
  (sSeq (sSet 4 (m2 addD (mC (.int 1)) (mCall fDraw (mCons (mV 0) (mCons (m2 subD (mB lenD (mCons (mV 2) mNil)) (mC (.int 1))) mNil)))))
  (sSeq (sSet 5 (mCall t (mCons (mV 0) (mCons (mV 1) (mCons (m2 ixD (mV 2) (mV 4)) (mCons (m2 subD (mV 3) (mC (.int 1))) mNil))))))
  (sRet (m2 addD (m2 addD (mSl kSlT (mV 2) oN (oS (mV 4))) (mTup (mCons (mV 5) mNil))) (mSl kSlT (mV 2) (oS (m2 addD (mV 4) (mC (.int 1)))) oN))))))
def f_l_swapped (t : Fn) : Fn := runF 4 6 (sem_l_swapped t)
theorem ok_l_swapped {P : Program} {w : World} {K : Fg} {mg : Str → Option Value} {base : Heap} {a : Addr} {fd : FuncData} {t : Fn} {n : Nat}  (hn : 10 ≤ n) (F : Fun K "_law_swapped" "_law_swapped" st_l_swapped a fd) (B : Bt mg) (BX : Bx mg) (F_l_draw : Df P w K mg base (1) "_law_draw" 2 fDraw) (F_l_leaf : Df P w K mg base (3) "_law_leaf" 3 f_l_leaf) (F_l_swapped : Df P w K mg base (n) "_law_swapped" 4 t)     :
    FnG P w K mg base (n + 1) a fd ["_law_pool_here", "_law_heads_here", "_law_tree_here", "_law_deep"] (spF K (f_l_swapped t)) :=
  fn_pd' (sem := sem_l_swapped t) (k := n) F sc_l_swapped rfl rfl fun cdv A outer s E c hk hr => have hK : K = c.K := hk.symm;
    (pd_seq (pd_sif (PW.pt (pd_wor (te_in hK (pd_ix hK (dv 2) pd_int (fun _ _ => rfl)) (pd_pub (pd_lst (pd_ac pd_str (pd_ac pd_str pd_an))))) (pd_wor (te_eq hK hr (dv 3) pd_int) (pd_wor1 (te_eq hK hr (pd_call F_l_draw hK hr (by omega) rfl (pd_ac (dv 0) (pd_ac pd_int pd_an))) pd_int)))))
      (pd_seq (pd_sif (te_eq hK hr (pd_call F_l_draw hK hr (by omega) rfl (pd_ac (dv 0) (pd_ac pd_int pd_an))) pd_int)
      (pd_last (pd_ret (pd_tup (pd_ac pd_str (pd_ac (pd_ix hK (pd_pub (pd_lst (pd_ac pd_str (pd_ac pd_str (pd_ac pd_str (pd_ac pd_str pd_an)))))) (pd_call F_l_draw hK hr (by omega) rfl (pd_ac (dv 0) (pd_ac pd_int pd_an))) (fun _ _ => rfl)) pd_an)))))
      pd_nil)
      (pd_last (pd_ret (pd_call F_l_leaf hK hr (by omega) rfl (pd_ac (dv 0) (pd_ac (dv 1) (pd_ac (pd_ix hK (pd_pub (pd_lst (pd_ac pd_str (pd_ac pd_str (pd_ac pd_str pd_an))))) (pd_call F_l_draw hK hr (by omega) rfl (pd_ac (dv 0) (pd_ac pd_int pd_an))) (fun _ _ => rfl)) pd_an)))))))
      pd_nil)
      (pd_seq (pd_set (i := 4) sc_l_swapped.nd rfl (by first | exact Or.inl rfl | exact Or.inr rfl) (pd_add hK pd_int (pd_call F_l_draw hK hr (by omega) rfl (pd_ac (dv 0) (pd_ac (pd_sub (pb_len hK rfl rfl B.len (pd_ac (dv 2) pd_an)) pd_int) pd_an)))))
      (pd_seq (pd_set (i := 5) sc_l_swapped.nd rfl (by first | exact Or.inl rfl | exact Or.inr rfl) (pd_call F_l_swapped hK hr (by omega) rfl (pd_ac (dv 0) (pd_ac (dv 1) (pd_ac (pd_ix hK (dv 2) (dv 4) (fun _ _ => rfl)) (pd_ac (pd_sub (dv 3) pd_int) pd_an))))))
      (pd_last (pd_ret (pd_add hK (pd_add hK (pd_slT hK (dv 2) pd_on (pd_os (dv 4))) (pd_tup (pd_ac (dv 5) pd_an))) (pd_slT hK (dv 2) (pd_os (pd_add hK (dv 4) pd_int)) pd_on)))))))
theorem no_l_swapped {P : Program} {w : World} {K : Fg} {mg : Str → Option Value} {base : Heap} {a : Addr} {fd : FuncData} {n : Nat} (F : Fun K "_law_swapped" "_law_swapped" st_l_swapped a fd) : FnG P w K mg base (n + 1) a fd ["_law_pool_here", "_law_heads_here", "_law_tree_here", "_law_deep"] (spF K (runF 4 6 fun _ _ => .stuck)) :=
  fn_pd' (k := n) F sc_l_swapped rfl rfl fun cdv A outer s E c hk hr => pd_nevers
def g_l_swapped : Nat → Fn
  | 0 => runF 4 6 fun _ _ => .stuck
  | i + 1 => f_l_swapped (g_l_swapped i)

def p_l_folded : { s : Stmt // s = top 49 } := ⟨_, by conv => rhs; whnf⟩
abbrev st_l_folded : Stmt := p_l_folded.1
theorem sc_l_folded : FnScope ["_law_tree_here", "_law_word", "_law_some", "_law_part", "_law_whole", "_law_kind_here", "_law_k", "_law_truth"] ["_law_tree_here"] (defScope st_l_folded) := ⟨rfl, rfl, rfl, by decide +kernel, rfl, by decide +kernel, by decide +kernel⟩
def sem_l_folded (t : Fn) : Ms :=
  (sSeq (sIf (mTb (m2 inD (m2 ixD (mV 0) (mC (.int 0))) (mPub (mLst (mCons (mC (.str "col")) (mCons (mC (.str "value")) mNil))))))
  (sRet (mV 0))
  sNx)
  (sSeq (sPar [1, 2] (oDat (m2 ixD (mV 0) (mC (.int 0))) (oDat (mPub (mLc [3] (mItT (mSl kSlT (mV 0) (oS (mC (.int 1))) oN)) (gN 3) (fun _ m => .ok true m) (mCall t (mCons (mV 3) mNil)))) oNil)))
  (sSeq (sSet 4 (m2 addD (mTup (mCons (mV 1) mNil)) (mB tupleD (mCons (mV 2) mNil))))
  (sSeq (sIf (mTb (m2 eqD (mPub (mLc [3] (mItL (mV 2)) (gN 3) (fun _ m => .ok true m) (m2 ixD (mV 3) (mC (.int 0))))) (mPub (mRep (mLst (mCons (mC (.str "value")) mNil)) (mB lenD (mCons (mV 2) mNil))))))
  (sSeq (sSet 5 (mCall f_l_wanted (mCons (mV 1) (mCons (mPub (mLc [3] (mItL (mV 2)) (gN 3) (fun _ m => .ok true m) (m2 ixD (mV 3) (mC (.int 1))))) mNil))))
  (sIf (mTb (m1 (fun d => some (.bl (!isNone d))) (mV 5)))
  (sRet (mTup (mCons (mC (.str "value")) (mCons (mV 5) (mCons (mCall (g_l_value 9) (mCons (mV 4) (mCons (mC (.dct [])) (mCons (mTup mNil) mNil)))) mNil)))))
  sNx))
  sNx)
  (sSeq (sIf (mTb (m2 inD (mV 1) (mPub (mLst (mCons (mC (.str "and")) (mCons (mC (.str "or")) mNil))))))
  (sFor (mItR (mC (.int 2))) (gN 6)
  (sSeq (sSet 7 (mIf (mTb (m2 eqD (mSl kSlT (m2 ixD (mV 2) (mV 6)) oN (oS (mC (.int 2)))) (mTup (mCons (mC (.str "value")) (mCons (mC (.str "bool")) mNil))))) (m2 ixD (m2 ixD (mV 2) (mV 6)) (mC (.int 2))) (mC .non)))
  (sIf (mTb (m1 (fun d => some (.bl (!isNone d))) (mV 7)))
  (sRet (mIf (mTb (m2 eqD (mV 7) (m2 eqD (mV 1) (mC (.str "and"))))) (m2 ixD (mV 2) (m2 subD (mC (.int 1)) (mV 6))) (m2 ixD (mV 2) (mV 6))))
  sNx)))
  sNx)
  (sSeq (sIf (mAnd (mTb (m2 eqD (mV 1) (mC (.str "not")))) (mTb (m2 eqD (m2 ixD (m2 ixD (mV 2) (mC (.int 0))) (mC (.int 0))) (mC (.str "not")))))
  (sRet (m2 ixD (m2 ixD (mV 2) (mC (.int 0))) (mC (.int 1))))
  sNx)
  (sSeq (sIf (mAnd (mTb (m2 eqD (mV 1) (mC (.str "if")))) (mTb (m2 eqD (m2 ixD (m2 ixD (mV 2) (mC (.int 0))) (mC (.int 0))) (mC (.str "value")))))
  (sRet (mIf (mTb (m1 (isBD true) (m2 ixD (m2 ixD (mV 2) (mC (.int 0))) (mC (.int 2))))) (m2 ixD (mV 2) (mC (.int 1))) (m2 ixD (mV 2) (mC (.int 2)))))
  sNx)
  (sSeq (sIf (mAnd (mTb (m2 eqD (mV 1) (mC (.str "else")))) (mTb (m2 eqD (m2 ixD (m2 ixD (mV 2) (mC (.int 0))) (mC (.int 0))) (mC (.str "value")))))
  (sRet (mIf (mTb (m1 (fun d => some (.bl (isNone d))) (m2 ixD (m2 ixD (mV 2) (mC (.int 0))) (mC (.int 2))))) (m2 ixD (mV 2) (mC (.int 1))) (m2 ixD (mV 2) (mC (.int 0)))))
  sNx)
  (sRet (mV 4))))))))))
def f_l_folded (t : Fn) : Fn := runF 1 8 (sem_l_folded t)
theorem ok_l_folded {P : Program} {w : World} {K : Fg} {mg : Str → Option Value} {base : Heap} {a : Addr} {fd : FuncData} {t : Fn} {n : Nat}  (hn : 30 ≤ n) (F : Fun K "_law_folded" "_law_folded" st_l_folded a fd) (B : Bt mg) (BX : Bx mg) (F_l_folded : Df P w K mg base (n) "_law_folded" 1 t) (F_l_wanted : Df P w K mg base (1) "_law_wanted" 2 f_l_wanted) (F_l_value : Df P w K mg base (20) "_law_value" 3 (g_l_value 9))     :
    FnG P w K mg base (n + 1) a fd ["_law_tree_here"] (spF K (f_l_folded t)) :=
  fn_pd' (sem := sem_l_folded t) (k := n) F sc_l_folded rfl rfl fun cdv A outer s E c hk hr => have hK : K = c.K := hk.symm;
    (pd_seq (pd_sif (te_in hK (pd_ix hK (dv 0) pd_int (fun _ _ => rfl)) (pd_pub (pd_lst (pd_ac pd_str (pd_ac pd_str pd_an)))))
      (pd_last (pd_ret (dv 0)))
      pd_nil)
      (pd_seq (pd_par2 (i := 1) (k := 2) rfl sc_l_folded.nd rfl rfl (by decide) rfl rfl (po_d (pd_ix hK (dv 0) pd_int (fun _ _ => rfl)) (po_d (pd_pub (pd_lc (own := [("_law_part", 3)]) (hc := rfl) (hN := sc_l_folded.nd) (hi := (pi_t hK (pd_slT hK (dv 0) (pd_os pd_int) pd_on))) (ok := blkOk_by (N := ["_law_tree_here", "_law_word", "_law_some", "_law_part", "_law_whole", "_law_kind_here", "_law_k", "_law_truth"]) (sc := defScope st_l_folded) (by decide +kernel)) (hg := fun _ _ _ _ _ => (pg_n sc_l_folded.nd rfl (by first | exact Or.inl rfl | exact Or.inr rfl))) (ht := fun _ _ _ _ _ => pts_y) (he := fun _ _ _ _ _ => (pd_call F_l_folded hK hr (by omega) rfl (pd_ac (dv 3) pd_an))))) po_n)) (by rfl))
      (pd_seq (pd_set (i := 4) sc_l_folded.nd rfl (by first | exact Or.inl rfl | exact Or.inr rfl) (pd_add hK (pd_tup (pd_ac (dv 1) pd_an)) (pb_tuple hK rfl rfl B.tuple (pd_ac (dv 2) pd_an))))
      (pd_seq (pd_sif (te_eq hK hr (pd_pub (pd_lc (own := [("_law_part", 3)]) (hc := rfl) (hN := sc_l_folded.nd) (hi := (pi_l hK (dv 2))) (ok := blkOk_by (N := ["_law_tree_here", "_law_word", "_law_some", "_law_part", "_law_whole", "_law_kind_here", "_law_k", "_law_truth"]) (sc := defScope st_l_folded) (by decide +kernel)) (hg := fun _ _ _ _ _ => (pg_n sc_l_folded.nd rfl (by first | exact Or.inl rfl | exact Or.inr rfl))) (ht := fun _ _ _ _ _ => pts_y) (he := fun _ _ _ _ _ => (pd_ix hK (dv 3) pd_int (fun _ _ => rfl))))) (pd_pub (pd_rep (pd_rL (pd_lst (pd_ac pd_str pd_an))) (pb_len hK rfl rfl B.len (pd_ac (dv 2) pd_an)))))
      (pd_seq (pd_set (i := 5) sc_l_folded.nd rfl (by first | exact Or.inl rfl | exact Or.inr rfl) (pd_call F_l_wanted hK hr (by omega) rfl (pd_ac (dv 1) (pd_ac (pd_pub (pd_lc (own := [("_law_part", 3)]) (hc := rfl) (hN := sc_l_folded.nd) (hi := (pi_l hK (dv 2))) (ok := blkOk_by (N := ["_law_tree_here", "_law_word", "_law_some", "_law_part", "_law_whole", "_law_kind_here", "_law_k", "_law_truth"]) (sc := defScope st_l_folded) (by decide +kernel)) (hg := fun _ _ _ _ _ => (pg_n sc_l_folded.nd rfl (by first | exact Or.inl rfl | exact Or.inr rfl))) (ht := fun _ _ _ _ _ => pts_y) (he := fun _ _ _ _ _ => (pd_ix hK (dv 3) pd_int (fun _ _ => rfl))))) pd_an))))
      (pd_last (pd_sif (pd_tnotN (dv 5))
      (pd_last (pd_ret (pd_tup (pd_ac pd_str (pd_ac (dv 5) (pd_ac (pd_call F_l_value hK hr (by omega) rfl (pd_ac (dv 4) (pd_ac pd_dnew (pd_ac (pd_tup pd_an) pd_an)))) pd_an))))))
      pd_nil)))
      pd_nil)
      (pd_seq (pd_sif (te_in hK (dv 1) (pd_pub (pd_lst (pd_ac pd_str (pd_ac pd_str pd_an)))))
      (pd_last (pd_for PassesOwn.never rfl (pi_r1 rfl B.range pd_int) (pg_n sc_l_folded.nd rfl (by first | exact Or.inl rfl | exact Or.inr rfl))
      (pd_seq (pd_set (i := 7) sc_l_folded.nd rfl (by first | exact Or.inl rfl | exact Or.inr rfl) (pd_if (te_eq hK hr (pd_slT hK (pd_ix hK (dv 2) (dv 6) (fun _ _ => rfl)) pd_on (pd_os pd_int)) (pd_tup (pd_ac pd_str (pd_ac pd_str pd_an)))) (pd_ix hK (pd_ix hK (dv 2) (dv 6) (fun _ _ => rfl)) pd_int (fun _ _ => rfl)) pd_non))
      (pd_last (pd_sif (pd_tnotN (dv 7))
      (pd_last (pd_ret (pd_if (te_eq hK hr (dv 7) (pd_eq hK hr (dv 1) pd_str)) (pd_ix hK (dv 2) (pd_sub pd_int (dv 6)) (fun _ _ => rfl)) (pd_ix hK (dv 2) (dv 6) (fun _ _ => rfl)))))
      pd_nil)))))
      pd_nil)
      (pd_seq (pd_sif (PW.pt (pd_wand (te_eq hK hr (dv 1) pd_str) (pd_wand1 (te_eq hK hr (pd_ix hK (pd_ix hK (dv 2) pd_int (fun _ _ => rfl)) pd_int (fun _ _ => rfl)) pd_str))))
      (pd_last (pd_ret (pd_ix hK (pd_ix hK (dv 2) pd_int (fun _ _ => rfl)) pd_int (fun _ _ => rfl))))
      pd_nil)
      (pd_seq (pd_sif (PW.pt (pd_wand (te_eq hK hr (dv 1) pd_str) (pd_wand1 (te_eq hK hr (pd_ix hK (pd_ix hK (dv 2) pd_int (fun _ _ => rfl)) pd_int (fun _ _ => rfl)) pd_str))))
      (pd_last (pd_ret (pd_if (te_isB (pd_ix hK (pd_ix hK (dv 2) pd_int (fun _ _ => rfl)) pd_int (fun _ _ => rfl))) (pd_ix hK (dv 2) pd_int (fun _ _ => rfl)) (pd_ix hK (dv 2) pd_int (fun _ _ => rfl)))))
      pd_nil)
      (pd_seq (pd_sif (PW.pt (pd_wand (te_eq hK hr (dv 1) pd_str) (pd_wand1 (te_eq hK hr (pd_ix hK (pd_ix hK (dv 2) pd_int (fun _ _ => rfl)) pd_int (fun _ _ => rfl)) pd_str))))
      (pd_last (pd_ret (pd_if (pd_tisN (pd_ix hK (pd_ix hK (dv 2) pd_int (fun _ _ => rfl)) pd_int (fun _ _ => rfl))) (pd_ix hK (dv 2) pd_int (fun _ _ => rfl)) (pd_ix hK (dv 2) pd_int (fun _ _ => rfl)))))
      pd_nil)
      (pd_last (pd_ret (dv 4)))))))))))
theorem no_l_folded {P : Program} {w : World} {K : Fg} {mg : Str → Option Value} {base : Heap} {a : Addr} {fd : FuncData} {n : Nat} (F : Fun K "_law_folded" "_law_folded" st_l_folded a fd) : FnG P w K mg base (n + 1) a fd ["_law_tree_here"] (spF K (runF 1 8 fun _ _ => .stuck)) :=
  fn_pd' (k := n) F sc_l_folded rfl rfl fun cdv A outer s E c hk hr => pd_nevers
def g_l_folded : Nat → Fn
  | 0 => runF 1 8 fun _ _ => .stuck
  | i + 1 => f_l_folded (g_l_folded i)

def p_l_filled : { s : Stmt // s = top 50 } := ⟨_, by conv => rhs; whnf⟩
abbrev st_l_filled : Stmt := p_l_filled.1
theorem sc_l_filled : FnScope ["_law_pool_here", "_law_tree_here", "_law_kinds_here", "_law_part"] ["_law_pool_here", "_law_tree_here", "_law_kinds_here"] (defScope st_l_filled) := ⟨rfl, rfl, rfl, by decide +kernel, rfl, by decide +kernel, by decide +kernel⟩
def sem_l_filled (t : Fn) : Ms :=
  (sSeq (sIf (mOr (mTb (m2 eqD (m2 ixD (mV 1) (mC (.int 0))) (mC (.str "value")))) (mAnd (mTb (m2 eqD (m2 ixD (mV 1) (mC (.int 0))) (mC (.str "col")))) (mTb (m2 eqD (mCall fDraw (mCons (mV 0) (mCons (mC (.int 3)) mNil))) (mC (.int 0))))))
  (sRet (mV 1))
  sNx)
  (sSeq (sIf (mTb (m2 eqD (m2 ixD (mV 1) (mC (.int 0))) (mC (.str "col"))))
  (sRet (mTup (mCons (mC (.str "value")) (mCons (m2 dgetD (mV 2) (m2 ixD (mV 1) (mC (.int 1)))) (mCons (mCall f_l_worth (mCons (mV 0) (mCons (m2 dgetD (mV 2) (m2 ixD (mV 1) (mC (.int 1)))) mNil))) mNil)))))
  sNx)
  (sRet (m2 addD (mTup (mCons (m2 ixD (mV 1) (mC (.int 0))) mNil)) (mB tupleD (mCons (mPub (mLc [3] (mItT (mSl kSlT (mV 1) (oS (mC (.int 1))) oN)) (gN 3) (fun _ m => .ok true m) (mCall t (mCons (mV 0) (mCons (mV 3) (mCons (mV 2) mNil)))))) mNil))))))
def f_l_filled (t : Fn) : Fn := runF 3 4 (sem_l_filled t)
theorem ok_l_filled {P : Program} {w : World} {K : Fg} {mg : Str → Option Value} {base : Heap} {a : Addr} {fd : FuncData} {t : Fn} {n : Nat}  (hn : 10 ≤ n) (F : Fun K "_law_filled" "_law_filled" st_l_filled a fd) (B : Bt mg) (BX : Bx mg) (F_l_draw : Df P w K mg base (1) "_law_draw" 2 fDraw) (F_l_worth : Df P w K mg base (2) "_law_worth" 2 f_l_worth) (F_l_filled : Df P w K mg base (n) "_law_filled" 3 t)     :
    FnG P w K mg base (n + 1) a fd ["_law_pool_here", "_law_tree_here", "_law_kinds_here"] (spF K (f_l_filled t)) :=
  fn_pd' (sem := sem_l_filled t) (k := n) F sc_l_filled rfl rfl fun cdv A outer s E c hk hr => have hK : K = c.K := hk.symm;
    (pd_seq (pd_sif (PW.pt (pd_wor (te_eq hK hr (pd_ix hK (dv 1) pd_int (fun _ _ => rfl)) pd_str) (pd_wor1 (PW.pt (pd_wand (te_eq hK hr (pd_ix hK (dv 1) pd_int (fun _ _ => rfl)) pd_str) (pd_wand1 (te_eq hK hr (pd_call F_l_draw hK hr (by omega) rfl (pd_ac (dv 0) (pd_ac pd_int pd_an))) pd_int)))))))
      (pd_last (pd_ret (dv 1)))
      pd_nil)
      (pd_seq (pd_sif (te_eq hK hr (pd_ix hK (dv 1) pd_int (fun _ _ => rfl)) pd_str)
      (pd_last (pd_ret (pd_tup (pd_ac pd_str (pd_ac (pd_dget hK (dv 2) (pd_ix hK (dv 1) pd_int (fun _ _ => rfl))) (pd_ac (pd_call F_l_worth hK hr (by omega) rfl (pd_ac (dv 0) (pd_ac (pd_dget hK (dv 2) (pd_ix hK (dv 1) pd_int (fun _ _ => rfl))) pd_an))) pd_an))))))
      pd_nil)
      (pd_last (pd_ret (pd_add hK (pd_tup (pd_ac (pd_ix hK (dv 1) pd_int (fun _ _ => rfl)) pd_an)) (pb_tuple hK rfl rfl B.tuple (pd_ac (pd_pub (pd_lc (own := [("_law_part", 3)]) (hc := rfl) (hN := sc_l_filled.nd) (hi := (pi_t hK (pd_slT hK (dv 1) (pd_os pd_int) pd_on))) (ok := blkOk_by (N := ["_law_pool_here", "_law_tree_here", "_law_kinds_here", "_law_part"]) (sc := defScope st_l_filled) (by decide +kernel)) (hg := fun _ _ _ _ _ => (pg_n sc_l_filled.nd rfl (by first | exact Or.inl rfl | exact Or.inr rfl))) (ht := fun _ _ _ _ _ => pts_y) (he := fun _ _ _ _ _ => (pd_call F_l_filled hK hr (by omega) rfl (pd_ac (dv 0) (pd_ac (dv 3) (pd_ac (dv 2) pd_an))))))) pd_an)))))))
theorem no_l_filled {P : Program} {w : World} {K : Fg} {mg : Str → Option Value} {base : Heap} {a : Addr} {fd : FuncData} {n : Nat} (F : Fun K "_law_filled" "_law_filled" st_l_filled a fd) : FnG P w K mg base (n + 1) a fd ["_law_pool_here", "_law_tree_here", "_law_kinds_here"] (spF K (runF 3 4 fun _ _ => .stuck)) :=
  fn_pd' (k := n) F sc_l_filled rfl rfl fun cdv A outer s E c hk hr => pd_nevers
def g_l_filled : Nat → Fn
  | 0 => runF 3 4 fun _ _ => .stuck
  | i + 1 => f_l_filled (g_l_filled i)

def p_l_told_right : { s : Stmt // s = top 51 } := ⟨_, by conv => rhs; whnf⟩
abbrev st_l_told_right : Stmt := p_l_told_right.1
theorem sc_l_told_right : FnScope ["_law_tree_here", "_law_due", "_law_shown", "_law_told"] ["_law_tree_here"] (defScope st_l_told_right) := ⟨rfl, rfl, rfl, by decide +kernel, rfl, by decide +kernel, by decide +kernel⟩
def sem_l_told_right : Ms :=
  (sSeq (sPar [1, 2] (oDat (mCall (g_l_folded 9) (mCons (mV 0) mNil)) (oDat (mB reprD (mCons (mV 0) mNil)) oNil)))
  (sSeq (sSet 3 (mPub (mLst (mCons (mCall f_folded (mCons (mV 0) mNil)) (mCons (mCallK 1 [0] f_folded (mCons (mV 0) mNil)) (mCons (mCall f_folded (mCons (mV 0) mNil)) mNil))))))
  (sRet (mAndV (m2 eqD (mB reprD (mCons (mV 3) mNil)) (mB reprD (mCons (mPub (mRep (mLst (mCons (mV 1) mNil)) (mC (.int 3)))) mNil))) (m2 eqD (mB reprD (mCons (mV 0) mNil)) (mV 2))))))
def f_l_told_right : Fn := runF 1 4 (sem_l_told_right )
theorem ok_l_told_right {P : Program} {w : World} {K : Fg} {mg : Str → Option Value} {base : Heap} {a : Addr} {fd : FuncData}  (F : Fun K "_law_told_right" "_law_told_right" st_l_told_right a fd) (B : Bt mg) (BX : Bx mg) (F_l_folded : Df P w K mg base (40) "_law_folded" 1 (g_l_folded 9)) (F_folded : Df P w K mg base (42) "folded" 1 f_folded) (FK_folded : Dk P w K mg base (42) "folded" ["expression"] [0] f_folded)    :
    FnG P w K mg base (46) a fd ["_law_tree_here"] (spF K (f_l_told_right )) :=
  fn_pd' (sem := sem_l_told_right ) (k := 45) F sc_l_told_right rfl rfl fun cdv A outer s E c hk hr => have hK : K = c.K := hk.symm;
    (pd_seq (pd_par2 (i := 1) (k := 2) rfl sc_l_told_right.nd rfl rfl (by decide) rfl rfl (po_d (pd_call F_l_folded hK hr (by omega) rfl (pd_ac (dv 0) pd_an)) (po_d (pb_repr hK hr rfl BX.repr (pd_ac (dv 0) pd_an)) po_n)) (by rfl))
      (pd_seq (pd_set (i := 3) sc_l_told_right.nd rfl (by first | exact Or.inl rfl | exact Or.inr rfl) (pd_pub (pd_lst (pd_ac (pd_call F_folded hK hr (by omega) rfl (pd_ac (dv 0) pd_an)) (pd_ac (pd_callK FK_folded hK hr (by omega) rfl rfl (pd_kc (dv 0) pd_kn)) (pd_ac (pd_call F_folded hK hr (by omega) rfl (pd_ac (dv 0) pd_an)) pd_an))))))
      (pd_last (pd_ret (pd_and hK (pd_eq hK hr (pb_repr hK hr rfl BX.repr (pd_ac (dv 3) pd_an)) (pb_repr hK hr rfl BX.repr (pd_ac (pd_pub (pd_rep (pd_rL (pd_lst (pd_ac (dv 1) pd_an))) pd_int)) pd_an))) (pd_one (pd_eq hK hr (pb_repr hK hr rfl BX.repr (pd_ac (dv 0) pd_an)) (dv 2))))))))

def p_l_right : { s : Stmt // s = top 52 } := ⟨_, by conv => rhs; whnf⟩
abbrev st_l_right : Stmt := p_l_right.1
theorem sc_l_right : FnScope ["_law_pool_here", "_law_heads_here", "_law_kind_here", "_law_tree_here", "_law_full", "_law_bent", "_law_thing"] ["_law_pool_here"] (defScope st_l_right) := ⟨rfl, rfl, rfl, by decide +kernel, rfl, by decide +kernel, by decide +kernel⟩
def sem_l_right : Ms :=
  (sSeq (sSet 1 (mCall f_l_heads (mCons (mV 0) (mCons (mCall f_l_calls (mCons (mV 0) (mCons (m2 addD (mC (.int 1)) (mCall fDraw (mCons (mV 0) (mCons (mC (.int 6)) mNil)))) mNil))) mNil))))
  (sSeq (sFor (mItL (mPub (mLst (mCons (mC (.str "int")) (mCons (mC (.str "text")) (mCons (mC (.str "bool")) (mCons (mC (.str "bool")) (mCons (mC (.str "int")) (mCons (mC (.str "bool")) mNil))))))))) (gN 2)
  (sSeq (sSet 3 (mCall f_l_fit (mCons (mV 0) (mCons (mV 1) (mCons (mV 2) (mCons (m2 addD (mC (.int 2)) (mCall fDraw (mCons (mV 0) (mCons (mC (.int 4)) mNil)))) mNil))))))
  (sSeq (sSet 4 (mCall (g_l_filled 9) (mCons (mV 0) (mCons (mV 3) (mCons (mB dictD (mCons (mV 1) mNil)) mNil)))))
  (sSeq (sSet 5 (mCall (g_l_swapped 9) (mCons (mV 0) (mCons (mV 1) (mCons (mV 4) (mCons (mC (.int 6)) mNil))))))
  (sFor (mItL (mPub (mLst (mCons (mV 3) (mCons (mV 4) (mCons (mV 5) (mCons (mCall (g_l_swapped 9) (mCons (mV 0) (mCons (mV 1) (mCons (mV 5) (mCons (mC (.int 6)) mNil))))) mNil))))))) (gN 6)
  (sIf (mNot (mT (mCall f_l_told_right (mCons (mV 6) mNil))))
  (sRet (mC (.bl false)))
  sNx))))))
  (sRet (mC (.bl true)))))
def f_l_right : Fn := runF 1 7 (sem_l_right )
theorem ok_l_right {P : Program} {w : World} {K : Fg} {mg : Str → Option Value} {base : Heap} {a : Addr} {fd : FuncData}  (F : Fun K "_law_right" "_law_right" st_l_right a fd) (B : Bt mg) (BX : Bx mg) (F_l_heads : Df P w K mg base (2) "_law_heads" 2 f_l_heads) (F_l_calls : Df P w K mg base (2) "_law_calls" 2 f_l_calls) (F_l_draw : Df P w K mg base (1) "_law_draw" 2 fDraw) (F_l_fit : Df P w K mg base (45) "_law_fit" 4 f_l_fit) (F_l_filled : Df P w K mg base (20) "_law_filled" 3 (g_l_filled 9)) (F_l_swapped : Df P w K mg base (20) "_law_swapped" 4 (g_l_swapped 9)) (F_l_told_right : Df P w K mg base (46) "_law_told_right" 1 f_l_told_right)     :
    FnG P w K mg base (47) a fd ["_law_pool_here"] (spF K (f_l_right )) :=
  fn_pd' (sem := sem_l_right ) (k := 46) F sc_l_right rfl rfl fun cdv A outer s E c hk hr => have hK : K = c.K := hk.symm;
    (pd_seq (pd_set (i := 1) sc_l_right.nd rfl (by first | exact Or.inl rfl | exact Or.inr rfl) (pd_call F_l_heads hK hr (by omega) rfl (pd_ac (dv 0) (pd_ac (pd_call F_l_calls hK hr (by omega) rfl (pd_ac (dv 0) (pd_ac (pd_add hK pd_int (pd_call F_l_draw hK hr (by omega) rfl (pd_ac (dv 0) (pd_ac pd_int pd_an)))) pd_an))) pd_an))))
      (pd_seq (pd_for PassesOwn.never rfl (pi_l hK (pd_pub (pd_lst (pd_ac pd_str (pd_ac pd_str (pd_ac pd_str (pd_ac pd_str (pd_ac pd_str (pd_ac pd_str pd_an))))))))) (pg_n sc_l_right.nd rfl (by first | exact Or.inl rfl | exact Or.inr rfl))
      (pd_seq (pd_set (i := 3) sc_l_right.nd rfl (by first | exact Or.inl rfl | exact Or.inr rfl) (pd_call F_l_fit hK hr (by omega) rfl (pd_ac (dv 0) (pd_ac (dv 1) (pd_ac (dv 2) (pd_ac (pd_add hK pd_int (pd_call F_l_draw hK hr (by omega) rfl (pd_ac (dv 0) (pd_ac pd_int pd_an)))) pd_an))))))
      (pd_seq (pd_set (i := 4) sc_l_right.nd rfl (by first | exact Or.inl rfl | exact Or.inr rfl) (pd_call F_l_filled hK hr (by omega) rfl (pd_ac (dv 0) (pd_ac (dv 3) (pd_ac (pb_dict hK rfl rfl BX.dict (pd_ac (dv 1) pd_an)) pd_an)))))
      (pd_seq (pd_set (i := 5) sc_l_right.nd rfl (by first | exact Or.inl rfl | exact Or.inr rfl) (pd_call F_l_swapped hK hr (by omega) rfl (pd_ac (dv 0) (pd_ac (dv 1) (pd_ac (dv 4) (pd_ac pd_int pd_an))))))
      (pd_last (pd_for PassesOwn.never rfl (pi_l hK (pd_pub (pd_lst (pd_ac (dv 3) (pd_ac (dv 4) (pd_ac (dv 5) (pd_ac (pd_call F_l_swapped hK hr (by omega) rfl (pd_ac (dv 0) (pd_ac (dv 1) (pd_ac (dv 5) (pd_ac pd_int pd_an))))) pd_an))))))) (pg_n sc_l_right.nd rfl (by first | exact Or.inl rfl | exact Or.inr rfl))
      (pd_last (pd_sif (pd_tnot (pd_tt hK (pd_call F_l_told_right hK hr (by omega) rfl (pd_ac (dv 6) pd_an))))
      (pd_last (pd_ret pd_bl))
      pd_nil))))))))
      (pd_last (pd_ret pd_bl))))

def p_law : { s : Stmt // s = top 53 } := ⟨_, by conv => rhs; whnf⟩
abbrev st_law : Stmt := p_law.1
theorem sc_law : FnScope ["_law_script", "_law_yes", "_law_no", "_law_none", "_law_p", "_law_one", "_law_two", "_law_text_here", "_law_some", "_law_tree_here", "_law_due", "_law_k"] ["_law_script"] (defScope st_law) := ⟨rfl, rfl, rfl, by decide +kernel, rfl, by decide +kernel, by decide +kernel⟩
def sem_law : Ms :=
  (sSeq (sAsg (mTup (mCons (mTup (mCons (mC (.str "value")) (mCons (mC (.str "bool")) (mCons (mC (.bl true)) mNil)))) (mCons (mTup (mCons (mC (.str "value")) (mCons (mC (.str "bool")) (mCons (mC (.bl false)) mNil)))) (mCons (mTup (mCons (mC (.str "value")) (mCons (mC (.str "bool")) (mCons (mC .non) mNil)))) (mCons (mTup (mCons (mC (.str "col")) (mCons (mC (.str "p")) mNil))) mNil))))) (gN4 1 2 3 4))
  (sSeq (sAsg (mTup (mCons (mTup (mCons (mC (.str "value")) (mCons (mC (.str "int")) (mCons (mC (.int 1)) mNil)))) (mCons (mTup (mCons (mC (.str "value")) (mCons (mC (.str "int")) (mCons (mC (.int 2)) mNil)))) (mCons (mTup (mCons (mC (.str "value")) (mCons (mC (.str "text")) (mCons (mC (.str "x")) mNil)))) mNil)))) (gN3 5 6 7))
  (sSeq (sSetO 8 (mLst (mCons (mTup (mCons (mTup (mCons (mC (.str "and")) (mCons (mV 1) (mCons (mV 4) mNil)))) (mCons (mV 4) mNil))) (mCons (mTup (mCons (mTup (mCons (mC (.str "and")) (mCons (mV 4) (mCons (mV 2) mNil)))) (mCons (mV 2) mNil))) (mCons (mTup (mCons (mTup (mCons (mC (.str "or")) (mCons (mV 4) (mCons (mV 2) mNil)))) (mCons (mV 4) mNil))) (mCons (mTup (mCons (mTup (mCons (mC (.str "or")) (mCons (mV 1) (mCons (mV 4) mNil)))) (mCons (mV 1) mNil))) mNil))))))
  (sSeq (sApp 8 (mTup (mCons (mTup (mCons (mC (.str "and")) (mCons (mV 3) (mCons (mV 4) mNil)))) (mCons (mC .non) mNil))))
  (sSeq (sSetO 8 (mCat (mOwn 8) (mLst (mCons (mTup (mCons (mTup (mCons (mC (.str "and")) (mCons (mV 2) (mCons (mV 3) mNil)))) (mCons (mV 2) mNil))) (mCons (mTup (mCons (mTup (mCons (mC (.str "and")) (mCons (mV 5) (mCons (mV 1) mNil)))) (mCons (mV 5) mNil))) (mCons (mTup (mCons (mTup (mCons (mC (.str "or")) (mCons (mV 2) (mCons (mV 7) mNil)))) (mCons (mV 7) mNil))) mNil))))))
  (sSeq (sSetO 8 (mCat (mOwn 8) (mLst (mCons (mTup (mCons (mTup (mCons (mC (.str "not")) (mCons (mTup (mCons (mC (.str "not")) (mCons (mV 4) mNil))) mNil))) (mCons (mV 4) mNil))) (mCons (mTup (mCons (mTup (mCons (mC (.str "not")) (mCons (mTup (mCons (mC (.str "not")) (mCons (mTup (mCons (mC (.str "not")) (mCons (mV 4) mNil))) mNil))) mNil))) (mCons (mTup (mCons (mC (.str "not")) (mCons (mV 4) mNil))) mNil))) (mCons (mTup (mCons (mTup (mCons (mC (.str "not")) (mCons (mV 5) mNil))) (mCons (mC .non) mNil))) mNil))))))
  (sSeq (sSetO 8 (mCat (mOwn 8) (mLst (mCons (mTup (mCons (mTup (mCons (mC (.str "if")) (mCons (mV 3) (mCons (mV 5) (mCons (mV 6) mNil))))) (mCons (mV 6) mNil))) (mCons (mTup (mCons (mTup (mCons (mC (.str "if")) (mCons (mV 1) (mCons (mV 4) (mCons (mV 5) mNil))))) (mCons (mV 4) mNil))) (mCons (mTup (mCons (mTup (mCons (mC (.str "if")) (mCons (mV 5) (mCons (mV 4) (mCons (mV 6) mNil))))) (mCons (mV 6) mNil))) mNil))))))
  (sSeq (sSetO 8 (mCat (mOwn 8) (mLst (mCons (mTup (mCons (mTup (mCons (mC (.str "else")) (mCons (mTup (mCons (mC (.str "value")) (mCons (mC (.str "int")) (mCons (mC .non) mNil)))) (mCons (mV 4) mNil)))) (mCons (mV 4) mNil))) (mCons (mTup (mCons (mTup (mCons (mC (.str "else")) (mCons (mV 5) (mCons (mV 7) mNil)))) (mCons (mV 5) mNil))) (mCons (mTup (mCons (mTup (mCons (mC (.str "else")) (mCons (mV 4) (mCons (mV 5) mNil)))) (mCons (mC .non) mNil))) mNil))))))
  (sSeq (sSetO 8 (mCat (mOwn 8) (mLst (mCons (mTup (mCons (mTup (mCons (mC (.str "add")) (mCons (mV 5) (mCons (mV 7) mNil)))) (mCons (mC .non) mNil))) (mCons (mTup (mCons (mTup (mCons (mC (.str "eq")) (mCons (mV 5) (mCons (mV 7) mNil)))) (mCons (mC .non) mNil))) (mCons (mTup (mCons (mTup (mCons (mC (.str "eq")) (mCons (mV 5) (mCons (mV 6) mNil)))) (mCons (mV 2) mNil))) mNil))))))
  (sSeq (sSetO 8 (mCat (mOwn 8) (mLst (mCons (mTup (mCons (mTup (mCons (mC (.str "div")) (mCons (mV 5) (mCons (mTup (mCons (mC (.str "value")) (mCons (mC (.str "int")) (mCons (mC (.int 0)) mNil)))) mNil)))) (mCons (mTup (mCons (mC (.str "value")) (mCons (mC (.str "int")) (mCons (mC .non) mNil)))) mNil))) (mCons (mTup (mCons (mTup (mCons (mC (.str "size")) (mCons (mV 5) mNil))) (mCons (mC .non) mNil))) mNil)))))
  (sSeq (sSetO 8 (mCat (mOwn 8) (mLst (mCons (mTup (mCons (mTup (mCons (mC (.str "there")) (mCons (mV 7) mNil))) (mCons (mV 1) mNil))) (mCons (mTup (mCons (mTup (mCons (mC (.str "lt")) (mCons (mV 2) (mCons (mV 1) mNil)))) (mCons (mV 1) mNil))) (mCons (mTup (mCons (mTup (mCons (mC (.str "and")) (mCons (mTup (mCons (mC (.str "there")) (mCons (mV 5) mNil))) (mCons (mV 4) mNil)))) (mCons (mV 4) mNil))) mNil))))))
  (sThaw1 8 (sSeq (sFor (mItL (mV 8)) (gN2 9 10)
  (sIf (mOr (mTb (m2 neD (mB reprD (mCons (mCall f_folded (mCons (mV 9) mNil)) mNil)) (mB reprD (mCons (mIf (mTb (m1 (fun d => some (.bl (isNone d))) (mV 10))) (mV 9) (mV 10)) mNil)))) (mNot (mT (mCall f_l_told_right (mCons (mV 9) mNil)))))
  (sRet (mC (.bl false)))
  sNx))
  (sRet (mB allD (mCons (mPub (mLc [11] (mItR (mB maxD (mCons (mC (.int 2)) (mCons (mB minD (mCons (mB lenD (mCons (mV 0) mNil)) (mCons (mC (.int 5)) mNil))) mNil)))) (gN 11) (fun _ m => .ok true m) (mCallP f_l_right (mCallL f_l_pool (mCons (mCall f_l_cell (mCons (mV 0) (mCons (mV 11) mNil))) mNil))))) mNil))))))))))))))))
def f_law : Fn := runF 1 12 (sem_law )
theorem ok_law {P : Program} {w : World} {K : Fg} {mg : Str → Option Value} {base : Heap} {a : Addr} {fd : FuncData}  (F : Fun K "law" "law" st_law a fd) (B : Bt mg) (BX : Bx mg) (F_folded : Df P w K mg base (42) "folded" 1 f_folded) (F_l_told_right : Df P w K mg base (46) "_law_told_right" 1 f_l_told_right) (F_l_right : Df P w K mg base (47) "_law_right" 1 f_l_right) (F_l_pool : Dl P w K mg base (1) "_law_pool" 1 f_l_pool) (F_l_cell : Df P w K mg base (1) "_law_cell" 2 f_l_cell)     :
    FnG P w K mg base (48) a fd ["_law_script"] (spF K (f_law )) :=
  fn_pd' (sem := sem_law ) (k := 47) F sc_law rfl rfl fun cdv A outer s E c hk hr => have hK : K = c.K := hk.symm;
    (pd_seq (pd_asg (pd_tup (pd_ac (pd_tup (pd_ac pd_str (pd_ac pd_str (pd_ac pd_bl pd_an)))) (pd_ac (pd_tup (pd_ac pd_str (pd_ac pd_str (pd_ac pd_bl pd_an)))) (pd_ac (pd_tup (pd_ac pd_str (pd_ac pd_str (pd_ac pd_non pd_an)))) (pd_ac (pd_tup (pd_ac pd_str (pd_ac pd_str pd_an))) pd_an))))) (pg_n4 sc_law.nd rfl hK rfl (by first | exact Or.inl rfl | exact Or.inr rfl) rfl (by first | exact Or.inl rfl | exact Or.inr rfl) rfl (by first | exact Or.inl rfl | exact Or.inr rfl) rfl (by first | exact Or.inl rfl | exact Or.inr rfl)))
      (pd_seq (pd_asg (pd_tup (pd_ac (pd_tup (pd_ac pd_str (pd_ac pd_str (pd_ac pd_int pd_an)))) (pd_ac (pd_tup (pd_ac pd_str (pd_ac pd_str (pd_ac pd_int pd_an)))) (pd_ac (pd_tup (pd_ac pd_str (pd_ac pd_str (pd_ac pd_str pd_an)))) pd_an)))) (pg_n3 sc_law.nd rfl hK rfl (by first | exact Or.inl rfl | exact Or.inr rfl) rfl (by first | exact Or.inl rfl | exact Or.inr rfl) rfl (by first | exact Or.inl rfl | exact Or.inr rfl)))
      (pd_seq (pd_setO (i := 8) sc_law.nd rfl (by first | exact Or.inl rfl | exact Or.inr rfl) (pd_lst (pd_ac (pd_tup (pd_ac (pd_tup (pd_ac pd_str (pd_ac (dv 1) (pd_ac (dv 4) pd_an)))) (pd_ac (dv 4) pd_an))) (pd_ac (pd_tup (pd_ac (pd_tup (pd_ac pd_str (pd_ac (dv 4) (pd_ac (dv 2) pd_an)))) (pd_ac (dv 2) pd_an))) (pd_ac (pd_tup (pd_ac (pd_tup (pd_ac pd_str (pd_ac (dv 4) (pd_ac (dv 2) pd_an)))) (pd_ac (dv 4) pd_an))) (pd_ac (pd_tup (pd_ac (pd_tup (pd_ac pd_str (pd_ac (dv 1) (pd_ac (dv 4) pd_an)))) (pd_ac (dv 1) pd_an))) pd_an))))))
      (pd_seq (pd_app 8 (pd_tup (pd_ac (pd_tup (pd_ac pd_str (pd_ac (dv 3) (pd_ac (dv 4) pd_an)))) (pd_ac pd_non pd_an))))
      (pd_seq (pd_setO (i := 8) sc_law.nd rfl (by first | exact Or.inl rfl | exact Or.inr rfl) (pd_cat (pd_rO 8) (pd_rL (pd_lst (pd_ac (pd_tup (pd_ac (pd_tup (pd_ac pd_str (pd_ac (dv 2) (pd_ac (dv 3) pd_an)))) (pd_ac (dv 2) pd_an))) (pd_ac (pd_tup (pd_ac (pd_tup (pd_ac pd_str (pd_ac (dv 5) (pd_ac (dv 1) pd_an)))) (pd_ac (dv 5) pd_an))) (pd_ac (pd_tup (pd_ac (pd_tup (pd_ac pd_str (pd_ac (dv 2) (pd_ac (dv 7) pd_an)))) (pd_ac (dv 7) pd_an))) pd_an)))))))
      (pd_seq (pd_setO (i := 8) sc_law.nd rfl (by first | exact Or.inl rfl | exact Or.inr rfl) (pd_cat (pd_rO 8) (pd_rL (pd_lst (pd_ac (pd_tup (pd_ac (pd_tup (pd_ac pd_str (pd_ac (pd_tup (pd_ac pd_str (pd_ac (dv 4) pd_an))) pd_an))) (pd_ac (dv 4) pd_an))) (pd_ac (pd_tup (pd_ac (pd_tup (pd_ac pd_str (pd_ac (pd_tup (pd_ac pd_str (pd_ac (pd_tup (pd_ac pd_str (pd_ac (dv 4) pd_an))) pd_an))) pd_an))) (pd_ac (pd_tup (pd_ac pd_str (pd_ac (dv 4) pd_an))) pd_an))) (pd_ac (pd_tup (pd_ac (pd_tup (pd_ac pd_str (pd_ac (dv 5) pd_an))) (pd_ac pd_non pd_an))) pd_an)))))))
      (pd_seq (pd_setO (i := 8) sc_law.nd rfl (by first | exact Or.inl rfl | exact Or.inr rfl) (pd_cat (pd_rO 8) (pd_rL (pd_lst (pd_ac (pd_tup (pd_ac (pd_tup (pd_ac pd_str (pd_ac (dv 3) (pd_ac (dv 5) (pd_ac (dv 6) pd_an))))) (pd_ac (dv 6) pd_an))) (pd_ac (pd_tup (pd_ac (pd_tup (pd_ac pd_str (pd_ac (dv 1) (pd_ac (dv 4) (pd_ac (dv 5) pd_an))))) (pd_ac (dv 4) pd_an))) (pd_ac (pd_tup (pd_ac (pd_tup (pd_ac pd_str (pd_ac (dv 5) (pd_ac (dv 4) (pd_ac (dv 6) pd_an))))) (pd_ac (dv 6) pd_an))) pd_an)))))))
      (pd_seq (pd_setO (i := 8) sc_law.nd rfl (by first | exact Or.inl rfl | exact Or.inr rfl) (pd_cat (pd_rO 8) (pd_rL (pd_lst (pd_ac (pd_tup (pd_ac (pd_tup (pd_ac pd_str (pd_ac (pd_tup (pd_ac pd_str (pd_ac pd_str (pd_ac pd_non pd_an)))) (pd_ac (dv 4) pd_an)))) (pd_ac (dv 4) pd_an))) (pd_ac (pd_tup (pd_ac (pd_tup (pd_ac pd_str (pd_ac (dv 5) (pd_ac (dv 7) pd_an)))) (pd_ac (dv 5) pd_an))) (pd_ac (pd_tup (pd_ac (pd_tup (pd_ac pd_str (pd_ac (dv 4) (pd_ac (dv 5) pd_an)))) (pd_ac pd_non pd_an))) pd_an)))))))
      (pd_seq (pd_setO (i := 8) sc_law.nd rfl (by first | exact Or.inl rfl | exact Or.inr rfl) (pd_cat (pd_rO 8) (pd_rL (pd_lst (pd_ac (pd_tup (pd_ac (pd_tup (pd_ac pd_str (pd_ac (dv 5) (pd_ac (dv 7) pd_an)))) (pd_ac pd_non pd_an))) (pd_ac (pd_tup (pd_ac (pd_tup (pd_ac pd_str (pd_ac (dv 5) (pd_ac (dv 7) pd_an)))) (pd_ac pd_non pd_an))) (pd_ac (pd_tup (pd_ac (pd_tup (pd_ac pd_str (pd_ac (dv 5) (pd_ac (dv 6) pd_an)))) (pd_ac (dv 2) pd_an))) pd_an)))))))
      (pd_seq (pd_setO (i := 8) sc_law.nd rfl (by first | exact Or.inl rfl | exact Or.inr rfl) (pd_cat (pd_rO 8) (pd_rL (pd_lst (pd_ac (pd_tup (pd_ac (pd_tup (pd_ac pd_str (pd_ac (dv 5) (pd_ac (pd_tup (pd_ac pd_str (pd_ac pd_str (pd_ac pd_int pd_an)))) pd_an)))) (pd_ac (pd_tup (pd_ac pd_str (pd_ac pd_str (pd_ac pd_non pd_an)))) pd_an))) (pd_ac (pd_tup (pd_ac (pd_tup (pd_ac pd_str (pd_ac (dv 5) pd_an))) (pd_ac pd_non pd_an))) pd_an))))))
      (pd_seq (pd_setO (i := 8) sc_law.nd rfl (by first | exact Or.inl rfl | exact Or.inr rfl) (pd_cat (pd_rO 8) (pd_rL (pd_lst (pd_ac (pd_tup (pd_ac (pd_tup (pd_ac pd_str (pd_ac (dv 7) pd_an))) (pd_ac (dv 1) pd_an))) (pd_ac (pd_tup (pd_ac (pd_tup (pd_ac pd_str (pd_ac (dv 2) (pd_ac (dv 1) pd_an)))) (pd_ac (dv 1) pd_an))) (pd_ac (pd_tup (pd_ac (pd_tup (pd_ac pd_str (pd_ac (pd_tup (pd_ac pd_str (pd_ac (dv 5) pd_an))) (pd_ac (dv 4) pd_an)))) (pd_ac (dv 4) pd_an))) pd_an)))))))
      (pd_thaws1 8 (pd_seq (pd_for PassesOwn.never rfl (pi_l hK (dv 8)) (pg_n2 sc_law.nd rfl hK rfl (by first | exact Or.inl rfl | exact Or.inr rfl) rfl (by first | exact Or.inl rfl | exact Or.inr rfl))
      (pd_last (pd_sif (PW.pt (pd_wor (te_ne hK hr (pb_repr hK hr rfl BX.repr (pd_ac (pd_call F_folded hK hr (by omega) rfl (pd_ac (dv 9) pd_an)) pd_an)) (pb_repr hK hr rfl BX.repr (pd_ac (pd_if (pd_tisN (dv 10)) (dv 9) (dv 10)) pd_an))) (pd_wor1 (pd_tnot (pd_tt hK (pd_call F_l_told_right hK hr (by omega) rfl (pd_ac (dv 9) pd_an)))))))
      (pd_last (pd_ret pd_bl))
      pd_nil)))
      (pd_last (pd_ret (pb_all hK rfl rfl B.all (pd_ac (pd_pub (pd_lc (own := [("_law_k", 11)]) (hc := rfl) (hN := sc_law.nd) (hi := (pi_r1 rfl B.range (pb_max hK rfl rfl B.max (pd_ac pd_int (pd_ac (pb_min hK rfl rfl B.min (pd_ac (pb_len hK rfl rfl B.len (pd_ac (dv 0) pd_an)) (pd_ac pd_int pd_an))) pd_an))))) (ok := blkOk_by (N := ["_law_script", "_law_yes", "_law_no", "_law_none", "_law_p", "_law_one", "_law_two", "_law_text_here", "_law_some", "_law_tree_here", "_law_due", "_law_k"]) (sc := defScope st_law) (by decide +kernel)) (hg := fun _ _ _ _ _ => (pg_n sc_law.nd rfl (by first | exact Or.inl rfl | exact Or.inr rfl))) (ht := fun _ _ _ _ _ => pts_y) (he := fun _ _ _ _ _ => (pd_callP F_l_right hK hr (by omega) rfl (pd_callL F_l_pool hK hr (by omega) rfl (pd_ac (pd_call F_l_cell hK hr (by omega) rfl (pd_ac (dv 0) (pd_ac (dv 11) pd_an))) pd_an)))))) pd_an)))))))))))))))))

end K15

set_option Elab.async false
set_option linter.all false
set_option maxRecDepth 100000
set_option maxHeartbeats 8000000
namespace K15
open PySem L2 Pd
def p_l_draw : { s : Stmt // s = top 35 } := ⟨_, by conv => rhs; whnf⟩
abbrev st_l_draw : Stmt := p_l_draw.1
theorem sc_l_draw : FnScope ["_law_pool_here", "_law_many", "_law_was", "_law_more", "_law_digit"] ["_law_pool_here", "_law_many"] (defScope st_l_draw) := ⟨rfl, rfl, rfl, by decide +kernel, rfl, by decide +kernel, by decide +kernel⟩
theorem ok_l_draw {P : Program} {w : World} {K : Fg} {mg : Str → Option Value} {base : Heap} {a : Addr} {fd : FuncData} (F : Fun K "_law_draw" "_law_draw" st_l_draw a fd) (B : Bt mg) : FnG P w K mg base 1 a fd ["_law_pool_here", "_law_many"] (spF K fDraw) := by
  refine Fun.okG F sc_l_draw (fun vs H Q E h => ?_) (fun cdv A outer s H vs Q E hr h => ?_)
  · obtain ⟨c, m, as, _, _, _, r, q⟩ := h
    cases e : fDraw as m with
    | stuck => rw [e] at q; exact q.elim
    | ok d m' =>
      obtain ⟨n, a, b, k, rfl, _⟩ := fDraw_ok e
      exact r.length
  · obtain ⟨c, m, as, rfl, rfl, j, r, q⟩ := h
    cases e : fDraw as m with
    | stuck => rw [e] at q; exact q.elim
    | ok d m' =>
      rw [e] at q
      obtain ⟨n, x, y, k, rfl, rfl, hc, hd⟩ := fDraw_ok e
      cases r with
      | cons h1 r => cases r with
        | cons h2 r =>
          cases r
          obtain ⟨p, hP, rfl⟩ := h1
          cases Rp.int_inv h2
          obtain ⟨⟨o0, h0⟩, g0, ws, hp, rw0⟩ := j.pl p hP
          cases rp3 rw0
          have ix : ∀ {z : Int} {v : V} {vs : List V}, atI vs z = some v → atI vs z = some v := fun h => h
          refine ⟨_, pss_cons (ps_asg (pe_op op_add (pe_ix ix_list (pv 0) pe_int (fun _ _ => rfl)) pe_int) (pg_sub (pv 0) pe_int set_list))
            (pss_cons (ps_par (i := 2) (j := 3) rfl sc_l_draw.nd rfl rfl (by decide) rfl rfl (pa_cons (pe_ix ix_list (pv 0) pe_int (fun _ _ => rfl)) (pa_cons (pe_op op_add (pe_op op_mul pe_int (pe_ix ix_list (pv 0) pe_int (fun _ _ => rfl))) pe_int) pa_nil)) (by rfl))
            (pss_cons (ps_asg (pe_op op_mod (pe_op op_add (pe_op op_mul (pv 2) (pe_op op_add (pe_op op_mod (pv 2) pe_int) pe_int)) (pv 3)) pe_int) (pg_sub (pv 0) pe_int set_list))
            (pss_cons (ps_if (pt_cmpR op_gt (pe_ix ix_list (pv 0) pe_int (fun _ _ => rfl)) pe_int (nomark _))
              (pss_cons (ps_asg (pe_callB call_divmod rfl B.divmod (by decide +kernel) (pa_cons (pe_ix ix_list (pv 0) pe_int (fun _ _ => rfl)) (pa_cons (pv 1) pa_nil)))
                (pg_tup rfl (pgs_cons (pg_sub (pv 0) pe_int set_list) (pgs_cons (pg_name (i := 4) sc_l_draw.nd rfl (Or.inl rfl)) pgs_nil))))
              (pss_one (ps_ret (pv 4)))) pss_nil)
            (pss_one (ps_ret (pe_op op_mod (pe_op op_fdiv (pe_ix ix_list (pv 0) pe_int (fun _ _ => rfl)) pe_int) (pv 1))))))), ?_⟩
          -- pool[2] = pool[2] + 1
          refine ⟨_, rfl, p, _, 2, .int k, rfl, rfl, sq_of hp, rfl, k, 1, rfl, rfl, _, rfl, p, _, 2, 2, rfl, rfl, hp, rfl, ?_⟩
          -- was, more = ..
          refine ⟨_, rfl, p, _, 0, .int x, rfl, rfl, sq_of upd_same, rfl, _, rfl, p, _, 2, .int (k + 1), rfl, rfl, sq_of upd_same, rfl, 60029, k + 1, rfl, rfl, .inl ⟨by decide, by decide⟩, _, 19, rfl, rfl, _, _, rfl, ?_⟩
          -- pool[0] = ..
          refine ⟨_, rfl, _, rfl, x, 43013, rfl, rfl, (by show (0 : Int) < 43013; decide), _, 26003, rfl, rfl, x, _, rfl, rfl, .inl ⟨by omega, by omega⟩, _, rfl, _, _, rfl, rfl, _, 2147483423, rfl, rfl, (by show (0 : Int) < 2147483423; decide), _, rfl, p, _, 0, 0, rfl, rfl, upd_same, rfl, ?_⟩
          -- if pool[1] > 0
          refine ⟨_, rfl, p, _, 1, .int y, rfl, rfl, sq_of upd_same, rfl, y, 0, rfl, rfl, _, rfl, ?_⟩
          rw [upd_upd]
          rcases hd with ⟨hb, rfl, rfl⟩ | ⟨hb, rfl, rfl⟩
          · rw [decide_eq_true hb]
            refine iteT ?_
            refine ⟨_, rfl, p, _, 1, .int y, rfl, rfl, sq_of upd_same, rfl, _, rfl, y, n, rfl, ⟨hc.1, hc.2.1⟩, fun t ht => ?_⟩
            have ntp : p ≠ t := by
              rintro rfl
              rw [upd_same] at ht; cases ht
            refine ⟨t, _, rfl, st_of upd_same, rfl, _, _, rfl, _, rfl, p, _, 1, 1, rfl, rfl, (by rw [upd_ne ntp]; exact upd_same), rfl, _, _, rfl, rfl, ?_⟩
            refine ⟨_, rfl, ?_⟩
            refine q _ c.G0 _ (J0.pool (J0.ext (J0.pool (m' := [.int ((x * (x % 43013 + 26003) + (60029 * (k + 1) + 19)) % 2147483423), .int y, .int (k + 1)]) j hP ?_) ht) hP ?_) (.int _)
            · exact .cons (.int _) (.cons (.int _) (.cons (.int _) .nil))
            · exact .cons (.int _) (.cons (.int _) (.cons (.int _) .nil))
          · rw [decide_eq_false hb]
            refine iteF ?_
            refine ⟨_, rfl, p, _, 0, _, rfl, rfl, sq_of upd_same, rfl, _, 32, rfl, rfl, ⟨by decide, by decide⟩, _, rfl, _, n, rfl, rfl, hc.1, ?_⟩
            exact q _ c.G0 _ (J0.pool j hP (.cons (.int _) (.cons (.int _) (.cons (.int _) .nil)))) (.int _)
end K15

set_option Elab.async false
set_option linter.all false
set_option maxRecDepth 100000
set_option maxHeartbeats 4000000
namespace K15
open PySem L2 Pd
theorem e_isint (i : Int) (m : List D) : f_is_integer [.dat (.int i)] m = .ok (.bl true) m := rfl
theorem e_isint_b (i : Bool) (m : List D) : f_is_integer [.dat (.bl i)] m = .ok (.bl false) m := rfl
theorem e_isint_s (i : Str) (m : List D) : f_is_integer [.dat (.str i)] m = .ok (.bl false) m := rfl
theorem e_isint_n (m : List D) : f_is_integer [.dat .non] m = .ok (.bl false) m := rfl
theorem e_isname {s : Str} (h : NameOk s) (m : List D) : f_is_name [.dat (.str s)] m = .ok (.bl true) m := by
  obtain ⟨h1, h2, h3⟩ := h
  have hl : s.length ≤ sizeLine := Nat.le_trans h2 sl8
  have lc : lcM (gN 1) (fun _ m => .ok true m) (m2 inD (mV 1) (mC (.str "abcdefghijklmnopqrstuvwxyz"))) [.val (.str s), .emp] (signs s) m = .ok ((signs s).map fun _ => .bl true) m := by
    refine lcM_map fun d hd => ?_
    unfold signs at hd
    obtain ⟨ch, hc, rfl⟩ := List.mem_map.mp hd
    refine ⟨_, rfl, rfl, ?_⟩
    have := h3 ch hc
    show (match inD (.str ⟨#[ch]⟩) (.str "abcdefghijklmnopqrstuvwxyz") with | some z => Ou.ok (Vl.dat z) m | none => .stuck) = _
    show (match (some (decide (ch ∈ letters.cps.toList))).map D.bl with | some z => Ou.ok (Vl.dat z) m | none => .stuck) = _
    rw [decide_eq_true this]
    rfl
  have bl : ∀ n : Nat, bls (List.replicate n (D.bl true)) = some (List.replicate n true) := by
    intro n
    induction n with
    | zero => rfl
    | succ n ih => rw [List.replicate_succ, List.replicate_succ]; unfold bls; rw [ih]; rfl
  have mp : (signs s).map (fun _ => D.bl true) = List.replicate (signs s).length (D.bl true) := List.map_const' ..
  have sg : (signs s).length ≤ sizeLine := by unfold signs; rw [List.length_map, ← len_cps]; exact hl
  have h1c : (1 : Int) ≤ (s.length : Int) := by omega
  have h2c : (s.length : Int) ≤ 8 := by omega
  simp [f_is_name, runF, sem_is_name, startE, sRet, mAndV, m1, mV, mC, mB, mCons, mNil, Ou.bind, isiB, mCh, leD, ord, lenD, dats, truD, mPub, mLc, mItS, Sl.of, hl, h1c, h2c, noOwn, Sl.isOwn, sg, wipeE, lc, allD, mp, bl]
theorem e_iskind {k : Str} (h : KindOk k) (m : List D) : f_is_kind [.dat (.str k)] m = .ok (.bl true) m := by
  rcases h with rfl | rfl | rfl <;> rfl
theorem e_isvalue {k : Str} {d : D} (hk : KindOk k) (h : IsW k d) (m : List D) : f_is_value [.dat (.str k), .dat d] m = .ok (.bl true) m := by
  cases h with
  | non => rfl
  | int h => rfl
  | bool b => rfl
  | text h =>
    simp only [texts, List.mem_cons, List.not_mem_nil, or_false] at h
    rcases h with rfl | rfl | rfl | rfl | rfl | rfl | rfl | rfl | rfl | rfl | rfl <;> rfl
theorem e_worth {k : Str} (hk : KindOk k) {m : List D} (hm : Po m) : ∃ d m', f_l_worth [.pool, .dat (.str k)] m = .ok d m' ∧ IsW k d ∧ Po m' := by
  obtain ⟨z, m1, e1, a1, b1, p1⟩ := e_draw (ρ := [.pool, .val (.str k)]) (n := 5) rfl hm (by decide) (by decide)
  by_cases hz : z = 0
  · subst hz
    exact ⟨.non, m1, runF_rt rfl (sSeq_rt (sIf_t (mTb_eq (m2_eq e1 rfl rfl)) (sRet_eq rfl))), .non _, p1⟩
  · have n1 := eq_ne hz
    rcases hk with rfl | rfl | rfl
    · obtain ⟨z2, m2, e2, a2, b2, p2⟩ := e_draw (ρ := [.pool, .val (.str "int")]) (n := 8) rfl p1 (by decide) (by decide)
      obtain ⟨d, hd, hin⟩ := ix_of (ds := [.int 0, .int 1, .int 2, .int (-1), .int 3, .int 7, .int (-1000000000000), .int 10000000000000]) a2 b2
      refine ⟨d, m2, runF_rt rfl (sSeq_nx (sIf_f (mTb_eq (m2_eq e1 rfl n1)) rfl) (sSeq_rt (sIf_t (mTb_eq (m2_eq rfl rfl rfl)) (sRet_eq (m2_eq (mPub_eq (mLst_eq (mCons_eq rfl (mCons_eq rfl (mCons_eq rfl (mCons_eq (m1_eq rfl rfl) (mCons_eq rfl (mCons_eq rfl (mCons_eq (m1_eq (m2_eq rfl rfl rfl) rfl) (mCons_eq (m2_eq rfl rfl rfl) mNil_eq)))))))) rfl (by decide))) e2 hd))))), ?_, p2⟩
      simp only [List.mem_cons, List.not_mem_nil, or_false] at hin
      rcases hin with rfl | rfl | rfl | rfl | rfl | rfl | rfl | rfl <;> exact .int (by decide)
    · obtain ⟨z2, m2, e2, a2, b2, p2⟩ := e_draw (ρ := [.pool, .val (.str "text")]) (n := 10) rfl p1 (by decide) (by decide)
      obtain ⟨d, hd, hin⟩ := ix_of (ds := (texts.take 10).map D.str) a2 b2
      refine ⟨d, m2, runF_rt rfl (sSeq_nx (sIf_f (mTb_eq (m2_eq e1 rfl n1)) rfl) (sSeq_nx (sIf_f (mTb_eq (m2_eq rfl rfl rfl)) rfl) (sSeq_rt (sIf_t (mTb_eq (m2_eq rfl rfl rfl)) (sRet_eq (m2_eq (mPub_eq (mLst_eq (mCons_eq rfl (mCons_eq rfl (mCons_eq rfl (mCons_eq rfl (mCons_eq rfl (mCons_eq rfl (mCons_eq rfl (mCons_eq rfl (mCons_eq rfl (mCons_eq rfl mNil_eq)))))))))) rfl (by decide))) e2 hd)))))), ?_, p2⟩
      obtain ⟨s, hs, rfl⟩ := List.mem_map.mp hin
      exact .text (List.mem_of_mem_take hs)
    · obtain ⟨z2, m2, e2, a2, b2, p2⟩ := e_draw (ρ := [.pool, .val (.str "bool")]) (n := 2) rfl p1 (by decide) (by decide)
      exact ⟨.bl (decide (z2 = 0)), m2, runF_rt rfl (sSeq_nx (sIf_f (mTb_eq (m2_eq e1 rfl n1)) rfl) (sSeq_nx (sIf_f (mTb_eq (m2_eq rfl rfl rfl)) rfl) (sSeq_nx (sIf_f (mTb_eq (m2_eq rfl rfl rfl)) rfl) (sRet_eq (m2_eq e2 rfl rfl))))), .bool _, p2⟩
theorem e_calls {n : Nat} (h1 : 1 ≤ n) (h2 : n ≤ 12) {m : List D} (hm : Po m) : ∃ (names : List Str) (m' : List D), f_l_calls [.pool, .dat (.int (n : Int))] m = .ok (.lst (names.map D.str)) m' ∧ names.length = n ∧ (∀ s ∈ names, NameOk s) ∧ names.Nodup ∧ Po m' := by
  obtain ⟨z, m1, e1, a1, b1, p1⟩ := e_draw (ρ := [.pool, .val (.int (n : Int)), .val (.lst (ownL.map D.str)), .emp, .emp, .emp]) (n := 12) rfl hm (by decide) (by decide)
  obtain ⟨b, rfl⟩ := Int.eq_ofNat_of_zero_le a1
  have hb : b < 12 := by omega
  obtain ⟨z2, m2, e2, a2, b2, p2⟩ := e_draw (ρ := [.pool, .val (.int (n : Int)), .val (.lst (ownL.map D.str)), .val (.int (b : Int)), .emp, .emp]) (n := 3) rfl p1 (by decide) (by decide)
  have rl : (rng 0 n).length ≤ sizeLine := by unfold rng; rw [List.length_map, List.length_range]; exact sl_le (by omega)
  have hr : -(2 ^ 62) ≤ (n : Int) ∧ (n : Int) < 2 ^ 62 := by omega
  by_cases hz : z2 = 0
  · subst hz
    refine ⟨(List.range n).map (nmA b), m2, ?_, by simp, (nm_ok allA hb h2).1, (nm_ok allA hb h2).2, p2⟩
    refine runF_rt rfl (sSeq_nx (sSet_eq (d := .lst (ownL.map D.str)) (mPub_eq (mLst_eq (mCons_eq rfl (mCons_eq rfl (mCons_eq rfl (mCons_eq rfl (mCons_eq rfl (mCons_eq rfl (mCons_eq rfl (mCons_eq rfl (mCons_eq rfl (mCons_eq rfl (mCons_eq rfl (mCons_eq rfl mNil_eq)))))))))))) rfl (by decide)))) (sSeq_nx (sSet_eq e1) (sSeq_rt (sIf_t (mTb_eq (m2_eq e2 rfl rfl)) (sRet_eq (mPub_eq (mLc_eq (mItR_eq rfl hr) rfl rl ?_)))))))
    rw [← rng_it nmA b n]
    refine lcM_map fun d hd => ?_
    obtain ⟨k, hk, rfl⟩ := List.mem_map.mp hd
    refine ⟨_, rfl, rfl, m2_eq rfl (m2_eq (m2_eq rfl (m2_eq rfl rfl rfl) rfl) rfl rfl) ?_⟩
    have := atA (xs := ownL.map D.str) (x := D.str "") (b := b) (k := k) (c := 12) rfl (by decide) rfl
    refine Eq.trans this ?_
    rw [List.getElem?_map]
    show _ = some (D.str (nmA b (0 + (k : Int)).toNat))
    rw [show (0 + (k : Int)).toNat = k by omega]
    unfold nmA
    cases ownL[(b + 5 * k) % 12]? <;> rfl
  · have n1 := eq_ne hz
    refine ⟨(List.range n).map (nmB b), m2, ?_, by simp, (nm_ok allB hb h2).1, (nm_ok allB hb h2).2, p2⟩
    refine runF_rt rfl (sSeq_nx (sSet_eq (d := .lst (ownL.map D.str)) (mPub_eq (mLst_eq (mCons_eq rfl (mCons_eq rfl (mCons_eq rfl (mCons_eq rfl (mCons_eq rfl (mCons_eq rfl (mCons_eq rfl (mCons_eq rfl (mCons_eq rfl (mCons_eq rfl (mCons_eq rfl (mCons_eq rfl mNil_eq)))))))))))) rfl (by decide)))) (sSeq_nx (sSet_eq e1) (sSeq_nx (sIf_f (mTb_eq (m2_eq e2 rfl n1)) rfl) (sSeq_nx (sSet_eq rfl) (sRet_eq (mPub_eq (mLc_eq (mItR_eq rfl hr) rfl rl ?_)))))))
    rw [← rng_it nmB b n]
    refine lcM_map fun d hd => ?_
    obtain ⟨k, hk, rfl⟩ := List.mem_map.mp hd
    have hk' : k < n := List.mem_range.mp hk
    have i1 : ixD (.str letters) (.int (((b : Int) + 5 * (0 + (k : Int))) % (26 : Int))) = some (.str ⟨#[(letters.cps.toList[(b + 5 * k) % 26]?).getD 0]⟩) := by
      show (if letters.length ≤ sizeLine then _ else none) = _
      rw [if_pos (by decide +kernel)]
      have := atA (xs := letters.cps.toList) (x := 0) (b := b) (k := k) (c := 26) (by decide +kernel) (by decide) rfl
      have this : L2.atI letters.cps.toList (((b : Int) + 5 * (0 + (k : Int))) % (26 : Int)) = _ := this
      rw [this]
      rfl
    have i2 : ixD (.lst (([1, 1, 2, 8] : List Int).map D.int)) (.int ((0 + (k : Int)) % 4)) = some (.int ((([1, 1, 2, 8] : List Int)[k % 4]?).getD 0)) := by
      have e : (0 + (k : Int)) % 4 = ((k % 4 : Nat) : Int) := by omega
      rw [e]
      have hl : k % 4 < 4 := Nat.mod_lt _ (by decide)
      refine atI_nat ?_
      rw [List.getElem?_map]
      rw [List.getElem?_eq_getElem (show k % 4 < ([1, 1, 2, 8] : List Int).length from hl)]
      rfl
    have i3 : ∀ (s : Str), s.length = 1 → mulD (.str s) (.int ((([1, 1, 2, 8] : List Int)[k % 4]?).getD 0)) = some (.str (Txt.mul s ((([1, 1, 2, 8] : List Int)[k % 4]?).getD 0))) := by
      intro s hs
      have hq : ∀ q < 4, ((([1, 1, 2, 8] : List Int)[q]?).getD 0) ≤ 10000 ∧ -(2 ^ 63 : Int) ≤ ((([1, 1, 2, 8] : List Int)[q]?).getD 0) := by decide
      have := hq (k % 4) (Nat.mod_lt _ (by decide))
      show (if s.length ≤ 100 ∧ _ ≤ (10000 : Int) ∧ -(2 ^ 63 : Int) ≤ _ then _ else none) = _
      rw [if_pos ⟨by omega, this.1, this.2⟩]
    refine ⟨_, rfl, rfl, m2_eq (m2_eq rfl (m2_eq (m2_eq rfl (m2_eq rfl rfl rfl) rfl) rfl rfl) i1) (m2_eq (mPub_eq (mLst_eq (mCons_eq rfl (mCons_eq rfl (mCons_eq rfl (mCons_eq rfl mNil_eq)))) rfl (by decide))) (m2_eq rfl rfl rfl) i2) ?_⟩
    rw [i3 _ rfl]
    show _ = some (D.str (nmB b (0 + (k : Int)).toNat))
    rw [show (0 + (k : Int)).toNat = k by omega]
    rfl
theorem e_heads {names : List Str} (h1 : 1 ≤ names.length) (h2 : names.length ≤ 12) (hn : ∀ s ∈ names, NameOk s) (nd : names.Nodup) {m : List D} (hm : Po m) : ∃ (cols : List (Str × Str)) (m' : List D), f_l_heads [.pool, .dat (.lst (names.map D.str))] m = .ok (schD cols) m' ∧ SchOk cols ∧ Po m' := by
  have cl : (cutL (names.map D.str) (some 1) none).length + 1 = names.length := by
    unfold cutL
    rw [show (some (1 : Int)) = some ((1 : Nat) : Int) from rfl, HT.sIx_nat, HT.sIx_none, List.length_take, List.length_drop, List.length_map]
    omega
  obtain ⟨ys, m1, e1, p1, l1, r1⟩ := lcM_inv (P := Po) (R := fun _ y => ∃ k, y = .str k ∧ KindOk k) (g := gN 3) (t := fun _ m => .ok true m) (ρ := [.pool, .val (.lst (names.map D.str)), .emp, .emp, .emp]) (ds := cutL (names.map D.str) (some 1) none)
    (f := (m2 ixD (mPub (mLst (mCons (mC (.str "int")) (mCons (mC (.str "text")) (mCons (mC (.str "bool")) (mCons (mC (.str "int")) (mCons (mC (.str "text")) mNil))))))) (mCall fDraw (mCons (mV 0) (mCons (mC (.int 5)) mNil))))) hm (fun d hd m hm => by
      obtain ⟨z, m1, e1, a1, b1, p1⟩ := e_draw (ρ := [.pool, .val (.lst (names.map D.str)), .emp, .val d, .emp]) (n := 5) rfl hm (by decide) (by decide)
      obtain ⟨y, hy, hin⟩ := ix_of (ds := [.str "int", .str "text", .str "bool", .str "int", .str "text"]) a1 b1
      refine ⟨_, y, m1, rfl, rfl, m2_eq (mPub_eq (mLst_eq (mCons_eq rfl (mCons_eq rfl (mCons_eq rfl (mCons_eq rfl (mCons_eq rfl mNil_eq))))) rfl (by decide))) e1 hy, ?_, p1⟩
      simp only [List.mem_cons, List.not_mem_nil, or_false] at hin
      rcases hin with rfl | rfl | rfl | rfl | rfl
      · exact ⟨_, rfl, .inl rfl⟩
      · exact ⟨_, rfl, .inr (.inl rfl)⟩
      · exact ⟨_, rfl, .inr (.inr rfl)⟩
      · exact ⟨_, rfl, .inl rfl⟩
      · exact ⟨_, rfl, .inr (.inl rfl)⟩)
  obtain ⟨ks, rfl, hks⟩ := un_strs (P := KindOk) (ys := ys) fun y hy => by
    obtain ⟨i, hi, rfl⟩ := List.getElem_of_mem hy
    exact r1 i _ _ (List.getElem?_eq_getElem (by omega)) (List.getElem?_eq_getElem hi)
  rw [List.length_map] at l1
  have kl : (("int" : Str) :: ks).length = names.length := by rw [List.length_cons]; omega
  have kk : ∀ k ∈ (("int" : Str) :: ks), KindOk k := fun k hk => by
    rcases List.mem_cons.mp hk with rfl | hk
    · exact .inl rfl
    · exact hks k hk
  refine ⟨names.zip (("int" : Str) :: ks), m1, ?_, ⟨?_, ?_, ?_, ?_⟩, p1⟩
  · refine runF_rt rfl (sSeq_nx (sSet_eq (d := .lst ((("int" : Str) :: ks).map D.str)) (mPub_eq (mCat_eq (as := [.str "int"]) (mLst_eq (mCons_eq rfl mNil_eq) rfl (by decide)) (mLc_eq (mItL_eq (mPub_eq (mSlL_eq rfl (oS_eq rfl) rfl))) rfl (sl_le (by omega)) e1) (by rw [List.length_map]; exact sl_le (by simp; omega))))) (sRet_eq (mB_eq (mCons_eq (mPub_eq (mLc_eq (ys := (names.zip (("int" : Str) :: ks)).map colD) (mItR_eq (mB_eq (mCons_eq rfl mNil_eq) rfl rfl) ?_) rfl ?_ ?_)) mNil_eq) rfl rfl)))
    · rw [List.length_map]; omega
    · unfold rng; rw [List.length_map, List.length_range, List.length_map]; exact sl_le (by omega)
    · have e : (names.zip (("int" : Str) :: ks)).map colD = (rng 0 (((names.map D.str).length : Int).toNat)).map (itH names (("int" : Str) :: ks)) := by
        unfold rng
        rw [List.map_map, List.length_map, Int.toNat_natCast]
        apply List.ext_getElem
        · simp only [List.length_map, List.length_zip, List.length_range, kl]; omega
        · intro i h1 h2
          have hi : i < names.length := by simpa using h2
          have hi2 : i < (("int" : Str) :: ks).length := by rw [kl]; exact hi
          rw [List.getElem_map, List.getElem_map, List.getElem_zip, List.getElem_range]
          show D.tup [.str names[i], .str (("int" : Str) :: ks)[i]] = D.tup [.str ((names[(0 + (i : Int)).toNat]?).getD ""), .str (((("int" : Str) :: ks)[(0 + (i : Int)).toNat]?).getD "")]
          rw [show (0 + (i : Int)).toNat = i by omega, List.getElem?_eq_getElem hi, List.getElem?_eq_getElem hi2]
          rfl
      rw [e]
      refine lcM_map fun d hd => ?_
      obtain ⟨k, hk, rfl⟩ := List.mem_map.mp hd
      have hk : k < names.length := by simpa using hk
      have hi2 : k < (("int" : Str) :: ks).length := by rw [kl]; exact hk
      have a1 : ixD (.lst (names.map D.str)) (.int (0 + (k : Int))) = some (.str ((names[(0 + (k : Int)).toNat]?).getD "")) := by
        rw [show (0 + (k : Int)).toNat = k by omega, show (0 + (k : Int)) = (k : Int) by omega, List.getElem?_eq_getElem hk]
        exact atI_nat (by rw [List.getElem?_map, List.getElem?_eq_getElem hk]; rfl)
      have a2 : ixD (.lst ((("int" : Str) :: ks).map D.str)) (.int (0 + (k : Int))) = some (.str (((("int" : Str) :: ks)[(0 + (k : Int)).toNat]?).getD "")) := by
        rw [show (0 + (k : Int)).toNat = k by omega, show (0 + (k : Int)) = (k : Int) by omega, List.getElem?_eq_getElem hi2]
        exact atI_nat (by rw [List.getElem?_map, List.getElem?_eq_getElem hi2]; rfl)
      exact ⟨_, rfl, rfl, mTup_eq (mCons_eq (m2_eq rfl rfl a1) (mCons_eq (m2_eq rfl rfl a2) mNil_eq)) rfl (sl_le (by simp))⟩
  · intro e
    have := congrArg List.length e
    rw [List.length_zip, kl] at this
    simp at this
    rw [this] at h1
    simp at h1
  · rw [List.length_zip, kl]; omega
  · intro c hc
    have := List.of_mem_zip hc
    exact ⟨hn _ this.1, kk _ this.2⟩
  · rw [show (names.zip (("int" : Str) :: ks)).map (·.1) = names from List.map_fst_zip (by omega)]
    exact nd
end K15

set_option Elab.async false
set_option linter.all false
set_option maxRecDepth 100000
set_option maxHeartbeats 4000000
namespace K15
open PySem L2 Pd
theorem e_isop {w : Str} {ps : List D} (h1 : w ≠ "col") (h2 : w ≠ "value") (m : List D) : f_is_operation [.dat (.tup (.str w :: ps))] m = .ok (.bl true) m := by
  have a : (Str.ofString "col" == w) = false := by simpa using Ne.symm h1
  have b : (Str.ofString "value" == w) = false := by simpa using Ne.symm h2
  simp [f_is_operation, sem_is_operation, a, b]
theorem e_parts {w : Str} {ps : List D} (h1 : w ≠ "col") (h2 : w ≠ "value") (m : List D) : f_parts_of [.dat (.tup (.str w :: ps))] m = .ok (.tup ps) m := by
  simp [f_parts_of, sem_parts_of, e_isop h1 h2, cut1]
theorem e_parts_col {x : D} (m : List D) : f_parts_of [.dat (.tup [.str "col", x])] m = .ok (.tup []) m := by
  have e : f_is_operation [.dat (.tup [.str "col", x])] m = .ok (.bl false) m := by simp [f_is_operation, sem_is_operation]
  simp [f_parts_of, sem_parts_of, e]
theorem e_parts_val {x y : D} (m : List D) : f_parts_of [.dat (.tup [.str "value", x, y])] m = .ok (.tup []) m := by
  have e : f_is_operation [.dat (.tup [.str "value", x, y])] m = .ok (.bl false) m := by simp [f_is_operation, sem_is_operation]
  simp [f_parts_of, sem_parts_of, e]
theorem eqD_of {d e : D} {b : Bool} (h : eqB d e = some b) : eqD d e = some (.bl b) := by unfold eqD; rw [h]; rfl
theorem e_form_op {w : Str} {ps : List D} {n : Nat} (ho : Ar w ps.length) (hs : Sm n (.tup (.str w :: ps))) (hn : n ≤ 64) (m : List D) : f_has_form [.dat (.tup (.str w :: ps))] m = .ok (.bl true) m := by
  have e1 := eqD_of (eqT_nil hs hn)
  obtain ⟨a1, a2, a3⟩ := ho.ar
  unfold partsF at a1
  have a4 : (w == Str.ofString "col") = false := by simpa using a2
  have a5 : (w == Str.ofString "value") = false := by simpa using a3
  simp [f_has_form, sem_has_form, e1, a2, a3, a1]
  omega
theorem e_form_col {x : Str} (h : NameOk x) (m : List D) : f_has_form [.dat (.tup [.str "col", .str x])] m = .ok (.bl true) m := by
  have e1 := eqD_of (eqT_nil (n := 1) (sm_tup (n := 0) (ds := [.str "col", .str x]) fun d hd => by
    simp only [List.mem_cons, List.not_mem_nil, or_false] at hd
    rcases hd with rfl | rfl
    · exact sm0_str (by decide +kernel)
    · exact sm_str h.gd.2) (by decide))
  simp [f_has_form, sem_has_form, e1, mcs, e_isname h]
theorem e_form_val {k : Str} {v : D} (h : KindOk k) (hv : IsW k v) (m : List D) : f_has_form [.dat (.tup [.str "value", .str k, v])] m = .ok (.bl true) m := by
  have e1 := eqD_of (eqT_nil (n := 1) (sm_tup (n := 0) (ds := [.str "value", .str k, v]) fun d hd => by
    simp only [List.mem_cons, List.not_mem_nil, or_false] at hd
    rcases hd with rfl | rfl | rfl
    · exact sm0_str (by decide +kernel)
    · exact h.sm
    · exact hv.sm) (by decide))
  simp [f_has_form, sem_has_form, e1, mcs, e_iskind h, e_isvalue h hv]
theorem e_nodes {V : Nat → Str → D → Prop} : ∀ {N : Nat} {d : D}, Xt V N d → ∀ m, g_node_count N [.dat d] m = .ok (.int (ndc N d : Int)) m := by
  intro N
  induction N with
  | zero => intro d h; cases h
  | succ N ih =>
    intro d h m
    cases h with
    | col h => simp [g_node_count, f_node_count, sem_node_count, e_parts_col, noOwn, Sl.isOwn, wipeE, sumD, intsD, ndc]
    | val h v => simp [g_node_count, f_node_count, sem_node_count, e_parts_val, noOwn, Sl.isOwn, wipeE, sumD, intsD, ndc]
    | op ho r =>
      rename_i w ps
      obtain ⟨a1, a2, a3⟩ := ho.ar
      have lc := lcM_map (g := gN 1) (t := fun _ m => .ok true m) (f := mCall (g_node_count N) (mCons (mV 1) mNil)) (ρ := [.val (.tup (.str w :: ps)), .emp]) (m := m) (h := fun d => .int (ndc N d : Int)) (ds := ps) fun d hd => by
        have hk' := r d hd
        exact ⟨_, rfl, rfl, mCall_eq (mCons_eq rfl mNil_eq) (ih hk' m)⟩
      have hl : ps.length ≤ 1000 := by have := ho.few; omega
      simp [g_node_count, f_node_count, sem_node_count, e_parts a2 a3, noOwn, Sl.isOwn, wipeE, lc, sumD_map, ndc, a2, a3, hl]
theorem e_levels {V : Nat → Str → D → Prop} : ∀ {N n : Nat} {d : D}, n ≤ N → Xt V n d → ∀ m, ∃ z : Int, g_level_count N [.dat d] m = .ok (.int z) m ∧ z ≤ n := by
  intro N
  induction N with
  | zero => intro n d hn h; cases h <;> omega
  | succ N ih =>
    intro n d hn h m
    cases h with
    | col h => exact ⟨1, by simp [g_level_count, f_level_count, sem_level_count, e_parts_col, noOwn, Sl.isOwn, wipeE, maxDfD, intsD, maxI], by omega⟩
    | val h v => exact ⟨1, by simp [g_level_count, f_level_count, sem_level_count, e_parts_val, noOwn, Sl.isOwn, wipeE, maxDfD, intsD, maxI], by omega⟩
    | op ho r =>
      rename_i n w ps
      obtain ⟨a1, a2, a3⟩ := ho.ar
      obtain ⟨f, hf⟩ : ∃ f : D → Int, ∀ d ∈ ps, g_level_count N [.dat d] m = .ok (.int (f d)) m ∧ f d ≤ n := by
        have : ∀ d, ∃ z : Int, d ∈ ps → g_level_count N [.dat d] m = .ok (.int z) m ∧ z ≤ n := fun d => by
          by_cases hd : d ∈ ps
          · have hk' := r d hd
            obtain ⟨z, h1, h2⟩ := ih (by omega) hk' m
            exact ⟨z, fun _ => ⟨h1, h2⟩⟩
          · exact ⟨0, fun h => absurd h hd⟩
        exact ⟨fun d => (this d).choose, fun d hd => (this d).choose_spec hd⟩
      have lc := lcM_map (g := gN 1) (t := fun _ m => .ok true m) (f := mCall (g_level_count N) (mCons (mV 1) mNil)) (ρ := [.val (.tup (.str w :: ps)), .emp]) (m := m) (h := fun d => .int (f d)) (ds := ps) fun d hd =>
        ⟨_, rfl, rfl, mCall_eq (mCons_eq rfl mNil_eq) (hf d hd).1⟩
      have hl : ps.length ≤ 1000 := by have := ho.few; omega
      have hi : ∀ qs : List D, intsD (qs.map fun d => D.int (f d)) = some (qs.map f) := fun qs => by
        induction qs with
        | nil => rfl
        | cons q qs ih => rw [List.map_cons]; unfold intsD; rw [ih]; rfl
      refine ⟨1 + maxI (ps.map f) 0, ?_, ?_⟩
      · simp [g_level_count, f_level_count, sem_level_count, e_parts a2 a3, noOwn, Sl.isOwn, wipeE, lc, maxDfD, hi, hl]
      · have := maxI_le (n := n) (ns := ps.map f) (d := 0) (by omega) fun x hx => by
          obtain ⟨d, hd, rfl⟩ := List.mem_map.mp hx
          exact (hf d hd).2
        omega
theorem e_fault : ∀ {N n : Nat} {d : D}, n ≤ N → n ≤ 60 → Xi n d → ∀ (ds : List D) (m : List D), ds.length + n ≤ 900 → g_first_fault N [.dat d, .dat (.tup ds)] m = .ok .non m := by
  intro N
  induction N with
  | zero => intro n d hn h6 h; cases h <;> omega
  | succ N ih =>
    intro n d hn h6 h ds m hd
    cases h with
    | col h => simp [g_first_fault, f_first_fault, sem_first_fault, e_parts_col, e_form_col h]
    | val h v => simp [g_first_fault, f_first_fault, sem_first_fault, e_parts_val, e_form_val h v]
    | op ho r =>
      rename_i n w ps
      obtain ⟨a1, a2, a3⟩ := ho.ar
      have fo := e_form_op ho (Xt.sm (Xt.out (Xt.op (V := Vi) ho r))) (by omega) m
      have body := forM_inv0 (g := gN2 2 3) (ds := enumL 0 ps) (ρ := [.val (.tup (.str w :: ps)), .val (.tup ds), .emp, .emp, .emp]) (m := m)
        (f := (sSeq (sSet 4 (mCall (g_first_fault N) (mCons (mV 3) (mCons (m2 addD (mV 1) (mTup (mCons (mV 2) mNil))) mNil)))) (sIf (mTb (m1 (fun d => some (.bl (!isNone d))) (mV 4))) (sRet (mV 4)) sNx)))
        (I := fun k ρ m' => m' = m ∧ ∃ s2 s3 s4, ρ = [.val (.tup (.str w :: ps)), .val (.tup ds), s2, s3, s4])
        ⟨rfl, _, _, _, rfl⟩ (fun i d ρ m' hd' hI => by
          obtain ⟨rfl, s2, s3, s4, rfl⟩ := hI
          obtain ⟨e, he, rfl⟩ := enum_get hd'
          have hk' := r e (List.mem_of_getElem? he)
          have := ih (by omega) (by omega) hk' (ds ++ [.int (i : Int)]) m' (by simp; omega)
          have ad : addD (.tup ds) (.tup [.int (i : Int)]) = some (.tup (ds ++ [.int (i : Int)])) := if_pos (sl_le (by simp; omega))
          exact ⟨[.val (.tup (.str w :: ps)), .val (.tup ds), .val (.int (i : Int)), .val e, s4], [.val (.tup (.str w :: ps)), .val (.tup ds), .val (.int (i : Int)), .val e, .val .non], m', rfl, .inl (by simp [ad, this]), rfl, _, _, _, rfl⟩)
      obtain ⟨ρ', m', e, rfl, s2, s3, s4, rfl⟩ := body
      simp [g_first_fault, f_first_fault, sem_first_fault, e_parts a2 a3, fo, e]
theorem e_check {n : Nat} {d : D} (hn : n ≤ 8) (h : Xi n d) (hs : ndc 9 d ≤ 40) (m : List D) : f_check_expression [.dat d] m = .ok .non m := by
  obtain ⟨z, e3, hz⟩ := e_levels (N := 9) (by omega) h m
  have e1 := e_fault (N := 9) (by omega) (by omega) h [] m (by simp; omega)
  have e2 := e_nodes (N := 9) (h.more (by omega)) m
  have h1 : ¬ ((40 : Int) < (ndc 9 d : Int)) := by omega
  have h2 : ¬ ((8 : Int) < z) := by omega
  have e4 : f_fault_in [.dat d] m = .ok .non m := by simp [f_fault_in, sem_fault_in, e1, e2, e3, h1, h2]
  simp [f_check_expression, sem_check_expression, e4]
end K15

set_option Elab.async false
set_option linter.all false
set_option maxRecDepth 100000
set_option maxHeartbeats 4000000
namespace K15
open PySem L2 Pd
theorem ne_strs {ns : List Str} (h : ∀ s ∈ ns, NameOk s) : neD (.lst (ns.map D.str)) (.lst []) = some (.bl (!ns.isEmpty)) := by
  have sh : SeqAt.shaped (D.lst (ns.map D.str)).py = true := (sm_lst (n := 0) fun d hd => by
    obtain ⟨s, hs, rfl⟩ := List.mem_map.mp hd
    exact sm_str (h s hs).gd.2).shaped (by decide)
  have sh2 : SeqAt.shaped (D.lst []).py = true := (sm_lst (n := 1) fun d hd => by cases hd).shaped (by decide)
  show (if SeqAt.shaped (D.lst (ns.map D.str)).py && SeqAt.shaped (D.lst []).py then some (PyData.eqv (D.lst (ns.map D.str)).py (D.lst []).py) else none).map (fun b => D.bl (!b)) = _
  rw [sh, sh2]
  cases ns <;> simp [D.py, pyL, PyData.eqv, PyData.eqvAll]
theorem e_leaf {cols : List (Str × Str)} (sc : SchOk cols) {k : Str} (hk : KindOk k) {m : List D} (hm : Po m) : ∃ d m', f_l_leaf [.pool, .dat (schD cols), .dat (.str k)] m = .ok d m' ∧ Tr cols 1 k d ∧ Po m' := by
  have lc := lcM_filter (enc := colD) (g := gN2 4 5) (t := mTb (m2 eqD (mV 5) (mV 2))) (f := mV 4) (ρ := [.pool, .val (schD cols), .val (.str k), .emp, .emp, .emp]) (m := m) (p := fun c => decide (c.2 = k)) (h := fun c => .str c.1) (xs := cols) fun c hc =>
    ⟨_, rfl, rfl, fun _ => rfl⟩
  have lc : lcM (gN2 4 5) (mTb (m2 eqD (mV 5) (mV 2))) (mV 4) [.pool, .val (schD cols), .val (.str k), .emp, .emp, .emp] (cols.map colD) m = .ok (((cols.filter fun c => decide (c.2 = k)).map (·.1)).map D.str) m := by rw [lc, List.map_map]; rfl
  have hl : cols.length ≤ 1000 := by have := sc.le; omega
  have hn : ∀ s ∈ (cols.filter fun c => decide (c.2 = k)).map (·.1), (s, k) ∈ cols := fun s hs => by
    obtain ⟨c, hc, rfl⟩ := List.mem_map.mp hs
    rw [List.mem_filter] at hc
    have := of_decide_eq_true hc.2
    rw [← this]
    exact hc.1
  have e0 := ne_strs (ns := (cols.filter fun c => decide (c.2 = k)).map (·.1)) fun s hs => (sc.ok _ (hn s hs)).1
  have hlen : ((cols.filter fun c => decide (c.2 = k)).map (·.1)).length ≤ 12 := by
    rw [List.length_map]
    exact Nat.le_trans (List.length_filter_le _ _) sc.le
  revert hn e0 hlen lc
  generalize (cols.filter fun c => decide (c.2 = k)).map (·.1) = ns
  intro lc hn e0 hlen
  have worth : ∀ m, Po m → ∃ d m', f_l_worth [.pool, .dat (.str k)] m = .ok d m' ∧ IsW k d ∧ Po m' := fun m hm => e_worth hk hm
  cases ns with
  | nil =>
    obtain ⟨d, m', e1, hd, p1⟩ := worth m hm
    refine ⟨.tup [.str "value", .str k, d], m', ?_, .val hk hd, p1⟩
    simp [f_l_leaf, sem_l_leaf, schD] at lc e0 ⊢
    simp [lc, hl, e0, e1]
  | cons s ns =>
    obtain ⟨z, m1, e1, a1, b1, p1⟩ := draw_ok (n := 3) hm (by decide) (by decide)
    by_cases hz : 0 < z
    · obtain ⟨z2, m2, e2, a2, b2, p2⟩ := draw_ok (n := ((s :: ns).map D.str).length) p1 (by rw [List.length_map, List.length_cons]; omega) (by rw [List.length_map]; omega)
      obtain ⟨d, hd, hin⟩ := ix_of (ds := (s :: ns).map D.str) a2 b2
      obtain ⟨x, hx, rfl⟩ := List.mem_map.mp hin
      refine ⟨.tup [.str "col", .str x], m2, ?_, .col (hn x hx), p2⟩
      simp [f_l_leaf, sem_l_leaf, schD] at lc e0 e2 hd ⊢
      simp [lc, hl, e0, e1, hz, e2, hd]
    · obtain ⟨d, m', e2, hd, p2⟩ := worth m1 p1
      refine ⟨.tup [.str "value", .str k, d], m', ?_, .val hk hd, p2⟩
      simp [f_l_leaf, sem_l_leaf, schD] at lc e0 ⊢
      simp [lc, hl, e0, e1, hz, e2]
/-- trees of n + 1 levels are drawn by t -/
def Draws (cols : List (Str × Str)) (t : Fn) (n : Nat) : Prop := ∀ k, KindOk k → ∀ m, Po m → ∃ d m', t [.pool, .dat (schD cols), .dat (.str k), .dat (.int ((n : Int) + 1))] m = .ok d m' ∧ Tr cols (n + 1) k d ∧ Po m'
theorem sub1 {n : Nat} : ((n : Int) + 1 + 1) - 1 = (n : Int) + 1 := by omega
theorem e_pair {cols : List (Str × Str)} {t : Fn} {n : Nat} (ht : Draws cols t n) (w : Str) {k : Str} (hk : KindOk k) {m : List D} (hm : Po m) :
    ∃ a b m', f_l_pair t [.pool, .dat (schD cols), .dat (.str w), .dat (.str k), .dat (.int ((n : Int) + 1 + 1))] m = .ok (.tup [.str w, a, b]) m' ∧ Tr cols (n + 1) k a ∧ Tr cols (n + 1) k b ∧ Po m' := by
  obtain ⟨b, m1, e1, t1, p1⟩ := ht k hk m hm
  obtain ⟨a, m2, e2, t2, p2⟩ := ht k hk m1 p1
  exact ⟨a, b, m2, by simp [f_l_pair, sem_l_pair, sub1, e1, e2], t2, t1, p2⟩
theorem e_test {cols : List (Str × Str)} {t : Fn} {n : Nat} (ht : Draws cols t n) {way : Int} (h1 : 2 ≤ way) (h2 : way < 10) {m : List D} (hm : Po m) :
    ∃ d m', f_l_test t [.pool, .dat (schD cols), .dat (.int ((n : Int) + 1 + 1)), .dat (.int way)] m = .ok d m' ∧ Tr cols (n + 1 + 1) "bool" d ∧ Po m' := by
  obtain ⟨z, m1, e1, a1, b1, p1⟩ := draw_ok (n := 3) hm (by decide) (by decide)
  obtain ⟨k, hk, ek⟩ : ∃ k, KindOk k ∧ ixD (.lst [.str "int", .str "text", .str "bool"]) (.int z) = some (.str k) := by
    rcases (by omega : z = 0 ∨ z = 1 ∨ z = 2) with rfl | rfl | rfl
    · exact ⟨"int", .inl rfl, by simp⟩
    · exact ⟨"text", .inr (.inl rfl), by simp⟩
    · exact ⟨"bool", .inr (.inr rfl), by simp⟩
  have kb : KindOk "bool" := .inr (.inr rfl)
  rcases (by omega : way = 2 ∨ way = 3 ∨ way = 4 ∨ way = 5 ∨ way = 6 ∨ way = 7 ∨ way = 8 ∨ way = 9) with rfl | rfl | rfl | rfl | rfl | rfl | rfl | rfl
  · obtain ⟨d, m2, e2, t2, p2⟩ := ht k hk m1 p1
    exact ⟨.tup [.str "there", d], m2, by simp [f_l_test, sem_l_test, sub1, e1, ek, e2], .op (.there hk) (.cons t2 .nil), p2⟩
  · obtain ⟨d, m2, e2, t2, p2⟩ := ht "bool" kb m1 p1
    exact ⟨.tup [.str "not", d], m2, by simp [f_l_test, sem_l_test, sub1, e1, ek, e2], .op .not (.cons t2 .nil), p2⟩
  · obtain ⟨a, b, m2, e2, ta, tb, p2⟩ := e_pair ht "and" kb p1
    exact ⟨.tup [.str "and", a, b], m2, by simp [f_l_test, sem_l_test, e1, ek, e2], .op .and (.cons ta (.cons tb .nil)), p2⟩
  · obtain ⟨a, b, m2, e2, ta, tb, p2⟩ := e_pair ht "or" kb p1
    exact ⟨.tup [.str "or", a, b], m2, by simp [f_l_test, sem_l_test, e1, ek, e2], .op .or (.cons ta (.cons tb .nil)), p2⟩
  · obtain ⟨a, b, m2, e2, ta, tb, p2⟩ := e_pair ht "eq" hk p1
    exact ⟨.tup [.str "eq", a, b], m2, by simp [f_l_test, sem_l_test, e1, ek, e2], .op (.cmp (by decide) hk) (.cons ta (.cons tb .nil)), p2⟩
  · obtain ⟨a, b, m2, e2, ta, tb, p2⟩ := e_pair ht "lt" hk p1
    exact ⟨.tup [.str "lt", a, b], m2, by simp [f_l_test, sem_l_test, e1, ek, e2], .op (.cmp (by decide) hk) (.cons ta (.cons tb .nil)), p2⟩
  · obtain ⟨a, b, m2, e2, ta, tb, p2⟩ := e_pair ht "le" hk p1
    exact ⟨.tup [.str "le", a, b], m2, by simp [f_l_test, sem_l_test, e1, ek, e2], .op (.cmp (by decide) hk) (.cons ta (.cons tb .nil)), p2⟩
  · obtain ⟨a, b, m2, e2, ta, tb, p2⟩ := e_pair ht "eq" hk p1
    exact ⟨.tup [.str "eq", a, b], m2, by simp [f_l_test, sem_l_test, e1, ek, e2], .op (.cmp (by decide) hk) (.cons ta (.cons tb .nil)), p2⟩
theorem num_op {cols : List (Str × Str)} {n : Nat} {w : Str} {a b : D} (hw : w ∈ numW) (ta : Tr cols n "int" a) (tb : Tr cols n "int" b) : Tr cols (n + 1) "int" (.tup [.str w, a, b]) := .op (.num hw) (.cons ta (.cons tb .nil))
theorem e_tree {cols : List (Str × Str)} (sc : SchOk cols) : ∀ N n : Nat, n ≤ N → Draws cols (g_l_tree (N + 1)) n := by
  intro N
  induction N with
  | zero =>
    intro n hn k hk m hm
    obtain rfl : n = 0 := by omega
    obtain ⟨d, m', e1, t1, p1⟩ := e_leaf sc hk hm
    exact ⟨d, m', by simp [g_l_tree, f_l_tree, sem_l_tree, e1], t1, p1⟩
  | succ N ih =>
    intro n hn k hk m hm
    cases n with
    | zero =>
      obtain ⟨d, m', e1, t1, p1⟩ := e_leaf sc hk hm
      refine ⟨d, m', ?_, t1, p1⟩
      rw [g_l_tree]
      simp [f_l_tree, sem_l_tree, e1]
    | succ n =>
      refine (?_ : ∀ t, Draws cols t n → ∃ d m', f_l_tree t [.pool, .dat (schD cols), .dat (.str k), .dat (.int (((n + 1 : Nat) : Int) + 1))] m = .ok d m' ∧ Tr cols (n + 1 + 1) k d ∧ Po m') _ (ih n (by omega))
      intro t ht
      have nl : ¬ ((n : Int) + 1 + 1 < 2) := by omega
      obtain ⟨z, m1, e1, a1, b1, p1⟩ := draw_ok (n := 4) hm (by decide) (by decide)
      have push : (((n + 1 : Nat) : Int) + 1) = (n : Int) + 1 + 1 := by omega
      rw [push]
      by_cases hz : z = 0
      · obtain ⟨d, m', e2, t2, p2⟩ := e_leaf sc hk p1
        exact ⟨d, m', by simp [f_l_tree, sem_l_tree, nl, e1, hz, e2], t2.more (by omega), p2⟩
      · obtain ⟨way, m2, e2, a2, b2, p2⟩ := draw_ok (n := 10) p1 (by decide) (by decide)
        by_cases w0 : way = 0
        · subst w0
          obtain ⟨d1, m3, e3, t3, p3⟩ := ht "bool" (.inr (.inr rfl)) m2 p2
          obtain ⟨d2, m4, e4, t4, p4⟩ := ht k hk m3 p3
          obtain ⟨d3, m5, e5, t5, p5⟩ := ht k hk m4 p4
          exact ⟨.tup [.str "if", d1, d2, d3], m5, by simp [f_l_tree, sem_l_tree, nl, e1, hz, e2, sub1, e3, e4, e5], .op (.ife hk) (.cons t3 (.cons t4 (.cons t5 .nil))), p5⟩
        · by_cases w1 : way = 1
          · subst w1
            obtain ⟨d1, m3, e3, t3, p3⟩ := ht k hk m2 p2
            obtain ⟨d2, m4, e4, t4, p4⟩ := ht k hk m3 p3
            exact ⟨.tup [.str "else", d2, d1], m4, by simp [f_l_tree, sem_l_tree, nl, e1, hz, e2, sub1, e3, e4], .op (.els hk) (.cons t4 (.cons t3 .nil)), p4⟩
          · have hw : 2 ≤ way := by omega
            rcases hk with rfl | rfl | rfl
            · by_cases w2 : way = 2
              · subst w2
                obtain ⟨d1, m3, e3, t3, p3⟩ := ht "text" (.inr (.inl rfl)) m2 p2
                exact ⟨.tup [.str "size", d1], m3, by simp [f_l_tree, sem_l_tree, nl, e1, hz, e2, sub1, e3], .op .size (.cons t3 .nil), p3⟩
              · obtain ⟨w, hw', ew⟩ : ∃ w, w ∈ numW ∧ ixD (.lst [.str "add", .str "sub", .str "mul", .str "div", .str "mod"]) (.int (way % 5)) = some (.str w) := by
                  have : way % 5 = 0 ∨ way % 5 = 1 ∨ way % 5 = 2 ∨ way % 5 = 3 ∨ way % 5 = 4 := by omega
                  rcases this with h | h | h | h | h <;> rw [h]
                  · exact ⟨"add", by decide, by simp⟩
                  · exact ⟨"sub", by decide, by simp⟩
                  · exact ⟨"mul", by decide, by simp⟩
                  · exact ⟨"div", by decide, by simp⟩
                  · exact ⟨"mod", by decide, by simp⟩
                obtain ⟨a, b, m3, e3, ta, tb, p3⟩ := e_pair ht w (k := "int") (.inl rfl) p2
                exact ⟨.tup [.str w, a, b], m3, by simp [f_l_tree, sem_l_tree, nl, e1, hz, e2, w0, w1, w2, ew, e3], num_op hw' ta tb, p3⟩
            · obtain ⟨a, b, m3, e3, ta, tb, p3⟩ := e_pair ht "glue" (k := "text") (.inr (.inl rfl)) p2
              exact ⟨.tup [.str "glue", a, b], m3, by simp [f_l_tree, sem_l_tree, nl, e1, hz, e2, w0, w1, e3], .op .glue (.cons ta (.cons tb .nil)), p3⟩
            · obtain ⟨d, m3, e3, t3, p3⟩ := e_test ht hw b2 p2
              exact ⟨d, m3, by simp [f_l_tree, sem_l_tree, nl, e1, hz, e2, w0, w1, e3], t3, p3⟩
end K15

set_option Elab.async false
set_option linter.all false
set_option maxRecDepth 100000
set_option maxHeartbeats 4000000
namespace K15
open PySem L2 Pd
theorem e_lsize {V : Nat → Str → D → Prop} : ∀ {N : Nat} {d : D}, Xt V N d → ∀ m, g_l_size N [.dat d] m = .ok (.int (ndc N d : Int)) m := by
  intro N
  induction N with
  | zero => intro d h; cases h
  | succ N ih =>
    intro d h m
    cases h with
    | col h => simp [g_l_size, f_l_size, sem_l_size, ndc]
    | val h v => simp [g_l_size, f_l_size, sem_l_size, ndc]
    | op ho r =>
      rename_i w ps
      obtain ⟨a1, a2, a3⟩ := ho.ar
      have lc := lcM_map (g := gN 1) (t := fun _ m => .ok true m) (f := mCall (g_l_size N) (mCons (mV 1) mNil)) (ρ := [.val (.tup (.str w :: ps)), .emp]) (m := m) (h := fun d => .int (ndc N d : Int)) (ds := ps) fun d hd => by
        have hk' := r d hd
        exact ⟨_, rfl, rfl, mCall_eq (mCons_eq rfl mNil_eq) (ih hk' m)⟩
      have hl : ps.length ≤ 1000 := by have := ho.few; omega
      have b2 : (Str.ofString "col" == w) = false := by simpa using Ne.symm a2
      have b3 : (Str.ofString "value" == w) = false := by simpa using Ne.symm a3
      simp [g_l_size, f_l_size, sem_l_size, b2, b3, cut1, lc, sumD_map, ndc, a2, a3, hl]
theorem e_fit {cols : List (Str × Str)} (sc : SchOk cols) {n : Nat} (hn : n ≤ 7) {k : Str} (hk : KindOk k) {m : List D} (hm : Po m) :
    ∃ d m', f_l_fit [.pool, .dat (schD cols), .dat (.str k), .dat (.int ((n : Int) + 1))] m = .ok d m' ∧ Tr cols (n + 1) k d ∧ ndc 9 d ≤ 40 ∧ Po m' := by
  have loop : ∀ (ds : List D) (s4 s5 : Sl) (m : List D), Po m →
      (∃ d m', forM (gN 4) (sSeq (sSet 5 (mCall (g_l_tree 8) (mCons (mV 0) (mCons (mV 1) (mCons (mV 2) (mCons (mV 3) mNil)))))) (sIf (mTb (m2 ltD (mCall (g_l_size 9) (mCons (mV 5) mNil)) (mC (.int 41)))) (sRet (mV 5)) sNx)) ds
        [.pool, .val (schD cols), .val (.str k), .val (.int ((n : Int) + 1)), s4, s5] m = .rt d m' ∧ Tr cols (n + 1) k d ∧ ndc 9 d ≤ 40 ∧ Po m') ∨
      (∃ s4' s5' m', forM (gN 4) (sSeq (sSet 5 (mCall (g_l_tree 8) (mCons (mV 0) (mCons (mV 1) (mCons (mV 2) (mCons (mV 3) mNil)))))) (sIf (mTb (m2 ltD (mCall (g_l_size 9) (mCons (mV 5) mNil)) (mC (.int 41)))) (sRet (mV 5)) sNx)) ds
        [.pool, .val (schD cols), .val (.str k), .val (.int ((n : Int) + 1)), s4, s5] m = .nx [.pool, .val (schD cols), .val (.str k), .val (.int ((n : Int) + 1)), s4', s5'] m' ∧ Po m') := by
    intro ds
    induction ds with
    | nil => intro s4 s5 m hm; exact .inr ⟨s4, s5, m, rfl, hm⟩
    | cons x ds ih =>
      intro s4 s5 m hm
      obtain ⟨d, m1, e1, t1, p1⟩ := e_tree sc 7 n hn k hk m hm
      have e2 := e_lsize (N := 9) ((t1.more (by omega)).xi fun c h => (sc.ok c h).1) m1
      by_cases hz : ndc 9 d < 41
      · have hz' : (ndc 9 d : Int) < 41 := by omega
        exact .inl ⟨d, m1, by simp [e1, e2, hz'], t1, by omega, p1⟩
      · have hz' : ¬ (ndc 9 d : Int) < 41 := by omega
        have := ih (.val x) (.val d) m1 p1
        simp [e1, e2, hz'] at this ⊢
        exact this
  rcases loop (rng 0 4) .emp .emp m hm with ⟨d, m', e, t, hs, p⟩ | ⟨s4, s5, m1, e, p⟩
  · exact ⟨d, m', by simp [f_l_fit, sem_l_fit] at e ⊢; simp [e], t, hs, p⟩
  · obtain ⟨d, m', e2, t2, p2⟩ := e_leaf sc hk p
    refine ⟨d, m', by simp [f_l_fit, sem_l_fit] at e ⊢; simp [e, e2], t2.more (by omega), ?_, p2⟩
    cases t2 with
    | col => simp [ndc]
    | val => simp [ndc]
    | op ho r =>
      cases r with
      | nil => cases ho
      | cons h _ => cases h
end K15

set_option Elab.async false
set_option linter.all false
set_option maxRecDepth 100000
set_option maxHeartbeats 4000000
namespace K15
open PySem L2 Pd
/-! kinds and values of operations: the program and the law alike -/
def optD : Option Str → D
  | none => .non
  | some k => .str k
def kop (w : Str) (ks : List Str) : Option Str :=
  if w ∈ numW then (if ks = [("int" : Str), "int"] then some "int" else none)
  else if w ∈ cmpW then (if ks[0]? = ks[1]? then some "bool" else none)
  else if w = "glue" then (if ks = [("text" : Str), "text"] then some "text" else none)
  else if w = "size" then (if ks = [("text" : Str)] then some "int" else none)
  else if w = "there" then some "bool"
  else if w = "if" then (if ks[0]? = some ("bool" : Str) ∧ ks[1]? = ks[2]? then ks[1]? else none)
  else if w = "else" then (if ks[0]? = ks[1]? then ks[0]? else none)
  else if ks.all (fun k => decide (k = "bool")) then some "bool" else none
theorem e_kop1 {w k : Str} (ha : Ar w 1) (hk : KindOk k) (m : List D) : f_kind_of_operation [.dat (.str w), .dat (.lst [.str k])] m = .ok (optD (kop w [k])) m ∧ f_l_wanted [.dat (.str w), .dat (.lst [.str k])] m = .ok (optD (kop w [k])) m := by
  have h : (w, 1) ∈ arL := ha
  simp [arL] at h
  rcases h with rfl | rfl | rfl <;> rcases hk with rfl | rfl | rfl <;> exact ⟨by kernel_rfl, by kernel_rfl⟩
theorem e_kop2 {w k l : Str} (ha : Ar w 2) (hk : KindOk k) (hl : KindOk l) (m : List D) : f_kind_of_operation [.dat (.str w), .dat (.lst [.str k, .str l])] m = .ok (optD (kop w [k, l])) m ∧ f_l_wanted [.dat (.str w), .dat (.lst [.str k, .str l])] m = .ok (optD (kop w [k, l])) m := by
  have h : (w, 2) ∈ arL := ha
  simp [arL] at h
  rcases h with rfl | rfl | rfl | rfl | rfl | rfl | rfl | rfl | rfl | rfl | rfl | rfl <;> rcases hk with rfl | rfl | rfl <;> rcases hl with rfl | rfl | rfl <;> exact ⟨by kernel_rfl, by kernel_rfl⟩
theorem e_kop3 {k l j : Str} (hk : KindOk k) (hl : KindOk l) (hj : KindOk j) (m : List D) : f_kind_of_operation [.dat (.str "if"), .dat (.lst [.str k, .str l, .str j])] m = .ok (optD (kop "if" [k, l, j])) m ∧ f_l_wanted [.dat (.str "if"), .dat (.lst [.str k, .str l, .str j])] m = .ok (optD (kop "if" [k, l, j])) m := by
  rcases hk with rfl | rfl | rfl <;> rcases hl with rfl | rfl | rfl <;> rcases hj with rfl | rfl | rfl <;> exact ⟨by kernel_rfl, by kernel_rfl⟩
/-- the one value of an operation -/
def vt (k : Str) (v : D) : D := .tup [.str "value", .str k, v]
def Both (n : Nat) (w k : Str) (vs ts : List D) : Prop := ∃ v, Wv (n + 1) k v ∧ (∀ m, f_value_of_operation [.dat (.str w), .dat (.lst vs)] m = .ok v m) ∧ ∀ m, g_l_value 9 [.dat (.tup (.str w :: ts)), .dat (.dct []), .dat (.tup [])] m = .ok v m
theorem bth {n : Nat} {w k : Str} {vs ts : List D} (v : D) (h : Wv (n + 1) k v) (h1 : ∀ m, f_value_of_operation [.dat (.str w), .dat (.lst vs)] m = .ok v m) (h2 : ∀ m, g_l_value 9 [.dat (.tup (.str w :: ts)), .dat (.dct []), .dat (.tup [])] m = .ok v m) : Both n w k vs ts := ⟨v, h, h1, h2⟩
theorem o_bind {v : D} {o : Option D} (h : o = some v) (m : List D) : (match o with | some d => Ou.ok d m | none => (.stuck : Ou D)) = .ok v m := by subst h; rfl
theorem natAbs_fdiv (a b : Int) (h : b ≠ 0) : (a.fdiv b).natAbs ≤ a.natAbs := by
  have e : Int.fdiv a b = _ := Int.fdiv_eq_ediv
  rcases Int.lt_or_gt_of_ne h with hb | hb
  · have h1 := Int.mul_ediv_add_emod a b
    have h2 := Int.emod_nonneg a h
    rw [e]
    by_cases hd : b ∣ a
    · rw [if_pos (.inr hd)]
      obtain ⟨c, rfl⟩ := hd
      rw [Int.sub_zero, Int.mul_ediv_cancel_left _ h, Int.natAbs_mul]
      exact Nat.le_mul_of_pos_left _ (by omega)
    · rw [if_neg (fun h' => h'.elim (fun h' => by omega) hd)]
      have q : b * (a / b) = a - a % b := by omega
      have r0 : a % b ≠ 0 := fun z => hd (Int.dvd_of_emod_eq_zero z)
      have r1 := Int.emod_lt_of_neg a hb
      by_cases s : 0 ≤ a
      · -- a / b ≤ 0
        have q0 : a / b ≤ 0 := by
          refine Int.not_lt.mp fun z => ?_
          have : b * (a / b) ≤ b * 1 := Int.mul_le_mul_of_nonpos_left (by omega) (by omega)
          omega
        have q1 : -(a / b) ≤ -b * -(a / b) := by
          have := Int.mul_le_mul_of_nonneg_right (a := 1) (b := -b) (c := -(a / b)) (by omega) (by omega)
          omega
        have q2 : -b * -(a / b) = b * (a / b) := by rw [Int.neg_mul_neg]
        by_cases q3 : a / b = 0
        · rw [q3]; have : a ≠ 0 := fun z => r0 (by rw [z]; exact Int.zero_emod b); omega
        · omega
      · have q0 : 0 < a / b := by
          refine Int.not_le.mp fun z => ?_
          have : b * (a / b) ≥ b * 0 := Int.mul_le_mul_of_nonpos_left (by omega) (by omega)
          omega
        have q1 : (a / b - 1) ≤ -b * (a / b - 1) := by
          have := Int.mul_le_mul_of_nonneg_right (a := 1) (b := -b) (c := (a / b - 1)) (by omega) (by omega)
          omega
        rw [Int.neg_mul, Int.mul_sub, Int.mul_one] at q1
        omega
  · rw [e, if_pos (.inl (by omega)), Int.sub_zero]
    exact Int.natAbs_ediv_le_natAbs a b
theorem natAbs_fmod (a b : Int) (h : b ≠ 0) : (a.fmod b).natAbs ≤ b.natAbs := by
  rcases Int.lt_or_gt_of_ne h with hb | hb
  · have h1 : Int.fmod a b = _ := Int.fmod_eq_emod
    have h2 := Int.emod_nonneg a h
    have h3 := Int.emod_lt_of_neg a hb
    rw [h1]
    split <;> omega
  · have h1 := Int.fmod_nonneg_of_pos a hb
    have h2 := Int.fmod_lt_of_pos a hb
    omega
theorem l9 : g_l_value 9 = f_l_value (g_l_value 8) := rfl
theorem l_leaf {k : Str} {v : D} (m : List D) : g_l_value 8 [.dat (vt k v), .dat (.dct []), .dat (.tup [])] m = .ok v m := by kernel_rfl
theorem v_num {n : Nat} {w : Str} (hn : n ≤ 4) (hw : w ∈ numW) {a b : D} (ha : Wv n "int" a) (hb : Wv n "int" b) : Both n w "int" [a, b] [vt "int" a, vt "int" b] := by
  simp only [numW, List.mem_cons, List.not_mem_nil, or_false] at hw
  have up := Bn_dbl n
  have ge := Bn_ge n
  cases ha with
  | non => cases hb with
    | non => rcases hw with rfl | rfl | rfl | rfl | rfl <;> exact bth .non (.non _) (fun m => by kernel_rfl) fun m => by kernel_rfl
    | int h => rcases hw with rfl | rfl | rfl | rfl | rfl <;> exact bth .non (.non _) (fun m => by kernel_rfl) fun m => by kernel_rfl
  | int h1 => cases hb with
    | non => rcases hw with rfl | rfl | rfl | rfl | rfl <;> exact bth .non (.non _) (fun m => by kernel_rfl) fun m => by kernel_rfl
    | int h2 =>
      rename_i i j
      have l1 := Wv.log hn h1
      have l2 := Wv.log hn h2
      rcases hw with rfl | rfl | rfl | rfl | rfl
      · exact bth (.int (i + j)) (.int (by omega)) (fun m => by kernel_rfl) fun m => by kernel_rfl
      · exact bth (.int (i - j)) (.int (by omega)) (fun m => by kernel_rfl) fun m => by kernel_rfl
      · have e1 : ∀ m, f_value_of_numbers [.dat (.str "mul"), .dat (.int i), .dat (.int j)] m = .ok (.int (i * j)) m := fun m => by simp [f_value_of_numbers, sem_value_of_numbers, r_mulW l1 l2]
        have e2 : ∀ m, f_l_counted [.dat (.str "mul"), .dat (.int i), .dat (.int j)] m = .ok (.int (i * j)) m := fun m => by simp [f_l_counted, sem_l_counted, r_mulW l1 l2]
        refine bth (.int (i * j)) (.int ?_) (fun m => ?_) fun m => ?_
        · rw [Int.natAbs_mul]
          exact Nat.mul_lt_mul'' h1 h2
        · simp [f_value_of_operation, sem_value_of_operation, anyD, bls, e1]
        · rw [l9]; simp [f_l_value, sem_l_value, cut1, l_leaf, D.eqS, e2]
      · by_cases hj : j = 0
        · subst hj
          exact bth .non (.non _) (fun m => by kernel_rfl) fun m => by kernel_rfl
        · have e1 : ∀ m, f_value_of_numbers [.dat (.str "div"), .dat (.int i), .dat (.int j)] m = .ok (.int (i.fdiv j)) m := fun m => by simp [f_value_of_numbers, sem_value_of_numbers, hj, r_fdivW hj l2]
          have e2 : ∀ m, f_l_counted [.dat (.str "div"), .dat (.int i), .dat (.int j)] m = .ok (.int (i.fdiv j)) m := fun m => by simp [f_l_counted, sem_l_counted, hj, r_fdivW hj l2]
          refine bth (.int (i.fdiv j)) (.int (by have := natAbs_fdiv i j hj; omega)) (fun m => ?_) fun m => ?_
          · simp [f_value_of_operation, sem_value_of_operation, anyD, bls, e1]
          · rw [l9]; simp [f_l_value, sem_l_value, cut1, l_leaf, D.eqS, e2]
      · by_cases hj : j = 0
        · subst hj
          exact bth .non (.non _) (fun m => by kernel_rfl) fun m => by kernel_rfl
        · have e1 : ∀ m, f_value_of_numbers [.dat (.str "mod"), .dat (.int i), .dat (.int j)] m = .ok (.int (i.fmod j)) m := fun m => by simp [f_value_of_numbers, sem_value_of_numbers, hj, intD, r_modW hj]
          have e2 : ∀ m, f_l_counted [.dat (.str "mod"), .dat (.int i), .dat (.int j)] m = .ok (.int (i.fmod j)) m := fun m => by simp [f_l_counted, sem_l_counted, hj, r_modW hj]
          refine bth (.int (i.fmod j)) (.int (by have := natAbs_fmod i j hj; omega)) (fun m => ?_) fun m => ?_
          · simp [f_value_of_operation, sem_value_of_operation, anyD, bls, e1]
          · rw [l9]; simp [f_l_value, sem_l_value, cut1, l_leaf, D.eqS, e2]
end K15

set_option Elab.async false
set_option linter.all false
set_option maxRecDepth 100000
set_option maxHeartbeats 4000000
namespace K15
open PySem L2 Pd
theorem Tsz {n : Nat} (hn : n ≤ 4) : Tn n ≤ 256 := Tn_le (m := 4) hn
theorem v_glue {n : Nat} (hn : n ≤ 4) {a b : D} (ha : Wv n "text" a) (hb : Wv n "text" b) : Both n "glue" "text" [a, b] [vt "text" a, vt "text" b] := by
  have sz := Tsz hn
  cases ha with
  | non => cases hb with
    | non => exact bth .non (.non _) (fun m => by kernel_rfl) fun m => by kernel_rfl
    | text h => exact bth .non (.non _) (fun m => by kernel_rfl) fun m => by kernel_rfl
  | text h1 g1 => cases hb with
    | non => exact bth .non (.non _) (fun m => by kernel_rfl) fun m => by kernel_rfl
    | text h2 g2 =>
      rename_i s t
      have ad : addD (.str s) (.str t) = some (.str (s ++ t)) := add_str rfl (sl_le (by omega))
      have e2 : ∀ m, f_l_counted [.dat (.str "glue"), .dat (.str s), .dat (.str t)] m = .ok (.str (s ++ t)) m := fun m => by simp [f_l_counted, sem_l_counted, D.eqS, ad]
      refine bth (.str (s ++ t)) (.text (by rw [app_len]; show _ ≤ Tn n + Tn n; omega) fun ch hc => ?_) (fun m => ?_) fun m => ?_
      · rw [app_cps] at hc
        exact (List.mem_append.mp hc).elim (g1 ch) (g2 ch)
      · simp [f_value_of_operation, sem_value_of_operation, anyD, bls, ad]
      · rw [l9]; simp [f_l_value, sem_l_value, cut1, l_leaf, D.eqS, e2]
theorem v_size {n : Nat} (hn : n ≤ 4) {a : D} (ha : Wv n "text" a) : Both n "size" "int" [a] [vt "text" a] := by
  have sz := Tsz hn
  cases ha with
  | non => exact bth .non (.non _) (fun m => by kernel_rfl) fun m => by kernel_rfl
  | text h1 g1 =>
    rename_i s
    have ln : lenD [.str s] = some (.int (s.length : Int)) := if_pos (sl_le (by omega))
    refine bth (.int (s.length : Int)) (.int ?_) (fun m => ?_) fun m => ?_
    · have := Tn_Bn n
      have := Bn_up n
      show s.length < _
      omega
    · simp [f_value_of_operation, sem_value_of_operation, anyD, bls, ln]
    · rw [l9]; simp [f_l_value, sem_l_value, cut1, l_leaf, D.eqS, ln]
theorem v_cmp {n : Nat} {w k : Str} (hw : w ∈ cmpW) {a b : D} (ha : Wv n k a) (hb : Wv n k b) : Both n w "bool" [a, b] [vt k a, vt k b] := by
  simp only [cmpW, List.mem_cons, List.not_mem_nil, or_false] at hw
  cases ha with
  | non => cases hb with
    | non => rcases hw with rfl | rfl | rfl <;> exact bth .non (.non _) (fun m => by kernel_rfl) fun m => by kernel_rfl
    | int h => rcases hw with rfl | rfl | rfl <;> exact bth .non (.non _) (fun m => by kernel_rfl) fun m => by kernel_rfl
    | text h => rcases hw with rfl | rfl | rfl <;> exact bth .non (.non _) (fun m => by kernel_rfl) fun m => by kernel_rfl
    | bool h => rcases hw with rfl | rfl | rfl <;> exact bth .non (.non _) (fun m => by kernel_rfl) fun m => by kernel_rfl
  | int h1 => cases hb with
    | non => rcases hw with rfl | rfl | rfl <;> exact bth .non (.non _) (fun m => by kernel_rfl) fun m => by kernel_rfl
    | int h2 =>
      rename_i i j
      rcases hw with rfl | rfl | rfl
      · exact bth (.bl (decide (i = j))) (.bool _) (fun m => by kernel_rfl) fun m => by kernel_rfl
      · exact bth (.bl (decide (i < j))) (.bool _) (fun m => by kernel_rfl) fun m => by kernel_rfl
      · exact bth (.bl (decide (i ≤ j))) (.bool _) (fun m => by kernel_rfl) fun m => by kernel_rfl
  | text h1 => cases hb with
    | non => rcases hw with rfl | rfl | rfl <;> exact bth .non (.non _) (fun m => by kernel_rfl) fun m => by kernel_rfl
    | text h2 =>
      rename_i i _ j _
      rcases hw with rfl | rfl | rfl
      · exact bth (.bl (decide (i = j))) (.bool _) (fun m => by kernel_rfl) fun m => by kernel_rfl
      · exact bth (.bl (decide (i.cps.toList < j.cps.toList))) (.bool _) (fun m => by kernel_rfl) fun m => by kernel_rfl
      · exact bth (.bl (!decide (j.cps.toList < i.cps.toList))) (.bool _) (fun m => by kernel_rfl) fun m => by kernel_rfl
  | bool b1 => cases hb with
    | non => rcases hw with rfl | rfl | rfl <;> exact bth .non (.non _) (fun m => by kernel_rfl) fun m => by kernel_rfl
    | bool b2 =>
      rcases hw with rfl | rfl | rfl
      · exact bth (.bl (decide (b1 = b2))) (.bool _) (fun m => by kernel_rfl) fun m => by kernel_rfl
      · exact bth (.bl (!b1 && b2)) (.bool _) (fun m => by kernel_rfl) fun m => by kernel_rfl
      · exact bth (.bl (!(!b2 && b1))) (.bool _) (fun m => by kernel_rfl) fun m => by kernel_rfl
theorem v_log {n : Nat} {w : Str} (hw : w = "and" ∨ w = "or") {a b : D} (ha : Wv n "bool" a) (hb : Wv n "bool" b) : Both n w "bool" [a, b] [vt "bool" a, vt "bool" b] := by
  cases ha with
  | non => cases hb with
    | non => rcases hw with rfl | rfl <;> exact bth .non (.non _) (fun m => by kernel_rfl) fun m => by kernel_rfl
    | bool b =>
      cases b <;> rcases hw with rfl | rfl
      · exact bth (.bl false) (.bool _) (fun m => by kernel_rfl) fun m => by kernel_rfl
      · exact bth .non (.non _) (fun m => by kernel_rfl) fun m => by kernel_rfl
      · exact bth .non (.non _) (fun m => by kernel_rfl) fun m => by kernel_rfl
      · exact bth (.bl true) (.bool _) (fun m => by kernel_rfl) fun m => by kernel_rfl
  | bool a => cases hb with
    | non =>
      cases a <;> rcases hw with rfl | rfl
      · exact bth (.bl false) (.bool _) (fun m => by kernel_rfl) fun m => by kernel_rfl
      · exact bth .non (.non _) (fun m => by kernel_rfl) fun m => by kernel_rfl
      · exact bth .non (.non _) (fun m => by kernel_rfl) fun m => by kernel_rfl
      · exact bth (.bl true) (.bool _) (fun m => by kernel_rfl) fun m => by kernel_rfl
    | bool b =>
      rcases hw with rfl | rfl
      · cases a <;> cases b
        · exact bth (.bl false) (.bool _) (fun m => by kernel_rfl) fun m => by kernel_rfl
        · exact bth (.bl false) (.bool _) (fun m => by kernel_rfl) fun m => by kernel_rfl
        · exact bth (.bl false) (.bool _) (fun m => by kernel_rfl) fun m => by kernel_rfl
        · exact bth (.bl true) (.bool _) (fun m => by kernel_rfl) fun m => by kernel_rfl
      · cases a <;> cases b
        · exact bth (.bl false) (.bool _) (fun m => by kernel_rfl) fun m => by kernel_rfl
        · exact bth (.bl true) (.bool _) (fun m => by kernel_rfl) fun m => by kernel_rfl
        · exact bth (.bl true) (.bool _) (fun m => by kernel_rfl) fun m => by kernel_rfl
        · exact bth (.bl true) (.bool _) (fun m => by kernel_rfl) fun m => by kernel_rfl
theorem v_not {n : Nat} {a : D} (ha : Wv n "bool" a) : Both n "not" "bool" [a] [vt "bool" a] := by
  cases ha with
  | non => exact bth .non (.non _) (fun m => by kernel_rfl) fun m => by kernel_rfl
  | bool b => exact bth _ (.bool (!b)) (fun m => by kernel_rfl) fun m => by kernel_rfl
theorem v_there {n : Nat} {k : Str} {a : D} (ha : Wv n k a) : Both n "there" "bool" [a] [vt k a] := by
  cases ha with
  | non => exact bth (.bl false) (.bool _) (fun m => by kernel_rfl) fun m => by kernel_rfl
  | _ => exact bth (.bl true) (.bool _) (fun m => by kernel_rfl) fun m => by kernel_rfl
theorem v_if {n : Nat} {k : Str} {a b c : D} (ha : Wv n "bool" a) (hb : Wv n k b) (hc : Wv n k c) : Both n "if" k [a, b, c] [vt "bool" a, vt k b, vt k c] := by
  cases ha with
  | non => exact bth c (hc.more (by omega)) (fun m => by kernel_rfl) fun m => by kernel_rfl
  | bool t => cases t
              · exact bth c (hc.more (by omega)) (fun m => by kernel_rfl) fun m => by kernel_rfl
              · exact bth b (hb.more (by omega)) (fun m => by kernel_rfl) fun m => by kernel_rfl
theorem v_else {n : Nat} {k : Str} {a b : D} (ha : Wv n k a) (hb : Wv n k b) : Both n "else" k [a, b] [vt k a, vt k b] := by
  cases ha with
  | non => exact bth b (hb.more (by omega)) (fun m => by kernel_rfl) fun m => by kernel_rfl
  | int h => exact bth _ (.int (Nat.lt_of_lt_of_le h (Bn_up n))) (fun m => by kernel_rfl) fun m => by kernel_rfl
  | text h h2 => exact bth _ (.text (Nat.le_trans h (Tn_le (by omega))) h2) (fun m => by kernel_rfl) fun m => by kernel_rfl
  | bool t => exact bth _ (.bool t) (fun m => by kernel_rfl) fun m => by kernel_rfl
theorem no_kop {w q : Str} {ks : List Str} {P : Prop} (h : kop w ks = none) (e : kop w ks = some q) : P := by rw [h] at e; cases e
/-- the kind wanted, then the value -/
theorem v_op1 {n : Nat} (hn : n ≤ 4) {w k q : Str} {a : D} (hr : Ar w 1) (hk : KindOk k) (ha : Wv n k a) (e : kop w [k] = some q) : KindOk q ∧ Both n w q [a] [vt k a] := by
  have h : (w, 1) ∈ arL := hr
  simp [arL] at h
  rcases h with rfl | rfl | rfl
  · rcases hk with rfl | rfl | rfl
    · exact no_kop (by decide) e
    · cases (show some ("int" : Str) = some q from e); exact ⟨.inl rfl, v_size hn ha⟩
    · exact no_kop (by decide) e
  · rcases hk with rfl | rfl | rfl
    · exact no_kop (by decide) e
    · exact no_kop (by decide) e
    · cases (show some ("bool" : Str) = some q from e); exact ⟨.inr (.inr rfl), v_not ha⟩
  · cases (show some ("bool" : Str) = some q from e); exact ⟨.inr (.inr rfl), v_there ha⟩
theorem v_op2 {n : Nat} (hn : n ≤ 4) {w k l q : Str} {a b : D} (hr : Ar w 2) (hk : KindOk k) (hl : KindOk l) (ha : Wv n k a) (hb : Wv n l b) (e : kop w [k, l] = some q) : KindOk q ∧ Both n w q [a, b] [vt k a, vt l b] := by
  have kb : KindOk "bool" := .inr (.inr rfl)
  by_cases hw : w ∈ numW
  · have : kop w [k, l] = if [k, l] = [("int" : Str), "int"] then some ("int" : Str) else none := if_pos hw
    rw [this] at e
    split at e
    · rename_i h
      simp only [List.cons.injEq, and_true] at h
      obtain ⟨rfl, rfl⟩ := h
      cases e
      exact ⟨.inl rfl, v_num hn hw ha hb⟩
    · cases e
  · by_cases hc : w ∈ cmpW
    · have : kop w [k, l] = if k = l then some ("bool" : Str) else none := by
        unfold kop
        rw [if_neg hw, if_pos hc]
        simp
      rw [this] at e
      split at e
      · subst l
        cases e
        exact ⟨kb, v_cmp hc ha hb⟩
      · cases e
    · have h : (w, 2) ∈ arL := hr
      simp [arL] at h
      have h : w = "glue" ∨ w = "and" ∨ w = "or" ∨ w = "else" := by
        rcases h with rfl | rfl | rfl | rfl | rfl | rfl | rfl | rfl | rfl | rfl | rfl | rfl
        · exact absurd (by decide) hw
        · exact absurd (by decide) hw
        · exact absurd (by decide) hw
        · exact absurd (by decide) hw
        · exact absurd (by decide) hw
        · exact .inl rfl
        · exact absurd (by decide) hc
        · exact absurd (by decide) hc
        · exact absurd (by decide) hc
        · exact .inr (.inl rfl)
        · exact .inr (.inr (.inl rfl))
        · exact .inr (.inr (.inr rfl))
      rcases h with rfl | rfl | rfl | rfl
      · rcases hk with rfl | rfl | rfl <;> rcases hl with rfl | rfl | rfl
        case inr.inl.inr.inl => cases (show some ("text" : Str) = some q from e); exact ⟨.inr (.inl rfl), v_glue hn ha hb⟩
        all_goals exact no_kop (by decide) e
      · rcases hk with rfl | rfl | rfl <;> rcases hl with rfl | rfl | rfl
        case inr.inr.inr.inr => cases (show some ("bool" : Str) = some q from e); exact ⟨kb, v_log (.inl rfl) ha hb⟩
        all_goals exact no_kop (by decide) e
      · rcases hk with rfl | rfl | rfl <;> rcases hl with rfl | rfl | rfl
        case inr.inr.inr.inr => cases (show some ("bool" : Str) = some q from e); exact ⟨kb, v_log (.inr rfl) ha hb⟩
        all_goals exact no_kop (by decide) e
      · have : kop "else" [k, l] = if k = l then some k else none := by
          unfold kop
          rw [if_neg hw, if_neg hc]
          simp
        rw [this] at e
        split at e
        · subst l
          cases e
          exact ⟨hk, v_else ha hb⟩
        · cases e
theorem v_op3 {n : Nat} {k l j q : Str} {a b c : D} (hk : KindOk k) (hl : KindOk l) (hj : KindOk j) (ha : Wv n k a) (hb : Wv n l b) (hc : Wv n j c) (e : kop "if" [k, l, j] = some q) : KindOk q ∧ Both n "if" q [a, b, c] [vt k a, vt l b, vt j c] := by
  have : kop "if" [k, l, j] = if k = "bool" ∧ l = j then some l else none := by
    unfold kop
    rw [if_neg (by decide), if_neg (by decide)]
    simp
  rw [this] at e
  split at e
  · rename_i h
    obtain ⟨rfl, rfl⟩ := h
    cases e
    exact ⟨hl, v_if ha hb hc⟩
  · cases e
end K15

set_option Elab.async false
set_option linter.all false
set_option maxRecDepth 100000
set_option maxHeartbeats 4000000
namespace K15
open PySem L2 Pd
def tailL : Ms :=
  (sSeq (sIf (mTb (m2 inD (mV 1) (mPub (mLst (mCons (mC (.str "and")) (mCons (mC (.str "or")) mNil))))))
  (sFor (mItR (mC (.int 2))) (gN 6)
  (sSeq (sSet 7 (mIf (mTb (m2 eqD (mSl kSlT (m2 ixD (mV 2) (mV 6)) oN (oS (mC (.int 2)))) (mTup (mCons (mC (.str "value")) (mCons (mC (.str "bool")) mNil))))) (m2 ixD (m2 ixD (mV 2) (mV 6)) (mC (.int 2))) (mC .non)))
  (sIf (mTb (m1 (fun d => some (.bl (!isNone d))) (mV 7)))
  (sRet (mIf (mTb (m2 eqD (mV 7) (m2 eqD (mV 1) (mC (.str "and"))))) (m2 ixD (mV 2) (m2 subD (mC (.int 1)) (mV 6))) (m2 ixD (mV 2) (mV 6))))
  sNx)))
  sNx)
  (sSeq (sIf (mAnd (mTb (m2 eqD (mV 1) (mC (.str "not")))) (mTb (m2 eqD (m2 ixD (m2 ixD (mV 2) (mC (.int 0))) (mC (.int 0))) (mC (.str "not")))))
  (sRet (m2 ixD (m2 ixD (mV 2) (mC (.int 0))) (mC (.int 1))))
  sNx)
  (sSeq (sIf (mAnd (mTb (m2 eqD (mV 1) (mC (.str "if")))) (mTb (m2 eqD (m2 ixD (m2 ixD (mV 2) (mC (.int 0))) (mC (.int 0))) (mC (.str "value")))))
  (sRet (mIf (mTb (m1 (isBD true) (m2 ixD (m2 ixD (mV 2) (mC (.int 0))) (mC (.int 2))))) (m2 ixD (mV 2) (mC (.int 1))) (m2 ixD (mV 2) (mC (.int 2)))))
  sNx)
  (sSeq (sIf (mAnd (mTb (m2 eqD (mV 1) (mC (.str "else")))) (mTb (m2 eqD (m2 ixD (m2 ixD (mV 2) (mC (.int 0))) (mC (.int 0))) (mC (.str "value")))))
  (sRet (mIf (mTb (m1 (fun d => some (.bl (isNone d))) (m2 ixD (m2 ixD (mV 2) (mC (.int 0))) (mC (.int 2))))) (m2 ixD (mV 2) (mC (.int 1))) (m2 ixD (mV 2) (mC (.int 0)))))
  sNx)
  (sRet (mV 4))))))
/-! what a folded part looks like -/
def hd1 (r : D) (h : Str) : Prop := ixD r (.int 0) = some (.str h) ∧ Sm 0 (.str h)
theorem sbd (x y : Str) : (x == y) = decide (x = y) := by
  by_cases e : x = y
  · subst e; simp
  · simp [e]
theorem sv : Sm 0 (.str "value") := sm0_str (by decide +kernel)
theorem eqS1 {a c : Str} (ha : Sm 0 (.str a)) (hc : Sm 0 (.str c)) : eqD (.lst [.str a]) (.lst [.str c]) = some (.bl (decide (a = c))) := by
  have s1 : SeqAt.shaped (D.lst [.str a]).py = true := (sm_lst (n := 0) fun d hd => by simp only [List.mem_cons, List.not_mem_nil, or_false] at hd; subst hd; exact ha).shaped (by decide)
  have s2 : SeqAt.shaped (D.lst [.str c]).py = true := (sm_lst (n := 0) fun d hd => by simp only [List.mem_cons, List.not_mem_nil, or_false] at hd; subst hd; exact hc).shaped (by decide)
  refine eqD_of ?_
  show (if SeqAt.shaped (D.lst [.str a]).py && SeqAt.shaped (D.lst [.str c]).py then some (PyData.eqv (D.lst [.str a]).py (D.lst [.str c]).py) else none) = _
  rw [s1, s2]
  simp [D.py, pyL, PyData.eqv, PyData.eqvAll, sbd]
theorem eqS2 {a b c d : Str} (ha : Sm 0 (.str a)) (hb : Sm 0 (.str b)) (hc : Sm 0 (.str c)) (hd : Sm 0 (.str d)) : eqD (.lst [.str a, .str b]) (.lst [.str c, .str d]) = some (.bl (decide (a = c) && decide (b = d))) := by
  have s1 : SeqAt.shaped (D.lst [.str a, .str b]).py = true := (sm_lst (n := 0) fun d hd => by simp only [List.mem_cons, List.not_mem_nil, or_false] at hd; rcases hd with rfl | rfl <;> assumption).shaped (by decide)
  have s2 : SeqAt.shaped (D.lst [.str c, .str d]).py = true := (sm_lst (n := 0) fun d hd => by simp only [List.mem_cons, List.not_mem_nil, or_false] at hd; rcases hd with rfl | rfl <;> assumption).shaped (by decide)
  refine eqD_of ?_
  show (if SeqAt.shaped (D.lst [.str a, .str b]).py && SeqAt.shaped (D.lst [.str c, .str d]).py then some (PyData.eqv (D.lst [.str a, .str b]).py (D.lst [.str c, .str d]).py) else none) = _
  rw [s1, s2]
  simp [D.py, pyL, PyData.eqv, PyData.eqvAll, sbd]
theorem eqS3 {a b c d e f : Str} (ha : Sm 0 (.str a)) (hb : Sm 0 (.str b)) (hc : Sm 0 (.str c)) (hd : Sm 0 (.str d)) (he : Sm 0 (.str e)) (hf : Sm 0 (.str f)) : eqD (.lst [.str a, .str b, .str c]) (.lst [.str d, .str e, .str f]) = some (.bl (decide (a = d) && (decide (b = e) && decide (c = f)))) := by
  have s1 : SeqAt.shaped (D.lst [.str a, .str b, .str c]).py = true := (sm_lst (n := 0) fun d hd => by simp only [List.mem_cons, List.not_mem_nil, or_false] at hd; rcases hd with rfl | rfl | rfl <;> assumption).shaped (by decide)
  have s2 : SeqAt.shaped (D.lst [.str d, .str e, .str f]).py = true := (sm_lst (n := 0) fun d hd => by simp only [List.mem_cons, List.not_mem_nil, or_false] at hd; rcases hd with rfl | rfl | rfl <;> assumption).shaped (by decide)
  refine eqD_of ?_
  show (if SeqAt.shaped (D.lst [.str a, .str b, .str c]).py && SeqAt.shaped (D.lst [.str d, .str e, .str f]).py then some (PyData.eqv (D.lst [.str a, .str b, .str c]).py (D.lst [.str d, .str e, .str f]).py) else none) = _
  rw [s1, s2]
  simp [D.py, pyL, PyData.eqv, PyData.eqvAll, sbd]
theorem ad1 {w a : D} : addD (.tup [w]) (.tup [a]) = some (.tup [w, a]) := by kernel_rfl
theorem ad2 {w a b : D} : addD (.tup [w]) (.tup [a, b]) = some (.tup [w, a, b]) := by kernel_rfl
theorem ad3 {w a b c : D} : addD (.tup [w]) (.tup [a, b, c]) = some (.tup [w, a, b, c]) := by kernel_rfl
/-- from the tail -/
def Tl (w : Str) (rs : List D) (r : D) : Prop := ∀ (d : D) (s3 s5 : Sl) (m : List D), tailL [.val d, .val (.str w), .val (.lst rs), s3, .val (.tup (.str w :: rs)), s5, .emp, .emp] m = .rt r m
def Sp (w : Str) (rs : List D) (r : D) : Prop := ∀ m, f_shortened [.dat (.str w), .dat (.lst rs)] m = .ok r m
section
variable {t t' : Fn} {w : Str} {a b c ra rb rc : D} {h1 h2 h3 : Str} {r : D}
theorem pre1P (a2 : w ≠ "col") (a3 : w ≠ "value") (ea : ∀ m, t [.dat a] m = .ok ra m) (x1 : hd1 ra h1) (no : ¬ h1 = "value") (s : Sp w [ra] r) (m : List D) : f_folded_of t [.dat (.tup [.str w, a])] m = .ok r m := by
  simp [f_folded_of, sem_folded_of, e_isop a2 a3, e_parts a2 a3, ea, x1.1, allD, bls, no, s m]
theorem pre2P (a2 : w ≠ "col") (a3 : w ≠ "value") (ea : ∀ m, t [.dat a] m = .ok ra m) (eb : ∀ m, t [.dat b] m = .ok rb m) (x1 : hd1 ra h1) (x2 : hd1 rb h2) (no : ¬ (h1 = "value" ∧ h2 = "value")) (s : Sp w [ra, rb] r) (m : List D) : f_folded_of t [.dat (.tup [.str w, a, b])] m = .ok r m := by
  have no' : (decide (h1 = "value") && decide (h2 = "value")) = false := by simpa using no
  simp [f_folded_of, sem_folded_of, e_isop a2 a3, e_parts a2 a3, ea, eb, x1.1, x2.1, allD, bls, no', s m]
theorem pre3P (a2 : w ≠ "col") (a3 : w ≠ "value") (ea : ∀ m, t [.dat a] m = .ok ra m) (eb : ∀ m, t [.dat b] m = .ok rb m) (ec : ∀ m, t [.dat c] m = .ok rc m) (x1 : hd1 ra h1) (x2 : hd1 rb h2) (x3 : hd1 rc h3) (no : ¬ (h1 = "value" ∧ h2 = "value" ∧ h3 = "value")) (s : Sp w [ra, rb, rc] r) (m : List D) : f_folded_of t [.dat (.tup [.str w, a, b, c])] m = .ok r m := by
  have no' : (decide (h1 = "value") && (decide (h2 = "value") && decide (h3 = "value"))) = false := by simpa using no
  simp [f_folded_of, sem_folded_of, e_isop a2 a3, e_parts a2 a3, ea, eb, ec, x1.1, x2.1, x3.1, allD, bls, no', s m]
theorem pre1L (a2 : w ≠ "col") (a3 : w ≠ "value") (ea : ∀ m, t [.dat a] m = .ok ra m) (x1 : hd1 ra h1) (no : ¬ h1 = "value") (s : Tl w [ra] r) (m : List D) : f_l_folded t [.dat (.tup [.str w, a])] m = .ok r m := by
  have b2 : (Str.ofString "col" == w) = false := by simpa using Ne.symm a2
  have b3 : (Str.ofString "value" == w) = false := by simpa using Ne.symm a3
  have e := eqS1 (c := "value") x1.2 sv
  have s := s (.tup [.str w, a]) .emp .emp m
  unfold tailL at s
  simp [f_l_folded, sem_l_folded, b2, b3, cut1, ea, ad1, x1.1, List.replicate, e, no] at s ⊢
  simp [s]
theorem pre2L (a2 : w ≠ "col") (a3 : w ≠ "value") (ea : ∀ m, t [.dat a] m = .ok ra m) (eb : ∀ m, t [.dat b] m = .ok rb m) (x1 : hd1 ra h1) (x2 : hd1 rb h2) (no : ¬ (h1 = "value" ∧ h2 = "value")) (s : Tl w [ra, rb] r) (m : List D) : f_l_folded t [.dat (.tup [.str w, a, b])] m = .ok r m := by
  have b2 : (Str.ofString "col" == w) = false := by simpa using Ne.symm a2
  have b3 : (Str.ofString "value" == w) = false := by simpa using Ne.symm a3
  have no' : (decide (h1 = "value") && decide (h2 = "value")) = false := by simpa using no
  have e := eqS2 (c := "value") (d := "value") x1.2 x2.2 sv sv
  have s := s (.tup [.str w, a, b]) .emp .emp m
  unfold tailL at s
  simp [f_l_folded, sem_l_folded, b2, b3, cut1, ea, eb, ad2, x1.1, x2.1, List.replicate, e, no'] at s ⊢
  simp [s]
theorem pre3L (a2 : w ≠ "col") (a3 : w ≠ "value") (ea : ∀ m, t [.dat a] m = .ok ra m) (eb : ∀ m, t [.dat b] m = .ok rb m) (ec : ∀ m, t [.dat c] m = .ok rc m) (x1 : hd1 ra h1) (x2 : hd1 rb h2) (x3 : hd1 rc h3) (no : ¬ (h1 = "value" ∧ h2 = "value" ∧ h3 = "value")) (s : Tl w [ra, rb, rc] r) (m : List D) : f_l_folded t [.dat (.tup [.str w, a, b, c])] m = .ok r m := by
  have b2 : (Str.ofString "col" == w) = false := by simpa using Ne.symm a2
  have b3 : (Str.ofString "value" == w) = false := by simpa using Ne.symm a3
  have no' : (decide (h1 = "value") && (decide (h2 = "value") && decide (h3 = "value"))) = false := by simpa using no
  have e := eqS3 (d := "value") (e := "value") (f := "value") x1.2 x2.2 x3.2 sv sv sv
  have s := s (.tup [.str w, a, b, c]) .emp .emp m
  unfold tailL at s
  simp [f_l_folded, sem_l_folded, b2, b3, cut1, ea, eb, ec, ad3, x1.1, x2.1, x3.1, List.replicate, e, no'] at s ⊢
  simp [s]
end
/-! all parts values -/
section
variable {t : Fn} {w k l j q : Str} {a b c va vb vc v r : D} {m : List D}
theorem all1P (ha : Ar w 1) (hk : KindOk k) (ea : ∀ m, t [.dat a] m = .ok (vt k va) m) (e : kop w [k] = some q) (ev : ∀ m, f_value_of_operation [.dat (.str w), .dat (.lst [va])] m = .ok v m) : f_folded_of t [.dat (.tup [.str w, a])] m = .ok (vt q v) m := by
  obtain ⟨_, a2, a3⟩ := ha.ar
  have ek := (e_kop1 ha hk m).1
  rw [e] at ek
  unfold vt at ea
  simp [f_folded_of, sem_folded_of, e_isop a2 a3, e_parts a2 a3, ea, allD, bls, ek, optD, ev m, vt]
theorem all2P (ha : Ar w 2) (hk : KindOk k) (hl : KindOk l) (ea : ∀ m, t [.dat a] m = .ok (vt k va) m) (eb : ∀ m, t [.dat b] m = .ok (vt l vb) m) (e : kop w [k, l] = some q) (ev : ∀ m, f_value_of_operation [.dat (.str w), .dat (.lst [va, vb])] m = .ok v m) : f_folded_of t [.dat (.tup [.str w, a, b])] m = .ok (vt q v) m := by
  obtain ⟨_, a2, a3⟩ := ha.ar
  have ek := (e_kop2 ha hk hl m).1
  rw [e] at ek
  unfold vt at ea eb
  simp [f_folded_of, sem_folded_of, e_isop a2 a3, e_parts a2 a3, ea, eb, allD, bls, ek, optD, ev m, vt]
theorem all3P (hk : KindOk k) (hl : KindOk l) (hj : KindOk j) (ea : ∀ m, t [.dat a] m = .ok (vt k va) m) (eb : ∀ m, t [.dat b] m = .ok (vt l vb) m) (ec : ∀ m, t [.dat c] m = .ok (vt j vc) m) (e : kop "if" [k, l, j] = some q) (ev : ∀ m, f_value_of_operation [.dat (.str "if"), .dat (.lst [va, vb, vc])] m = .ok v m) : f_folded_of t [.dat (.tup [.str "if", a, b, c])] m = .ok (vt q v) m := by
  have ek := (e_kop3 hk hl hj m).1
  rw [e] at ek
  unfold vt at ea eb ec
  simp [f_folded_of, sem_folded_of, e_isop, e_parts, ea, eb, ec, allD, bls, ek, optD, ev m, vt]
theorem nok1P (ha : Ar w 1) (hk : KindOk k) (ea : ∀ m, t [.dat a] m = .ok (vt k va) m) (e : kop w [k] = none) (s : Sp w [vt k va] r) : f_folded_of t [.dat (.tup [.str w, a])] m = .ok r m := by
  obtain ⟨_, a2, a3⟩ := ha.ar
  have ek := (e_kop1 ha hk m).1
  rw [e] at ek
  have s := s m
  unfold vt at ea s
  simp [f_folded_of, sem_folded_of, e_isop a2 a3, e_parts a2 a3, ea, allD, bls, ek, optD, s]
theorem nok2P (ha : Ar w 2) (hk : KindOk k) (hl : KindOk l) (ea : ∀ m, t [.dat a] m = .ok (vt k va) m) (eb : ∀ m, t [.dat b] m = .ok (vt l vb) m) (e : kop w [k, l] = none) (s : Sp w [vt k va, vt l vb] r) : f_folded_of t [.dat (.tup [.str w, a, b])] m = .ok r m := by
  obtain ⟨_, a2, a3⟩ := ha.ar
  have ek := (e_kop2 ha hk hl m).1
  rw [e] at ek
  have s := s m
  unfold vt at ea eb s
  simp [f_folded_of, sem_folded_of, e_isop a2 a3, e_parts a2 a3, ea, eb, allD, bls, ek, optD, s]
theorem nok3P (hk : KindOk k) (hl : KindOk l) (hj : KindOk j) (ea : ∀ m, t [.dat a] m = .ok (vt k va) m) (eb : ∀ m, t [.dat b] m = .ok (vt l vb) m) (ec : ∀ m, t [.dat c] m = .ok (vt j vc) m) (e : kop "if" [k, l, j] = none) (s : Sp "if" [vt k va, vt l vb, vt j vc] r) : f_folded_of t [.dat (.tup [.str "if", a, b, c])] m = .ok r m := by
  have ek := (e_kop3 hk hl hj m).1
  rw [e] at ek
  have s := s m
  unfold vt at ea eb ec s
  simp [f_folded_of, sem_folded_of, e_isop, e_parts, ea, eb, ec, allD, bls, ek, optD, s]
theorem vals1 : eqD (.lst [.str "value"]) (.lst [.str "value"]) = some (.bl true) := by kernel_rfl
theorem vals2 : eqD (.lst [.str "value", .str "value"]) (.lst [.str "value", .str "value"]) = some (.bl true) := by kernel_rfl
theorem vals3 : eqD (.lst [.str "value", .str "value", .str "value"]) (.lst [.str "value", .str "value", .str "value"]) = some (.bl true) := by kernel_rfl
theorem all1L (ha : Ar w 1) (hk : KindOk k) (ea : ∀ m, t [.dat a] m = .ok (vt k va) m) (e : kop w [k] = some q) (ev : ∀ m, g_l_value 9 [.dat (.tup [.str w, vt k va]), .dat (.dct []), .dat (.tup [])] m = .ok v m) : f_l_folded t [.dat (.tup [.str w, a])] m = .ok (vt q v) m := by
  obtain ⟨_, a2, a3⟩ := ha.ar
  have b2 : (Str.ofString "col" == w) = false := by simpa using Ne.symm a2
  have b3 : (Str.ofString "value" == w) = false := by simpa using Ne.symm a3
  have ek := (e_kop1 ha hk m).2
  rw [e] at ek
  unfold vt at ea ev
  simp [f_l_folded, sem_l_folded, b2, b3, cut1, ea, ad1, List.replicate, vals1, ek, optD, ev m, vt]
theorem all2L (ha : Ar w 2) (hk : KindOk k) (hl : KindOk l) (ea : ∀ m, t [.dat a] m = .ok (vt k va) m) (eb : ∀ m, t [.dat b] m = .ok (vt l vb) m) (e : kop w [k, l] = some q) (ev : ∀ m, g_l_value 9 [.dat (.tup [.str w, vt k va, vt l vb]), .dat (.dct []), .dat (.tup [])] m = .ok v m) : f_l_folded t [.dat (.tup [.str w, a, b])] m = .ok (vt q v) m := by
  obtain ⟨_, a2, a3⟩ := ha.ar
  have b2 : (Str.ofString "col" == w) = false := by simpa using Ne.symm a2
  have b3 : (Str.ofString "value" == w) = false := by simpa using Ne.symm a3
  have ek := (e_kop2 ha hk hl m).2
  rw [e] at ek
  unfold vt at ea eb ev
  simp [f_l_folded, sem_l_folded, b2, b3, cut1, ea, eb, ad2, List.replicate, vals2, ek, optD, ev m, vt]
theorem all3L (hk : KindOk k) (hl : KindOk l) (hj : KindOk j) (ea : ∀ m, t [.dat a] m = .ok (vt k va) m) (eb : ∀ m, t [.dat b] m = .ok (vt l vb) m) (ec : ∀ m, t [.dat c] m = .ok (vt j vc) m) (e : kop "if" [k, l, j] = some q) (ev : ∀ m, g_l_value 9 [.dat (.tup [.str "if", vt k va, vt l vb, vt j vc]), .dat (.dct []), .dat (.tup [])] m = .ok v m) : f_l_folded t [.dat (.tup [.str "if", a, b, c])] m = .ok (vt q v) m := by
  have ek := (e_kop3 hk hl hj m).2
  rw [e] at ek
  unfold vt at ea eb ec ev
  simp [f_l_folded, sem_l_folded, cut1, ea, eb, ec, ad3, List.replicate, vals3, ek, optD, ev m, vt]
theorem nok1L (ha : Ar w 1) (hk : KindOk k) (ea : ∀ m, t [.dat a] m = .ok (vt k va) m) (e : kop w [k] = none) (s : Tl w [vt k va] r) : f_l_folded t [.dat (.tup [.str w, a])] m = .ok r m := by
  obtain ⟨_, a2, a3⟩ := ha.ar
  have b2 : (Str.ofString "col" == w) = false := by simpa using Ne.symm a2
  have b3 : (Str.ofString "value" == w) = false := by simpa using Ne.symm a3
  have ek := (e_kop1 ha hk m).2
  rw [e] at ek
  have s := s (.tup [.str w, a]) .emp (.val .non) m
  unfold vt at ea s
  unfold tailL at s
  simp [f_l_folded, sem_l_folded, b2, b3, cut1, ea, ad1, List.replicate, vals1, ek, optD] at s ⊢
  simp [s]
theorem nok2L (ha : Ar w 2) (hk : KindOk k) (hl : KindOk l) (ea : ∀ m, t [.dat a] m = .ok (vt k va) m) (eb : ∀ m, t [.dat b] m = .ok (vt l vb) m) (e : kop w [k, l] = none) (s : Tl w [vt k va, vt l vb] r) : f_l_folded t [.dat (.tup [.str w, a, b])] m = .ok r m := by
  obtain ⟨_, a2, a3⟩ := ha.ar
  have b2 : (Str.ofString "col" == w) = false := by simpa using Ne.symm a2
  have b3 : (Str.ofString "value" == w) = false := by simpa using Ne.symm a3
  have ek := (e_kop2 ha hk hl m).2
  rw [e] at ek
  have s := s (.tup [.str w, a, b]) .emp (.val .non) m
  unfold vt at ea eb s
  unfold tailL at s
  simp [f_l_folded, sem_l_folded, b2, b3, cut1, ea, eb, ad2, List.replicate, vals2, ek, optD] at s ⊢
  simp [s]
theorem nok3L (hk : KindOk k) (hl : KindOk l) (hj : KindOk j) (ea : ∀ m, t [.dat a] m = .ok (vt k va) m) (eb : ∀ m, t [.dat b] m = .ok (vt l vb) m) (ec : ∀ m, t [.dat c] m = .ok (vt j vc) m) (e : kop "if" [k, l, j] = none) (s : Tl "if" [vt k va, vt l vb, vt j vc] r) : f_l_folded t [.dat (.tup [.str "if", a, b, c])] m = .ok r m := by
  have ek := (e_kop3 hk hl hj m).2
  rw [e] at ek
  have s := s (.tup [.str "if", a, b, c]) .emp (.val .non) m
  unfold vt at ea eb ec s
  unfold tailL at s
  simp [f_l_folded, sem_l_folded, cut1, ea, eb, ec, ad3, List.replicate, vals3, ek, optD] at s ⊢
  simp [s]
end
end K15

set_option Elab.async false
set_option linter.all false
set_option maxRecDepth 100000
set_option maxHeartbeats 4000000
set_option pp.maxSteps 400
set_option pp.deepTerms false
namespace K15
open PySem L2 Pd
structure Cls (ds : List D) (o : Option Bool) : Prop where
  p : ∀ b, eqD (.tup ds) (.tup [.str "value", .str "bool", .bl b]) = some (.bl (decide (o = some b)))
  l : (eqD (.tup (cutL ds none (some 2))) (.tup [.str "value", .str "bool"]) = some (.bl true) ∧ ixD (.tup ds) (.int 2) = some (match o with | some b => .bl b | none => .non)) ∨ (eqD (.tup (cutL ds none (some 2))) (.tup [.str "value", .str "bool"]) = some (.bl false) ∧ o = none)
  e : ∀ b, o = some b → D.tup ds = vt "bool" (.bl b)
def aoR (w : Str) (wk : Bool) (o1 o2 : Option Bool) (r1 r2 : D) : D := match o1 with
  | some b => if b = wk then r2 else vt "bool" (.bl b)
  | none => match o2 with
    | some b => if b = wk then r1 else vt "bool" (.bl b)
    | none => .tup [.str w, r1, r2]
@[simp] theorem r_eq_b {a b : Bool} : eqD (.bl a) (.bl b) = some (.bl (decide (a = b))) := rfl
theorem rng2 : rng 0 2 = [.int 0, .int 1] := rfl
section
variable {ds1 ds2 : List D} {o1 o2 : Option Bool}
theorem sp_and (c1 : Cls ds1 o1) (c2 : Cls ds2 o2) : Sp "and" [.tup ds1, .tup ds2] (aoR "and" true o1 o2 (.tup ds1) (.tup ds2)) := by
  intro m
  rcases o1 with _ | _ | _
  · rcases o2 with _ | _ | _ <;> simp [f_shortened, sem_shortened, D.eqS, c1.p, c2.p, aoR, vt]
  · simp [f_shortened, sem_shortened, D.eqS, c1.p, c2.p, aoR, vt]
  · simp [f_shortened, sem_shortened, D.eqS, c1.p, c2.p, aoR, vt]
theorem sp_or (c1 : Cls ds1 o1) (c2 : Cls ds2 o2) : Sp "or" [.tup ds1, .tup ds2] (aoR "or" false o1 o2 (.tup ds1) (.tup ds2)) := by
  intro m
  rcases o1 with _ | _ | _
  · rcases o2 with _ | _ | _ <;> simp [f_shortened, sem_shortened, D.eqS, c1.p, c2.p, aoR, vt]
  · simp [f_shortened, sem_shortened, D.eqS, c1.p, c2.p, aoR, vt]
  · simp [f_shortened, sem_shortened, D.eqS, c1.p, c2.p, aoR, vt]
theorem tl_and (c1 : Cls ds1 o1) (c2 : Cls ds2 o2) : Tl "and" [.tup ds1, .tup ds2] (aoR "and" true o1 o2 (.tup ds1) (.tup ds2)) := by
  intro d s3 s5 m
  rcases o1 with _ | b
  · rcases c1.l with ⟨l1, l2⟩ | ⟨l1, _⟩
    · rcases o2 with _ | b
      · rcases c2.l with ⟨k1, k2⟩ | ⟨k1, _⟩ 
        · simp [tailL, D.eqS, rng2, l1, l2, k1, k2, aoR]
        · simp [tailL, D.eqS, rng2, l1, l2, k1, aoR]
      · rcases c2.l with ⟨k1, k2⟩ | ⟨k1, h⟩
        · have := c2.e b rfl
          cases b <;> simp [tailL, D.eqS, rng2, l1, l2, k1, k2, aoR, this.symm]
        · cases h
    · rcases o2 with _ | b
      · rcases c2.l with ⟨k1, k2⟩ | ⟨k1, _⟩
        · simp [tailL, D.eqS, rng2, l1, k1, k2, aoR]
        · simp [tailL, D.eqS, rng2, l1, k1, aoR]
      · rcases c2.l with ⟨k1, k2⟩ | ⟨k1, h⟩
        · have := c2.e b rfl
          cases b <;> simp [tailL, D.eqS, rng2, l1, k1, k2, aoR, this.symm]
        · cases h
  · rcases c1.l with ⟨l1, l2⟩ | ⟨l1, h⟩
    · have := c1.e b rfl
      cases b <;> simp [tailL, D.eqS, rng2, l1, l2, aoR, this.symm]
    · cases h
theorem tl_or (c1 : Cls ds1 o1) (c2 : Cls ds2 o2) : Tl "or" [.tup ds1, .tup ds2] (aoR "or" false o1 o2 (.tup ds1) (.tup ds2)) := by
  intro d s3 s5 m
  rcases o1 with _ | b
  · rcases c1.l with ⟨l1, l2⟩ | ⟨l1, _⟩
    · rcases o2 with _ | b
      · rcases c2.l with ⟨k1, k2⟩ | ⟨k1, _⟩ 
        · simp [tailL, D.eqS, rng2, l1, l2, k1, k2, aoR]
        · simp [tailL, D.eqS, rng2, l1, l2, k1, aoR]
      · rcases c2.l with ⟨k1, k2⟩ | ⟨k1, h⟩
        · have := c2.e b rfl
          cases b <;> simp [tailL, D.eqS, rng2, l1, l2, k1, k2, aoR, this.symm]
        · cases h
    · rcases o2 with _ | b
      · rcases c2.l with ⟨k1, k2⟩ | ⟨k1, _⟩
        · simp [tailL, D.eqS, rng2, l1, k1, k2, aoR]
        · simp [tailL, D.eqS, rng2, l1, k1, aoR]
      · rcases c2.l with ⟨k1, k2⟩ | ⟨k1, h⟩
        · have := c2.e b rfl
          cases b <;> simp [tailL, D.eqS, rng2, l1, k1, k2, aoR, this.symm]
        · cases h
  · rcases c1.l with ⟨l1, l2⟩ | ⟨l1, h⟩
    · have := c1.e b rfl
      cases b <;> simp [tailL, D.eqS, rng2, l1, l2, aoR, this.symm]
    · cases h
end
/-! the other words -/
section
variable {w : Str} {a b c : D} {h : Str}
theorem sp_gen1 (n1 : w ≠ "and") (n2 : w ≠ "or") (n3 : w ≠ "not") (n4 : w ≠ "if") (n5 : w ≠ "else") : Sp w [a] (.tup [.str w, a]) := by
  intro m
  have b1 : (Str.ofString "and" == w) = false := by simpa using Ne.symm n1
  have b2 : (Str.ofString "or" == w) = false := by simpa using Ne.symm n2
  simp [f_shortened, sem_shortened, D.eqS, b1, b2, n3, n4, n5]
theorem sp_gen2 (n1 : w ≠ "and") (n2 : w ≠ "or") (n3 : w ≠ "not") (n4 : w ≠ "if") (n5 : w ≠ "else") : Sp w [a, b] (.tup [.str w, a, b]) := by
  intro m
  have b1 : (Str.ofString "and" == w) = false := by simpa using Ne.symm n1
  have b2 : (Str.ofString "or" == w) = false := by simpa using Ne.symm n2
  simp [f_shortened, sem_shortened, D.eqS, b1, b2, n3, n4, n5]
theorem tl_gen1 (n1 : w ≠ "and") (n2 : w ≠ "or") (n3 : w ≠ "not") (n4 : w ≠ "if") (n5 : w ≠ "else") : Tl w [a] (.tup [.str w, a]) := by
  intro d s3 s5 m
  have b1 : (Str.ofString "and" == w) = false := by simpa using Ne.symm n1
  have b2 : (Str.ofString "or" == w) = false := by simpa using Ne.symm n2
  simp [tailL, D.eqS, b1, b2, n3, n4, n5]
theorem tl_gen2 (n1 : w ≠ "and") (n2 : w ≠ "or") (n3 : w ≠ "not") (n4 : w ≠ "if") (n5 : w ≠ "else") : Tl w [a, b] (.tup [.str w, a, b]) := by
  intro d s3 s5 m
  have b1 : (Str.ofString "and" == w) = false := by simpa using Ne.symm n1
  have b2 : (Str.ofString "or" == w) = false := by simpa using Ne.symm n2
  simp [tailL, D.eqS, b1, b2, n3, n4, n5]
theorem sp_not (x : ixD a (.int 0) = some (.str h)) (hn : h ≠ "not") : Sp "not" [a] (.tup [.str "not", a]) := fun m => by simp [f_shortened, sem_shortened, D.eqS, x, hn]
theorem tl_not (x : ixD a (.int 0) = some (.str h)) (hn : h ≠ "not") : Tl "not" [a] (.tup [.str "not", a]) := fun d s3 s5 m => by simp [tailL, D.eqS, x, hn]
theorem sp_nn : Sp "not" [.tup [.str "not", a]] a := fun m => by simp [f_shortened, sem_shortened, D.eqS]
theorem tl_nn : Tl "not" [.tup [.str "not", a]] a := fun d s3 s5 m => by simp [tailL, D.eqS]
theorem sp_if (x : ixD a (.int 0) = some (.str h)) (hn : h ≠ "value") : Sp "if" [a, b, c] (.tup [.str "if", a, b, c]) := fun m => by simp [f_shortened, sem_shortened, D.eqS, x, hn]
theorem tl_if (x : ixD a (.int 0) = some (.str h)) (hn : h ≠ "value") : Tl "if" [a, b, c] (.tup [.str "if", a, b, c]) := fun d s3 s5 m => by simp [tailL, D.eqS, x, hn]
theorem sp_ifv {k : Str} {t : Bool} (e : isBD true a = some (.bl t)) : Sp "if" [vt k a, b, c] (if t then b else c) := fun m => by cases t <;> simp [f_shortened, sem_shortened, D.eqS, vt, e]
theorem tl_ifv {k : Str} {t : Bool} (e : isBD true a = some (.bl t)) : Tl "if" [vt k a, b, c] (if t then b else c) := fun d s3 s5 m => by cases t <;> simp [tailL, D.eqS, vt, e]
theorem sp_else (x : ixD a (.int 0) = some (.str h)) (hn : h ≠ "value") : Sp "else" [a, b] (.tup [.str "else", a, b]) := fun m => by simp [f_shortened, sem_shortened, D.eqS, x, hn]
theorem tl_else (x : ixD a (.int 0) = some (.str h)) (hn : h ≠ "value") : Tl "else" [a, b] (.tup [.str "else", a, b]) := fun d s3 s5 m => by simp [tailL, D.eqS, x, hn]
theorem sp_elsev {k : Str} : Sp "else" [vt k a, b] (if isNone a then b else vt k a) := fun m => by cases e : isNone a <;> simp [f_shortened, sem_shortened, D.eqS, vt, e]
theorem tl_elsev {k : Str} : Tl "else" [vt k a, b] (if isNone a then b else vt k a) := fun d s3 s5 m => by cases e : isNone a <;> simp [tailL, D.eqS, vt, e]
end
end K15

set_option Elab.async false
set_option linter.all false
set_option maxRecDepth 100000
set_option maxHeartbeats 4000000
set_option pp.maxSteps 400
set_option pp.deepTerms false
namespace K15
open PySem L2 Pd
theorem sk (k : Str) (h : KindOk k) : Sm 0 (.str k) := h.sm
theorem sm3 {n : Nat} {a b c : D} (ha : Sm n a) (hb : Sm n b) (hc : Sm n c) : Sm (n + 1) (.tup [a, b, c]) := sm_tup fun d hd => by
  simp only [List.mem_cons, List.not_mem_nil, or_false] at hd
  rcases hd with rfl | rfl | rfl <;> assumption
theorem sm2 {n : Nat} {a b : D} (ha : Sm n a) (hb : Sm n b) : Sm (n + 1) (.tup [a, b]) := sm_tup fun d hd => by
  simp only [List.mem_cons, List.not_mem_nil, or_false] at hd
  rcases hd with rfl | rfl <;> assumption
theorem sm1 {n : Nat} {a : D} (ha : Sm n a) : Sm (n + 1) (.tup [a]) := sm_tup fun d hd => by
  simp only [List.mem_cons, List.not_mem_nil, or_false] at hd
  subst hd; assumption
theorem sb {n : Nat} (b : Bool) : Sm n (.bl b) := ⟨by simp only [D.py, PyData.canLay0], by simp only [D.py, PyData.depth]; omega⟩
theorem sbo : Sm 0 (.str "bool") := sm0_str (by decide +kernel)
theorem vb1 (n : Nat) (b : Bool) : Sm (n + 1) (.tup [.str "value", .str "bool", .bl b]) := sm3 (sv.more (by omega)) (sbo.more (by omega)) (sb b)
theorem vb2 (n : Nat) : Sm (n + 1) (.tup [.str "value", .str "bool"]) := sm2 (sv.more (by omega)) (sbo.more (by omega))
theorem cls_hd {h : Str} {rest : List D} {n : Nat} (hn : n ≤ 60) (hh : Sm 0 (.str h)) (hr : ∀ x ∈ rest, Sm n x) (ne : h ≠ "value") : Cls (.str h :: rest) none where
  p b := by
    have s : Sm (n + 1) (.tup (.str h :: rest)) := sm_tup fun d hd => by
      rcases List.mem_cons.mp hd with rfl | hd
      · exact hh.more (by omega)
      · exact hr d hd
    rw [eqD_of (eqT s (vb1 n b) (by omega))]
    simp [D.py, pyL, PyData.eqv, PyData.eqvAll, sbd, ne]
  l := by
    refine .inr ⟨?_, rfl⟩
    cases rest with
    | nil =>
      have e : cutL (D.str h :: []) none (some 2) = [.str h] := rfl
      rw [e, eqD_of (eqT (sm1 (hh.more (Nat.zero_le n))) (vb2 n) (by omega))]
      simp [D.py, pyL, PyData.eqv, PyData.eqvAll, sbd, ne]
    | cons x rest =>
      have e : cutL (D.str h :: x :: rest) none (some 2) = [.str h, x] := by
        unfold cutL
        have : HT.sIx (D.str h :: x :: rest).length (D.str h :: x :: rest).length (some 2) = 2 := by
          rw [show (some (2 : Int)) = some ((2 : Nat) : Int) from rfl, HT.sIx_nat]
          simp
        rw [this, HT.sIx_none]
        rfl
      rw [e, eqD_of (eqT (sm2 (hh.more (Nat.zero_le n)) (hr x List.mem_cons_self)) (vb2 n) (by omega))]
      simp [D.py, pyL, PyData.eqv, PyData.eqvAll, sbd, ne]
  e b h := by cases h
theorem cut_val {k : Str} {v : D} : cutL [D.str "value", .str k, v] none (some 2) = [.str "value", .str k] := rfl
theorem cls_val {k : Str} {v : D} {n : Nat} (hk : KindOk k) (hv : Wv n k v) : ∃ o, Cls [.str "value", .str k, v] o := by
  have s := sm3 sv hk.sm hv.sm
  have s2 := sm2 sv hk.sm
  have e1 : ∀ b, eqD (.tup [.str "value", .str k, v]) (.tup [.str "value", .str "bool", .bl b]) = _ := fun b => eqD_of (eqT s (vb1 0 b) (by decide))
  have e2 : eqD (.tup [.str "value", .str k]) (.tup [.str "value", .str "bool"]) = _ := eqD_of (eqT s2 (vb2 0) (by decide))
  rcases hk with rfl | rfl | rfl
  · exact ⟨none, ⟨fun b => by rw [e1]; simp [D.py, pyL, PyData.eqv, PyData.eqvAll, sbd], .inr ⟨by rw [cut_val, e2]; simp [D.py, pyL, PyData.eqv, PyData.eqvAll, sbd], rfl⟩, fun b h => by cases h⟩⟩
  · exact ⟨none, ⟨fun b => by rw [e1]; simp [D.py, pyL, PyData.eqv, PyData.eqvAll, sbd], .inr ⟨by rw [cut_val, e2]; simp [D.py, pyL, PyData.eqv, PyData.eqvAll, sbd], rfl⟩, fun b h => by cases h⟩⟩
  · have e3 : eqD (.tup [.str "value", .str "bool"]) (.tup [.str "value", .str "bool"]) = some (.bl true) := by rw [e2]; simp [D.py, pyL, PyData.eqv, PyData.eqvAll, sbd]
    cases hv with
    | non => exact ⟨none, ⟨fun b => by rw [e1]; simp [D.py, pyL, PyData.eqv, PyData.eqvAll, sbd], .inl ⟨by rw [cut_val, e3], rfl⟩, fun b h => by cases h⟩⟩
    | bool c => exact ⟨some c, ⟨fun b => by rw [e1]; cases b <;> cases c <;> simp [D.py, pyL, PyData.eqv, PyData.eqvAll, sbd], .inl ⟨by rw [cut_val, e3], rfl⟩, fun b h => by cases h; rfl⟩⟩
inductive Vw (n : Nat) : D → Prop
  | val {k : Str} {v : D} : KindOk k → Wv n k v → Vw n (vt k v)
  | non {h : Str} {ds : List D} : hd1 (.tup ds) h → h ≠ "value" → (∃ o, Cls ds o) → (h = "not" → ∃ q, ds = [.str "not", q] ∧ Xo n q) → Vw n (.tup ds)
theorem view {n : Nat} (hn : n ≤ 50) {r : D} (x : Xo (n + 1) r) : Vw n r := by
  cases x with
  | col h => exact .non ⟨rfl, sm0_str (by decide +kernel)⟩ (by decide) ⟨none, cls_hd (n := 0) (by omega) (sm0_str (by decide +kernel)) (fun x hx => by simp only [List.mem_cons, List.not_mem_nil, or_false] at hx; subst hx; exact sm_str h.gd.2) (by decide)⟩ (fun h => absurd h (by decide))
  | val h v => exact .val h v
  | op h r =>
    refine .non ⟨by simp, sm_str h.gd.2⟩ h.ar.2.2 ⟨none, cls_hd (n := n) (by omega) (sm_str h.gd.2) (fun x hx => (r x hx).sm) h.ar.2.2⟩ fun e => ?_
    subst e
    rename_i ps
    have h : (("not" : Str), ps.length) ∈ arL := h
    simp [arL] at h
    obtain ⟨q, rfl⟩ : ∃ q, ps = [q] := List.length_eq_one_iff.mp h
    exact ⟨q, rfl, r q List.mem_cons_self⟩
def Rs (n : Nat) (w : Str) (rs : List D) : Prop := ∃ r, Xo (n + 2) r ∧ Sp w rs r ∧ Tl w rs r
theorem Vw.cls {n : Nat} {r : D} (v : Vw n r) : ∃ ds o, r = .tup ds ∧ Cls ds o := by
  cases v with
  | val h w => obtain ⟨o, c⟩ := cls_val h w; exact ⟨_, o, rfl, c⟩
  | non _ _ c _ => obtain ⟨o, c⟩ := c; exact ⟨_, o, rfl, c⟩
theorem Vw.head {n : Nat} {r : D} (v : Vw n r) : ∃ h, hd1 r h ∧ (h = "value" → ∃ k v, KindOk k ∧ Wv n k v ∧ r = vt k v) := by
  cases v with
  | val h w => exact ⟨"value", ⟨rfl, sv⟩, fun _ => ⟨_, _, h, w, rfl⟩⟩
  | non x y _ _ => exact ⟨_, x, fun e => absurd e y⟩
theorem mem1 {n : Nat} {a : D} (ha : Xo n a) : ∀ p ∈ [a], Xo n p := fun p hp => by
  simp only [List.mem_cons, List.not_mem_nil, or_false] at hp
  subst hp; exact ha
theorem mem2 {n : Nat} {a b : D} (ha : Xo n a) (hb : Xo n b) : ∀ p ∈ [a, b], Xo n p := fun p hp => by
  simp only [List.mem_cons, List.not_mem_nil, or_false] at hp
  rcases hp with rfl | rfl <;> assumption
theorem mem3 {n : Nat} {a b c : D} (ha : Xo n a) (hb : Xo n b) (hc : Xo n c) : ∀ p ∈ [a, b, c], Xo n p := fun p hp => by
  simp only [List.mem_cons, List.not_mem_nil, or_false] at hp
  rcases hp with rfl | rfl | rfl <;> assumption
theorem rest1 {n : Nat} {w : Str} {a : D} (ha : Ar w 1) (va : Vw n a) (xa : Xo (n + 1) a) : Rs n w [a] := by
  by_cases e : w = "not"
  · subst e
    cases va with
    | val h v => exact ⟨_, .op ha (mem1 xa), sp_not (h := "value") rfl (by decide), tl_not (h := "value") rfl (by decide)⟩
    | @non h ds x y _ z =>
      by_cases e : h = "not"
      · obtain ⟨q, rfl, xq⟩ := z e
        exact ⟨q, xq.moreO (by omega), sp_nn, tl_nn⟩
      · exact ⟨_, .op ha (mem1 xa), sp_not x.1 e, tl_not x.1 e⟩
  · have h : (w, 1) ∈ arL := ha
    simp [arL] at h
    have n1 : w ≠ "and" := by rcases h with rfl | rfl | rfl <;> decide
    have n2 : w ≠ "or" := by rcases h with rfl | rfl | rfl <;> decide
    have n4 : w ≠ "if" := by rcases h with rfl | rfl | rfl <;> decide
    have n5 : w ≠ "else" := by rcases h with rfl | rfl | rfl <;> decide
    exact ⟨_, .op ha (mem1 xa), sp_gen1 n1 n2 e n4 n5, tl_gen1 n1 n2 e n4 n5⟩
theorem ao_x {n : Nat} {w : Str} {wk : Bool} {o1 o2 : Option Bool} {a b : D} (ha : Ar w 2) (xa : Xo (n + 1) a) (xb : Xo (n + 1) b) : Xo (n + 2) (aoR w wk o1 o2 a b) := by
  unfold aoR
  have k : ∀ b, Xo (n + 2) (vt "bool" (.bl b)) := fun b => .val (.inr (.inr rfl)) (.bool b)
  split
  · split
    · exact xb.moreO (by omega)
    · exact k _
  · split
    · split
      · exact xa.moreO (by omega)
      · exact k _
    · exact .op ha (mem2 xa xb)
theorem rest2 {n : Nat} {w : Str} {a b : D} (ha : Ar w 2) (va : Vw n a) (vb : Vw n b) (xa : Xo (n + 1) a) (xb : Xo (n + 1) b) : Rs n w [a, b] := by
  by_cases e1 : w = "and"
  · subst e1
    obtain ⟨d1, o1, rfl, c1⟩ := va.cls
    obtain ⟨d2, o2, rfl, c2⟩ := vb.cls
    exact ⟨_, ao_x ha xa xb, sp_and c1 c2, tl_and c1 c2⟩
  · by_cases e2 : w = "or"
    · subst e2
      obtain ⟨d1, o1, rfl, c1⟩ := va.cls
      obtain ⟨d2, o2, rfl, c2⟩ := vb.cls
      exact ⟨_, ao_x ha xa xb, sp_or c1 c2, tl_or c1 c2⟩
    · by_cases e3 : w = "else"
      · subst e3
        cases va with
        | val h v =>
          refine ⟨_, ?_, sp_elsev, tl_elsev⟩
          split
          · exact xb.moreO (by omega)
          · exact xa.moreO (by omega)
        | non x y _ _ => exact ⟨_, .op ha (mem2 xa xb), sp_else x.1 y, tl_else x.1 y⟩
      · have h : (w, 2) ∈ arL := ha
        simp [arL] at h
        have n3 : w ≠ "not" := by rcases h with rfl | rfl | rfl | rfl | rfl | rfl | rfl | rfl | rfl | rfl | rfl | rfl <;> decide
        have n4 : w ≠ "if" := by rcases h with rfl | rfl | rfl | rfl | rfl | rfl | rfl | rfl | rfl | rfl | rfl | rfl <;> decide
        exact ⟨_, .op ha (mem2 xa xb), sp_gen2 e1 e2 n3 n4 e3, tl_gen2 e1 e2 n3 n4 e3⟩
theorem rest3 {n : Nat} {a b c : D} (va : Vw n a) (xa : Xo (n + 1) a) (xb : Xo (n + 1) b) (xc : Xo (n + 1) c) : Rs n "if" [a, b, c] := by
  cases va with
  | val h v =>
    rename_i k v'
    obtain ⟨t, e⟩ : ∃ t, isBD true v' = some (.bl t) := by cases v <;> exact ⟨_, rfl⟩
    refine ⟨_, ?_, sp_ifv e, tl_ifv e⟩
    split
    · exact xb.moreO (by omega)
    · exact xc.moreO (by omega)
  | non x y _ _ => exact ⟨_, .op (by show Ar _ 3; decide) (mem3 xa xb xc), sp_if x.1 y, tl_if x.1 y⟩
def Fo (n : Nat) (t t' : Fn) (a r : D) : Prop := Xo n r ∧ (∀ m, t [.dat a] m = .ok r m) ∧ ∀ m, t' [.dat a] m = .ok r m
section
variable {t t' : Fn} {n : Nat} {w : Str} {a b c ra rb rc : D}
theorem fold1 (hn : n ≤ 4) (ha : Ar w 1) (fa : Fo (n + 1) t t' a ra) : ∃ r, Fo (n + 2) (f_folded_of t) (f_l_folded t') (.tup [.str w, a]) r := by
  obtain ⟨xa, ea, la⟩ := fa
  have va := view (by omega) xa
  obtain ⟨r, xr, s, tl⟩ := rest1 ha va xa
  obtain ⟨_, a2, a3⟩ := ha.ar
  obtain ⟨h1, x1, y1⟩ := va.head
  by_cases e1 : h1 = "value"
  · obtain ⟨k, v, hk, hv, rfl⟩ := y1 e1
    cases e : kop w [k] with
    | none => exact ⟨r, xr, fun m => nok1P ha hk ea e s, fun m => nok1L ha hk la e tl⟩
    | some q =>
      obtain ⟨hq, v', w', p1, p2⟩ := v_op1 hn ha hk hv e
      exact ⟨vt q v', .val hq w', fun m => all1P ha hk ea e p1, fun m => all1L ha hk la e p2⟩
  · exact ⟨r, xr, fun m => pre1P a2 a3 ea x1 e1 s m, fun m => pre1L a2 a3 la x1 e1 tl m⟩
theorem fold2 (hn : n ≤ 4) (ha : Ar w 2) (fa : Fo (n + 1) t t' a ra) (fb : Fo (n + 1) t t' b rb) : ∃ r, Fo (n + 2) (f_folded_of t) (f_l_folded t') (.tup [.str w, a, b]) r := by
  obtain ⟨xa, ea, la⟩ := fa
  obtain ⟨xb, eb, lb⟩ := fb
  have va := view (by omega) xa
  have vb := view (by omega) xb
  obtain ⟨r, xr, s, tl⟩ := rest2 ha va vb xa xb
  obtain ⟨_, a2, a3⟩ := ha.ar
  obtain ⟨h1, x1, y1⟩ := va.head
  obtain ⟨h2, x2, y2⟩ := vb.head
  by_cases e1 : h1 = "value" ∧ h2 = "value"
  · obtain ⟨k, v, hk, hv, rfl⟩ := y1 e1.1
    obtain ⟨l, u, hl, hu, rfl⟩ := y2 e1.2
    cases e : kop w [k, l] with
    | none => exact ⟨r, xr, fun m => nok2P ha hk hl ea eb e s, fun m => nok2L ha hk hl la lb e tl⟩
    | some q =>
      obtain ⟨hq, v', w', p1, p2⟩ := v_op2 hn ha hk hl hv hu e
      exact ⟨vt q v', .val hq w', fun m => all2P ha hk hl ea eb e p1, fun m => all2L ha hk hl la lb e p2⟩
  · exact ⟨r, xr, fun m => pre2P a2 a3 ea eb x1 x2 e1 s m, fun m => pre2L a2 a3 la lb x1 x2 e1 tl m⟩
theorem fold3 (hn : n ≤ 4) (fa : Fo (n + 1) t t' a ra) (fb : Fo (n + 1) t t' b rb) (fc : Fo (n + 1) t t' c rc) : ∃ r, Fo (n + 2) (f_folded_of t) (f_l_folded t') (.tup [.str "if", a, b, c]) r := by
  obtain ⟨xa, ea, la⟩ := fa
  obtain ⟨xb, eb, lb⟩ := fb
  obtain ⟨xc, ec, lc⟩ := fc
  have va := view (by omega) xa
  have vb := view (by omega) xb
  have vc := view (by omega) xc
  obtain ⟨r, xr, s, tl⟩ := rest3 va xa xb xc
  obtain ⟨h1, x1, y1⟩ := va.head
  obtain ⟨h2, x2, y2⟩ := vb.head
  obtain ⟨h3, x3, y3⟩ := vc.head
  by_cases e1 : h1 = "value" ∧ h2 = "value" ∧ h3 = "value"
  · obtain ⟨k, v, hk, hv, rfl⟩ := y1 e1.1
    obtain ⟨l, u, hl, hu, rfl⟩ := y2 e1.2.1
    obtain ⟨j, z, hj, hz, rfl⟩ := y3 e1.2.2
    cases e : kop "if" [k, l, j] with
    | none => exact ⟨r, xr, fun m => nok3P hk hl hj ea eb ec e s, fun m => nok3L hk hl hj la lb lc e tl⟩
    | some q =>
      obtain ⟨hq, v', w', p1, p2⟩ := v_op3 hk hl hj hv hu hz e
      exact ⟨vt q v', .val hq w', fun m => all3P hk hl hj ea eb ec e p1, fun m => all3L hk hl hj la lb lc e p2⟩
  · exact ⟨r, xr, fun m => pre3P (by decide) (by decide) ea eb ec x1 x2 x3 e1 s m, fun m => pre3L (by decide) (by decide) la lb lc x1 x2 x3 e1 tl m⟩
end
theorem fold_leaf {n : Nat} {t t' : Fn} {ds : List D} {h : Str} (x : Xo n (.tup (.str h :: ds))) (hh : h = "col" ∨ h = "value") : Fo n (f_folded_of t) (f_l_folded t') (.tup (.str h :: ds)) (.tup (.str h :: ds)) := by
  rcases hh with rfl | rfl
  · have e : ∀ m, f_is_operation [.dat (.tup (.str "col" :: ds))] m = .ok (.bl false) m := fun m => by simp [f_is_operation, sem_is_operation, D.eqS]
    exact ⟨x, fun m => by simp [f_folded_of, sem_folded_of, e], fun m => by simp [f_l_folded, sem_l_folded, D.eqS]⟩
  · have e : ∀ m, f_is_operation [.dat (.tup (.str "value" :: ds))] m = .ok (.bl false) m := fun m => by simp [f_is_operation, sem_is_operation, D.eqS]
    exact ⟨x, fun m => by simp [f_folded_of, sem_folded_of, e], fun m => by simp [f_l_folded, sem_l_folded, D.eqS]⟩
theorem e_fold : ∀ {N n : Nat} {d : D}, n ≤ N → n ≤ 5 → Xi n d → ∃ r, Fo n (g_folded_of N) (g_l_folded N) d r := by
  intro N
  induction N with
  | zero => intro n d hn _ h; cases h <;> omega
  | succ N ih =>
    intro n d hn h5 h
    have xo := h.out
    cases h with
    | col h => exact ⟨_, fold_leaf xo (.inl rfl)⟩
    | val h v => exact ⟨_, fold_leaf xo (.inr rfl)⟩
    | op ha hp =>
      rename_i n w ps
      have few := ha.few
      have nz : 1 ≤ n := by
        cases ps with
        | nil => simp at few
        | cons p ps => cases hp p List.mem_cons_self <;> omega
      obtain ⟨n, rfl⟩ : ∃ k, n = k + 1 := ⟨n - 1, by omega⟩
      have f : ∀ p ∈ ps, ∃ r, Fo (n + 1) (g_folded_of N) (g_l_folded N) p r := fun p h => ih (by omega) (by omega) (hp p h)
      match ps, few, ha, f with
      | [a], _, ha, f =>
        obtain ⟨ra, fa⟩ := f a (by simp)
        exact fold1 (by omega) ha fa
      | [a, b], _, ha, f =>
        obtain ⟨ra, fa⟩ := f a (by simp)
        obtain ⟨rb, fb⟩ := f b (by simp)
        exact fold2 (by omega) ha fa fb
      | [a, b, c], _, ha, f =>
        obtain ⟨ra, fa⟩ := f a (by simp)
        obtain ⟨rb, fb⟩ := f b (by simp)
        obtain ⟨rc, fc⟩ := f c (by simp)
        have h : (w, 3) ∈ arL := ha
        simp [arL] at h
        subst h
        exact fold3 (by omega) fa fb fc
end K15

set_option Elab.async false
set_option linter.all false
set_option maxRecDepth 100000
set_option maxHeartbeats 4000000
set_option pp.maxSteps 400
set_option pp.deepTerms false
namespace K15
open PySem L2 Pd
theorem e_folded {n : Nat} {d r : D} (hn : n ≤ 5) (h : Xi n d) (hs : ndc 9 d ≤ 40) (f : ∀ m, g_folded_of 9 [.dat d] m = .ok r m) (m : List D) : f_folded [.dat d] m = .ok r m := by
  simp [f_folded, sem_folded, e_check (by omega) h hs, f]
theorem e_told {n : Nat} {d : D} (hn : n ≤ 5) (h : Xi n d) (hs : ndc 9 d ≤ 40) (m : List D) : f_l_told_right [.dat d] m = .ok (.bl true) m := by
  obtain ⟨r, xr, f1, f2⟩ := e_fold (N := 9) (by omega) hn h
  have e1 := e_folded hn h hs f1
  have s1 := r_repr (h.out.show hn)
  have s2 := r_repr (xr.show3 hn)
  simp [f_l_told_right, sem_l_told_right, f2, e1, pick, s1, s2, List.replicate]
theorem xi_leaf {cols : List (Str × Str)} (sc : SchOk cols) {k : Str} {d : D} (h : Tr cols 1 k d) : Xi 1 d := h.xi fun c hc => (sc.ok c hc).1
theorem ndc_leaf {d : D} (h : Xi 1 d) (M : Nat) : ndc (M + 1) d = 1 := by
  cases h with
  | col => simp [ndc]
  | val => simp [ndc]
  | op ha r => rename_i ps; cases ps with
    | nil => exact absurd ha.few (by simp)
    | cons p ps => cases r p List.mem_cons_self
theorem ndc_pos {n : Nat} {d : D} (h : Xi n d) (M : Nat) : 1 ≤ ndc (M + 1) d := by
  cases h with
  | col => simp [ndc]
  | val => simp [ndc]
  | op ha r => simp [ndc]; split <;> omega
theorem ndc_le_leaf {n : Nat} {d e : D} (h : Xi n d) (h2 : Xi 1 e) : ∀ M, ndc M e ≤ ndc M d
  | 0 => Nat.le_refl _
  | M + 1 => by rw [ndc_leaf h2]; exact ndc_pos h M
theorem kinds3 {z : Int} (h0 : 0 ≤ z) (h1 : z < 3) : ∃ k, KindOk k ∧ ixD (.lst [.str "int", .str "text", .str "bool"]) (.int z) = some (.str k) := by
  rcases (by omega : z = 0 ∨ z = 1 ∨ z = 2) with rfl | rfl | rfl
  · exact ⟨"int", .inl rfl, by simp⟩
  · exact ⟨"text", .inr (.inl rfl), by simp⟩
  · exact ⟨"bool", .inr (.inr rfl), by simp⟩
theorem names4 {z : Int} (h0 : 0 ≤ z) (h1 : z < 4) : ∃ k, NameOk k ∧ ixD (.lst [.str "nope", .str "zz", .str "none", .str "q"]) (.int z) = some (.str k) := by
  rcases (by omega : z = 0 ∨ z = 1 ∨ z = 2 ∨ z = 3) with rfl | rfl | rfl | rfl
  · exact ⟨"nope", okN_ok (by decide +kernel), by simp⟩
  · exact ⟨"zz", okN_ok (by decide +kernel), by simp⟩
  · exact ⟨"none", okN_ok (by decide +kernel), by simp⟩
  · exact ⟨"q", okN_ok (by decide +kernel), by simp⟩
def swLeaf : Ms := (sSeq (sIf (mTb (m2 eqD (mCall fDraw (mCons (mV 0) (mCons (mC (.int 3)) mNil))) (mC (.int 0))))
  (sRet (mTup (mCons (mC (.str "col")) (mCons (m2 ixD (mPub (mLst (mCons (mC (.str "nope")) (mCons (mC (.str "zz")) (mCons (mC (.str "none")) (mCons (mC (.str "q")) mNil)))))) (mCall fDraw (mCons (mV 0) (mCons (mC (.int 4)) mNil)))) mNil))))
  sNx)
  (sRet (mCall f_l_leaf (mCons (mV 0) (mCons (mV 1) (mCons (m2 ixD (mPub (mLst (mCons (mC (.str "int")) (mCons (mC (.str "text")) (mCons (mC (.str "bool")) mNil))))) (mCall fDraw (mCons (mV 0) (mCons (mC (.int 3)) mNil)))) mNil))))))
theorem sw_leaf {cols : List (Str × Str)} (sc : SchOk cols) {s2 s3 s4 s5 : Sl} {m : List D} (hm : Po m) : ∃ d m', swLeaf [.pool, .val (schD cols), s2, s3, s4, s5] m = .rt d m' ∧ Xi 1 d ∧ Po m' := by
  obtain ⟨z, m1, e1, a1, b1, p1⟩ := draw_ok (n := 3) hm (by decide) (by decide)
  by_cases hz : z = 0
  · obtain ⟨z2, m2, e2, a2, b2, p2⟩ := draw_ok (n := 4) p1 (by decide) (by decide)
    obtain ⟨x, hx, ex⟩ := names4 a2 b2
    exact ⟨_, m2, by simp [swLeaf, e1, hz, e2, ex], .col hx, p2⟩
  · obtain ⟨z2, m2, e2, a2, b2, p2⟩ := draw_ok (n := 3) p1 (by decide) (by decide)
    obtain ⟨k, hk, ek⟩ := kinds3 a2 b2
    obtain ⟨d, m3, e3, t3, p3⟩ := e_leaf sc hk p2
    exact ⟨d, m3, by simp [swLeaf, e1, hz, e2, ek, e3], xi_leaf sc t3, p3⟩
def swCond : Me Bool := (mOr (mTb (m2 inD (m2 ixD (mV 2) (mC (.int 0))) (mPub (mLst (mCons (mC (.str "col")) (mCons (mC (.str "value")) mNil)))))) (mOr (mTb (m2 eqD (mV 3) (mC (.int 0)))) (mTb (m2 eqD (mCall fDraw (mCons (mV 0) (mCons (mC (.int 4)) mNil))) (mC (.int 0))))))
def swRest (t : Fn) : Ms := (sSeq (sSet 4 (m2 addD (mC (.int 1)) (mCall fDraw (mCons (mV 0) (mCons (m2 subD (mB lenD (mCons (mV 2) mNil)) (mC (.int 1))) mNil)))))
  (sSeq (sSet 5 (mCall t (mCons (mV 0) (mCons (mV 1) (mCons (m2 ixD (mV 2) (mV 4)) (mCons (m2 subD (mV 3) (mC (.int 1))) mNil))))))
  (sRet (m2 addD (m2 addD (mSl kSlT (mV 2) oN (oS (mV 4))) (mTup (mCons (mV 5) mNil))) (mSl kSlT (mV 2) (oS (m2 addD (mV 4) (mC (.int 1)))) oN)))))
theorem sw_eq (t : Fn) : sem_l_swapped t = sSeq (sIf swCond swLeaf sNx) (swRest t) := rfl
/-- trees of n levels are bent by t -/
def Bends (cols : List (Str × Str)) (t : Fn) (n : Nat) : Prop := ∀ (d : D) (deep : Int) (m : List D), Xi n d → Po m → ∃ d' m', t [.pool, .dat (schD cols), .dat d, .dat (.int deep)] m = .ok d' m' ∧ Xi n d' ∧ (∀ M, ndc M d' ≤ ndc M d) ∧ Po m'
theorem xi_one {n : Nat} {d : D} (h : Xi 1 d) (hn : 1 ≤ n) : Xi n d := h.more hn
theorem sub_one {z : Int} {n : Nat} (h : z = (n : Int)) : subD (.int (z + 1)) (.int 1) = some (.int n) := by subst h; show some (D.int ((n : Int) + 1 - 1)) = _; rw [Int.add_sub_cancel]
theorem sw_rest {cols : List (Str × Str)} {t : Fn} {n : Nat} (ht : Bends cols t n) {w : Str} {ps : List D} (ha : Ar w ps.length) (hp : ∀ p ∈ ps, Xi n p) (deep : Int) {m : List D} (hm : Po m) :
    ∃ d' m', swRest t [.pool, .val (schD cols), .val (.tup (.str w :: ps)), .val (.int deep), .emp, .emp] m = .rt d' m' ∧ Xi (n + 1) d' ∧ (∀ M, ndc M d' ≤ ndc M (.tup (.str w :: ps))) ∧ Po m' := by
  have few := ha.few
  obtain ⟨_, w1, w2⟩ := ha.ar
  have nd : ∀ (qs : List D) (M : Nat), ndc (M + 1) (.tup (.str w :: qs)) = 1 + (qs.map (ndc M)).sum := fun qs M => by simp [ndc, w1, w2]
  match ps, few, ha, hp with
  | [a], _, ha, hp =>
    obtain ⟨z, m1, e1, a1, b1, p1⟩ := draw_ok (n := 1) hm (by decide) (by decide)
    obtain rfl : z = 0 := by omega
    obtain ⟨q, m2, e2, x2, c2, p2⟩ := ht a (deep - 1) m1 (hp a (by simp)) p1
    refine ⟨.tup [.str w, q], m2, ?_, .op ha fun p h => by simp at h; subst h; exact x2, fun M => ?_, p2⟩
    · simp [swRest, e1, e2]
      kernel_rfl
    · cases M with
      | zero => exact Nat.le_refl _
      | succ M => have := c2 M; rw [nd, nd]; simp; omega
  | [a, b], _, ha, hp =>
    obtain ⟨z, m1, e1, a1, b1, p1⟩ := draw_ok (n := 2) hm (by decide) (by decide)
    rcases (by omega : z = 0 ∨ z = 1) with rfl | rfl
    · obtain ⟨q, m2, e2, x2, c2, p2⟩ := ht a (deep - 1) m1 (hp a (by simp)) p1
      refine ⟨.tup [.str w, q, b], m2, ?_, .op ha fun p h => by simp at h; rcases h with rfl | rfl; exact x2; exact hp _ (by simp), fun M => ?_, p2⟩
      · simp [swRest, e1, e2]
        kernel_rfl
      · cases M with
        | zero => exact Nat.le_refl _
        | succ M => have := c2 M; rw [nd, nd]; simp; omega
    · obtain ⟨q, m2, e2, x2, c2, p2⟩ := ht b (deep - 1) m1 (hp b (by simp)) p1
      refine ⟨.tup [.str w, a, q], m2, ?_, .op ha fun p h => by simp at h; rcases h with rfl | rfl; exact hp _ (by simp); exact x2, fun M => ?_, p2⟩
      · simp [swRest, e1, e2]
        kernel_rfl
      · cases M with
        | zero => exact Nat.le_refl _
        | succ M => have := c2 M; rw [nd, nd]; simp; omega
  | [a, b, c], _, ha, hp =>
    obtain ⟨z, m1, e1, a1, b1, p1⟩ := draw_ok (n := 3) hm (by decide) (by decide)
    rcases (by omega : z = 0 ∨ z = 1 ∨ z = 2) with rfl | rfl | rfl
    · obtain ⟨q, m2, e2, x2, c2, p2⟩ := ht a (deep - 1) m1 (hp a (by simp)) p1
      refine ⟨.tup [.str w, q, b, c], m2, ?_, .op ha fun p h => by simp at h; rcases h with rfl | rfl | rfl; exact x2; exact hp _ (by simp); exact hp _ (by simp), fun M => ?_, p2⟩
      · simp [swRest, e1, e2]
        kernel_rfl
      · cases M with
        | zero => exact Nat.le_refl _
        | succ M => have := c2 M; rw [nd, nd]; simp; omega
    · obtain ⟨q, m2, e2, x2, c2, p2⟩ := ht b (deep - 1) m1 (hp b (by simp)) p1
      refine ⟨.tup [.str w, a, q, c], m2, ?_, .op ha fun p h => by simp at h; rcases h with rfl | rfl | rfl; exact hp _ (by simp); exact x2; exact hp _ (by simp), fun M => ?_, p2⟩
      · simp [swRest, e1, e2]
        kernel_rfl
      · cases M with
        | zero => exact Nat.le_refl _
        | succ M => have := c2 M; rw [nd, nd]; simp; omega
    · obtain ⟨q, m2, e2, x2, c2, p2⟩ := ht c (deep - 1) m1 (hp c (by simp)) p1
      refine ⟨.tup [.str w, a, b, q], m2, ?_, .op ha fun p h => by simp at h; rcases h with rfl | rfl | rfl; exact hp _ (by simp); exact hp _ (by simp); exact x2, fun M => ?_, p2⟩
      · simp [swRest, e1, e2]
        kernel_rfl
      · cases M with
        | zero => exact Nat.le_refl _
        | succ M => have := c2 M; rw [nd, nd]; simp; omega
end K15

set_option Elab.async false
set_option linter.all false
set_option maxRecDepth 100000
set_option maxHeartbeats 4000000
set_option pp.maxSteps 400
set_option pp.deepTerms false
namespace K15
open PySem L2 Pd
theorem sw_t {t : Fn} {cols : List (Str × Str)} {d : D} {deep : Int} {m m1 m2 : List D} {r : D} (h : swCond [.pool, .val (schD cols), .val d, .val (.int deep), .emp, .emp] m = .ok true m1) (h2 : swLeaf [.pool, .val (schD cols), .val d, .val (.int deep), .emp, .emp] m1 = .rt r m2) :
    f_l_swapped t [.pool, .dat (schD cols), .dat d, .dat (.int deep)] m = .ok r m2 := by
  unfold f_l_swapped
  rw [sw_eq]
  exact runF_rt rfl (sSeq_rt (sIf_t h h2))
theorem sw_f {t : Fn} {cols : List (Str × Str)} {d : D} {deep : Int} {m m1 m2 : List D} {r : D} (h : swCond [.pool, .val (schD cols), .val d, .val (.int deep), .emp, .emp] m = .ok false m1) (h2 : swRest t [.pool, .val (schD cols), .val d, .val (.int deep), .emp, .emp] m1 = .rt r m2) :
    f_l_swapped t [.pool, .dat (schD cols), .dat d, .dat (.int deep)] m = .ok r m2 := by
  unfold f_l_swapped
  rw [sw_eq]
  exact runF_rt rfl (sSeq_nx (sIf_f h rfl) h2)
theorem e_swap {cols : List (Str × Str)} (sc : SchOk cols) : ∀ {N n : Nat}, n ≤ N → Bends cols (g_l_swapped N) n := by
  intro N
  induction N with
  | zero => intro n hn d deep m h hm; cases h <;> omega
  | succ N ih =>
    intro n hn d deep m h hm
    have h0 := h
    rw [show g_l_swapped (N + 1) = f_l_swapped (g_l_swapped N) from rfl]
    have leaf : ∀ {m1 : List D}, Po m1 → swCond [.pool, .val (schD cols), .val d, .val (.int deep), .emp, .emp] m = .ok true m1 → ∃ d' m', f_l_swapped (g_l_swapped N) [.pool, .dat (schD cols), .dat d, .dat (.int deep)] m = .ok d' m' ∧ Xi n d' ∧ (∀ M, ndc M d' ≤ ndc M d) ∧ Po m' := by
      intro m1 p1 hc
      obtain ⟨e, m2, e2, x2, p2⟩ := sw_leaf sc (s2 := .val d) (s3 := .val (.int deep)) (s4 := .emp) (s5 := .emp) p1
      exact ⟨e, m2, sw_t hc e2, x2.more (by cases h0 <;> omega), ndc_le_leaf h0 x2, p2⟩
    cases h with
    | col h => exact leaf hm (by simp [swCond, D.eqS])
    | val h v => exact leaf hm (by simp [swCond, D.eqS])
    | op ha hp =>
      rename_i n w ps
      obtain ⟨_, w1, w2⟩ := ha.ar
      have b2 : (Str.ofString "col" == w) = false := by simpa using Ne.symm w1
      have b3 : (Str.ofString "value" == w) = false := by simpa using Ne.symm w2
      by_cases hd : deep = 0
      · exact leaf hm (by simp [swCond, D.eqS, b2, b3, hd])
      · obtain ⟨z, m1, e1, a1, b1, p1⟩ := draw_ok (n := 4) hm (by decide) (by decide)
        by_cases hz : z = 0
        · exact leaf p1 (by simp [swCond, D.eqS, b2, b3, hd, e1, hz])
        · obtain ⟨r, m2, e2, x2, c2, p2⟩ := sw_rest (ih (n := n) (by omega)) ha hp deep p1
          exact ⟨r, m2, sw_f (by simp [swCond, D.eqS, b2, b3, hd, e1, hz]) e2, x2, c2, p2⟩
theorem lens {w : Str} {k : Str} {ks : List Str} (h : OpK w ks k) : ks.length ≤ 3 := h.arP.few.2
theorem sum_eq {M : Nat} : ∀ {ps ys : List D}, ys.length = ps.length → (∀ (i : Nat) (d y : D), ps[i]? = some d → ys[i]? = some y → ndc M y = ndc M d) → (ys.map (ndc M)).sum = (ps.map (ndc M)).sum
  | [], [], _, _ => rfl
  | [], _ :: _, h, _ => by simp at h
  | _ :: _, [], h, _ => by simp at h
  | p :: ps, y :: ys, h, H => by
    rw [List.map_cons, List.map_cons, List.sum_cons, List.sum_cons, H 0 p y rfl rfl, sum_eq (ps := ps) (ys := ys) (by simpa using h) fun i d y a b => H (i + 1) d y (by simpa using a) (by simpa using b)]
theorem e_fill {cols : List (Str × Str)} (sc : SchOk cols) : ∀ {N n : Nat} {k : Str} {d : D}, n ≤ N → Tr cols n k d → ∀ {m : List D}, Po m → ∃ d' m', g_l_filled N [.pool, .dat d, .dat (.dct (cols.map colF))] m = .ok d' m' ∧ Xi n d' ∧ (∀ M, ndc M d' = ndc M d) ∧ Po m' := by
  intro N
  induction N with
  | zero => intro n k d hn h; cases h <;> omega
  | succ N ih =>
    intro n k d hn h m hm
    have h0 := h.xi fun c hc => (sc.ok c hc).1
    cases h with
    | col h =>
      obtain ⟨z, m1, e1, a1, b1, p1⟩ := draw_ok (n := 3) hm (by decide) (by decide)
      by_cases hz : z = 0
      · exact ⟨_, m1, by simp [g_l_filled, f_l_filled, sem_l_filled, e1, hz], h0, fun _ => rfl, p1⟩
      · obtain ⟨v, m2, e2, hv, p2⟩ := e_worth (sc.ok _ h).2 p1
        refine ⟨_, m2, by simp [g_l_filled, f_l_filled, sem_l_filled, e1, hz, look_cols sc.nd h, e2], .val (sc.ok _ h).2 hv, fun M => ?_, p2⟩
        cases M <;> simp [ndc]
    | val h v => exact ⟨_, m, by simp [g_l_filled, f_l_filled, sem_l_filled], h0, fun _ => rfl, hm⟩
    | op ho r =>
      rename_i n w ks ps
      obtain ⟨_, w1, w2⟩ := ho.ar
      obtain ⟨ys, m1, e1, p1, l1, r1⟩ := lcM_inv (P := Po) (R := fun d y => Xi n y ∧ ∀ M, ndc M y = ndc M d) (g := gN 3) (t := fun _ m => .ok true m) (f := mCall (g_l_filled N) (mCons (mV 0) (mCons (mV 3) (mCons (mV 2) mNil)))) (ρ := [.pool, .val (.tup (.str w :: ps)), .val (.dct (cols.map colF)), .emp]) (ds := ps) hm fun d hd m hm => by
        obtain ⟨k', hk'⟩ := r.mem d hd
        obtain ⟨y, m', e, x, c, p⟩ := ih (by omega) hk' hm
        exact ⟨_, y, m', rfl, rfl, mCall_eq (mCons_eq rfl (mCons_eq rfl (mCons_eq rfl mNil_eq))) e, ⟨x, c⟩, p⟩
      have hl : ps.length ≤ 3 := by rw [r.len]; exact lens ho
      have hl2 : ps.length ≤ 1000 := by omega
      have ad : addD (.tup [.str w]) (.tup ys) = some (.tup (.str w :: ys)) := if_pos (sl_le (by rw [l1]; simp; omega))
      refine ⟨.tup (.str w :: ys), m1, by simp [g_l_filled, f_l_filled, sem_l_filled, w1, w2, cut1, hl2, e1, ad], .op (by rw [l1, r.len]; exact ho.arP) fun p hp => ?_, fun M => ?_, p1⟩
      · obtain ⟨i, hi⟩ := List.getElem?_of_mem hp
        have : i < ps.length := by rw [← l1]; exact (List.getElem?_eq_some_iff.mp hi).1
        exact (r1 i _ p (List.getElem?_eq_getElem this) hi).1
      · cases M with
        | zero => rfl
        | succ M => simp [ndc, w1, w2]; exact sum_eq l1 fun i d y a b => (r1 i d y a b).2 M
theorem e_one {cols : List (Str × Str)} (sc : SchOk cols) {k : Str} (hk : KindOk k) {s2 s3 s4 s5 s6 : Sl} {m : List D} (hm : Po m) : ∃ ρ' m',
    (sSeq (sSet 3 (mCall f_l_fit (mCons (mV 0) (mCons (mV 1) (mCons (mV 2) (mCons (m2 addD (mC (.int 2)) (mCall fDraw (mCons (mV 0) (mCons (mC (.int 4)) mNil)))) mNil))))))
  (sSeq (sSet 4 (mCall (g_l_filled 9) (mCons (mV 0) (mCons (mV 3) (mCons (mB dictD (mCons (mV 1) mNil)) mNil)))))
  (sSeq (sSet 5 (mCall (g_l_swapped 9) (mCons (mV 0) (mCons (mV 1) (mCons (mV 4) (mCons (mC (.int 6)) mNil))))))
  (sFor (mItL (mPub (mLst (mCons (mV 3) (mCons (mV 4) (mCons (mV 5) (mCons (mCall (g_l_swapped 9) (mCons (mV 0) (mCons (mV 1) (mCons (mV 5) (mCons (mC (.int 6)) mNil))))) mNil))))))) (gN 6)
  (sIf (mNot (mT (mCall f_l_told_right (mCons (mV 6) mNil))))
  (sRet (mC (.bl false)))
  sNx))))) [.pool, .val (schD cols), .val (.str k), s3, s4, s5, s6] m = .nx ρ' m' ∧ (∃ t3 t4 t5 t6, ρ' = [.pool, .val (schD cols), .val (.str k), t3, t4, t5, t6]) ∧ Po m' := by
  obtain ⟨z, m1, e1, a1, b1, p1⟩ := draw_ok (n := 4) hm (by decide) (by decide)
  obtain ⟨j, rfl⟩ := Int.eq_ofNat_of_zero_le a1
  obtain ⟨d, m2, e2, t2, c2, p2⟩ := e_fit sc (n := j + 1) (by omega) hk p1
  have com : (2 : Int) + (j : Int) = (j : Int) + 1 + 1 := by omega
  rw [show ((j + 1 : Nat) : Int) = (j : Int) + 1 from by omega] at e2
  have x2 : Xi (j + 2) d := t2.xi fun c hc => (sc.ok c hc).1
  obtain ⟨f, m3, e3, x3, c3, p3⟩ := e_fill sc (N := 9) (by omega) t2 p2
  obtain ⟨g, m4, e4, x4, c4, p4⟩ := e_swap sc (N := 9) (n := j + 2) (by omega) f 6 m3 x3 p3
  obtain ⟨h, m5, e5, x5, c5, p5⟩ := e_swap sc (N := 9) (n := j + 2) (by omega) g 6 m4 x4 p4
  have q3 : ndc 9 f ≤ 40 := by rw [c3]; exact c2
  have q4 : ndc 9 g ≤ 40 := Nat.le_trans (c4 9) q3
  have q5 : ndc 9 h ≤ 40 := Nat.le_trans (c5 9) q4
  have o1 := e_told (by omega) x2 c2
  have o2 := e_told (by omega) x3 q3
  have o3 := e_told (by omega) x4 q4
  have o4 := e_told (by omega) x5 q5
  refine ⟨[.pool, .val (schD cols), .val (.str k), .val d, .val f, .val g, .val h], m5, ?_, ⟨_, _, _, _, rfl⟩, p5⟩
  simp -implicitDefEqProofs [e1, com, e2, dict_cols sc.nd, e3, e4, e5, o1, o2, o3, o4]
theorem for_kinds {g : Mg} {f : Ms} {I : En → List D → Prop} (step : ∀ k, KindOk k → ∀ ρ m, I ρ m → ∃ ρ1 ρ2 m2, g (.str k) ρ = some ρ1 ∧ f ρ1 m = .nx ρ2 m2 ∧ I ρ2 m2) : ∀ {ks : List Str}, (∀ k ∈ ks, KindOk k) → ∀ {ρ m}, I ρ m → ∃ ρ' m', forM g f (ks.map D.str) ρ m = .nx ρ' m' ∧ I ρ' m'
  | [], _, ρ, m, h => ⟨ρ, m, rfl, h⟩
  | k :: ks, hk, ρ, m, h => by
    obtain ⟨ρ1, ρ2, m2, e1, e2, h2⟩ := step k (hk k List.mem_cons_self) ρ m h
    obtain ⟨ρ', m', e3, h3⟩ := for_kinds step (ks := ks) (fun k h => hk k (List.mem_cons_of_mem _ h)) h2
    refine ⟨ρ', m', ?_, h3⟩
    simp [e1, e2, e3]
theorem e_right {m : List D} (hm : Po m) : ∃ m', f_l_right [.pool] m = .ok (.bl true) m' ∧ Po m' := by
  obtain ⟨z, m1, e1, a1, b1, p1⟩ := draw_ok (n := 6) hm (by decide) (by decide)
  obtain ⟨n, rfl⟩ := Int.eq_ofNat_of_zero_le a1
  obtain ⟨names, m2, e2, l2, ok2, nd2, p2⟩ := e_calls (n := 1 + n) (by omega) (by omega) p1
  obtain ⟨cols, m3, e3, sc, p3⟩ := e_heads (by omega) (by omega) ok2 nd2 p2
  have com : ((1 + n : Nat) : Int) = 1 + (n : Int) := by omega
  rw [com] at e2
  have loop := for_kinds (g := gN 2) (I := fun ρ m => Po m ∧ ∃ t2 t3 t4 t5 t6, ρ = [.pool, .val (schD cols), t2, t3, t4, t5, t6]) (f := (sSeq (sSet 3 (mCall f_l_fit (mCons (mV 0) (mCons (mV 1) (mCons (mV 2) (mCons (Pd.m2 addD (mC (.int 2)) (mCall fDraw (mCons (mV 0) (mCons (mC (.int 4)) mNil)))) mNil))))))
  (sSeq (sSet 4 (mCall (g_l_filled 9) (mCons (mV 0) (mCons (mV 3) (mCons (mB dictD (mCons (mV 1) mNil)) mNil)))))
  (sSeq (sSet 5 (mCall (g_l_swapped 9) (mCons (mV 0) (mCons (mV 1) (mCons (mV 4) (mCons (mC (.int 6)) mNil))))))
  (sFor (mItL (mPub (mLst (mCons (mV 3) (mCons (mV 4) (mCons (mV 5) (mCons (mCall (g_l_swapped 9) (mCons (mV 0) (mCons (mV 1) (mCons (mV 5) (mCons (mC (.int 6)) mNil))))) mNil))))))) (gN 6)
  (sIf (mNot (mT (mCall f_l_told_right (mCons (mV 6) mNil))))
  (sRet (mC (.bl false)))
  sNx)))))) (fun k hk ρ m hI => by
    obtain ⟨p, t2, t3, t4, t5, t6, rfl⟩ := hI
    obtain ⟨ρ', m', e, ⟨u3, u4, u5, u6, rfl⟩, p'⟩ := e_one sc hk (s2 := .emp) (s3 := t3) (s4 := t4) (s5 := t5) (s6 := t6) p
    exact ⟨_, _, m', rfl, e, p', _, _, _, _, _, rfl⟩) (ks := ["int", "text", "bool", "bool", "int", "bool"]) (fun k hk => by simp only [List.mem_cons, List.not_mem_nil, or_false] at hk; rcases hk with rfl | rfl | rfl | rfl | rfl | rfl <;> first | exact .inl rfl | exact .inr (.inl rfl) | exact .inr (.inr rfl)) (ρ := [.pool, .val (schD cols), .emp, .emp, .emp, .emp, .emp]) (m := m3) ⟨p3, _, _, _, _, _, rfl⟩
  obtain ⟨ρ', m', e, p, _⟩ := loop
  refine ⟨m', ?_, p⟩
  refine runF_rt rfl (sSeq_nx (sSet_eq (mCall_eq (mCons_eq rfl (mCons_eq (mCall_eq (mCons_eq rfl (mCons_eq (m2_eq rfl (mCall_eq (mCons_eq rfl (mCons_eq rfl mNil_eq)) e1) rfl) mNil_eq)) e2) mNil_eq)) e3)) (sSeq_nx (sFor_eq ?_ e) (sRet_eq rfl)))
  kernel_rfl
end K15

set_option Elab.async false
set_option linter.all false
set_option maxRecDepth 100000
set_option maxHeartbeats 4000000
namespace K15
open PySem L2 Pd
theorem e_pool (z : Int) (m : List D) : ∃ ds, f_l_pool [.dat (.int z)] m = .ok ds m ∧ Po ds := by
  have M : Po [.int (z % 2147483423), .int (if z < 0 then -z else z), .int 0] := ⟨_, _, _, rfl, Int.emod_nonneg _ (by decide), Int.emod_lt_of_pos _ (by decide)⟩
  have M0 : Po [.int (z % 2147483423), .int 0, .int 0] := ⟨_, _, _, rfl, Int.emod_nonneg _ (by decide), Int.emod_lt_of_pos _ (by decide)⟩
  by_cases h : z < 0
  · refine ⟨_, runL_rl rfl (rSeq_nx (sSet_eq (mIf_t (mOr_t (mTb_eq (m2_eq rfl rfl (by show some (D.bl (decide (z < 0))) = _; rw [decide_eq_true h])))) (mB_eq (mCons_eq rfl mNil_eq) rfl rfl))) (rRet_eq (mLst_eq (mCons_eq (m2_eq rfl rfl rfl) (mCons_eq rfl (mCons_eq rfl mNil_eq))) rfl (sl_le (by simp))))), M⟩
  · have t1 : ltD (.int z) (.int 0) = some (.bl false) := by show some (D.bl (decide (z < 0))) = _; rw [decide_eq_false h]
    by_cases h2 : (1000000000000000000 : Int) ≤ z
    · refine ⟨_, runL_rl rfl (rSeq_nx (sSet_eq (mIf_t (mOr_f (mTb_eq (m2_eq rfl rfl t1)) (mTb_eq (m2_eq rfl (m2_eq (z := .int 1000000000000000000) rfl rfl rfl) (by show some (D.bl (decide ((1000000000000000000 : Int) ≤ z))) = _; rw [decide_eq_true h2])))) (mB_eq (mCons_eq rfl mNil_eq) rfl rfl))) (rRet_eq (mLst_eq (mCons_eq (m2_eq rfl rfl rfl) (mCons_eq rfl (mCons_eq rfl mNil_eq))) rfl (sl_le (by simp))))), M⟩
    · refine ⟨_, runL_rl rfl (rSeq_nx (sSet_eq (mIf_f (mOr_f (mTb_eq (m2_eq rfl rfl t1)) (mTb_eq (m2_eq rfl (m2_eq (z := .int 1000000000000000000) rfl rfl rfl) (by show some (D.bl (decide ((1000000000000000000 : Int) ≤ z))) = _; rw [decide_eq_false h2])))) rfl)) (rRet_eq (mLst_eq (mCons_eq (m2_eq rfl rfl rfl) (mCons_eq rfl (mCons_eq rfl mNil_eq))) rfl (sl_le (by simp))))), M0⟩
theorem e_lcell {ns : List Int} {k : Nat} (hk : k < 5) (hn : ns.length ≤ 63) (m : List D) : ∃ z, f_l_cell [.dat (.lst (ns.map D.int)), .dat (.int (0 + (k : Int)))] m = .ok (.int z) m := by
  by_cases h : k < ns.length
  · refine ⟨ns[k], runF_rt rfl (sSeq_rt (sIf_t (mTb_eq (m2_eq rfl (mB_eq (mCons_eq rfl mNil_eq) rfl rfl) ?_)) (sRet_eq (m2_eq rfl rfl ?_))))⟩
    · show some (D.bl (decide ((0 + (k : Int)) < ((ns.map D.int).length : Int)))) = _
      rw [decide_eq_true (by rw [List.length_map]; omega)]
    · show L2.atI (ns.map D.int) (0 + (k : Int)) = _
      rw [show (0 + (k : Int)) = (k : Int) by omega]
      exact atI_nat (by rw [List.getElem?_map, List.getElem?_eq_getElem h]; rfl)
  · have t1 : ltD (.int (0 + (k : Int))) (.int ((ns.map D.int).length : Int)) = some (.bl false) := by
      show some (D.bl (decide ((0 + (k : Int)) < ((ns.map D.int).length : Int)))) = _
      rw [decide_eq_false (by rw [List.length_map]; omega)]
    have body := forM_inv0 (g := gN 3) (ds := cutL (ns.map D.int) none (some 3)) (ρ := [.val (.lst (ns.map D.int)), .val (.int (0 + (k : Int))), .val (.int ((52009 * ((0 + (k : Int)) * (0 + (k : Int)) + 11 * (0 + (k : Int)) + 3)) % 2147483423)), .emp]) (m := m)
      (f := (sSet 2 (m2 modD (m2 addD (m2 mulD (mV 2) (mC (.int 40009))) (mV 3)) (mC (.int 2147483423)))))
      (I := fun _ ρ m' => m' = m ∧ ∃ z s3, ρ = [.val (.lst (ns.map D.int)), .val (.int (0 + (k : Int))), .val (.int z), s3])
      ⟨rfl, _, _, rfl⟩ (fun i d ρ m' hd hI => by
        obtain ⟨rfl, z, s3, rfl⟩ := hI
        have : d ∈ ns.map D.int := by
          have := List.mem_of_getElem? hd
          unfold cutL at this
          exact List.mem_of_mem_drop (List.mem_of_mem_take this)
        obtain ⟨y, _, rfl⟩ := List.mem_map.mp this
        have mu : mulD (.int z) (.int 40009) = some (.int (z * 40009)) := by
          show (if sm64 z || sm64 40009 then _ else none) = _
          rw [show sm64 40009 = true by decide, Bool.or_true, if_pos rfl]
        exact ⟨_, _, _, rfl, .inl (sSet_eq (m2_eq (m2_eq (m2_eq rfl rfl mu) rfl rfl) rfl rfl)), rfl, _, _, rfl⟩)
    obtain ⟨ρ', m', e, rfl, z, s3, rfl⟩ := body
    have mk : mulD (.int (0 + (k : Int))) (.int (0 + (k : Int))) = some (.int ((0 + (k : Int)) * (0 + (k : Int)))) := by
      have : ∀ q < 5, (sm64 (0 + ((q : Nat) : Int)) || sm64 (0 + ((q : Nat) : Int))) = true := by decide
      exact mul_int (this k hk)
    refine ⟨z, runF_rt rfl (sSeq_nx (sIf_f (mTb_eq (m2_eq rfl (mB_eq (mCons_eq rfl mNil_eq) rfl rfl) t1)) rfl) (sSeq_nx (sSet_eq (m2_eq (m2_eq rfl (m2_eq (m2_eq (m2_eq rfl rfl mk) (m2_eq rfl rfl rfl) rfl) rfl rfl) rfl) rfl rfl)) (sSeq_nx (sFor_eq (mItL_eq (mPub_eq (mSlL_eq rfl rfl (oS_eq rfl)))) e) (sRet_eq rfl))))⟩
end K15

set_option Elab.async false
set_option linter.all false
set_option maxRecDepth 100000
set_option maxHeartbeats 4000000
namespace K15
open PySem L2 Pd
def c_yes : D := (.tup [(.str "value"), (.str "bool"), (.bl true)])
def c_no : D := (.tup [(.str "value"), (.str "bool"), (.bl false)])
def c_none : D := (.tup [(.str "value"), (.str "bool"), .non])
def c_p : D := (.tup [(.str "col"), (.str "p")])
def c_one : D := (.tup [(.str "value"), (.str "int"), (.int 1)])
def c_two : D := (.tup [(.str "value"), (.str "int"), (.int 2)])
def c_text_here : D := (.tup [(.str "value"), (.str "text"), (.str "x")])
def some0 : List D := [(.tup [(.tup [(.str "and"), c_yes, c_p]), c_p]),
  (.tup [(.tup [(.str "and"), c_p, c_no]), c_no]),
  (.tup [(.tup [(.str "or"), c_p, c_no]), c_p]),
  (.tup [(.tup [(.str "or"), c_yes, c_p]), c_yes]),
  (.tup [(.tup [(.str "and"), c_none, c_p]), .non]),
  (.tup [(.tup [(.str "and"), c_no, c_none]), c_no]),
  (.tup [(.tup [(.str "and"), c_one, c_yes]), c_one]),
  (.tup [(.tup [(.str "or"), c_no, c_text_here]), c_text_here]),
  (.tup [(.tup [(.str "not"), (.tup [(.str "not"), c_p])]), c_p]),
  (.tup [(.tup [(.str "not"), (.tup [(.str "not"), (.tup [(.str "not"), c_p])])]), (.tup [(.str "not"), c_p])]),
  (.tup [(.tup [(.str "not"), c_one]), .non]),
  (.tup [(.tup [(.str "if"), c_none, c_one, c_two]), c_two]),
  (.tup [(.tup [(.str "if"), c_yes, c_p, c_one]), c_p]),
  (.tup [(.tup [(.str "if"), c_one, c_p, c_two]), c_two]),
  (.tup [(.tup [(.str "else"), (.tup [(.str "value"), (.str "int"), .non]), c_p]), c_p]),
  (.tup [(.tup [(.str "else"), c_one, c_text_here]), c_one]),
  (.tup [(.tup [(.str "else"), c_p, c_one]), .non]),
  (.tup [(.tup [(.str "add"), c_one, c_text_here]), .non]),
  (.tup [(.tup [(.str "eq"), c_one, c_text_here]), .non]),
  (.tup [(.tup [(.str "eq"), c_one, c_two]), c_no]),
  (.tup [(.tup [(.str "div"), c_one, (.tup [(.str "value"), (.str "int"), (.int 0)])]), (.tup [(.str "value"), (.str "int"), .non])]),
  (.tup [(.tup [(.str "size"), c_one]), .non]),
  (.tup [(.tup [(.str "there"), c_text_here]), c_yes]),
  (.tup [(.tup [(.str "lt"), c_no, c_yes]), c_yes]),
  (.tup [(.tup [(.str "and"), (.tup [(.str "there"), c_one]), c_p]), c_p])]
def lastT : D := (.tup [(.str "and"), (.tup [(.str "there"), c_one]), c_p])
def lastD : D := c_p
def bodyL : Ms := (sIf (mOr (mTb (m2 neD (mB reprD (mCons (mCall f_folded (mCons (mV 9) mNil)) mNil)) (mB reprD (mCons (mIf (mTb (m1 (fun d => some (.bl (isNone d))) (mV 10))) (mV 9) (mV 10)) mNil)))) (mNot (mT (mCall f_l_told_right (mCons (mV 9) mNil)))))
  (sRet (mC (.bl false)))
  sNx)
def Ok (t due : D) : Prop := ∀ (s a1 a2 a3 a4 a5 a6 a7 a8 : Sl), bodyL [s, a1, a2, a3, a4, a5, a6, a7, a8, .val t, .val due, .emp] [] = .nx [s, a1, a2, a3, a4, a5, a6, a7, a8, .val t, .val due, .emp] []
theorem it0 : Ok (.tup [(.str "and"), c_yes, c_p]) c_p := fun s a1 a2 a3 a4 a5 a6 a7 a8 => by kernel_rfl
theorem it1 : Ok (.tup [(.str "and"), c_p, c_no]) c_no := fun s a1 a2 a3 a4 a5 a6 a7 a8 => by kernel_rfl
theorem it2 : Ok (.tup [(.str "or"), c_p, c_no]) c_p := fun s a1 a2 a3 a4 a5 a6 a7 a8 => by kernel_rfl
theorem it3 : Ok (.tup [(.str "or"), c_yes, c_p]) c_yes := fun s a1 a2 a3 a4 a5 a6 a7 a8 => by kernel_rfl
theorem it4 : Ok (.tup [(.str "and"), c_none, c_p]) .non := fun s a1 a2 a3 a4 a5 a6 a7 a8 => by kernel_rfl
theorem it5 : Ok (.tup [(.str "and"), c_no, c_none]) c_no := fun s a1 a2 a3 a4 a5 a6 a7 a8 => by kernel_rfl
theorem it6 : Ok (.tup [(.str "and"), c_one, c_yes]) c_one := fun s a1 a2 a3 a4 a5 a6 a7 a8 => by kernel_rfl
theorem it7 : Ok (.tup [(.str "or"), c_no, c_text_here]) c_text_here := fun s a1 a2 a3 a4 a5 a6 a7 a8 => by kernel_rfl
theorem it8 : Ok (.tup [(.str "not"), (.tup [(.str "not"), c_p])]) c_p := fun s a1 a2 a3 a4 a5 a6 a7 a8 => by kernel_rfl
theorem it9 : Ok (.tup [(.str "not"), (.tup [(.str "not"), (.tup [(.str "not"), c_p])])]) (.tup [(.str "not"), c_p]) := fun s a1 a2 a3 a4 a5 a6 a7 a8 => by kernel_rfl
theorem it10 : Ok (.tup [(.str "not"), c_one]) .non := fun s a1 a2 a3 a4 a5 a6 a7 a8 => by kernel_rfl
theorem it11 : Ok (.tup [(.str "if"), c_none, c_one, c_two]) c_two := fun s a1 a2 a3 a4 a5 a6 a7 a8 => by kernel_rfl
end K15

set_option Elab.async false
set_option linter.all false
set_option maxRecDepth 100000
set_option maxHeartbeats 4000000
namespace K15
open PySem L2 Pd
theorem it12 : Ok (.tup [(.str "if"), c_yes, c_p, c_one]) c_p := fun s a1 a2 a3 a4 a5 a6 a7 a8 => by kernel_rfl
theorem it13 : Ok (.tup [(.str "if"), c_one, c_p, c_two]) c_two := fun s a1 a2 a3 a4 a5 a6 a7 a8 => by kernel_rfl
theorem it14 : Ok (.tup [(.str "else"), (.tup [(.str "value"), (.str "int"), .non]), c_p]) c_p := fun s a1 a2 a3 a4 a5 a6 a7 a8 => by kernel_rfl
theorem it15 : Ok (.tup [(.str "else"), c_one, c_text_here]) c_one := fun s a1 a2 a3 a4 a5 a6 a7 a8 => by kernel_rfl
theorem it16 : Ok (.tup [(.str "else"), c_p, c_one]) .non := fun s a1 a2 a3 a4 a5 a6 a7 a8 => by kernel_rfl
theorem it17 : Ok (.tup [(.str "add"), c_one, c_text_here]) .non := fun s a1 a2 a3 a4 a5 a6 a7 a8 => by kernel_rfl
theorem it18 : Ok (.tup [(.str "eq"), c_one, c_text_here]) .non := fun s a1 a2 a3 a4 a5 a6 a7 a8 => by kernel_rfl
theorem it19 : Ok (.tup [(.str "eq"), c_one, c_two]) c_no := fun s a1 a2 a3 a4 a5 a6 a7 a8 => by kernel_rfl
theorem it20 : Ok (.tup [(.str "div"), c_one, (.tup [(.str "value"), (.str "int"), (.int 0)])]) (.tup [(.str "value"), (.str "int"), .non]) := fun s a1 a2 a3 a4 a5 a6 a7 a8 => by kernel_rfl
theorem it21 : Ok (.tup [(.str "size"), c_one]) .non := fun s a1 a2 a3 a4 a5 a6 a7 a8 => by kernel_rfl
theorem it22 : Ok (.tup [(.str "there"), c_text_here]) c_yes := fun s a1 a2 a3 a4 a5 a6 a7 a8 => by kernel_rfl
theorem it23 : Ok (.tup [(.str "lt"), c_no, c_yes]) c_yes := fun s a1 a2 a3 a4 a5 a6 a7 a8 => by kernel_rfl
theorem it24 : Ok (.tup [(.str "and"), (.tup [(.str "there"), c_one]), c_p]) c_p := fun s a1 a2 a3 a4 a5 a6 a7 a8 => by kernel_rfl
end K15

set_option Elab.async false
set_option linter.all false
set_option maxRecDepth 100000
set_option maxHeartbeats 4000000
namespace K15
open PySem L2 Pd
def tailM : Me Vl := mB allD (mCons (mPub (mLc [11] (mItR (mB maxD (mCons (mC (.int 2)) (mCons (mB minD (mCons (mB lenD (mCons (mV 0) mNil)) (mCons (mC (.int 5)) mNil))) mNil)))) (gN 11) (fun _ m => .ok true m) (mCallP f_l_right (mCallL f_l_pool (mCons (mCall f_l_cell (mCons (mV 0) (mCons (mV 11) mNil))) mNil))))) mNil)
theorem for_items {s a1 a2 a3 a4 a5 a6 a7 a8 : Sl} : ∀ {ds : List D}, (∀ d ∈ ds, ∃ t due, d = .tup [t, due] ∧ Ok t due) → ∀ {s9 s10 : Sl}, ∃ t9 t10, forM (gN2 9 10) bodyL ds [s, a1, a2, a3, a4, a5, a6, a7, a8, s9, s10, .emp] [] = .nx [s, a1, a2, a3, a4, a5, a6, a7, a8, t9, t10, .emp] []
  | [], _, s9, s10 => ⟨s9, s10, rfl⟩
  | d :: ds, h, s9, s10 => by
    obtain ⟨t, due, rfl, ok⟩ := h d List.mem_cons_self
    obtain ⟨t9, t10, e⟩ := for_items (s := s) (a1 := a1) (a2 := a2) (a3 := a3) (a4 := a4) (a5 := a5) (a6 := a6) (a7 := a7) (a8 := a8) (ds := ds) (fun d h' => h d (List.mem_cons_of_mem _ h')) (s9 := .val t) (s10 := .val due)
    refine ⟨t9, t10, ?_⟩
    have ok := ok s a1 a2 a3 a4 a5 a6 a7 a8
    simp [ok, e]
theorem all0 : ∀ d ∈ some0, ∃ t due, d = .tup [t, due] ∧ Ok t due := fun d hd => by
  simp only [some0, List.mem_cons, List.not_mem_nil, or_false] at hd
  rcases hd with rfl | rfl | rfl | rfl | rfl | rfl | rfl | rfl | rfl | rfl | rfl | rfl | rfl | rfl | rfl | rfl | rfl | rfl | rfl | rfl | rfl | rfl | rfl | rfl | rfl
  · exact ⟨_, _, rfl, it0⟩
  · exact ⟨_, _, rfl, it1⟩
  · exact ⟨_, _, rfl, it2⟩
  · exact ⟨_, _, rfl, it3⟩
  · exact ⟨_, _, rfl, it4⟩
  · exact ⟨_, _, rfl, it5⟩
  · exact ⟨_, _, rfl, it6⟩
  · exact ⟨_, _, rfl, it7⟩
  · exact ⟨_, _, rfl, it8⟩
  · exact ⟨_, _, rfl, it9⟩
  · exact ⟨_, _, rfl, it10⟩
  · exact ⟨_, _, rfl, it11⟩
  · exact ⟨_, _, rfl, it12⟩
  · exact ⟨_, _, rfl, it13⟩
  · exact ⟨_, _, rfl, it14⟩
  · exact ⟨_, _, rfl, it15⟩
  · exact ⟨_, _, rfl, it16⟩
  · exact ⟨_, _, rfl, it17⟩
  · exact ⟨_, _, rfl, it18⟩
  · exact ⟨_, _, rfl, it19⟩
  · exact ⟨_, _, rfl, it20⟩
  · exact ⟨_, _, rfl, it21⟩
  · exact ⟨_, _, rfl, it22⟩
  · exact ⟨_, _, rfl, it23⟩
  · exact ⟨_, _, rfl, it24⟩
theorem thaw8 {i : Nat} {f : Ms} {ρ : En} {m : List D} {ds : List D} (h : ρ[i]? = some (.own ds)) : sThaw1 i f ρ m = f (ρ.set i (.val (.lst ds))) m := by rw [r_thaw1, h]
theorem law_pre0 (s : D) : sem_law [.val s, .emp, .emp, .emp, .emp, .emp, .emp, .emp, .emp, .emp, .emp, .emp] [] = sSeq (sFor (mItL (mV 8)) (gN2 9 10) bodyL) (sRet tailM) [.val s, .val c_yes, .val c_no, .val c_none, .val c_p, .val c_one, .val c_two, .val c_text_here, .val (.lst some0), .emp, .emp, .emp] [] := by
  unfold sem_law
  refine sSeq_nx (ρ' := [.val s, .val c_yes, .val c_no, .val c_none, .val c_p, .emp, .emp, .emp, .emp, .emp, .emp, .emp]) (m1' := []) (by kernel_rfl) ?_
  refine sSeq_nx (ρ' := [.val s, .val c_yes, .val c_no, .val c_none, .val c_p, .val c_one, .val c_two, .val c_text_here, .emp, .emp, .emp, .emp]) (m1' := []) (by kernel_rfl) ?_
  refine sSeq_nx (ρ' := [.val s, .val c_yes, .val c_no, .val c_none, .val c_p, .val c_one, .val c_two, .val c_text_here, .own (some0.take 4), .emp, .emp, .emp]) (m1' := []) (by kernel_rfl) ?_
  refine sSeq_nx (ρ' := [.val s, .val c_yes, .val c_no, .val c_none, .val c_p, .val c_one, .val c_two, .val c_text_here, .own (some0.take 5), .emp, .emp, .emp]) (m1' := []) (by kernel_rfl) ?_
  refine sSeq_nx (ρ' := [.val s, .val c_yes, .val c_no, .val c_none, .val c_p, .val c_one, .val c_two, .val c_text_here, .own (some0.take 8), .emp, .emp, .emp]) (m1' := []) (by kernel_rfl) ?_
  refine sSeq_nx (ρ' := [.val s, .val c_yes, .val c_no, .val c_none, .val c_p, .val c_one, .val c_two, .val c_text_here, .own (some0.take 11), .emp, .emp, .emp]) (m1' := []) (by kernel_rfl) ?_
  refine sSeq_nx (ρ' := [.val s, .val c_yes, .val c_no, .val c_none, .val c_p, .val c_one, .val c_two, .val c_text_here, .own (some0.take 14), .emp, .emp, .emp]) (m1' := []) (by kernel_rfl) ?_
  refine sSeq_nx (ρ' := [.val s, .val c_yes, .val c_no, .val c_none, .val c_p, .val c_one, .val c_two, .val c_text_here, .own (some0.take 17), .emp, .emp, .emp]) (m1' := []) (by kernel_rfl) ?_
  refine sSeq_nx (ρ' := [.val s, .val c_yes, .val c_no, .val c_none, .val c_p, .val c_one, .val c_two, .val c_text_here, .own (some0.take 20), .emp, .emp, .emp]) (m1' := []) (by kernel_rfl) ?_
  refine sSeq_nx (ρ' := [.val s, .val c_yes, .val c_no, .val c_none, .val c_p, .val c_one, .val c_two, .val c_text_here, .own (some0.take 22), .emp, .emp, .emp]) (m1' := []) (by kernel_rfl) ?_
  refine sSeq_nx (ρ' := [.val s, .val c_yes, .val c_no, .val c_none, .val c_p, .val c_one, .val c_two, .val c_text_here, .own (some0.take 25), .emp, .emp, .emp]) (m1' := []) (by kernel_rfl) ?_
  exact (thaw8 (ds := some0) rfl).trans rfl
theorem law_pre (s : D) : ∃ t9 t10, sem_law [.val s, .emp, .emp, .emp, .emp, .emp, .emp, .emp, .emp, .emp, .emp, .emp] [] = sRet tailM [.val s, .val c_yes, .val c_no, .val c_none, .val c_p, .val c_one, .val c_two, .val c_text_here, .val (.lst some0), t9, t10, .emp] [] := by
  obtain ⟨t9, t10, e⟩ := for_items (s := .val s) (a1 := .val c_yes) (a2 := .val c_no) (a3 := .val c_none) (a4 := .val c_p) (a5 := .val c_one) (a6 := .val c_two) (a7 := .val c_text_here) (a8 := .val (.lst some0)) all0 (s9 := .emp) (s10 := .emp)
  exact ⟨t9, t10, (law_pre0 s).trans (sSeq_nx (sFor_eq rfl e) rfl)⟩
theorem law_true (ns : List Int) (h : ns.length ≤ 63) : ∃ m', f_law [.dat (.lst (ns.map D.int))] [] = .ok (.bl true) m' := by
  obtain ⟨t9, t10, lp⟩ := law_pre (.lst (ns.map D.int))
  refine ⟨[], runF_rt rfl (lp.trans (sRet_eq ?_))⟩
  let j : Int := if (5 : Int) < ((ns.map D.int).length : Int) then 5 else ((ns.map D.int).length : Int)
  let n : Int := if j > 2 then j else 2
  have hn : 0 ≤ n ∧ n ≤ 5 := by
    have hj : j ≤ 5 := by show (if _ then _ else _ : Int) ≤ 5; split <;> omega
    show 0 ≤ (if j > 2 then j else 2) ∧ (if j > 2 then j else 2) ≤ 5
    split <;> omega
  have ml : (rng 0 n.toNat).map (fun _ => D.bl true) = List.replicate n.toNat (D.bl true) := by
    rw [List.map_const']; unfold rng; rw [List.length_map, List.length_range]
  refine mB_eq (mCons_eq (mPub_eq (mLc_eq (m1' := []) (m2' := []) (ds := rng 0 n.toNat) (ys := (rng 0 n.toNat).map fun _ => D.bl true) (mItR_eq (mB_eq (mCons_eq rfl (mCons_eq (mB_eq (mCons_eq (mB_eq (mCons_eq rfl mNil_eq) rfl rfl) (mCons_eq rfl mNil_eq)) rfl rfl) mNil_eq)) rfl rfl) (by show -(2 ^ 62) ≤ n ∧ n < 2 ^ 62; omega)) rfl (by unfold rng; rw [List.length_map, List.length_range]; exact sl_le (by omega)) ?_)) mNil_eq) rfl ?_
  · refine lcM_map fun d hd => ?_
    obtain ⟨k, hk, rfl⟩ := List.mem_map.mp hd
    have hk : k < 5 := by have := List.mem_range.mp hk; omega
    obtain ⟨z, ez⟩ := e_lcell (ns := ns) hk h []
    obtain ⟨ds, ep, po⟩ := e_pool z []
    obtain ⟨m', er, _⟩ := e_right po
    exact ⟨_, rfl, rfl, mCallP_eq (mCallL_eq (mCons_eq (mCall_eq (mCons_eq rfl (mCons_eq rfl mNil_eq)) ez) mNil_eq) ep) er⟩
  · show (bls ((rng 0 n.toNat).map fun _ => D.bl true)).map _ = _
    rw [ml, bls_true]
    show some (D.bl ((List.replicate n.toNat true).all id)) = _
    congr 2
    rw [List.all_eq_true]
    intro x hx
    rw [List.eq_of_mem_replicate hx]
    rfl
end K15

set_option Elab.async false
set_option linter.all false
set_option maxRecDepth 100000
set_option maxHeartbeats 8000000
set_option pp.maxSteps 300
namespace K15
open PySem L2 Pd
def spLaw (K : Fg) : L2.Sp := fun vs H Q _ => ∃ (a : Addr) (ns : List Int), vs = [.ref a] ∧ SqL K H a (ns.map V.int) ∧ ns.length ≤ 63 ∧ ∀ H', Q (.bl true) H'
theorem rp_ints {K : Fg} {G : Hp} : ∀ ns : List Int, RpL K G (ns.map V.int) (ns.map D.int)
  | [] => .nil
  | n :: r => .cons (.int n) (rp_ints r)
theorem law_sp {P : Program} {w : World} {K : Fg} {mg : Str → Option Value} {base : Heap} {a : Addr} {fd : FuncData} {k : Nat} (F : FnG P w K mg base k a fd ["_law_script"] (spF K f_law)) : FnG P w K mg base k a fd ["_law_script"] (spLaw K) := by
  refine F.imp fun vs H Q E h => ?_
  obtain ⟨p, ns, rfl, hS, hl, q⟩ := h
  obtain ⟨m', e⟩ := law_true ns hl
  refine ⟨⟨K, H, fun b => if b = p then H b else none, none⟩, [], [.dat (.lst (ns.map D.int))], rfl, rfl, ⟨fun b o h => ?_, Ex.refl _, fun b o h => .inl h, fun b o h _ => h, fun p e => by cases e⟩, .cons (Rp.lst (vs := ns.map V.int) ?_ (rp_ints ns)) .nil, ?_⟩
  · change (if b = p then H b else none) = some o at h
    by_cases e : b = p
    · rw [if_pos e] at h; exact h
    · rw [if_neg e] at h; cases h
  · rcases hS with (h | ⟨o, h⟩) | h
    · exact .inl (.inl (by show (if p = p then H p else none) = _; rw [if_pos rfl]; exact h))
    · exact .inl (.inr ⟨o, by show (if p = p then H p else none) = _; rw [if_pos rfl]; exact h⟩)
    · exact .inr h
  · rw [e]
    intro v G' H' _ r
    cases r.bl_inv
    exact q H'
theorem all_mk {l : PySem.W.OpenLaw} {w : World} {K : Fg} {h : Heap} {mg : Str → Option Value} {fa : Addr} (X : K.In h) (G : h.Ns mainGlobals mg) (hfa : mg "law" = some (.ref fa))
    {fa_is_integer : Addr} {od_is_integer an_is_integer : Option Addr} {sl_is_integer : Array (Option Value)} {oc_is_integer kV_is_integer dc_is_integer pm_is_integer cd_is_integer ct_is_integer : Value}
    {fa_is_name : Addr} {od_is_name an_is_name : Option Addr} {sl_is_name : Array (Option Value)} {oc_is_name kV_is_name dc_is_name pm_is_name cd_is_name ct_is_name : Value}
    {fa_is_kind : Addr} {od_is_kind an_is_kind : Option Addr} {sl_is_kind : Array (Option Value)} {oc_is_kind kV_is_kind dc_is_kind pm_is_kind cd_is_kind ct_is_kind : Value}
    {fa_is_value : Addr} {od_is_value an_is_value : Option Addr} {sl_is_value : Array (Option Value)} {oc_is_value kV_is_value dc_is_value pm_is_value cd_is_value ct_is_value : Value}
    {fa_is_operation : Addr} {od_is_operation an_is_operation : Option Addr} {sl_is_operation : Array (Option Value)} {oc_is_operation kV_is_operation dc_is_operation pm_is_operation cd_is_operation ct_is_operation : Value}
    {fa_parts_of : Addr} {od_parts_of an_parts_of : Option Addr} {sl_parts_of : Array (Option Value)} {oc_parts_of kV_parts_of dc_parts_of pm_parts_of cd_parts_of ct_parts_of : Value}
    {fa_has_form : Addr} {od_has_form an_has_form : Option Addr} {sl_has_form : Array (Option Value)} {oc_has_form kV_has_form dc_has_form pm_has_form cd_has_form ct_has_form : Value}
    {fa_first_fault : Addr} {od_first_fault an_first_fault : Option Addr} {sl_first_fault : Array (Option Value)} {oc_first_fault kV_first_fault dc_first_fault pm_first_fault cd_first_fault ct_first_fault : Value}
    {fa_node_count : Addr} {od_node_count an_node_count : Option Addr} {sl_node_count : Array (Option Value)} {oc_node_count kV_node_count dc_node_count pm_node_count cd_node_count ct_node_count : Value}
    {fa_level_count : Addr} {od_level_count an_level_count : Option Addr} {sl_level_count : Array (Option Value)} {oc_level_count kV_level_count dc_level_count pm_level_count cd_level_count ct_level_count : Value}
    {fa_fault_in : Addr} {od_fault_in an_fault_in : Option Addr} {sl_fault_in : Array (Option Value)} {oc_fault_in kV_fault_in dc_fault_in pm_fault_in cd_fault_in ct_fault_in : Value}
    {fa_check_expression : Addr} {od_check_expression an_check_expression : Option Addr} {sl_check_expression : Array (Option Value)} {oc_check_expression kV_check_expression dc_check_expression pm_check_expression cd_check_expression ct_check_expression : Value}
    {fa_kind_of_operation : Addr} {od_kind_of_operation an_kind_of_operation : Option Addr} {sl_kind_of_operation : Array (Option Value)} {oc_kind_of_operation kV_kind_of_operation dc_kind_of_operation pm_kind_of_operation cd_kind_of_operation ct_kind_of_operation : Value}
    {fa_value_of_numbers : Addr} {od_value_of_numbers an_value_of_numbers : Option Addr} {sl_value_of_numbers : Array (Option Value)} {oc_value_of_numbers kV_value_of_numbers dc_value_of_numbers pm_value_of_numbers cd_value_of_numbers ct_value_of_numbers : Value}
    {fa_value_of_operation : Addr} {od_value_of_operation an_value_of_operation : Option Addr} {sl_value_of_operation : Array (Option Value)} {oc_value_of_operation kV_value_of_operation dc_value_of_operation pm_value_of_operation cd_value_of_operation ct_value_of_operation : Value}
    {fa_shortened : Addr} {od_shortened an_shortened : Option Addr} {sl_shortened : Array (Option Value)} {oc_shortened kV_shortened dc_shortened pm_shortened cd_shortened ct_shortened : Value}
    {fa_folded_of : Addr} {od_folded_of an_folded_of : Option Addr} {sl_folded_of : Array (Option Value)} {oc_folded_of kV_folded_of dc_folded_of pm_folded_of cd_folded_of ct_folded_of : Value}
    {fa_folded : Addr} {od_folded an_folded : Option Addr} {sl_folded : Array (Option Value)} {oc_folded kV_folded dc_folded pm_folded cd_folded ct_folded : Value}
    {fa_l_cell : Addr} {od_l_cell an_l_cell : Option Addr} {sl_l_cell : Array (Option Value)} {oc_l_cell kV_l_cell dc_l_cell pm_l_cell cd_l_cell ct_l_cell : Value}
    {fa_l_pool : Addr} {od_l_pool an_l_pool : Option Addr} {sl_l_pool : Array (Option Value)} {oc_l_pool kV_l_pool dc_l_pool pm_l_pool cd_l_pool ct_l_pool : Value}
    {fa_l_draw : Addr} {od_l_draw an_l_draw : Option Addr} {sl_l_draw : Array (Option Value)} {oc_l_draw kV_l_draw dc_l_draw pm_l_draw cd_l_draw ct_l_draw : Value}
    {fa_l_calls : Addr} {od_l_calls an_l_calls : Option Addr} {sl_l_calls : Array (Option Value)} {oc_l_calls kV_l_calls dc_l_calls pm_l_calls cd_l_calls ct_l_calls : Value}
    {fa_l_worth : Addr} {od_l_worth an_l_worth : Option Addr} {sl_l_worth : Array (Option Value)} {oc_l_worth kV_l_worth dc_l_worth pm_l_worth cd_l_worth ct_l_worth : Value}
    {fa_l_heads : Addr} {od_l_heads an_l_heads : Option Addr} {sl_l_heads : Array (Option Value)} {oc_l_heads kV_l_heads dc_l_heads pm_l_heads cd_l_heads ct_l_heads : Value}
    {fa_l_leaf : Addr} {od_l_leaf an_l_leaf : Option Addr} {sl_l_leaf : Array (Option Value)} {oc_l_leaf kV_l_leaf dc_l_leaf pm_l_leaf cd_l_leaf ct_l_leaf : Value}
    {fa_l_tree : Addr} {od_l_tree an_l_tree : Option Addr} {sl_l_tree : Array (Option Value)} {oc_l_tree kV_l_tree dc_l_tree pm_l_tree cd_l_tree ct_l_tree : Value}
    {fa_l_pair : Addr} {od_l_pair an_l_pair : Option Addr} {sl_l_pair : Array (Option Value)} {oc_l_pair kV_l_pair dc_l_pair pm_l_pair cd_l_pair ct_l_pair : Value}
    {fa_l_test : Addr} {od_l_test an_l_test : Option Addr} {sl_l_test : Array (Option Value)} {oc_l_test kV_l_test dc_l_test pm_l_test cd_l_test ct_l_test : Value}
    {fa_l_counted : Addr} {od_l_counted an_l_counted : Option Addr} {sl_l_counted : Array (Option Value)} {oc_l_counted kV_l_counted dc_l_counted pm_l_counted cd_l_counted ct_l_counted : Value}
    {fa_l_value : Addr} {od_l_value an_l_value : Option Addr} {sl_l_value : Array (Option Value)} {oc_l_value kV_l_value dc_l_value pm_l_value cd_l_value ct_l_value : Value}
    {fa_l_size : Addr} {od_l_size an_l_size : Option Addr} {sl_l_size : Array (Option Value)} {oc_l_size kV_l_size dc_l_size pm_l_size cd_l_size ct_l_size : Value}
    {fa_l_fit : Addr} {od_l_fit an_l_fit : Option Addr} {sl_l_fit : Array (Option Value)} {oc_l_fit kV_l_fit dc_l_fit pm_l_fit cd_l_fit ct_l_fit : Value}
    {fa_l_wanted : Addr} {od_l_wanted an_l_wanted : Option Addr} {sl_l_wanted : Array (Option Value)} {oc_l_wanted kV_l_wanted dc_l_wanted pm_l_wanted cd_l_wanted ct_l_wanted : Value}
    {fa_l_swapped : Addr} {od_l_swapped an_l_swapped : Option Addr} {sl_l_swapped : Array (Option Value)} {oc_l_swapped kV_l_swapped dc_l_swapped pm_l_swapped cd_l_swapped ct_l_swapped : Value}
    {fa_l_folded : Addr} {od_l_folded an_l_folded : Option Addr} {sl_l_folded : Array (Option Value)} {oc_l_folded kV_l_folded dc_l_folded pm_l_folded cd_l_folded ct_l_folded : Value}
    {fa_l_filled : Addr} {od_l_filled an_l_filled : Option Addr} {sl_l_filled : Array (Option Value)} {oc_l_filled kV_l_filled dc_l_filled pm_l_filled cd_l_filled ct_l_filled : Value}
    {fa_l_told_right : Addr} {od_l_told_right an_l_told_right : Option Addr} {sl_l_told_right : Array (Option Value)} {oc_l_told_right kV_l_told_right dc_l_told_right pm_l_told_right cd_l_told_right ct_l_told_right : Value}
    {fa_l_right : Addr} {od_l_right an_l_right : Option Addr} {sl_l_right : Array (Option Value)} {oc_l_right kV_l_right dc_l_right pm_l_right cd_l_right ct_l_right : Value}
    {fa_law : Addr} {od_law an_law : Option Addr} {sl_law : Array (Option Value)} {oc_law kV_law dc_law pm_law cd_law ct_law : Value}
    {tk_LETTERS : Tok}
    {tk_MOST_LETTERS : Tok}
    {tk_MOST_NODES : Tok}
    {tk_MOST_LEVELS : Tok}
    {ad_KINDS : Addr} {no_KINDS : Nat} {sl_KINDS : Array (Option Value)} {tk_KINDS_0 tk_KINDS_1 tk_KINDS_2 : Tok}
    {ad_NUMBERS : Addr} {no_NUMBERS : Nat} {sl_NUMBERS : Array (Option Value)} {tk_NUMBERS_0 tk_NUMBERS_1 tk_NUMBERS_2 tk_NUMBERS_3 tk_NUMBERS_4 : Tok}
    {ad_COMPARISONS : Addr} {no_COMPARISONS : Nat} {sl_COMPARISONS : Array (Option Value)} {tk_COMPARISONS_0 tk_COMPARISONS_1 tk_COMPARISONS_2 : Tok}
    {ad_PARTS : Addr} {no_PARTS : Nat} {tk_PARTS_0 tk_PARTS_1 tk_PARTS_2 tk_PARTS_3 tk_PARTS_4 tk_PARTS_5 tk_PARTS_6 tk_PARTS_7 tk_PARTS_8 tk_PARTS_9 tk_PARTS_10 tk_PARTS_11 tk_PARTS_12 tk_PARTS_13 tk_PARTS_14 tk_PARTS_15 tv_PARTS_0 tv_PARTS_1 tv_PARTS_2 tv_PARTS_3 tv_PARTS_4 tv_PARTS_5 tv_PARTS_6 tv_PARTS_7 tv_PARTS_8 tv_PARTS_9 tv_PARTS_10 tv_PARTS_11 tv_PARTS_12 tv_PARTS_13 tv_PARTS_14 tv_PARTS_15 : Tok}
    (a_is_integer : PySem.W.nsIn K mainGlobals "is_integer" = some (some (.ref fa_is_integer)))
    (l_is_integer : K.lookup fa_is_integer = some ⟨oc_is_integer, od_is_integer, .func (PySem.W.fnOf "is_integer" "is_integer" (defArgs st_is_integer) (defBody st_is_integer) (defScope st_is_integer) .none kV_is_integer dc_is_integer pm_is_integer an_is_integer cd_is_integer ct_is_integer), sl_is_integer⟩)
    (c_is_integer : PySem.W.codeIn K cd_is_integer "is_integer" = true)
    (k_is_integer : PySem.W.keepIn K (.ref fa_is_integer) = true)
    (a_is_name : PySem.W.nsIn K mainGlobals "is_name" = some (some (.ref fa_is_name)))
    (l_is_name : K.lookup fa_is_name = some ⟨oc_is_name, od_is_name, .func (PySem.W.fnOf "is_name" "is_name" (defArgs st_is_name) (defBody st_is_name) (defScope st_is_name) .none kV_is_name dc_is_name pm_is_name an_is_name cd_is_name ct_is_name), sl_is_name⟩)
    (c_is_name : PySem.W.codeIn K cd_is_name "is_name" = true)
    (k_is_name : PySem.W.keepIn K (.ref fa_is_name) = true)
    (a_is_kind : PySem.W.nsIn K mainGlobals "is_kind" = some (some (.ref fa_is_kind)))
    (l_is_kind : K.lookup fa_is_kind = some ⟨oc_is_kind, od_is_kind, .func (PySem.W.fnOf "is_kind" "is_kind" (defArgs st_is_kind) (defBody st_is_kind) (defScope st_is_kind) .none kV_is_kind dc_is_kind pm_is_kind an_is_kind cd_is_kind ct_is_kind), sl_is_kind⟩)
    (c_is_kind : PySem.W.codeIn K cd_is_kind "is_kind" = true)
    (k_is_kind : PySem.W.keepIn K (.ref fa_is_kind) = true)
    (a_is_value : PySem.W.nsIn K mainGlobals "is_value" = some (some (.ref fa_is_value)))
    (l_is_value : K.lookup fa_is_value = some ⟨oc_is_value, od_is_value, .func (PySem.W.fnOf "is_value" "is_value" (defArgs st_is_value) (defBody st_is_value) (defScope st_is_value) .none kV_is_value dc_is_value pm_is_value an_is_value cd_is_value ct_is_value), sl_is_value⟩)
    (c_is_value : PySem.W.codeIn K cd_is_value "is_value" = true)
    (k_is_value : PySem.W.keepIn K (.ref fa_is_value) = true)
    (a_is_operation : PySem.W.nsIn K mainGlobals "is_operation" = some (some (.ref fa_is_operation)))
    (l_is_operation : K.lookup fa_is_operation = some ⟨oc_is_operation, od_is_operation, .func (PySem.W.fnOf "is_operation" "is_operation" (defArgs st_is_operation) (defBody st_is_operation) (defScope st_is_operation) .none kV_is_operation dc_is_operation pm_is_operation an_is_operation cd_is_operation ct_is_operation), sl_is_operation⟩)
    (c_is_operation : PySem.W.codeIn K cd_is_operation "is_operation" = true)
    (k_is_operation : PySem.W.keepIn K (.ref fa_is_operation) = true)
    (a_parts_of : PySem.W.nsIn K mainGlobals "parts_of" = some (some (.ref fa_parts_of)))
    (l_parts_of : K.lookup fa_parts_of = some ⟨oc_parts_of, od_parts_of, .func (PySem.W.fnOf "parts_of" "parts_of" (defArgs st_parts_of) (defBody st_parts_of) (defScope st_parts_of) .none kV_parts_of dc_parts_of pm_parts_of an_parts_of cd_parts_of ct_parts_of), sl_parts_of⟩)
    (c_parts_of : PySem.W.codeIn K cd_parts_of "parts_of" = true)
    (k_parts_of : PySem.W.keepIn K (.ref fa_parts_of) = true)
    (a_has_form : PySem.W.nsIn K mainGlobals "has_form" = some (some (.ref fa_has_form)))
    (l_has_form : K.lookup fa_has_form = some ⟨oc_has_form, od_has_form, .func (PySem.W.fnOf "has_form" "has_form" (defArgs st_has_form) (defBody st_has_form) (defScope st_has_form) .none kV_has_form dc_has_form pm_has_form an_has_form cd_has_form ct_has_form), sl_has_form⟩)
    (c_has_form : PySem.W.codeIn K cd_has_form "has_form" = true)
    (k_has_form : PySem.W.keepIn K (.ref fa_has_form) = true)
    (a_first_fault : PySem.W.nsIn K mainGlobals "first_fault" = some (some (.ref fa_first_fault)))
    (l_first_fault : K.lookup fa_first_fault = some ⟨oc_first_fault, od_first_fault, .func (PySem.W.fnOf "first_fault" "first_fault" (defArgs st_first_fault) (defBody st_first_fault) (defScope st_first_fault) .none kV_first_fault dc_first_fault pm_first_fault an_first_fault cd_first_fault ct_first_fault), sl_first_fault⟩)
    (c_first_fault : PySem.W.codeIn K cd_first_fault "first_fault" = true)
    (k_first_fault : PySem.W.keepIn K (.ref fa_first_fault) = true)
    (a_node_count : PySem.W.nsIn K mainGlobals "node_count" = some (some (.ref fa_node_count)))
    (l_node_count : K.lookup fa_node_count = some ⟨oc_node_count, od_node_count, .func (PySem.W.fnOf "node_count" "node_count" (defArgs st_node_count) (defBody st_node_count) (defScope st_node_count) .none kV_node_count dc_node_count pm_node_count an_node_count cd_node_count ct_node_count), sl_node_count⟩)
    (c_node_count : PySem.W.codeIn K cd_node_count "node_count" = true)
    (k_node_count : PySem.W.keepIn K (.ref fa_node_count) = true)
    (a_level_count : PySem.W.nsIn K mainGlobals "level_count" = some (some (.ref fa_level_count)))
    (l_level_count : K.lookup fa_level_count = some ⟨oc_level_count, od_level_count, .func (PySem.W.fnOf "level_count" "level_count" (defArgs st_level_count) (defBody st_level_count) (defScope st_level_count) .none kV_level_count dc_level_count pm_level_count an_level_count cd_level_count ct_level_count), sl_level_count⟩)
    (c_level_count : PySem.W.codeIn K cd_level_count "level_count" = true)
    (k_level_count : PySem.W.keepIn K (.ref fa_level_count) = true)
    (a_fault_in : PySem.W.nsIn K mainGlobals "fault_in" = some (some (.ref fa_fault_in)))
    (l_fault_in : K.lookup fa_fault_in = some ⟨oc_fault_in, od_fault_in, .func (PySem.W.fnOf "fault_in" "fault_in" (defArgs st_fault_in) (defBody st_fault_in) (defScope st_fault_in) .none kV_fault_in dc_fault_in pm_fault_in an_fault_in cd_fault_in ct_fault_in), sl_fault_in⟩)
    (c_fault_in : PySem.W.codeIn K cd_fault_in "fault_in" = true)
    (k_fault_in : PySem.W.keepIn K (.ref fa_fault_in) = true)
    (a_check_expression : PySem.W.nsIn K mainGlobals "check_expression" = some (some (.ref fa_check_expression)))
    (l_check_expression : K.lookup fa_check_expression = some ⟨oc_check_expression, od_check_expression, .func (PySem.W.fnOf "check_expression" "check_expression" (defArgs st_check_expression) (defBody st_check_expression) (defScope st_check_expression) .none kV_check_expression dc_check_expression pm_check_expression an_check_expression cd_check_expression ct_check_expression), sl_check_expression⟩)
    (c_check_expression : PySem.W.codeIn K cd_check_expression "check_expression" = true)
    (k_check_expression : PySem.W.keepIn K (.ref fa_check_expression) = true)
    (a_kind_of_operation : PySem.W.nsIn K mainGlobals "kind_of_operation" = some (some (.ref fa_kind_of_operation)))
    (l_kind_of_operation : K.lookup fa_kind_of_operation = some ⟨oc_kind_of_operation, od_kind_of_operation, .func (PySem.W.fnOf "kind_of_operation" "kind_of_operation" (defArgs st_kind_of_operation) (defBody st_kind_of_operation) (defScope st_kind_of_operation) .none kV_kind_of_operation dc_kind_of_operation pm_kind_of_operation an_kind_of_operation cd_kind_of_operation ct_kind_of_operation), sl_kind_of_operation⟩)
    (c_kind_of_operation : PySem.W.codeIn K cd_kind_of_operation "kind_of_operation" = true)
    (k_kind_of_operation : PySem.W.keepIn K (.ref fa_kind_of_operation) = true)
    (a_value_of_numbers : PySem.W.nsIn K mainGlobals "value_of_numbers" = some (some (.ref fa_value_of_numbers)))
    (l_value_of_numbers : K.lookup fa_value_of_numbers = some ⟨oc_value_of_numbers, od_value_of_numbers, .func (PySem.W.fnOf "value_of_numbers" "value_of_numbers" (defArgs st_value_of_numbers) (defBody st_value_of_numbers) (defScope st_value_of_numbers) .none kV_value_of_numbers dc_value_of_numbers pm_value_of_numbers an_value_of_numbers cd_value_of_numbers ct_value_of_numbers), sl_value_of_numbers⟩)
    (c_value_of_numbers : PySem.W.codeIn K cd_value_of_numbers "value_of_numbers" = true)
    (k_value_of_numbers : PySem.W.keepIn K (.ref fa_value_of_numbers) = true)
    (a_value_of_operation : PySem.W.nsIn K mainGlobals "value_of_operation" = some (some (.ref fa_value_of_operation)))
    (l_value_of_operation : K.lookup fa_value_of_operation = some ⟨oc_value_of_operation, od_value_of_operation, .func (PySem.W.fnOf "value_of_operation" "value_of_operation" (defArgs st_value_of_operation) (defBody st_value_of_operation) (defScope st_value_of_operation) .none kV_value_of_operation dc_value_of_operation pm_value_of_operation an_value_of_operation cd_value_of_operation ct_value_of_operation), sl_value_of_operation⟩)
    (c_value_of_operation : PySem.W.codeIn K cd_value_of_operation "value_of_operation" = true)
    (k_value_of_operation : PySem.W.keepIn K (.ref fa_value_of_operation) = true)
    (a_shortened : PySem.W.nsIn K mainGlobals "shortened" = some (some (.ref fa_shortened)))
    (l_shortened : K.lookup fa_shortened = some ⟨oc_shortened, od_shortened, .func (PySem.W.fnOf "shortened" "shortened" (defArgs st_shortened) (defBody st_shortened) (defScope st_shortened) .none kV_shortened dc_shortened pm_shortened an_shortened cd_shortened ct_shortened), sl_shortened⟩)
    (c_shortened : PySem.W.codeIn K cd_shortened "shortened" = true)
    (k_shortened : PySem.W.keepIn K (.ref fa_shortened) = true)
    (a_folded_of : PySem.W.nsIn K mainGlobals "folded_of" = some (some (.ref fa_folded_of)))
    (l_folded_of : K.lookup fa_folded_of = some ⟨oc_folded_of, od_folded_of, .func (PySem.W.fnOf "folded_of" "folded_of" (defArgs st_folded_of) (defBody st_folded_of) (defScope st_folded_of) .none kV_folded_of dc_folded_of pm_folded_of an_folded_of cd_folded_of ct_folded_of), sl_folded_of⟩)
    (c_folded_of : PySem.W.codeIn K cd_folded_of "folded_of" = true)
    (k_folded_of : PySem.W.keepIn K (.ref fa_folded_of) = true)
    (a_folded : PySem.W.nsIn K mainGlobals "folded" = some (some (.ref fa_folded)))
    (l_folded : K.lookup fa_folded = some ⟨oc_folded, od_folded, .func (PySem.W.fnOf "folded" "folded" (defArgs st_folded) (defBody st_folded) (defScope st_folded) .none kV_folded dc_folded pm_folded an_folded cd_folded ct_folded), sl_folded⟩)
    (c_folded : PySem.W.codeIn K cd_folded "folded" = true)
    (k_folded : PySem.W.keepIn K (.ref fa_folded) = true)
    (a_l_cell : PySem.W.nsIn K mainGlobals "_law_cell" = some (some (.ref fa_l_cell)))
    (l_l_cell : K.lookup fa_l_cell = some ⟨oc_l_cell, od_l_cell, .func (PySem.W.fnOf "_law_cell" "_law_cell" (defArgs st_l_cell) (defBody st_l_cell) (defScope st_l_cell) .none kV_l_cell dc_l_cell pm_l_cell an_l_cell cd_l_cell ct_l_cell), sl_l_cell⟩)
    (c_l_cell : PySem.W.codeIn K cd_l_cell "_law_cell" = true)
    (k_l_cell : PySem.W.keepIn K (.ref fa_l_cell) = true)
    (a_l_pool : PySem.W.nsIn K mainGlobals "_law_pool" = some (some (.ref fa_l_pool)))
    (l_l_pool : K.lookup fa_l_pool = some ⟨oc_l_pool, od_l_pool, .func (PySem.W.fnOf "_law_pool" "_law_pool" (defArgs st_l_pool) (defBody st_l_pool) (defScope st_l_pool) .none kV_l_pool dc_l_pool pm_l_pool an_l_pool cd_l_pool ct_l_pool), sl_l_pool⟩)
    (c_l_pool : PySem.W.codeIn K cd_l_pool "_law_pool" = true)
    (k_l_pool : PySem.W.keepIn K (.ref fa_l_pool) = true)
    (a_l_draw : PySem.W.nsIn K mainGlobals "_law_draw" = some (some (.ref fa_l_draw)))
    (l_l_draw : K.lookup fa_l_draw = some ⟨oc_l_draw, od_l_draw, .func (PySem.W.fnOf "_law_draw" "_law_draw" (defArgs st_l_draw) (defBody st_l_draw) (defScope st_l_draw) .none kV_l_draw dc_l_draw pm_l_draw an_l_draw cd_l_draw ct_l_draw), sl_l_draw⟩)
    (c_l_draw : PySem.W.codeIn K cd_l_draw "_law_draw" = true)
    (k_l_draw : PySem.W.keepIn K (.ref fa_l_draw) = true)
    (a_l_calls : PySem.W.nsIn K mainGlobals "_law_calls" = some (some (.ref fa_l_calls)))
    (l_l_calls : K.lookup fa_l_calls = some ⟨oc_l_calls, od_l_calls, .func (PySem.W.fnOf "_law_calls" "_law_calls" (defArgs st_l_calls) (defBody st_l_calls) (defScope st_l_calls) .none kV_l_calls dc_l_calls pm_l_calls an_l_calls cd_l_calls ct_l_calls), sl_l_calls⟩)
    (c_l_calls : PySem.W.codeIn K cd_l_calls "_law_calls" = true)
    (k_l_calls : PySem.W.keepIn K (.ref fa_l_calls) = true)
    (a_l_worth : PySem.W.nsIn K mainGlobals "_law_worth" = some (some (.ref fa_l_worth)))
    (l_l_worth : K.lookup fa_l_worth = some ⟨oc_l_worth, od_l_worth, .func (PySem.W.fnOf "_law_worth" "_law_worth" (defArgs st_l_worth) (defBody st_l_worth) (defScope st_l_worth) .none kV_l_worth dc_l_worth pm_l_worth an_l_worth cd_l_worth ct_l_worth), sl_l_worth⟩)
    (c_l_worth : PySem.W.codeIn K cd_l_worth "_law_worth" = true)
    (k_l_worth : PySem.W.keepIn K (.ref fa_l_worth) = true)
    (a_l_heads : PySem.W.nsIn K mainGlobals "_law_heads" = some (some (.ref fa_l_heads)))
    (l_l_heads : K.lookup fa_l_heads = some ⟨oc_l_heads, od_l_heads, .func (PySem.W.fnOf "_law_heads" "_law_heads" (defArgs st_l_heads) (defBody st_l_heads) (defScope st_l_heads) .none kV_l_heads dc_l_heads pm_l_heads an_l_heads cd_l_heads ct_l_heads), sl_l_heads⟩)
    (c_l_heads : PySem.W.codeIn K cd_l_heads "_law_heads" = true)
    (k_l_heads : PySem.W.keepIn K (.ref fa_l_heads) = true)
    (a_l_leaf : PySem.W.nsIn K mainGlobals "_law_leaf" = some (some (.ref fa_l_leaf)))
    (l_l_leaf : K.lookup fa_l_leaf = some ⟨oc_l_leaf, od_l_leaf, .func (PySem.W.fnOf "_law_leaf" "_law_leaf" (defArgs st_l_leaf) (defBody st_l_leaf) (defScope st_l_leaf) .none kV_l_leaf dc_l_leaf pm_l_leaf an_l_leaf cd_l_leaf ct_l_leaf), sl_l_leaf⟩)
    (c_l_leaf : PySem.W.codeIn K cd_l_leaf "_law_leaf" = true)
    (k_l_leaf : PySem.W.keepIn K (.ref fa_l_leaf) = true)
    (a_l_tree : PySem.W.nsIn K mainGlobals "_law_tree" = some (some (.ref fa_l_tree)))
    (l_l_tree : K.lookup fa_l_tree = some ⟨oc_l_tree, od_l_tree, .func (PySem.W.fnOf "_law_tree" "_law_tree" (defArgs st_l_tree) (defBody st_l_tree) (defScope st_l_tree) .none kV_l_tree dc_l_tree pm_l_tree an_l_tree cd_l_tree ct_l_tree), sl_l_tree⟩)
    (c_l_tree : PySem.W.codeIn K cd_l_tree "_law_tree" = true)
    (k_l_tree : PySem.W.keepIn K (.ref fa_l_tree) = true)
    (a_l_pair : PySem.W.nsIn K mainGlobals "_law_pair" = some (some (.ref fa_l_pair)))
    (l_l_pair : K.lookup fa_l_pair = some ⟨oc_l_pair, od_l_pair, .func (PySem.W.fnOf "_law_pair" "_law_pair" (defArgs st_l_pair) (defBody st_l_pair) (defScope st_l_pair) .none kV_l_pair dc_l_pair pm_l_pair an_l_pair cd_l_pair ct_l_pair), sl_l_pair⟩)
    (c_l_pair : PySem.W.codeIn K cd_l_pair "_law_pair" = true)
    (k_l_pair : PySem.W.keepIn K (.ref fa_l_pair) = true)
    (a_l_test : PySem.W.nsIn K mainGlobals "_law_test" = some (some (.ref fa_l_test)))
    (l_l_test : K.lookup fa_l_test = some ⟨oc_l_test, od_l_test, .func (PySem.W.fnOf "_law_test" "_law_test" (defArgs st_l_test) (defBody st_l_test) (defScope st_l_test) .none kV_l_test dc_l_test pm_l_test an_l_test cd_l_test ct_l_test), sl_l_test⟩)
    (c_l_test : PySem.W.codeIn K cd_l_test "_law_test" = true)
    (k_l_test : PySem.W.keepIn K (.ref fa_l_test) = true)
    (a_l_counted : PySem.W.nsIn K mainGlobals "_law_counted" = some (some (.ref fa_l_counted)))
    (l_l_counted : K.lookup fa_l_counted = some ⟨oc_l_counted, od_l_counted, .func (PySem.W.fnOf "_law_counted" "_law_counted" (defArgs st_l_counted) (defBody st_l_counted) (defScope st_l_counted) .none kV_l_counted dc_l_counted pm_l_counted an_l_counted cd_l_counted ct_l_counted), sl_l_counted⟩)
    (c_l_counted : PySem.W.codeIn K cd_l_counted "_law_counted" = true)
    (k_l_counted : PySem.W.keepIn K (.ref fa_l_counted) = true)
    (a_l_value : PySem.W.nsIn K mainGlobals "_law_value" = some (some (.ref fa_l_value)))
    (l_l_value : K.lookup fa_l_value = some ⟨oc_l_value, od_l_value, .func (PySem.W.fnOf "_law_value" "_law_value" (defArgs st_l_value) (defBody st_l_value) (defScope st_l_value) .none kV_l_value dc_l_value pm_l_value an_l_value cd_l_value ct_l_value), sl_l_value⟩)
    (c_l_value : PySem.W.codeIn K cd_l_value "_law_value" = true)
    (k_l_value : PySem.W.keepIn K (.ref fa_l_value) = true)
    (a_l_size : PySem.W.nsIn K mainGlobals "_law_size" = some (some (.ref fa_l_size)))
    (l_l_size : K.lookup fa_l_size = some ⟨oc_l_size, od_l_size, .func (PySem.W.fnOf "_law_size" "_law_size" (defArgs st_l_size) (defBody st_l_size) (defScope st_l_size) .none kV_l_size dc_l_size pm_l_size an_l_size cd_l_size ct_l_size), sl_l_size⟩)
    (c_l_size : PySem.W.codeIn K cd_l_size "_law_size" = true)
    (k_l_size : PySem.W.keepIn K (.ref fa_l_size) = true)
    (a_l_fit : PySem.W.nsIn K mainGlobals "_law_fit" = some (some (.ref fa_l_fit)))
    (l_l_fit : K.lookup fa_l_fit = some ⟨oc_l_fit, od_l_fit, .func (PySem.W.fnOf "_law_fit" "_law_fit" (defArgs st_l_fit) (defBody st_l_fit) (defScope st_l_fit) .none kV_l_fit dc_l_fit pm_l_fit an_l_fit cd_l_fit ct_l_fit), sl_l_fit⟩)
    (c_l_fit : PySem.W.codeIn K cd_l_fit "_law_fit" = true)
    (k_l_fit : PySem.W.keepIn K (.ref fa_l_fit) = true)
    (a_l_wanted : PySem.W.nsIn K mainGlobals "_law_wanted" = some (some (.ref fa_l_wanted)))
    (l_l_wanted : K.lookup fa_l_wanted = some ⟨oc_l_wanted, od_l_wanted, .func (PySem.W.fnOf "_law_wanted" "_law_wanted" (defArgs st_l_wanted) (defBody st_l_wanted) (defScope st_l_wanted) .none kV_l_wanted dc_l_wanted pm_l_wanted an_l_wanted cd_l_wanted ct_l_wanted), sl_l_wanted⟩)
    (c_l_wanted : PySem.W.codeIn K cd_l_wanted "_law_wanted" = true)
    (k_l_wanted : PySem.W.keepIn K (.ref fa_l_wanted) = true)
    (a_l_swapped : PySem.W.nsIn K mainGlobals "_law_swapped" = some (some (.ref fa_l_swapped)))
    (l_l_swapped : K.lookup fa_l_swapped = some ⟨oc_l_swapped, od_l_swapped, .func (PySem.W.fnOf "_law_swapped" "_law_swapped" (defArgs st_l_swapped) (defBody st_l_swapped) (defScope st_l_swapped) .none kV_l_swapped dc_l_swapped pm_l_swapped an_l_swapped cd_l_swapped ct_l_swapped), sl_l_swapped⟩)
    (c_l_swapped : PySem.W.codeIn K cd_l_swapped "_law_swapped" = true)
    (k_l_swapped : PySem.W.keepIn K (.ref fa_l_swapped) = true)
    (a_l_folded : PySem.W.nsIn K mainGlobals "_law_folded" = some (some (.ref fa_l_folded)))
    (l_l_folded : K.lookup fa_l_folded = some ⟨oc_l_folded, od_l_folded, .func (PySem.W.fnOf "_law_folded" "_law_folded" (defArgs st_l_folded) (defBody st_l_folded) (defScope st_l_folded) .none kV_l_folded dc_l_folded pm_l_folded an_l_folded cd_l_folded ct_l_folded), sl_l_folded⟩)
    (c_l_folded : PySem.W.codeIn K cd_l_folded "_law_folded" = true)
    (k_l_folded : PySem.W.keepIn K (.ref fa_l_folded) = true)
    (a_l_filled : PySem.W.nsIn K mainGlobals "_law_filled" = some (some (.ref fa_l_filled)))
    (l_l_filled : K.lookup fa_l_filled = some ⟨oc_l_filled, od_l_filled, .func (PySem.W.fnOf "_law_filled" "_law_filled" (defArgs st_l_filled) (defBody st_l_filled) (defScope st_l_filled) .none kV_l_filled dc_l_filled pm_l_filled an_l_filled cd_l_filled ct_l_filled), sl_l_filled⟩)
    (c_l_filled : PySem.W.codeIn K cd_l_filled "_law_filled" = true)
    (k_l_filled : PySem.W.keepIn K (.ref fa_l_filled) = true)
    (a_l_told_right : PySem.W.nsIn K mainGlobals "_law_told_right" = some (some (.ref fa_l_told_right)))
    (l_l_told_right : K.lookup fa_l_told_right = some ⟨oc_l_told_right, od_l_told_right, .func (PySem.W.fnOf "_law_told_right" "_law_told_right" (defArgs st_l_told_right) (defBody st_l_told_right) (defScope st_l_told_right) .none kV_l_told_right dc_l_told_right pm_l_told_right an_l_told_right cd_l_told_right ct_l_told_right), sl_l_told_right⟩)
    (c_l_told_right : PySem.W.codeIn K cd_l_told_right "_law_told_right" = true)
    (k_l_told_right : PySem.W.keepIn K (.ref fa_l_told_right) = true)
    (a_l_right : PySem.W.nsIn K mainGlobals "_law_right" = some (some (.ref fa_l_right)))
    (l_l_right : K.lookup fa_l_right = some ⟨oc_l_right, od_l_right, .func (PySem.W.fnOf "_law_right" "_law_right" (defArgs st_l_right) (defBody st_l_right) (defScope st_l_right) .none kV_l_right dc_l_right pm_l_right an_l_right cd_l_right ct_l_right), sl_l_right⟩)
    (c_l_right : PySem.W.codeIn K cd_l_right "_law_right" = true)
    (k_l_right : PySem.W.keepIn K (.ref fa_l_right) = true)
    (a_law : PySem.W.nsIn K mainGlobals "law" = some (some (.ref fa_law)))
    (l_law : K.lookup fa_law = some ⟨oc_law, od_law, .func (PySem.W.fnOf "law" "law" (defArgs st_law) (defBody st_law) (defScope st_law) .none kV_law dc_law pm_law an_law cd_law ct_law), sl_law⟩)
    (c_law : PySem.W.codeIn K cd_law "law" = true)
    (k_law : PySem.W.keepIn K (.ref fa_law) = true)
    (g_LETTERS : PySem.W.nsIn K mainGlobals "LETTERS" = some (some (.str "abcdefghijklmnopqrstuvwxyz" tk_LETTERS)))
    (g_MOST_LETTERS : PySem.W.nsIn K mainGlobals "MOST_LETTERS" = some (some (.int 8 tk_MOST_LETTERS)))
    (g_MOST_NODES : PySem.W.nsIn K mainGlobals "MOST_NODES" = some (some (.int 40 tk_MOST_NODES)))
    (g_MOST_LEVELS : PySem.W.nsIn K mainGlobals "MOST_LEVELS" = some (some (.int 8 tk_MOST_LEVELS)))
    (g_KINDS : PySem.W.nsIn K mainGlobals "KINDS" = some (some (.ref ad_KINDS)))
    (g2_KINDS : K.lookup ad_KINDS = some ⟨.type "tuple", none, .seq #[.str "int" tk_KINDS_0, .str "text" tk_KINDS_1, .str "bool" tk_KINDS_2] no_KINDS, sl_KINDS⟩)
    (g_NUMBERS : PySem.W.nsIn K mainGlobals "NUMBERS" = some (some (.ref ad_NUMBERS)))
    (g2_NUMBERS : K.lookup ad_NUMBERS = some ⟨.type "tuple", none, .seq #[.str "add" tk_NUMBERS_0, .str "sub" tk_NUMBERS_1, .str "mul" tk_NUMBERS_2, .str "div" tk_NUMBERS_3, .str "mod" tk_NUMBERS_4] no_NUMBERS, sl_NUMBERS⟩)
    (g_COMPARISONS : PySem.W.nsIn K mainGlobals "COMPARISONS" = some (some (.ref ad_COMPARISONS)))
    (g2_COMPARISONS : K.lookup ad_COMPARISONS = some ⟨.type "tuple", none, .seq #[.str "eq" tk_COMPARISONS_0, .str "lt" tk_COMPARISONS_1, .str "le" tk_COMPARISONS_2] no_COMPARISONS, sl_COMPARISONS⟩)
    (g_PARTS : PySem.W.nsIn K mainGlobals "PARTS" = some (some (.ref ad_PARTS)))
    (g2_PARTS : K.lookup ad_PARTS = some ⟨.type "dict", none, .dict #[⟨PyData.keyHash w.params "add", .str "add" tk_PARTS_0, .int 2 tv_PARTS_0⟩, ⟨PyData.keyHash w.params "sub", .str "sub" tk_PARTS_1, .int 2 tv_PARTS_1⟩, ⟨PyData.keyHash w.params "mul", .str "mul" tk_PARTS_2, .int 2 tv_PARTS_2⟩, ⟨PyData.keyHash w.params "div", .str "div" tk_PARTS_3, .int 2 tv_PARTS_3⟩, ⟨PyData.keyHash w.params "mod", .str "mod" tk_PARTS_4, .int 2 tv_PARTS_4⟩, ⟨PyData.keyHash w.params "glue", .str "glue" tk_PARTS_5, .int 2 tv_PARTS_5⟩, ⟨PyData.keyHash w.params "size", .str "size" tk_PARTS_6, .int 1 tv_PARTS_6⟩, ⟨PyData.keyHash w.params "eq", .str "eq" tk_PARTS_7, .int 2 tv_PARTS_7⟩, ⟨PyData.keyHash w.params "lt", .str "lt" tk_PARTS_8, .int 2 tv_PARTS_8⟩, ⟨PyData.keyHash w.params "le", .str "le" tk_PARTS_9, .int 2 tv_PARTS_9⟩, ⟨PyData.keyHash w.params "and", .str "and" tk_PARTS_10, .int 2 tv_PARTS_10⟩, ⟨PyData.keyHash w.params "or", .str "or" tk_PARTS_11, .int 2 tv_PARTS_11⟩, ⟨PyData.keyHash w.params "not", .str "not" tk_PARTS_12, .int 1 tv_PARTS_12⟩, ⟨PyData.keyHash w.params "there", .str "there" tk_PARTS_13, .int 1 tv_PARTS_13⟩, ⟨PyData.keyHash w.params "if", .str "if" tk_PARTS_14, .int 3 tv_PARTS_14⟩, ⟨PyData.keyHash w.params "else", .str "else" tk_PARTS_15, .int 2 tv_PARTS_15⟩] no_PARTS, #[]⟩)
    (g3_PARTS : (ad_PARTS == sysModules) = false)
    (z_len : PySem.W.nsIn K mainGlobals "len" = some none)
    (z_all : PySem.W.nsIn K mainGlobals "all" = some none)
    (z_any : PySem.W.nsIn K mainGlobals "any" = some none)
    (z_max : PySem.W.nsIn K mainGlobals "max" = some none)
    (z_min : PySem.W.nsIn K mainGlobals "min" = some none)
    (z_abs : PySem.W.nsIn K mainGlobals "abs" = some none)
    (z_divmod : PySem.W.nsIn K mainGlobals "divmod" = some none)
    (z_isinstance : PySem.W.nsIn K mainGlobals "isinstance" = some none)
    (z_range : PySem.W.nsIn K mainGlobals "range" = some none)
    (z_enumerate : PySem.W.nsIn K mainGlobals "enumerate" = some none)
    (z_int : PySem.W.nsIn K mainGlobals "int" = some none)
    (z_bool : PySem.W.nsIn K mainGlobals "bool" = some none)
    (z_str : PySem.W.nsIn K mainGlobals "str" = some none)
    (z_tuple : PySem.W.nsIn K mainGlobals "tuple" = some none)
    (z_list : PySem.W.nsIn K mainGlobals "list" = some none)
    (z_dict : PySem.W.nsIn K mainGlobals "dict" = some none)
    (z_sum : PySem.W.nsIn K mainGlobals "sum" = some none)
    (z_sorted : PySem.W.nsIn K mainGlobals "sorted" = some none)
    (z_repr : PySem.W.nsIn K mainGlobals "repr" = some none)
    (z_zip : PySem.W.nsIn K mainGlobals "zip" = some none) :
    ∃ fd : FuncData, (∀ (s : Shared) (v : Value), BindsTo s fd ⟨[v], []⟩ [("_law_script", v)]) ∧ ∀ base : Heap, K.In base → base.Ns mainGlobals mg → FnG l.prog w K mg base 48 fa fd ["_law_script"] (spLaw K) := by
  have e := hfa.symm.trans (PySem.W.mg_of X G a_law)
  cases e
  have FN_is_integer := fun_mk (st := st_is_integer) l_is_integer c_is_integer k_is_integer
  have b_is_integer := FN_is_integer.binds (ps := ["value"]) fun _ _ _ _ _ _ us hl => match us, hl with | [_], _ => rfl
  have FN_is_name := fun_mk (st := st_is_name) l_is_name c_is_name k_is_name
  have b_is_name := FN_is_name.binds (ps := ["value"]) fun _ _ _ _ _ _ us hl => match us, hl with | [_], _ => rfl
  have FN_is_kind := fun_mk (st := st_is_kind) l_is_kind c_is_kind k_is_kind
  have b_is_kind := FN_is_kind.binds (ps := ["value"]) fun _ _ _ _ _ _ us hl => match us, hl with | [_], _ => rfl
  have FN_is_value := fun_mk (st := st_is_value) l_is_value c_is_value k_is_value
  have b_is_value := FN_is_value.binds (ps := ["kind", "value"]) fun _ _ _ _ _ _ us hl => match us, hl with | [_, _], _ => rfl
  have FN_is_operation := fun_mk (st := st_is_operation) l_is_operation c_is_operation k_is_operation
  have b_is_operation := FN_is_operation.binds (ps := ["expression"]) fun _ _ _ _ _ _ us hl => match us, hl with | [_], _ => rfl
  have FN_parts_of := fun_mk (st := st_parts_of) l_parts_of c_parts_of k_parts_of
  have b_parts_of := FN_parts_of.binds (ps := ["expression"]) fun _ _ _ _ _ _ us hl => match us, hl with | [_], _ => rfl
  have FN_has_form := fun_mk (st := st_has_form) l_has_form c_has_form k_has_form
  have b_has_form := FN_has_form.binds (ps := ["value"]) fun _ _ _ _ _ _ us hl => match us, hl with | [_], _ => rfl
  have FN_first_fault := fun_mk (st := st_first_fault) l_first_fault c_first_fault k_first_fault
  have b_first_fault := FN_first_fault.binds (ps := ["value", "path"]) fun _ _ _ _ _ _ us hl => match us, hl with | [_, _], _ => rfl
  have FN_node_count := fun_mk (st := st_node_count) l_node_count c_node_count k_node_count
  have b_node_count := FN_node_count.binds (ps := ["expression"]) fun _ _ _ _ _ _ us hl => match us, hl with | [_], _ => rfl
  have FN_level_count := fun_mk (st := st_level_count) l_level_count c_level_count k_level_count
  have b_level_count := FN_level_count.binds (ps := ["expression"]) fun _ _ _ _ _ _ us hl => match us, hl with | [_], _ => rfl
  have FN_fault_in := fun_mk (st := st_fault_in) l_fault_in c_fault_in k_fault_in
  have b_fault_in := FN_fault_in.binds (ps := ["expression"]) fun _ _ _ _ _ _ us hl => match us, hl with | [_], _ => rfl
  have FN_check_expression := fun_mk (st := st_check_expression) l_check_expression c_check_expression k_check_expression
  have b_check_expression := FN_check_expression.binds (ps := ["expression"]) fun _ _ _ _ _ _ us hl => match us, hl with | [_], _ => rfl
  have FN_kind_of_operation := fun_mk (st := st_kind_of_operation) l_kind_of_operation c_kind_of_operation k_kind_of_operation
  have b_kind_of_operation := FN_kind_of_operation.binds (ps := ["word", "kinds"]) fun _ _ _ _ _ _ us hl => match us, hl with | [_, _], _ => rfl
  have FN_value_of_numbers := fun_mk (st := st_value_of_numbers) l_value_of_numbers c_value_of_numbers k_value_of_numbers
  have b_value_of_numbers := FN_value_of_numbers.binds (ps := ["word", "one", "other"]) fun _ _ _ _ _ _ us hl => match us, hl with | [_, _, _], _ => rfl
  have FN_value_of_operation := fun_mk (st := st_value_of_operation) l_value_of_operation c_value_of_operation k_value_of_operation
  have b_value_of_operation := FN_value_of_operation.binds (ps := ["word", "values"]) fun _ _ _ _ _ _ us hl => match us, hl with | [_, _], _ => rfl
  have FN_shortened := fun_mk (st := st_shortened) l_shortened c_shortened k_shortened
  have b_shortened := FN_shortened.binds (ps := ["word", "parts"]) fun _ _ _ _ _ _ us hl => match us, hl with | [_, _], _ => rfl
  have FN_folded_of := fun_mk (st := st_folded_of) l_folded_of c_folded_of k_folded_of
  have b_folded_of := FN_folded_of.binds (ps := ["expression"]) fun _ _ _ _ _ _ us hl => match us, hl with | [_], _ => rfl
  have FN_folded := fun_mk (st := st_folded) l_folded c_folded k_folded
  have b_folded := FN_folded.binds (ps := ["expression"]) fun _ _ _ _ _ _ us hl => match us, hl with | [_], _ => rfl
  have FN_l_cell := fun_mk (st := st_l_cell) l_l_cell c_l_cell k_l_cell
  have b_l_cell := FN_l_cell.binds (ps := ["_law_script", "_law_k"]) fun _ _ _ _ _ _ us hl => match us, hl with | [_, _], _ => rfl
  have FN_l_pool := fun_mk (st := st_l_pool) l_l_pool c_l_pool k_l_pool
  have b_l_pool := FN_l_pool.binds (ps := ["_law_cell_here"]) fun _ _ _ _ _ _ us hl => match us, hl with | [_], _ => rfl
  have FN_l_draw := fun_mk (st := st_l_draw) l_l_draw c_l_draw k_l_draw
  have b_l_draw := FN_l_draw.binds (ps := ["_law_pool_here", "_law_many"]) fun _ _ _ _ _ _ us hl => match us, hl with | [_, _], _ => rfl
  have FN_l_calls := fun_mk (st := st_l_calls) l_l_calls c_l_calls k_l_calls
  have b_l_calls := FN_l_calls.binds (ps := ["_law_pool_here", "_law_many"]) fun _ _ _ _ _ _ us hl => match us, hl with | [_, _], _ => rfl
  have FN_l_worth := fun_mk (st := st_l_worth) l_l_worth c_l_worth k_l_worth
  have b_l_worth := FN_l_worth.binds (ps := ["_law_pool_here", "_law_kind_here"]) fun _ _ _ _ _ _ us hl => match us, hl with | [_, _], _ => rfl
  have FN_l_heads := fun_mk (st := st_l_heads) l_l_heads c_l_heads k_l_heads
  have b_l_heads := FN_l_heads.binds (ps := ["_law_pool_here", "_law_calls_here"]) fun _ _ _ _ _ _ us hl => match us, hl with | [_, _], _ => rfl
  have FN_l_leaf := fun_mk (st := st_l_leaf) l_l_leaf c_l_leaf k_l_leaf
  have b_l_leaf := FN_l_leaf.binds (ps := ["_law_pool_here", "_law_heads_here", "_law_kind_here"]) fun _ _ _ _ _ _ us hl => match us, hl with | [_, _, _], _ => rfl
  have FN_l_tree := fun_mk (st := st_l_tree) l_l_tree c_l_tree k_l_tree
  have b_l_tree := FN_l_tree.binds (ps := ["_law_pool_here", "_law_heads_here", "_law_kind_here", "_law_deep"]) fun _ _ _ _ _ _ us hl => match us, hl with | [_, _, _, _], _ => rfl
  have FN_l_pair := fun_mk (st := st_l_pair) l_l_pair c_l_pair k_l_pair
  have b_l_pair := FN_l_pair.binds (ps := ["_law_pool_here", "_law_heads_here", "_law_word", "_law_kind_here", "_law_deep"]) fun _ _ _ _ _ _ us hl => match us, hl with | [_, _, _, _, _], _ => rfl
  have FN_l_test := fun_mk (st := st_l_test) l_l_test c_l_test k_l_test
  have b_l_test := FN_l_test.binds (ps := ["_law_pool_here", "_law_heads_here", "_law_deep", "_law_way"]) fun _ _ _ _ _ _ us hl => match us, hl with | [_, _, _, _], _ => rfl
  have FN_l_counted := fun_mk (st := st_l_counted) l_l_counted c_l_counted k_l_counted
  have b_l_counted := FN_l_counted.binds (ps := ["_law_word", "_law_x", "_law_y"]) fun _ _ _ _ _ _ us hl => match us, hl with | [_, _, _], _ => rfl
  have FN_l_value := fun_mk (st := st_l_value) l_l_value c_l_value k_l_value
  have b_l_value := FN_l_value.binds (ps := ["_law_tree_here", "_law_places", "_law_line_here"]) fun _ _ _ _ _ _ us hl => match us, hl with | [_, _, _], _ => rfl
  have FN_l_size := fun_mk (st := st_l_size) l_l_size c_l_size k_l_size
  have b_l_size := FN_l_size.binds (ps := ["_law_tree_here"]) fun _ _ _ _ _ _ us hl => match us, hl with | [_], _ => rfl
  have FN_l_fit := fun_mk (st := st_l_fit) l_l_fit c_l_fit k_l_fit
  have b_l_fit := FN_l_fit.binds (ps := ["_law_pool_here", "_law_heads_here", "_law_kind_here", "_law_deep"]) fun _ _ _ _ _ _ us hl => match us, hl with | [_, _, _, _], _ => rfl
  have FN_l_wanted := fun_mk (st := st_l_wanted) l_l_wanted c_l_wanted k_l_wanted
  have b_l_wanted := FN_l_wanted.binds (ps := ["_law_word", "_law_kinds"]) fun _ _ _ _ _ _ us hl => match us, hl with | [_, _], _ => rfl
  have FN_l_swapped := fun_mk (st := st_l_swapped) l_l_swapped c_l_swapped k_l_swapped
  have b_l_swapped := FN_l_swapped.binds (ps := ["_law_pool_here", "_law_heads_here", "_law_tree_here", "_law_deep"]) fun _ _ _ _ _ _ us hl => match us, hl with | [_, _, _, _], _ => rfl
  have FN_l_folded := fun_mk (st := st_l_folded) l_l_folded c_l_folded k_l_folded
  have b_l_folded := FN_l_folded.binds (ps := ["_law_tree_here"]) fun _ _ _ _ _ _ us hl => match us, hl with | [_], _ => rfl
  have FN_l_filled := fun_mk (st := st_l_filled) l_l_filled c_l_filled k_l_filled
  have b_l_filled := FN_l_filled.binds (ps := ["_law_pool_here", "_law_tree_here", "_law_kinds_here"]) fun _ _ _ _ _ _ us hl => match us, hl with | [_, _, _], _ => rfl
  have FN_l_told_right := fun_mk (st := st_l_told_right) l_l_told_right c_l_told_right k_l_told_right
  have b_l_told_right := FN_l_told_right.binds (ps := ["_law_tree_here"]) fun _ _ _ _ _ _ us hl => match us, hl with | [_], _ => rfl
  have FN_l_right := fun_mk (st := st_l_right) l_l_right c_l_right k_l_right
  have b_l_right := FN_l_right.binds (ps := ["_law_pool_here"]) fun _ _ _ _ _ _ us hl => match us, hl with | [_], _ => rfl
  have FN_law := fun_mk (st := st_law) l_law c_law k_law
  have B : Bt mg := ⟨PySem.W.mg_none_of X G z_len, PySem.W.mg_none_of X G z_all, PySem.W.mg_none_of X G z_any, PySem.W.mg_none_of X G z_max, PySem.W.mg_none_of X G z_min, PySem.W.mg_none_of X G z_abs, PySem.W.mg_none_of X G z_divmod, PySem.W.mg_none_of X G z_isinstance, PySem.W.mg_none_of X G z_range, PySem.W.mg_none_of X G z_enumerate, PySem.W.mg_none_of X G z_int, PySem.W.mg_none_of X G z_bool, PySem.W.mg_none_of X G z_str, PySem.W.mg_none_of X G z_tuple, PySem.W.mg_none_of X G z_list⟩
  have BX : Bx mg := ⟨PySem.W.mg_none_of X G z_dict, PySem.W.mg_none_of X G z_sum, PySem.W.mg_none_of X G z_sorted, PySem.W.mg_none_of X G z_repr, PySem.W.mg_none_of X G z_zip⟩
  have G_LETTERS : Gc K mg "LETTERS" (.str "abcdefghijklmnopqrstuvwxyz") := ⟨.str _, _, PySem.W.mg_of X G g_LETTERS, ⟨_, rfl⟩, fun _ => .str _⟩
  have G_MOST_LETTERS : Gc K mg "MOST_LETTERS" (.int 8) := ⟨.int 8, _, PySem.W.mg_of X G g_MOST_LETTERS, ⟨_, rfl⟩, fun _ => .int _⟩
  have G_MOST_NODES : Gc K mg "MOST_NODES" (.int 40) := ⟨.int 40, _, PySem.W.mg_of X G g_MOST_NODES, ⟨_, rfl⟩, fun _ => .int _⟩
  have G_MOST_LEVELS : Gc K mg "MOST_LEVELS" (.int 8) := ⟨.int 8, _, PySem.W.mg_of X G g_MOST_LEVELS, ⟨_, rfl⟩, fun _ => .int _⟩
  have G_KINDS : Gc K mg "KINDS" (.tup [.str "int", .str "text", .str "bool"]) := ⟨.ref ad_KINDS, _, PySem.W.mg_of X G g_KINDS, rfl, fun G => .tup (vs := [.str "int", .str "text", .str "bool"]) (.inr ⟨_, _, _, g2_KINDS, rfl, rfl, rfl, sl_le (by simp), (.cons ⟨_, rfl⟩ (.cons ⟨_, rfl⟩ (.cons ⟨_, rfl⟩ .nil)))⟩) (.cons (.str _) (.cons (.str _) (.cons (.str _) .nil)))⟩
  have G_NUMBERS : Gc K mg "NUMBERS" (.tup [.str "add", .str "sub", .str "mul", .str "div", .str "mod"]) := ⟨.ref ad_NUMBERS, _, PySem.W.mg_of X G g_NUMBERS, rfl, fun G => .tup (vs := [.str "add", .str "sub", .str "mul", .str "div", .str "mod"]) (.inr ⟨_, _, _, g2_NUMBERS, rfl, rfl, rfl, sl_le (by simp), (.cons ⟨_, rfl⟩ (.cons ⟨_, rfl⟩ (.cons ⟨_, rfl⟩ (.cons ⟨_, rfl⟩ (.cons ⟨_, rfl⟩ .nil)))))⟩) (.cons (.str _) (.cons (.str _) (.cons (.str _) (.cons (.str _) (.cons (.str _) .nil)))))⟩
  have G_COMPARISONS : Gc K mg "COMPARISONS" (.tup [.str "eq", .str "lt", .str "le"]) := ⟨.ref ad_COMPARISONS, _, PySem.W.mg_of X G g_COMPARISONS, rfl, fun G => .tup (vs := [.str "eq", .str "lt", .str "le"]) (.inr ⟨_, _, _, g2_COMPARISONS, rfl, rfl, rfl, sl_le (by simp), (.cons ⟨_, rfl⟩ (.cons ⟨_, rfl⟩ (.cons ⟨_, rfl⟩ .nil)))⟩) (.cons (.str _) (.cons (.str _) (.cons (.str _) .nil)))⟩
  have K_PARTS : Kd w K mg "PARTS" [("add", .int 2), ("sub", .int 2), ("mul", .int 2), ("div", .int 2), ("mod", .int 2), ("glue", .int 2), ("size", .int 1), ("eq", .int 2), ("lt", .int 2), ("le", .int 2), ("and", .int 2), ("or", .int 2), ("not", .int 1), ("there", .int 1), ("if", .int 3), ("else", .int 2)] := kd_mk [("add", tk_PARTS_0, 2, tv_PARTS_0), ("sub", tk_PARTS_1, 2, tv_PARTS_1), ("mul", tk_PARTS_2, 2, tv_PARTS_2), ("div", tk_PARTS_3, 2, tv_PARTS_3), ("mod", tk_PARTS_4, 2, tv_PARTS_4), ("glue", tk_PARTS_5, 2, tv_PARTS_5), ("size", tk_PARTS_6, 1, tv_PARTS_6), ("eq", tk_PARTS_7, 2, tv_PARTS_7), ("lt", tk_PARTS_8, 2, tv_PARTS_8), ("le", tk_PARTS_9, 2, tv_PARTS_9), ("and", tk_PARTS_10, 2, tv_PARTS_10), ("or", tk_PARTS_11, 2, tv_PARTS_11), ("not", tk_PARTS_12, 1, tv_PARTS_12), ("there", tk_PARTS_13, 1, tv_PARTS_13), ("if", tk_PARTS_14, 3, tv_PARTS_14), ("else", tk_PARTS_15, 2, tv_PARTS_15)] (PySem.W.mg_of X G g_PARTS) g2_PARTS g3_PARTS
  refine ⟨PySem.W.fnOf "law" "law" (defArgs st_law) (defBody st_law) (defScope st_law) .none kV_law dc_law pm_law an_law cd_law ct_law, fun s v => .of_eq rfl, fun base _ _ => ?_⟩
  have F_is_integer : Df l.prog w K mg base (1) "is_integer" 1 f_is_integer := ⟨_, _, _, PySem.W.mg_of X G a_is_integer, k_is_integer, b_is_integer, rfl, ok_is_integer  FN_is_integer B BX ⟩
  have F_is_name : Df l.prog w K mg base (1) "is_name" 1 f_is_name := ⟨_, _, _, PySem.W.mg_of X G a_is_name, k_is_name, b_is_name, rfl, ok_is_name  FN_is_name B BX G_LETTERS G_MOST_LETTERS⟩
  have F_is_kind : Df l.prog w K mg base (1) "is_kind" 1 f_is_kind := ⟨_, _, _, PySem.W.mg_of X G a_is_kind, k_is_kind, b_is_kind, rfl, ok_is_kind  FN_is_kind B BX G_KINDS⟩
  have F_is_value : Df l.prog w K mg base (2) "is_value" 2 f_is_value := ⟨_, _, _, PySem.W.mg_of X G a_is_value, k_is_value, b_is_value, rfl, ok_is_value  FN_is_value B BX F_is_integer⟩
  have F_is_operation : Df l.prog w K mg base (1) "is_operation" 1 f_is_operation := ⟨_, _, _, PySem.W.mg_of X G a_is_operation, k_is_operation, b_is_operation, rfl, ok_is_operation  FN_is_operation B BX ⟩
  have F_parts_of : Df l.prog w K mg base (2) "parts_of" 1 f_parts_of := ⟨_, _, _, PySem.W.mg_of X G a_parts_of, k_parts_of, b_parts_of, rfl, ok_parts_of  FN_parts_of B BX F_is_operation⟩
  have F_has_form : Df l.prog w K mg base (3) "has_form" 1 f_has_form := ⟨_, _, _, PySem.W.mg_of X G a_has_form, k_has_form, b_has_form, rfl, ok_has_form  FN_has_form B BX F_is_kind F_is_value F_is_name K_PARTS⟩
  have R_first_fault : ∀ i : Nat, Df l.prog w K mg base (11 + 1 * i) "first_fault" 2 (g_first_fault i) := by
    intro i
    induction i with
    | zero => exact ⟨_, _, _, PySem.W.mg_of X G a_first_fault, k_first_fault, b_first_fault, rfl, no_first_fault (n := 10) FN_first_fault⟩
    | succ i F_first_fault =>
      exact ⟨_, _, _, PySem.W.mg_of X G a_first_fault, k_first_fault, b_first_fault, rfl, by have := ok_first_fault (n := 11 + 1 * i) (hn := by omega) FN_first_fault B BX F_has_form F_parts_of F_first_fault; exact this⟩
  have F_first_fault : Df l.prog w K mg base (20) "first_fault" 2 (g_first_fault 9) := R_first_fault 9
  have R_node_count : ∀ i : Nat, Df l.prog w K mg base (11 + 1 * i) "node_count" 1 (g_node_count i) := by
    intro i
    induction i with
    | zero => exact ⟨_, _, _, PySem.W.mg_of X G a_node_count, k_node_count, b_node_count, rfl, no_node_count (n := 10) FN_node_count⟩
    | succ i F_node_count =>
      exact ⟨_, _, _, PySem.W.mg_of X G a_node_count, k_node_count, b_node_count, rfl, by have := ok_node_count (n := 11 + 1 * i) (hn := by omega) FN_node_count B BX F_parts_of F_node_count; exact this⟩
  have F_node_count : Df l.prog w K mg base (20) "node_count" 1 (g_node_count 9) := R_node_count 9
  have R_level_count : ∀ i : Nat, Df l.prog w K mg base (11 + 1 * i) "level_count" 1 (g_level_count i) := by
    intro i
    induction i with
    | zero => exact ⟨_, _, _, PySem.W.mg_of X G a_level_count, k_level_count, b_level_count, rfl, no_level_count (n := 10) FN_level_count⟩
    | succ i F_level_count =>
      exact ⟨_, _, _, PySem.W.mg_of X G a_level_count, k_level_count, b_level_count, rfl, by have := ok_level_count (n := 11 + 1 * i) (hn := by omega) FN_level_count B BX F_parts_of F_level_count; exact this⟩
  have F_level_count : Df l.prog w K mg base (20) "level_count" 1 (g_level_count 9) := R_level_count 9
  have F_fault_in : Df l.prog w K mg base (40) "fault_in" 1 f_fault_in := ⟨_, _, _, PySem.W.mg_of X G a_fault_in, k_fault_in, b_fault_in, rfl, ok_fault_in  FN_fault_in B BX F_first_fault F_node_count F_level_count G_MOST_LEVELS G_MOST_NODES⟩
  have F_check_expression : Df l.prog w K mg base (41) "check_expression" 1 f_check_expression := ⟨_, _, _, PySem.W.mg_of X G a_check_expression, k_check_expression, b_check_expression, rfl, ok_check_expression  FN_check_expression B BX F_fault_in⟩
  have F_kind_of_operation : Df l.prog w K mg base (1) "kind_of_operation" 2 f_kind_of_operation := ⟨_, _, _, PySem.W.mg_of X G a_kind_of_operation, k_kind_of_operation, b_kind_of_operation, rfl, ok_kind_of_operation  FN_kind_of_operation B BX G_COMPARISONS G_NUMBERS⟩
  have F_value_of_numbers : Df l.prog w K mg base (1) "value_of_numbers" 3 f_value_of_numbers := ⟨_, _, _, PySem.W.mg_of X G a_value_of_numbers, k_value_of_numbers, b_value_of_numbers, rfl, ok_value_of_numbers  FN_value_of_numbers B BX ⟩
  have F_value_of_operation : Df l.prog w K mg base (2) "value_of_operation" 2 f_value_of_operation := ⟨_, _, _, PySem.W.mg_of X G a_value_of_operation, k_value_of_operation, b_value_of_operation, rfl, ok_value_of_operation  FN_value_of_operation B BX F_value_of_numbers G_NUMBERS⟩
  have F_shortened : Df l.prog w K mg base (1) "shortened" 2 f_shortened := ⟨_, _, _, PySem.W.mg_of X G a_shortened, k_shortened, b_shortened, rfl, ok_shortened  FN_shortened B BX ⟩
  have R_folded_of : ∀ i : Nat, Df l.prog w K mg base (11 + 1 * i) "folded_of" 1 (g_folded_of i) := by
    intro i
    induction i with
    | zero => exact ⟨_, _, _, PySem.W.mg_of X G a_folded_of, k_folded_of, b_folded_of, rfl, no_folded_of (n := 10) FN_folded_of⟩
    | succ i F_folded_of =>
      exact ⟨_, _, _, PySem.W.mg_of X G a_folded_of, k_folded_of, b_folded_of, rfl, by have := ok_folded_of (n := 11 + 1 * i) (hn := by omega) FN_folded_of B BX F_is_operation F_parts_of F_folded_of F_kind_of_operation F_value_of_operation F_shortened; exact this⟩
  have F_folded_of : Df l.prog w K mg base (20) "folded_of" 1 (g_folded_of 9) := R_folded_of 9
  have F_folded : Df l.prog w K mg base (42) "folded" 1 f_folded := ⟨_, _, _, PySem.W.mg_of X G a_folded, k_folded, b_folded, rfl, ok_folded  FN_folded B BX F_check_expression F_folded_of⟩
  have FK_folded : Dk l.prog w K mg base (42) "folded" ["expression"] [0] f_folded := ⟨_, _, ["expression"], PySem.W.mg_of X G a_folded, k_folded, ⟨fun s us ws X l1 l2 => by
    match us, l1, ws, l2 with | [], _, [_], _ => exact .of_eq rfl, fun r1 r2 => vals_pick r2 _⟩, ok_folded  FN_folded B BX F_check_expression F_folded_of⟩
  have F_l_cell : Df l.prog w K mg base (1) "_law_cell" 2 f_l_cell := ⟨_, _, _, PySem.W.mg_of X G a_l_cell, k_l_cell, b_l_cell, rfl, ok_l_cell  FN_l_cell B BX ⟩
  have F_l_pool : Dl l.prog w K mg base (1) "_law_pool" 1 f_l_pool := ⟨_, _, _, PySem.W.mg_of X G a_l_pool, k_l_pool, b_l_pool, rfl, ok_l_pool  FN_l_pool B BX ⟩
  have F_l_draw : Df l.prog w K mg base (1) "_law_draw" 2 fDraw := ⟨_, _, _, PySem.W.mg_of X G a_l_draw, k_l_draw, b_l_draw, rfl, ok_l_draw FN_l_draw B⟩
  have F_l_calls : Df l.prog w K mg base (2) "_law_calls" 2 f_l_calls := ⟨_, _, _, PySem.W.mg_of X G a_l_calls, k_l_calls, b_l_calls, rfl, ok_l_calls  FN_l_calls B BX F_l_draw⟩
  have F_l_worth : Df l.prog w K mg base (2) "_law_worth" 2 f_l_worth := ⟨_, _, _, PySem.W.mg_of X G a_l_worth, k_l_worth, b_l_worth, rfl, ok_l_worth  FN_l_worth B BX F_l_draw⟩
  have F_l_heads : Df l.prog w K mg base (2) "_law_heads" 2 f_l_heads := ⟨_, _, _, PySem.W.mg_of X G a_l_heads, k_l_heads, b_l_heads, rfl, ok_l_heads  FN_l_heads B BX F_l_draw⟩
  have F_l_leaf : Df l.prog w K mg base (3) "_law_leaf" 3 f_l_leaf := ⟨_, _, _, PySem.W.mg_of X G a_l_leaf, k_l_leaf, b_l_leaf, rfl, ok_l_leaf  FN_l_leaf B BX F_l_draw F_l_worth⟩
  have R_l_tree : ∀ i : Nat, Df l.prog w K mg base (11 + 3 * i) "_law_tree" 4 (g_l_tree i) := by
    intro i
    induction i with
    | zero => exact ⟨_, _, _, PySem.W.mg_of X G a_l_tree, k_l_tree, b_l_tree, rfl, no_l_tree (n := 10) FN_l_tree⟩
    | succ i F_l_tree =>
      have F_l_pair : Df l.prog w K mg base (11 + 3 * i + 1) "_law_pair" 5 (f_l_pair (g_l_tree i)) := ⟨_, _, _, PySem.W.mg_of X G a_l_pair, k_l_pair, b_l_pair, rfl, ok_l_pair (n := 11 + 3 * i) (hn := by omega) FN_l_pair B BX F_l_tree⟩
      have F_l_test : Df l.prog w K mg base (11 + 3 * i + 2) "_law_test" 4 (f_l_test (g_l_tree i)) := ⟨_, _, _, PySem.W.mg_of X G a_l_test, k_l_test, b_l_test, rfl, ok_l_test (n := 11 + 3 * i) (hn := by omega) FN_l_test B BX F_l_draw F_l_tree F_l_pair⟩
      exact ⟨_, _, _, PySem.W.mg_of X G a_l_tree, k_l_tree, b_l_tree, rfl, by have := ok_l_tree (n := 11 + 3 * i) (hn := by omega) FN_l_tree B BX F_l_draw F_l_leaf F_l_tree F_l_pair F_l_test; exact this⟩
  have F_l_tree : Df l.prog w K mg base (35) "_law_tree" 4 (g_l_tree 8) := R_l_tree 8
  have F_l_counted : Df l.prog w K mg base (1) "_law_counted" 3 f_l_counted := ⟨_, _, _, PySem.W.mg_of X G a_l_counted, k_l_counted, b_l_counted, rfl, ok_l_counted  FN_l_counted B BX ⟩
  have R_l_value : ∀ i : Nat, Df l.prog w K mg base (11 + 1 * i) "_law_value" 3 (g_l_value i) := by
    intro i
    induction i with
    | zero => exact ⟨_, _, _, PySem.W.mg_of X G a_l_value, k_l_value, b_l_value, rfl, no_l_value (n := 10) FN_l_value⟩
    | succ i F_l_value =>
      exact ⟨_, _, _, PySem.W.mg_of X G a_l_value, k_l_value, b_l_value, rfl, by have := ok_l_value (n := 11 + 1 * i) (hn := by omega) FN_l_value B BX F_l_value F_l_counted; exact this⟩
  have F_l_value : Df l.prog w K mg base (20) "_law_value" 3 (g_l_value 9) := R_l_value 9
  have R_l_size : ∀ i : Nat, Df l.prog w K mg base (11 + 1 * i) "_law_size" 1 (g_l_size i) := by
    intro i
    induction i with
    | zero => exact ⟨_, _, _, PySem.W.mg_of X G a_l_size, k_l_size, b_l_size, rfl, no_l_size (n := 10) FN_l_size⟩
    | succ i F_l_size =>
      exact ⟨_, _, _, PySem.W.mg_of X G a_l_size, k_l_size, b_l_size, rfl, by have := ok_l_size (n := 11 + 1 * i) (hn := by omega) FN_l_size B BX F_l_size; exact this⟩
  have F_l_size : Df l.prog w K mg base (20) "_law_size" 1 (g_l_size 9) := R_l_size 9
  have F_l_fit : Df l.prog w K mg base (45) "_law_fit" 4 f_l_fit := ⟨_, _, _, PySem.W.mg_of X G a_l_fit, k_l_fit, b_l_fit, rfl, ok_l_fit  FN_l_fit B BX F_l_tree F_l_size F_l_leaf⟩
  have F_l_wanted : Df l.prog w K mg base (1) "_law_wanted" 2 f_l_wanted := ⟨_, _, _, PySem.W.mg_of X G a_l_wanted, k_l_wanted, b_l_wanted, rfl, ok_l_wanted  FN_l_wanted B BX ⟩
  have R_l_swapped : ∀ i : Nat, Df l.prog w K mg base (11 + 1 * i) "_law_swapped" 4 (g_l_swapped i) := by
    intro i
    induction i with
    | zero => exact ⟨_, _, _, PySem.W.mg_of X G a_l_swapped, k_l_swapped, b_l_swapped, rfl, no_l_swapped (n := 10) FN_l_swapped⟩
    | succ i F_l_swapped =>
      exact ⟨_, _, _, PySem.W.mg_of X G a_l_swapped, k_l_swapped, b_l_swapped, rfl, by have := ok_l_swapped (n := 11 + 1 * i) (hn := by omega) FN_l_swapped B BX F_l_draw F_l_leaf F_l_swapped; exact this⟩
  have F_l_swapped : Df l.prog w K mg base (20) "_law_swapped" 4 (g_l_swapped 9) := R_l_swapped 9
  have R_l_folded : ∀ i : Nat, Df l.prog w K mg base (31 + 1 * i) "_law_folded" 1 (g_l_folded i) := by
    intro i
    induction i with
    | zero => exact ⟨_, _, _, PySem.W.mg_of X G a_l_folded, k_l_folded, b_l_folded, rfl, no_l_folded (n := 30) FN_l_folded⟩
    | succ i F_l_folded =>
      exact ⟨_, _, _, PySem.W.mg_of X G a_l_folded, k_l_folded, b_l_folded, rfl, by have := ok_l_folded (n := 31 + 1 * i) (hn := by omega) FN_l_folded B BX F_l_folded F_l_wanted F_l_value; exact this⟩
  have F_l_folded : Df l.prog w K mg base (40) "_law_folded" 1 (g_l_folded 9) := R_l_folded 9
  have R_l_filled : ∀ i : Nat, Df l.prog w K mg base (11 + 1 * i) "_law_filled" 3 (g_l_filled i) := by
    intro i
    induction i with
    | zero => exact ⟨_, _, _, PySem.W.mg_of X G a_l_filled, k_l_filled, b_l_filled, rfl, no_l_filled (n := 10) FN_l_filled⟩
    | succ i F_l_filled =>
      exact ⟨_, _, _, PySem.W.mg_of X G a_l_filled, k_l_filled, b_l_filled, rfl, by have := ok_l_filled (n := 11 + 1 * i) (hn := by omega) FN_l_filled B BX F_l_draw F_l_worth F_l_filled; exact this⟩
  have F_l_filled : Df l.prog w K mg base (20) "_law_filled" 3 (g_l_filled 9) := R_l_filled 9
  have F_l_told_right : Df l.prog w K mg base (46) "_law_told_right" 1 f_l_told_right := ⟨_, _, _, PySem.W.mg_of X G a_l_told_right, k_l_told_right, b_l_told_right, rfl, ok_l_told_right  FN_l_told_right B BX F_l_folded F_folded FK_folded⟩
  have F_l_right : Df l.prog w K mg base (47) "_law_right" 1 f_l_right := ⟨_, _, _, PySem.W.mg_of X G a_l_right, k_l_right, b_l_right, rfl, ok_l_right  FN_l_right B BX F_l_heads F_l_calls F_l_draw F_l_fit F_l_filled F_l_swapped F_l_told_right⟩
  exact law_sp (ok_law  FN_law B BX F_folded F_l_told_right F_l_right F_l_pool F_l_cell)
theorem walk {l : PySem.W.OpenLaw} {q : Program} {loose : List Str} {XP : (Str → Option Value) → Heap → Prop} {YP : World → Heap → Prop} {d : DefRec} {K : Params → PySem.W.Frag} (hn : l.most = some 63) (hdf : d.params.defaults = [])
    (hY : ∀ (w : World) (h : Heap), YP w h → (K w.params).In h)
    (F : ∀ (w : World) (mg : Str → Option Value) (fa : Addr) (h : Heap), (K w.params).In h → h.Ns mainGlobals mg → mg d.name = some (.ref fa) →
      ∃ fd : FuncData, (∀ (s : Shared) (u : Value), BindsTo s fd ⟨[u], []⟩ [("_law_script", u)]) ∧ ∀ base : Heap, (K w.params).In base → base.Ns mainGlobals mg → FnG l.prog w (K w.params) mg base 48 fa fd ["_law_script"] (spLaw (K w.params))) :
    PySem.W.WalkO q loose XP YP l.row.toRowW d [] (fun f vs => PySem.call f vs) :=
  walk_ofG (n := 63) (k := 48) (x := "_law_script") (sp := fun w => spLaw (K w.params)) hn (by decide) hdf ⟨rfl, by decide, by decide⟩ hY F fun _ _ a ns hl hS => ⟨a, ns, rfl, hS, hl, fun _ => rfl⟩
end K15
open PySem PySem.W PyProof.Rows
set_option maxRecDepth 100000 in
set_option maxHeartbeats 0 in
theorem PySem.Challenge.cw_labelframes_k15_folded_expressions_holds : PySem.Challenge.rw_labelframes_k15_folded_expressions.Holds := by
  w_on; o_law; k_head; (case hw => w_witness2)
  k_fill
  refine K15.walk (l := PySem.Challenge.rw_labelframes_k15_folded_expressions) rfl rfl (fun w h Y => PySem.W.kIn_of Y) ?F
  case F =>
    intro w mg fa h KX G hmg
    refine' K15.all_mk KX G hmg ?a_is_integer ?l_is_integer ?c_is_integer ?k_is_integer ?a_is_name ?l_is_name ?c_is_name ?k_is_name ?a_is_kind ?l_is_kind ?c_is_kind ?k_is_kind ?a_is_value ?l_is_value ?c_is_value ?k_is_value ?a_is_operation ?l_is_operation ?c_is_operation ?k_is_operation ?a_parts_of ?l_parts_of ?c_parts_of ?k_parts_of ?a_has_form ?l_has_form ?c_has_form ?k_has_form ?a_first_fault ?l_first_fault ?c_first_fault ?k_first_fault ?a_node_count ?l_node_count ?c_node_count ?k_node_count ?a_level_count ?l_level_count ?c_level_count ?k_level_count ?a_fault_in ?l_fault_in ?c_fault_in ?k_fault_in ?a_check_expression ?l_check_expression ?c_check_expression ?k_check_expression ?a_kind_of_operation ?l_kind_of_operation ?c_kind_of_operation ?k_kind_of_operation ?a_value_of_numbers ?l_value_of_numbers ?c_value_of_numbers ?k_value_of_numbers ?a_value_of_operation ?l_value_of_operation ?c_value_of_operation ?k_value_of_operation ?a_shortened ?l_shortened ?c_shortened ?k_shortened ?a_folded_of ?l_folded_of ?c_folded_of ?k_folded_of ?a_folded ?l_folded ?c_folded ?k_folded ?a_l_cell ?l_l_cell ?c_l_cell ?k_l_cell ?a_l_pool ?l_l_pool ?c_l_pool ?k_l_pool ?a_l_draw ?l_l_draw ?c_l_draw ?k_l_draw ?a_l_calls ?l_l_calls ?c_l_calls ?k_l_calls ?a_l_worth ?l_l_worth ?c_l_worth ?k_l_worth ?a_l_heads ?l_l_heads ?c_l_heads ?k_l_heads ?a_l_leaf ?l_l_leaf ?c_l_leaf ?k_l_leaf ?a_l_tree ?l_l_tree ?c_l_tree ?k_l_tree ?a_l_pair ?l_l_pair ?c_l_pair ?k_l_pair ?a_l_test ?l_l_test ?c_l_test ?k_l_test ?a_l_counted ?l_l_counted ?c_l_counted ?k_l_counted ?a_l_value ?l_l_value ?c_l_value ?k_l_value ?a_l_size ?l_l_size ?c_l_size ?k_l_size ?a_l_fit ?l_l_fit ?c_l_fit ?k_l_fit ?a_l_wanted ?l_l_wanted ?c_l_wanted ?k_l_wanted ?a_l_swapped ?l_l_swapped ?c_l_swapped ?k_l_swapped ?a_l_folded ?l_l_folded ?c_l_folded ?k_l_folded ?a_l_filled ?l_l_filled ?c_l_filled ?k_l_filled ?a_l_told_right ?l_l_told_right ?c_l_told_right ?k_l_told_right ?a_l_right ?l_l_right ?c_l_right ?k_l_right ?a_law ?l_law ?c_law ?k_law ?g_LETTERS ?g_MOST_LETTERS ?g_MOST_NODES ?g_MOST_LEVELS ?g_KINDS ?g2_KINDS ?g_NUMBERS ?g2_NUMBERS ?g_COMPARISONS ?g2_COMPARISONS ?g_PARTS ?g2_PARTS ?g3_PARTS ?z_len ?z_all ?z_any ?z_max ?z_min ?z_abs ?z_divmod ?z_isinstance ?z_range ?z_enumerate ?z_int ?z_bool ?z_str ?z_tuple ?z_list ?z_dict ?z_sum ?z_sorted ?z_repr ?z_zip
    (case a_is_integer => k_is)
    (case l_is_integer => k_is)
    (case c_is_integer => k_is)
    (case k_is_integer => k_is)
    (case a_is_name => k_is)
    (case l_is_name => k_is)
    (case c_is_name => k_is)
    (case k_is_name => k_is)
    (case a_is_kind => k_is)
    (case l_is_kind => k_is)
    (case c_is_kind => k_is)
    (case k_is_kind => k_is)
    (case a_is_value => k_is)
    (case l_is_value => k_is)
    (case c_is_value => k_is)
    (case k_is_value => k_is)
    (case a_is_operation => k_is)
    (case l_is_operation => k_is)
    (case c_is_operation => k_is)
    (case k_is_operation => k_is)
    (case a_parts_of => k_is)
    (case l_parts_of => k_is)
    (case c_parts_of => k_is)
    (case k_parts_of => k_is)
    (case a_has_form => k_is)
    (case l_has_form => k_is)
    (case c_has_form => k_is)
    (case k_has_form => k_is)
    (case a_first_fault => k_is)
    (case l_first_fault => k_is)
    (case c_first_fault => k_is)
    (case k_first_fault => k_is)
    (case a_node_count => k_is)
    (case l_node_count => k_is)
    (case c_node_count => k_is)
    (case k_node_count => k_is)
    (case a_level_count => k_is)
    (case l_level_count => k_is)
    (case c_level_count => k_is)
    (case k_level_count => k_is)
    (case a_fault_in => k_is)
    (case l_fault_in => k_is)
    (case c_fault_in => k_is)
    (case k_fault_in => k_is)
    (case a_check_expression => k_is)
    (case l_check_expression => k_is)
    (case c_check_expression => k_is)
    (case k_check_expression => k_is)
    (case a_kind_of_operation => k_is)
    (case l_kind_of_operation => k_is)
    (case c_kind_of_operation => k_is)
    (case k_kind_of_operation => k_is)
    (case a_value_of_numbers => k_is)
    (case l_value_of_numbers => k_is)
    (case c_value_of_numbers => k_is)
    (case k_value_of_numbers => k_is)
    (case a_value_of_operation => k_is)
    (case l_value_of_operation => k_is)
    (case c_value_of_operation => k_is)
    (case k_value_of_operation => k_is)
    (case a_shortened => k_is)
    (case l_shortened => k_is)
    (case c_shortened => k_is)
    (case k_shortened => k_is)
    (case a_folded_of => k_is)
    (case l_folded_of => k_is)
    (case c_folded_of => k_is)
    (case k_folded_of => k_is)
    (case a_folded => k_is)
    (case l_folded => k_is)
    (case c_folded => k_is)
    (case k_folded => k_is)
    (case a_l_cell => k_is)
    (case l_l_cell => k_is)
    (case c_l_cell => k_is)
    (case k_l_cell => k_is)
    (case a_l_pool => k_is)
    (case l_l_pool => k_is)
    (case c_l_pool => k_is)
    (case k_l_pool => k_is)
    (case a_l_draw => k_is)
    (case l_l_draw => k_is)
    (case c_l_draw => k_is)
    (case k_l_draw => k_is)
    (case a_l_calls => k_is)
    (case l_l_calls => k_is)
    (case c_l_calls => k_is)
    (case k_l_calls => k_is)
    (case a_l_worth => k_is)
    (case l_l_worth => k_is)
    (case c_l_worth => k_is)
    (case k_l_worth => k_is)
    (case a_l_heads => k_is)
    (case l_l_heads => k_is)
    (case c_l_heads => k_is)
    (case k_l_heads => k_is)
    (case a_l_leaf => k_is)
    (case l_l_leaf => k_is)
    (case c_l_leaf => k_is)
    (case k_l_leaf => k_is)
    (case a_l_tree => k_is)
    (case l_l_tree => k_is)
    (case c_l_tree => k_is)
    (case k_l_tree => k_is)
    (case a_l_pair => k_is)
    (case l_l_pair => k_is)
    (case c_l_pair => k_is)
    (case k_l_pair => k_is)
    (case a_l_test => k_is)
    (case l_l_test => k_is)
    (case c_l_test => k_is)
    (case k_l_test => k_is)
    (case a_l_counted => k_is)
    (case l_l_counted => k_is)
    (case c_l_counted => k_is)
    (case k_l_counted => k_is)
    (case a_l_value => k_is)
    (case l_l_value => k_is)
    (case c_l_value => k_is)
    (case k_l_value => k_is)
    (case a_l_size => k_is)
    (case l_l_size => k_is)
    (case c_l_size => k_is)
    (case k_l_size => k_is)
    (case a_l_fit => k_is)
    (case l_l_fit => k_is)
    (case c_l_fit => k_is)
    (case k_l_fit => k_is)
    (case a_l_wanted => k_is)
    (case l_l_wanted => k_is)
    (case c_l_wanted => k_is)
    (case k_l_wanted => k_is)
    (case a_l_swapped => k_is)
    (case l_l_swapped => k_is)
    (case c_l_swapped => k_is)
    (case k_l_swapped => k_is)
    (case a_l_folded => k_is)
    (case l_l_folded => k_is)
    (case c_l_folded => k_is)
    (case k_l_folded => k_is)
    (case a_l_filled => k_is)
    (case l_l_filled => k_is)
    (case c_l_filled => k_is)
    (case k_l_filled => k_is)
    (case a_l_told_right => k_is)
    (case l_l_told_right => k_is)
    (case c_l_told_right => k_is)
    (case k_l_told_right => k_is)
    (case a_l_right => k_is)
    (case l_l_right => k_is)
    (case c_l_right => k_is)
    (case k_l_right => k_is)
    (case a_law => k_is)
    (case l_law => k_is)
    (case c_law => k_is)
    (case k_law => k_is)
    (case g_LETTERS => k_is)
    (case g_MOST_LETTERS => k_is)
    (case g_MOST_NODES => k_is)
    (case g_MOST_LEVELS => k_is)
    (case g_KINDS => k_is)
    (case g2_KINDS => k_is)
    (case g_NUMBERS => k_is)
    (case g2_NUMBERS => k_is)
    (case g_COMPARISONS => k_is)
    (case g2_COMPARISONS => k_is)
    (case g_PARTS => k_is)
    (case g2_PARTS => k_is)
    (case g3_PARTS => rfl)
    (case z_len => k_is)
    (case z_all => k_is)
    (case z_any => k_is)
    (case z_max => k_is)
    (case z_min => k_is)
    (case z_abs => k_is)
    (case z_divmod => k_is)
    (case z_isinstance => k_is)
    (case z_range => k_is)
    (case z_enumerate => k_is)
    (case z_int => k_is)
    (case z_bool => k_is)
    (case z_str => k_is)
    (case z_tuple => k_is)
    (case z_list => k_is)
    (case z_dict => k_is)
    (case z_sum => k_is)
    (case z_sorted => k_is)
    (case z_repr => k_is)
    (case z_zip => k_is)
