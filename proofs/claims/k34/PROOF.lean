import PyProof.Rows.All
import HandS.ForMost
import HandS.Exc
import HandS.Walk
import HandS.WideBits
import HandS.TupMul
import HandS.TupAny
import HandS.Conv
import HandS.Zip
import HandS.Strs
import HandS.ReCall
import KE.GoesEnum
import KE.GoesNew
import KE.GoesZip
import KE.KDictKeyed
import HandS.Wide
import HandS.SortOrd
import HandS.SortInts
import HandS.SortRule
import HandS.TupSets
import HandS.RaiseMore
import HandS.Deep
import HandS.Style
import HandS.IsInst
import HandS.SetFor
import HandS.NoneIn
import HandS.ExcOwn
import KE.KTupSum
import Wide.Txt2
import PyProof.ReprRoads
import HandS.WordsExc
import HandS.EndBits
import HandS.ExcInit
import KE.KExcInit
import KE.KExcIs
import KE.KTryMore
import KE.KIndexOf
import KE.DatumOrd
import HandS.Flt
import HandS.Small
import HandS.Iter
import HandS.TupLe
import KE.KSortTupAny
import KE.KDictSum
import KE.KDictCopyH
import HandS.TupLen
import KE.KDictDisplayH
import KE.GoesEnumKw
import KE.GoesMore
import HandS.SortKw
import PyProof.Rows.SeqMore
import PyProof.TupleOfGen
import PySem.Challenge.RW_tollround_k34_wishes_that_are_met
set_option Elab.async false
set_option linter.all false
set_option maxRecDepth 100000
set_option maxHeartbeats 4000000
section
set_option maxHeartbeats 2000000
namespace DM
open PySem PySem.Spec PyProof.Rows L2
def Nd (o : Obj) : Prop := o.cls = .type "tuple" ∧ o.dict = none
def eY (its : List Value) : Obj := { cls := .type "tuple", data := .seq its.toArray }
theorem jA (its : List Value) : Nd (eY its) := ⟨rfl, rfl⟩
def Yo (H : Hp) (a : Addr) (xs : List V) : Prop := ∃ o, Nd o ∧ H a = some (.frz o (.tup xs))
theorem Yo.JC {K : PySem.W.Frag} {H : Hp} {a : Addr} {xs : List V} (h : Yo H a xs) : SqT K H a xs := by
  obtain ⟨o, _, e⟩ := h
  exact .inl (.inr ⟨o, e⟩)
abbrev Pu (H : Hp) (Q : VK) (xs : List V) : Prop := ∀ (o : Obj) (p : Addr), Nd o → H p = none → Q (.ref p) (upd H p (.frz o (.tup xs)))
section
variable {X : Cx} {pins : List (Addr × Obj)} {σ : L2.St} {H : Hp} {s : Shared} {xs : List V} {its : List Value} {Q : VK}
theorem laidN (I : Inv X pins σ H s) (hz : xs.length ≤ sizeLine) (rv : Vals xs its) (q : Pu H Q xs) :
    EP X pins σ Q (.ref s.heap.objs.size) { s with heap := s.heap.push (eY its) } := by
  have new : (s.heap.push (eY its)).get? s.heap.objs.size = some (eY its) := Heap.get?_push_size _ rfl
  have ok : ObjOk X.prog X.w (upd H s.heap.objs.size (.frz (eY its) (.tup xs))) (s.heap.push (eY its)) s.heap.objs.size (.frz (eY its) (.tup xs)) := ⟨new, hz, its, rv, _, new, rfl, _, rfl⟩
  exact ⟨.ref s.heap.objs.size, _, I.laid (t' := s.toks) (fun c u e => Heap.get?_push_of_some _ e) (Nat.le_refl _) ok, rfl, q _ _ (jA its) (I.hok.fresh (Nat.le_refl _))⟩
end
/-! the display -/
def aaK (t : TA) : TE := fun σ H Q => t σ H fun xs H1 => xs.length ≤ sizeLine ∧ Pu H1 Q xs
theorem Yp {X : Cx} {es : List Expr} {k : Nat} {pos : Pos} {t : TA} (h : PA X es t) : PE X (.Tuple es k pos) (aaK t) :=
  ⟨fun pins s σ H Q I hq => wpAny_Tuple_spliced (thn (h.run pos pins s σ H _ I hq) fun _ _ ⟨_, _, J, rv, hz, q⟩ => ⟨rv.length ▸ hz, laidN J hz rv q⟩)⟩
/-! together, many times, a part -/
def aaL (K : PySem.W.Frag) : R2 := fun x y H Q => ∃ a b xs ys, x = .ref a ∧ y = .ref b ∧ SqT K H a xs ∧ SqT K H b ys ∧ xs.length + ys.length ≤ sizeLine ∧
  (xs = [] → Q (.ref b) H) ∧ (xs ≠ [] → ys = [] → Q (.ref a) H) ∧ (xs ≠ [] → ys ≠ [] → Pu H Q (xs ++ ys))
theorem Yq {X : Cx} : OpR X (binaryOp .Add) (aaL X.K) := by
  intro pins s σ H x y v u Q I rx ry h
  obtain ⟨a, b, xs, ys, rfl, rfl, ha, hb, hz, q0, q1, q2⟩ := h
  by_cases hx : xs = []
  · exact op_catA pins s σ H _ _ v u Q I rx ry ⟨a, b, xs, ys, rfl, rfl, ha, hb, hz, q0, q1, fun z => absurd hx z⟩
  · by_cases hy : ys = []
    · exact op_catA pins s σ H _ _ v u Q I rx ry ⟨a, b, xs, ys, rfl, rfl, ha, hb, hz, q0, q1, fun _ z => absurd hy z⟩
    · cases rx
      cases ry
      obtain ⟨l1, w1, t1, _⟩ := I.tuple ha
      obtain ⟨l2, w2, t2, _⟩ := I.tuple hb
      exact HT.cat_tup t1 t2 (fun z => hx (w1.nil_iff.mp z)) (fun z => absurd (w2.nil_iff.mp z) hy) (fun _ => laidN (its := l1 ++ l2) I (by rw [List.length_append]; exact hz) (w1.append w2) (q2 hx hy)) (by rw [← w1.length, ← w2.length]; exact hz)
def aaM (K : PySem.W.Frag) : R2 := fun x y H Q => ∃ l k xs, x = .ref l ∧ y = .int k ∧ SqT K H l xs ∧ xs ≠ [] ∧ 2 ≤ k ∧ k ≤ 1000 ∧ xs.length ≤ 1000 ∧ Pu H Q (List.replicate k.toNat xs).flatten
theorem Yr {X : Cx} : OpR X (binaryOp .Mult) (aaM X.K) := by
  intro pins s σ H x y v u Q I rx ry h
  obtain ⟨a, k, xs, rfl, rfl, hT, hne, k1, k2, k3, q⟩ := h
  cases rx
  obtain ⟨t, rfl⟩ := ry
  obtain ⟨vs, rv, ⟨ob, gob, cob, n, dob⟩, _⟩ := I.tuple hT
  obtain ⟨oc, od, odt, osl⟩ := ob
  simp only at cob dob
  subst cob dob
  have el : vs.length = xs.length := rv.length.symm
  have vne : vs.toArray.isEmpty = false := by
    cases vs with
    | nil => exact absurd (List.eq_nil_of_length_eq_zero el.symm) hne
    | cons => rfl
  have esz : vs.toArray.size = xs.length := by rw [List.size_toArray, el]
  have mul : k.toNat * xs.length ≤ 1000 * 1000 := Nat.mul_le_mul (by omega) k3
  have ajh : ((vs.toArray.size : Nat) : Int) * k ≤ 1000000 := by
    rw [esz]
    exact Int.le_trans (Int.mul_le_mul_of_nonneg_right (show ((xs.length : Nat) : Int) ≤ 1000 by omega) (by omega)) (by omega)
  have fl : ∀ {α : Type} (l : List α), l.length = xs.length → (List.replicate k.toNat l).flatten.length ≤ sizeLine := fun l e => by
    rw [lm_len_rep_flat, e, sizeLine_eq]
    omega
  have d0 : (decide (k < -(2 ^ 63)) || decide (k ≥ 2 ^ 63)) = false := by rw [Bool.or_eq_false_iff]; exact ⟨decide_eq_false (by omega), decide_eq_false (by omega)⟩
  have d1 : (vs.toArray.isEmpty || k == 1) = false := by rw [Bool.or_eq_false_iff]; exact ⟨vne, beq_eq_false_iff_ne.mpr (by omega)⟩
  have d2 : (decide (k ≤ 0) || vs.toArray.isEmpty) = false := by rw [Bool.or_eq_false_iff]; exact ⟨decide_eq_false (by omega), vne⟩
  have d4 : Builtin.Tuple.tupleTooMany (((vs.toArray.size : Nat) : Int) * k) = false := by
    unfold Builtin.Tuple.tupleTooMany
    rw [sizeLine_eq]
    exact decide_eq_false (show ¬ _ by omega)
  refine wpAny_binaryOp_repeat_ref (T := "tuple") (U := "int") (by decide) ⟨_, gob, rfl⟩ (fun s1 => typeIs_int s1 k t) noFill_tuple_mul F.fills_int_mul F.slot_int_rmul repeat_tuple F.slot_int_index.lookup
    (call_meets F.slot_int_rmul (typeIs_int s k t) F.entry_int_rmul (F.args_int_rmul_2 _ _) (int_rmul_tuple k t a vs.toArray n od osl) ⟨gob, rfl, ⟨_, gob, rfl⟩, ?_⟩)
  refine call_meets F.slot_tuple_mul ⟨_, gob, rfl⟩ F.entry_tuple_mul (F.args_tuple_mul_2 _ _) (tuple_mulW a vs.toArray n od osl k t d0 d1 d2 (by omega) d4 (by rw [size_rep, List.size_toArray]; exact fl vs el)) ⟨gob, ?_⟩
  rw [size_rep]
  exact laidN (its := (List.replicate k.toNat vs).flatten) I (fl xs rfl) (rv.rep k.toNat) q
def adU (K : PySem.W.Frag) : V → Option Int → Option Int → Hp → VK → Prop := fun x lo hi H Q => ∃ a xs, x = .ref a ∧ SqT K H a xs ∧
  (HT.sIx xs.length 0 lo = 0 ∧ HT.sIx xs.length xs.length hi = xs.length → Q (.ref a) H) ∧ (¬ (HT.sIx xs.length 0 lo = 0 ∧ HT.sIx xs.length xs.length hi = xs.length) → Pu H Q (cutV xs lo hi))
theorem Ys {X : Cx} : SlR X (adU X.K) := by
  intro pins s σ H x v vl vu lo hi sl Q I rx hs pl pu h
  obtain ⟨a, xs, rfl, hx, q1, q2⟩ := h
  by_cases hw : HT.sIx xs.length 0 lo = 0 ∧ HT.sIx xs.length xs.length hi = xs.length
  · exact sl_tupA pins s σ H _ v vl vu lo hi sl Q I rx hs pl pu ⟨a, xs, rfl, hx, q1, fun z => absurd hw z⟩
  · cases rx
    obtain ⟨vs, rv, ht, hz⟩ := I.tuple hx
    have el : vs.toArray.size = xs.length := by rw [List.size_toArray]; exact rv.length.symm
    refine ⟨"tuple", _, PyProof.Rows.slot_tuple_getitem.lookup, ht.typeIs, HT.getItem_tuple_cut ht hs pl pu (by rw [el]; exact hw) ?_ (by rw [el]; exact hz)⟩
    rw [el]
    exact laidN (its := (vs.drop (HT.sIx xs.length 0 lo)).take (HT.sIx xs.length xs.length hi - HT.sIx xs.length 0 lo)) I (Nat.le_trans (cutV_length xs lo hi) hz) ((rv.drop _).take _) (q2 hw)
/-! tuple(..), divmod -/
def aaN (K : PySem.W.Frag) (x : V) (H : Hp) (Q : VK) : Prop :=
  (∃ p xs, x = .ref p ∧ SqL K H p xs ∧ Pu H Q xs) ∨ (∃ p xs, x = .ref p ∧ SqT K H p xs ∧ Q (.ref p) H)
theorem Px {X : Cx} (pins : List (Addr × Obj)) (s : Shared) (σ : L2.St) (H : Hp) (x : V) (v : Value) (Q : VK) (I : Inv X pins σ H s) (r : RelV x v) (h : aaN X.K x H Q) :
    wpAny (model X.prog X.w) X.A (call (.type "tuple") [v]) (EP X pins σ Q) X.xe s := by
  rcases h with ⟨p, xs, rfl, hs, q⟩ | ⟨p, xs, rfl, hs, q⟩
  · cases r
    obtain ⟨vs, rv, pl, hz⟩ := I.list hs
    exact call_tuple_list pl.isList (fun h1 k1 => laidN (s := { s with heap := h1 }) (I.kept (t' := s.toks) k1) hz rv q) (by rw [List.size_toArray, ← rv.length]; exact hz)
  · exact rl_tuple pins s σ H _ v Q I r (.inr ⟨p, xs, rfl, hs, q⟩)
end DM
end
section
set_option maxHeartbeats 2000000
namespace DM
open PySem PySem.Spec PyProof.Rows L2
mutual
def nkI : NestedKey → Bool
  | .none => true
  | .num _ => true
  | .text _ => false
  | .tup ks => nkIs ks
def nkIs : List NestedKey → Bool
  | [] => true
  | k :: ks => nkI k && nkIs ks
end
mutual
def hsh : NestedKey → Int
  | .none => reduceHash 0xFCA86420
  | .num i => hashInt i
  | .text _ => 0
  | .tup ks => reduceHash (Builtin.Tuple.tupleHashOf (SQ ks))
def SQ : List NestedKey → List Int
  | [] => []
  | k :: ks => hsh k :: SQ ks
end
mutual
theorem abB (w : World) : ∀ k : NestedKey, nkI k = true → k.hash w = hsh k
  | .none, _ => rfl
  | .num _, _ => rfl
  | .text _, h => by cases h
  | .tup ks, h => by
    show reduceHash (Builtin.Tuple.tupleHashOf (NestedKey.hashes w ks)) = reduceHash (Builtin.Tuple.tupleHashOf (SQ ks))
    rw [Mx w ks h]
theorem Mx (w : World) : ∀ ks : List NestedKey, nkIs ks = true → NestedKey.hashes w ks = SQ ks
  | [], _ => rfl
  | k :: ks, h => by
    have h' : (nkI k && nkIs ks) = true := h
    rw [Bool.and_eq_true] at h'
    show NestedKey.hash w k :: NestedKey.hashes w ks = hsh k :: SQ ks
    rw [abB w k h'.1, Mx w ks h'.2]
end
abbrev NX := NestedKey × Addr × Value
def af8 (x : NX) : DictEntry := ⟨hsh x.1, .ref x.2.1, x.2.2⟩
def ndP (a : Addr) (zs : List NestedKey) (us vs : List V) (h : Heap) : Prop := zs.length ≤ sizeLine ∧ (a == sysModules) = false ∧ ∃ (xs : List NX) (o : Obj) (es : Array DictEntry) (ep : Nat),
  xs.map (·.1) = zs ∧ us = xs.map (fun x => V.ref x.2.1) ∧ Vals vs (xs.map (·.2.2)) ∧ h.get? a = some o ∧ o.ExactDict ∧ o.data = .dict es ep ∧ es.toList = xs.map af8 ∧ zs.Nodup
def Yi (a : Addr) (zs : List NestedKey) (us vs : List V) : HO := .ext (ndP a zs us vs)
theorem ndP.stay {a : Addr} {zs : List NestedKey} {us vs : List V} {h1 h2 : Heap} (x : ndP a zs us vs h1) (k : ∀ o, h1.get? a = some o → h2.get? a = some o) : ndP a zs us vs h2 := by
  obtain ⟨z, b, xs, o, es, ep, c1, c2, c3, c4, c5⟩ := x
  exact ⟨z, b, xs, o, es, ep, c1, c2, c3, k o c4, c5⟩
theorem ndP.ok {P : Program} {w : World} {H : Hp} {a : Addr} {zs : List NestedKey} {us vs : List V} {h : Heap} (x : ndP a zs us vs h) : ObjOk P w H h a (Yi a zs us vs) := by
  obtain ⟨z, b, xs, o, es, ep, c1, c2, c3, c4, c5⟩ := id x
  exact ⟨x, ⟨o, c4⟩, fun h1 h2 p k => p.stay k⟩
theorem Yi.of {P : Program} {w : World} {H : Hp} {a : Addr} {zs : List NestedKey} {us vs : List V} {h : Heap} (x : ObjOk P w H h a (Yi a zs us vs)) : ndP a zs us vs h := x.1
end DM
end
section
namespace DM
open PySem L2
/-! ### data -/
inductive D where
  | non | bl (b : Bool) | int (i : Int) | str (s : Str)
  | lst (xs : List D) | tup (xs : List D)
  | dct (ks : List D) (vs : List D) | v7 (ks : List D) (vs : List D)
/-! keys of dicts that are tuples -/
mutual
def jf : D → Option NestedKey
  | .non => some .none
  | .int i => some (.num i)
  | .tup ds => (iw ds).map .tup
  | _ => none
def iw : List D → Option (List NestedKey)
  | [] => some []
  | d :: ds => match jf d, iw ds with
    | some k, some ks => some (k :: ks)
    | _, _ => none
end
def abC : D → Option NestedKey
  | .tup ds => (iw ds).bind fun ks => if (NestedKey.tup ks).depth ≤ 8 then some (.tup ks) else none
  | _ => none
def PN (H : Hp) (a : Addr) (ks : List D) (us vs : List V) : Prop := ∃ (o : Obj) (zs : List NestedKey), ks.map abC = zs.map some ∧ zs.length = us.length ∧ us.length = vs.length ∧ H a = some (.frz o (Yi a zs us vs))
def UN (H : Hp) (a : Addr) (ks : List D) (us vs : List V) : Prop := ∃ zs : List NestedKey, ks.map abC = zs.map some ∧ zs.length = us.length ∧ us.length = vs.length ∧ H a = some (Yi a zs us vs)
def PD (H : Hp) (a : Addr) (us vs : List V) : Prop := ∃ (o : Obj) (ks : List Key), us = ks.map kV ∧ ks.length = vs.length ∧ H a = some (.frz o (.dK (ks.zip vs)))
def UD (H : Hp) (a : Addr) (us vs : List V) : Prop := ∃ ks : List Key, us = ks.map kV ∧ ks.length = vs.length ∧ H a = some (.dK (ks.zip vs))
def wN : List D → Bool
  | [.non] => true
  | _ => false
mutual
def Dq (K : PySem.W.Frag) (F : Hp) : D → V → Prop
  | .non, v => v = .non
  | .bl b, v => v = .bl b
  | .int i, v => v = .int i
  | .str s, v => v = .str s
  | .lst ds, v => ∃ a vs, v = .ref a ∧ F a = some (.lst vs) ∧ aV K F ds vs
  | .tup ds, v => ∃ a vs, v = .ref a ∧ Yo F a vs ∧ aV K F ds vs
  | .dct ks ds, v => ∃ a us vs, v = .ref a ∧ (wN ks = true ∨ (PD F a us vs ∧ aV K F ks us ∧ aV K F ds vs))
  | .v7 ks ds, v => ∃ a us vs, v = .ref a ∧ PN F a ks us vs ∧ aV K F ks us ∧ aV K F ds vs
def aV (K : PySem.W.Frag) (F : Hp) : List D → List V → Prop
  | [], vs => vs = []
  | d :: ds, vs => ∃ v r, vs = v :: r ∧ Dq K F d v ∧ aV K F ds r
end
def Ext (F F' : Hp) : Prop := ∀ b u, F b = some u → F' b = some u
theorem Ext.refl (F : Hp) : Ext F F := fun _ _ h => h
theorem Ext.trans {F G J : Hp} (a : Ext F G) (b : Ext G J) : Ext F J := fun c u h => b c u (a c u h)
theorem Ext.Gh {K : PySem.W.Frag} {F F' : Hp} {a : Addr} {xs : List V} (e : Ext F F') (h : SqT K F a xs) : SqT K F' a xs := by
  rcases h with (h | ⟨o, h⟩) | h
  · exact .inl (.inl (e _ _ h))
  · exact .inl (.inr ⟨o, e _ _ h⟩)
  · exact .inr h
theorem UD.mono {H H' : Hp} {a : Addr} {us vs : List V} (h : UD H a us vs) (e : ∀ u, H a = some u → H' a = some u) : UD H' a us vs := by
  obtain ⟨ks, h1, h2, h3⟩ := h
  exact ⟨ks, h1, h2, e _ h3⟩
def RD (H : Hp) (a : Addr) (us vs : List V) : Prop := ∃ ks : List Key, us = ks.map kV ∧ ks.length = vs.length ∧ Rd H a (.dK (ks.zip vs))
theorem PD.rd {H : Hp} {a : Addr} {us vs : List V} (h : PD H a us vs) : RD H a us vs := by
  obtain ⟨o, ks, h1, h2, h3⟩ := h
  exact ⟨ks, h1, h2, .inr ⟨o, h3⟩⟩
theorem UD.rd {H : Hp} {a : Addr} {us vs : List V} (h : UD H a us vs) : RD H a us vs := by
  obtain ⟨ks, h1, h2, h3⟩ := h
  exact ⟨ks, h1, h2, .inl h3⟩
theorem PD.mono {H H' : Hp} {a : Addr} {us vs : List V} (h : PD H a us vs) (e : ∀ u, H a = some u → H' a = some u) : PD H' a us vs := by
  obtain ⟨o, ks, h1, h2, h3⟩ := h
  exact ⟨o, ks, h1, h2, e _ h3⟩
theorem PN.mono {H H' : Hp} {a : Addr} {ks : List D} {us vs : List V} (h : PN H a ks us vs) (e : ∀ u, H a = some u → H' a = some u) : PN H' a ks us vs := by
  obtain ⟨o, zs, h1, h2, h3, h4⟩ := h
  exact ⟨o, zs, h1, h2, h3, e _ h4⟩
theorem UN.mono {H H' : Hp} {a : Addr} {ks : List D} {us vs : List V} (h : UN H a ks us vs) (e : ∀ u, H a = some u → H' a = some u) : UN H' a ks us vs := by
  obtain ⟨zs, h1, h2, h3, h4⟩ := h
  exact ⟨zs, h1, h2, h3, e _ h4⟩
theorem Ext.sqN {F F' : Hp} {a : Addr} {xs : List V} (e : Ext F F') (h : Yo F a xs) : Yo F' a xs := by
  obtain ⟨o, n, h⟩ := h
  exact ⟨o, n, e _ _ h⟩
theorem Ext.JC {K : PySem.W.Frag} {F F' : Hp} {a : Addr} {xs : List V} (e : Ext F F') (h : Yo F a xs) : SqT K F' a xs := (e.sqN h).JC
theorem Ext.JL {K : PySem.W.Frag} {F F' : Hp} {a : Addr} {xs : List V} (e : Ext F F') (h : SqL K F a xs) : SqL K F' a xs := by
  rcases h with (h | ⟨o, h⟩) | h
  · exact .inl (.inl (e _ _ h))
  · exact .inl (.inr ⟨o, e _ _ h⟩)
  · exact .inr h
theorem Ext.new {F : Hp} {p : Addr} {o : HO} (h : F p = none) : Ext F (upd F p o) := fun a u e => by
  rw [upd_ne (ne_of_none e h)]
  exact e
mutual
theorem Dq.mono {K : PySem.W.Frag} {F F' : Hp} (e : Ext F F') : ∀ (d : D) (v : V), Dq K F d v → Dq K F' d v
  | .non, _, h => h
  | .bl _, _, h => h
  | .int _, _, h => h
  | .str _, _, h => h
  | .lst ds, v, h => by
    simp only [Dq] at h ⊢
    obtain ⟨a, vs, h1, h2, h3⟩ := h
    exact ⟨a, vs, h1, e _ _ h2, aV.mono e ds vs h3⟩
  | .tup ds, v, h => by
    simp only [Dq] at h ⊢
    obtain ⟨a, vs, h1, h2, h3⟩ := h
    exact ⟨a, vs, h1, e.sqN h2, aV.mono e ds vs h3⟩
  | .dct ks ds, v, h => by
    simp only [Dq] at h ⊢
    obtain ⟨a, us, vs, h1, h2⟩ := h
    rcases h2 with h2 | ⟨h2, h4, h3⟩
    · exact ⟨a, us, vs, h1, .inl h2⟩
    · exact ⟨a, us, vs, h1, .inr ⟨h2.mono (e a), aV.mono e ks us h4, aV.mono e ds vs h3⟩⟩
  | .v7 ks ds, v, h => by
    simp only [Dq] at h ⊢
    obtain ⟨a, us, vs, h1, h2, h4, h3⟩ := h
    exact ⟨a, us, vs, h1, h2.mono (e a), aV.mono e ks us h4, aV.mono e ds vs h3⟩
theorem aV.mono {K : PySem.W.Frag} {F F' : Hp} (e : Ext F F') : ∀ (ds : List D) (vs : List V), aV K F ds vs → aV K F' ds vs
  | [], _, h => h
  | d :: ds, vs, h => by
    simp only [aV] at h ⊢
    obtain ⟨v, r, h1, h2, h3⟩ := h
    exact ⟨v, r, h1, Dq.mono e d v h2, aV.mono e ds r h3⟩
end
section
variable {K : PySem.W.Frag} {F : Hp}
theorem aV.nil : aV K F [] [] := by simp only [aV]
theorem aV.cons {d : D} {ds : List D} {v : V} {vs : List V} (h : Dq K F d v) (t : aV K F ds vs) : aV K F (d :: ds) (v :: vs) := by
  simp only [aV]
  exact ⟨v, vs, rfl, h, t⟩
theorem aV.uncons {d : D} {ds : List D} {vs : List V} (h : aV K F (d :: ds) vs) : ∃ v r, vs = v :: r ∧ Dq K F d v ∧ aV K F ds r := by
  simpa only [aV] using h
theorem aV.nil_iff {vs : List V} (h : aV K F [] vs) : vs = [] := by simpa only [aV] using h
theorem aV.length : ∀ {ds : List D} {vs : List V}, aV K F ds vs → ds.length = vs.length
  | [], vs, h => by rw [h.nil_iff]; rfl
  | d :: ds, vs, h => by
    obtain ⟨v, r, rfl, _, h3⟩ := h.uncons
    rw [List.length_cons, List.length_cons, aV.length h3]
theorem aV.get : ∀ {ds : List D} {vs : List V} {i : Nat} {d : D}, aV K F ds vs → ds[i]? = some d → ∃ v, vs[i]? = some v ∧ Dq K F d v
  | [], _, _, _, _, e => by simp at e
  | d :: ds, vs, 0, d', h, e => by
    obtain ⟨v, r, rfl, h2, _⟩ := h.uncons
    simp at e
    subst e
    exact ⟨v, rfl, h2⟩
  | d :: ds, vs, i + 1, d', h, e => by
    obtain ⟨v, r, rfl, _, h3⟩ := h.uncons
    obtain ⟨w, h4, h5⟩ := aV.get (i := i) h3 (by simpa using e)
    exact ⟨w, by simpa using h4, h5⟩
theorem aV.wO {ds : List D} {vs : List V} {i : Nat} {v : V} (h : aV K F ds vs) (e : vs[i]? = some v) : ∃ d, ds[i]? = some d ∧ Dq K F d v := by
  have hl := h.length
  obtain ⟨hi, _⟩ := List.getElem?_eq_some_iff.mp e
  have hi' : i < ds.length := by omega
  obtain ⟨w, h1, h2⟩ := h.get (List.getElem?_eq_getElem hi')
  rw [e] at h1
  cases h1
  exact ⟨_, List.getElem?_eq_getElem hi', h2⟩
theorem aV.append : ∀ {ds es : List D} {vs ws : List V}, aV K F ds vs → aV K F es ws → aV K F (ds ++ es) (vs ++ ws)
  | [], _, vs, _, h, t => by rw [h.nil_iff]; exact t
  | d :: ds, es, vs, ws, h, t => by
    obtain ⟨v, r, rfl, h2, h3⟩ := h.uncons
    exact .cons h2 (aV.append h3 t)
theorem aV.set {d : D} {v : V} (hd : Dq K F d v) : ∀ {ds : List D} {vs : List V} (i : Nat), aV K F ds vs → aV K F (ds.set i d) (vs.set i v)
  | [], vs, i, h => by rw [h.nil_iff]; exact .nil
  | e :: ds, vs, 0, h => by
    obtain ⟨w, r, rfl, _, h3⟩ := h.uncons
    exact .cons hd h3
  | e :: ds, vs, i + 1, h => by
    obtain ⟨w, r, rfl, h2, h3⟩ := h.uncons
    exact .cons h2 (aV.set hd i h3)
theorem aV.take : ∀ {ds : List D} {vs : List V} (n : Nat), aV K F ds vs → aV K F (ds.take n) (vs.take n)
  | _, _, 0, _ => .nil
  | [], vs, n + 1, h => by rw [h.nil_iff]; exact .nil
  | d :: ds, vs, n + 1, h => by
    obtain ⟨v, r, rfl, h2, h3⟩ := h.uncons
    exact .cons h2 (aV.take n h3)
theorem aV.drop : ∀ {ds : List D} {vs : List V} (n : Nat), aV K F ds vs → aV K F (ds.drop n) (vs.drop n)
  | _, _, 0, h => h
  | [], vs, n + 1, h => by rw [h.nil_iff]; exact .nil
  | d :: ds, vs, n + 1, h => by
    obtain ⟨v, r, rfl, h2, h3⟩ := h.uncons
    exact aV.drop n h3
theorem aV.eraseIdx : ∀ {ds : List D} {vs : List V} (i : Nat), aV K F ds vs → aV K F (ds.eraseIdx i) (vs.eraseIdx i)
  | [], vs, i, h => by rw [h.nil_iff]; exact .nil
  | d :: ds, vs, 0, h => by
    obtain ⟨v, r, rfl, _, h3⟩ := h.uncons
    exact h3
  | d :: ds, vs, i + 1, h => by
    obtain ⟨v, r, rfl, h2, h3⟩ := h.uncons
    exact .cons h2 (aV.eraseIdx i h3)
theorem aV.reverse : ∀ {ds : List D} {vs : List V}, aV K F ds vs → aV K F ds.reverse vs.reverse
  | [], vs, h => by rw [h.nil_iff]; exact .nil
  | d :: ds, vs, h => by
    obtain ⟨v, r, rfl, h2, h3⟩ := h.uncons
    rw [List.reverse_cons, List.reverse_cons]
    exact aV.append (aV.reverse h3) (.cons h2 .nil)
theorem aV.replicate {d : D} {v : V} (h : Dq K F d v) : ∀ n : Nat, aV K F (List.replicate n d) (List.replicate n v)
  | 0 => .nil
  | n + 1 => .cons h (aV.replicate h n)
theorem aV.ints : ∀ {ns : List Int} {vs : List V}, aV K F (ns.map D.int) vs → vs = ns.map V.int
  | [], vs, h => h.nil_iff
  | n :: ns, vs, h => by
    obtain ⟨v, r, rfl, h2, h3⟩ := h.uncons
    have e : v = .int n := by simpa only [Dq] using h2
    rw [e, aV.ints h3]
    rfl
theorem aV.of_ints : ∀ {ns : List Int}, aV K F (ns.map D.int) (ns.map V.int)
  | [] => .nil
  | n :: ns => .cons (by simp only [Dq]) aV.of_ints
end
/-! ### what a name may hold: frozen data; a list, a dict of its own; the script -/
structure Ex where
  jT : Nat
  arg : Option D
inductive Itm where
  | fr (d : D) | ol (xs : List D)
def Itm.fz : Itm → D
  | .fr d => d
  | .ol xs => .lst xs
inductive En where
  | fr (d : D) | ol (xs : List D) | od (ks : List D) (vs : List D) | on (ks : List D) (vs : List D) | d8 (xs : List D) | ex (x : Ex) | pA (xs : List Itm)
def En.fz : En → En
  | .fr d => .fr d
  | .ol xs => .fr (.lst xs)
  | .od _ _ => .fr (.dct [.non] [])
  | .on _ _ => .fr (.dct [.non] [])
  | .d8 xs => .d8 xs
  | .ex x => .ex x
  | .pA xs => .fr (.lst (xs.map Itm.fz))
def En.items : En → Option (List D)
  | .fr (.lst xs) => some xs
  | .fr (.tup xs) => some xs
  | .ol xs => some xs
  | .d8 xs => some xs
  | _ => none
abbrev aq := List (Option En)
inductive Val where
  | en (e : En) | bor (i : Nat)
inductive R (α : Type) where
  | bad | ok (a : α) (ρ : aq) | exc (x : Ex) (ρ : aq)
def R.bind {α β : Type} (r : R α) (g : α → aq → R β) : R β := match r with
  | .bad => .bad
  | .ok a ρ => g a ρ
  | .exc x ρ => .exc x ρ
def v8 {α : Type} (o : Option α) (ρ : aq) : R α := match o with
  | some a => .ok a ρ
  | none => .bad
def pJ {α : Type} (r : R α) (Q : α → aq → Prop) (E : Ex → aq → Prop) : Prop := match r with
  | .bad => False
  | .ok a ρ => Q a ρ
  | .exc x ρ => E x ρ
theorem aH {α β : Type} {r : R α} {g : α → aq → R β} {Q : β → aq → Prop} {E : Ex → aq → Prop} : pJ (r.bind g) Q E ↔ pJ r (fun a ρ => pJ (g a ρ) Q E) E := by
  cases r <;> exact Iff.rfl
theorem fQ {α : Type} {o : Option α} {ρ : aq} {Q : α → aq → Prop} {E : Ex → aq → Prop} (h : pJ (v8 o ρ) Q E) : ∃ a, o = some a ∧ Q a ρ := by
  cases o with
  | none => exact h.elim
  | some a => exact ⟨a, rfl, h⟩
theorem aG {α : Type} {r : R α} {Q Q' : α → aq → Prop} {E E' : Ex → aq → Prop} (h : pJ r Q E) (hq : ∀ a ρ, Q a ρ → Q' a ρ) (he : ∀ x ρ, E x ρ → E' x ρ) : pJ r Q' E' := by
  cases r with
  | bad => exact h
  | ok a ρ => exact hq _ _ h
  | exc x ρ => exact he _ _ h
def look (ρ : aq) : Val → Option En
  | .en e => some e
  | .bor i => (ρ[i]?).join
/-! ### how a value lies -/
def S9 : List (String × String × String) := [("NoPerson", "person", "LookupError"), ("NoSeat", "seat", "LookupError"), ("NoNumber", "number", "LookupError"), ("NoDeed", "many", "LookupError"), ("OtherPeople", "many", "ValueError"), ("BadDeed", "at", "ValueError"), ("BadText", "text", "ValueError"), ("BadLine", "at", "ValueError"),
  ("Empty", "person", "RuntimeError"), ("Barred", "reason", "RuntimeError"), ("Stops", "many", "RuntimeError"), ("Few", "", "RuntimeError"), ("TooMany", "many", "OverflowError"), ("Full", "many", "OverflowError")]
def Mz (c : Nat) : Str := Str.ofString (S9.getD c ("", "", "")).1
def Ar (c : Nat) : Str := Str.ofString (S9.getD c ("", "", "")).2.1
def JD (K : PySem.W.Frag) (c : Nat) : Addr := match PySem.W.nsIn K mainGlobals (Mz c) with
  | some (some (.ref a)) => a
  | _ => 0
def exH (a C dd : Addr) : HO := .ext fun h => ∃ oe : Obj, h.get? a = some oe ∧ oe.cls = .ref C ∧ oe.dict = some dd ∧ ∃ vs, oe.data = .fields vs
def RpI (K : PySem.W.Frag) (F H : Hp) : Itm → V → Prop
  | .fr d, y => Dq K F d y
  | .ol xs, y => ∃ a us, y = .ref a ∧ H a = some (.lst us) ∧ aV K F xs us
def Sv (its : List Itm) (vs : List V) (a : Addr) : Prop := ∃ (i : Nat) (xs : List D), its[i]? = some (.ol xs) ∧ vs[i]? = some (.ref a)
def Rp (K : PySem.W.Frag) (F H : Hp) : En → V → Prop
  | .fr d, v => Dq K F d v
  | .ol ds, v => ∃ a vs, v = .ref a ∧ H a = some (.lst vs) ∧ aV K F ds vs
  | .od ks ds, v => ∃ a us vs, v = .ref a ∧ UD H a us vs ∧ aV K F ks us ∧ aV K F ds vs
  | .on ks ds, v => ∃ a us vs, v = .ref a ∧ UN H a ks us vs ∧ aV K F ks us ∧ aV K F ds vs
  | .d8 ds, v => ∃ a vs, v = .ref a ∧ SqL K F a vs ∧ aV K F ds vs
  | .ex x, v => ∃ a dd u d, v = .ref a ∧ F a = some (exH a (JD K x.jT) dd) ∧ F dd = some (.xd [(Ar x.jT, u)]) ∧ x.arg = some d ∧ Dq K F d u
  | .pA its, v => ∃ (p : Addr) (vs : List V), v = .ref p ∧ H p = some (.lst vs) ∧ its.length = vs.length ∧ (∀ (i : Nat) (x : Itm) (y : V), its[i]? = some x → vs[i]? = some y → RpI K F H x y) ∧ ¬ Sv its vs p ∧
      ∀ (i j : Nat) (a : Addr) (xs ys : List D), its[i]? = some (.ol xs) → its[j]? = some (.ol ys) → vs[i]? = some (.ref a) → vs[j]? = some (.ref a) → i = j
def Ow (H : Hp) : En → V → Addr → Prop
  | .ol _, v, a => v = .ref a
  | .od _ _, v, a => v = .ref a
  | .on _ _, v, a => v = .ref a
  | .pA its, v, a => ∃ (p : Addr) (vs : List V), v = .ref p ∧ H p = some (.lst vs) ∧ (a = p ∨ Sv its vs a)
  | _, _, _ => False
inductive Wh where
  | s (i : Nat) | t (j : Nat)
abbrev Tm := List (Val × V)
def At (σ : L2.St) (ρ : aq) (T : Tm) : Wh → En → V → Prop
  | .s i, e, v => ρ[i]? = some (some e) ∧ σ[i]? = some (some v)
  | .t j, e, v => T[j]? = some (.en e, v)
structure Og where
  F : Hp
  H : Hp
  O : Addr → Prop
  lk : Nat → Option V
structure Cs where
  K : PySem.W.Frag
  L : List Nat
  cs : List Nat
structure SM (C : Cs) (o : Og) (F H : Hp) (σ : L2.St) (ρ : aq) (T : Tm) : Prop where
  sub : Ext F H
  len : ρ.length = σ.length
  has : ∀ (i : Nat) (e : En), ρ[i]? = some (some e) → ∃ v, σ[i]? = some (some v)
  rep : ∀ p e v, At σ ρ T p e v → Rp C.K F H e v
  bor : ∀ (j i : Nat) (v : V), T[j]? = some (.bor i, v) → σ[i]? = some (some v) ∧ (∃ e, ρ[i]? = some (some e)) ∧ i ∉ C.cs
  sep : ∀ p q e e' v v' a, p ≠ q → At σ ρ T p e v → At σ ρ T q e' v' → Ow H e v a → ¬ Ow H e' v' a
  own : ∀ p e v a, At σ ρ T p e v → Ow H e v a → F a = none ∧ (o.O a ∨ o.H a = none)
  ext : Ext o.F F
  keep : ∀ b u, ¬ o.O b → o.H b = some u → H b = some u
  new : ∀ b, o.F b = none → F b ≠ none → (o.O b ∨ o.H b = none)
  lk : ∀ (i : Nat) (v : V), o.lk i = some v → σ[i]? = some (some v)
  uG : ∀ i, i ∉ C.L → o.lk i = none
structure Grow (F H F' H' : Hp) : Prop where
  f : Ext F F'
  h : Ext H H'
  sub : Ext F' H'
  new : ∀ b, F b = none → F' b ≠ none → H b = none
theorem Grow.refl {F H : Hp} (s : Ext F H) : Grow F H F H := ⟨Ext.refl F, Ext.refl H, s, fun _ a b => absurd a b⟩
theorem Grow.trans {F H F1 H1 F2 H2 : Hp} (a : Grow F H F1 H1) (b : Grow F1 H1 F2 H2) : Grow F H F2 H2 :=
  ⟨a.f.trans b.f, a.h.trans b.h, b.sub, fun x h1 h2 => by
    cases e : F1 x with
    | none =>
      have h3 := b.new x e h2
      cases e2 : H x with
      | none => rfl
      | some u => rw [a.h x u e2] at h3; cases h3
    | some u => exact a.new x h1 (by rw [e]; simp)⟩
theorem Grow.obj {F H : Hp} (s : Ext F H) {p : Addr} {o : HO} (hp : H p = none) : Grow F H (upd F p o) (upd H p o) := by
  have fp : F p = none := by
    cases e : F p with
    | none => rfl
    | some u => rw [s p u e] at hp; cases hp
  refine ⟨Ext.new fp, Ext.new hp, fun b u e => ?_, fun b h1 h2 => ?_⟩
  · by_cases hb : b = p
    · subst hb; rw [upd_same] at e ⊢; exact e
    · rw [upd_ne hb] at e ⊢; exact s b u e
  · by_cases hb : b = p
    · subst hb; exact hp
    · rw [upd_ne hb] at h2; exact absurd h1 h2
theorem Grow.junk {F H : Hp} (s : Ext F H) {p : Addr} {o : HO} (hp : H p = none) : Grow F H F (upd H p o) :=
  ⟨Ext.refl F, Ext.new hp, s.trans (Ext.new hp), fun _ h1 h2 => absurd h1 h2⟩
section
variable {C : Cs} {o : Og} {F H F' H' : Hp} {σ : L2.St} {ρ : aq} {T : Tm}
theorem RpI.mono {K : PySem.W.Frag} {x : Itm} {y : V} (f : Ext F F') (h : ∀ b u, (∃ xs, x = .ol xs) ∧ y = .ref b → H b = some u → H' b = some u) (r : RpI K F H x y) : RpI K F' H' x y := by
  cases x with
  | fr d => exact Dq.mono f d y r
  | ol xs => obtain ⟨a, us, h1, h2, h3⟩ := r; exact ⟨a, us, h1, h a _ ⟨⟨xs, rfl⟩, h1⟩ h2, aV.mono f _ _ h3⟩
theorem Rp.mono {K : PySem.W.Frag} {e : En} {v : V} (f : Ext F F') (h : Ext H H') (r : Rp K F H e v) : Rp K F' H' e v := by
  cases e with
  | fr d => exact Dq.mono f d v r
  | ol ds => obtain ⟨a, vs, h1, h2, h3⟩ := r; exact ⟨a, vs, h1, h _ _ h2, aV.mono f _ _ h3⟩
  | od ks ds => obtain ⟨a, us, vs, h1, h2, h4, h3⟩ := r; exact ⟨a, us, vs, h1, h2.mono (h a), aV.mono f _ _ h4, aV.mono f _ _ h3⟩
  | on ks ds => obtain ⟨a, us, vs, h1, h2, h4, h3⟩ := r; exact ⟨a, us, vs, h1, h2.mono (h a), aV.mono f _ _ h4, aV.mono f _ _ h3⟩
  | d8 ds => obtain ⟨a, vs, h1, h2, h3⟩ := r; exact ⟨a, vs, h1, f.JL h2, aV.mono f _ _ h3⟩
  | ex x => obtain ⟨a, dd, u, d, h1, h2, h3, h4, h5⟩ := r; exact ⟨a, dd, u, d, h1, f _ _ h2, f _ _ h3, h4, Dq.mono f _ _ h5⟩
  | pA its => obtain ⟨p, vs, h1, h2, h3, h4, h5, h6⟩ := r; exact ⟨p, vs, h1, h _ _ h2, h3, fun i x y e1 e2 => (h4 i x y e1 e2).mono f fun b u _ q => h b u q, h5, h6⟩
theorem Rp.at {K : PySem.W.Frag} {e : En} {v : V} {a : Addr} (r : Rp K F H e v) (w : Ow H e v a) : ∃ u, H a = some u := by
  cases e with
  | fr d => exact w.elim
  | ol ds => obtain ⟨b, vs, h1, h2, _⟩ := r; have w' : v = .ref a := w; rw [h1] at w'; cases w'; exact ⟨_, h2⟩
  | od ks ds => obtain ⟨b, us, vs, h1, ⟨_, _, _, h2⟩, _⟩ := r; have w' : v = .ref a := w; rw [h1] at w'; cases w'; exact ⟨_, h2⟩
  | on ks ds => obtain ⟨b, us, vs, h1, ⟨_, _, _, _, h2⟩, _⟩ := r; have w' : v = .ref a := w; rw [h1] at w'; cases w'; exact ⟨_, h2⟩
  | d8 ds => exact w.elim
  | ex x => exact w.elim
  | pA its =>
    obtain ⟨p, vs, h1, h2, h3, h4, _⟩ := r
    obtain ⟨q, ws, w1, w2, w3⟩ := w
    rw [h1] at w1
    cases w1
    rw [h2] at w2
    cases w2
    rcases w3 with rfl | ⟨i, xs, e1, e2⟩
    · exact ⟨_, h2⟩
    · obtain ⟨b, us, k1, k2, _⟩ := h4 i _ _ e1 e2
      cases k1
      exact ⟨_, k2⟩
theorem Ow.stay {K : PySem.W.Frag} {e : En} {v : V} {a : Addr} (r : Rp K F H e v) (k : ∀ b u, Ow H e v b → H b = some u → H' b = some u) : Ow H' e v a ↔ Ow H e v a := by
  cases e with
  | pA its =>
    obtain ⟨p, vs, h1, h2, _⟩ := r
    have h2' : H' p = some (.lst vs) := k p _ ⟨p, _, h1, h2, .inl rfl⟩ h2
    constructor
    · rintro ⟨q, ws, w1, w2, w3⟩
      rw [h1] at w1
      cases w1
      rw [h2'] at w2
      cases w2
      exact ⟨p, _, h1, h2, w3⟩
    · rintro ⟨q, ws, w1, w2, w3⟩
      rw [h1] at w1
      cases w1
      rw [h2] at w2
      cases w2
      exact ⟨p, _, h1, h2', w3⟩
  | _ => exact Iff.rfl
theorem Ow.back {K : PySem.W.Frag} {e : En} {v : V} {a : Addr} (r : Rp K F H e v) (h : Ext H H') (w : Ow H' e v a) : Ow H e v a := (Ow.stay r fun b u _ q => h b u q).mp w
theorem SM.grow (S : SM C o F H σ ρ T) (g : Grow F H F' H') : SM C o F' H' σ ρ T where
  sub := g.sub
  len := S.len
  has := S.has
  rep := fun p e v a => (S.rep p e v a).mono g.f g.h
  bor := S.bor
  sep := fun p q e e' v v' a ne h1 h2 w1 w2 => S.sep p q e e' v v' a ne h1 h2 (w1.back (S.rep p e v h1) g.h) (w2.back (S.rep q e' v' h2) g.h)
  own := fun p e v a h w => by
    have w := w.back (S.rep p e v h) g.h
    obtain ⟨h1, h2⟩ := S.own p e v a h w
    refine ⟨?_, h2⟩
    cases q : F' a with
    | none => rfl
    | some u =>
      have h3 := g.new a h1 (by rw [q]; simp)
      obtain ⟨u', h4⟩ := (S.rep p e v h).at w
      rw [h3] at h4; cases h4
  ext := S.ext.trans g.f
  keep := fun b u h1 h2 => g.h b u (S.keep b u h1 h2)
  new := fun b h1 h2 => by
    cases q : F b with
    | none =>
      have h3 := g.new b q h2
      by_cases z : o.O b
      · exact .inl z
      · right
        cases q2 : o.H b with
        | none => rfl
        | some u => rw [S.keep b u z q2] at h3; cases h3
    | some u => exact S.new b h1 (by rw [q]; simp)
  lk := S.lk
  uG := S.uG
theorem At.succ {σ : L2.St} {ρ : aq} {T : Tm} {x : Val × V} : ∀ {p : Wh} {e : En} {v : V}, At σ ρ (x :: T) p e v → (p = .t 0 ∧ x = (.en e, v)) ∨ ∃ q, At σ ρ T q e v ∧ ((∃ i, p = .s i ∧ q = .s i) ∨ ∃ j, p = .t (j + 1) ∧ q = .t j)
  | .s i, _, _, h => .inr ⟨.s i, h, .inl ⟨i, rfl, rfl⟩⟩
  | .t 0, _, _, h => .inl ⟨rfl, by simpa [At] using h⟩
  | .t (j + 1), _, _, h => .inr ⟨.t j, by simpa [At] using h, .inr ⟨j, rfl, rfl⟩⟩
theorem At.up {σ : L2.St} {ρ : aq} {T : Tm} {x : Val × V} : ∀ {p : Wh} {e : En} {v : V}, At σ ρ T p e v → ∃ q, At σ ρ (x :: T) q e v ∧ ((∃ i, p = .s i ∧ q = .s i) ∨ ∃ j, p = .t j ∧ q = .t (j + 1))
  | .s i, _, _, h => ⟨.s i, h, .inl ⟨i, rfl, rfl⟩⟩
  | .t j, _, _, h => ⟨.t (j + 1), by simpa [At] using h, .inr ⟨j, rfl, rfl⟩⟩
theorem SM.drop {x : Val × V} (S : SM C o F H σ ρ (x :: T)) : SM C o F H σ ρ T where
  sub := S.sub
  len := S.len
  has := S.has
  rep := fun p e v a => by obtain ⟨q, h, _⟩ := a.up (x := x); exact S.rep q e v h
  bor := fun j i v h => S.bor (j + 1) i v (by simpa using h)
  sep := fun p q e e' v v' a ne h1 h2 => by
    obtain ⟨p', k1, c1⟩ := h1.up (x := x)
    obtain ⟨q', k2, c2⟩ := h2.up (x := x)
    refine S.sep p' q' e e' v v' a (fun z => ne ?_) k1 k2
    rcases c1 with ⟨i, rfl, rfl⟩ | ⟨i, rfl, rfl⟩ <;> rcases c2 with ⟨j, rfl, rfl⟩ | ⟨j, rfl, rfl⟩ <;> first | (cases z; rfl) | cases z
  own := fun p e v a h w => by obtain ⟨q, h', _⟩ := h.up (x := x); exact S.own q e v a h' w
  ext := S.ext
  keep := S.keep
  new := S.new
  lk := S.lk
  uG := S.uG
theorem SM.push {e : En} {v : V} (S : SM C o F H σ ρ T) (r : Rp C.K F H e v) (w : ∀ a, Ow H e v a → F a = none ∧ (o.O a ∨ o.H a = none) ∧ ∀ p e' v', At σ ρ T p e' v' → ¬ Ow H e' v' a) : SM C o F H σ ρ ((.en e, v) :: T) where
  sub := S.sub
  len := S.len
  has := S.has
  rep := fun p e' v' a => by
    rcases a.succ with ⟨_, z⟩ | ⟨q, h, _⟩
    · cases z; exact r
    · exact S.rep q e' v' h
  bor := fun j i v' h => by
    cases j with
    | zero => simp at h
    | succ j => exact S.bor j i v' (by simpa using h)
  sep := fun p q e1 e2 v1 v2 a ne h1 h2 w1 w2 => by
    rcases h1.succ with ⟨rfl, z⟩ | ⟨p', k1, c1⟩
    · cases z
      rcases h2.succ with ⟨rfl, _⟩ | ⟨q', k2, _⟩
      · exact ne rfl
      · exact (w a w1).2.2 q' e2 v2 k2 w2
    · rcases h2.succ with ⟨rfl, z⟩ | ⟨q', k2, c2⟩
      · cases z
        exact (w a w2).2.2 p' e1 v1 k1 w1
      · refine S.sep p' q' e1 e2 v1 v2 a (fun z => ne ?_) k1 k2 w1 w2
        rcases c1 with ⟨i, rfl, rfl⟩ | ⟨i, rfl, rfl⟩ <;> rcases c2 with ⟨j, rfl, rfl⟩ | ⟨j, rfl, rfl⟩ <;> first | (cases z; rfl) | cases z
  own := fun p e' v' a h w' => by
    rcases h.succ with ⟨_, z⟩ | ⟨q, h', _⟩
    · cases z; exact ⟨(w a w').1, (w a w').2.1⟩
    · exact S.own q e' v' a h' w'
  ext := S.ext
  keep := S.keep
  new := S.new
  lk := S.lk
  uG := S.uG
theorem SM.cV {d : D} {v : V} (S : SM C o F H σ ρ T) (r : Dq C.K F d v) : SM C o F H σ ρ ((.en (.fr d), v) :: T) := S.push r fun _ w => w.elim
theorem SM.pK {i : Nat} {v : V} {e : En} (S : SM C o F H σ ρ T) (h1 : σ[i]? = some (some v)) (h2 : ρ[i]? = some (some e)) (h3 : i ∉ C.cs) : SM C o F H σ ρ ((.bor i, v) :: T) where
  sub := S.sub
  len := S.len
  has := S.has
  rep := fun p e' v' a => by
    rcases a.succ with ⟨_, z⟩ | ⟨q, h, _⟩
    · cases z
    · exact S.rep q e' v' h
  bor := fun j k v' h => by
    cases j with
    | zero => simp at h; obtain ⟨rfl, rfl⟩ := h; exact ⟨h1, ⟨e, h2⟩, h3⟩
    | succ j => exact S.bor j k v' (by simpa using h)
  sep := fun p q e1 e2 v1 v2 a ne h1 h2 w1 w2 => by
    rcases h1.succ with ⟨_, z⟩ | ⟨p', k1, c1⟩
    · cases z
    · rcases h2.succ with ⟨_, z⟩ | ⟨q', k2, c2⟩
      · cases z
      · refine S.sep p' q' e1 e2 v1 v2 a (fun z => ne ?_) k1 k2 w1 w2
        rcases c1 with ⟨i, rfl, rfl⟩ | ⟨i, rfl, rfl⟩ <;> rcases c2 with ⟨j, rfl, rfl⟩ | ⟨j, rfl, rfl⟩ <;> first | (cases z; rfl) | cases z
  own := fun p e' v' a h w' => by
    rcases h.succ with ⟨_, z⟩ | ⟨q, h', _⟩
    · cases z
    · exact S.own q e' v' a h' w'
  ext := S.ext
  keep := S.keep
  new := S.new
  lk := S.lk
  uG := S.uG
inductive jg (K : PySem.W.Frag) (F H : Hp) : Hp → Hp → En → V → Prop
  | old {F' H' : Hp} {d : D} {v : V} : Grow F H F' H' → Dq K F' d v → jg K F H F' H' (.fr d) v
  | lst {F' H' : Hp} {p : Addr} {ds : List D} {vs : List V} : Grow F H F' H' → H' p = none → aV K F' ds vs → jg K F H F' (upd H' p (.lst vs)) (.ol ds) (.ref p)
  | dct {F' H' : Hp} {p : Addr} {kz : List Key} {ks ds : List D} {vs : List V} : Grow F H F' H' → H' p = none → kz.length = vs.length → aV K F' ks (kz.map kV) → aV K F' ds vs → jg K F H F' (upd H' p (.dK (kz.zip vs))) (.od ks ds) (.ref p)
  | v7 {F' H' : Hp} {p : Addr} {zs : List NestedKey} {ks ds : List D} {us vs : List V} : Grow F H F' H' → H' p = none → ks.map abC = zs.map some → zs.length = us.length → us.length = vs.length → aV K F' ks us → aV K F' ds vs → jg K F H F' (upd H' p (Yi p zs us vs)) (.on ks ds) (.ref p)
  | d8 {F' H' : Hp} {v : V} {ds : List D} : Grow F H F' H' → Rp K F' H' (.d8 ds) v → jg K F H F' H' (.d8 ds) v
theorem jg.tup {K : PySem.W.Frag} (s : Ext F H) {o : Obj} {p : Addr} {ds : List D} {vs : List V} (nd : Nd o) (hp : H p = none) (h : aV K F ds vs) : jg K F H (upd F p (.frz o (.tup vs))) (upd H p (.frz o (.tup vs))) (.fr (.tup ds)) (.ref p) := by
  have g := Grow.obj s (o := .frz o (.tup vs)) hp
  refine .old g ?_
  simp only [Dq]
  exact ⟨p, vs, rfl, ⟨o, nd, upd_same⟩, aV.mono g.f _ _ h⟩
theorem SM.alloc {e : En} {v : V} (S : SM C o F H σ ρ T) (a : jg C.K F H F' H' e v) : SM C o F' H' σ ρ ((.en e, v) :: T) := by
  have key : ∀ {F1 H1 : Hp} {p : Addr} {u : HO} {e : En}, Grow F H F1 H1 → H1 p = none → Rp C.K F1 (upd H1 p u) e (.ref p) → (∀ a, Ow (upd H1 p u) e (.ref p) a → a = p) → SM C o F1 (upd H1 p u) σ ρ ((.en e, .ref p) :: T) := by
    intro F1 H1 p u e g hp r hw
    have S1 := S.grow g
    have S2 := S1.grow (Grow.junk (o := u) S1.sub hp)
    refine S2.push r fun a w => ?_
    have e1 : a = p := hw a w
    subst e1
    refine ⟨?_, ?_, fun q e' v' h w' => ?_⟩
    · cases q : F1 a with
      | none => rfl
      | some x => rw [S1.sub a x q] at hp; cases hp
    · by_cases z : o.O a
      · exact .inl z
      · right
        cases q : o.H a with
        | none => rfl
        | some x => rw [S1.keep a x z q] at hp; cases hp
    · obtain ⟨x, hx⟩ := (S1.rep q e' v' h).at (w'.back (S1.rep q e' v' h) (Grow.junk S1.sub hp).h)
      rw [hp] at hx; cases hx
  cases a with
  | old g h => exact (S.grow g).cV h
  | lst g hp h => exact key g hp ⟨_, _, rfl, upd_same, h⟩ fun a w => by cases w; rfl
  | dct g hp hl hk h => exact key g hp ⟨_, _, _, rfl, ⟨_, rfl, hl, upd_same⟩, hk, h⟩ fun a w => by cases w; rfl
  | v7 g hp e hl hm hk h => exact key g hp ⟨_, _, _, rfl, ⟨_, e, hl, hm, upd_same⟩, hk, h⟩ fun a w => by cases w; rfl
  | d8 g h => exact (S.grow g).push h fun _ w => w.elim
theorem SM.look {j : Nat} {val : Val} {v : V} {e : En} (S : SM C o F H σ ρ T) (h : T[j]? = some (val, v)) (l : look ρ val = some e) : Rp C.K F H e v := by
  cases val with
  | en e' =>
    have z : e' = e := Option.some.inj l
    subst z
    exact S.rep (.t j) e' v h
  | bor i =>
    obtain ⟨h1, ⟨e', h2⟩, _⟩ := S.bor j i v h
    have z : (ρ[i]?).join = some e := l
    rw [h2] at z
    have z' : e' = e := Option.some.inj z
    subst z'
    exact S.rep (.s i) e' v ⟨h2, h1⟩
end
end DM
end
section
namespace DM
open PySem L2
/-! ### the state, its aaO moved -/
theorem SM.emb {C : Cs} {o : Og} {F H : Hp} {σ : L2.St} {ρ : aq} {T T' : Tm} (S : SM C o F H σ ρ T) (f : Nat → Nat) (hf : ∀ (j : Nat) (x : Val × V), T'[j]? = some x → T[f j]? = some x) (inj : ∀ i j, f i = f j → i = j) : SM C o F H σ ρ T' := by
  have up : ∀ {p : Wh} {e : En} {v : V}, At σ ρ T' p e v → ∃ q, At σ ρ T q e v ∧ ((∃ i, p = .s i ∧ q = .s i) ∨ ∃ j, p = .t j ∧ q = .t (f j)) := fun {p e v} h => by
    cases p with
    | s i => exact ⟨.s i, h, .inl ⟨i, rfl, rfl⟩⟩
    | t j => exact ⟨.t (f j), hf j _ h, .inr ⟨j, rfl, rfl⟩⟩
  exact {
    sub := S.sub
    len := S.len
    has := S.has
    rep := fun p e v a => by obtain ⟨q, h, _⟩ := up a; exact S.rep q e v h
    bor := fun j i v h => S.bor (f j) i v (hf j _ h)
    sep := fun p q e e' v v' a ne h1 h2 => by
      obtain ⟨p', k1, c1⟩ := up h1
      obtain ⟨q', k2, c2⟩ := up h2
      refine S.sep p' q' e e' v v' a (fun z => ne ?_) k1 k2
      rcases c1 with ⟨i, rfl, rfl⟩ | ⟨i, rfl, rfl⟩ <;> rcases c2 with ⟨j, rfl, rfl⟩ | ⟨j, rfl, rfl⟩
      · cases z; rfl
      · cases z
      · cases z
      · rw [inj i j (Wh.t.inj z)]
    own := fun p e v a h w => by obtain ⟨q, h', _⟩ := up h; exact S.own q e v a h' w
    ext := S.ext
    keep := S.keep
    new := S.new
    lk := S.lk
    uG := S.uG }
theorem SM.under {C : Cs} {o : Og} {F H : Hp} {σ : L2.St} {ρ : aq} {T : Tm} {x : Val × V} (Y : Tm) (S : SM C o F H σ ρ (x :: (Y ++ T))) : SM C o F H σ ρ (x :: T) :=
  S.emb (fun j => if j = 0 then 0 else j + Y.length) (fun j x h => by
    cases j with
    | zero => simpa using h
    | succ j =>
      rw [if_neg (by omega), show j + 1 + Y.length = (Y.length + j) + 1 by omega, List.getElem?_cons_succ, List.getElem?_append_right (by omega)]
      simpa using h) (fun i j h => by
    by_cases hi : i = 0 <;> by_cases hj : j = 0 <;> simp only [hi, hj, if_true, if_false] at h <;> omega)
theorem SM.Gi {C : Cs} {o : Og} {F H : Hp} {σ : L2.St} {ρ : aq} {T : Tm} {val : Val} {v : V} {e : En} (S : SM C o F H σ ρ T) (h : (val, v) ∈ T) (l : DM.look ρ val = some e) : Rp C.K F H e v := by
  obtain ⟨j, hj⟩ := List.getElem?_of_mem h
  exact S.look hj l
/-! ### another beginning -/
def now (F H : Hp) (σ : L2.St) (ρ : aq) (T : Tm) (lk : Nat → Option V) : Og := ⟨F, H, fun a => ∃ p e v, At σ ρ T p e v ∧ Ow H e v a, lk⟩
theorem SM.base {C : Cs} {o : Og} {F H : Hp} {σ : L2.St} {ρ : aq} {T : Tm} (S : SM C o F H σ ρ T) : SM C (now F H σ ρ T o.lk) F H σ ρ T :=
  ⟨S.sub, S.len, S.has, S.rep, S.bor, S.sep, fun p e v a h w => ⟨(S.own p e v a h w).1, .inl ⟨p, e, v, h, w⟩⟩, Ext.refl F, fun _ _ _ h => h, fun _ h1 h2 => absurd h1 h2, S.lk, S.uG⟩
theorem SM.old {C : Cs} {o : Og} {F H : Hp} {σ : L2.St} {ρ : aq} {T : Tm} (S : SM C o F H σ ρ T) {b : Addr} (h : (now F H σ ρ T o.lk).O b ∨ H b = none) : o.O b ∨ o.H b = none := by
  rcases h with ⟨p, e, v, h, w⟩ | h
  · exact (S.own p e v b h w).2
  · by_cases z : o.O b
    · exact .inl z
    · right
      cases q : o.H b with
      | none => rfl
      | some u => rw [S.keep b u z q] at h; cases h
theorem SM.oF {C : Cs} {o : Og} {F H F' H' : Hp} {σ σ' : L2.St} {ρ ρ' : aq} {T T' : Tm} (S : SM C o F H σ ρ T) (N : SM C (now F H σ ρ T o.lk) F' H' σ' ρ' T') : SM C o F' H' σ' ρ' T' :=
  ⟨N.sub, N.len, N.has, N.rep, N.bor, N.sep, fun p e v a h w => ⟨(N.own p e v a h w).1, S.old (N.own p e v a h w).2⟩, S.ext.trans N.ext, fun b u h1 h2 => N.keep b u (fun z => by
      rcases S.old (.inl z) with q | q
      · exact h1 q
      · rw [q] at h2; cases h2) (S.keep b u h1 h2), fun b h1 h2 => by
      cases q : F b with
      | none => exact S.old (N.new b q h2)
      | some u => exact S.new b h1 (by rw [q]; simp), N.lk, N.uG⟩
/-! ### what a reading does -/
abbrev ZX := Ex → Hp → Hp → L2.St → aq → Prop
def Impl (C : Cs) (Z : ZX) (te : TE) (f : aq → R Val) : Prop :=
  ∀ (o : Og) (F H : Hp) (σ : L2.St) (ρ : aq) (T : Tm) (Q : VK), SM C o F H σ ρ T →
    pJ (f ρ) (fun val ρ' => ∀ F' H' v, SM C o F' H' σ ρ' ((val, v) :: T) → Q v H') (fun x ρ' => ∀ F' H', SM C o F' H' σ ρ' T → Z x F' H' σ ρ') → te σ H Q
def fV (C : Cs) (Z : ZX) (tt : TT) (f : aq → R Bool) : Prop :=
  ∀ (o : Og) (F H : Hp) (σ : L2.St) (ρ : aq) (T : Tm) (Q : Bool → Hp → Prop), SM C o F H σ ρ T →
    pJ (f ρ) (fun b ρ' => ∀ F' H', SM C o F' H' σ ρ' T → Q b H') (fun x ρ' => ∀ F' H', SM C o F' H' σ ρ' T → Z x F' H' σ ρ') → tt σ H Q
def stack (vals : List Val) (vs : List V) : Tm := (vals.zip vs).reverse
def jP (C : Cs) (Z : ZX) (ta : TA) (f : aq → R (List Val)) : Prop :=
  ∀ (o : Og) (F H : Hp) (σ : L2.St) (ρ : aq) (T : Tm) (Q : List V → Hp → Prop), SM C o F H σ ρ T →
    pJ (f ρ) (fun vals ρ' => ∀ F' H' vs, vals.length = vs.length → SM C o F' H' σ ρ' (stack vals vs ++ T) → Q vs H') (fun x ρ' => ∀ F' H', SM C o F' H' σ ρ' T → Z x F' H' σ ρ') → ta σ H Q
def Gj (C : Cs) (Z : ZX) (to : TO) (f : aq → R (Option Int)) : Prop :=
  ∀ (o : Og) (F H : Hp) (σ : L2.St) (ρ : aq) (T : Tm) (Q : Option Int → Hp → Prop), SM C o F H σ ρ T →
    pJ (f ρ) (fun b ρ' => ∀ F' H', SM C o F' H' σ ρ' T → Q b H') (fun x ρ' => ∀ F' H', SM C o F' H' σ ρ' T → Z x F' H' σ ρ') → to σ H Q
theorem Impl.ext {C : Cs} {Z : ZX} {te : TE} {f : aq → R Val} (h : Impl C Z te f) {o : Og} {F H : Hp} {σ : L2.St} {ρ : aq} {T : Tm} {Q : VK} (S : SM C o F H σ ρ T)
    (q : pJ (f ρ) (fun val ρ' => ∀ F' H' v, Ext F F' → SM C o F' H' σ ρ' ((val, v) :: T) → Q v H') (fun x ρ' => ∀ F' H', SM C o F' H' σ ρ' T → Z x F' H' σ ρ')) : te σ H Q :=
  h _ F H σ ρ T Q S.base (aG q (fun _ _ k F' H' v N => k F' H' v N.ext (S.oF N)) fun _ _ k F' H' N => k F' H' (S.oF N))
theorem fV.ext {C : Cs} {Z : ZX} {tt : TT} {f : aq → R Bool} (h : fV C Z tt f) {o : Og} {F H : Hp} {σ : L2.St} {ρ : aq} {T : Tm} {Q : Bool → Hp → Prop} (S : SM C o F H σ ρ T)
    (q : pJ (f ρ) (fun b ρ' => ∀ F' H', Ext F F' → SM C o F' H' σ ρ' T → Q b H') (fun x ρ' => ∀ F' H', SM C o F' H' σ ρ' T → Z x F' H' σ ρ')) : tt σ H Q :=
  h _ F H σ ρ T Q S.base (aG q (fun _ _ k F' H' N => k F' H' N.ext (S.oF N)) fun _ _ k F' H' N => k F' H' (S.oF N))
def ao (i : Nat) (ρ : aq) : R Val := match (ρ[i]?).join with
  | some (.fr d) => .ok (.en (.fr d)) ρ
  | some (.d8 xs) => .ok (.en (.d8 xs)) ρ
  | some _ => .ok (.bor i) ρ
  | none => .bad
def cJ (i : Nat) (ρ : aq) : R Val := match (ρ[i]?).join with
  | some (.fr d) => .ok (.en (.fr d)) ρ
  | some (.d8 xs) => .ok (.en (.d8 xs)) ρ
  | _ => .bad
section
variable {C : Cs} {Z : ZX}
theorem join_some {α : Type} {o : Option (Option α)} {a : α} (h : o.join = some a) : o = some (some a) := by
  cases o with
  | none => cases h
  | some x => cases x with
    | none => cases h
    | some y => cases h; rfl
theorem Tc {i : Nat} (hc : i ∉ C.cs) : Impl C Z (tVar i) (ao i) := by
  intro o F H σ ρ T Q S h
  unfold ao at h
  cases q : (ρ[i]?).join with
  | none => rw [q] at h; exact h.elim
  | some e =>
    have q' := join_some q
    obtain ⟨v, hv⟩ := S.has i e q'
    rw [q] at h
    have r : Rp C.K F H e v := S.rep (.s i) e v ⟨q', hv⟩
    refine ⟨v, hv, ?_⟩
    cases e with
    | fr d => exact h F H v (S.cV r)
    | d8 xs => exact h F H v (S.push r fun _ w => w.elim)
    | ol xs => exact h F H v (S.pK hv q' hc)
    | ex x => exact h F H v (S.pK hv q' hc)
    | pA x => exact h F H v (S.pK hv q' hc)
    | od ks vs => exact h F H v (S.pK hv q' hc)
    | on ks vs => exact h F H v (S.pK hv q' hc)
theorem Py {i : Nat} : Impl C Z (tVar i) (cJ i) := by
  intro o F H σ ρ T Q S h
  unfold cJ at h
  cases q : (ρ[i]?).join with
  | none => rw [q] at h; exact h.elim
  | some e =>
    have q' := join_some q
    obtain ⟨v, hv⟩ := S.has i e q'
    rw [q] at h
    have r : Rp C.K F H e v := S.rep (.s i) e v ⟨q', hv⟩
    refine ⟨v, hv, ?_⟩
    cases e with
    | fr d => exact h F H v (S.cV r)
    | d8 xs => exact h F H v (S.push r fun _ w => w.elim)
    | ol xs => exact h.elim
    | ex x => exact h.elim
    | pA x => exact h.elim
    | od ks vs => exact h.elim
    | on ks vs => exact h.elim
def Td : V → Option D
  | .non => some .non
  | .bl b => some (.bl b)
  | .int i => some (.int i)
  | .str s => some (.str s)
  | _ => none
theorem Tf {K : PySem.W.Frag} {F : Hp} {v : V} {d : D} (h : Td v = some d) : Dq K F d v := by
  cases v <;> simp only [Td, Option.some.injEq, reduceCtorEq] at h <;> subst h <;> simp only [Dq]
theorem Cp {v : V} {d : D} (h : Td v = some d) : Impl C Z (tC v) (fun ρ => .ok (.en (.fr d)) ρ) := fun o F H σ ρ T Q S q => q F H v (S.cV (Tf h))
/-! ### operations by values -/
def wQ (K : PySem.W.Frag) (r : R2) (g : En → En → Option En) : Prop := ∀ (F H : Hp) (e1 e2 : En) (x y : V) (e : En) (Q : VK), Ext F H → Rp K F H e1 x → Rp K F H e2 y → g e1 e2 = some e →
  (∀ F' H' v, jg K F H F' H' e v → Q v H') → r x y H Q
def UnS (K : PySem.W.Frag) (r : V → Hp → VK → Prop) (g : En → Option En) : Prop := ∀ (F H : Hp) (e1 : En) (x : V) (e : En) (Q : VK), Ext F H → Rp K F H e1 x → g e1 = some e →
  (∀ F' H' v, jg K F H F' H' e v → Q v H') → r x H Q
def j9 (K : PySem.W.Frag) (r : List V → Hp → VK → Prop) (g : List En → Option En) : Prop := ∀ (F H : Hp) (es : List En) (vs : List V) (e : En) (Q : VK), Ext F H → Paired (Rp K F H) es vs → g es = some e →
  (∀ F' H' v, jg K F H F' H' e v → Q v H') → r vs H Q
theorem wQ.or {K : PySem.W.Frag} {r r' : R2} {g g' : En → En → Option En} (h : wQ K r g) (h' : wQ K r' g') : wQ K (fun x y H Q => r x y H Q ∨ r' x y H Q) (fun a b => (g a b).or (g' a b)) := by
  intro F H e1 e2 x y e Q s r1 r2 hg q
  replace hg : (g e1 e2).or (g' e1 e2) = some e := hg
  cases z : g e1 e2 with
  | some e' =>
    rw [z, Option.some_or] at hg
    cases hg
    exact .inl (h F H e1 e2 x y e Q s r1 r2 z q)
  | none =>
    rw [z, Option.none_or] at hg
    exact .inr (h' F H e1 e2 x y e Q s r1 r2 hg q)
theorem j9.or {K : PySem.W.Frag} {r r' : List V → Hp → VK → Prop} {g g' : List En → Option En} (h : j9 K r g) (h' : j9 K r' g') : j9 K (fun x H Q => r x H Q ∨ r' x H Q) (fun a => (g a).or (g' a)) := by
  intro F H es vs e Q s r1 hg q
  replace hg : (g es).or (g' es) = some e := hg
  cases z : g es with
  | some e' =>
    rw [z, Option.some_or] at hg
    cases hg
    exact .inl (h F H es vs e Q s r1 z q)
  | none =>
    rw [z, Option.none_or] at hg
    exact .inr (h' F H es vs e Q s r1 hg q)
def aA (g : En → En → Option En) (fa fb : aq → R Val) (ρ : aq) : R Val := (fa ρ).bind fun a ρ1 => (fb ρ1).bind fun b ρ2 => match look ρ2 a, look ρ2 b with
  | some x, some y => v8 ((g x y).map .en) ρ2
  | _, _ => .bad
theorem rR {r : R2} {g : En → En → Option En} {ta tb : TE} {fa fb : aq → R Val} (hr : wQ C.K r g) (ha : Impl C Z ta fa) (hb : Impl C Z tb fb) : Impl C Z (tOp r ta tb) (aA g fa fb) := by
  intro o F H σ ρ T Q S h
  unfold aA at h
  rw [aH] at h
  refine ha o F H σ ρ T _ S (aG h (fun a ρ1 h1 F1 H1 x S1 => ?_) fun _ _ h => h)
  rw [aH] at h1
  refine hb o F1 H1 σ ρ1 _ _ S1 (aG h1 (fun b ρ2 h2 F2 H2 y S2 => ?_) fun _ _ h F' H' s => h F' H' s.drop)
  cases la : look ρ2 a with
  | none => rw [la] at h2; exact h2.elim
  | some e1 =>
    cases lb : look ρ2 b with
    | none => rw [la, lb] at h2; exact h2.elim
    | some e2 =>
      rw [la, lb] at h2
      obtain ⟨val, hv, q⟩ := fQ h2
      cases hg : g e1 e2 with
      | none => rw [hg] at hv; cases hv
      | some e =>
        rw [hg] at hv
        cases hv
        refine hr F2 H2 e1 e2 x y e Q S2.sub (S2.look (j := 1) rfl la) (S2.look (j := 0) rfl lb) hg fun F' H' v al => q F' H' v ?_
        exact SM.under [(b, y), (a, x)] (S2.alloc al)
def JM (g : En → Option En) (fa : aq → R Val) (ρ : aq) : R Val := (fa ρ).bind fun a ρ1 => match look ρ1 a with
  | some x => v8 ((g x).map .en) ρ1
  | _ => .bad
theorem Yt {r : V → Hp → VK → Prop} {g : En → Option En} {ta : TE} {fa : aq → R Val} (hr : UnS C.K r g) (ha : Impl C Z ta fa) : Impl C Z (tUn r ta) (JM g fa) := by
  intro o F H σ ρ T Q S h
  unfold JM at h
  rw [aH] at h
  refine ha o F H σ ρ T _ S (aG h (fun a ρ1 h1 F1 H1 x S1 => ?_) fun _ _ h => h)
  cases la : look ρ1 a with
  | none => rw [la] at h1; exact h1.elim
  | some e1 =>
    rw [la] at h1
    obtain ⟨val, hv, q⟩ := fQ h1
    cases hg : g e1 with
    | none => rw [hg] at hv; cases hv
    | some e =>
      rw [hg] at hv
      cases hv
      exact hr F1 H1 e1 x e Q S1.sub (S1.look (j := 0) rfl la) hg fun F' H' v al => q F' H' v (SM.under [(a, x)] (S1.alloc al))
/-! ### arguments -/
def ak (ρ : aq) : R (List Val) := .ok [] ρ
def aj (fa : aq → R Val) (fs : aq → R (List Val)) (ρ : aq) : R (List Val) := (fa ρ).bind fun a ρ1 => (fs ρ1).bind fun as ρ2 => .ok (a :: as) ρ2
theorem kh : jP C Z tNil ak := fun o F H σ ρ T Q S q => q F H [] rfl S
theorem rA {a : Val} {x : V} {as : List Val} {xs : List V} : stack (a :: as) (x :: xs) = stack as xs ++ [(a, x)] := by
  unfold stack
  rw [List.zip_cons_cons, List.reverse_cons]
theorem uH {ta : TE} {tr : TA} {fa : aq → R Val} {fs : aq → R (List Val)} (ha : Impl C Z ta fa) (hs : jP C Z tr fs) : jP C Z (tCons ta tr) (aj fa fs) := by
  intro o F H σ ρ T Q S h
  unfold aj at h
  rw [aH] at h
  refine ha o F H σ ρ T _ S (aG h (fun a ρ1 h1 F1 H1 x S1 => ?_) fun _ _ h => h)
  rw [aH] at h1
  refine hs o F1 H1 σ ρ1 _ _ S1 (aG h1 (fun as ρ2 h2 F2 H2 xs hl S2 => ?_) fun _ _ h F' H' s => h F' H' s.drop)
  refine h2 F2 H2 (x :: xs) (by rw [List.length_cons, List.length_cons, hl]) ?_
  rw [rA, List.append_assoc]
  exact S2
def looks (ρ : aq) : List Val → Option (List En)
  | [] => some []
  | a :: as => match look ρ a, looks ρ as with
    | some e, some es => some (e :: es)
    | _, _ => none
theorem pN {o : Og} {F H : Hp} {σ : L2.St} {ρ : aq} {T : Tm} (S : SM C o F H σ ρ T) : ∀ {vals : List Val} {vs : List V} {es : List En}, vals.length = vs.length → (∀ x ∈ vals.zip vs, x ∈ T) → looks ρ vals = some es → Paired (Rp C.K F H) es vs
  | [], [], es, _, _, h => by
    have h' : some [] = some es := h
    cases h'
    exact .nil
  | a :: as, v :: vs, es, hl, hm, h => by
    unfold looks at h
    cases la : look ρ a with
    | none => rw [la] at h; cases h
    | some e =>
      cases ls : looks ρ as with
      | none => rw [la, ls] at h; cases h
      | some es' =>
        rw [la, ls] at h
        cases h
        exact .cons (S.Gi (hm (a, v) (by simp)) la) (pN S (by simpa using hl) (fun x hx => hm x (by rw [List.zip_cons_cons]; exact List.mem_cons_of_mem _ hx)) ls)
  | [], _ :: _, _, hl, _, _ => by simp at hl
  | _ :: _, [], _, hl, _, _ => by simp at hl
def aN (g : List En → Option En) (fs : aq → R (List Val)) (ρ : aq) : R Val := (fs ρ).bind fun as ρ1 => match looks ρ1 as with
  | some es => v8 ((g es).map .en) ρ1
  | none => .bad
theorem MF {r : List V → Hp → VK → Prop} {g : List En → Option En} {ta : TA} {fs : aq → R (List Val)} (hr : j9 C.K r g) (ha : jP C Z ta fs) : Impl C Z (tCB r ta) (aN g fs) := by
  intro o F H σ ρ T Q S h
  unfold aN at h
  rw [aH] at h
  refine ha o F H σ ρ T _ S (aG h (fun as ρ1 h1 F1 H1 vs hl S1 => ?_) fun _ _ h => h)
  cases la : looks ρ1 as with
  | none => rw [la] at h1; exact h1.elim
  | some es =>
    rw [la] at h1
    obtain ⟨val, hv, q⟩ := fQ h1
    cases hg : g es with
    | none => rw [hg] at hv; cases hv
    | some e =>
      rw [hg] at hv
      cases hv
      refine hr F1 H1 es vs e Q S1.sub (pN S1 hl (fun x hx => ?_) la) hg fun F' H' v al => q F' H' v (SM.under (stack as vs) (S1.alloc al))
      exact List.mem_append_left _ (by unfold stack; exact List.mem_reverse.mpr hx)
/-! ### Tj -/
def frz (a : Val) (ρ : aq) : Option (En × aq) := match a with
  | .en e => some (e.fz, ρ)
  | .bor i => match (ρ[i]?).join with
    | some e => some (e.fz, ρ.set i (some e.fz))
    | none => none
theorem Rp.fz {K : PySem.W.Frag} {F H : Hp} {e : En} {v : V} (s : Ext F H) (r : Rp K F H e v) (hn : ∀ a, Ow H e v a → F a = none) :
    ∃ F', Ext F F' ∧ Ext F' H ∧ (∀ b, F b = none → F' b ≠ none → Ow H e v b) ∧ Rp K F' H e.fz v := by
  cases e with
  | fr d => exact ⟨F, Ext.refl F, s, fun _ a b => absurd a b, r⟩
  | d8 d => exact ⟨F, Ext.refl F, s, fun _ a b => absurd a b, r⟩
  | ex d => exact ⟨F, Ext.refl F, s, fun _ a b => absurd a b, r⟩
  | ol ds =>
    obtain ⟨a, vs, rfl, h2, h3⟩ := r
    have fa := hn a rfl
    refine ⟨upd F a (.lst vs), Ext.new fa, fun b u q => ?_, fun b h1 h4 => ?_, ?_⟩
    · by_cases hb : b = a
      · subst hb; rw [upd_same] at q; cases q; exact h2
      · rw [upd_ne hb] at q; exact s b u q
    · by_cases hb : b = a
      · subst hb; rfl
      · rw [upd_ne hb] at h4; exact absurd h1 h4
    · show Dq K _ (.lst ds) (.ref a)
      simp only [Dq]
      exact ⟨a, vs, rfl, upd_same, aV.mono (Ext.new fa) _ _ h3⟩
  | od ks ds =>
    obtain ⟨a, us, vs, rfl, _⟩ := r
    refine ⟨F, Ext.refl F, s, fun _ a b => absurd a b, ?_⟩
    show Dq K _ (.dct [.non] []) (.ref a)
    simp only [Dq]
    exact ⟨a, [], [], rfl, .inl rfl⟩
  | on ks ds =>
    obtain ⟨a, us, vs, rfl, _⟩ := r
    refine ⟨F, Ext.refl F, s, fun _ a b => absurd a b, ?_⟩
    show Dq K _ (.dct [.non] []) (.ref a)
    simp only [Dq]
    exact ⟨a, [], [], rfl, .inl rfl⟩
  | pA its =>
    obtain ⟨p, vs, rfl, h2, h3, h4, h5, h6⟩ := r
    have ow : ∀ b, b = p ∨ Sv its vs b → Ow H (.pA its) (.ref p) b := fun b hb => ⟨p, _, rfl, h2, hb⟩
    have fn : ∀ b, b = p ∨ Sv its vs b → F b = none := fun b hb => hn b (ow b hb)
    have ex : ∀ b u, F b = some u → ¬ (b = p ∨ Sv its vs b) := fun b u q hb => by rw [fn b hb] at q; cases q
    classical
    let F' : Hp := fun b => if b = p ∨ Sv its vs b then H b else F b
    have f1 : Ext F F' := fun b u q => by
      show (if b = p ∨ Sv its vs b then H b else F b) = _
      rw [if_neg (ex b u q)]; exact q
    have at' : ∀ b, b = p ∨ Sv its vs b → F' b = H b := fun b hb => if_pos hb
    refine ⟨F', f1, fun b u q => ?_, fun b h1 h4 => ?_, ?_⟩
    · by_cases hb : b = p ∨ Sv its vs b
      · rw [at' b hb] at q; exact q
      · have q' : (if b = p ∨ Sv its vs b then H b else F b) = some u := q
        rw [if_neg hb] at q'; exact s b u q'
    · by_cases hb : b = p ∨ Sv its vs b
      · exact ow b hb
      · have h4' : (if b = p ∨ Sv its vs b then H b else F b) ≠ none := h4
        rw [if_neg hb] at h4'; exact absurd h1 h4'
    · show Dq K F' (.lst (its.map Itm.fz)) (.ref p)
      simp only [Dq]
      refine ⟨p, _, rfl, (at' p (.inl rfl)).trans h2, ?_⟩
      have go : ∀ (its : List Itm) (vs : List V), its.length = vs.length → (∀ (i : Nat) (x : Itm) (y : V), its[i]? = some x → vs[i]? = some y → Dq K F' x.fz y) → aV K F' (its.map Itm.fz) vs := by
        intro its
        induction its with
        | nil => intro vs hl _; cases vs with
          | nil => exact .nil
          | cons _ _ => simp at hl
        | cons x its ih => intro vs hl h; cases vs with
          | nil => simp at hl
          | cons y vs => exact aV.cons (h 0 x y rfl rfl) (ih vs (by simpa using hl) fun i x y e1 e2 => h (i + 1) x y (by simpa using e1) (by simpa using e2))
      refine go its vs h3 fun i x y e1 e2 => ?_
      have r := h4 i x y e1 e2
      cases x with
      | fr d => exact Dq.mono f1 _ _ r
      | ol xs =>
        obtain ⟨a, us, rfl, k1, k2⟩ := r
        show Dq K F' (.lst xs) (.ref a)
        simp only [Dq]
        exact ⟨a, us, rfl, (at' a (.inr ⟨i, xs, e1, e2⟩)).trans k1, aV.mono f1 _ _ k2⟩
theorem MJ {H : Hp} {e : En} {v : V} {a : Addr} : ¬ Ow H e.fz v a := by
  cases e <;> exact fun w => w
theorem SM.adX {o : Og} {F H : Hp} {σ : L2.St} {ρ ρ' : aq} {T T' : Tm} (S : SM C o F H σ ρ T) {w : Wh} {e : En} {v : V} (h : At σ ρ T w e v) (hl : ρ'.length = ρ.length)
    (hat : ∀ p e' v', At σ ρ' T' p e' v' → (p = w ∧ e' = e.fz ∧ v' = v) ∨ (p ≠ w ∧ At σ ρ T p e' v')) (hs : ∀ (i : Nat) (e' : En), ρ'[i]? = some (some e') → ∃ e'', ρ[i]? = some (some e''))
    (hb : ∀ (j i : Nat) (v' : V), T'[j]? = some (.bor i, v') → T[j]? = some (.bor i, v') ∧ ((∃ e', ρ[i]? = some (some e')) → ∃ e', ρ'[i]? = some (some e'))) : ∃ F', SM C o F' H σ ρ' T' := by
  obtain ⟨F', f1, f2, f3, f4⟩ := (S.rep w e v h).fz S.sub fun a q => (S.own w e v a h q).1
  refine ⟨F', ?_⟩
  exact {
    sub := f2
    len := hl.trans S.len
    has := fun i e' q => by obtain ⟨e'', q'⟩ := hs i e' q; exact S.has i e'' q'
    rep := fun p e' v' a => by
      rcases hat p e' v' a with ⟨rfl, rfl, rfl⟩ | ⟨_, a'⟩
      · exact f4
      · exact (S.rep p e' v' a').mono f1 (Ext.refl H)
    bor := fun j i v' q => by
      obtain ⟨q1, q2⟩ := hb j i v' q
      obtain ⟨b1, b2, b3⟩ := S.bor j i v' q1
      exact ⟨b1, q2 b2, b3⟩
    sep := fun p q e1 e2 v1 v2 a ne a1 a2 w1 w2 => by
      rcases hat p e1 v1 a1 with ⟨_, rfl, _⟩ | ⟨_, a1'⟩
      · exact MJ w1
      · rcases hat q e2 v2 a2 with ⟨_, rfl, _⟩ | ⟨_, a2'⟩
        · exact MJ w2
        · exact S.sep p q e1 e2 v1 v2 a ne a1' a2' w1 w2
    own := fun p e1 v1 a a1 w1 => by
      rcases hat p e1 v1 a1 with ⟨_, rfl, _⟩ | ⟨ne, a1'⟩
      · exact absurd w1 MJ
      · obtain ⟨o1, o2⟩ := S.own p e1 v1 a a1' w1
        refine ⟨?_, o2⟩
        cases q : F' a with
        | none => rfl
        | some u => exact absurd w1 (S.sep w p e e1 v v1 a (Ne.symm ne) h a1' (f3 a o1 (by rw [q]; simp)))
    ext := S.ext.trans f1
    keep := S.keep
    new := fun b h1 h2 => by
      cases q : F b with
      | none => exact (S.own w e v b h (f3 b q h2)).2
      | some u => exact S.new b h1 (by rw [q]; simp)
    lk := S.lk
    uG := S.uG }
theorem SM.frz {o : Og} {F H : Hp} {σ : L2.St} {ρ ρ' : aq} {T : Tm} {a : Val} {v : V} {e : En} (S : SM C o F H σ ρ ((a, v) :: T)) (h : frz a ρ = some (e, ρ')) : ∃ F', SM C o F' H σ ρ' ((.en e, v) :: T) := by
  cases a with
  | en e0 =>
    have h' : some (e0.fz, ρ) = some (e, ρ') := h
    cases h'
    refine S.adX (w := .t 0) (e := e0) (v := v) rfl rfl (fun p e' v' a => ?_) (fun i e' q => ⟨e', q⟩) fun j i v' q => ?_
    · cases p with
      | s i => exact .inr ⟨(fun z => by cases z), a⟩
      | t j =>
        cases j with
        | zero =>
          have a' : some (Val.en e0.fz, v) = some (Val.en e', v') := a
          cases a'
          exact .inl ⟨rfl, rfl, rfl⟩
        | succ j => exact .inr ⟨(fun z => by cases z), a⟩
    · cases j with
      | zero => simp at q
      | succ j => exact ⟨q, fun z => z⟩
  | bor i =>
    unfold DM.frz at h
    simp only at h
    cases q : (ρ[i]?).join with
    | none => rw [q] at h; cases h
    | some e0 =>
      rw [q] at h
      cases h
      have q' := join_some q
      obtain ⟨b1, _, b3⟩ := S.bor 0 i v rfl
      have hi : i < ρ.length := (List.getElem?_eq_some_iff.mp q').1
      have S1 : ∃ F', SM C o F' H σ (ρ.set i (some e0.fz)) ((.bor i, v) :: T) := by
        refine S.adX (w := .s i) (e := e0) (v := v) ⟨q', b1⟩ (List.length_set ..) (fun p e' v' a => ?_) (fun k e' z => ?_) fun j k v' z => ⟨z, fun ⟨e', y⟩ => ?_⟩
        · cases p with
          | s k =>
            obtain ⟨a1, a2⟩ := a
            by_cases hk : k = i
            · subst hk
              rw [List.getElem?_set_self hi] at a1
              rw [b1] at a2
              cases a1; cases a2
              exact .inl ⟨rfl, rfl, rfl⟩
            · rw [List.getElem?_set_ne (Ne.symm hk)] at a1
              exact .inr ⟨fun z => hk (Wh.s.inj z), a1, a2⟩
          | t j => exact .inr ⟨(fun z => by cases z), a⟩
        · by_cases hk : k = i
          · subst hk; exact ⟨_, q'⟩
          · rw [List.getElem?_set_ne (Ne.symm hk)] at z; exact ⟨_, z⟩
        · by_cases hk : k = i
          · subst hk; exact ⟨_, List.getElem?_set_self hi⟩
          · exact ⟨e', by rw [List.getElem?_set_ne (Ne.symm hk)]; exact y⟩
      obtain ⟨F', S2⟩ := S1
      refine ⟨F', ?_⟩
      have r : Rp C.K F' H e0.fz v := S2.rep (.s i) e0.fz v ⟨List.getElem?_set_self hi, b1⟩
      exact S2.drop.push r fun a w => absurd w MJ
def aM (f : aq → R Val) (ρ : aq) : R Val := (f ρ).bind fun a ρ1 => match frz a ρ1 with
  | some (e, ρ2) => .ok (.en e) ρ2
  | none => .bad
theorem Cq {te : TE} {f : aq → R Val} (h : Impl C Z te f) : Impl C Z te (aM f) := by
  intro o F H σ ρ T Q S q
  unfold aM at q
  rw [aH] at q
  refine h o F H σ ρ T Q S (aG q (fun a ρ1 h1 F1 H1 v S1 => ?_) fun _ _ h => h)
  cases z : frz a ρ1 with
  | none => rw [z] at h1; exact h1.elim
  | some p =>
    obtain ⟨e, ρ2⟩ := p
    rw [z] at h1
    obtain ⟨F2, S2⟩ := S1.frz z
    exact h1 F2 H1 v S2
/-! ### displays -/
def datas (ρ : aq) : List Val → Option (List D)
  | [] => some []
  | .en (.fr d) :: as => match datas ρ as with
    | some ds => some (d :: ds)
    | none => none
  | _ => none
theorem wR {o : Og} {F H : Hp} {σ : L2.St} {ρ : aq} {T : Tm} (S : SM C o F H σ ρ T) : ∀ {vals : List Val} {vs : List V} {ds : List D}, vals.length = vs.length → (∀ x ∈ vals.zip vs, x ∈ T) → datas ρ vals = some ds → aV C.K F ds vs
  | [], [], ds, _, _, h => by
    have h' : some [] = some ds := h
    cases h'
    exact .nil
  | a :: as, v :: vs, ds, hl, hm, h => by
    cases a with
    | bor i => cases h
    | en e =>
      cases e with
      | fr d =>
        have h' : (match datas ρ as with | some ds => some (d :: ds) | none => none) = some ds := h
        cases q : datas ρ as with
        | none => rw [q] at h'; cases h'
        | some ds' =>
          rw [q] at h'
          cases h'
          exact .cons (S.Gi (hm (.en (.fr d), v) (by simp)) rfl) (wR S (by simpa using hl) (fun x hx => hm x (by rw [List.zip_cons_cons]; exact List.mem_cons_of_mem _ hx)) q)
      | ol _ => cases h
      | od _ _ => cases h
      | on _ _ => cases h
      | d8 _ => cases h
      | ex _ => cases h
      | pA _ => cases h
  | [], _ :: _, _, hl, _, _ => by simp at hl
  | _ :: _, [], _, hl, _, _ => by simp at hl
def aK (fs : aq → R (List Val)) (ρ : aq) : R Val := (fs ρ).bind fun as ρ1 => match datas ρ1 as with
  | some ds => if ds.length ≤ sizeLine then .ok (.en (.fr (.tup ds))) ρ1 else .bad
  | none => .bad
def aP (fs : aq → R (List Val)) (ρ : aq) : R Val := (fs ρ).bind fun as ρ1 => match datas ρ1 as with
  | some ds => if ds.length ≤ sizeLine then .ok (.en (.ol ds)) ρ1 else .bad
  | none => .bad
theorem mY {as : List Val} {vs : List V} {T : Tm} : ∀ x ∈ as.zip vs, x ∈ stack as vs ++ T := fun x hx => List.mem_append_left _ (by unfold stack; exact List.mem_reverse.mpr hx)
theorem Tn {ta : TA} {fs : aq → R (List Val)} (ha : jP C Z ta fs) : Impl C Z (aaK ta) (aK fs) := by
  intro o F H σ ρ T Q S h
  unfold aK at h
  rw [aH] at h
  refine ha o F H σ ρ T _ S (aG h (fun as ρ1 h1 F1 H1 vs hl S1 => ?_) fun _ _ h => h)
  cases la : datas ρ1 as with
  | none => rw [la] at h1; exact h1.elim
  | some ds =>
    rw [la] at h1
    have hd := wR S1 hl mY la
    by_cases hz : ds.length ≤ sizeLine
    · simp only [hz, if_true] at h1
      refine ⟨by rw [← hd.length]; exact hz, fun ob p nd hp => h1 _ _ _ (SM.under (stack as vs) (S1.alloc (jg.tup S1.sub nd hp hd)))⟩
    · simp only [hz, if_false] at h1
      exact h1.elim
theorem Tp {ta : TA} {fs : aq → R (List Val)} (ha : jP C Z ta fs) : Impl C Z (tLst ta) (aP fs) := by
  intro o F H σ ρ T Q S h
  unfold aP at h
  rw [aH] at h
  refine ha o F H σ ρ T _ S (aG h (fun as ρ1 h1 F1 H1 vs hl S1 => ?_) fun _ _ h => h)
  cases la : datas ρ1 as with
  | none => rw [la] at h1; exact h1.elim
  | some ds =>
    rw [la] at h1
    have hd := wR S1 hl mY la
    by_cases hz : ds.length ≤ sizeLine
    · simp only [hz, if_true] at h1
      refine ⟨by rw [← hd.length]; exact hz, fun p hp => h1 _ _ _ (SM.under (stack as vs) (S1.alloc (.lst (Grow.refl S1.sub) hp hd)))⟩
    · simp only [hz, if_false] at h1
      exact h1.elim
/-! ### truth, and, or, if -/
def PB : En → Option Bool
  | .fr .non => some false
  | .fr (.bl b) => some b
  | .fr (.int i) => some (i != 0)
  | .fr (.str s) => if s.length ≤ sizeLine then some ((s.length : Int) != 0) else none
  | .fr (.lst xs) => some (!xs.isEmpty)
  | .fr (.tup xs) => some (!xs.isEmpty)
  | .ol xs => some (!xs.isEmpty)
  | .d8 xs => some (!xs.isEmpty)
  | _ => none
theorem aV.isEmpty {K : PySem.W.Frag} {F : Hp} {ds : List D} {vs : List V} (h : aV K F ds vs) : ds.isEmpty = vs.isEmpty := by
  have := h.length
  cases ds <;> cases vs <;> first | rfl | simp at this
theorem Yu {K : PySem.W.Frag} {F H : Hp} {e : En} {x : V} {b : Bool} (s : Ext F H) (r : Rp K F H e x) (h : PB e = some b) : TruV K x H b := by
  cases e with
  | fr d =>
    cases d with
    | non => have r' : x = .non := by simpa only [Rp, Dq] using r
             subst r'; cases h; rfl
    | bl k => have r' : x = .bl k := by simpa only [Rp, Dq] using r
              subst r'; cases h; rfl
    | int k => have r' : x = .int k := by simpa only [Rp, Dq] using r
               subst r'; cases h; rfl
    | str k =>
      have r' : x = .str k := by simpa only [Rp, Dq] using r
      subst r'
      unfold PB at h
      by_cases hz : k.length ≤ sizeLine
      · simp only [hz, if_true] at h; cases h; exact ⟨hz, rfl⟩
      · simp only [hz, if_false] at h; cases h
    | lst xs =>
      have r' : ∃ a vs, x = .ref a ∧ F a = some (.lst vs) ∧ aV K F xs vs := by simpa only [Rp, Dq] using r
      obtain ⟨a, vs, rfl, h1, h2⟩ := r'
      cases h
      exact .inl ⟨vs, .inl (.inl (s _ _ h1)), by rw [h2.isEmpty]⟩
    | tup xs =>
      have r' : ∃ a vs, x = .ref a ∧ Yo F a vs ∧ aV K F xs vs := by simpa only [Rp, Dq] using r
      obtain ⟨a, vs, rfl, h1, h2⟩ := r'
      cases h
      exact .inr (.inl ⟨vs, s.JC h1, by rw [h2.isEmpty]⟩)
    | dct _ _ => cases h
    | v7 _ _ => cases h
  | ol xs =>
    obtain ⟨a, vs, rfl, h1, h2⟩ := r
    cases h
    exact .inl ⟨vs, .inl (.inl h1), by rw [h2.isEmpty]⟩
  | d8 xs =>
    obtain ⟨a, vs, rfl, h1, h2⟩ := r
    cases h
    exact .inl ⟨vs, s.JL h1, by rw [h2.isEmpty]⟩
  | ex _ => cases h
  | pA _ => cases h
  | od _ _ => cases h
  | on _ _ => cases h
def kJ (f : aq → R Val) (ρ : aq) : R Bool := (f ρ).bind fun a ρ1 => match look ρ1 a with
  | some e => v8 (PB e) ρ1
  | none => .bad
def tTru (K : PySem.W.Frag) (te : TE) : TT := fun σ H Q => te σ H fun x H' => ∃ k, TruV K x H' k ∧ Q k H'
theorem PL {te : TE} {f : aq → R Val} (h : Impl C Z te f) : fV C Z (tTru C.K te) (kJ f) := by
  intro o F H σ ρ T Q S q
  unfold kJ at q
  rw [aH] at q
  refine h o F H σ ρ T _ S (aG q (fun a ρ1 h1 F1 H1 x S1 => ?_) fun _ _ h => h)
  cases la : look ρ1 a with
  | none => rw [la] at h1; exact h1.elim
  | some e =>
    rw [la] at h1
    obtain ⟨b, hb, q⟩ := fQ h1
    exact ⟨b, Yu S1.sub (S1.look (j := 0) rfl la) hb, q F1 H1 S1.drop⟩
def JQ : En → Option Bool
  | .fr (.bl b) => some b
  | _ => none
theorem JR {K : PySem.W.Frag} {F H : Hp} {e : En} {x : V} {b : Bool} (r : Rp K F H e x) (h : JQ e = some b) : x = .bl b := by
  cases e with
  | fr d =>
    cases d with
    | bl k => have r' : x = .bl k := by simpa only [Rp, Dq] using r
              subst r'; cases h; rfl
    | _ => cases h
  | _ => cases h
def bB (f : aq → R Val) (ρ : aq) : R Bool := (f ρ).bind fun a ρ1 => match look ρ1 a with
  | some e => v8 (JQ e) ρ1
  | none => .bad
theorem MK {te : TE} {f : aq → R Val} (h : Impl C Z te f) : fV C Z (tTest te) (bB f) := by
  intro o F H σ ρ T Q S q
  unfold bB at q
  rw [aH] at q
  refine h o F H σ ρ T _ S (aG q (fun a ρ1 h1 F1 H1 x S1 => ?_) fun _ _ h => h)
  cases la : look ρ1 a with
  | none => rw [la] at h1; exact h1.elim
  | some e =>
    rw [la] at h1
    obtain ⟨b, hb, q⟩ := fQ h1
    exact ⟨b, JR (S1.look (j := 0) rfl la) hb, q F1 H1 S1.drop⟩
def gH (fa fb : aq → R Bool) (ρ : aq) : R Bool := (fa ρ).bind fun a ρ1 => match a with | true => fb ρ1 | false => .ok false ρ1
def eG (fa fb : aq → R Bool) (ρ : aq) : R Bool := (fa ρ).bind fun a ρ1 => match a with | true => .ok true ρ1 | false => fb ρ1
def dR (fa : aq → R Bool) (ρ : aq) : R Bool := (fa ρ).bind fun a ρ1 => .ok (!a) ρ1
theorem P0 {ta tb : TT} {fa fb : aq → R Bool} (ha : fV C Z ta fa) (hb : fV C Z tb fb) : fV C Z (tAnd ta tb) (gH fa fb) := by
  intro o F H σ ρ T Q S h
  unfold gH at h
  rw [aH] at h
  refine ha o F H σ ρ T _ S (aG h (fun a ρ1 h1 F1 H1 S1 => ?_) fun _ _ h => h)
  cases a with
  | true => exact hb o F1 H1 σ ρ1 T Q S1 h1
  | false => exact h1 F1 H1 S1
theorem Tq {ta tb : TT} {fa fb : aq → R Bool} (ha : fV C Z ta fa) (hb : fV C Z tb fb) : fV C Z (tOr ta tb) (eG fa fb) := by
  intro o F H σ ρ T Q S h
  unfold eG at h
  rw [aH] at h
  refine ha o F H σ ρ T _ S (aG h (fun a ρ1 h1 F1 H1 S1 => ?_) fun _ _ h => h)
  cases a with
  | true => exact h1 F1 H1 S1
  | false => exact hb o F1 H1 σ ρ1 T Q S1 h1
theorem Qa {ta : TT} {fa : aq → R Bool} (ha : fV C Z ta fa) : fV C Z (tNot ta) (dR fa) := by
  intro o F H σ ρ T Q S h
  unfold dR at h
  rw [aH] at h
  exact ha o F H σ ρ T _ S (aG h (fun a ρ1 h1 F1 H1 S1 => h1 F1 H1 S1) fun _ _ h => h)
def bH {α : Type} (ft : aq → R Bool) (fa fb : aq → R α) (ρ : aq) : R α := (ft ρ).bind fun a ρ1 => match a with | true => fa ρ1 | false => fb ρ1
theorem Yv {tt : TT} {ta tb : TE} {ft : aq → R Bool} {fa fb : aq → R Val} (ht : fV C Z tt ft) (ha : Impl C Z ta fa) (hb : Impl C Z tb fb) : Impl C Z (tIf tt ta tb) (bH ft fa fb) := by
  intro o F H σ ρ T Q S h
  unfold bH at h
  rw [aH] at h
  refine ht o F H σ ρ T _ S (aG h (fun a ρ1 h1 F1 H1 S1 => ?_) fun _ _ h => h)
  cases a with
  | true => exact ha o F1 H1 σ ρ1 T Q S1 h1
  | false => exact hb o F1 H1 σ ρ1 T Q S1 h1
def dU (fa fb : aq → R Val) (ρ : aq) : R Val := (fa ρ).bind fun a ρ1 => match (look ρ1 a).bind JQ with
  | some true => fb ρ1
  | some false => .ok (.en (.fr (.bl false))) ρ1
  | none => .bad
def Cr (fa fb : aq → R Val) (ρ : aq) : R Val := (fa ρ).bind fun a ρ1 => match (look ρ1 a).bind JQ with
  | some true => .ok (.en (.fr (.bl true))) ρ1
  | some false => fb ρ1
  | none => .bad
def v9 (fa : aq → R Val) (ρ : aq) : R Val := (fa ρ).bind fun a ρ1 => match (look ρ1 a).bind JQ with
  | some b => .ok (.en (.fr (.bl (!b)))) ρ1
  | none => .bad
theorem lU {K : PySem.W.Frag} {F : Hp} (b : Bool) : Dq K F (.bl b) (.bl b) := by simp only [Dq]
theorem oG {K : PySem.W.Frag} {F : Hp} (b : Int) : Dq K F (.int b) (.int b) := by simp only [Dq]
theorem wU {K : PySem.W.Frag} {F : Hp} (b : Str) : Dq K F (.str b) (.str b) := by simp only [Dq]
theorem JV {K : PySem.W.Frag} {F : Hp} : Dq K F .non .non := by simp only [Dq]
theorem Cu {o : Og} {F H : Hp} {σ : L2.St} {ρ : aq} {T : Tm} {a : Val} {x : V} {b : Bool} (S : SM C o F H σ ρ ((a, x) :: T)) (h : (look ρ a).bind JQ = some b) : x = .bl b := by
  cases la : look ρ a with
  | none => rw [la] at h; cases h
  | some e => rw [la] at h; exact JR (S.look (j := 0) rfl la) h
theorem Qc {ta tb : TE} {fa fb : aq → R Val} (ha : Impl C Z ta fa) (hb : Impl C Z tb fb) : Impl C Z (tAndV ta tb) (dU fa fb) := by
  intro o F H σ ρ T Q S h
  unfold dU at h
  rw [aH] at h
  refine ha o F H σ ρ T _ S (aG h (fun a ρ1 h1 F1 H1 x S1 => ?_) fun _ _ h => h)
  cases la : (look ρ1 a).bind JQ with
  | none => rw [la] at h1; exact h1.elim
  | some b =>
    rw [la] at h1
    have e := Cu S1 la
    subst e
    refine ⟨b, rfl, ?_⟩
    cases b with
    | true => exact hb o F1 H1 σ ρ1 T Q S1.drop h1
    | false => exact h1 F1 H1 _ (S1.drop.cV (lU false))
theorem Tr {ta tb : TE} {fa fb : aq → R Val} (ha : Impl C Z ta fa) (hb : Impl C Z tb fb) : Impl C Z (tOrV ta tb) (Cr fa fb) := by
  intro o F H σ ρ T Q S h
  unfold Cr at h
  rw [aH] at h
  refine ha o F H σ ρ T _ S (aG h (fun a ρ1 h1 F1 H1 x S1 => ?_) fun _ _ h => h)
  cases la : (look ρ1 a).bind JQ with
  | none => rw [la] at h1; exact h1.elim
  | some b =>
    rw [la] at h1
    have e := Cu S1 la
    subst e
    refine ⟨b, rfl, ?_⟩
    cases b with
    | true => exact h1 F1 H1 _ (S1.drop.cV (lU true))
    | false => exact hb o F1 H1 σ ρ1 T Q S1.drop h1
theorem Qe {ta : TE} {fa : aq → R Val} (ha : Impl C Z ta fa) : Impl C Z (tNotV ta) (v9 fa) := by
  intro o F H σ ρ T Q S h
  unfold v9 at h
  rw [aH] at h
  refine ha o F H σ ρ T _ S (aG h (fun a ρ1 h1 F1 H1 x S1 => ?_) fun _ _ h => h)
  cases la : (look ρ1 a).bind JQ with
  | none => rw [la] at h1; exact h1.elim
  | some b =>
    rw [la] at h1
    have e := Cu S1 la
    subst e
    exact ⟨b, rfl, h1 F1 H1 _ (S1.drop.cV (lU _))⟩
end
end DM
end
section
namespace DM
open PySem PySem.Spec PyProof.Rows L2
/-! a tuple taken once: the tuple itself -/
theorem JX (l : Addr) (items : Array Value) (n : Nat) (dd : Option Addr) (sl : Array (Option Value)) (u : Tok) :
    Meets (Builtin.«tuple.__mul__» ⟨[.ref l, .int 1 u], []⟩) (fun _ R s => s.heap.get? l = some { cls := .type "tuple", dict := dd, data := .seq items n, slots := sl } ∧ R (.ok (.ret (.ref l))) s) :=
  .of_wp fun prog w A R s h => by
    obtain ⟨hp, g, d, tk, os⟩ := s
    obtain ⟨hl, h⟩ := h
    have f1 := AutoSeq1.idx_int
    wp_walk using wpAny_loadPart' hl
    exact ⟨_, rfl, h⟩
def aaQ (K : PySem.W.Frag) : R2 := fun x y H Q => ∃ l xs, x = .ref l ∧ y = .int 1 ∧ SqT K H l xs ∧ Q (.ref l) H
theorem Yw {X : Cx} : OpR X (binaryOp .Mult) (aaQ X.K) := by
  intro pins s σ H x y v u Q I rx ry h
  obtain ⟨l, xs, rfl, rfl, hT, q⟩ := h
  cases rx
  obtain ⟨t, rfl⟩ := ry
  obtain ⟨its, r, ⟨⟨cls, dd, data, sl⟩, ho, hc, n, hd⟩, hs⟩ := I.tuple hT
  simp only at hc hd
  subst hc hd
  exact wpAny_binaryOp_repeat_ref (T := "tuple") (U := "int") (by decide) ⟨_, ho, rfl⟩ (fun s' => typeIs_int s' 1 t) noFill_tuple_mul F.fills_int_mul F.slot_int_rmul repeat_tuple F.slot_int_index.lookup
    (call_meets F.slot_int_rmul (typeIs_int s 1 t) F.entry_int_rmul (F.args_int_rmul_2 _ _) (int_rmul_tuple 1 t l its.toArray n dd sl)
      ⟨ho, rfl, ⟨_, ho, rfl⟩, call_meets F.slot_tuple_mul ⟨_, ho, rfl⟩ F.entry_tuple_mul (F.args_tuple_mul_2 _ _) (JX l its.toArray n dd sl t) ⟨ho, ⟨.ref l, H, I, rfl, q⟩⟩⟩)
end DM
end
section
namespace DM
open PySem PySem.Spec PyProof.Rows L2
/-! sorted: a list of tuples of ints that afM already -/
section
variable {prog : Program} {w : World} {A : Around} {E : Value → Shared → Prop} {s : Shared}
end
theorem Gk {α : Type} {lt : α → α → Bool} (O : SrtO.Swo lt) : ∀ {vs out : List α}, vs.Pairwise (fun x y => lt x y = true) → out.Perm vs → SrtO.Srtd lt out → out = vs
  | [], out, _, p, _ => List.Perm.eq_nil p
  | v :: vs, out, h, p, s => by
    cases out with
    | nil => exact absurd p.symm (by intro hh; have := hh.length_eq; simp at this)
    | cons u out =>
      have hv := List.pairwise_cons.mp h
      have hu := List.pairwise_cons.mp s
      have e : u = v := by
        apply Classical.byContradiction
        intro hne
        have m1 : u ∈ vs := by
          rcases List.mem_cons.mp (p.mem_iff.mp List.mem_cons_self) with z | z
          · exact absurd z hne
          · exact z
        have m2 : v ∈ out := by
          rcases List.mem_cons.mp (p.mem_iff.mpr (List.mem_cons_self (a := v) (l := vs))) with z | z
          · exact absurd z.symm hne
          · exact z
        have q1 := hv.1 u m1
        have q2 := hu.1 v m2
        rw [q1] at q2
        cases q2
      subst e
      rw [Gk O hv.2 (List.Perm.cons_inv p) hu.2]
section
variable {X : Cx}
end
end DM
end
section
namespace DM
open PySem PySem.Spec PyProof.Rows L2
/-! repr of a single value -/
def MN : PyData → Bool
  | .none => true
  | .bool _ => true
  | .int i => decide (i.natAbs.log2 < 1920)
  | .str x => decide ((reprText x).length ≤ sizeLine)
  | _ => false
def adY : V → Option PyData
  | .non => some .none
  | .bl b => some (.bool b)
  | .int i => some (.int i)
  | .str x => some (.str x)
  | _ => none
def Gm : List V → Hp → VK → Prop := fun vs H Q => ∃ x d, vs = [x] ∧ adY x = some d ∧ MN d = true ∧ Q (.str d.shown) H
theorem JZ {X : Cx} : CallR X (.builtin "repr") Gm := by
  intro pins s σ H xs us Q I r h
  obtain ⟨x, d, rfl, hx, ho, q⟩ := h
  obtain ⟨u, rfl, ru⟩ := vals1 r
  cases x with
  | non =>
    cases hx
    obtain rfl : u = Value.none := ru
    exact PySem.P.repr_of_none ⟨.str _, H, I.tok _, ⟨_, rfl⟩, q⟩
  | bl b =>
    cases hx
    obtain rfl : u = Value.bool b := ru
    exact PySem.P.repr_of_bool ⟨.str _, H, I.tok _, ⟨_, rfl⟩, q⟩
  | int i =>
    cases hx
    obtain ⟨t, rfl⟩ := ru
    exact PySem.P.repr_of_int (of_decide_eq_true ho) ⟨.str _, H, I.tok _, ⟨_, rfl⟩, q⟩
  | str x =>
    cases hx
    obtain ⟨t, rfl⟩ := ru
    exact PySem.P.repr_of_str ⟨.str _, H, I.tok _, ⟨_, rfl⟩, q⟩ (of_decide_eq_true ho)
  | _ => cases hx
end DM
end
section
namespace DM
open PySem L2
/-! ### readers of a value -/
def gq : En → Option Int
  | .fr (.int i) => some i
  | _ => none
def stE : En → Option Str
  | .fr (.str s) => some s
  | _ => none
def lsE : En → Option (List D)
  | .fr (.lst xs) => some xs
  | .ol xs => some xs
  | _ => none
def Cv : En → Option (List D)
  | .fr (.tup xs) => some xs
  | _ => none
def Gf : En → Option (List D)
  | .fr (.lst xs) => some xs
  | .ol xs => some xs
  | .d8 xs => some xs
  | _ => none
def dcE : En → Option (List D × List D)
  | .fr (.dct ks vs) => if wN ks = true then none else some (ks, vs)
  | .od ks vs => some (ks, vs)
  | _ => none
section
variable {K : PySem.W.Frag} {F H : Hp} {e : En} {x : V}
theorem dN {i : Int} (r : Rp K F H e x) (h : gq e = some i) : x = .int i := by
  cases e with
  | fr d => cases d with
    | int k => have r' : x = .int k := by simpa only [Rp, Dq] using r
               cases h; exact r'
    | _ => cases h
  | _ => cases h
theorem wV {i : Str} (r : Rp K F H e x) (h : stE e = some i) : x = .str i := by
  cases e with
  | fr d => cases d with
    | str k => have r' : x = .str k := by simpa only [Rp, Dq] using r
               cases h; exact r'
    | _ => cases h
  | _ => cases h
theorem pO {xs : List D} (s : Ext F H) (r : Rp K F H e x) (h : lsE e = some xs) : ∃ a vs, x = .ref a ∧ H a = some (.lst vs) ∧ aV K F xs vs := by
  cases e with
  | fr d => cases d with
    | lst k =>
      have r' : ∃ a vs, x = .ref a ∧ F a = some (.lst vs) ∧ aV K F k vs := by simpa only [Rp, Dq] using r
      obtain ⟨a, vs, h1, h2, h3⟩ := r'
      cases h
      exact ⟨a, vs, h1, s _ _ h2, h3⟩
    | _ => cases h
  | ol k => cases h; exact r
  | _ => cases h
theorem mJ {xs : List D} (r : Rp K F H e x) (h : Cv e = some xs) : ∃ a vs, x = .ref a ∧ Yo F a vs ∧ aV K F xs vs := by
  cases e with
  | fr d => cases d with
    | tup k => cases h; simpa only [Rp, Dq] using r
    | _ => cases h
  | _ => cases h
theorem uI {xs : List D} (s : Ext F H) (r : Rp K F H e x) (h : Gf e = some xs) : ∃ a vs, x = .ref a ∧ SqL K H a vs ∧ aV K F xs vs := by
  cases e with
  | d8 k => cases h; obtain ⟨a, vs, h1, h2, h3⟩ := r; exact ⟨a, vs, h1, s.JL h2, h3⟩
  | fr d =>
    have h' : lsE (.fr d) = some xs := by cases d <;> exact h
    obtain ⟨a, vs, h1, h2, h3⟩ := pO s r h'
    exact ⟨a, vs, h1, .inl (.inl h2), h3⟩
  | ol k =>
    obtain ⟨a, vs, h1, h2, h3⟩ := pO (xs := xs) s r h
    exact ⟨a, vs, h1, .inl (.inl h2), h3⟩
  | _ => cases h
theorem Tt {p : List D × List D} (s : Ext F H) (r : Rp K F H e x) (h : dcE e = some p) : ∃ a us vs, x = .ref a ∧ RD H a us vs ∧ aV K F p.1 us ∧ aV K F p.2 vs := by
  cases e with
  | fr d => cases d with
    | dct ks k =>
      have r' : ∃ a us vs, x = .ref a ∧ (wN ks = true ∨ (PD F a us vs ∧ aV K F ks us ∧ aV K F k vs)) := by simpa only [Rp, Dq] using r
      obtain ⟨a, us, vs, h1, h2⟩ := r'
      by_cases hn : wN ks = true
      · simp only [dcE, if_pos hn] at h
        cases h
      · simp only [dcE, if_neg hn] at h
        cases h
        obtain ⟨h2, h4, h3⟩ := h2.resolve_left hn
        exact ⟨a, us, vs, h1, (h2.mono (s a)).rd, h4, h3⟩
    | _ => cases h
  | od ks k =>
    cases h
    obtain ⟨a, us, vs, h1, h2, h4, h3⟩ := r
    exact ⟨a, us, vs, h1, h2.rd, h4, h3⟩
  | _ => cases h
end
/-! ### ints, texts -/
def MP (c : Int → Int → Bool) (f : Int → Int → Int) : En → En → Option En := fun a b => match gq a, gq b with
  | some i, some j => if c i j = true then some (.fr (.int (f i j))) else none
  | _, _ => none
def g2B (f : Int → Int → Bool) : En → En → Option En := fun a b => match gq a, gq b with
  | some i, some j => some (.fr (.bl (f i j)))
  | _, _ => none
def g1I (f : Int → Int) : En → Option En := fun a => match gq a with
  | some i => some (.fr (.int (f i)))
  | none => none
def Tv : En → En → Option En := fun a b => match stE a, stE b with
  | some i, some j => if i.length + j.length ≤ sizeLine then some (.fr (.str (i ++ j))) else none
  | _, _ => none
section
variable {K : PySem.W.Frag}
theorem jg.flat {F H : Hp} {d : D} {v : V} (s : Ext F H) (h : Dq K F d v) : jg K F H F H (.fr d) v := .old (Grow.refl s) h
theorem Yx {P : Int → Int → Prop} {c : Int → Int → Bool} {f : Int → Int → Int} (hc : ∀ i j, c i j = true → P i j) : wQ K (rI P fun i j => .int (f i j)) (MP c f) := by
  intro F H e1 e2 x y e Q s r1 r2 h q
  unfold MP at h
  cases h1 : gq e1 with
  | none => rw [h1] at h; cases h
  | some i =>
    cases h2 : gq e2 with
    | none => rw [h1, h2] at h; cases h
    | some j =>
      rw [h1, h2] at h
      by_cases z : c i j = true
      · simp only [z, if_true] at h
        cases h
        exact ⟨i, j, dN r1 h1, dN r2 h2, hc i j z, q _ _ _ (.flat s (oG _))⟩
      · simp only [z, if_false] at h; cases h
theorem aaS {f : Int → Int → Int} : wQ K (rI0 fun i j => .int (f i j)) (MP (fun _ _ => true) f) := by
  intro F H e1 e2 x y e Q s r1 r2 h q
  unfold MP at h
  cases h1 : gq e1 with
  | none => rw [h1] at h; cases h
  | some i =>
    cases h2 : gq e2 with
    | none => rw [h1, h2] at h; cases h
    | some j =>
      rw [h1, h2] at h
      cases h
      exact ⟨i, j, dN r1 h1, dN r2 h2, q _ _ _ (.flat s (oG _))⟩
theorem abE {f : Int → Int → Bool} : wQ K (rI0 fun i j => .bl (f i j)) (g2B f) := by
  intro F H e1 e2 x y e Q s r1 r2 h q
  unfold g2B at h
  cases h1 : gq e1 with
  | none => rw [h1] at h; cases h
  | some i =>
    cases h2 : gq e2 with
    | none => rw [h1, h2] at h; cases h
    | some j =>
      rw [h1, h2] at h
      cases h
      exact ⟨i, j, dN r1 h1, dN r2 h2, q _ _ _ (.flat s (lU _))⟩
theorem abF : wQ K (fun x y H Q => ∃ i j, x = .str i ∧ y = .str j ∧ i.length + j.length ≤ sizeLine ∧ Q (.str (i ++ j)) H) Tv := by
  intro F H e1 e2 x y e Q s r1 r2 h q
  unfold Tv at h
  cases h1 : stE e1 with
  | none => rw [h1] at h; cases h
  | some i =>
    cases h2 : stE e2 with
    | none => rw [h1, h2] at h; cases h
    | some j =>
      rw [h1, h2] at h
      by_cases z : i.length + j.length ≤ sizeLine
      · simp only [z, if_true] at h
        cases h
        exact ⟨i, j, wV r1 h1, wV r2 h2, z, q _ _ _ (.flat s (wU _))⟩
      · simp only [z, if_false] at h; cases h
end
def wW (i j : Int) : Bool := decide (i.natAbs.log2 + j.natAbs.log2 < 100000000)
def Gn (_ j : Int) : Bool := decide (0 < j) && decide (j.natAbs.log2 < 9000)
def aaT (_ j : Int) : Bool := decide (0 < j)
def Gp (i j : Int) : Bool := decide (0 ≤ j) && decide (j ≤ 1000000) && decide (i.natAbs < 2 ^ 64)
theorem Tw {i j : Int} (h : wW i j = true) : IntMulOk i j := by
  have h := of_decide_eq_true h
  have b : ∀ x : Int, Builtin.Int.intBits x ≤ x.natAbs.log2 + 1 := fun x => by
    unfold Builtin.Int.intBits
    split <;> omega
  have h1 := b i
  have h2 := b j
  have e : bitsLine = 134217728 := by decide
  unfold IntMulOk
  intro z
  rw [Bool.and_eq_true] at z
  have z2 := z.2
  unfold Builtin.Int.intTooBig at z2
  have z3 := of_decide_eq_true z2
  rw [e] at z3
  omega
theorem TF {i j : Int} (h : Gn i j = true) : CDivW i j := by
  unfold Gn at h
  rw [Bool.and_eq_true] at h
  exact ⟨of_decide_eq_true h.1, of_decide_eq_true h.2⟩
theorem TJ {i j : Int} (h : Gp i j = true) : CPow i j := by
  unfold Gp at h
  rw [Bool.and_eq_true, Bool.and_eq_true] at h
  exact ⟨of_decide_eq_true h.1.1, of_decide_eq_true h.1.2, of_decide_eq_true h.2⟩
theorem op_mulX {X : Cx} : OpR X (binaryOp .Mult) (rI (fun i j => wW i j = true) fun i j => .int (i * j)) := opI fun _ _ _ _ _ _ _ hc q => PyProof.Rows.mul_int q (Tw hc)
def abG : En → En → Option En := fun a b => match lsE a, lsE b with
  | some xs, some ys => if xs.length + ys.length ≤ sizeLine then some (.ol (xs ++ ys)) else none
  | _, _ => none
def TQ : En → En → Option En := fun a b => match Cv a, Cv b with
  | some xs, some ys => if xs.length + ys.length ≤ sizeLine then some (.fr (.tup (xs ++ ys))) else none
  | _, _ => none
def abH : En → En → Option En := fun a b => match lsE a, gq b with
  | some xs, some k => if -(2 ^ 63) ≤ k ∧ k < 2 ^ 63 ∧ xs.length * k.toNat ≤ sizeLine then some (.ol (List.replicate k.toNat xs).flatten) else none
  | _, _ => none
def M4 : En → En → Option En := fun a b => match Cv a, gq b with
  | some xs, some k => if k = 1 then some (.fr (.tup xs)) else if xs ≠ [] ∧ 2 ≤ k ∧ k ≤ 1000 ∧ xs.length ≤ 1000 then some (.fr (.tup (List.replicate k.toNat xs).flatten)) else none
  | _, _ => none
theorem aV.flatten {K : PySem.W.Frag} {F : Hp} {ds : List D} {vs : List V} (h : aV K F ds vs) : ∀ n : Nat, aV K F (List.replicate n ds).flatten (List.replicate n vs).flatten
  | 0 => by simpa using aV.nil
  | n + 1 => by
    rw [List.replicate_succ, List.replicate_succ, List.flatten_cons, List.flatten_cons]
    exact h.append (aV.flatten h n)
section
variable {K : PySem.W.Frag}
theorem adZ : wQ K rCat abG := by
  intro F H e1 e2 x y e Q s r1 r2 h q
  unfold abG at h
  cases h1 : lsE e1 with
  | none => rw [h1] at h; cases h
  | some xs =>
    cases h2 : lsE e2 with
    | none => rw [h1, h2] at h; cases h
    | some ys =>
      rw [h1, h2] at h
      by_cases z : xs.length + ys.length ≤ sizeLine
      · simp only [z, if_true] at h
        cases h
        obtain ⟨a, vs, rfl, ha, da⟩ := pO s r1 h1
        obtain ⟨b, ws, rfl, hb, db⟩ := pO s r2 h2
        exact ⟨a, b, vs, ws, rfl, rfl, ha, hb, by rw [← da.length, ← db.length]; exact z, fun p hp => q _ _ _ (.lst (Grow.refl s) hp (da.append db))⟩
      · simp only [z, if_false] at h; cases h
theorem abI : wQ K (aaL K) TQ := by
  intro F H e1 e2 x y e Q s r1 r2 h q
  unfold TQ at h
  cases h1 : Cv e1 with
  | none => rw [h1] at h; cases h
  | some xs =>
    cases h2 : Cv e2 with
    | none => rw [h1, h2] at h; cases h
    | some ys =>
      rw [h1, h2] at h
      by_cases z : xs.length + ys.length ≤ sizeLine
      · simp only [z, if_true] at h
        cases h
        obtain ⟨a, vs, rfl, ha, da⟩ := mJ r1 h1
        obtain ⟨b, ws, rfl, hb, db⟩ := mJ r2 h2
        have l1 := da.length
        have l2 := db.length
        refine ⟨a, b, vs, ws, rfl, rfl, s.JC ha, s.JC hb, by rw [← l1, ← l2]; exact z, fun e => q _ _ _ (.flat s ?_), fun _ e => q _ _ _ (.flat s ?_), fun _ _ ob p nd hp => q _ _ _ (jg.tup s nd hp (da.append db))⟩
        · have e' : xs = [] := List.length_eq_zero_iff.mp (by rw [l1, e]; rfl)
          simp only [Dq]
          exact ⟨b, ws, rfl, hb, by rw [e']; exact db⟩
        · have e' : ys = [] := List.length_eq_zero_iff.mp (by rw [l2, e]; rfl)
          simp only [Dq]
          exact ⟨a, vs, rfl, ha, by rw [e', List.append_nil]; exact da⟩
      · simp only [z, if_false] at h; cases h
theorem ad0 : wQ K rRep abH := by
  intro F H e1 e2 x y e Q s r1 r2 h q
  unfold abH at h
  cases h1 : lsE e1 with
  | none => rw [h1] at h; cases h
  | some xs =>
    cases h2 : gq e2 with
    | none => rw [h1, h2] at h; cases h
    | some k =>
      rw [h1, h2] at h
      by_cases z : -(2 ^ 63) ≤ k ∧ k < 2 ^ 63 ∧ xs.length * k.toNat ≤ sizeLine
      · simp only [z, if_true] at h
        obtain ⟨z1, z2, z3⟩ := z
        cases h
        obtain ⟨a, vs, rfl, ha, da⟩ := pO s r1 h1
        exact ⟨a, k, vs, rfl, dN r2 h2, ha, z1, z2, by rw [← da.length]; exact z3, fun p hp => q _ _ _ (.lst (Grow.refl s) hp (da.flatten _))⟩
      · simp only [z, if_false] at h; cases h
theorem abJ : wQ K (fun x y H Q => aaM K x y H Q ∨ aaQ K x y H Q) M4 := by
  intro F H e1 e2 x y e Q s r1 r2 h q
  unfold M4 at h
  cases h1 : Cv e1 with
  | none => rw [h1] at h; cases h
  | some xs =>
    cases h2 : gq e2 with
    | none => rw [h1, h2] at h; cases h
    | some k =>
      rw [h1, h2] at h
      replace h : (if k = 1 then some (En.fr (.tup xs)) else if xs ≠ [] ∧ 2 ≤ k ∧ k ≤ 1000 ∧ xs.length ≤ 1000 then some (En.fr (.tup (List.replicate k.toNat xs).flatten)) else none) = some e := h
      obtain ⟨a, vs, rfl, ha, da⟩ := mJ r1 h1
      by_cases z0 : k = 1
      · subst z0
        rw [if_pos rfl] at h
        cases h
        refine .inr ⟨a, vs, rfl, dN r2 h2, s.JC ha, q _ _ _ (.flat s ?_)⟩
        simp only [Dq]
        exact ⟨a, vs, rfl, ha, da⟩
      rw [if_neg z0] at h
      by_cases z : xs ≠ [] ∧ 2 ≤ k ∧ k ≤ 1000 ∧ xs.length ≤ 1000
      · rw [if_pos z] at h
        obtain ⟨z1, z2, z3, z4⟩ := z
        cases h
        have l1 := da.length
        exact .inl ⟨a, k, vs, rfl, dN r2 h2, s.JC ha, fun e => z1 (List.length_eq_zero_iff.mp (by rw [l1, e]; rfl)), z2, z3, by rw [← l1]; exact z4, fun ob p nd hp => q _ _ _ (jg.tup s nd hp (da.flatten _))⟩
      · rw [if_neg z] at h; cases h
end
/-! ### ==, !=, in, not in -/
mutual
def toP : D → PyData
  | .non => .none
  | .bl b => .bool b
  | .int i => .int i
  | .str s => .str s
  | .lst xs => .list (iH xs)
  | .tup xs => .tuple (iH xs)
  | .dct _ _ => .dict []
  | .v7 _ _ => .dict []
def iH : List D → List PyData
  | [] => []
  | x :: xs => toP x :: iH xs
end
mutual
theorem aaU {K : PySem.W.Frag} {F : Hp} : ∀ (d : D) (v : V), Dq K F d v → (toP d).canLay0 = true → Dp K F v (toP d)
  | .non, v, h, _ => by have h' : v = .non := by simpa only [Dq] using h
                        subst h'; exact .non
  | .bl b, v, h, _ => by have h' : v = .bl b := by simpa only [Dq] using h
                         subst h'; exact .bl b
  | .int b, v, h, _ => by have h' : v = .int b := by simpa only [Dq] using h
                          subst h'; exact .int b
  | .str b, v, h, _ => by have h' : v = .str b := by simpa only [Dq] using h
                          subst h'; exact .str b
  | .lst ds, v, h, c => by
    simp only [Dq] at h
    obtain ⟨a, vs, rfl, h1, h2⟩ := h
    exact .lst (.inl (.inl h1)) (uJ ds vs h2 c)
  | .tup ds, v, h, c => by
    simp only [Dq] at h
    obtain ⟨a, vs, rfl, h1, h2⟩ := h
    exact .tup h1.JC (uJ ds vs h2 c)
  | .dct _ _, _, _, c => by simp [toP, PyData.canLay0] at c
  | .v7 _ _, _, _, c => by simp [toP, PyData.canLay0] at c
theorem uJ {K : PySem.W.Frag} {F : Hp} : ∀ (ds : List D) (vs : List V), aV K F ds vs → PyData.canLayAll0 (iH ds) = true → DpAll K F vs (iH ds)
  | [], vs, h, _ => by rw [h.nil_iff]; exact .nil
  | d :: ds, vs, h, c => by
    obtain ⟨v, r, rfl, h1, h2⟩ := h.uncons
    have c' : ((toP d).canLay0 && PyData.canLayAll0 (iH ds)) = true := c
    rw [Bool.and_eq_true] at c'
    exact .cons (aaU d v h1 c'.1) (uJ ds r h2 c'.2)
end
def asD : En → Option D
  | .fr d => some d
  | .ol xs => some (.lst xs)
  | .d8 xs => some (.lst xs)
  | .ex _ => none
  | .pA _ => none
  | .od _ _ => none
  | .on _ _ => none
theorem jh {d : PyData} (h : SeqAt.shaped d = true) : d.canLay0 = true := SeqAt.canLay_of_shaped h
theorem uK {K : PySem.W.Frag} {F H : Hp} {e : En} {x : V} {d : D} (s : Ext F H) (r : Rp K F H e x) (h : asD e = some d) (c : (toP d).canLay0 = true) : Dp K H x (toP d) := by
  cases e with
  | fr d' => cases h; exact aaU _ _ (Dq.mono s _ _ r) c
  | ol xs =>
    cases h
    obtain ⟨a, vs, rfl, h1, h2⟩ := r
    exact .lst (.inl (.inl h1)) (uJ _ _ (aV.mono s _ _ h2) c)
  | d8 xs =>
    cases h
    obtain ⟨a, vs, rfl, h1, h2⟩ := r
    exact .lst (s.JL h1) (uJ _ _ (aV.mono s _ _ h2) c)
  | ex _ => cases h
  | pA xss => cases h
  | od _ _ => cases h
  | on _ _ => cases h
def M5 (d : D) : Bool := SeqAt.shaped (toP d)
def zR (a b : D) : Bool := PyData.eqv (toP a) (toP b)
def fW (neg : Bool) : En → En → Option En := fun a b => match asD a, asD b with
  | some d, some e => if M5 d = true ∧ M5 e = true then some (.fr (.bl (if neg then !zR d e else zR d e))) else none
  | _, _ => none
def gIn (neg : Bool) : En → En → Option En := fun a b => match asD a, Gf b with
  | some d, some xs => if M5 d = true ∧ M5 (.lst xs) = true then some (.fr (.bl (if neg then !xs.any (fun z => zR z d) else xs.any fun z => zR z d))) else none
  | _, _ => none
def Av : D → Bool
  | .non | .bl _ | .int _ | .str _ => true
  | _ => false
def Qg (neg : Bool) : En → En → Option En := fun a b => match asD a, Cv b with
  | some d, some xs => if Av d = true ∧ xs.all Av = true then some (.fr (.bl (if neg then !xs.any (fun z => zR z d) else xs.any fun z => zR z d))) else none
  | _, _ => none
section
variable {K : PySem.W.Frag}
theorem af9 : wQ K (rEqD K) (fW false) := by
  intro F H e1 e2 x y e Q s r1 r2 h q
  unfold fW at h
  cases h1 : asD e1 with
  | none => rw [h1] at h; cases h
  | some d =>
    cases h2 : asD e2 with
    | none => rw [h1, h2] at h; cases h
    | some d2 =>
      rw [h1, h2] at h
      by_cases z : M5 d = true ∧ M5 d2 = true
      · simp only [z, and_self, if_true, Bool.false_eq_true, if_false] at h
        cases h
        exact ⟨_, _, uK s r1 h1 (jh z.1), uK s r2 h2 (jh z.2), z.1, z.2, q _ _ _ (.flat s (lU _))⟩
      · simp only [z, if_false] at h; cases h
theorem aga : wQ K (rNeD K) (fW true) := by
  intro F H e1 e2 x y e Q s r1 r2 h q
  unfold fW at h
  cases h1 : asD e1 with
  | none => rw [h1] at h; cases h
  | some d =>
    cases h2 : asD e2 with
    | none => rw [h1, h2] at h; cases h
    | some d2 =>
      rw [h1, h2] at h
      by_cases z : M5 d = true ∧ M5 d2 = true
      · simp only [z, and_self, if_true] at h
        cases h
        exact ⟨_, _, uK s r1 h1 (jh z.1), uK s r2 h2 (jh z.2), z.1, z.2, q _ _ _ (.flat s (lU _))⟩
      · simp only [z, if_false] at h; cases h
theorem abK {F H : Hp} {e : En} {x : V} {xs : List D} (s : Ext F H) (r : Rp K F H e x) (h : Gf e = some xs) (c : PyData.canLayAll0 (iH xs) = true) : Dp K H x (.list (iH xs)) := by
  obtain ⟨a, vs, rfl, h1, h2⟩ := uI s r h
  exact .lst h1 (uJ _ _ (aV.mono s _ _ h2) c)
theorem Gq (d : D) : ∀ xs : List D, ((iH xs).any fun z => PyData.eqv z (toP d)) = xs.any fun z => zR z d
  | [] => rfl
  | x :: xs => by simp only [iH, List.any_cons, Gq d xs, zR]
theorem Yy : wQ K (rNotInD K) (gIn true) := by
  intro F H e1 e2 x y e Q s r1 r2 h q
  unfold gIn at h
  cases h1 : asD e1 with
  | none => rw [h1] at h; cases h
  | some d =>
    cases h2 : Gf e2 with
    | none => rw [h1, h2] at h; cases h
    | some xs =>
      rw [h1, h2] at h
      by_cases z : M5 d = true ∧ M5 (.lst xs) = true
      · simp only [z, and_self, if_true] at h
        cases h
        refine ⟨_, iH xs, uK s r1 h1 (jh z.1), abK s r2 h2 (jh z.2), z.1, z.2, ?_⟩
        rw [Gq]
        exact q _ _ _ (.flat s (lU _))
      · simp only [z, if_false] at h; cases h
theorem J8 {F : Hp} {d : D} {v : V} (h : Av d = true) (r : Dq K F d v) : flatV v = true ∧ ∀ (e : D) (w : V), Av e = true → Dq K F e w → eqV w v = zR e d := by
  cases d <;> simp only [Av, Bool.false_eq_true] at h <;> simp only [Dq] at r <;> subst r <;> refine ⟨rfl, fun e w h2 r2 => ?_⟩ <;>
    cases e <;> simp only [Av, Bool.false_eq_true] at h2 <;> simp only [Dq] at r2 <;> subst r2 <;> rfl
theorem M6 {F : Hp} {d : D} {v : V} (hd : Av d = true) (rd : Dq K F d v) : ∀ {xs : List D} {vs : List V}, xs.all Av = true → aV K F xs vs → vs.all flatV = true ∧ inV v vs = xs.any fun z => zR z d
  | [], vs, _, r => by rw [r.nil_iff]; exact ⟨rfl, rfl⟩
  | x :: xs, vs, h, r => by
    obtain ⟨w, t, rfl, r1, r2⟩ := r.uncons
    rw [List.all_cons, Bool.and_eq_true] at h
    obtain ⟨i1, i2⟩ := M6 hd rd h.2 r2
    refine ⟨by rw [List.all_cons, (J8 h.1 r1).1, i1]; rfl, ?_⟩
    show (eqV w v || inV v t) = _
    rw [List.any_cons, i2, (J8 hd rd).2 x w h.1 r1]
theorem abL {F H : Hp} {e : En} {x : V} {d : D} (r : Rp K F H e x) (h : asD e = some d) (f : Av d = true) : Dq K F d x := by
  cases e with
  | fr d' => cases h; exact r
  | ol xs => cases h; simp [Av] at f
  | d8 xs => cases h; simp [Av] at f
  | ex _ => cases h
  | pA _ => cases h
  | od _ _ => cases h
  | on _ _ => cases h
theorem ad1 (neg : Bool) : wQ K (rIn K neg) (Qg neg) := by
  intro F H e1 e2 x y e Q s r1 r2 h q
  unfold Qg at h
  cases h1 : asD e1 with
  | none => rw [h1] at h; cases h
  | some d =>
    cases h2 : Cv e2 with
    | none => rw [h1, h2] at h; cases h
    | some xs =>
      rw [h1, h2] at h
      by_cases z : Av d = true ∧ xs.all Av = true
      · simp only [z, and_self, if_true] at h
        cases h
        obtain ⟨b, ws, rfl, hb, db⟩ := mJ r2 h2
        have rd := abL r1 h1 z.1
        obtain ⟨i1, i2⟩ := M6 z.1 rd z.2 db
        refine ⟨b, ws, rfl, .inr (s.JC hb), (J8 z.1 rd).1, i1, ?_⟩
        rw [i2]
        exact q _ _ _ (.flat s (lU _))
      · simp only [z, if_false] at h; cases h
def wX : En → Bool
  | .fr .non => true
  | _ => false
def jL (neg : Bool) : En → En → Option En := fun a b => match b with
  | .fr .non => some (.fr (.bl (if neg then !wX a else wX a)))
  | _ => none
theorem Ax {F H : Hp} {e : En} {x : V} (r : Rp K F H e x) : decide (x = .non) = wX e := by
  cases e with
  | fr d =>
    cases d <;> simp only [Rp, Dq] at r
    · subst r; rfl
    · subst r; rfl
    · subst r; rfl
    · subst r; rfl
    · obtain ⟨a, vs, rfl, _⟩ := r; rfl
    · obtain ⟨a, vs, rfl, _⟩ := r; rfl
    · obtain ⟨a, us, vs, rfl, _⟩ := r; rfl
    · obtain ⟨a, us, vs, rfl, _⟩ := r; rfl
  | ol xs => obtain ⟨a, vs, rfl, _⟩ := r; rfl
  | od ks xs => obtain ⟨a, us, vs, rfl, _⟩ := r; rfl
  | on ks xs => obtain ⟨a, us, vs, rfl, _⟩ := r; rfl
  | d8 xs => obtain ⟨a, vs, rfl, _⟩ := r; rfl
  | ex xs => obtain ⟨a, _, _, _, rfl, _⟩ := r; rfl
  | pA xs => obtain ⟨a, _, rfl, _⟩ := r; rfl
theorem TV {neg : Bool} {a b e : En} (h : jL neg a b = some e) : b = .fr .non ∧ e = .fr (.bl (if neg then !wX a else wX a)) := by
  cases b with
  | fr d => cases d <;> simp [jL] at h <;> exact ⟨rfl, h.symm⟩
  | _ => simp [jL] at h
theorem ad2 : wQ K (fun x y H Q => y = .non ∧ Q (.bl (decide (x = .non))) H) (jL false) := by
  intro F H e1 e2 x y e Q s r1 r2 h q
  obtain ⟨rfl, rfl⟩ := TV h
  refine ⟨by simpa only [Rp, Dq] using r2, ?_⟩
  rw [Ax r1]
  exact q _ _ _ (.flat s (lU _))
theorem abM : wQ K (fun x y H Q => y = .non ∧ Q (.bl (!decide (x = .non))) H) (jL true) := by
  intro F H e1 e2 x y e Q s r1 r2 h q
  obtain ⟨rfl, rfl⟩ := TV h
  refine ⟨by simpa only [Rp, Dq] using r2, ?_⟩
  rw [Ax r1]
  exact q _ _ _ (.flat s (lU _))
def eZ : En → En → Option En := fun a b => match a.items, gq b with
  | some xs, some i => (atI xs i).map .fr
  | _, _ => match stE a, gq b with
    | some z, some i => if z.length ≤ sizeLine then (atI z.cps.toList i).map fun c => .fr (.str ⟨#[c]⟩) else none
    | _, _ => none
theorem abN {F : Hp} {xs : List D} {vs : List V} {i : Int} {d : D} (r : aV K F xs vs) (h : atI xs i = some d) : ∃ v, atI vs i = some v ∧ Dq K F d v := by
  unfold atI at h ⊢
  rw [← r.length]
  cases q : ixN xs.length i with
  | none => rw [q] at h; cases h
  | some j =>
    rw [q] at h
    obtain ⟨v, h1, h2⟩ := r.get (i := j) h
    exact ⟨v, h1, h2⟩
theorem wY {F H : Hp} {e : En} {x : V} {xs : List D} (s : Ext F H) (r : Rp K F H e x) (h : e.items = some xs) : ∃ a vs, x = .ref a ∧ (SqL K H a vs ∨ SqT K H a vs) ∧ aV K F xs vs := by
  cases e with
  | fr d =>
    cases d with
    | lst k =>
      obtain ⟨a, vs, h1, h2, h3⟩ := pO (xs := xs) s r h
      exact ⟨a, vs, h1, .inl (.inl (.inl h2)), h3⟩
    | tup k =>
      obtain ⟨a, vs, h1, h2, h3⟩ := mJ (xs := xs) r h
      exact ⟨a, vs, h1, .inr (s.JC h2), h3⟩
    | _ => cases h
  | ol k =>
    obtain ⟨a, vs, h1, h2, h3⟩ := pO (xs := xs) s r h
    exact ⟨a, vs, h1, .inl (.inl (.inl h2)), h3⟩
  | d8 k =>
    cases h
    obtain ⟨a, vs, h1, h2, h3⟩ := r
    exact ⟨a, vs, h1, .inl (s.JL h2), h3⟩
  | ex _ => cases h
  | pA _ => cases h
  | od _ _ => cases h
  | on _ _ => cases h
theorem agb : wQ K (rIx K) eZ := by
  intro F H e1 e2 x y e Q s r1 r2 h q
  unfold eZ at h
  cases h1 : e1.items with
  | some xs =>
    cases h2 : gq e2 with
    | none =>
      rw [h1, h2] at h
      cases h3 : stE e1 <;> rw [h3] at h <;> cases h
    | some i =>
      rw [h1, h2] at h
      replace h : Option.map En.fr (atI xs i) = some e := h
      cases h3 : atI xs i with
      | none => rw [h3] at h; cases h
      | some d =>
        rw [h3] at h
        cases h
        obtain ⟨a, vs, rfl, h4, h5⟩ := wY s r1 h1
        obtain ⟨v, h6, h7⟩ := abN h5 h3
        rcases h4 with h4 | h4
        · exact .inl ⟨a, vs, i, v, rfl, dN r2 h2, h4, h6, q _ _ _ (.flat s h7)⟩
        · exact .inr (.inl ⟨a, vs, i, v, rfl, dN r2 h2, h4, h6, q _ _ _ (.flat s h7)⟩)
  | none =>
    rw [h1] at h
    cases h2 : stE e1 with
    | none => rw [h2] at h; cases h
    | some z =>
      cases h3 : gq e2 with
      | none => rw [h2, h3] at h; cases h
      | some i =>
        rw [h2, h3] at h
        by_cases hz : z.length ≤ sizeLine
        · simp only [hz, if_true] at h
          cases h4 : atI z.cps.toList i with
          | none => rw [h4] at h; cases h
          | some c =>
            rw [h4] at h
            cases h
            exact .inr (.inr ⟨z, i, c, wV r1 h2, dN r2 h3, hz, h4, q _ _ _ (.flat s (wU _))⟩)
        · simp only [hz, if_false] at h; cases h
end
end DM
end
section
set_option maxHeartbeats 2000000
namespace PySem
open Sem (wp)
section
variable {prog : Program} {w : World} {A : Around} {E : Value → Shared → Prop} {s : Shared}
end
/-! a source: a list (true) or a tuple (false) -/
def M7 (b : Bool) (h : Heap) (a : Addr) (items : Array Value) : Prop := match b with
  | true => h.IsList a items
  | false => h.IsTuple a items
def kW (b : Bool) (h : Heap) (it a : Addr) (i : Nat) : Prop := match b with
  | true => h.IsListIter it a i
  | false => h.IsTupleIter it a i
def TX (b : Bool) (a : Addr) : Obj := match b with
  | true => { cls := .type "list_iterator", data := .fields #[.ref a, .int 0 0] }
  | false => { cls := .type "tuple_iterator", data := .fields #[.ref a, .int 0 0] }
theorem fG (b : Bool) (a : Addr) (items : Array Value) : Begins (.ref a) (TX b a) fun h => M7 b h a items := by
  cases b
  · exact begins_tuple a items
  · exact begins_list a items
theorem bU {prog : Program} {w : World} {A : Around} (hh : A.handled = none) (b : Bool) (it a : Addr) (hne : a ≠ it) (items : Array Value) :
    Draws prog w A it [it, a] items.size (fun i v => items[i]? = some v) (fun i h => kW b h it a i ∧ M7 b h a items) := by
  cases b
  · exact Draws.tuple hh it a hne items
  · exact Draws.list hh it a hne items
theorem cZ {b : Bool} {h : Heap} {it a : Addr} {i : Nat} (x : kW b h it a i) : ∃ o, h.get? it = some o ∧ ∀ v, o.data ≠ .cell v := by
  cases b
  · obtain ⟨o, e, _, d⟩ := x; exact ⟨o, e, fun v q => by rw [d] at q; cases q⟩
  · obtain ⟨o, e, _, d⟩ := x; exact ⟨o, e, fun v q => by rw [d] at q; cases q⟩
theorem fH {b : Bool} {h h' : Heap} {it a : Addr} {i : Nat} (x : kW b h it a i) (k : ∀ o, h.get? it = some o → h'.get? it = some o) : kW b h' it a i := by
  cases b
  · exact x.at k
  · exact x.at k
theorem iy {b : Bool} {h : Heap} {it a : Addr} (e : h.get? it = some (TX b a)) : kW b h it a 0 := by
  cases b
  · exact ⟨_, e, rfl, rfl⟩
  · exact ⟨_, e, rfl, rfl⟩
end PySem
namespace DM
open PySem L2
def gY (b : Bool) (K : PySem.W.Frag) (H : Hp) (a : Addr) (xs : List V) : Prop := match b with
  | true => SqL K H a xs
  | false => SqT K H a xs
section
variable {X : Cx} {pins : List (Addr × Obj)} {σ : L2.St} {H : Hp} {s : Shared} {a : Addr} {xs ys : List V}
theorem cY {b : Bool} (I : Inv X pins σ H s) (h : gY b X.K H a xs) : ∃ its : List Value, Vals xs its ∧ M7 b s.heap a its.toArray := by
  cases b
  · obtain ⟨its, r, p, _⟩ := I.tuple h
    exact ⟨its, r, p⟩
  · obtain ⟨its, r, p, _⟩ := I.list h
    exact ⟨its, r, p.isList⟩
theorem ju {b : Bool} (I : Inv X pins σ H s) (h : gY b X.K H a xs) (h' : gY b X.K H a ys) : xs = ys := by
  cases b
  · exact I.tuple_inj h h'
  · exact I.list_inj h h'
theorem jB {b : Bool} {h : Heap} {a : Addr} {items : Array Value} (x : M7 b h a items) : a < h.objs.size := by
  cases b
  · obtain ⟨o, e, _⟩ := x; exact Heap.lt_size e
  · obtain ⟨o, e, _⟩ := x; exact Heap.lt_size e
end
/-! one item, its tuple known -/
section
variable {prog : Program} {w : World} {A : Around} {E : Value → Shared → Prop} {s : Shared} {elts : List Expr} {k i : Nat} {pos : Pos} {Q : Value → Shared → Prop}
theorem Qh {z TI TO i1 i2 : Addr} {fp1 fp2 : List Addr} {n1 n2 : Nat} {P1 P2 : Nat → Value → Prop} {St1 St2 : Nat → Heap → Prop} {a1 a2 : Value} (S : ZipSep2 z TI TO i1 i2 fp1 fp2) (D1 : Draws prog w A.in1 i1 fp1 n1 P1 St1) (D2 : Draws prog w A.in1 i2 fp2 n2 P2 St2)
    (hz : IsZip s.heap z TI TO .none) (hTI : IsTupOf2 s.heap TI (.ref i1) (.ref i2)) (hTO : IsTupOf2 s.heap TO a1 a2) (st1 : St1 i s.heap) (st2 : St2 i s.heap) (l1 : i < n1) (l2 : i < n2)
    (hQ : ∀ T x y h' tk, s.heap.objs.size ≤ T → P1 i x → P2 i y → h'.get? T = some (eY [x, y]) → (IsZip h' z TI TO .none ∧ IsTupOf2 h' TI (.ref i1) (.ref i2) ∧ (∃ b1 b2, IsTupOf2 h' TO b1 b2) ∧ St1 (i + 1) h' ∧ St2 (i + 1) h') →
      (∀ b o, b ∉ [z, TO, i1, i2] → s.heap.get? b = some o → h'.get? b = some o) → Q (.ref T) { s with heap := h', toks := tk }) :
    wpAny (model prog w) A (pyNext (.ref z)) (fun r s₁ => ∃ v, r = some v ∧ wpAny (model prog w) A (letOwnedTupleGo (.Tuple elts k pos) (.ref z) v) (fun _ s₂ => Q v s₂) E s₁) E s := by
  refine wpAny_pyNext_zipD2_item S D1 D2 hz hTI hTO st1 st2 l1 l2 fun x y h1 tk p1 p2 b1 b2 d1 d2 b5 b6 k1 => ⟨_, rfl, ?_⟩
  exact wpAny_letOwnedTupleGo_zip (s := { s with heap := h1, toks := tk }) b1 fun h2 z2 sb => hQ s.heap.objs.size x y h2 tk (Nat.le_refl _) p1 p2 (sb.extBut _ _ (Nat.ne_of_gt (Heap.lt_size hz)) b5)
    ⟨z2, sb.extBut _ _ S.TIz (k1 _ _ S.TIz S.TITO S.TIi1 S.TIi2 hTI), ⟨_, _, sb.extBut _ _ S.TOz b2⟩, D1.over d1 sb S.zf1, D2.over d2 sb S.zf2⟩
    fun c o hc e => sb.extBut _ _ (fun q => hc (by simp [q])) (k1 c o (fun q => hc (by simp [q])) (fun q => hc (by simp [q])) (fun q => hc (by simp [q])) (fun q => hc (by simp [q])) e)
end
def ItZ (b1 b2 : Bool) (K : PySem.W.Frag) (a b : Addr) : It :=
  ⟨fun i H => ∃ (xs ys : List V) (x y : V), gY b1 K H a xs ∧ gY b2 K H b ys ∧ xs[i]? = some x ∧ ys[i]? = some y,
    fun i H v H' => ∃ T o x y, Nd o ∧ v = .ref T ∧ H T = none ∧ H' = upd H T (.frz o (.tup [x, y])) ∧ (∀ xs, gY b1 K H a xs → xs[i]? = some x) ∧ ∀ ys, gY b2 K H b ys → ys[i]? = some y,
    fun i H => ∃ xs ys : List V, gY b1 K H a xs ∧ gY b2 K H b ys ∧ min xs.length ys.length = i⟩
theorem Qi {P : Program} {w : World} {K : PySem.W.Frag} {elts : List Expr} {kk : Nat} {tpos : Pos} (b1 b2 : Bool) (a b z TI TO i1 i2 : Addr) (S : ZipSep2 z TI TO i1 i2 [i1, a] [i2, b]) (h1 : a ≠ i1) (h2 : b ≠ i2) :
    Turn P w K (.Tuple elts kk tpos) (ItZ b1 b2 K a b) [z, TI, TO, i1, i2] z (fun i h => IsZip h z TI TO .none ∧ IsTupOf2 h TI (.ref i1) (.ref i2) ∧ (∃ x y, IsTupOf2 h TO x y) ∧ kW b1 h i1 a i ∧ kW b2 h i2 b i) where
  mem := by simp
  obj := fun i h st c hc => by
    obtain ⟨hz, hTI, ⟨x, y, hTO⟩, s1, s2⟩ := st
    have e' : c = z ∨ c = TI ∨ c = TO ∨ c = i1 ∨ c = i2 := by simpa using hc
    rcases e' with q | q | q | q | q
    · rw [q]; exact ⟨_, hz, fun v q => nomatch q⟩
    · rw [q]; exact ⟨_, hTI, fun v q => nomatch q⟩
    · rw [q]; exact ⟨_, hTO, fun v q => nomatch q⟩
    · rw [q]; exact cZ s1
    · rw [q]; exact cZ s2
  keep := fun i h h' st k => by
    obtain ⟨hz, hTI, ⟨x, y, hTO⟩, s1, s2⟩ := st
    exact ⟨k z (by simp) _ hz, k TI (by simp) _ hTI, ⟨x, y, k TO (by simp) _ hTO⟩, fH s1 fun o q => k i1 (by simp) o q, fH s2 fun o q => k i2 (by simp) o q⟩
  item := by
    intro X hP hw hK hc i pins s σ H E I hf st hg
    subst hP hw hK
    obtain ⟨hz, hTI, hTO, s1, s2⟩ := st
    obtain ⟨xs, ys, x, y, hqx, hqy, hx, hy⟩ := hg
    obtain ⟨its, rv, p1⟩ := cY I hqx
    obtain ⟨its2, rv2, p2⟩ := cY I hqy
    obtain ⟨u, hu, ru⟩ := rv.get hx
    obtain ⟨u2, hu2, ru2⟩ := rv2.get hy
    have hlt : i < min its.toArray.size its2.toArray.size := by
      have q1 := (List.getElem?_eq_some_iff.mp hu).1
      have q2 := (List.getElem?_eq_some_iff.mp hu2).1
      simp only [List.size_toArray]
      omega
    have Cy := hTO
    obtain ⟨a1, a2, Cy⟩ := Cy
    have q1 := (List.getElem?_eq_some_iff.mp hu).1
    have q2 := (List.getElem?_eq_some_iff.mp hu2).1
    refine Qh S (bU (prog := X.prog) (w := X.w) (A := X.A.in1) (I.ok.hd hc) b1 i1 a h1 its.toArray) (bU (prog := X.prog) (w := X.w) (A := X.A.in1) (I.ok.hd hc) b2 i2 b h2 its2.toArray) hz hTI Cy ⟨s1, p1⟩ ⟨s2, p2⟩ (by simpa using q1) (by simpa using q2) fun T y1 y2 h' tk hT hy1 hy2 hIT hst hk => ?_
    have e1 : y1 = u := by
      rw [List.getElem?_toArray, hu] at hy1
      exact (Option.some.inj hy1).symm
    have e2 : y2 = u2 := by
      rw [List.getElem?_toArray, hu2] at hy2
      exact (Option.some.inj hy2).symm
    subst e1 e2
    have new : ObjOk X.prog X.w (upd H T (.frz (eY [y1, y2]) (.tup [x, y]))) h' T (.frz (eY [y1, y2]) (.tup [x, y])) :=
      ⟨hIT, by show 2 ≤ sizeLine; decide, [y1, y2], .cons ru (.cons ru2 .nil), _, hIT, rfl, _, rfl⟩
    have I1 : Inv X pins σ (upd H T (.frz (eY [y1, y2]) (.tup [x, y]))) { s with heap := h', toks := tk } := I.turnedNew (ch := [z, TO, i1, i2]) (fun b ob hb q => hk b ob hb q) (fun c hc => hf c (by
      have e' : c = z ∨ c = TO ∨ c = i1 ∨ c = i2 := by simpa using hc
      rcases e' with q | q | q | q <;> simp [q])) hT new
    refine ⟨.ref T, _, I1, rfl, ⟨T, _, x, y, jA _, rfl, I.hok.fresh hT, rfl, fun l hl => by rw [ju I hl hqx]; exact hx, fun l hl => by rw [ju I hl hqy]; exact hy⟩, ⟨hst.1, hst.2.1, hst.2.2.1, hst.2.2.2.1.1, hst.2.2.2.2.1⟩, fun c hcm => ?_⟩
    have hcT : c ≠ T := by
      have hlt : c < s.heap.objs.size := by
        have e' : c = z ∨ c = TI ∨ c = TO ∨ c = i1 ∨ c = i2 := by simpa using hcm
        obtain ⟨q3, q4, hTO⟩ := hTO
        rcases e' with q | q | q | q | q
        · rw [q]; exact Heap.lt_size hz
        · rw [q]; exact Heap.lt_size hTI
        · rw [q]; exact Heap.lt_size hTO
        · rw [q]; obtain ⟨_, e, _⟩ := cZ s1; exact Heap.lt_size e
        · rw [q]; obtain ⟨_, e, _⟩ := cZ s2; exact Heap.lt_size e
      exact Nat.ne_of_lt (Nat.lt_of_lt_of_le hlt hT)
    rw [upd_ne hcT]
    exact (hf c hcm).1
  done := by
    intro X hP hw hK hc i pins s σ H E I hf st hg
    subst hP hw hK
    obtain ⟨hz, hTI, hTO, s1, s2⟩ := st
    obtain ⟨xs, ys, hqx, hqy, hend⟩ := hg
    obtain ⟨its, rv, p1⟩ := cY I hqx
    obtain ⟨its2, rv2, p2⟩ := cY I hqy
    have l1 := rv.length
    have l2 := rv2.length
    have hn : min its.toArray.size its2.toArray.size = i := by simp only [List.size_toArray]; omega
    have W := GoesN.zip2 (elts := elts) (x1 := kk) (pos := tpos) S (bU (prog := X.prog) (w := X.w) (A := X.A.in1) (I.ok.hd hc) b1 i1 a h1 its.toArray) (bU (prog := X.prog) (w := X.w) (A := X.A.in1) (I.ok.hd hc) b2 i2 b h2 its2.toArray)
    exact W.stops s _ E (by rw [hn]; exact ⟨hz, hTI, hTO, ⟨s1, p1⟩, s2, p2⟩) fun h' tk hk _ => I.turnedL (ch := [z, TO, i1, i2]) hk (fun c hc => hf c (by
      have e' : c = z ∨ c = TO ∨ c = i1 ∨ c = i2 := by simpa using hc
      rcases e' with q | q | q | q <;> simp [q]))
  self := fun A i s Q E st h => wpAny_pyIter_zip st.1 h
def aaV (K : PySem.W.Frag) (ta : TA) : TI := fun σ H R => ta σ H fun vs H1 => ∃ b1 b2 a b xs ys, vs = [.ref a, .ref b] ∧ gY b1 K H1 a xs ∧ gY b2 K H1 b ys ∧ R (ItZ b1 b2 K a b) H1
theorem Yz {X : Cx} {e e2 : Expr} {ta : TA} {p pos tpos : Pos} {elts : List Expr} {kk : Nat} (hg : Gl X "zip") (hm : X.mg "zip" = none) (ha : PA X [e, e2] ta)
    (hs : starEach [e, e2] X.env = (false, eval e X.env) :: starEach [e2] X.env) (hpl : (backTo pos (starEach [e2] X.env)).any (·.1) = false) :
    PI X (.Tuple elts kk tpos) (.Call (.Name "zip" p) [e, e2] [] pos) (aaV X.K ta) := by
  refine ⟨fun pins s σ H R I h => ?_⟩
  refine PyProof.Rows.Call_ (ld_blt I hg hm PyProof.Rows.boot_zip (PyProof.Rows.callWith_type1 (thn (ha.run pos pins s σ H _ I h) fun us s1 ⟨vs, H1, I1, r1, q1⟩ => ?_) hs hpl))
  obtain ⟨b1, b2, a, b, xs, ys, ex, hqx, hqy, q⟩ := q1
  subst ex
  cases r1 with
  | cons r rr =>
    cases rr with
    | cons r' rr =>
      cases rr
      cases r
      cases r'
      obtain ⟨its, rv, p1⟩ := cY I1 hqx
      obtain ⟨its2, rv2, p2⟩ := cY I1 hqy
      have la := jB p1
      have lb := jB p2
      refine zip_begins2 (fG b1 a its.toArray) (fG b2 b its2.toArray) p1 p2 fun h' hz hTI hTO g1 g2 hsz hk => wpAny_pyIter_zip hz ?_
      have I2 : Inv X pins σ H1 { s1 with heap := h' } := I1.kept (t' := s1.toks) hk
      refine ⟨s1.heap.objs.size + 4, [s1.heap.objs.size + 4, s1.heap.objs.size + 2, s1.heap.objs.size + 3, s1.heap.objs.size, s1.heap.objs.size + 1], _, _, H1, rfl, I2, Qi b1 b2 a b _ _ _ _ _ (zip_sep2 (N := s1.heap.objs.size) (fp1 := [a]) (fp2 := [b]) (fun c hc => by rw [List.mem_singleton.mp hc]; exact la) (fun c hc => by rw [List.mem_singleton.mp hc]; exact lb)) (Nat.ne_of_lt la) (Nat.ne_of_lt (Nat.lt_succ_of_lt lb)), ⟨hz, hTI, ⟨_, _, hTO⟩, iy g1, iy g2⟩, fun c hcm => ?_, q⟩
      have e' : c = s1.heap.objs.size + 4 ∨ c = s1.heap.objs.size + 2 ∨ c = s1.heap.objs.size + 3 ∨ c = s1.heap.objs.size ∨ c = s1.heap.objs.size + 1 := by simpa using hcm
      have hle : s1.heap.objs.size ≤ c := by
        rcases e' with z | z | z | z | z
        · rw [z]; exact Nat.le_add_right _ _
        · rw [z]; exact Nat.le_add_right _ _
        · rw [z]; exact Nat.le_add_right _ _
        · rw [z]; exact Nat.le_refl _
        · rw [z]; exact Nat.le_add_right _ _
      exact I1.fpOk hle (I1.hok.fresh hle)
def ad4 (K : PySem.W.Frag) (tl : TE) : TI := fun σ H R => tl σ H fun x H1 => ∃ a, x = .ref a ∧ ((∃ xs, SqL K H1 a xs ∧ R (Itl K a) H1) ∨ ∃ xs, SqT K H1 a xs ∧ R (Itt K a) H1)
theorem abO {X : Cx} {tg l : Expr} {tl : TE} (hl : PE X l tl) : PI X tg l (ad4 X.K tl) := by
  refine ⟨fun pins s σ H R I h => ?_⟩
  refine thn (hl.run pins s σ H _ I h) fun v s1 ⟨x, H1, I1, r1, q1⟩ => ?_
  obtain ⟨a, e, q | q⟩ := q1
  · obtain ⟨xs, hq, q⟩ := q
    subst e
    cases r1
    obtain ⟨its, rv, p, hz⟩ := I1.list hq
    refine wpAny_pyIter_list p.isList ?_
    refine ⟨s1.heap.objs.size, [s1.heap.objs.size], _, _, H1, rfl, I1.kept (t' := s1.toks) fun b o e => Heap.get?_push_of_some _ e, turn_list a _, ⟨_, Heap.get?_push_size _ rfl, rfl, rfl⟩, fun b hb => ?_, q⟩
    have e : b = s1.heap.objs.size := by simpa using hb
    subst e
    exact I1.fpOk (Nat.le_refl _) (I1.hok.fresh (Nat.le_refl _))
  · obtain ⟨xs, hq, q⟩ := q
    subst e
    cases r1
    obtain ⟨its, rv, p, hz⟩ := I1.tuple hq
    refine wpAny_pyIter_tuple (show s1.heap.IsTuple a its.toArray from p) ?_
    refine ⟨s1.heap.objs.size, [s1.heap.objs.size], _, _, H1, rfl, I1.kept (t' := s1.toks) fun b o e => Heap.get?_push_of_some _ e, turn_tuple a _, ⟨_, Heap.get?_push_size _ rfl, rfl, rfl⟩, fun b hb => ?_, q⟩
    have e : b = s1.heap.objs.size := by simpa using hb
    subst e
    exact I1.fpOk (Nat.le_refl _) (I1.hok.fresh (Nat.le_refl _))
end DM
end
section
namespace DM
open PySem L2
theorem SM.TY {C : Cs} {o : Og} {F H : Hp} {σ σ' : L2.St} {ρ ρ' : aq} {T T' : Tm} (S : SM C o F H σ ρ T) (φ : Wh → Wh) (hat : ∀ p e v, At σ' ρ' T' p e v → At σ ρ T (φ p) e v) (inj : ∀ p q e v e' v', At σ' ρ' T' p e v → At σ' ρ' T' q e' v' → φ p = φ q → p = q)
    (hlen : ρ'.length = σ'.length) (has : ∀ (i : Nat) (e : En), ρ'[i]? = some (some e) → ∃ v, σ'[i]? = some (some v))
    (bor : ∀ (j i : Nat) (v : V), T'[j]? = some (.bor i, v) → σ'[i]? = some (some v) ∧ (∃ e, ρ'[i]? = some (some e)) ∧ i ∉ C.cs) (lk : ∀ (i : Nat) (v : V), o.lk i = some v → σ'[i]? = some (some v)) : SM C o F H σ' ρ' T' where
  sub := S.sub
  len := hlen
  has := has
  rep := fun p e v a => S.rep (φ p) e v (hat p e v a)
  bor := bor
  sep := fun p q e e' v v' a ne h1 h2 => S.sep (φ p) (φ q) e e' v v' a (fun z => ne (inj p q _ _ _ _ h1 h2 z)) (hat _ _ _ h1) (hat _ _ _ h2)
  own := fun p e v a h w => S.own (φ p) e v a (hat p e v h) w
  ext := S.ext
  keep := S.keep
  new := S.new
  lk := lk
  uG := S.uG
def kY (T : Tm) (i : Nat) : Prop := ∀ (j : Nat) (v : V), T[j]? ≠ some (.bor i, v)
theorem SM.store {C : Cs} {o : Og} {F H : Hp} {σ : L2.St} {ρ : aq} {T : Tm} {e : En} {v : V} {i : Nat} (S : SM C o F H σ ρ ((.en e, v) :: T)) (hi : i < σ.length) (hL : i ∉ C.L) (hT : kY T i) :
    SM C o F H (σ.set i (some v)) (ρ.set i (some e)) T := by
  have hi' : i < ρ.length := by rw [S.len]; exact hi
  refine S.TY (fun p => match p with | .s k => if k = i then .t 0 else .s k | .t j => .t (j + 1)) (fun p e' v' a => ?_) (fun p q e1 v1 e2 v2 a1 a2 z => ?_) (by rw [List.length_set, List.length_set]; exact S.len) (fun k e' h => ?_) (fun j k v' h => ?_) (fun k v' h => ?_)
  · cases p with
    | s k =>
      obtain ⟨a1, a2⟩ := a
      by_cases hk : k = i
      · subst hk
        rw [List.getElem?_set_self hi'] at a1
        rw [List.getElem?_set_self hi] at a2
        cases a1; cases a2
        simp only [if_true]
        rfl
      · rw [List.getElem?_set_ne (Ne.symm hk)] at a1 a2
        simp only [hk, if_false]
        exact ⟨a1, a2⟩
    | t j => exact a
  · cases p with
    | s k =>
      cases q with
      | s l =>
        by_cases hk : k = i <;> by_cases hl : l = i <;> simp only [hk, hl, if_true, if_false] at z ⊢
        · cases z
        · cases z
        · exact z
      | t j => by_cases hk : k = i <;> simp only [hk, if_true, if_false] at z <;> cases z
    | t j =>
      cases q with
      | s l => by_cases hl : l = i <;> simp only [hl, if_true, if_false] at z <;> cases z
      | t l => cases z; rfl
  · by_cases hk : k = i
    · subst hk; exact ⟨v, List.getElem?_set_self hi⟩
    · rw [List.getElem?_set_ne (Ne.symm hk)] at h ⊢; exact S.has k e' h
  · have hk : k ≠ i := fun z => hT j v' (by rw [← z]; exact h)
    obtain ⟨b1, b2, b3⟩ := S.bor (j + 1) k v' h
    rw [List.getElem?_set_ne (Ne.symm hk), List.getElem?_set_ne (Ne.symm hk)]
    exact ⟨b1, b2, b3⟩
  · have hk : k ≠ i := fun z => by
      have := S.uG i hL
      rw [z, this] at h; cases h
    rw [List.getElem?_set_ne (Ne.symm hk)]
    exact S.lk k v' h
theorem SM.move {C : Cs} {o : Og} {F H : Hp} {σ : L2.St} {ρ : aq} {T : Tm} {v : V} {i : Nat} {e : En} (S : SM C o F H σ ρ ((.bor i, v) :: T)) (h : ρ[i]? = some (some e)) (hT : kY T i) :
    SM C o F H σ (ρ.set i none) ((.en e, v) :: T) := by
  have hi : i < ρ.length := (List.getElem?_eq_some_iff.mp h).1
  obtain ⟨b1, _, _⟩ := S.bor 0 i v rfl
  refine S.TY (fun p => match p with | .t 0 => .s i | p => p) (fun p e' v' a => ?_) (fun p q e1 v1 e2 v2 a1 a2 z => ?_) (by rw [List.length_set]; exact S.len) (fun k e' h => ?_) (fun j k v' h => ?_) (fun k v' h => S.lk k v' h)
  · cases p with
    | s k =>
      obtain ⟨a1, a2⟩ := a
      by_cases hk : k = i
      · subst hk; rw [List.getElem?_set_self hi] at a1; cases a1
      · rw [List.getElem?_set_ne (Ne.symm hk)] at a1; exact ⟨a1, a2⟩
    | t j =>
      cases j with
      | zero =>
        have a' : some (Val.en e, v) = some (Val.en e', v') := a
        cases a'
        exact ⟨h, b1⟩
      | succ j => exact a
  · have key : ∀ k : Nat, (ρ.set i none)[k]? = some (some e1) ∨ (ρ.set i none)[k]? = some (some e2) → k ≠ i := fun k hk z => by
      subst z
      rw [List.getElem?_set_self hi] at hk
      rcases hk with hk | hk <;> cases hk
    cases p with
    | s k =>
      cases q with
      | s l => exact z
      | t j => cases j with
        | zero => cases z; exact absurd rfl (key _ (.inl a1.1))
        | succ j => cases z
    | t j =>
      cases j with
      | zero =>
        cases q with
        | s l => cases z; exact absurd rfl (key _ (.inr a2.1))
        | t l => cases l with
          | zero => rfl
          | succ l => cases z
      | succ j =>
        cases q with
        | s l => cases z
        | t l => cases l with
          | zero => cases z
          | succ l => exact z
  · by_cases hk : k = i
    · subst hk; rw [List.getElem?_set_self hi] at h; cases h
    · rw [List.getElem?_set_ne (Ne.symm hk)] at h; exact S.has k e' h
  · cases j with
    | zero => simp at h
    | succ j =>
      have hk : k ≠ i := fun z => hT j v' (by rw [← z]; exact h)
      obtain ⟨b1, b2, b3⟩ := S.bor (j + 1) k v' h
      rw [List.getElem?_set_ne (Ne.symm hk)]
      exact ⟨b1, b2, b3⟩
theorem Ql (i : Nat) : kY [] i := fun j v h => by simp at h
section
variable {C : Cs} {Z : ZX}
/-! ### what is walked -/
structure YB (K : PySem.W.Frag) (F0 : Hp) (J : It) (ds : List D) : Prop where
  go : ∀ (i : Nat) (F H : Hp), Ext F0 F → Ext F H → i < ds.length → J.go i H
  stop : ∀ (F H : Hp), Ext F0 F → Ext F H → J.stop ds.length H
  yld : ∀ (i : Nat) (F H : Hp) (x : V) (H' : Hp), Ext F0 F → Ext F H → i < ds.length → J.yld i H x H' → ∃ F' d, ds[i]? = some d ∧ Grow F H F' H' ∧ Dq K F' d x
def qQ (C : Cs) (Z : ZX) (wi : TI) (f : aq → R (List D)) : Prop :=
  ∀ (o : Og) (F H : Hp) (σ : L2.St) (ρ : aq) (T : Tm) (Q : It → Hp → Prop), SM C o F H σ ρ T →
    pJ (f ρ) (fun ds ρ' => ∀ F' H' J, SM C o F' H' σ ρ' T → YB C.K F' J ds → Q J H') (fun x ρ' => ∀ F' H', SM C o F' H' σ ρ' T → Z x F' H' σ ρ') → wi σ H Q
theorem Gu {K : PySem.W.Frag} {F H : Hp} {e : En} {x : V} {xs : List D} (r : Rp K F H e.fz x) (h : e.fz.items = some xs) : ∃ a vs, x = .ref a ∧ ((SqL K F a vs) ∨ (SqT K F a vs)) ∧ aV K F xs vs := by
  have key : ∀ e' : En, Rp K F H e' x → (∀ ys, e' ≠ .ol ys) → e'.items = some xs → ∃ a vs, x = .ref a ∧ ((SqL K F a vs) ∨ (SqT K F a vs)) ∧ aV K F xs vs := fun e' r' hn h' => by
    cases e' with
    | fr d =>
      cases d with
      | lst k =>
        have r' : ∃ a vs, x = .ref a ∧ F a = some (.lst vs) ∧ aV K F k vs := by simpa only [Rp, Dq] using r'
        obtain ⟨a, vs, h1, h2, h3⟩ := r'
        cases h'
        exact ⟨a, vs, h1, .inl (.inl (.inl h2)), h3⟩
      | tup k =>
        obtain ⟨a, vs, h1, h2, h3⟩ := mJ (xs := xs) r' h'
        exact ⟨a, vs, h1, .inr h2.JC, h3⟩
      | _ => cases h'
    | ol ys => exact absurd rfl (hn ys)
    | od _ _ => cases h'
    | on _ _ => cases h'
    | ex _ => cases h'
    | pA _ => cases h'
    | d8 k => cases h'; obtain ⟨a, vs, h1, h2, h3⟩ := r'; exact ⟨a, vs, h1, .inl h2, h3⟩
  refine key e.fz r (fun ys z => ?_) h
  cases e <;> cases z
def bY (f : aq → R Val) (ρ : aq) : R (List D) := (f ρ).bind fun a ρ1 => match frz a ρ1 with
  | some (e, ρ2) => v8 e.items ρ2
  | none => .bad
theorem T5 {a : Val} {ρ ρ' : aq} {e : En} (h : frz a ρ = some (e, ρ')) : ∃ e0 : En, e = e0.fz := by
  unfold frz at h
  cases a with
  | en e0 => simp only [Option.some.injEq, Prod.mk.injEq] at h; exact ⟨e0, h.1.symm⟩
  | bor i =>
    simp only at h
    cases q : (ρ[i]?).join with
    | none => rw [q] at h; cases h
    | some e0 => rw [q] at h; simp only [Option.some.injEq, Prod.mk.injEq] at h; exact ⟨e0, h.1.symm⟩
theorem YC {K : PySem.W.Frag} {F0 : Hp} {a : Addr} {vs : List V} {ds : List D} (h : SqL K F0 a vs) (d : aV K F0 ds vs) : YB K F0 (Itl K a) ds where
  go := fun i F H e1 e2 hi => ⟨vs, vs[i]'(by rw [← d.length]; exact hi), e2.JL (e1.JL h), by simp⟩
  stop := fun F H e1 e2 => ⟨vs, e2.JL (e1.JL h), by rw [d.length]; exact Nat.le_refl _⟩
  yld := fun i F H x H' e1 e2 hi y => by
    obtain ⟨rfl, y⟩ := y
    obtain ⟨d', h1, h2⟩ := d.wO (y vs (e2.JL (e1.JL h)))
    exact ⟨F, d', h1, Grow.refl e2, Dq.mono e1 _ _ h2⟩
theorem abP {K : PySem.W.Frag} {F0 : Hp} {a : Addr} {vs : List V} {ds : List D} (h : SqT K F0 a vs) (d : aV K F0 ds vs) : YB K F0 (Itt K a) ds where
  go := fun i F H e1 e2 hi => ⟨vs, vs[i]'(by rw [← d.length]; exact hi), e2.Gh (e1.Gh h), by simp⟩
  stop := fun F H e1 e2 => ⟨vs, e2.Gh (e1.Gh h), by rw [d.length]; exact Nat.le_refl _⟩
  yld := fun i F H x H' e1 e2 hi y => by
    obtain ⟨rfl, y⟩ := y
    obtain ⟨d', h1, h2⟩ := d.wO (y vs (e2.Gh (e1.Gh h)))
    exact ⟨F, d', h1, Grow.refl e2, Dq.mono e1 _ _ h2⟩
theorem Qm {te : TE} {f : aq → R Val} (h : Impl C Z te f) : qQ C Z (ad4 C.K te) (bY f) := by
  intro o F H σ ρ T Q S q
  unfold bY at q
  rw [aH] at q
  refine h o F H σ ρ T _ S (aG q (fun a ρ1 h1 F1 H1 v S1 => ?_) fun _ _ h => h)
  cases z : frz a ρ1 with
  | none => rw [z] at h1; exact h1.elim
  | some p =>
    obtain ⟨e, ρ2⟩ := p
    rw [z] at h1
    obtain ⟨ds, hd, q⟩ := fQ h1
    obtain ⟨F2, S2⟩ := S1.frz z
    obtain ⟨e0, rfl⟩ := T5 z
    obtain ⟨a', vs, rfl, h3, h4⟩ := Gu (S2.look (j := 0) (v := v) rfl rfl) hd
    refine ⟨a', rfl, ?_⟩
    rcases h3 with h3 | h3
    · exact .inl ⟨vs, S2.sub.JL h3, q F2 H1 _ S2.drop (YC h3 h4)⟩
    · exact .inr ⟨vs, S2.sub.Gh h3, q F2 H1 _ S2.drop (abP h3 h4)⟩
def bV (lo : Int) (n : Nat) : List D := (List.range n).map fun (i : Nat) => .int (lo + i)
theorem bD {lo : Int} {n : Nat} : (bV lo n).length = n := by unfold bV; rw [List.length_map, List.length_range]
theorem wZ {lo : Int} {n i : Nat} (h : i < n) : (bV lo n)[i]? = some (.int (lo + i)) := by
  unfold bV
  rw [List.getElem?_map, List.getElem?_range h]
  rfl
theorem T6 {K : PySem.W.Frag} {F0 : Hp} {lo : Int} {n : Nat} : YB K F0 (Itr lo n) (bV lo n) where
  go := fun i F H _ _ hi => by rw [bD] at hi; exact hi
  stop := fun F H _ _ => by rw [bD]; exact Nat.le_refl _
  yld := fun i F H x H' e1 e2 hi y => by
    obtain ⟨rfl, rfl⟩ := y
    rw [bD] at hi
    exact ⟨F, _, wZ hi, Grow.refl e2, oG _⟩
def mK (i : Int) : Bool := decide (-(2 ^ 62) ≤ i) && decide (i < 2 ^ 62)
theorem wg {i : Int} (h : mK i = true) : -(2 ^ 62) ≤ i ∧ i < 2 ^ 62 := by
  unfold mK at h
  rw [Bool.and_eq_true] at h
  exact ⟨of_decide_eq_true h.1, of_decide_eq_true h.2⟩
def gD (fs : aq → R (List Val)) (ρ : aq) : R (List D) := (fs ρ).bind fun as ρ1 => match looks ρ1 as with
  | some [a] => match gq a with
    | some j => if mK j = true then .ok (bV 0 j.toNat) ρ1 else .bad
    | none => .bad
  | some [a, b] => match gq a, gq b with
    | some i, some j => if mK i = true ∧ mK j = true then .ok (bV i (j - i).toNat) ρ1 else .bad
    | _, _ => .bad
  | some [a, b, c] => match gq a, gq b, gq c with
    | some i, some j, some k => if mK i = true ∧ mK j = true ∧ k = -1 then .ok ((List.range (i - j).toNat).map fun (m : Nat) => .int (i + (m : Int) * (-1))) ρ1 else .bad
    | _, _, _ => .bad
  | _ => .bad
theorem Qn {ta : TA} {fs : aq → R (List Val)} (ha : jP C Z ta fs) (h1 : ∀ ρ ρ' as, fs ρ = .ok as ρ' → as.length = 1) : qQ C Z (iRng1 ta) (gD fs) := by
  intro o F H σ ρ T Q S h
  unfold gD at h
  cases q : fs ρ with
  | bad => rw [q] at h; exact h.elim
  | exc x ρ' => rw [q] at h; exact ha o F H σ ρ T _ S (by rw [q]; exact h)
  | ok as ρ1 =>
    have hl := h1 ρ ρ1 as q
    rw [q] at h
    refine ha o F H σ ρ T _ S ?_
    rw [q]
    intro F1 H1 vs hlen S1
    replace h : pJ (match looks ρ1 as with
      | some [a] => match gq a with
        | some j => if mK j = true then R.ok (bV 0 j.toNat) ρ1 else .bad
        | none => .bad
      | some [a, b] => match gq a, gq b with
        | some i, some j => if mK i = true ∧ mK j = true then .ok (bV i (j - i).toNat) ρ1 else .bad
        | _, _ => .bad
      | some [a, b, c] => match gq a, gq b, gq c with
        | some i, some j, some k => if mK i = true ∧ mK j = true ∧ k = -1 then .ok ((List.range (i - j).toNat).map fun (m : Nat) => .int (i + (m : Int) * (-1))) ρ1 else .bad
        | _, _, _ => .bad
      | _ => .bad) _ _ := h
    cases l : looks ρ1 as with
    | none => rw [l] at h; exact h.elim
    | some es =>
      have r := pN S1 hlen mY l
      have le : es.length = 1 := by rw [r.length, ← hlen, hl]
      obtain ⟨a, rfl⟩ := List.length_eq_one_iff.mp le
      rw [l] at h
      cases r with
      | cons r1 r2 =>
        cases r2
        rename_i x
        simp only at h
        cases z : gq a with
        | none => rw [z] at h; exact h.elim
        | some j =>
          rw [z] at h
          simp only at h
          by_cases k : mK j = true
          · simp only [k, if_true] at h
            obtain ⟨k1, k2⟩ := wg k
            refine ⟨j, by rw [dN r1 z], k1, k2, h F1 H1 _ (S1.emb (fun i => i + (stack as [x]).length) (fun i y hy => ?_) (fun i j e => by omega)) T6⟩
            rw [List.getElem?_append_right (by omega)]
            simpa using hy
          · simp only [k, if_false] at h; exact h.elim
def pairs (xs ys : List D) : List D := (xs.zip ys).map fun p => .tup [p.1, p.2]
theorem bJ {xs ys : List D} : (pairs xs ys).length = min xs.length ys.length := by unfold pairs; rw [List.length_map, List.length_zip]
theorem j5 {xs ys : List D} {i : Nat} {x y : D} (h1 : xs[i]? = some x) (h2 : ys[i]? = some y) : (pairs xs ys)[i]? = some (.tup [x, y]) := by
  unfold pairs
  have e : (xs.zip ys)[i]? = some (x, y) := List.getElem?_zip_eq_some.mpr ⟨h1, h2⟩
  rw [List.getElem?_map, e]
  rfl
theorem aW {b : Bool} {K : PySem.W.Frag} {F F' : Hp} {a : Addr} {xs : List V} (e : Ext F F') (h : gY b K F a xs) : gY b K F' a xs := by
  cases b
  · exact e.Gh h
  · exact e.JL h
theorem rW {K : PySem.W.Frag} {F H : Hp} {T : Addr} {ob : Obj} {d1 d2 : D} {x y : V} (s : Ext F H) (nd : Nd ob) (hT : H T = none) (h1 : Dq K F d1 x) (h2 : Dq K F d2 y) :
    Grow F H (upd F T (.frz ob (.tup [x, y]))) (upd H T (.frz ob (.tup [x, y]))) ∧ Dq K (upd F T (.frz ob (.tup [x, y]))) (.tup [d1, d2]) (.ref T) := by
  have g := Grow.obj s (o := .frz ob (.tup [x, y])) hT
  refine ⟨g, ?_⟩
  simp only [Dq]
  exact ⟨T, _, rfl, ⟨ob, nd, upd_same⟩, .cons (Dq.mono g.f _ _ h1) (.cons (Dq.mono g.f _ _ h2) .nil)⟩
theorem T7 {K : PySem.W.Frag} {F0 : Hp} {b1 b2 : Bool} {a b : Addr} {vs ws : List V} {ds es : List D} (h : gY b1 K F0 a vs) (d : aV K F0 ds vs) (h2 : gY b2 K F0 b ws) (d2 : aV K F0 es ws) : YB K F0 (ItZ b1 b2 K a b) (pairs ds es) where
  go := fun i F H e1 e2 hi => by
    rw [bJ, d.length, d2.length] at hi
    have i1 : i < vs.length := by omega
    have i2 : i < ws.length := by omega
    exact ⟨vs, ws, vs[i], ws[i], aW (e1.trans e2) h, aW (e1.trans e2) h2, by simp [i1], by simp [i2]⟩
  stop := fun F H e1 e2 => ⟨vs, ws, aW (e1.trans e2) h, aW (e1.trans e2) h2, by rw [bJ, d.length, d2.length]⟩
  yld := fun i F H x H' e1 e2 hi y => by
    obtain ⟨T, ob, u, u2, nd, rfl, hT, rfl, y1, y2⟩ := y
    obtain ⟨d', k1, k2⟩ := d.wO (y1 vs (aW (e1.trans e2) h))
    obtain ⟨d'', k3, k4⟩ := d2.wO (y2 ws (aW (e1.trans e2) h2))
    obtain ⟨g, q⟩ := rW e2 nd hT (Dq.mono e1 _ _ k2) (Dq.mono e1 _ _ k4)
    exact ⟨_, _, j5 k1 k3, g, q⟩
theorem ad5 {K : PySem.W.Frag} {F : Hp} {a : Addr} {vs : List V} (h : SqL K F a vs ∨ SqT K F a vs) : ∃ b, gY b K F a vs := by
  rcases h with h | h
  · exact ⟨true, h⟩
  · exact ⟨false, h⟩
theorem SM.itemsOf {o : Og} {F H : Hp} {σ : L2.St} {ρ : aq} {T : Tm} {e0 : En} {v : V} {ds : List D} (S : SM C o F H σ ρ T) (h : (Val.en e0.fz, v) ∈ T) (hd : e0.fz.items = some ds) :
    ∃ a vs b, v = .ref a ∧ gY b C.K F a vs ∧ aV C.K F ds vs := by
  obtain ⟨a, vs, rfl, h3, h4⟩ := Gu (S.Gi h rfl) hd
  obtain ⟨b, h3⟩ := ad5 h3
  exact ⟨a, vs, b, rfl, h3, h4⟩
theorem eE {te : TE} {f : aq → R Val} (h : Impl C Z te f) {o : Og} {F H : Hp} {σ : L2.St} {ρ : aq} {T : Tm} {Q : VK} (S : SM C o F H σ ρ T)
    (q : pJ (bY f ρ) (fun ds ρ' => ∀ F' H' v e0, SM C o F' H' σ ρ' ((.en (En.fz e0), v) :: T) → e0.fz.items = some ds → Q v H') (fun x ρ' => ∀ F' H', SM C o F' H' σ ρ' T → Z x F' H' σ ρ')) : te σ H Q := by
  unfold bY at q
  rw [aH] at q
  refine h o F H σ ρ T _ S (aG q (fun a ρ1 h1 F1 H1 v S1 => ?_) fun _ _ h => h)
  cases z : frz a ρ1 with
  | none => rw [z] at h1; exact h1.elim
  | some p =>
    obtain ⟨e, ρ2⟩ := p
    rw [z] at h1
    obtain ⟨ds, hd, q⟩ := fQ h1
    obtain ⟨F2, S2⟩ := S1.frz z
    obtain ⟨e0, rfl⟩ := T5 z
    exact q F2 H1 v e0 S2 hd
def fJ (f g : aq → R Val) (ρ : aq) : R (List D) := (bY f ρ).bind fun ds ρ1 => (bY g ρ1).bind fun es ρ2 => .ok (pairs ds es) ρ2
theorem Qo {te ue : TE} {f g : aq → R Val} (h : Impl C Z te f) (h' : Impl C Z ue g) : qQ C Z (aaV C.K (tCons te (tCons ue tNil))) (fJ f g) := by
  intro o F H σ ρ T Q S q
  unfold fJ at q
  rw [aH] at q
  refine eE h S (aG q (fun ds ρ1 h1 F1 H1 v e0 S1 hd => ?_) fun _ _ h => h)
  rw [aH] at h1
  refine eE h' S1 (aG h1 (fun es ρ2 h2 F2 H2 v2 e1 S2 hd2 => ?_) fun _ _ h F' H' s => h F' H' s.drop)
  obtain ⟨a, vs, b, rfl, h3, h4⟩ := S2.itemsOf (v := v) (by simp) hd
  obtain ⟨a2, ws, b2, rfl, h5, h6⟩ := S2.itemsOf (v := v2) (by simp) hd2
  exact ⟨b, b2, a, a2, vs, ws, rfl, aW S2.sub h3, aW S2.sub h5, h2 F2 H2 _ S2.drop.drop (T7 h3 h4 h5 h6)⟩
/-! ### targets -/
inductive Tg where
  | n (i : Nat) | t (l : List Tg)
mutual
def bW : Tg → D → aq → Option aq
  | .n i, d, ρ => if i < ρ.length then some (ρ.set i (some (.fr d))) else none
  | .t l, .tup ds, ρ => jQ l ds ρ
  | .t l, .lst ds, ρ => jQ l ds ρ
  | .t _, _, _ => none
def jQ : List Tg → List D → aq → Option aq
  | [], [], ρ => some ρ
  | t :: ts, d :: ds, ρ => match bW t d ρ with
    | some ρ1 => jQ ts ds ρ1
    | none => none
  | _, _, _ => none
end
mutual
def Tg.slots : Tg → List Nat
  | .n i => [i]
  | .t l => xg l
def xg : List Tg → List Nat
  | [] => []
  | t :: ts => t.slots ++ xg ts
end
def rY (C : Cs) (g : TG) (sl : List Nat) (f : D → aq → Option aq) : Prop :=
  ∀ (o : Og) (F H : Hp) (σ : L2.St) (ρ ρ' : aq) (T : Tm) (d : D) (v : V) (Q : L2.St → Hp → Prop), SM C o F H σ ρ T → Dq C.K F d v → (∀ i ∈ sl, kY T i) → f d ρ = some ρ' → (∀ σ', SM C o F H σ' ρ' T → (∀ i, i ∉ sl → σ'[i]? = σ[i]?) → σ'.length = σ.length → Q σ' H) → g v σ H Q
def xq (C : Cs) (g : TGs) (sl : List Nat) (f : List D → aq → Option aq) : Prop :=
  ∀ (o : Og) (F H : Hp) (σ : L2.St) (ρ ρ' : aq) (T : Tm) (ds : List D) (vs : List V) (Q : L2.St → Hp → Prop), SM C o F H σ ρ T → aV C.K F ds vs → (∀ i ∈ sl, kY T i) → f ds ρ = some ρ' → (∀ σ', SM C o F H σ' ρ' T → (∀ i, i ∉ sl → σ'[i]? = σ[i]?) → σ'.length = σ.length → Q σ' H) → g vs σ H Q
theorem YD {i : Nat} (hL : i ∉ C.L) : rY C (gName i) [i] (bW (.n i)) := by
  intro o F H σ ρ ρ' T d v Q S r hb h q
  unfold bW at h
  by_cases hi : i < ρ.length
  · simp only [hi, if_true] at h
    cases h
    exact q _ ((S.cV r).store (by rw [← S.len]; exact hi) hL (hb i (by simp))) (fun j hj => List.getElem?_set_ne (by simpa [eq_comm] using hj)) (List.length_set ..)
  · simp only [hi, if_false] at h; cases h
theorem J9 : xq C gNil [] (jQ []) := by
  intro o F H σ ρ ρ' T ds vs Q S r hb h q
  cases ds with
  | nil =>
    unfold jQ at h
    cases h
    exact ⟨r.nil_iff, q σ S (fun _ _ => rfl) rfl⟩
  | cons d ds => unfold jQ at h; cases h
theorem Gv {g : TG} {gs : TGs} {t : Tg} {ts : List Tg} {sl sls : List Nat} (h1 : rY C g sl (bW t)) (h2 : xq C gs sls (jQ ts)) : xq C (gCons g gs) (sl ++ sls) (jQ (t :: ts)) := by
  intro o F H σ ρ ρ' T ds vs Q S r hb h q
  cases ds with
  | nil => unfold jQ at h; cases h
  | cons d ds =>
    obtain ⟨v, vs', rfl, r1, r2⟩ := r.uncons
    unfold jQ at h
    cases z : bW t d ρ with
    | none => rw [z] at h; cases h
    | some ρ1 =>
      rw [z] at h
      refine ⟨v, vs', rfl, h1 o F H σ ρ ρ1 T d v _ S r1 (fun i hi => hb i (List.mem_append_left _ hi)) z fun σ1 S1 k1 l1 => ?_⟩
      refine h2 o F H σ1 ρ1 ρ' T ds vs' _ S1 r2 (fun i hi => hb i (List.mem_append_right _ hi)) h fun σ2 S2 k2 l2 => ?_
      exact q σ2 S2 (fun i hi => by
        rw [List.mem_append, not_or] at hi
        rw [k2 i hi.2, k1 i hi.1]) (l2.trans l1)
def gTB (K : PySem.W.Frag) (n : Nat) (t : TGs) : TG := fun v σ H Q => gTup K n t v σ H Q ∨ gUnl K n t v σ H Q
theorem ad6 {X : Cx} {pos : Pos} {es : List Expr} {k : Nat} {t : TGs} {n : Nat} (hc : X.calm = true) (h : PGs X es t)
    (hn : (assignEach es X.env).length = n := by rfl) (hst : (assignEach es X.env).findIdx? (·.1) = none := by rfl) : PG X (.Tuple es k pos) (gTB X.K n t) := by
  refine ⟨fun pins s σ H v u Q I r hw => ?_⟩
  rcases hw with hw | hw
  · exact (pg_tup hc h hn hst).run pins s σ H v u Q I r hw
  · exact (pg_unl hc h hn hst).run pins s σ H v u Q I r hw
theorem Ay : ∀ (ts : List Tg) (ds : List D) (ρ ρ' : aq), jQ ts ds ρ = some ρ' → ds.length = ts.length := by
  intro ts
  induction ts with
  | nil => intro ds ρ ρ' h; cases ds with
    | nil => rfl
    | cons d ds => unfold jQ at h; cases h
  | cons t ts ih => intro ds ρ ρ' h; cases ds with
    | nil => unfold jQ at h; cases h
    | cons d ds =>
      unfold jQ at h
      cases z : bW t d ρ with
      | none => rw [z] at h; cases h
      | some ρ1 => rw [z] at h; rw [List.length_cons, List.length_cons, ih ds ρ1 ρ' h]
theorem YF {gs : TGs} {ts : List Tg} {sl : List Nat} {n : Nat} (hn : ts.length = n) (h : xq C gs sl (jQ ts)) : rY C (gTB C.K n gs) sl (bW (.t ts)) := by
  intro o F H σ ρ ρ' T d v Q S r hb e q
  cases d with
  | tup ds =>
    unfold bW at e
    have r' : ∃ a vs, v = .ref a ∧ Yo F a vs ∧ aV C.K F ds vs := by simpa only [Dq] using r
    obtain ⟨a, vs, rfl, h1, h2⟩ := r'
    exact .inl ⟨a, vs, rfl, S.sub.JC h1, by rw [← h2.length, ← hn]; exact Ay ts ds ρ ρ' e, h o F H σ ρ ρ' T ds vs Q S h2 hb e q⟩
  | lst ds =>
    unfold bW at e
    have r' : ∃ a vs, v = .ref a ∧ F a = some (.lst vs) ∧ aV C.K F ds vs := by simpa only [Dq] using r
    obtain ⟨a, vs, rfl, h1, h2⟩ := r'
    exact .inr ⟨a, vs, rfl, .inl (.inl (S.sub _ _ h1)), by rw [← h2.length, ← hn]; exact Ay ts ds ρ ρ' e, h o F H σ ρ ρ' T ds vs Q S h2 hb e q⟩
  | _ => unfold bW at e; cases e
/-! ### comprehensions -/
def d9 (ρ : aq) : List Nat → aq
  | [] => ρ
  | i :: is => (d9 ρ is).set i none
def Az (own : List Nat) (fg : D → aq → Option aq) (ft : aq → R Bool) (fe : aq → R Val) : List D → aq → List D → R (List D)
  | [], ρ, acc => .ok acc ρ
  | d :: ds, ρ, acc => match fg d ρ with
    | none => .bad
    | some ρ1 => (ft ρ1).bind fun b ρ2 => match b with
      | false => Az own fg ft fe ds (d9 ρ2 own) acc
      | true => (aM fe ρ2).bind fun v ρ3 => match v with
        | .en (.fr d') => if acc.length < sizeLine then Az own fg ft fe ds (d9 ρ3 own) (acc ++ [d']) else .bad
        | _ => .bad
def lV (ρ : aq) : List Nat → Bool
  | [] => true
  | i :: is => (match (ρ[i]?).join with | some (.ol _) => false | some (.od _ _) => false | some (.on _ _) => false | some (.pA _) => false | _ => true) && lV ρ is
def putBack (ρ ρ' : aq) : List Nat → aq
  | [] => ρ'
  | i :: is => (putBack ρ ρ' is).set i ((ρ[i]?).join)
def iz (own : List Nat) (fi : aq → R (List D)) (fg : D → aq → Option aq) (ft : aq → R Bool) (fe : aq → R Val) (ρ : aq) : R Val :=
  (fi ρ).bind fun ds ρ1 => if lV ρ1 own = true then match Az own fg ft fe ds (d9 ρ1 own) [] with
    | .ok acc ρ2 => .ok (.en (.ol acc)) (putBack ρ1 ρ2 own)
    | _ => .bad
  else .bad
theorem rZ (ρ : aq) : ∀ own : List Nat, (d9 ρ own).length = ρ.length
  | [] => rfl
  | i :: is => by unfold d9; rw [List.length_set, rZ ρ is]
theorem qD {ρ : aq} {i : Nat} : ∀ {own : List Nat}, i ∉ own → (d9 ρ own)[i]? = ρ[i]?
  | [], _ => rfl
  | j :: is, h => by
    rw [List.mem_cons, not_or] at h
    unfold d9
    rw [List.getElem?_set_ne (fun e => h.1 e.symm), qD h.2]
theorem Gx {ρ : aq} {i : Nat} {e : En} : ∀ {own : List Nat}, i ∈ own → (d9 ρ own)[i]? ≠ some (some e)
  | j :: is, h => fun q => by
    unfold d9 at q
    by_cases hj : j = i
    · subst hj
      by_cases hl : j < (d9 ρ is).length
      · rw [List.getElem?_set_self hl] at q; cases q
      · rw [List.getElem?_eq_none (by simpa using hl)] at q; cases q
    · rw [List.getElem?_set_ne hj] at q
      rcases List.mem_cons.mp h with z | z
      · exact hj z.symm
      · exact Gx z q
theorem pP (ρ ρ' : aq) : ∀ own : List Nat, (putBack ρ ρ' own).length = ρ'.length
  | [] => rfl
  | i :: is => by unfold putBack; rw [List.length_set, pP ρ ρ' is]
theorem rB {ρ ρ' : aq} {i : Nat} {e : En} : ∀ {own : List Nat}, (putBack ρ ρ' own)[i]? = some (some e) → (i ∈ own ∧ ρ[i]? = some (some e)) ∨ (i ∉ own ∧ ρ'[i]? = some (some e))
  | [], h => .inr ⟨by simp, h⟩
  | j :: is, h => by
    unfold putBack at h
    by_cases hj : j = i
    · subst hj
      by_cases hl : j < (putBack ρ ρ' is).length
      · rw [List.getElem?_set_self hl] at h
        exact .inl ⟨by simp, join_some (Option.some.inj h)⟩
      · rw [List.getElem?_eq_none (by simpa using hl)] at h; cases h
    · rw [List.getElem?_set_ne hj] at h
      rcases rB h with ⟨a, b⟩ | ⟨a, b⟩
      · exact .inl ⟨List.mem_cons_of_mem _ a, b⟩
      · exact .inr ⟨by rw [List.mem_cons, not_or]; exact ⟨fun e => hj e.symm, a⟩, b⟩
theorem vH {ρ ρ' : aq} {i : Nat} : ∀ {own : List Nat}, i ∉ own → (putBack ρ ρ' own)[i]? = ρ'[i]?
  | [], _ => rfl
  | j :: is, h => by
    rw [List.mem_cons, not_or] at h
    unfold putBack
    rw [List.getElem?_set_ne (fun e => h.1 e.symm), vH h.2]
theorem xG {ρ : aq} {i : Nat} {e : En} : ∀ {own : List Nat}, lV ρ own = true → i ∈ own → ρ[i]? = some (some e) → ∀ H v a, ¬ Ow H e v a
  | j :: is, h, hm, hi => by
    unfold lV at h
    rw [Bool.and_eq_true] at h
    rcases List.mem_cons.mp hm with z | z
    · subst z
      rw [hi] at h
      intro H v a w
      cases e with
      | fr d => exact w
      | d8 d => exact w
      | ex d => exact w
      | pA d => exact absurd h.1 (by simp)
      | ol d => exact absurd h.1 (by simp)
      | od k d => exact absurd h.1 (by simp)
      | on k d => exact absurd h.1 (by simp)
    · exact xG h.2 z hi
theorem iG {σ : L2.St} {i : Nat} {own : List Nat} (h : i ∉ own) : (wipe σ own)[i]? = σ[i]? := wipe_out h
theorem SM.wipe {o : Og} {F H : Hp} {σ : L2.St} {ρ : aq} {T : Tm} {own : List Nat} (S : SM C o F H σ ρ T) (hc : ∀ i ∈ own, i ∈ C.cs) (hL : ∀ i ∈ own, i ∉ C.L) : SM C o F H (L2.wipe σ own) (d9 ρ own) T := by
  have key : ∀ (k : Nat) (e : En), (d9 ρ own)[k]? = some (some e) → k ∉ own := fun k e h hk => Gx hk h
  refine S.TY id (fun p e v a => ?_) (fun _ _ _ _ _ _ _ _ z => z) (by rw [rZ, wipe_length]; exact S.len) (fun k e h => ?_) (fun j k v h => ?_) fun k v h => ?_
  · cases p with
    | s k =>
      obtain ⟨a1, a2⟩ := a
      have hk := key k e a1
      rw [qD hk] at a1
      rw [iG hk] at a2
      exact ⟨a1, a2⟩
    | t j => exact a
  · have hk := key k e h
    rw [qD hk] at h
    rw [iG hk]
    exact S.has k e h
  · obtain ⟨b1, b2, b3⟩ := S.bor j k v h
    have hk : k ∉ own := fun z => b3 (hc k z)
    rw [iG hk, qD hk]
    exact ⟨b1, b2, b3⟩
  · have hk : k ∉ own := fun z => by rw [S.uG k (hL k z)] at h; cases h
    rw [iG hk]
    exact S.lk k v h
theorem SM.putBack {o : Og} {F0 H0 F H : Hp} {σ : L2.St} {ρ0 ρ : aq} {T0 T : Tm} {own : List Nat} (S0 : SM C o F0 H0 σ ρ0 T0) (S : SM C o F H (L2.wipe σ own) ρ T) (hf : lV ρ0 own = true) (e : Ext F0 F) (hc : ∀ i ∈ own, i ∈ C.cs) (hL : ∀ i ∈ own, i ∉ C.L) :
    SM C o F H σ (DM.putBack ρ0 ρ own) T := by
  have hat : ∀ p e v, At σ (DM.putBack ρ0 ρ own) T p e v → (At (L2.wipe σ own) ρ T p e v) ∨ ((∀ H a, ¬ Ow H e v a) ∧ ∃ k, p = .s k ∧ At σ ρ0 T0 (.s k) e v) := fun p e v a => by
    cases p with
    | s k =>
      obtain ⟨a1, a2⟩ := a
      rcases rB a1 with ⟨h1, h2⟩ | ⟨h1, h2⟩
      · exact .inr ⟨fun H => xG hf h1 h2 H v, k, rfl, h2, a2⟩
      · exact .inl ⟨h2, by rw [iG h1]; exact a2⟩
    | t j => exact .inl a
  exact {
    sub := S.sub
    len := by rw [pP, S.len, wipe_length]
    has := fun k e h => by
      rcases rB h with ⟨h1, h2⟩ | ⟨h1, h2⟩
      · exact S0.has k e h2
      · obtain ⟨v, hv⟩ := S.has k e h2
        rw [iG h1] at hv
        exact ⟨v, hv⟩
    rep := fun p e' v a => by
      rcases hat p e' v a with h | ⟨hn, k, rfl, h⟩
      · exact S.rep p e' v h
      · have r := S0.rep _ e' v h
        cases e' with
        | fr d => exact Dq.mono e _ _ r
        | d8 d => obtain ⟨a, vs, h1, h2, h3⟩ := r; exact ⟨a, vs, h1, e.JL h2, aV.mono e _ _ h3⟩
        | ex x => obtain ⟨a, dd, u, d, h1, h2, h3, h4, h5⟩ := r; exact ⟨a, dd, u, d, h1, e _ _ h2, e _ _ h3, h4, Dq.mono e _ _ h5⟩
        | ol d => obtain ⟨a, vs, h1, h2, h3⟩ := r; exact absurd h1 (hn H0 a)
        | od k d => obtain ⟨a, us, vs, h1, h2, h3⟩ := r; exact absurd h1 (hn H0 a)
        | on k d => obtain ⟨a, us, vs, h1, h2, h3⟩ := r; exact absurd h1 (hn H0 a)
        | pA d => obtain ⟨p, as, h1, h2, _⟩ := r; exact absurd ⟨p, _, h1, h2, .inl rfl⟩ (hn H0 p)
    bor := fun j k v h => by
      obtain ⟨b1, b2, b3⟩ := S.bor j k v h
      have hk : k ∉ own := fun z => b3 (hc k z)
      rw [iG hk] at b1
      rw [vH hk]
      exact ⟨b1, b2, b3⟩
    sep := fun p q e1 e2 v1 v2 a ne h1 h2 w1 w2 => by
      rcases hat p e1 v1 h1 with h1 | ⟨hn, _⟩
      · rcases hat q e2 v2 h2 with h2 | ⟨hn, _⟩
        · exact S.sep p q e1 e2 v1 v2 a ne h1 h2 w1 w2
        · exact hn H a w2
      · exact hn H a w1
    own := fun p e' v a h w => by
      rcases hat p e' v h with h | ⟨hn, _⟩
      · exact S.own p e' v a h w
      · exact absurd w (hn H a)
    ext := S.ext
    keep := S.keep
    new := S.new
    lk := fun k v h => by
      have hk : k ∉ own := fun z => by rw [S.uG k (hL k z)] at h; cases h
      have := S.lk k v h
      rw [iG hk] at this
      exact this
    uG := S.uG }
theorem SM.agc {o : Og} {F H : Hp} {σ : L2.St} {ρ ρ' : aq} {T T' : Tm} (S : SM C o F H σ ρ T) {w : Wh} {e e' : En} {v : V} {a : Addr} {u : HO} (h : At σ ρ T w e v) (ho : Ow H e v a) (hl : ρ'.length = ρ.length)
    (hat : ∀ p e1 v1, At σ ρ' T' p e1 v1 → (p = w ∧ e1 = e' ∧ v1 = v) ∨ (p ≠ w ∧ At σ ρ T p e1 v1)) (hs : ∀ (i : Nat) (e1 : En), ρ'[i]? = some (some e1) → ∃ e2, ρ[i]? = some (some e2))
    (hb : ∀ (j i : Nat) (v' : V), T'[j]? = some (.bor i, v') → T[j]? = some (.bor i, v') ∧ ((∃ e1, ρ[i]? = some (some e1)) → ∃ e1, ρ'[i]? = some (some e1)))
    (r : Rp C.K F (upd H a u) e' v) (hw : ∀ b, Ow (upd H a u) e' v b → Ow H e v b) : SM C o F (upd H a u) σ ρ' T' := by
  obtain ⟨o1, o2⟩ := S.own w e _ a h ho
  have keep : ∀ b x, F b = some x → upd H a u b = some x := fun b x q => by
    have hb : b ≠ a := fun z => by rw [z, o1] at q; cases q
    rw [upd_ne hb]
    exact S.sub b x q
  have oth : ∀ {p : Wh} {e1 : En} {v1 : V}, p ≠ w → At σ ρ T p e1 v1 → ∀ b x, Ow H e1 v1 b → H b = some x → upd H a u b = some x := fun {p e1 v1} np q b x w1 hx => by
    have hb : b ≠ a := fun z => by rw [z] at w1; exact S.sep w p e e1 v v1 a (Ne.symm np) h q ho w1
    rw [upd_ne hb]; exact hx
  exact {
    sub := keep
    len := hl.trans S.len
    has := fun i e1 q => by obtain ⟨e2, q'⟩ := hs i e1 q; exact S.has i e2 q'
    rep := fun p e1 v1 q => by
      rcases hat p e1 v1 q with ⟨rfl, rfl, rfl⟩ | ⟨ne, q'⟩
      · exact r
      · have r1 := S.rep p e1 v1 q'
        have k := oth ne q'
        cases e1 with
        | fr d => exact r1
        | d8 d => exact r1
        | ex d => exact r1
        | ol d =>
          obtain ⟨b, vs, h1, h2, h3⟩ := r1
          exact ⟨b, vs, h1, k b _ h1 h2, h3⟩
        | od k' d =>
          obtain ⟨b, us, vs, h1, h2, h3⟩ := r1
          exact ⟨b, us, vs, h1, h2.mono fun u q => k b u h1 q, h3⟩
        | on k' d =>
          obtain ⟨b, us, vs, h1, h2, h3⟩ := r1
          exact ⟨b, us, vs, h1, h2.mono fun u q => k b u h1 q, h3⟩
        | pA its =>
          obtain ⟨p', vs, h1, h2, h3, h4, h5, h6⟩ := r1
          refine ⟨p', vs, h1, k p' _ ⟨p', _, h1, h2, .inl rfl⟩ h2, h3, fun i x y e1 e2 => (h4 i x y e1 e2).mono (Ext.refl F) ?_, h5, h6⟩
          rintro b z ⟨⟨xs, rfl⟩, rfl⟩ hz
          exact k b _ ⟨p', _, h1, h2, .inr ⟨i, xs, e1, e2⟩⟩ hz
    bor := fun j i v' q => by
      obtain ⟨q1, q2⟩ := hb j i v' q
      obtain ⟨b1, b2, b3⟩ := S.bor j i v' q1
      exact ⟨b1, q2 b2, b3⟩
    sep := fun p q e1 e2 v1 v2 b ne a1 a2 w1 w2 => by
      rcases hat p e1 v1 a1 with ⟨rfl, rfl, rfl⟩ | ⟨np, a1'⟩
      · rcases hat q e2 v2 a2 with ⟨rfl, _, _⟩ | ⟨nq, a2'⟩
        · exact ne rfl
        · exact S.sep p q e e2 _ v2 b ne h a2' (hw b w1) ((Ow.stay (S.rep q e2 v2 a2') (oth nq a2')).mp w2)
      · rcases hat q e2 v2 a2 with ⟨rfl, rfl, rfl⟩ | ⟨nq, a2'⟩
        · exact S.sep q p e e1 _ v1 b (Ne.symm ne) h a1' (hw b w2) ((Ow.stay (S.rep p e1 v1 a1') (oth np a1')).mp w1)
        · exact S.sep p q e1 e2 v1 v2 b ne a1' a2' ((Ow.stay (S.rep p e1 v1 a1') (oth np a1')).mp w1) ((Ow.stay (S.rep q e2 v2 a2') (oth nq a2')).mp w2)
    own := fun p e1 v1 b a1 w1 => by
      rcases hat p e1 v1 a1 with ⟨rfl, rfl, rfl⟩ | ⟨np, a1'⟩
      · exact S.own p e _ b h (hw b w1)
      · exact S.own p e1 v1 b a1' ((Ow.stay (S.rep p e1 v1 a1') (oth np a1')).mp w1)
    ext := S.ext
    keep := fun b x q1 q2 => by
      have hb : b ≠ a := fun z => by
        rw [z] at q1 q2
        rcases o2 with o2 | o2
        · exact q1 o2
        · rw [o2] at q2; cases q2
      rw [upd_ne hb]
      exact S.keep b x q1 q2
    new := S.new
    lk := S.lk
    uG := S.uG }
theorem SM.aaW {o : Og} {F H : Hp} {σ : L2.St} {ρ ρ' : aq} {T T' : Tm} (S : SM C o F H σ ρ T) {w : Wh} {e e' : En} {a : Addr} {u : HO} (h : At σ ρ T w e (.ref a)) (ho : Ow H e (.ref a) a) (hl : ρ'.length = ρ.length)
    (hat : ∀ p e1 v1, At σ ρ' T' p e1 v1 → (p = w ∧ e1 = e' ∧ v1 = .ref a) ∨ (p ≠ w ∧ At σ ρ T p e1 v1)) (hs : ∀ (i : Nat) (e1 : En), ρ'[i]? = some (some e1) → ∃ e2, ρ[i]? = some (some e2))
    (hb : ∀ (j i : Nat) (v' : V), T'[j]? = some (.bor i, v') → T[j]? = some (.bor i, v') ∧ ((∃ e1, ρ[i]? = some (some e1)) → ∃ e1, ρ'[i]? = some (some e1)))
    (r : Rp C.K F (upd H a u) e' (.ref a)) (hw : ∀ b, Ow (upd H a u) e' (.ref a) b → b = a) : SM C o F (upd H a u) σ ρ' T' :=
  S.agc h ho hl hat hs hb r fun b w => by rw [hw b w]; exact ho
theorem SM.abQ {o : Og} {F H : Hp} {σ : L2.St} {ρ : aq} {T : Tm} {acc : List D} {d : D} {y : V} {p : Addr} (S : SM C o F H σ ρ ((.en (.fr d), y) :: (.en (.ol acc), .ref p) :: T)) :
    ∃ vs, H p = some (.lst vs) ∧ acc.length = vs.length ∧ SM C o F (upd H p (.lst (vs ++ [y]))) σ ρ ((.en (.ol (acc ++ [d])), .ref p) :: T) := by
  have rd : Dq C.K F d y := S.look (j := 0) rfl rfl
  obtain ⟨a, vs, ha, h2, h3⟩ : Rp C.K F H (.ol acc) (.ref p) := S.look (j := 1) (v := .ref p) rfl rfl
  cases ha
  refine ⟨vs, h2, h3.length, S.drop.aaW (w := .t 0) (e := .ol acc) (e' := .ol (acc ++ [d])) (a := p) rfl rfl rfl (fun q e1 v1 a => ?_) (fun i e1 q => ⟨e1, q⟩) (fun j i v' q => ?_) ⟨p, _, rfl, upd_same, h3.append (.cons rd .nil)⟩ fun b w => by cases w; rfl⟩
  · cases q with
    | s k => exact .inr ⟨(fun z => by cases z), a⟩
    | t j =>
      cases j with
      | zero =>
        have a' : some (Val.en (.ol (acc ++ [d])), V.ref p) = some (Val.en e1, v1) := a
        cases a'
        exact .inl ⟨rfl, rfl, rfl⟩
      | succ j => exact .inr ⟨(fun z => by cases z), a⟩
  · cases j with
    | zero => simp at q
    | succ j => exact ⟨q, fun z => z⟩
theorem T8 {own : List Nat} {fg : D → aq → Option aq} {ft : aq → R Bool} {fe : aq → R Val} {d : D} {ds : List D} {ρ : aq} {acc uL : List D} {ρF : aq} (h : Az own fg ft fe (d :: ds) ρ acc = .ok uL ρF) :
    ∃ ρ1 b ρ2, fg d ρ = some ρ1 ∧ ft ρ1 = .ok b ρ2 ∧ ((b = false ∧ Az own fg ft fe ds (d9 ρ2 own) acc = .ok uL ρF) ∨
      (b = true ∧ ∃ d' ρ3, aM fe ρ2 = .ok (.en (.fr d')) ρ3 ∧ acc.length < sizeLine ∧ Az own fg ft fe ds (d9 ρ3 own) (acc ++ [d']) = .ok uL ρF)) := by
  unfold Az at h
  cases h1 : fg d ρ with
  | none => rw [h1] at h; cases h
  | some ρ1 =>
    rw [h1] at h
    simp only at h
    cases h2 : ft ρ1 with
    | bad => rw [h2] at h; cases h
    | exc x ρ => rw [h2] at h; cases h
    | ok b ρ2 =>
      rw [h2] at h
      cases b with
      | false => exact ⟨ρ1, false, ρ2, rfl, h2, .inl ⟨rfl, h⟩⟩
      | true =>
        replace h : (aM fe ρ2).bind (fun v ρ3 => match v with
          | .en (.fr d') => if acc.length < sizeLine then Az own fg ft fe ds (d9 ρ3 own) (acc ++ [d']) else .bad
          | _ => .bad) = .ok uL ρF := h
        cases h3 : aM fe ρ2 with
        | bad => rw [h3] at h; cases h
        | exc x ρ => rw [h3] at h; cases h
        | ok v ρ3 =>
          rw [h3] at h
          cases v with
          | bor i => cases h
          | en e =>
            cases e with
            | fr d' =>
              replace h : (if acc.length < sizeLine then Az own fg ft fe ds (d9 ρ3 own) (acc ++ [d']) else .bad) = .ok uL ρF := h
              by_cases hz : acc.length < sizeLine
              · rw [if_pos hz] at h
                exact ⟨ρ1, true, ρ2, rfl, h2, .inr ⟨rfl, d', ρ3, h3, hz, h⟩⟩
              · rw [if_neg hz] at h; cases h
            | ol _ => cases h
            | od _ _ => cases h
            | on _ _ => cases h
            | d8 _ => cases h
            | ex _ => cases h
            | pA _ => cases h
theorem oH {σ σ' : L2.St} {own : List Nat} (hl : σ'.length = σ.length) (h : ∀ i, i ∉ own → σ'[i]? = σ[i]?) : L2.wipe σ' own = L2.wipe σ own := by
  apply List.ext_getElem?
  intro i
  by_cases hi : i ∈ own
  · have key : ∀ {τ : L2.St} {is : List Nat}, i ∈ is → i < τ.length → (L2.wipe τ is)[i]? = some none := by
      intro τ is
      induction is with
      | nil => intro h; simp at h
      | cons j is ih =>
        intro hm hlt
        unfold L2.wipe
        by_cases hj : j = i
        · subst hj; exact List.getElem?_set_self (by rw [wipe_length]; exact hlt)
        · rw [List.getElem?_set_ne hj]
          rcases List.mem_cons.mp hm with z | z
          · exact absurd z.symm hj
          · exact ih z hlt
    by_cases hlt : i < σ.length
    · rw [key hi hlt, key hi (by rw [hl]; exact hlt)]
    · rw [List.getElem?_eq_none (by rw [wipe_length]; omega), List.getElem?_eq_none (by rw [wipe_length]; omega)]
  · rw [wipe_out hi, wipe_out hi, h i hi]
abbrev ZF : ZX := fun _ _ _ _ _ => False
theorem YG {own sl : List Nat} {wi : TI} {g : TG} {tt : TT} {te : TE} {fi : aq → R (List D)} {fg : D → aq → Option aq} {ft : aq → R Bool} {fe : aq → R Val} (hi : qQ C Z wi fi) (hg : rY C g sl fg) (ht : fV C ZF tt ft) (he : Impl C ZF te fe)
    (hc : ∀ i ∈ own, i ∈ C.cs) (hL : ∀ i ∈ own, i ∉ C.L) (hs : ∀ i ∈ sl, i ∈ own) : Impl C Z (tLc wi g tt te own) (iz own fi fg ft fe) := by
  intro o F H σ ρ T Q S h
  unfold iz at h
  rw [aH] at h
  refine hi o F H σ ρ T _ S (aG h (fun ds ρ1 h1 F1 H1 J S1 W => ?_) fun _ _ h => h)
  by_cases hf : lV ρ1 own = true
  · rw [if_pos hf] at h1
    cases hr : Az own fg ft fe ds (d9 ρ1 own) [] with
    | bad => rw [hr] at h1; exact h1.elim
    | exc x ρ' => rw [hr] at h1; exact h1.elim
    | ok uL ρF =>
      rw [hr] at h1
      intro D hD
      refine ⟨fun i m H => m = ds.length - i ∧ i ≤ ds.length ∧ ∃ F ρ acc, Ext F1 F ∧ SM C o F H (L2.wipe σ own) ρ ((.en (.ol acc), .ref D) :: T) ∧ Az own fg ft fe (ds.drop i) ρ acc = .ok uL ρF,
        ⟨ds.length, by simp, Nat.zero_le _, F1, d9 ρ1 own, [], Ext.refl F1, (S1.alloc (.lst (Grow.refl S1.sub) hD .nil)).wipe hc hL, hr⟩, ?_⟩
      rintro i m H ⟨rfl, hle, F, ρ', acc, ex, S2, hq⟩
      by_cases hlt : i < ds.length
      · refine .inr ⟨W.go i F H ex S2.sub hlt, fun H' => ∃ F ρ acc, Ext F1 F ∧ SM C o F H' (L2.wipe σ own) ρ ((.en (.ol acc), .ref D) :: T) ∧ Az own fg ft fe (ds.drop (i + 1)) ρ acc = .ok uL ρF,
          fun H' q => ⟨ds.length - (i + 1), by omega, rfl, hlt, q⟩, fun x H' y => ?_⟩
        obtain ⟨F', d, hd, gr, dq⟩ := W.yld i F H x H' ex S2.sub hlt y
        have S3 := S2.grow gr
        have ed : ds.drop i = d :: ds.drop (i + 1) := by
          rw [List.drop_eq_getElem_cons hlt]
          congr 1
          rw [List.getElem?_eq_getElem hlt] at hd
          exact Option.some.inj hd
        rw [ed] at hq
        obtain ⟨ρa, b, ρb, hga, hta, hstep⟩ := T8 hq
        have nb : ∀ i ∈ sl, kY ((Val.en (.ol acc), V.ref D) :: T) i := fun k hk j v z => by
          obtain ⟨_, _, b3⟩ := S3.bor j k v z
          exact b3 (hc k (hs k hk))
        refine hg o F' H' _ ρ' ρa _ d x _ S3 dq nb hga fun σ2 S4 k4 l4 => ⟨?_, ?_⟩
        · rw [oH (l4.trans rfl) (fun i hi => k4 i fun z => hi (hs i z))]
          exact oH (wipe_length _ _) fun i hi => wipe_out hi
        · have wσ : L2.wipe σ2 own = L2.wipe σ own := by
            rw [oH (l4.trans rfl) (fun i hi => k4 i fun z => hi (hs i z))]
            exact oH (wipe_length _ _) fun i hi => wipe_out hi
          refine ht.ext S4 ?_
          rw [hta]
          intro F5 H5 ex5 S5
          rcases hstep with ⟨rfl, hn⟩ | ⟨rfl, d', ρc, hfe, hz, hn⟩
          · have S6 := S5.wipe hc hL
            rw [wσ] at S6
            exact ⟨F5, _, acc, (ex.trans gr.f).trans ex5, S6, hn⟩
          · refine (Cq he).ext S5 ?_
            rw [hfe]
            intro F6 H6 v ex6 S6
            obtain ⟨vs, hv, hl, S7⟩ := S6.abQ
            refine ⟨vs, hv, by rw [← hl]; exact hz, ?_⟩
            have S8 := S7.wipe hc hL
            rw [wσ] at S8
            exact ⟨F6, _, acc ++ [d'], ((ex.trans gr.f).trans ex5).trans ex6, S8, hn⟩
      · have e : i = ds.length := by omega
        subst e
        rw [List.drop_length] at hq
        unfold Az at hq
        cases hq
        exact .inl ⟨W.stop F H ex S2.sub, h1 F H _ (SM.putBack S1 S2 hf ex hc hL)⟩
  · rw [if_neg hf] at h1; exact h1.elim
end
end DM
end
section
namespace DM
open PySem L2
inductive Fl where
  | nx | bk | ct | rt (e : En)
def postS (C : Cs) (o : Og) (D : Ends) : Fl → aq → Prop
  | .nx, ρ => ∀ F H σ, SM C o F H σ ρ [] → D.nx σ H
  | .bk, ρ => ∀ F H σ, SM C o F H σ ρ [] → D.bk σ H
  | .ct, ρ => ∀ F H σ, SM C o F H σ ρ [] → D.ct σ H
  | .rt e, ρ => ∀ F H σ v, SM C o F H σ ρ [(.en e, v)] → D.rt v H
def Gy (C : Cs) (Z : ZX) (o : Og) (x : Ex) (ρ : aq) : Prop := ∀ F H σ, SM C o F H σ ρ [] → Z x F H σ ρ
def fK (C : Cs) (Z : ZX) (ts : TS) (f : aq → R Fl) : Prop :=
  ∀ (o : Og) (F H : Hp) (σ : L2.St) (ρ : aq) (D : Ends), SM C o F H σ ρ [] → pJ (f ρ) (postS C o D) (Gy C Z o) → ts D σ H
def take (keep : Bool) (a : Val) (ρ : aq) : Option (En × aq) := match keep with
  | true => match a with
    | .en e => some (e, ρ)
    | .bor i => match (ρ[i]?).join with
      | some e => some (e, ρ.set i none)
      | none => none
  | false => frz a ρ
def runK (keep : Bool) (f : aq → R Val) (ρ : aq) : R En := (f ρ).bind fun a ρ1 => YH (take keep a ρ1)
where YH : Option (En × aq) → R En
  | some (e, ρ) => .ok e ρ
  | none => .bad
section
variable {C : Cs} {Z : ZX}
theorem SM.take {o : Og} {F H : Hp} {σ : L2.St} {ρ ρ' : aq} {T : Tm} {a : Val} {v : V} {e : En} {keep : Bool} (S : SM C o F H σ ρ ((a, v) :: T)) (hT : ∀ i, kY T i) (h : DM.take keep a ρ = some (e, ρ')) : ∃ F', SM C o F' H σ ρ' ((.en e, v) :: T) := by
  cases keep with
  | false => exact S.frz h
  | true =>
    cases a with
    | en e0 =>
      have h' : some (e0, ρ) = some (e, ρ') := h
      cases h'
      exact ⟨F, S⟩
    | bor i =>
      replace h : (match (ρ[i]?).join with | some e => some (e, ρ.set i none) | none => none) = some (e, ρ') := h
      cases q : (ρ[i]?).join with
      | none => rw [q] at h; cases h
      | some e0 =>
        rw [q] at h
        cases h
        exact ⟨F, S.move (join_some q) (hT i)⟩
theorem xH {keep : Bool} {te : TE} {f : aq → R Val} (h : Impl C Z te f) {o : Og} {F H : Hp} {σ : L2.St} {ρ : aq} {T : Tm} {Q : VK} (S : SM C o F H σ ρ T) (hT : ∀ i, kY T i)
    (q : pJ (runK keep f ρ) (fun e ρ' => ∀ F' H' v, SM C o F' H' σ ρ' ((.en e, v) :: T) → Q v H') (fun x ρ' => ∀ F' H', SM C o F' H' σ ρ' T → Z x F' H' σ ρ')) : te σ H Q := by
  unfold runK at q
  rw [aH] at q
  refine h o F H σ ρ T Q S (aG q (fun a ρ1 h1 F1 H1 v S1 => ?_) fun _ _ h => h)
  cases z : take keep a ρ1 with
  | none => rw [z] at h1; exact h1.elim
  | some p =>
    obtain ⟨e, ρ2⟩ := p
    rw [z] at h1
    obtain ⟨F2, S2⟩ := S1.take hT z
    exact h1 F2 H1 v S2
theorem xJ {T : Tm} {e : En} {v : V} (h : ∀ i, kY T i) : ∀ i, kY ((.en e, v) :: T) i := fun i j w z => by
  cases j with
  | zero => simp at z
  | succ j => exact h i j w (by simpa using z)
theorem kZ : ∀ i, kY [] i := Ql
def aR (keep : Bool) (i : Nat) (f : aq → R Val) (ρ : aq) : R Fl := (runK keep f ρ).bind fun e ρ1 => if i < ρ1.length then .ok .nx (ρ1.set i (some e)) else .bad
theorem Qp {keep : Bool} {i : Nat} {te : TE} {f : aq → R Val} (h : Impl C Z te f) (hL : i ∉ C.L) : fK C Z (tAsg te (gName i)) (aR keep i f) := by
  intro o F H σ ρ D S q
  unfold aR at q
  rw [aH] at q
  refine xH h S kZ (aG q (fun e ρ1 h1 F1 H1 v S1 => ?_) fun x ρ' h F' H' s => h F' H' σ s)
  by_cases hi : i < ρ1.length
  · rw [if_pos hi] at h1
    exact h1 F1 H1 _ (S1.store (by rw [← S1.len]; exact hi) hL (kZ i))
  · rw [if_neg hi] at h1; exact h1.elim
def Cz (t : Tg) (f : aq → R Val) (ρ : aq) : R Fl := (runK false f ρ).bind fun e ρ1 => match e with
  | .fr d => match bW t d ρ1 with
    | some ρ2 => .ok .nx ρ2
    | none => .bad
  | _ => .bad
theorem Ka {t : Tg} {g : TG} {sl : List Nat} {te : TE} {f : aq → R Val} (h : Impl C Z te f) (hg : rY C g sl (bW t)) : fK C Z (tAsg te g) (Cz t f) := by
  intro o F H σ ρ D S q
  unfold Cz at q
  rw [aH] at q
  refine xH h S kZ (aG q (fun e ρ1 h1 F1 H1 v S1 => ?_) fun x ρ' h F' H' s => h F' H' σ s)
  cases e with
  | fr d =>
    replace h1 : pJ (match bW t d ρ1 with | some ρ2 => R.ok Fl.nx ρ2 | none => .bad) (postS C o D) (Gy C Z o) := h1
    cases z : bW t d ρ1 with
    | none => rw [z] at h1; exact h1.elim
    | some ρ2 =>
      rw [z] at h1
      exact hg o F1 H1 σ ρ1 ρ2 [] d v _ S1.drop (S1.look (j := 0) (v := v) (e := .fr d) rfl rfl) (fun i _ => kZ i) z fun σ' S' _ _ => h1 F1 H1 σ' S'
  | ol _ => exact h1.elim
  | od _ _ => exact h1.elim
  | on _ _ => exact h1.elim
  | d8 _ => exact h1.elim
  | ex _ => exact h1.elim
  | pA _ => exact h1.elim
def jM (k1 k2 : Bool) (i j : Nat) (f g : aq → R Val) (ρ : aq) : R Fl := (runK k1 f ρ).bind fun e ρ1 => (runK k2 g ρ1).bind fun e' ρ2 => if i < ρ2.length ∧ j < ρ2.length then .ok .nx ((ρ2.set i (some e)).set j (some e')) else .bad
theorem SM.swap {o : Og} {F H : Hp} {σ : L2.St} {ρ : aq} {T : Tm} {x y : Val × V} (S : SM C o F H σ ρ (x :: y :: T)) : SM C o F H σ ρ (y :: x :: T) :=
  S.emb (fun j => match j with | 0 => 1 | 1 => 0 | j => j) (fun j z h => by
    match j with
    | 0 => simpa using h
    | 1 => simpa using h
    | j + 2 => simpa using h) (fun i j h => by
    match i, j with
    | 0, 0 => rfl
    | 0, 1 => simp at h
    | 1, 0 => simp at h
    | 1, 1 => rfl
    | 0, j + 2 => simp at h
    | 1, j + 2 => simp at h
    | i + 2, 0 => simp at h
    | i + 2, 1 => simp at h
    | i + 2, j + 2 => exact h)
theorem SM.abR {o : Og} {F H : Hp} {σ : L2.St} {ρ : aq} {e e' : En} {v w : V} {i j : Nat} (S : SM C o F H σ ρ [(.en e', w), (.en e, v)]) (hi : i < ρ.length) (hj : j < ρ.length) (h1 : i ∉ C.L) (h2 : j ∉ C.L) :
    SM C o F H ((σ.set i (some v)).set j (some w)) ((ρ.set i (some e)).set j (some e')) [] := by
  have l := S.len
  have S1 := S.swap.store (i := i) (by rw [← l]; exact hi) h1 (xJ kZ i)
  exact S1.store (by rw [List.length_set, ← l]; exact hj) h2 (kZ j)
theorem Qq {k1 k2 : Bool} {i j : Nat} {ta tb : TE} {f g : aq → R Val} (ha : Impl C Z ta f) (hb : Impl C Z tb g) (hi : i ∉ C.L) (hj : j ∉ C.L) : fK C Z (tPar i j (tCons ta (tCons tb tNil))) (jM k1 k2 i j f g) := by
  intro o F H σ ρ D S q
  unfold jM at q
  rw [aH] at q
  refine xH ha S kZ (aG q (fun e ρ1 h1 F1 H1 v S1 => ?_) fun x ρ' h F' H' s => h F' H' σ s)
  rw [aH] at h1
  refine xH hb S1 (xJ kZ) (aG h1 (fun e' ρ2 h2 F2 H2 w S2 => ?_) fun x ρ' h F' H' s => h F' H' σ s.drop)
  by_cases hl : i < ρ2.length ∧ j < ρ2.length
  · rw [if_pos hl] at h2
    exact ⟨v, w, rfl, h2 F2 H2 _ (S2.abR hl.1 hl.2 hi hj)⟩
  · rw [if_neg hl] at h2; exact h2.elim
def aJ (f g : aq → R Fl) (ρ : aq) : R Fl := (f ρ).bind fun fl ρ1 => match fl with
  | .nx => g ρ1
  | fl => .ok fl ρ1
theorem Kc {t u : TS} {f g : aq → R Fl} (h1 : fK C Z t f) (h2 : fK C Z u g) : fK C Z (tSeq t u) (aJ f g) := by
  intro o F H σ ρ D S q
  unfold aJ at q
  rw [aH] at q
  refine h1 o F H σ ρ { D with nx := u D } S (aG q (fun fl ρ1 k => ?_) fun _ _ h => h)
  cases fl with
  | nx => exact fun F1 H1 σ1 S1 => h2 o F1 H1 σ1 ρ1 D S1 k
  | bk => exact k
  | ct => exact k
  | rt e => exact k
theorem Ba : fK C Z tNext (fun ρ => .ok .nx ρ) := fun o F H σ ρ D S q => q F H σ S
theorem Qs : fK C Z tBreak (fun ρ => .ok .bk ρ) := fun o F H σ ρ D S q => q F H σ S
theorem T9 {c : TT} {t u : TS} {fc : aq → R Bool} {f g : aq → R Fl} (hc : fV C Z c fc) (h1 : fK C Z t f) (h2 : fK C Z u g) : fK C Z (tIfS c t u) (bH fc f g) := by
  intro o F H σ ρ D S q
  unfold bH at q
  rw [aH] at q
  refine hc o F H σ ρ [] _ S (aG q (fun b ρ1 k F1 H1 S1 => ?_) fun x ρ' h F' H' s => h F' H' σ s)
  cases b with
  | true => exact h1 o F1 H1 σ ρ1 D S1 k
  | false => exact h2 o F1 H1 σ ρ1 D S1 k
def abS (L : List Nat) : Val → Bool
  | .bor i => !L.contains i
  | _ => true
def aO (L : List Nat) (f : aq → R Val) (ρ : aq) : R Fl := (f ρ).bind fun a ρ1 => match take (abS L a) a ρ1 with
  | some (e, ρ2) => .ok (.rt e) ρ2
  | none => .bad
theorem Qt {te : TE} {f : aq → R Val} (h : Impl C Z te f) : fK C Z (tRet te) (aO C.L f) := by
  intro o F H σ ρ D S q
  unfold aO at q
  rw [aH] at q
  refine h o F H σ ρ [] _ S (aG q (fun a ρ1 k F1 H1 v S1 => ?_) fun x ρ' h F' H' s => h F' H' σ s)
  cases z : take (abS C.L a) a ρ1 with
  | none => rw [z] at k; exact k.elim
  | some p =>
    obtain ⟨e, ρ2⟩ := p
    rw [z] at k
    obtain ⟨F2, S2⟩ := S1.take kZ z
    exact k F2 H1 σ v S2
def iJ (f : aq → R Val) (ρ : aq) : R Fl := (f ρ).bind fun _ ρ1 => .ok .nx ρ1
theorem Ua {te : TE} {f : aq → R Val} (h : Impl C Z te f) : fK C Z (tDrop te) (iJ f) := by
  intro o F H σ ρ D S q
  unfold iJ at q
  rw [aH] at q
  exact h o F H σ ρ [] _ S (aG q (fun a ρ1 k F1 H1 v S1 => k F1 H1 σ S1.drop) fun x ρ' h F' H' s => h F' H' σ s)
/-! ### loops -/
def pD (fg : D → aq → Option aq) (fb : aq → R Fl) : List D → aq → R Fl
  | [], ρ => .ok .nx ρ
  | d :: ds, ρ => match fg d ρ with
    | none => .bad
    | some ρ1 => (fb ρ1).bind fun fl ρ2 => match fl with
      | .nx => pD fg fb ds ρ2
      | .ct => pD fg fb ds ρ2
      | .bk => .ok .nx ρ2
      | .rt e => .ok (.rt e) ρ2
def runFor (fi : aq → R (List D)) (fg : D → aq → Option aq) (fb : aq → R Fl) (ρ : aq) : R Fl := (fi ρ).bind fun ds ρ1 => pD fg fb ds ρ1
theorem fK.ext {t : TS} {f : aq → R Fl} (h : fK C Z t f) {o : Og} {F H : Hp} {σ : L2.St} {ρ : aq} {D : Ends} (S : SM C o F H σ ρ [])
    (q : pJ (f ρ) (fun fl ρ' => match fl with
      | .nx => ∀ F' H' σ', Ext F F' → SM C o F' H' σ' ρ' [] → D.nx σ' H'
      | .bk => ∀ F' H' σ', Ext F F' → SM C o F' H' σ' ρ' [] → D.bk σ' H'
      | .ct => ∀ F' H' σ', Ext F F' → SM C o F' H' σ' ρ' [] → D.ct σ' H'
      | .rt e => ∀ F' H' σ' v, Ext F F' → SM C o F' H' σ' ρ' [(.en e, v)] → D.rt v H') (Gy C Z o)) : t D σ H :=
  h _ F H σ ρ D S.base (aG q (fun fl _ k => by
    cases fl with
    | nx => exact fun F' H' σ' N => k F' H' σ' N.ext (S.oF N)
    | bk => exact fun F' H' σ' N => k F' H' σ' N.ext (S.oF N)
    | ct => exact fun F' H' σ' N => k F' H' σ' N.ext (S.oF N)
    | rt e => exact fun F' H' σ' v N => k F' H' σ' v N.ext (S.oF N)) fun _ _ k F' H' σ' N => k F' H' σ' (S.oF N))
theorem Qu {sl : List Nat} {wi : TI} {g : TG} {tb : TS} {fi : aq → R (List D)} {fg : D → aq → Option aq} {fb : aq → R Fl} (hi : qQ C Z wi fi) (hg : rY C g sl fg) (hb : fK C Z tb fb) : fK C Z (tFor wi g tb) (runFor fi fg fb) := by
  intro o F H σ ρ D S q
  unfold runFor at q
  rw [aH] at q
  refine hi o F H σ ρ [] _ S (aG q (fun ds ρ1 k F1 H1 J S1 W => ?_) fun x ρ' h F' H' s => h F' H' σ s)
  refine ⟨fun i m σ H => m = ds.length - i ∧ i ≤ ds.length ∧ ∃ F ρ, Ext F1 F ∧ SM C o F H σ ρ [] ∧ pJ (pD fg fb (ds.drop i) ρ) (postS C o D) (Gy C Z o), ⟨ds.length, by simp, Nat.zero_le _, F1, ρ1, Ext.refl F1, S1, k⟩, ?_⟩
  rintro i m σ H ⟨rfl, hle, F, ρ', ex, S2, hq⟩
  by_cases hlt : i < ds.length
  · refine .inr ⟨W.go i F H ex S2.sub hlt, fun σ H => ∃ F ρ, Ext F1 F ∧ SM C o F H σ ρ [] ∧ pJ (pD fg fb (ds.drop (i + 1)) ρ) (postS C o D) (Gy C Z o), fun σ' H' q => ⟨ds.length - (i + 1), by omega, rfl, hlt, q⟩, fun x H' y => ?_⟩
    obtain ⟨F', d, hd, gr, dq⟩ := W.yld i F H x H' ex S2.sub hlt y
    have S3 := S2.grow gr
    have ed : ds.drop i = d :: ds.drop (i + 1) := by
      rw [List.drop_eq_getElem_cons hlt]
      congr 1
      rw [List.getElem?_eq_getElem hlt] at hd
      exact Option.some.inj hd
    rw [ed] at hq
    unfold pD at hq
    cases hga : fg d ρ' with
    | none => rw [hga] at hq; exact hq.elim
    | some ρa =>
      rw [hga] at hq
      replace hq : pJ ((fb ρa).bind fun fl ρ2 => match fl with
        | .nx => pD fg fb (ds.drop (i + 1)) ρ2
        | .ct => pD fg fb (ds.drop (i + 1)) ρ2
        | .bk => .ok .nx ρ2
        | .rt e => .ok (.rt e) ρ2) (postS C o D) (Gy C Z o) := hq
      rw [aH] at hq
      refine hg o F' H' σ ρ' ρa [] d x _ S3 dq (fun i _ => kZ i) hga fun σ4 S4 _ _ => ?_
      refine hb.ext S4 (aG hq (fun fl ρ5 k5 => ?_) fun _ _ h => h)
      cases fl with
      | nx => exact fun F5 H5 σ5 ex5 S5 => ⟨F5, ρ5, (ex.trans gr.f).trans ex5, S5, k5⟩
      | ct => exact fun F5 H5 σ5 ex5 S5 => ⟨F5, ρ5, (ex.trans gr.f).trans ex5, S5, k5⟩
      | bk => exact fun F5 H5 σ5 ex5 S5 => k5 F5 H5 σ5 S5
      | rt e => exact fun F5 H5 σ5 v ex5 S5 => k5 F5 H5 σ5 v S5
  · have e : i = ds.length := by omega
    subst e
    rw [List.drop_length] at hq
    exact .inl ⟨W.stop F H ex S2.sub, hq F H σ S2⟩
def iK (ρ : aq) (i : Nat) : Option (List D) := match (ρ[i]?).join with
  | some (.ol xs) => some xs
  | _ => none
theorem su {ρ : aq} {i : Nat} {xs : List D} (h : iK ρ i = some xs) : ρ[i]? = some (some (.ol xs)) := by
  unfold iK at h
  cases q : (ρ[i]?).join with
  | none => rw [q] at h; cases h
  | some e =>
    rw [q] at h
    cases e with
    | ol ys => cases h; exact join_some q
    | _ => cases h
theorem SM.abT {o : Og} {F H : Hp} {σ : L2.St} {ρ : aq} {T : Tm} {i : Nat} {e e' : En} {a : Addr} {u : HO} (S : SM C o F H σ ρ T) (h1 : ρ[i]? = some (some e)) (h2 : σ[i]? = some (some (.ref a))) (ho : Ow H e (.ref a) a) (r : Rp C.K F (upd H a u) e' (.ref a)) (hw : ∀ b, Ow (upd H a u) e' (.ref a) b → b = a) :
    SM C o F (upd H a u) σ (ρ.set i (some e')) T := by
  have hi : i < ρ.length := (List.getElem?_eq_some_iff.mp h1).1
  refine S.aaW (w := .s i) (e := e) (e' := e') ⟨h1, h2⟩ ho (List.length_set ..) (fun p e1 v1 a1 => ?_) (fun k e1 q => ?_) (fun j k v' q => ⟨q, fun ⟨e1, y⟩ => ?_⟩) r hw
  · cases p with
    | s k =>
      obtain ⟨a1, a2⟩ := a1
      by_cases hk : k = i
      · subst hk
        rw [List.getElem?_set_self hi] at a1
        rw [h2] at a2
        cases a1; cases a2
        exact .inl ⟨rfl, rfl, rfl⟩
      · rw [List.getElem?_set_ne (Ne.symm hk)] at a1
        exact .inr ⟨fun z => hk (Wh.s.inj z), a1, a2⟩
    | t j => exact .inr ⟨(fun z => by cases z), a1⟩
  · by_cases hk : k = i
    · subst hk; exact ⟨_, h1⟩
    · rw [List.getElem?_set_ne (Ne.symm hk)] at q; exact ⟨_, q⟩
  · by_cases hk : k = i
    · subst hk; exact ⟨_, List.getElem?_set_self hi⟩
    · exact ⟨e1, by rw [List.getElem?_set_ne (Ne.symm hk)]; exact y⟩
theorem SM.M8 {o : Og} {F H : Hp} {σ : L2.St} {ρ : aq} {T : Tm} {i : Nat} {xs : List D} (S : SM C o F H σ ρ T) (h : ρ[i]? = some (some (.ol xs))) : ∃ a vs, σ[i]? = some (some (.ref a)) ∧ H a = some (.lst vs) ∧ aV C.K F xs vs := by
  obtain ⟨v, hv⟩ := S.has i _ h
  obtain ⟨a, vs, rfl, h2, h3⟩ : Rp C.K F H (.ol xs) v := S.rep (.s i) (.ol xs) v ⟨h, hv⟩
  exact ⟨a, vs, hv, h2, h3⟩
def oJ (x : Nat) (fe fi : aq → R Val) (ρ : aq) : R Fl := (aM fe ρ).bind fun v ρ1 => match (ρ1[x]?).join with
  | none => .bad
  | some _ => (fi ρ1).bind fun k ρ2 => match v, (look ρ2 k).bind gq, iK ρ2 x with
    | .en (.fr d), some i, some xs => match ixN xs.length i with
      | some j => .ok .nx (ρ2.set x (some (.ol (xs.set j d))))
      | none => .bad
    | _, _, _ => .bad
theorem wj {o : Og} {F H : Hp} {σ : L2.St} {ρ : aq} {T : Tm} {a : Val} {x : V} {i : Int} (S : SM C o F H σ ρ ((a, x) :: T)) (h : (look ρ a).bind gq = some i) : x = .int i := by
  cases la : look ρ a with
  | none => rw [la] at h; cases h
  | some e => rw [la] at h; exact dN (S.look (j := 0) rfl la) h
theorem Qv {x : Nat} {te ti : TE} {fe fi : aq → R Val} (he : Impl C Z te fe) (hi : Impl C Z ti fi) : fK C Z (tAsg te (gSub (tVar x) ti rSetL)) (oJ x fe fi) := by
  intro o F H σ ρ D S q
  unfold oJ at q
  rw [aH] at q
  refine (Cq he) o F H σ ρ [] _ S (aG q (fun v ρ1 k F1 H1 y S1 => ?_) fun x ρ' h F' H' s => h F' H' σ s)
  cases hx : (ρ1[x]?).join with
  | none => rw [hx] at k; exact k.elim
  | some ex =>
    rw [hx] at k
    obtain ⟨w, hw⟩ := S1.has x ex (join_some hx)
    refine ⟨w, hw, ?_⟩
    replace k : pJ ((fi ρ1).bind fun k ρ2 => match v, (look ρ2 k).bind gq, iK ρ2 x with
      | .en (.fr d), some i, some xs => match ixN xs.length i with
        | some j => R.ok Fl.nx (ρ2.set x (some (.ol (xs.set j d))))
        | none => .bad
      | _, _, _ => .bad) (postS C o D) (Gy C Z o) := k
    rw [aH] at k
    refine hi o F1 H1 σ ρ1 _ _ S1 (aG k (fun a ρ2 k2 F2 H2 z S2 => ?_) fun x ρ' h F' H' s => h F' H' σ s.drop)
    cases h1 : (look ρ2 a).bind gq with
    | none =>
      rw [h1] at k2
      cases v with
      | en e => cases e <;> exact k2.elim
      | bor i => exact k2.elim
    | some i =>
      cases h2 : iK ρ2 x with
      | none =>
        rw [h1, h2] at k2
        cases v with
        | en e => cases e <;> exact k2.elim
        | bor i => exact k2.elim
      | some xs =>
        rw [h1, h2] at k2
        cases v with
        | bor i => exact k2.elim
        | en e =>
          cases e with
          | fr d =>
            replace k2 : pJ (match ixN xs.length i with
              | some j => R.ok Fl.nx (ρ2.set x (some (.ol (xs.set j d))))
              | none => .bad) (postS C o D) (Gy C Z o) := k2
            cases h3 : ixN xs.length i with
            | none => rw [h3] at k2; exact k2.elim
            | some j =>
              rw [h3] at k2
              have rs := su h2
              obtain ⟨a', vs, g1, g2, g3⟩ := S2.M8 rs
              rw [hw] at g1
              cases g1
              have rd : Dq C.K F2 d y := S2.look (j := 1) (v := y) (e := .fr d) rfl rfl
              refine ⟨a', vs, i, j, rfl, wj S2 h1, g2, by rw [← g3.length]; exact h3, ?_⟩
              exact k2 F2 _ σ (S2.drop.drop.abT rs hw rfl ⟨a', _, rfl, upd_same, g3.set rd j⟩ fun b w => by cases w; rfl)
          | _ => exact k2.elim
end
end DM
end
section
namespace DM
open PySem L2
/-! ### arguments told -/
theorem gG {α β : Type} {P : α → β → Prop} {a : α} {vs : List β} (h : Paired P [a] vs) : ∃ v, vs = [v] ∧ P a v := by
  cases h with
  | cons r t => cases t; exact ⟨_, rfl, r⟩
theorem Ub {α β : Type} {P : α → β → Prop} {a b : α} {vs : List β} (h : Paired P [a, b] vs) : ∃ v w, vs = [v, w] ∧ P a v ∧ P b w := by
  cases h with
  | cons r t =>
    obtain ⟨w, rfl, q⟩ := gG t
    exact ⟨_, w, rfl, r, q⟩
def Uc {α : Type} (g : En → Option α) : List En → Option α
  | [e] => g e
  | _ => none
def on2 {α : Type} (g : En → En → Option α) : List En → Option α
  | [e, f] => g e f
  | _ => none
theorem lg {α : Type} {g : En → Option α} {es : List En} {x : α} (h : Uc g es = some x) : ∃ e, es = [e] ∧ g e = some x := by
  match es, h with
  | [e], h => exact ⟨e, rfl, h⟩
theorem Ud {α : Type} {g : En → En → Option α} {es : List En} {x : α} (h : on2 g es = some x) : ∃ e f, es = [e, f] ∧ g e f = some x := by
  match es, h with
  | [e, f], h => exact ⟨e, f, rfl, h⟩
section
variable {K : PySem.W.Frag}
/-! ### len, abs, int -/
def abU (e : En) : Option Nat := match e.items with
  | some xs => some xs.length
  | none => match stE e with
    | some z => if z.length ≤ sizeLine then some z.length else none
    | none => none
def dW : List En → Option En := Uc fun e => (abU e).map fun (n : Nat) => .fr (.int (n : Int))
theorem ad7 : j9 K (fun xs H Q => ∃ x n, xs = [x] ∧ LenV K x H n ∧ Q (.int n) H) dW := by
  intro F H es vs e Q s r hh q
  obtain ⟨e0, rfl, h⟩ := lg hh
  obtain ⟨x, rfl, rx⟩ := gG r
  cases hn : abU e0 with
  | none => rw [hn] at h; cases h
  | some n =>
    rw [hn] at h
    cases h
    refine ⟨x, n, rfl, ?_, q _ _ _ (.flat s (oG _))⟩
    unfold abU at hn
    cases hi : e0.items with
    | some xs =>
      rw [hi] at hn
      cases hn
      obtain ⟨a, us, rfl, h3, h4⟩ := wY s rx hi
      rcases h3 with h3 | h3
      · exact .inl ⟨us, h3, h4.length⟩
      · exact .inr ⟨us, h3, h4.length⟩
    | none =>
      rw [hi] at hn
      cases hs : stE e0 with
      | none => rw [hs] at hn; cases hn
      | some z =>
        rw [hs] at hn
        have e1 := wV rx hs
        subst e1
        by_cases hz : z.length ≤ sizeLine
        · simp only [hz, if_true] at hn
          cases hn
          exact ⟨hz, rfl⟩
        · simp only [hz, if_false] at hn; cases hn
def pF (i : Int) : Int := if i < 0 then -i else i
def CG : List En → Option En := Uc fun e => (gq e).map fun i => .fr (.int (pF i))
theorem ad8 : j9 K (fun xs H Q => ∃ i, xs = [.int i] ∧ Q (.int (if i < 0 then -i else i)) H) CG := by
  intro F H es vs e Q s r hh q
  obtain ⟨e0, rfl, h⟩ := lg hh
  obtain ⟨x, rfl, rx⟩ := gG r
  cases hn : gq e0 with
  | none => rw [hn] at h; cases h
  | some i =>
    rw [hn] at h
    cases h
    exact ⟨i, by rw [dN rx hn], q _ _ _ (.flat s (oG _))⟩
def Yj (b : Bool) : Int := if b then 1 else 0
def sE : List En → Option En := Uc fun e => match gq e with
  | some i => some (.fr (.int i))
  | none => (JQ e).map fun b => .fr (.int (Yj b))
theorem ad9 : j9 K (fun xs H Q => (∃ i, xs = [.int i] ∧ Q (.int i) H) ∨ ∃ k, xs = [.bl k] ∧ Q (.int (if k then 1 else 0)) H) sE := by
  intro F H es vs e Q s r hh q
  obtain ⟨e0, rfl, h⟩ := lg hh
  obtain ⟨x, rfl, rx⟩ := gG r
  cases hn : gq e0 with
  | some i =>
    rw [hn] at h
    cases h
    exact .inl ⟨i, by rw [dN rx hn], q _ _ _ (.flat s (oG _))⟩
  | none =>
    rw [hn] at h
    cases hb : JQ e0 with
    | none => rw [hb] at h; cases h
    | some b =>
      rw [hb] at h
      cases h
      exact .inr ⟨b, by rw [JR rx hb], q _ _ _ (.flat s (oG _))⟩
def vI : List En → Option En := on2 fun a b => match gq a, gq b with
  | some i, some j => some (.fr (.int (min i j)))
  | _, _ => none
theorem abV : j9 K (fun xs H Q => ∃ i j, xs = [.int i, .int j] ∧ Q (.int (if j < i then j else i)) H) vI := by
  intro F H es vs e Q s r hh q
  obtain ⟨a, b, rfl, h⟩ := Ud hh
  obtain ⟨x, y, rfl, rx, ry⟩ := Ub r
  cases h1 : gq a with
  | none => rw [h1] at h; cases h
  | some i =>
    cases h2 : gq b with
    | none => rw [h1, h2] at h; cases h
    | some j =>
      rw [h1, h2] at h
      cases h
      refine ⟨i, j, by rw [dN rx h1, dN ry h2], ?_⟩
      have e : (if j < i then j else i) = min i j := by split <;> omega
      rw [e]
      exact q _ _ _ (.flat s (oG _))
/-! ### list, tuple -/
def Bb : List En → Option En := Uc fun e => e.items.map .ol
theorem abW : j9 K (fun xs H Q => ∃ p ys, xs = [.ref p] ∧ (SqL K H p ys ∨ SqT K H p ys) ∧ ∀ l, H l = none → Q (.ref l) (upd H l (.lst ys))) Bb := by
  intro F H es vs e Q s r hh q
  obtain ⟨e0, rfl, h⟩ := lg hh
  obtain ⟨x, rfl, rx⟩ := gG r
  cases hn : e0.items with
  | none => rw [hn] at h; cases h
  | some xs =>
    rw [hn] at h
    cases h
    obtain ⟨a, us, rfl, h3, h4⟩ := wY s rx hn
    exact ⟨a, us, rfl, h3, fun l hl => q _ _ _ (.lst (Grow.refl s) hl h4)⟩
def Ue (K : PySem.W.Frag) : List V → Hp → VK → Prop := fun xs H Q => ∃ x, xs = [x] ∧ aaN K x H Q
theorem Ug {X : Cx} : CallR X (.type "tuple") (Ue X.K) := by
  intro pins s σ H xs us Q I r h
  obtain ⟨x, rfl, hq⟩ := h
  obtain ⟨u, rfl, rx⟩ := vals1 r
  exact Px pins s σ H x u Q I rx hq
def g8 : List En → Option En := Uc fun e => match Cv e with
  | some xs => some (.fr (.tup xs))
  | none => (Gf e).map fun xs => .fr (.tup xs)
theorem YJ : j9 K (Ue K) g8 := by
  intro F H es vs e Q s r hh q
  obtain ⟨e0, rfl, h⟩ := lg hh
  obtain ⟨x, rfl, rx⟩ := gG r
  refine ⟨x, rfl, ?_⟩
  cases hn : Cv e0 with
  | some xs =>
    rw [hn] at h
    cases h
    obtain ⟨a, us, rfl, h3, h4⟩ := mJ rx hn
    exact .inr ⟨a, us, rfl, s.JC h3, q _ _ _ (.flat s (by simp only [Dq]; exact ⟨a, us, rfl, h3, h4⟩))⟩
  | none =>
    rw [hn] at h
    cases hl : Gf e0 with
    | none => rw [hl] at h; cases h
    | some xs =>
      rw [hl] at h
      cases h
      obtain ⟨a, us, rfl, h3, h4⟩ := uI s rx hl
      exact .inl ⟨a, us, rfl, h3, fun ob p nd hp => q _ _ _ (jg.tup s nd hp h4)⟩
/-! ### ints in a row -/
def pB : List D → Option (List Int)
  | [] => some []
  | .int i :: ds => (pB ds).map (i :: ·)
  | _ => none
theorem Gz : ∀ {ds : List D} {ns : List Int}, pB ds = some ns → ds = ns.map .int
  | [], ns, h => by cases h; rfl
  | d :: ds, ns, h => by
    cases d with
    | int i =>
      have h' : (pB ds).map (i :: ·) = some ns := h
      cases q : pB ds with
      | none => rw [q] at h'; cases h'
      | some ms =>
        rw [q] at h'
        cases h'
        rw [Gz q]
        rfl
    | _ => cases h
@[simp] theorem Qw : ∀ ns : List Int, pB (ns.map .int) = some ns
  | [] => rfl
  | n :: ns => by
    rw [List.map_cons]
    show (pB (ns.map .int)).map (n :: ·) = _
    rw [Qw ns]
    rfl
def GD : List D → Option (List Bool)
  | [] => some []
  | .bl i :: ds => (GD ds).map (i :: ·)
  | _ => none
theorem M9 {F : Hp} : ∀ {ds : List D} {ns : List Bool} {vs : List V}, GD ds = some ns → aV K F ds vs → vs = ns.map V.bl
  | [], ns, vs, h, r => by cases h; exact r.nil_iff
  | d :: ds, ns, vs, h, r => by
    obtain ⟨v, t, rfl, h1, h2⟩ := r.uncons
    cases d with
    | bl i =>
      have h' : (GD ds).map (i :: ·) = some ns := h
      cases q : GD ds with
      | none => rw [q] at h'; cases h'
      | some ms =>
        rw [q] at h'
        cases h'
        have e : v = .bl i := by simpa only [Dq] using h1
        rw [e, M9 q h2]
        rfl
    | _ => cases h
@[simp] theorem Uh : ∀ ns : List Bool, GD (ns.map .bl) = some ns
  | [] => rfl
  | n :: ns => by
    rw [List.map_cons]
    show (GD (ns.map .bl)).map (n :: ·) = _
    rw [Uh ns]
    rfl
def agd : List En → Option En := Uc fun e => match Gf e with
  | some xs => (pB xs).map fun ns => .fr (.int ns.sum)
  | none => match Cv e with
    | some xs => (pB xs).map fun ns => .fr (.int ns.sum)
    | none => none
def zV : List En → Option En := Uc fun e => match Gf e with
  | some xs => (GD xs).map fun bs => .fr (.bl (bs.all id))
  | none => none
theorem aea : j9 K (rAll K) zV := by
  intro F H es vs e Q s r hh q
  obtain ⟨e0, rfl, h⟩ := lg hh
  obtain ⟨x, rfl, rx⟩ := gG r
  cases hl : Gf e0 with
  | none => rw [hl] at h; cases h
  | some xs =>
    rw [hl] at h
    cases hn : GD xs with
    | none => simp only [hn, Option.map_none, reduceCtorEq] at h
    | some bs =>
      simp only [hn, Option.map_some, Option.some.injEq] at h
      subst h
      obtain ⟨a, us, rfl, h3, h4⟩ := uI s rx hl
      rw [M9 hn h4] at h3
      exact ⟨a, bs, rfl, h3, q _ _ _ (.flat s (lU _))⟩
def YK : En → Option String
  | .fr .non => some "NoneType"
  | .fr (.bl _) => some "bool"
  | .fr (.int _) => some "int"
  | .fr (.str _) => some "str"
  | .fr (.lst _) => some "list"
  | .fr (.tup _) => some "tuple"
  | .ol _ => some "list"
  | _ => none
theorem Ui {F H : Hp} {e : En} {x : V} {t : String} (s : Ext F H) (r : Rp K F H e x) (h : YK e = some t) : TyX K H x (.type t) := by
  cases e with
  | fr d =>
    cases d with
    | non => cases h; have r' : x = .non := by simpa only [Rp, Dq] using r
             subst r'; exact .base .non
    | bl b => cases h; have r' : x = .bl b := by simpa only [Rp, Dq] using r
              subst r'; exact .base (.bl b)
    | int b => cases h; have r' : x = .int b := by simpa only [Rp, Dq] using r
               subst r'; exact .base (.int b)
    | str b => cases h; have r' : x = .str b := by simpa only [Rp, Dq] using r
               subst r'; exact .base (.str b)
    | lst k =>
      cases h
      obtain ⟨a, vs, rfl, h1, _⟩ := pO (xs := k) s r rfl
      exact .base (.lst h1)
    | tup k =>
      cases h
      obtain ⟨a, vs, rfl, h1, _⟩ := mJ (xs := k) r rfl
      rcases s.JC h1 with (h1 | ⟨o, h1⟩) | ⟨o, its, n, h1, h2, _⟩
      · exact .base (.tup h1)
      · exact .fTuple h1
      · exact .kTuple h1 h2
    | dct _ _ => cases h
    | v7 _ _ => cases h
  | ol k =>
    cases h
    obtain ⟨a, vs, rfl, h1, _⟩ := r
    exact .base (.lst h1)
  | od _ _ => cases h
  | on _ _ => cases h
  | d8 _ => cases h
  | ex _ => cases h
  | pA _ => cases h
def zW (t T : String) : Option Bool :=
  if T = "int" then (if t = "int" ∨ t = "bool" then some true else if t = "NoneType" ∨ t = "str" ∨ t = "list" ∨ t = "tuple" then some false else none)
  else if T = "bool" ∨ T = "str" ∨ T = "list" ∨ T = "tuple" then (if t = T then some true else if t = "int" ∨ t = "bool" ∨ t = "NoneType" ∨ t = "str" ∨ t = "list" ∨ t = "tuple" then some false else none)
  else none
theorem abX : ∀ t ∈ ["NoneType", "bool", "int", "str", "list", "tuple"], ∀ T ∈ ["int", "bool", "str", "list", "tuple"], kitB t T = zW t T := by decide +kernel
theorem Uj {t T : String} {b : Bool} (h : zW t T = some b) : t ∈ ["NoneType", "bool", "int", "str", "list", "tuple"] ∧ T ∈ ["int", "bool", "str", "list", "tuple"] := by
  unfold zW at h
  simp only [List.mem_cons, List.not_mem_nil, or_false]
  split at h
  · split at h
    · rename_i h1 h2; exact ⟨by rcases h2 with h2 | h2 <;> simp [h2], .inl h1⟩
    · split at h
      · rename_i h1 h2 h3; exact ⟨by rcases h3 with h3 | h3 | h3 | h3 <;> simp [h3], .inl h1⟩
      · cases h
  · split at h
    · split at h
      · rename_i h1 h2 h3; subst h3; exact ⟨by rcases h2 with h2 | h2 | h2 | h2 <;> simp [h2], .inr h2⟩
      · split at h
        · rename_i h1 h2 h3 h4; exact ⟨by rcases h4 with h4 | h4 | h4 | h4 | h4 | h4 <;> simp [h4], .inr h2⟩
        · cases h
    · cases h
theorem aaY {t T : String} {b : Bool} (h : zW t T = some b) : PySem.W.kitOne K (.type t) (.type T) = some b := by
  obtain ⟨h1, h2⟩ := Uj h
  exact kit_ty (by rw [abX t h1 T h2, h])
def isAny (t : String) : List String → Option Bool
  | [] => some false
  | T :: Ts => match zW t T, isAny t Ts with
    | some a, some b => some (a || b)
    | _, _ => none
theorem Uk {t : String} : ∀ {Ts : List String} {b : Bool}, isAny t Ts = some b → PySem.W.kitAny K (.type t) (Ts.map Value.type) = some b
  | [], b, h => by cases h; exact kitAny_nil
  | T :: Ts, b, h => by
    unfold isAny at h
    cases h1 : zW t T with
    | none => rw [h1] at h; cases h
    | some a =>
      cases h2 : isAny t Ts with
      | none => rw [h1, h2] at h; cases h
      | some c =>
        rw [h1, h2] at h
        cases h
        refine kitAny_cons (aaY h1) (fun ha => ?_) fun ha => ?_
        · subst ha; rw [Bool.false_or]; exact Uk h2
        · subst ha; rfl
end
def fj (T : String) (f : aq → R Val) (ρ : aq) : R Val := (f ρ).bind fun a ρ1 => match (look ρ1 a).bind YK with
  | some t => v8 ((zW t T).map fun b => .en (.fr (.bl b))) ρ1
  | none => .bad
def pQ (Ts : List String) (f : aq → R Val) (ρ : aq) : R Val := (f ρ).bind fun a ρ1 => match (look ρ1 a).bind YK with
  | some t => v8 ((isAny t Ts).map fun b => .en (.fr (.bl b))) ρ1
  | none => .bad
def YL : List String → TA
  | [] => tNil
  | T :: Ts => tCons (tC (.ty T)) (YL Ts)
section
variable {C : Cs} {Z : ZX}
theorem ji {α β : Type} {o : Option α} {f : α → Option β} {b : β} (h : o.bind f = some b) : ∃ a, o = some a ∧ f a = some b := by
  cases o with
  | none => cases h
  | some a => exact ⟨a, rfl, h⟩
theorem YM {T : String} {te : TE} {f : aq → R Val} (h : Impl C Z te f) : Impl C Z (tCB (rIsi C.K) (tCons te (tCons (tC (.ty T)) tNil))) (fj T f) := by
  intro o F H σ ρ TT Q S q
  unfold fj at q
  rw [aH] at q
  refine h o F H σ ρ TT _ S (aG q (fun a ρ1 h1 F1 H1 x S1 => ?_) fun _ _ h => h)
  cases z : (look ρ1 a).bind YK with
  | none => rw [z] at h1; exact h1.elim
  | some t =>
    rw [z] at h1
    obtain ⟨val, hv, q⟩ := fQ h1
    cases hb : zW t T with
    | none => rw [hb] at hv; cases hv
    | some b =>
      rw [hb] at hv
      cases hv
      obtain ⟨e, he, ht⟩ := ji z
      exact ⟨x, .ty T, .type t, .type T, b, rfl, .ty T, Ui S1.sub (S1.look (j := 0) rfl he) ht, aaY hb, q _ _ _ (S1.drop.cV (lU b))⟩
theorem Nb : ∀ {Ts : List String} {σ : L2.St} {H : Hp} {Q : List V → Hp → Prop}, Q (Ts.map V.ty) H → YL Ts σ H Q
  | [], _, _, _, h => h
  | T :: Ts, σ, H, Q, h => Nb (Ts := Ts) (Q := fun xs H2 => Q (V.ty T :: xs) H2) h
theorem aaZ : ∀ Ts : List String, Paired ClsV (Ts.map V.ty) (Ts.map Value.type)
  | [] => .nil
  | T :: Ts => .cons (.ty T) (aaZ Ts)
theorem Ul {Ts : List String} {te : TE} {f : aq → R Val} (h : Impl C Z te f) (hz : Ts.length ≤ sizeLine) : Impl C Z (tCB (rIsiT C.K) (tCons te (tCons (tTup (YL Ts)) tNil))) (pQ Ts f) := by
  intro o F H σ ρ TT Q S q
  unfold pQ at q
  rw [aH] at q
  refine h o F H σ ρ TT _ S (aG q (fun a ρ1 h1 F1 H1 x S1 => ?_) fun _ _ h => h)
  cases z : (look ρ1 a).bind YK with
  | none => rw [z] at h1; exact h1.elim
  | some t =>
    rw [z] at h1
    obtain ⟨val, hv, q⟩ := fQ h1
    cases hb : isAny t Ts with
    | none => rw [hb] at hv; cases hv
    | some b =>
      rw [hb] at hv
      cases hv
      obtain ⟨e, he, ht⟩ := ji z
      refine Nb ⟨by rw [List.length_map]; exact hz, fun p hp => ?_⟩
      have S2 := S1.grow (Grow.junk (o := .tup (Ts.map V.ty)) S1.sub hp)
      exact ⟨x, p, Ts.map V.ty, .type t, Ts.map Value.type, b, rfl, upd_same, aaZ Ts, Ui S2.sub (S2.look (j := 0) rfl he) ht, Uk hb, q _ _ _ (S2.drop.cV (lU b))⟩
/-! ### repr -/
def aa0 (K : PySem.W.Frag) : List V → Hp → VK → Prop := fun xs H Q => ∃ (a : Addr) (d : PyData), xs = [.ref a] ∧ Dp K H (.ref a) d ∧ d.showable = true ∧ d.hasDict = false ∧ d.depth ≤ 100 ∧ d.shown.length ≤ sizeLine ∧ Q (.str d.shown) H
theorem YQ {X : Cx} (hg : X.A.guards = some []) (hu : X.A.units + 150 < cLine) : CallR X (.builtin "repr") (aa0 X.K) := by
  intro pins s σ H xs us Q I r h
  obtain ⟨a, d, rfl, hd, hs, hn, hz, hl, q⟩ := h
  obtain ⟨u, rfl, rx⟩ := vals1 r
  cases rx
  obtain ⟨as, hr⟩ := Dp.reads I d _ _ hd rfl
  exact repr_of_reads' hr hs (fun z => by rw [hn] at z; cases z) hg (by omega) (fun _ _ e => e) (fun h' u tk hk => ⟨.str _, H, I.kept hk, ⟨_, rfl⟩, q⟩) hl
def Qx : D → Bool
  | .lst _ => true
  | .tup _ => true
  | _ => false
def mZ : List En → Option En := Uc fun e => match asD e with
  | some d => if Qx d = true ∧ (toP d).showable = true ∧ (toP d).hasDict = false ∧ (toP d).depth ≤ 100 ∧ (toP d).shown.length ≤ sizeLine ∧ (toP d).canLay0 = true then some (.fr (.str (toP d).shown)) else if MN (toP d) = true then some (.fr (.str (toP d).shown)) else none
  | none => none
theorem aeb {K : PySem.W.Frag} {F H : Hp} {e : En} {x : V} {d : D} (rx : Rp K F H e x) (he : asD e = some d) (h : MN (toP d) = true) : adY x = some (toP d) := by
  cases e with
  | fr d' =>
    cases he
    have rx : Dq K F d x := rx
    cases d with
    | non => rw [show x = V.non by simpa only [Dq] using rx]; rfl
    | bl b => rw [show x = V.bl b by simpa only [Dq] using rx]; rfl
    | int i => rw [show x = V.int i by simpa only [Dq] using rx]; rfl
    | str t => rw [show x = V.str t by simpa only [Dq] using rx]; rfl
    | lst xs => cases h
    | tup xs => cases h
    | dct a b => cases h
    | v7 a b => cases h
  | ol xs => cases he; cases h
  | od a b => cases he
  | on a b => cases he
  | d8 xs => cases he; cases h
  | ex _ => cases he
  | pA _ => cases he
theorem Um {K : PySem.W.Frag} {F : Hp} {d : D} {v : V} (h : Qx d = true) (r : Dq K F d v) : ∃ a, v = .ref a := by
  cases d with
  | lst k => simp only [Dq] at r; obtain ⟨a, _, e, _⟩ := r; exact ⟨a, e⟩
  | tup k => simp only [Dq] at r; obtain ⟨a, _, e, _⟩ := r; exact ⟨a, e⟩
  | _ => cases h
theorem YS {K : PySem.W.Frag} {F H : Hp} {e : En} {x : V} {d : D} (r : Rp K F H e x) (h : asD e = some d) (hd : Qx d = true) : ∃ a, x = .ref a := by
  cases e with
  | fr d' => cases h; exact Um hd r
  | ol xs => obtain ⟨a, _, e, _⟩ := r; exact ⟨a, e⟩
  | od _ _ => obtain ⟨a, _, _, e, _⟩ := r; exact ⟨a, e⟩
  | on _ _ => obtain ⟨a, _, _, e, _⟩ := r; exact ⟨a, e⟩
  | d8 _ => obtain ⟨a, _, e, _⟩ := r; exact ⟨a, e⟩
  | ex _ => cases h
  | pA _ => cases h
theorem abY {K : PySem.W.Frag} : j9 K (fun vs H Q => aa0 K vs H Q ∨ Gm vs H Q) mZ := by
  intro F H es vs e Q s r hh q
  obtain ⟨e0, rfl, h⟩ := lg hh
  obtain ⟨x, rfl, rx⟩ := gG r
  cases hn : asD e0 with
  | none => rw [hn] at h; cases h
  | some d =>
    rw [hn] at h
    simp only at h
    by_cases c : Qx d = true ∧ (toP d).showable = true ∧ (toP d).hasDict = false ∧ (toP d).depth ≤ 100 ∧ (toP d).shown.length ≤ sizeLine ∧ (toP d).canLay0 = true
    · rw [if_pos c] at h
      cases h
      obtain ⟨c1, c2, c3, c4, c5, c6⟩ := c
      obtain ⟨a, rfl⟩ := YS rx hn c1
      exact .inl ⟨a, toP d, rfl, uK s rx hn c6, c2, c3, c4, c5, q _ _ _ (.flat s (wU _))⟩
    · rw [if_neg c] at h
      by_cases c2 : MN (toP d) = true
      · rw [if_pos c2] at h
        cases h
        exact .inr ⟨x, toP d, rfl, aeb rx hn c2, c2, q _ _ _ (.flat s (wU _))⟩
      · rw [if_neg c2] at h; cases h
/-! ### list(range(..)) -/
def Bc (i j : Int) : Bool := mK i && mK j && decide ((j - i).toNat ≤ 2 ^ 24)
theorem Uo {i j : Int} (h : Bc i j = true) : RgOk i j := by
  unfold Bc at h
  rw [Bool.and_eq_true, Bool.and_eq_true] at h
  obtain ⟨⟨h1, h2⟩, h3⟩ := h
  obtain ⟨a, b⟩ := wg h1
  obtain ⟨c, d⟩ := wg h2
  exact ⟨a, b, c, d, of_decide_eq_true h3⟩
def lW (f : aq → R Val) (ρ : aq) : R Val := (f ρ).bind fun a ρ1 => match (look ρ1 a).bind gq with
  | some j => if Bc 0 j = true then .ok (.en (.ol (bV 0 j.toNat))) ρ1 else .bad
  | none => .bad
theorem abZ {K : PySem.W.Frag} {F : Hp} {j : Int} : aV K F (bV 0 j.toNat) (rgV 0 j) := by
  have e : bV 0 j.toNat = ((List.range j.toNat).map fun (i : Nat) => (0 + (i : Int))).map D.int := by unfold bV; rw [List.map_map]; rfl
  have e2 : rgV 0 j = ((List.range j.toNat).map fun (i : Nat) => (0 + (i : Int))).map V.int := by unfold rgV; rw [List.map_map, Int.sub_zero]; rfl
  rw [e, e2]
  exact aV.of_ints
theorem Qy {te : TE} {f : aq → R Val} (h : Impl C Z te f) : Impl C Z (tLstRg (tRg1 te)) (lW f) := by
  intro o F H σ ρ T Q S q
  unfold lW at q
  rw [aH] at q
  refine h o F H σ ρ T _ S (aG q (fun a ρ1 h1 F1 H1 x S1 => ?_) fun _ _ h => h)
  cases z : (look ρ1 a).bind gq with
  | none => rw [z] at h1; exact h1.elim
  | some j =>
    rw [z] at h1
    simp only at h1
    by_cases k : Bc 0 j = true
    · rw [if_pos k] at h1
      exact ⟨j, wj S1 z, Uo k, fun p hp => h1 _ _ _ (S1.drop.alloc (.lst (Grow.refl S1.sub) hp abZ))⟩
    · rw [if_neg k] at h1; exact h1.elim
def Uq (ρ : aq) : R (Option Int) := .ok none ρ
def CJ (f : aq → R Val) (ρ : aq) : R (Option Int) := (f ρ).bind fun a ρ1 => match (look ρ1 a).bind gq with
  | some i => .ok (some i) ρ1
  | none => .bad
theorem Ur : Gj C Z tNoPart Uq := fun o F H σ ρ T Q S q => q F H S
theorem Kd {te : TE} {f : aq → R Val} (h : Impl C Z te f) : Gj C Z (tPart te) (CJ f) := by
  intro o F H σ ρ T Q S q
  unfold CJ at q
  rw [aH] at q
  refine h o F H σ ρ T _ S (aG q (fun a ρ1 h1 F1 H1 x S1 => ?_) fun _ _ h => h)
  cases z : (look ρ1 a).bind gq with
  | none => rw [z] at h1; exact h1.elim
  | some i => rw [z] at h1; exact ⟨i, wj S1 z, h1 F1 H1 S1.drop⟩
def cutD {α : Type} (xs : List α) (lo hi : Option Int) : List α := (xs.drop (HT.sIx xs.length 0 lo)).take (HT.sIx xs.length xs.length hi - HT.sIx xs.length 0 lo)
theorem Us {K : PySem.W.Frag} {F : Hp} {ds : List D} {vs : List V} (h : aV K F ds vs) (lo hi : Option Int) : aV K F (cutD ds lo hi) (cutV vs lo hi) := by
  unfold cutD cutV
  rw [h.length]
  exact (h.drop _).take _
def gSl (e : En) (lo hi : Option Int) : Option En := match Cv e with
  | some xs => some (.fr (.tup (cutD xs lo hi)))
  | none => (Gf e).map fun xs => .ol (cutD xs lo hi)
def rSlB (K : PySem.W.Frag) : V → Option Int → Option Int → Hp → VK → Prop := fun x lo hi H Q => rSlL K x lo hi H Q ∨ adU K x lo hi H Q
theorem agf {X : Cx} : SlR X (rSlB X.K) := sl_list.or Ys
def Ut (f : aq → R Val) (fl fh : aq → R (Option Int)) (ρ : aq) : R Val := (f ρ).bind fun a ρ1 => (fl ρ1).bind fun lo ρ2 => (fh ρ2).bind fun hi ρ3 => match look ρ3 a with
  | some e => v8 ((gSl e lo hi).map .en) ρ3
  | none => .bad
theorem YT {te : TE} {tl th : TO} {f : aq → R Val} {fl fh : aq → R (Option Int)} (h : Impl C Z te f) (hl : Gj C Z tl fl) (hh : Gj C Z th fh) : Impl C Z (tSl (rSlB C.K) te tl th) (Ut f fl fh) := by
  intro o F H σ ρ T Q S q
  unfold Ut at q
  rw [aH] at q
  refine h o F H σ ρ T _ S (aG q (fun a ρ1 h1 F1 H1 x S1 => ?_) fun _ _ h => h)
  rw [aH] at h1
  refine hl o F1 H1 σ ρ1 _ _ S1 (aG h1 (fun lo ρ2 h2 F2 H2 S2 => ?_) fun _ _ h F' H' s => h F' H' s.drop)
  rw [aH] at h2
  refine hh o F2 H2 σ ρ2 _ _ S2 (aG h2 (fun hi ρ3 h3 F3 H3 S3 => ?_) fun _ _ h F' H' s => h F' H' s.drop)
  cases z : look ρ3 a with
  | none => rw [z] at h3; exact h3.elim
  | some e =>
    rw [z] at h3
    obtain ⟨val, hv, q⟩ := fQ h3
    have r : Rp C.K F3 H3 e x := S3.look (j := 0) rfl z
    unfold gSl at hv
    cases ht : Cv e with
    | some xs =>
      rw [ht] at hv
      cases hv
      obtain ⟨a', us, rfl, k3, k4⟩ := mJ r ht
      have kl := k4.length
      refine .inr ⟨a', us, rfl, S3.sub.JC k3, fun hw => ?_, fun hw ob p nd hp => ?_⟩
      · have e1 : cutD xs lo hi = xs := by
          unfold cutD
          rw [kl, hw.1, hw.2, List.drop_zero, Nat.sub_zero, ← kl, List.take_length]
        rw [e1] at q
        exact q _ _ _ (S3.drop.cV (by simp only [Dq]; exact ⟨a', us, rfl, k3, k4⟩))
      · exact q _ _ _ (S3.drop.alloc (jg.tup S3.sub nd hp (Us k4 lo hi)))
    | none =>
      rw [ht] at hv
      cases hr : Gf e with
      | none => rw [hr] at hv; cases hv
      | some xs =>
        rw [hr] at hv
        cases hv
        obtain ⟨a', us, rfl, k3, k4⟩ := uI S3.sub r hr
        exact .inl ⟨a', us, rfl, k3, fun p hp => q _ _ _ (S3.drop.alloc (.lst (Grow.refl S3.sub) hp (Us k4 lo hi)))⟩
def MtS (K : PySem.W.Frag) (r : V → List V → Hp → VK → Prop) (g : List D → List En → Option (List D × D)) : Prop := ∀ (F H : Hp) (a : Addr) (vs : List V) (xs : List D) (es : List En) (us : List V) (p : List D × D) (Q : VK),
  Ext F H → H a = some (.lst vs) → aV K F xs vs → Paired (Rp K F H) es us → g xs es = some p → (∀ vs' v, aV K F p.1 vs' → Dq K F p.2 v → Q v (upd H a (.lst vs'))) → r (.ref a) us H Q
def dZ : List D → List En → Option (List D × D) := fun xs es => match es with
  | [.fr d] => if xs.length < sizeLine then some (xs ++ [d], .non) else none
  | _ => none
theorem Uu {K : PySem.W.Frag} : MtS K rAppend dZ := by
  intro F H a vs xs es us p Q s ha hd hp hg q
  match es, hg with
  | [.fr d], hg =>
    obtain ⟨y, rfl, ry⟩ := gG hp
    replace hg : (if xs.length < sizeLine then some (xs ++ [d], D.non) else none) = some p := hg
    by_cases hz : xs.length < sizeLine
    · rw [if_pos hz] at hg
      cases hg
      exact ⟨a, vs, y, rfl, rfl, ha, by rw [← hd.length]; exact hz, q _ _ (hd.append (.cons ry .nil)) JV⟩
    · rw [if_neg hz] at hg; cases hg
def oK : List D → List En → Option (List D × D) := fun xs es => match es with
  | [e] => match gq e with
    | some i => if mK i = true then (match ixN xs.length i with
      | some j => (xs[j]?).map fun d => (xs.eraseIdx j, d)
      | none => none) else none
    | none => none
  | _ => none
theorem YW {K : PySem.W.Frag} : MtS K rPopAt oK := by
  intro F H a vs xs es us p Q s ha hd hp hg q
  match es, hg with
  | [e], hg =>
    obtain ⟨y, rfl, ry⟩ := gG hp
    replace hg : (match gq e with
      | some i => if mK i = true then (match ixN xs.length i with
        | some j => (xs[j]?).map fun d => (xs.eraseIdx j, d)
        | none => none) else none
      | none => none) = some p := hg
    cases hi : gq e with
    | none => rw [hi] at hg; cases hg
    | some i =>
      rw [hi] at hg
      simp only at hg
      by_cases hz : mK i = true
      · rw [if_pos hz] at hg
        cases hj : ixN xs.length i with
        | none => rw [hj] at hg; cases hg
        | some j =>
          rw [hj] at hg
          simp only at hg
          cases hx : xs[j]? with
          | none => rw [hx] at hg; cases hg
          | some d =>
            rw [hx] at hg
            cases hg
            obtain ⟨v, k1, k2⟩ := hd.get hx
            obtain ⟨r1, r2⟩ := wg hz
            obtain ⟨k3, _⟩ := ixN_seq hj
            exact ⟨a, vs, i, j, v, rfl, by rw [dN ry hi], ha, by omega, by omega, by rw [← hd.length]; exact k3, k1, q _ _ (hd.eraseIdx j) k2⟩
      · rw [if_neg hz] at hg; cases hg
def dI (x : Nat) (g : List D → List En → Option (List D × D)) (fs : aq → R (List Val)) (ρ : aq) : R Val := match iK ρ x with
  | none => .bad
  | some _ => (fs ρ).bind fun as ρ1 => match looks ρ1 as, iK ρ1 x with
    | some es, some xs => match g xs es with
      | some (ys, d) => .ok (.en (.fr d)) (ρ1.set x (some (.ol ys)))
      | none => .bad
    | _, _ => .bad
theorem Uv {x : Nat} {r : V → List V → Hp → VK → Prop} {g : List D → List En → Option (List D × D)} {ta : TA} {fs : aq → R (List Val)} (hr : MtS C.K r g) (ha : jP C Z ta fs) : Impl C Z (tBM C.K "list" r (tVar x) ta) (dI x g fs) := by
  intro o F H σ ρ T Q S q
  unfold dI at q
  cases hx : iK ρ x with
  | none => rw [hx] at q; exact q.elim
  | some xs0 =>
    rw [hx] at q
    simp only at q
    obtain ⟨a, vs0, hw, g2, g3⟩ := S.M8 (su hx)
    refine ⟨.ref a, hw, .inl ⟨rfl, vs0, .inl (.inl g2)⟩, ?_⟩
    rw [aH] at q
    refine ha o F H σ ρ T _ S (aG q (fun as ρ1 k F1 H1 us hl S1 => ?_) fun _ _ h => h)
    cases h1 : looks ρ1 as with
    | none => rw [h1] at k; exact k.elim
    | some es =>
      cases h2 : iK ρ1 x with
      | none => rw [h1, h2] at k; exact k.elim
      | some xs =>
        rw [h1, h2] at k
        simp only at k
        cases h3 : g xs es with
        | none => rw [h3] at k; exact k.elim
        | some p =>
          obtain ⟨ys, d⟩ := p
          rw [h3] at k
          simp only at k
          have rs := su h2
          obtain ⟨a', vs, k1, k2, k3⟩ := S1.M8 rs
          rw [hw] at k1
          cases k1
          refine hr F1 H1 a vs xs es us (ys, d) Q S1.sub k2 k3 (pN S1 hl mY h1) h3 fun vs' v r1 r2 => k F1 _ v ?_
          have S2 : SM C o F1 H1 σ ρ1 ((.en (.fr d), v) :: T) := SM.under (stack as us) (S1.cV r2)
          exact S2.abT rs hw rfl ⟨a, vs', rfl, upd_same, r1⟩ fun b w => by cases w; rfl
def RdS (K : PySem.W.Frag) (r : V → List V → Hp → VK → Prop) (g : List D → List En → Option D) : Prop := ∀ (F H : Hp) (a : Addr) (vs : List V) (xs : List D) (es : List En) (us : List V) (d : D) (Q : VK),
  Ext F H → SqL K H a vs → aV K F xs vs → Paired (Rp K F H) es us → g xs es = some d → (∀ v, Dq K F d v → Q v H) → r (.ref a) us H Q
def Ke (g : List D → List En → Option D) (f : aq → R Val) (fs : aq → R (List Val)) (ρ : aq) : R Val := (f ρ).bind fun a ρ1 => match (look ρ1 a).bind Gf with
  | none => .bad
  | some _ => (fs ρ1).bind fun as ρ2 => match looks ρ2 as, (look ρ2 a).bind Gf with
    | some es, some xs => v8 ((g xs es).map fun d => .en (.fr d)) ρ2
    | _, _ => .bad
theorem Uw {r : V → List V → Hp → VK → Prop} {g : List D → List En → Option D} {te : TE} {f : aq → R Val} {ta : TA} {fs : aq → R (List Val)} (hr : RdS C.K r g) (h : Impl C Z te f) (ha : jP C Z ta fs) : Impl C Z (tBM C.K "list" r te ta) (Ke g f fs) := by
  intro o F H σ ρ T Q S q
  unfold Ke at q
  rw [aH] at q
  refine h o F H σ ρ T _ S (aG q (fun a ρ1 h1 F1 H1 x S1 => ?_) fun _ _ h => h)
  cases z : (look ρ1 a).bind Gf with
  | none => rw [z] at h1; exact h1.elim
  | some xs0 =>
    rw [z] at h1
    simp only at h1
    obtain ⟨e0, he0, hr0⟩ := ji z
    obtain ⟨p, us0, rfl, k1, k2⟩ := uI S1.sub (S1.look (j := 0) rfl he0) hr0
    refine ⟨.inl ⟨rfl, us0, k1⟩, ?_⟩
    rw [aH] at h1
    refine ha o F1 H1 σ ρ1 _ _ S1 (aG h1 (fun as ρ2 k F2 H2 us hl S2 => ?_) fun _ _ h F' H' s => h F' H' s.drop)
    cases h2 : looks ρ2 as with
    | none => rw [h2] at k; exact k.elim
    | some es =>
      cases h3 : (look ρ2 a).bind Gf with
      | none => rw [h2, h3] at k; exact k.elim
      | some xs =>
        rw [h2, h3] at k
        simp only at k
        obtain ⟨val, hv, q⟩ := fQ k
        cases hg : g xs es with
        | none => rw [hg] at hv; cases hv
        | some d =>
          rw [hg] at hv
          cases hv
          obtain ⟨e1, he1, hr1⟩ := ji h3
          have hm : (a, V.ref p) ∈ stack as us ++ (a, V.ref p) :: T := List.mem_append_right _ List.mem_cons_self
          obtain ⟨p', us1, ep, k3, k4⟩ := uI S2.sub (S2.Gi hm he1) hr1
          cases ep
          refine hr F2 H2 p us1 xs es us d Q S2.sub k3 k4 (pN S2 hl mY h2) hg fun v rv => q F2 H2 v ?_
          have S3 : SM C o F2 H2 σ ρ2 ((.en (.fr d), v) :: (a, V.ref p) :: T) := SM.under (stack as us) (S2.cV rv)
          exact SM.under [(a, V.ref p)] S3
end
end DM
end
section
namespace DM
open PySem L2
/-! ### behind a call -/
def entry (F H : Hp) (es : List En) (vs : List V) (L : List Nat) : Og := ⟨F, H, fun a => ∃ (i : Nat) (e : En) (v : V), es[i]? = some e ∧ vs[i]? = some v ∧ Ow H e v a, fun k => if k ∈ L then vs[k]? else none⟩
section
variable {C C' : Cs} {o : Og} {F H F' H' : Hp} {σ σ' : L2.St} {ρ ρ' ρ2 : aq} {TT A T : Tm} {es : List En} {vs : List V} {L : List Nat} {e : En} {v : V} {wh : Nat → Wh}
open Classical in
noncomputable def xK (wh : Nat → Wh) (n k : Nat) : Wh ⊕ Wh := if h : ∃ j, j < n ∧ wh j = .s k then .inl (.s h.choose) else .inr (.s k)
noncomputable def nj (wh : Nat → Wh) (n a : Nat) : Wh → Wh ⊕ Wh
  | .t 0 => .inl (.t 0)
  | .t (j + 1) => .inr (.t (a + j))
  | .s k => xK wh n k
theorem Bf {n k : Nat} (h : ∃ j, j < n ∧ wh j = .s k) : ∃ j, j < n ∧ wh j = .s k ∧ xK wh n k = .inl (.s j) :=
  ⟨h.choose, h.choose_spec.1, h.choose_spec.2, dif_pos h⟩
theorem GJ {n k : Nat} (h : ¬ ∃ j, j < n ∧ wh j = .s k) : xK wh n k = .inr (.s k) := dif_neg h
theorem sG (wh : Nat → Wh) (n k : Nat) : (∃ j, j < n ∧ wh j = .s k ∧ xK wh n k = .inl (.s j)) ∨ xK wh n k = .inr (.s k) := by
  by_cases h : ∃ j, j < n ∧ wh j = .s k
  · exact .inl (Bf h)
  · exact .inr (GJ h)
theorem Bg {n a : Nat} {p q : Wh} (h : nj wh n a p = nj wh n a q) : p = q := by
  rcases p with k | i <;> rcases q with l | j
  · have h' : xK wh n k = xK wh n l := h
    rcases sG wh n k with ⟨i, _, i2, i3⟩ | i3 <;> rcases sG wh n l with ⟨j, _, j2, j3⟩ | j3 <;> rw [i3, j3] at h'
    · simp only [Sum.inl.injEq, Wh.s.injEq] at h'
      rw [← i2, ← j2, h']
    · simp at h'
    · simp at h'
    · simpa using h'
  · exfalso
    rcases sG wh n k with ⟨i, _, i2, i3⟩ | i3
    · have h' : Sum.inl (.s i) = nj wh n a (.t j) := i3.symm.trans h
      cases j <;> simp [nj] at h'
    · have h' : Sum.inr (.s k) = nj wh n a (.t j) := i3.symm.trans h
      cases j <;> simp [nj] at h'
  · exfalso
    rcases sG wh n l with ⟨k, _, i2, i3⟩ | i3
    · have h' : nj wh n a (.t i) = Sum.inl (.s k) := h.trans i3
      cases i <;> simp [nj] at h'
    · have h' : nj wh n a (.t i) = Sum.inr (.s l) := h.trans i3
      cases i <;> simp [nj] at h'
  · cases i <;> cases j <;> simp [nj] at h ⊢
    omega
theorem Rp.away {K : PySem.W.Frag} {e : En} {v : V} (f : Ext F F') (h : ∀ a u, Ow H e v a → H a = some u → H' a = some u) (r : Rp K F H e v) : Rp K F' H' e v := by
  cases e with
  | fr d => exact Dq.mono f d v r
  | ol ds => obtain ⟨a, us, h1, h2, h3⟩ := r; exact ⟨a, us, h1, h a _ h1 h2, aV.mono f _ _ h3⟩
  | od ks ds => obtain ⟨a, us, vs, h1, h2, h4, h3⟩ := r; exact ⟨a, us, vs, h1, h2.mono fun u q => h a u h1 q, aV.mono f _ _ h4, aV.mono f _ _ h3⟩
  | on ks ds => obtain ⟨a, us, vs, h1, h2, h4, h3⟩ := r; exact ⟨a, us, vs, h1, h2.mono fun u q => h a u h1 q, aV.mono f _ _ h4, aV.mono f _ _ h3⟩
  | d8 ds => obtain ⟨a, us, h1, h2, h3⟩ := r; exact ⟨a, us, h1, f.JL h2, aV.mono f _ _ h3⟩
  | ex x => obtain ⟨a, dd, u, d, h1, h2, h3, h4, h5⟩ := r; exact ⟨a, dd, u, d, h1, f _ _ h2, f _ _ h3, h4, Dq.mono f _ _ h5⟩
  | pA its =>
    obtain ⟨p, vs, h1, h2, h3, h4, h5, h6⟩ := r
    refine ⟨p, vs, h1, h p _ ⟨p, _, h1, h2, .inl rfl⟩ h2, h3, fun i x y e1 e2 => (h4 i x y e1 e2).mono f ?_, h5, h6⟩
    rintro b z ⟨⟨xs, rfl⟩, rfl⟩ hz
    exact h b _ ⟨p, _, h1, h2, .inr ⟨i, xs, e1, e2⟩⟩ hz
theorem SM.call (S : SM C o F H σ ρ (A ++ T)) (hat : ∀ (j : Nat) (e : En) (v : V), es[j]? = some e → vs[j]? = some v → At σ ρ (A ++ T) (wh j) e v) (hn : es.length = vs.length) (inj : ∀ i j, i < es.length → j < es.length → wh i = wh j → i = j)
    (low : ∀ (j q : Nat), j < es.length → wh j = .t q → q < A.length) (hK : C'.K = C.K) (N : SM C' (entry F H es vs L) F' H' σ' ρ' [(.en e, v)]) (hlen : ρ2.length = ρ.length)
    (hs : ∀ (k : Nat) (u : En), ρ2[k]? = some (some u) → (∃ (j : Nat), j < es.length ∧ wh j = .s k ∧ j ∈ L ∧ ρ'[j]? = some (some u)) ∨ ((∀ j, j < es.length → wh j ≠ .s k) ∧ ρ[k]? = some (some u)))
    (hb : ∀ (j i : Nat) (v : V), T[j]? = some (.bor i, v) → ∃ u, ρ2[i]? = some (some u)) : SM C o F' H' σ ρ2 ((.en e, v) :: T) := by
  have atS : ∀ {k : Nat} {u : En}, ρ[k]? = some (some u) → ∃ x, σ[k]? = some (some x) := fun h => S.has _ _ h
  have key : ∀ (p : Wh) (u : En) (x : V), At σ ρ2 ((.en e, v) :: T) p u x → (∃ q, At σ' ρ' [(.en e, v)] q u x ∧ nj wh es.length A.length p = .inl q) ∨
      (∃ q, At σ ρ (A ++ T) q u x ∧ (∀ j, j < es.length → wh j ≠ q) ∧ nj wh es.length A.length p = .inr q) := fun p u x a => by
    cases p with
    | t j =>
      cases j with
      | zero => exact .inl ⟨.t 0, a, rfl⟩
      | succ j =>
        refine .inr ⟨.t (A.length + j), ?_, fun i hi z => ?_, rfl⟩
        · show (A ++ T)[A.length + j]? = _
          rw [List.getElem?_append_right (by omega), Nat.add_sub_cancel_left]
          exact a
        · have := low i _ hi z
          omega
    | s k =>
      obtain ⟨a1, a2⟩ := a
      by_cases h : ∃ j, j < es.length ∧ wh j = .s k
      · left
        obtain ⟨jj, hj1, hj2, hj3⟩ := Bf h
        refine ⟨.s jj, ?_, hj3⟩
        rcases hs k u a1 with ⟨j, j1, j2, j3, j4⟩ | ⟨j1, _⟩
        · have ej : jj = j := inj _ _ hj1 j1 (hj2.trans j2.symm)
          rw [ej]
          obtain ⟨w, hw⟩ : ∃ w, vs[j]? = some w := ⟨vs[j]'(by omega), List.getElem?_eq_getElem (by omega)⟩
          obtain ⟨f, hf⟩ : ∃ f, es[j]? = some f := ⟨es[j]'(by omega), List.getElem?_eq_getElem (by omega)⟩
          have t := hat j f w hf hw
          rw [j2] at t
          have ew : w = x := by
            have z := t.2
            rw [a2] at z
            cases z; rfl
          have l := N.lk j w (by show (if j ∈ L then vs[j]? else none) = some w; rw [if_pos j3]; exact hw)
          rw [ew] at l
          exact ⟨j4, l⟩
        · exact absurd hj2 (j1 _ hj1)
      · right
        refine ⟨.s k, ?_, fun j hj z => h ⟨j, hj, z⟩, GJ h⟩
        rcases hs k u a1 with ⟨j, j1, j2, _⟩ | ⟨_, j2⟩
        · exact absurd ⟨j, j1, j2⟩ h
        · exact ⟨j2, a2⟩
  have aec : ∀ {a : Addr}, (entry F H es vs L).O a → ∃ (j : Nat) (f : En) (w : V), j < es.length ∧ At σ ρ (A ++ T) (wh j) f w ∧ Ow H f w a := fun ⟨j, f, w, h1, h2, h3⟩ => ⟨j, f, w, (List.getElem?_eq_some_iff.mp h1).1, hat j f w h1 h2, h3⟩
  have Ux : ∀ {q : Wh} {u : En} {x : V} {a : Addr}, At σ ρ (A ++ T) q u x → (∀ j, j < es.length → wh j ≠ q) → Ow H u x a → ¬ (entry F H es vs L).O a := fun {q u x a} h1 h2 w z => by
    obtain ⟨j, f, y, j1, j2, j3⟩ := aec z
    exact S.sep (wh j) q f u y x a (h2 j j1) j2 h1 j3 w
  have st : ∀ {q : Wh} {u : En} {x : V}, At σ ρ (A ++ T) q u x → (∀ j, j < es.length → wh j ≠ q) → ∀ a, Ow H' u x a ↔ Ow H u x a := fun {q u x} h1 h2 a => Ow.stay (S.rep q u x h1) fun b y w hy => N.keep b y (Ux h1 h2 w) hy
  have hbase : ∀ {a : Addr}, (entry F H es vs L).O a ∨ H a = none → o.O a ∨ o.H a = none := fun {a} h => by
    rcases h with h | h
    · obtain ⟨j, f, y, _, j2, j3⟩ := aec h
      exact (S.own _ _ _ _ j2 j3).2
    · by_cases z : o.O a
      · exact .inl z
      · right
        cases q : o.H a with
        | none => rfl
        | some u => rw [S.keep a u z q] at h; cases h
  refine ⟨N.sub, by rw [hlen]; exact S.len, fun i u h => ?_, fun p u x a => ?_, fun j i x h => ?_, fun p q u u' x x' a ne h1 h2 w1 w2 => ?_, fun p u x a h w => ?_, S.ext.trans N.ext, fun b u h1 h2 => ?_, fun b h1 h2 => ?_, S.lk, S.uG⟩
  · rcases hs i u h with ⟨j, j1, j2, _⟩ | ⟨_, h'⟩
    · obtain ⟨w, hw⟩ : ∃ w, vs[j]? = some w := ⟨vs[j]'(by omega), List.getElem?_eq_getElem (by omega)⟩
      obtain ⟨f, hf⟩ : ∃ f, es[j]? = some f := ⟨es[j]'(by omega), List.getElem?_eq_getElem (by omega)⟩
      have t := hat j f w hf hw
      rw [j2] at t
      exact ⟨w, t.2⟩
    · exact S.has i u h'
  · rcases key p u x a with ⟨q, h, _⟩ | ⟨q, h, nq, _⟩
    · rw [← hK]; exact N.rep q u x h
    · refine (S.rep q u x h).away N.ext fun b y w hy => N.keep b y (Ux h nq w) hy
  · cases j with
    | zero => simp at h
    | succ j =>
      have h' : T[j]? = some (.bor i, x) := by simpa using h
      have h2 : (A ++ T)[A.length + j]? = some (.bor i, x) := by rw [List.getElem?_append_right (by omega), Nat.add_sub_cancel_left]; exact h'
      obtain ⟨b1, _, b3⟩ := S.bor _ i x h2
      exact ⟨b1, hb j i x h', b3⟩
  · rcases key p u x h1 with ⟨q1, k1, c1⟩ | ⟨q1, k1, n1, c1⟩ <;> rcases key q u' x' h2 with ⟨q2, k2, c2⟩ | ⟨q2, k2, n2, c2⟩
    · exact N.sep q1 q2 u u' x x' a (fun z => ne (Bg (wh := wh) (n := es.length) (a := A.length) (by rw [c1, c2, z]))) k1 k2 w1 w2
    · have w2 := (st k2 n2 a).mp w2
      obtain ⟨y, hy⟩ := (S.rep q2 u' x' k2).at w2
      rcases (N.own q1 u x a k1 w1).2 with z | z
      · exact Ux k2 n2 w2 z
      · have z' : H a = none := z
        rw [z'] at hy; cases hy
    · have w1 := (st k1 n1 a).mp w1
      obtain ⟨y, hy⟩ := (S.rep q1 u x k1).at w1
      rcases (N.own q2 u' x' a k2 w2).2 with z | z
      · exact Ux k1 n1 w1 z
      · have z' : H a = none := z
        rw [z'] at hy; cases hy
    · exact S.sep q1 q2 u u' x x' a (fun z => ne (Bg (wh := wh) (n := es.length) (a := A.length) (by rw [c1, c2, z]))) k1 k2 ((st k1 n1 a).mp w1) ((st k2 n2 a).mp w2)
  · rcases key p u x h with ⟨q, k, _⟩ | ⟨q, k, nq, _⟩
    · obtain ⟨o1, o2⟩ := N.own q u x a k w
      exact ⟨o1, hbase o2⟩
    · have w := (st k nq a).mp w
      obtain ⟨o1, o2⟩ := S.own q u x a k w
      refine ⟨?_, o2⟩
      cases z : F' a with
      | none => rfl
      | some y =>
        rcases N.new a o1 (by rw [z]; simp) with z2 | z2
        · exact absurd z2 (Ux k nq w)
        · obtain ⟨y', hy⟩ := (S.rep q u x k).at w
          have z' : H a = none := z2
          rw [z'] at hy; cases hy
  · refine N.keep b u (fun z => ?_) (S.keep b u h1 h2)
    rcases hbase (.inl z) with z | z
    · exact h1 z
    · rw [z] at h2; cases h2
  · cases z : F b with
    | none => exact hbase (N.new b z h2)
    | some y => exact S.new b h1 (by rw [z]; simp)
end
end DM
end
section
namespace DM
open PySem PySem.Spec PyProof.Rows L2
/-! ### a def -/
def zX (N : Nat) (es : List En) : aq := es.map some ++ List.replicate (N - es.length) none
def aQ (N : Nat) (body : aq → R Fl) (es : List En) : R En := (body (zX N es)).bind fun fl ρ => match fl with
  | .nx => .ok (.fr .non) ρ
  | .rt e => .ok e ρ
  | _ => .bad
abbrev jC := Ex → Value → Option Addr → Hp → Hp → Prop
def ZW (XR : jC) (W : WX) : ZX := fun x F H σ _ => ∀ cls d, XR x cls d F H → W cls d σ H
def aed (H : Hp) (es : List En) (vs : List V) : Prop := ∀ (i j : Nat) (e e' : En) (v v' : V) (a : Addr), i ≠ j → es[i]? = some e → vs[i]? = some v → es[j]? = some e' → vs[j]? = some v' → Ow H e v a → ¬ Ow H e' v' a
def mX (K : PySem.W.Frag) (np : Nat) (L cs : List Nat) (XR : jC) (run : List En → R En) : Sp := fun vs H Q E =>
  vs.length = np ∧ ∃ (F : Hp) (es : List En), Ext F H ∧ Paired (Rp K F H) es vs ∧ aed H es vs ∧ (∀ (i : Nat) (e : En) (v : V) (a : Addr), es[i]? = some e → vs[i]? = some v → Ow H e v a → F a = none) ∧
    pJ (run es) (fun e ρ' => ∀ F' H' σ' v, SM ⟨K, L, cs⟩ (entry F H es vs L) F' H' σ' ρ' [(.en e, v)] → Q v H')
      (fun x ρ' => ∀ F' H' σ' cls d, SM ⟨K, L, cs⟩ (entry F H es vs L) F' H' σ' ρ' [] → XR x cls d F' H' → E cls d H')
section
variable {K : PySem.W.Frag} {L cs : List Nat}
theorem paired_get {α β : Type} {P : α → β → Prop} : ∀ {as : List α} {bs : List β}, Paired P as bs → ∀ {i : Nat} {a : α} {b : β}, as[i]? = some a → bs[i]? = some b → P a b
  | _, _, .nil, i, a, b, h, _ => by simp at h
  | _, _, .cons r t, 0, a, b, h1, h2 => by
    simp at h1 h2
    subst h1 h2
    exact r
  | _, _, .cons r t, i + 1, a, b, h1, h2 => paired_get t (i := i) (by simpa using h1) (by simpa using h2)
theorem nu {N : Nat} {es : List En} {i : Nat} {e : En} (h : (zX N es)[i]? = some (some e)) : es[i]? = some e := by
  unfold zX at h
  by_cases hi : i < es.length
  · rw [List.getElem?_append_left (by simpa using hi), List.getElem?_map] at h
    cases q : es[i]? with
    | none => rw [q] at h; cases h
    | some x => rw [q] at h; cases h; rfl
  · rw [List.getElem?_append_right (by simpa using hi), List.getElem?_replicate] at h
    split at h <;> cases h
theorem jk {N : List Str} {vs : List V} {i : Nat} {v : V} : (start N vs)[i]? = some (some v) ↔ vs[i]? = some v := by
  unfold L2.start
  by_cases hi : i < vs.length
  · rw [List.getElem?_append_left (by simpa using hi), List.getElem?_map]
    cases q : vs[i]? with
    | none => simp
    | some x => simp
  · rw [List.getElem?_append_right (by simpa using hi), List.getElem?_replicate]
    have : vs[i]? = none := List.getElem?_eq_none (by omega)
    rw [this]
    constructor
    · intro h; split at h <;> cases h
    · intro h; cases h
theorem SM.start {N : List Str} {F H : Hp} {es : List En} {vs : List V} (s : Ext F H) (hp : Paired (Rp K F H) es vs) (hs : aed H es vs) (hf : ∀ (i : Nat) (e : En) (v : V) (a : Addr), es[i]? = some e → vs[i]? = some v → Ow H e v a → F a = none) :
    SM ⟨K, L, cs⟩ (entry F H es vs L) F H (L2.start N vs) (zX N.length es) [] where
  sub := s
  len := by
    unfold zX L2.start
    rw [List.length_append, List.length_append, List.length_map, List.length_map, List.length_replicate, List.length_replicate, hp.length]
  has := fun i e h => by
    have h1 := nu h
    obtain ⟨hi, _⟩ := List.getElem?_eq_some_iff.mp h1
    have hi' : i < vs.length := by rw [← hp.length]; exact hi
    exact ⟨vs[i], jk.mpr (List.getElem?_eq_getElem hi')⟩
  rep := fun p e v a => by
    cases p with
    | s i => exact paired_get hp (nu a.1) (jk.mp a.2)
    | t j => have a' : ([] : Tm)[j]? = some (.en e, v) := a; simp at a'
  bor := fun j i v h => by simp at h
  sep := fun p q e e' v v' a ne h1 h2 => by
    cases p with
    | t j => have a' : ([] : Tm)[j]? = some (.en e, v) := h1; simp at a'
    | s i =>
      cases q with
      | t j => have a' : ([] : Tm)[j]? = some (.en e', v') := h2; simp at a'
      | s j => exact hs i j e e' v v' a (fun z => ne (by rw [z])) (nu h1.1) (jk.mp h1.2) (nu h2.1) (jk.mp h2.2)
  own := fun p e v a h w => by
    cases p with
    | t j => have a' : ([] : Tm)[j]? = some (.en e, v) := h; simp at a'
    | s i => exact ⟨hf i e v a (nu h.1) (jk.mp h.2) w, .inl ⟨i, e, v, nu h.1, jk.mp h.2, w⟩⟩
  ext := Ext.refl F
  keep := fun _ _ _ h => h
  new := fun _ h1 h2 => absurd h1 h2
  lk := fun i v h => by
    have h' : (if i ∈ L then vs[i]? else none) = some v := h
    split at h'
    · exact jk.mpr h'
    · cases h'
  uG := fun i h => if_neg h
structure mO (P : Program) (w : World) (K : PySem.W.Frag) (mg : Str → Option Value) (base : Heap) (k : Nat) (f : Addr) (fd : FuncData) (ps : List Str) (sp : Sp) : Prop where
  len : ∀ vs H Q E, sp vs H Q E → vs.length = ps.length
  run : ∀ (A : Around) (outer : List Env) (s : Shared) (H : Hp) (args : Args) (us : List Value) (vs : List V) (Q : VK) (E : XK), Room k A → A.guards = some [] → Env0 P w K mg base A outer s H → BindsTo s fd args (ps.zip us) → Vals vs us → sp vs H Q E →
    codeAny (model P w) A (.call (.ref f) args) (CR (L2.CX P w) outer P w H s Q E) s
variable {P : Program} {w : World} {mg : Str → Option Value} {base : Heap}
theorem YX {k : Nat} {f : Addr} {name qual : Str} {params : Arguments} {body : List Stmt} {scope : Scope} {dV kV doc pm cdv ct oc : Value} {an od : Option Addr} {osl : Array (Option Value)} {N ps : List Str} {sp : Sp}
    (lk : K.lookup f = some ⟨oc, od, .func (PySem.W.fnOf name qual params body scope dV kV doc pm an cdv ct), osl⟩) (hcode : PySem.W.codeIn K cdv qual = true) (sc : FnScope N ps scope) (hlen : ∀ vs H Q E, sp vs H Q E → vs.length = ps.length)
    (hbody : ∀ (A : Around) (outer : List Env) (s : Shared) (H : Hp) (vs : List V) (Q : VK) (E : XK), Room k (A.deeper (envOfC qual scope s.heap.objs.size f cdv)) → A.guards = some [] → sp vs H Q E →
      ∃ t, PSs (cxOf (L2.CX P w) P w K mg base N qual scope f cdv A outer s H E) body t ∧ t { nx := fun _ H' => Q .non H', rt := Q } (L2.start N vs) H) : mO P w K mg base (k + 1) f (PySem.W.fnOf name qual params body scope dV kV doc pm an cdv ct) ps sp := by
  refine ⟨hlen, fun A outer s H args us vs Q E room hgd env0 bd rel hsp => ?_⟩
  have hln := hlen _ _ _ _ hsp
  have kin : K.In s.heap := env0.mod.kin.keeps fun b u e => (env0.bs b u e).1
  have aee : s.heap.NoLimit := env0.mod.nolimit.keeps fun b u e => (env0.bs b u e).1
  have kinds : ∀ y ∈ ps.zip us, scope.names.lookup y.1 = some .local ∨ (scope.names.lookup y.1 = some .cell ∧ ((cellsFrom (s.heap.objs.size + 1) scope.names []).lookup y.1).isSome = true) := by
    rintro ⟨n, u⟩ hy
    rcases sc.par n (List.of_mem_zip hy).1 with h | h
    · exact .inl h
    · exact .inr ⟨h, PySem.W.cellsFrom_some _ _ _ (.inl h)⟩
  refine codeAny_call_function room.depth (kin _ _ lk) rfl sc.co sc.gen rfl (PySem.W.codeRec_of kin hcode) (bd _ _ _ _ ?_)
  refine wpAny_newFunctionEnv_cells sc.kind kinds fun env henv s1 inn => ?_
  subst henv
  refine ⟨aee.keeps inn.toInCall.keep, codeAny_func ?_⟩
  obtain ⟨t, ht, hq⟩ := hbody A outer s H vs Q E (room.deeper _) hgd hsp
  have begun : Inv (cxOf (L2.CX P w) P w K mg base N qual scope f cdv A outer s H E) [] (L2.start N vs) H s1 := inv_start sc room.hd env0 hln rel inn
  refine wpAny_mono (ht.run [] s1 (L2.start N vs) H _ begun hq) (fun flow s' hs => ?_) fun er s' hx => hx
  have done : ∀ {σ' : L2.St} {H' : Hp} {v : V} {u : Value}, Inv (cxOf (L2.CX P w) P w K mg base N qual scope f cdv A outer s H E) [] σ' H' s' → L2.RelV v u → Q v H' → CE outer P w H s Q u s' :=
    fun {σ' H' v u} J rv q => ⟨v, H', J.os, J.bare, J.base, J.hok, rv, q⟩
  cases flow with
  | next =>
    obtain ⟨σ', H', J, q⟩ := hs
    exact done (v := V.non) (u := Value.none) J rfl q
  | brk =>
    obtain ⟨_, _, _, q⟩ := hs
    exact q.elim
  | cont =>
    obtain ⟨_, _, _, q⟩ := hs
    exact q.elim
  | ret u =>
    obtain ⟨v, σ', H', J, rv, q⟩ := hs
    exact done J rv q
theorem ab0 {x qual : Str} {st : Stmt} {f : Addr} {fd : FuncData} {N ps : List Str} {k : Nat} {sp : Sp} (fn : Fun K x qual st f fd) (sc : FnScope N ps (defScope st)) (hlen : ∀ vs H Q E, sp vs H Q E → vs.length = ps.length)
    (hbody : ∀ (cdv : Value) (A : Around) (outer : List Env) (s : Shared) (H : Hp) (vs : List V) (Q : VK) (E : XK), Room k (A.deeper (envOfC qual (defScope st) s.heap.objs.size f cdv)) → A.guards = some [] → sp vs H Q E →
      ∃ t, PSs (cxOf (L2.CX P w) P w K mg base N qual (defScope st) f cdv A outer s H E) (defBody st) t ∧ t { nx := fun _ H' => Q .non H', rt := Q } (L2.start N vs) H) : mO P w K mg base (k + 1) f fd ps sp := by
  obtain ⟨oc, od, kV, doc, pm, an, cdv, ct, osl, rfl, lk, hcode⟩ := fn.ex
  exact YX lk hcode sc hlen fun A outer s H vs Q E => hbody cdv A outer s H vs Q E
theorem ab1 {x qual : Str} {st : Stmt} {f : Addr} {fd : FuncData} {N ps : List Str} {k : Nat} {XR : jC} {body : aq → R Fl} (fn : Fun K x qual st f fd) (sc : FnScope N ps (defScope st))
    (hbody : ∀ (cdv : Value) (A : Around) (outer : List Env) (s : Shared) (H : Hp) (E : XK), Room k (A.deeper (envOfC qual (defScope st) s.heap.objs.size f cdv)) → A.guards = some [] →
      ∃ t, PSs (cxOf (L2.CX P w) P w K mg base N qual (defScope st) f cdv A outer s H E) (defBody st) t ∧ fK ⟨K, L, cs⟩ (ZW XR fun cls d _ H => E cls d H) t body) :
    mO P w K mg base (k + 1) f fd ps (mX K ps.length L cs XR (aQ N.length body)) := by
  refine ab0 fn sc (fun vs H Q E h => h.1) fun cdv A outer s H vs Q E hr hg hsp => ?_
  obtain ⟨t, ht, hi⟩ := hbody cdv A outer s H E hr hg
  obtain ⟨hl, F, es, s1, hp, hs, hf, hw⟩ := hsp
  refine ⟨t, ht, hi _ F H _ _ _ (SM.start s1 hp hs hf) ?_⟩
  unfold aQ at hw
  rw [aH] at hw
  refine aG hw (fun fl ρ h => ?_) fun x ρ h F' H' σ' S cls d xr => h F' H' σ' cls d S xr
  cases fl with
  | nx => exact fun F' H' σ' S => h F' H' σ' _ (S.cV JV)
  | bk => exact h.elim
  | ct => exact h.elim
  | rt e => exact fun F' H' σ' v S => h F' H' σ' v S
/-! ### a call -/
def fX {α : Type} (d : α) (perm : List Nat) (xs : List α) : List α := perm.map fun i => xs.getD i d
structure dJ (fd : FuncData) (ps ks : List Str) (n : Nat) (perm : List Nat) : Prop where
  to : ∀ us ws : List Value, us.length = n → ws.length = ks.length → bindArgs fd ⟨us, ks.zip ws⟩ = pure (ps.zip (fX .none perm (us ++ ws)))
def xM (n m : Nat) (sp : Sp) (perm : List Nat) (E : L2.St → XK) (t tk : TA) : TE := fun σ H Q => t σ H fun vs H1 => tk σ H1 fun zs H2 => vs.length = n ∧ zs.length = m ∧ sp (fX .non perm (vs ++ zs)) H2 Q (E σ)
theorem Bh {vs : List V} {us : List Value} (r : Vals vs us) : ∀ perm : List Nat, Vals (fX .non perm vs) (fX .none perm us)
  | [] => .nil
  | i :: perm => by
    refine .cons ?_ (Bh r perm)
    cases q : vs[i]? with
    | none =>
      have q2 : us[i]? = none := by
        rw [List.getElem?_eq_none_iff] at q ⊢
        rw [← r.length]; exact q
      show L2.RelV (vs.getD i .non) (us.getD i .none)
      rw [List.getD_eq_getElem?_getD, List.getD_eq_getElem?_getD, q, q2]
      exact rfl
    | some v =>
      obtain ⟨u, hu, ru⟩ := r.get q
      show L2.RelV (vs.getD i .non) (us.getD i .none)
      rw [List.getD_eq_getElem?_getD, List.getD_eq_getElem?_getD, q, hu]
      exact ru
variable {X : Cx} {k : Nat} {f : Addr} {fd : FuncData} {ps ks : List Str} {sp : Sp} {E : L2.St → XK} {x : Str} {p pos : Pos} {e : Expr} {es : List Expr} {kws : List Keyword} {t tk : TA} {n : Nat} {perm : List Nat}
theorem ab2 {pins : List (Addr × Obj)} {σ : L2.St} {H : Hp} {s : Shared} {Q : VK} {us ws : List Value} {vs zs : List V} (fn : mO X.prog X.w X.K X.mg X.base k f fd ps sp) (hr : Room k X.A) (hg : X.A.guards = some []) (hb : dJ fd ps ks n perm) (hx : ∀ σ, PassesAt (L2.CX X.prog X.w) X σ (E σ))
    (I : Inv X pins σ H s) (r : Vals vs us) (rz : Vals zs ws) (h : vs.length = n ∧ zs.length = ks.length ∧ sp (fX .non perm (vs ++ zs)) H Q (E σ)) : wpAny (model X.prog X.w) X.A (call (.ref f) us (ks.zip ws)) (EP X pins σ Q) X.xe s := by
  obtain ⟨h1, h2, h3⟩ := h
  refine wpAny_call (codeAny_mono (fn.run X.A X.stack s H ⟨us, ks.zip ws⟩ _ _ Q (E σ) hr hg I.env0 (.of_eq (hb.to us ws (by rw [← r.length]; exact h1) (by rw [← rz.length]; exact h2))) (Bh (r.append rz) perm) h3) fun res s' hq => ?_)
  match res, hq with
  | .error ex, hq => exact hx σ pins H s ex s' I hq
  | .ok (.ret u), hq => exact I.after hq
theorem GX (fn : mO X.prog X.w X.K X.mg X.base k f fd ps sp) (hr : Room k X.A) (hgd : X.A.guards = some []) (hg : Gl X x) (hm : X.mg x = some (.ref f)) (hk : PySem.W.keepIn X.K (.ref f) = true) (hb : dJ fd ps [] n perm) (hx : ∀ σ, PassesAt (L2.CX X.prog X.w) X σ (E σ))
    (ha : PA X (e :: es) t) (hdb : (x == ("__debug__" : Str)) = false := by decide) (he : starEach (e :: es) X.env = (false, eval e X.env) :: starEach es X.env := by rfl) (hpl : (backTo pos (starEach es X.env)).any (·.1) = false := by rfl) :
    PE X (.Call (.Name x p) (e :: es) [] pos) (xM n 0 sp perm E t tNil) := by
  refine ⟨fun pins s σ H Q I h => wpAny_Call_Name_kw (ld_glob I hg hm ?_ hdb)⟩
  refine PySem.W.callWith_K (h₀ := X.base) I.ok.mod.kin hk (thn (ha.run pos pins s σ H _ I h) fun us s1 hh => ?_) he hpl
  obtain ⟨vs, H1, I1, r, q⟩ := hh
  exact ⟨I1.kIn, ab2 (ks := []) (ws := []) (zs := []) fn hr hgd hb hx I1 r .nil q⟩
theorem Kf (fn : mO X.prog X.w X.K X.mg X.base k f fd ps sp) (hr : Room k X.A) (hgd : X.A.guards = some []) (hg : Gl X x) (hm : X.mg x = some (.ref f)) (hk : PySem.W.keepIn X.K (.ref f) = true) (hb : dJ fd ps ks 0 perm) (hx : ∀ σ, PassesAt (L2.CX X.prog X.w) X σ (E σ))
    (hkw : PK X kws tk) (hall : (backToKw pos (keywordEach kws X.env)).all (·.1.isSome) = true := by rfl) (hks : (backToKw pos (keywordEach kws X.env)).filterMap (·.1) = ks := by rfl)
    (hdb : (x == ("__debug__" : Str)) = false := by decide) (hpl : ((backTo pos (starEach [] X.env)).any (·.1) || (backToKw pos (keywordEach kws X.env)).any (·.1.isNone)) = false := by rfl) :
    PE X (.Call (.Name x p) [] kws pos) (xM 0 ks.length sp perm E tNil tk) := by
  refine ⟨fun pins s σ H Q I h => wpAny_Call_Name_kw (ld_glob I hg hm ?_ hdb)⟩
  refine PySem.W.callWith_KW0 (h₀ := X.base) I.ok.mod.kin hk hall (thn (hkw.run pos pins s σ H _ I h) fun ws s2 hh => ?_) hpl
  obtain ⟨zs, H2, I2, rz, q2⟩ := hh
  refine ⟨I2.kIn, ?_⟩
  rw [hks]
  exact ab2 (us := []) (vs := []) fn hr hgd hb hx I2 .nil rz q2
end
/-! ### a call, by data -/
def iT : List Val → List Nat
  | [] => []
  | .bor k :: as => k :: iT as
  | .en _ :: as => iT as
def GZ (L : List Nat) (i : Nat) : Val → Bool
  | .bor _ => L.contains i
  | .en _ => true
def lu (L : List Nat) : Nat → List Val → Bool
  | _, [] => true
  | i, a :: as => GZ L i a && lu L (i + 1) as
def lA : List Val → aq → aq → Option aq
  | [], _, ρ => some ρ
  | .bor k :: as, some u :: fs, ρ => lA as fs (ρ.set k (some u))
  | .en _ :: as, fs, ρ => lA as fs.tail ρ
  | .bor _ :: _, _, _ => none
def vJ (vals : List Val) (ρ : aq) : R En → R Val
  | .bad => .bad
  | .ok e ρ' => match lA vals ρ' ρ with
    | some ρ2 => .ok (.en e) ρ2
    | none => .bad
  | .exc x _ => if iT vals = [] then .exc x ρ else .bad
def au (n m : Nat) (L perm : List Nat) (run : List En → R En) (fs fk : aq → R (List Val)) (ρ : aq) : R Val := (fs ρ).bind fun as ρ1 => (fk ρ1).bind fun bs ρ2 =>
  if as.length = n ∧ bs.length = m then
    match looks ρ2 (fX (.en (.fr .non)) perm (as ++ bs)) with
    | some es => if lu L 0 (fX (.en (.fr .non)) perm (as ++ bs)) = true ∧ (iT (fX (.en (.fr .non)) perm (as ++ bs))).Nodup then vJ (fX (.en (.fr .non)) perm (as ++ bs)) ρ2 (run es) else .bad
    | none => .bad
  else .bad
theorem jD {k : Nat} : ∀ {as : List Val}, k ∈ iT as ↔ ∃ j : Nat, as[j]? = some (.bor k)
  | [] => by simp [iT]
  | .bor l :: as => by
    unfold iT
    rw [List.mem_cons, jD (as := as)]
    constructor
    · rintro (rfl | ⟨j, h⟩)
      · exact ⟨0, rfl⟩
      · exact ⟨j + 1, by simpa using h⟩
    · rintro ⟨j, h⟩
      cases j with
      | zero => left; simp at h; exact h.symm
      | succ j => exact .inr ⟨j, by simpa using h⟩
  | .en e :: as => by
    unfold iT
    rw [jD (as := as)]
    constructor
    · rintro ⟨j, h⟩; exact ⟨j + 1, by simpa using h⟩
    · rintro ⟨j, h⟩
      cases j with
      | zero => simp at h
      | succ j => exact ⟨j, by simpa using h⟩
theorem uM {k : Nat} : ∀ {as : List Val} {i j : Nat}, (iT as).Nodup → as[i]? = some (.bor k) → as[j]? = some (.bor k) → i = j
  | [], i, j, _, h, _ => by simp at h
  | .bor l :: as, 0, 0, _, _, _ => rfl
  | .bor l :: as, 0, j + 1, hn, h1, h2 => by
    unfold iT at hn
    simp at h1
    subst h1
    exact absurd (jD.mpr ⟨j, by simpa using h2⟩) (List.nodup_cons.mp hn).1
  | .bor l :: as, i + 1, 0, hn, h1, h2 => by
    unfold iT at hn
    simp at h2
    subst h2
    exact absurd (jD.mpr ⟨i, by simpa using h1⟩) (List.nodup_cons.mp hn).1
  | .bor l :: as, i + 1, j + 1, hn, h1, h2 => by
    unfold iT at hn
    rw [uM (as := as) (i := i) (j := j) (List.nodup_cons.mp hn).2 (by simpa using h1) (by simpa using h2)]
  | .en e :: as, 0, _, _, h1, _ => by simp at h1
  | .en e :: as, _, 0, _, _, h2 => by simp at h2
  | .en e :: as, i + 1, j + 1, hn, h1, h2 => by
    unfold iT at hn
    rw [uM (as := as) (i := i) (j := j) hn (by simpa using h1) (by simpa using h2)]
theorem oM : ∀ {as : List Val} {fs ρ ρ2 : aq}, lA as fs ρ = some ρ2 → ρ2.length = ρ.length
  | [], _, ρ, ρ2, h => by
    have h' : some ρ = some ρ2 := h
    cases h'; rfl
  | .bor k :: as, some u :: fs, ρ, ρ2, h => by
    rw [oM (as := as) (fs := fs) (ρ := ρ.set k (some u)) h, List.length_set]
  | .bor k :: as, none :: fs, ρ, ρ2, h => by cases h
  | .bor k :: as, [], ρ, ρ2, h => by cases h
  | .en e :: as, fs, ρ, ρ2, h => oM (as := as) (fs := fs.tail) (ρ := ρ) h
theorem lB {k : Nat} : ∀ {as : List Val} {fs ρ ρ2 : aq}, lA as fs ρ = some ρ2 → k ∉ iT as → ρ2[k]? = ρ[k]?
  | [], _, ρ, ρ2, h, _ => by
    have h' : some ρ = some ρ2 := h
    cases h'; rfl
  | .bor l :: as, some u :: fs, ρ, ρ2, h, hk => by
    unfold iT at hk
    rw [List.mem_cons, not_or] at hk
    rw [lB (as := as) (fs := fs) (ρ := ρ.set l (some u)) h hk.2, List.getElem?_set_ne (Ne.symm hk.1)]
  | .bor k :: as, none :: fs, ρ, ρ2, h, _ => by cases h
  | .bor k :: as, [], ρ, ρ2, h, _ => by cases h
  | .en e :: as, fs, ρ, ρ2, h, hk => lB (as := as) (fs := fs.tail) (ρ := ρ) h hk
theorem qF {k : Nat} : ∀ {as : List Val} {fs ρ ρ2 : aq} {j : Nat}, lA as fs ρ = some ρ2 → (iT as).Nodup → as[j]? = some (.bor k) → ∃ u, fs[j]? = some (some u) ∧ (k < ρ.length → ρ2[k]? = some (some u))
  | [], _, ρ, ρ2, j, h, _, hj => by simp at hj
  | .bor l :: as, some u :: fs, ρ, ρ2, 0, h, hn, hj => by
    unfold iT at hn
    simp at hj
    subst hj
    refine ⟨u, rfl, fun hl => ?_⟩
    rw [lB (as := as) (fs := fs) (ρ := ρ.set l (some u)) h (List.nodup_cons.mp hn).1, List.getElem?_set_self hl]
  | .bor l :: as, some u :: fs, ρ, ρ2, j + 1, h, hn, hj => by
    unfold iT at hn
    obtain ⟨u', h1, h2⟩ := qF (as := as) (fs := fs) (ρ := ρ.set l (some u)) (j := j) h (List.nodup_cons.mp hn).2 (by simpa using hj)
    exact ⟨u', by simpa using h1, fun hl => h2 (by rw [List.length_set]; exact hl)⟩
  | .bor k :: as, none :: fs, ρ, ρ2, _, h, _, _ => by cases h
  | .bor k :: as, [], ρ, ρ2, _, h, _, _ => by cases h
  | .en e :: as, fs, ρ, ρ2, 0, h, hn, hj => by simp at hj
  | .en e :: as, fs, ρ, ρ2, j + 1, h, hn, hj => by
    unfold iT at hn
    obtain ⟨u', h1, h2⟩ := qF (as := as) (fs := fs.tail) (ρ := ρ) (j := j) h hn (by simpa using hj)
    exact ⟨u', by rw [← List.getElem?_tail]; exact h1, h2⟩
theorem Bj {L : List Nat} {k : Nat} : ∀ {as : List Val} {i j : Nat}, lu L i as = true → as[j]? = some (.bor k) → i + j ∈ L
  | [], i, j, _, h => by simp at h
  | a :: as, i, 0, h, hj => by
    unfold lu at h
    rw [Bool.and_eq_true] at h
    simp at hj
    subst hj
    have h1 : L.contains i = true := h.1
    simpa using h1
  | a :: as, i, j + 1, h, hj => by
    unfold lu at h
    rw [Bool.and_eq_true] at h
    have := Bj (as := as) (i := i + 1) (j := j) h.2 (by simpa using hj)
    rw [show i + (j + 1) = i + 1 + j by omega]
    exact this
theorem uN {ρ : aq} : ∀ {as : List Val} {es : List En} {j : Nat} {e : En}, looks ρ as = some es → es[j]? = some e → ∃ a, as[j]? = some a ∧ look ρ a = some e
  | [], es, j, e, h, hj => by
    have h' : some [] = some es := h
    cases h'
    simp at hj
  | a :: as, es, j, e, h, hj => by
    unfold looks at h
    cases la : look ρ a with
    | none => rw [la] at h; cases h
    | some u =>
      cases ls : looks ρ as with
      | none => rw [la, ls] at h; cases h
      | some us =>
        rw [la, ls] at h
        cases h
        cases j with
        | zero => simp at hj; subst hj; exact ⟨a, rfl, la⟩
        | succ j =>
          obtain ⟨a', h1, h2⟩ := uN (as := as) (j := j) ls (by simpa using hj)
          exact ⟨a', by simpa using h1, h2⟩
theorem qG {ρ : aq} : ∀ {as : List Val} {es : List En}, looks ρ as = some es → es.length = as.length
  | [], es, h => by
    have h' : some [] = some es := h
    cases h'; rfl
  | a :: as, es, h => by
    unfold looks at h
    cases la : look ρ a with
    | none => rw [la] at h; cases h
    | some u =>
      cases ls : looks ρ as with
      | none => rw [la, ls] at h; cases h
      | some us =>
        rw [la, ls] at h
        cases h
        rw [List.length_cons, List.length_cons, qG ls]
theorem qH {α : Type} {d : α} {perm : List Nat} {xs : List α} {j : Nat} {x : α} (h : (fX d perm xs)[j]? = some x) (hp : ∀ i ∈ perm, i < xs.length) : ∃ i, perm[j]? = some i ∧ xs[i]? = some x := by
  unfold fX at h
  rw [List.getElem?_map] at h
  cases q : perm[j]? with
  | none => rw [q] at h; cases h
  | some i =>
    rw [q] at h
    have hi := hp i (List.mem_of_getElem? q)
    refine ⟨i, rfl, ?_⟩
    rw [List.getElem?_eq_getElem hi]
    have h' : some (xs.getD i d) = some x := h
    rw [List.getD_eq_getElem?_getD, List.getElem?_eq_getElem hi] at h'
    exact h'
theorem Bl {as : List Val} {vs : List V} {i : Nat} {a : Val} {v : V} (hl : as.length = vs.length) (h1 : as[i]? = some a) (h2 : vs[i]? = some v) : (stack as vs)[as.length - 1 - i]? = some (a, v) := by
  unfold stack
  have hi : i < as.length := (List.getElem?_eq_some_iff.mp h1).1
  have hz : (as.zip vs).length = as.length := by rw [List.length_zip, ← hl, Nat.min_self]
  rw [List.getElem?_reverse (by rw [hz]; omega), hz, show as.length - 1 - (as.length - 1 - i) = i by omega]
  exact List.getElem?_zip_eq_some.mpr ⟨h1, h2⟩
theorem Bm {as bs : List Val} {vs zs : List V} (hl : as.length = vs.length) : stack (as ++ bs) (vs ++ zs) = stack bs zs ++ stack as vs := by
  unfold stack
  rw [List.zip_append hl, List.reverse_append]
theorem Qz {as : List Val} {vs : List V} (hl : as.length = vs.length) : (stack as vs).length = as.length := by
  unfold stack
  rw [List.length_reverse, List.length_zip, ← hl, Nat.min_self]
section
variable {C : Cs} {XR : jC} {W : WX}
theorem uO {n m np : Nat} {L cs perm : List Nat} {run : List En → R En} {t tk : TA} {fs fk : aq → R (List Val)} (ha : jP C (ZW XR W) t fs) (hk : jP C (ZW XR W) tk fk) (hnp : perm.length = np) (hnd : perm.Nodup) (hlt : ∀ i ∈ perm, i < n + m) :
    Impl C (ZW XR W) (xM n m (mX C.K np L cs XR run) perm (WE W) t tk) (au n m L perm run fs fk) := by
  intro o F H σ ρ T Q S q
  unfold au at q
  rw [aH] at q
  refine ha o F H σ ρ T _ S (aG q (fun as ρ1 h1 F1 H1 vs hl1 S1 => ?_) fun _ _ h => h)
  rw [aH] at h1
  have Nf : ∀ {F' H' : Hp} {σ' : L2.St} {ρ' : aq}, SM C o F' H' σ' ρ' (stack as vs ++ T) → SM C o F' H' σ' ρ' T := fun S' => S'.emb (fun j => (stack as vs).length + j) (fun j x hx => by rw [List.getElem?_append_right (by omega), Nat.add_sub_cancel_left]; exact hx) fun i j e => by omega
  refine hk o F1 H1 σ ρ1 _ _ S1 (aG h1 (fun bs ρ2 h2 F2 H2 zs hl2 S2 => ?_) fun x ρ' h F' H' s => h F' H' (Nf s))
  by_cases hnm : as.length = n ∧ bs.length = m
  · rw [if_pos hnm] at h2
    have hl : (as ++ bs).length = (vs ++ zs).length := by rw [List.length_append, List.length_append, hl1, hl2]
    have hA : (as ++ bs).length = n + m := by rw [List.length_append, hnm.1, hnm.2]
    rw [← List.append_assoc, ← Bm hl1] at S2
    generalize hcs : fX (.en (.fr .non)) perm (as ++ bs) = vals at h2
    cases hlk : looks ρ2 vals with
    | none => rw [hlk] at h2; exact h2.elim
    | some es =>
      rw [hlk] at h2
      simp only at h2
      by_cases hok : lu L 0 vals = true ∧ (iT vals).Nodup
      · rw [if_pos hok] at h2
        have lt1 : ∀ i ∈ perm, i < (as ++ bs).length := fun i hi => by rw [hA]; exact hlt i hi
        have lt2 : ∀ i ∈ perm, i < (vs ++ zs).length := fun i hi => by rw [← hl]; exact lt1 i hi
        have lv : vals.length = perm.length := by rw [← hcs]; exact List.length_map ..
        have lp : (fX V.non perm (vs ++ zs)).length = perm.length := List.length_map ..
        have le : es.length = perm.length := by rw [qG hlk, lv]
        let wh : Nat → Wh := fun j => match vals[j]? with
          | some (.bor s) => .s s
          | _ => .t ((as ++ bs).length - 1 - perm.getD j 0)
        have hat : ∀ (j : Nat) (e : En) (v : V), es[j]? = some e → (fX V.non perm (vs ++ zs))[j]? = some v → At σ ρ2 (stack (as ++ bs) (vs ++ zs) ++ T) (wh j) e v := fun j e v h3 h4 => by
          obtain ⟨a, h5, h6⟩ := uN hlk h3
          have h5' := h5
          rw [← hcs] at h5'
          obtain ⟨i, h7, h8⟩ := qH h5' lt1
          obtain ⟨i', h7', h9⟩ := qH h4 lt2
          rw [h7] at h7'
          cases h7'
          have hst := Bl hl h8 h9
          have hst' : (stack (as ++ bs) (vs ++ zs) ++ T)[(as ++ bs).length - 1 - i]? = some (a, v) := by
            rw [List.getElem?_append_left (List.getElem?_eq_some_iff.mp hst).1]
            exact hst
          cases a with
          | en u =>
            have hw : wh j = .t ((as ++ bs).length - 1 - i) := by
              show (match vals[j]? with | some (.bor s) => Wh.s s | _ => .t ((as ++ bs).length - 1 - perm.getD j 0)) = _
              rw [h5, List.getD_eq_getElem?_getD, h7]
              rfl
            rw [hw]
            cases h6
            exact hst'
          | bor s =>
            have hw : wh j = .s s := by
              show (match vals[j]? with | some (.bor s) => Wh.s s | _ => .t ((as ++ bs).length - 1 - perm.getD j 0)) = _
              rw [h5]
            rw [hw]
            obtain ⟨b1, _, _⟩ := S2.bor _ s v hst'
            exact ⟨join_some h6, b1⟩
        have whB : ∀ {j s : Nat}, vals[j]? = some (.bor s) → wh j = .s s := fun {j s} h => by
          show (match vals[j]? with | some (.bor s) => Wh.s s | _ => .t ((as ++ bs).length - 1 - perm.getD j 0)) = _
          rw [h]
        have whC : ∀ {j : Nat}, j < es.length → (∃ s, vals[j]? = some (.bor s) ∧ wh j = .s s) ∨ ∃ i, perm[j]? = some i ∧ i < n + m ∧ wh j = .t ((as ++ bs).length - 1 - i) := fun {j} hj => by
          have hj' : j < vals.length := by omega
          have hp' : j < perm.length := by omega
          cases hv : vals[j]? with
          | none => rw [List.getElem?_eq_none_iff] at hv; omega
          | some a =>
            cases a with
            | bor s => exact .inl ⟨s, rfl, whB hv⟩
            | en u =>
              refine .inr ⟨perm[j], List.getElem?_eq_getElem hp', hlt _ (List.getElem_mem hp'), ?_⟩
              show (match vals[j]? with | some (.bor s) => Wh.s s | _ => .t ((as ++ bs).length - 1 - perm.getD j 0)) = _
              rw [hv, List.getD_eq_getElem?_getD, List.getElem?_eq_getElem hp']
              rfl
        have inj : ∀ i j, i < es.length → j < es.length → wh i = wh j → i = j := fun i j hi hj h => by
          rcases whC hi with ⟨s1, a1, a2⟩ | ⟨i1, a1, a2, a3⟩ <;> rcases whC hj with ⟨s2, c1, c2⟩ | ⟨i2, c1, c2, c3⟩
          · rw [a2, c2] at h
            cases h
            exact uM hok.2 a1 c1
          · rw [a2, c3] at h; cases h
          · rw [a3, c2] at h; cases h
          · rw [a3, c3] at h
            simp only [Wh.t.injEq] at h
            have e12 : i1 = i2 := by omega
            subst e12
            exact (List.getElem?_inj (by omega) hnd).mp (a1.trans c1.symm)
        have low : ∀ (j q : Nat), j < es.length → wh j = .t q → q < (stack (as ++ bs) (vs ++ zs)).length := fun j q hj h => by
          rw [Qz hl]
          rcases whC hj with ⟨s1, _, a2⟩ | ⟨i1, _, a2, a3⟩
          · rw [a2] at h; cases h
          · rw [a3] at h
            cases h
            omega
        have hll : es.length = (fX V.non perm (vs ++ zs)).length := by rw [le, lp]
        have aeh : Paired (Rp C.K F2 H2) es (fX V.non perm (vs ++ zs)) := by
          have go : ∀ (es : List En) (us : List V), es.length = us.length → (∀ (j : Nat) (e : En) (v : V), es[j]? = some e → us[j]? = some v → Rp C.K F2 H2 e v) → Paired (Rp C.K F2 H2) es us := by
            intro es
            induction es with
            | nil => intro us hl _; cases us with
              | nil => exact .nil
              | cons _ _ => simp at hl
            | cons e es ih => intro us hl h; cases us with
              | nil => simp at hl
              | cons u us => exact .cons (h 0 e u rfl rfl) (ih us (by simpa using hl) fun j e v h1 h2 => h (j + 1) e v (by simpa using h1) (by simpa using h2))
          exact go es _ hll fun j e v h3 h4 => S2.rep _ e v (hat j e v h3 h4)
        refine ⟨by rw [← hl1]; exact hnm.1, by rw [← hl2]; exact hnm.2, by rw [lp, hnp], F2, es, S2.sub, aeh, fun i j e e' v v' a ne g1 g2 g3 g4 w1 => ?_, fun i e v a g1 g2 w1 => (S2.own _ e v a (hat i e v g1 g2) w1).1, ?_⟩
        · exact S2.sep _ _ e e' v v' a (fun z => ne (inj i j (List.getElem?_eq_some_iff.mp g1).1 (List.getElem?_eq_some_iff.mp g3).1 z)) (hat i e v g1 g2) (hat j e' v' g3 g4) w1
        · cases hrun : run es with
          | bad => rw [hrun] at h2; exact h2.elim
          | ok e ρ' =>
            rw [hrun] at h2
            unfold vJ at h2
            intro F' H' σ' v N
            cases hpf : lA vals ρ' ρ2 with
            | none => simp only [hpf] at h2; exact h2.elim
            | some ρ3 =>
              simp only [hpf] at h2
              refine h2 F' H' v (S2.call (C' := ⟨C.K, L, cs⟩) (wh := wh) hat hll inj low rfl N (oM hpf) (fun k u hu => ?_) fun j i v hj => ?_)
              · by_cases hb : k ∈ iT vals
                · obtain ⟨j, hj⟩ := jD.mp hb
                  obtain ⟨u', g1, g2⟩ := qF hpf hok.2 hj
                  have hk : k < ρ2.length := by
                    have := (List.getElem?_eq_some_iff.mp hu).1
                    rw [oM hpf] at this
                    exact this
                  rw [g2 hk] at hu
                  cases hu
                  have hj' : j < es.length := by
                    have := (List.getElem?_eq_some_iff.mp hj).1
                    omega
                  have := Bj hok.1 hj
                  rw [Nat.zero_add] at this
                  exact .inl ⟨j, hj', whB hj, this, g1⟩
                · rw [lB hpf hb] at hu
                  refine .inr ⟨fun j hj z => ?_, hu⟩
                  rcases whC hj with ⟨s1, a1, a2⟩ | ⟨i1, _, _, a3⟩
                  · rw [a2] at z
                    cases z
                    exact hb (jD.mpr ⟨j, a1⟩)
                  · rw [a3] at z; cases z
              · have hT : (stack (as ++ bs) (vs ++ zs) ++ T)[(stack (as ++ bs) (vs ++ zs)).length + j]? = some (.bor i, v) := by rw [List.getElem?_append_right (by omega), Nat.add_sub_cancel_left]; exact hj
                obtain ⟨_, ⟨u, hu⟩, _⟩ := S2.bor _ i v hT
                by_cases hb : i ∈ iT vals
                · obtain ⟨j', hj'⟩ := jD.mp hb
                  obtain ⟨u', _, g2⟩ := qF hpf hok.2 hj'
                  exact ⟨u', g2 (List.getElem?_eq_some_iff.mp hu).1⟩
                · rw [lB hpf hb]; exact ⟨u, hu⟩
          | exc x ρ' =>
            rw [hrun] at h2
            replace h2 : pJ (if iT vals = [] then R.exc x ρ2 else .bad) (fun val ρ' => ∀ F' H' v, SM C o F' H' σ ρ' ((val, v) :: T) → Q v H') (fun x ρ' => ∀ F' H', SM C o F' H' σ ρ' T → ZW XR W x F' H' σ ρ') := h2
            intro F' H' σ' cls d N hx
            by_cases hb : iT vals = []
            · rw [if_pos hb] at h2
              have N2 := N.cV (d := .non) (v := .non) JV
              have S3 := S2.call (C' := ⟨C.K, L, cs⟩) (wh := wh) (ρ2 := ρ2) hat hll inj low rfl N2 rfl (fun k u hu => .inr ⟨fun j hj z => ?_, hu⟩) fun j i v hj => ?_
              · exact h2 F' H' S3.drop cls d hx
              · rcases whC hj with ⟨s1, a1, _⟩ | ⟨i1, _, _, a3⟩
                · have := jD.mpr ⟨j, a1⟩
                  rw [hb] at this
                  cases this
                · rw [a3] at z; cases z
              · have hT : (stack (as ++ bs) (vs ++ zs) ++ T)[(stack (as ++ bs) (vs ++ zs)).length + j]? = some (.bor i, v) := by rw [List.getElem?_append_right (by omega), Nat.add_sub_cancel_left]; exact hj
                exact (S2.bor _ i v hT).2.1
            · rw [if_neg hb] at h2; exact h2.elim
      · rw [if_neg hok] at h2; exact h2.elim
  · rw [if_neg hnm] at h2; exact h2.elim
end
end DM
end
section
namespace DM
open PySem PySem.Spec PyProof.Rows L2
structure Wd where
  P : Program
  w : World
  K : PySem.W.Frag
  mg : Str → Option Value
  base : Heap
structure Ctx (M : Wd) (X : Cx) (C : Cs) (W : WX) (k : Nat) (N : List Str) (nm : List (Str × NameKind)) (fb : Str → Bool) : Prop where
  hP : X.prog = M.P
  hw : X.w = M.w
  CK : X.K = M.K
  hmg : X.mg = M.mg
  hbase : X.base = M.base
  hK : X.K = C.K
  calm : X.calm = true
  gd : X.A.guards = some []
  room : Room k X.A
  tk : Takes X W
  hN : X.N = N
  nd : N.Nodup
  hnm : X.env.scope.names = nm
  hkd : X.env.scope.kind = .function
  hfn : ∀ x, fb x = true → X.fn x = true
def ab3 (sn nm : List (Str × NameKind)) : List (Str × NameKind) := sn.map fun (n, k) => if (k == .free && nm.lookup n == some .cell) then (n, .cell) else (n, k)
def dbg (x : Str) : Bool := (x == ("__debug__" : Str)) || (x == ("__classdict__" : Str)) || decide (x = "__name__")
def CN (nm : List (Str × NameKind)) (x : Str) : Bool := (nm.lookup x == some .local || nm.lookup x == some .cell || nm.lookup x == some .free) && !dbg x
def Uy (nm : List (Str × NameKind)) (fb : Str → Bool) (x : Str) : Bool := (nm.lookup x == some .local || (nm.lookup x == some .cell && fb x)) && !dbg x
def zU (nm : List (Str × NameKind)) (x : Str) : Bool := (nm.lookup x == some .globalImplicit) && !dbg x
section
variable {XR : jC} {M : Wd} {X : Cx} {C : Cs} {W : WX} {k : Nat} {N : List Str} {nm : List (Str × NameKind)} {fb : Str → Bool}
theorem Uz {x : Str} (h : dbg x = false) : (x == ("__debug__" : Str)) = false ∧ (x == ("__classdict__" : Str)) = false ∧ x ≠ "__name__" := by
  unfold dbg at h
  rw [Bool.or_eq_false_iff, Bool.or_eq_false_iff] at h
  exact ⟨h.1.1, h.1.2, of_decide_eq_false h.2⟩
theorem oO (G : Ctx M X C W k N nm fb) {x : Str} (h : CN nm x = true) : Vis X.env.scope x ∧ (x == ("__debug__" : Str)) = false ∧ (x == ("__classdict__" : Str)) = false := by
  unfold CN at h
  rw [Bool.and_eq_true, Bool.not_eq_true'] at h
  obtain ⟨h1, h2⟩ := h
  obtain ⟨d1, d2, _⟩ := Uz h2
  refine ⟨?_, d1, d2⟩
  unfold Vis
  rw [G.hnm]
  rw [Bool.or_eq_true, Bool.or_eq_true, beq_iff_eq, beq_iff_eq, beq_iff_eq] at h1
  rcases h1 with (h1 | h1) | h1
  · exact .inl h1
  · exact .inr (.inl h1)
  · exact .inr (.inr h1)
theorem CP (G : Ctx M X C W k N nm fb) {x : Str} (h : Uy nm fb x = true) : L2.Loc X.env.scope x ∧ (X.fn x = true ∨ X.env.scope.names.lookup x = some .local) := by
  unfold Uy at h
  rw [Bool.and_eq_true] at h
  obtain ⟨h1, _⟩ := h
  unfold L2.Loc
  rw [G.hnm]
  rw [Bool.or_eq_true, Bool.and_eq_true, beq_iff_eq, beq_iff_eq] at h1
  rcases h1 with h1 | ⟨h1, h3⟩
  · exact ⟨.inl h1, .inr h1⟩
  · exact ⟨.inr h1, .inl (G.hfn x h3)⟩
theorem eV (G : Ctx M X C W k N nm fb) {x : Str} (h : zU nm x = true) : Gl X x ∧ (x == ("__debug__" : Str)) = false ∧ x ≠ "__name__" := by
  unfold zU at h
  rw [Bool.and_eq_true, Bool.not_eq_true', beq_iff_eq] at h
  obtain ⟨d1, _, d3⟩ := Uz h.2
  refine ⟨?_, d1, d3⟩
  show X.env.scope.names.lookup x = some .globalImplicit
  rw [G.hnm]
  exact h.1
theorem Ctx.un (G : Ctx M X C W k N nm fb) : X.A.units + 199 < cLine := by have := G.room.un; omega
/-! ### adF -/
def JE (XR : jC) (X : Cx) (C : Cs) (W : WX) (e : Expr) (f : aq → R Val) : Prop := ∃ te, PE X e te ∧ Impl C (ZW XR W) te f
def JT (XR : jC) (X : Cx) (C : Cs) (W : WX) (e : Expr) (f : aq → R Bool) : Prop := ∃ tt, PT X e tt ∧ fV C (ZW XR W) tt f
def JW (XR : jC) (X : Cx) (C : Cs) (W : WX) (e : Expr) (f : aq → R Bool) : Prop := ∃ tt, PW X e tt ∧ fV C (ZW XR W) tt f
def JA (XR : jC) (X : Cx) (C : Cs) (W : WX) (es : List Expr) (f : aq → R (List Val)) : Prop := ∃ ta, PA X es ta ∧ jP C (ZW XR W) ta f
def JK (XR : jC) (X : Cx) (C : Cs) (W : WX) (es : List Keyword) (f : aq → R (List Val)) : Prop := ∃ ta, PK X es ta ∧ jP C (ZW XR W) ta f
def JO (XR : jC) (X : Cx) (C : Cs) (W : WX) (e : Option Expr) (f : aq → R (Option Int)) : Prop := ∃ t, PO X e t ∧ Gj C (ZW XR W) t f
def JI (XR : jC) (X : Cx) (C : Cs) (W : WX) (tg e : Expr) (f : aq → R (List D)) : Prop := ∃ wi, PI X tg e wi ∧ qQ C (ZW XR W) wi f
def JG (X : Cx) (C : Cs) (tg : Expr) (t : Tg) : Prop := ∃ g, PG X tg g ∧ rY C g t.slots (bW t)
def uF (X : Cx) (C : Cs) (tgs : List Expr) (ts : List Tg) : Prop := ∃ g, PGs X tgs g ∧ xq C g (xg ts) (jQ ts)
def JS (XR : jC) (X : Cx) (C : Cs) (W : WX) (s : Stmt) (f : aq → R Fl) : Prop := ∃ t, PS X s t ∧ fK C (ZW XR W) t f
def JB (XR : jC) (X : Cx) (C : Cs) (W : WX) (s : List Stmt) (f : aq → R Fl) : Prop := ∃ t, PSs X s t ∧ fK C (ZW XR W) t f
def runC (d : D) (ρ : aq) : R Val := .ok (.en (.fr d)) ρ
variable {e a b c : Expr} {es : List Expr} {f fa fc : aq → R Val} {fs fk : aq → R (List Val)} {pos p pos' : Pos} {x : Str} {i : Nat}
theorem JE.var (G : Ctx M X C W k N nm fb) (i : Nat) (hi : (N[i]? == some x) = true) (hv : CN nm x = true) (hc : C.cs.contains i = false) : JE XR X C W (.Name x pos) (ao i) := by
  obtain ⟨h1, h2, h3⟩ := oO G hv
  exact ⟨_, pe_var (by rw [G.hN]; exact beq_iff_eq.mp hi) h1 h2 h3, Tc (fun h => by rw [List.contains_iff_mem.mpr h] at hc; cases hc)⟩
theorem JE.YZ (G : Ctx M X C W k N nm fb) (i : Nat) (hi : (N[i]? == some x) = true) (hv : CN nm x = true) : JE XR X C W (.Name x pos) (cJ i) := by
  obtain ⟨h1, h2, h3⟩ := oO G hv
  exact ⟨_, pe_var (by rw [G.hN]; exact beq_iff_eq.mp hi) h1 h2 h3, Py⟩
theorem JE.int {n : Int} {j : Nat} : JE XR X C W (.Constant (.int n) j pos) (runC (.int n)) := ⟨_, pe_int, Cp rfl⟩
theorem JE.str {n : Str} {j : Nat} : JE XR X C W (.Constant (.str n) j pos) (runC (.str n)) := ⟨_, pe_str, Cp rfl⟩
theorem JE.bl {n : Bool} {j : Nat} : JE XR X C W (.Constant (.bool n) j pos) (runC (.bl n)) := ⟨_, pe_bl, Cp rfl⟩
theorem JE.non {j : Nat} : JE XR X C W (.Constant .none j pos) (runC .non) := ⟨_, pe_non, Cp rfl⟩
theorem JE.F (h : JE XR X C W e f) : JE XR X C W e (aM f) := by
  obtain ⟨te, h1, h2⟩ := h
  exact ⟨te, h1, Cq h2⟩
/-! operators -/
def Kg (op : Operator) (g : En → En → Option En) : Prop := ∀ X : Cx, X.A.units + 199 < cLine → ∃ r, OpR X (binaryOp op) r ∧ wQ X.K r g
def zY (op : CmpOp) (g : En → En → Option En) : Prop := ∀ X : Cx, X.A.units + 199 < cLine → ∃ r, OpR X (compareOp op) r ∧ wQ X.K r g
def UnJ (op : UnaryOp) (g : En → Option En) : Prop := ∀ X : Cx, ∃ r, UnR X (unaryOp op) r ∧ UnS X.K r g
theorem JE.op {op : Operator} {g : En → En → Option En} (G : Ctx M X C W k N nm fb) (h : Kg op g) (ha : JE XR X C W a fa) (hb : JE XR X C W b f) : JE XR X C W (.BinOp a op b pos) (aA g fa f) := by
  obtain ⟨ta, a1, a2⟩ := ha
  obtain ⟨tb, b1, b2⟩ := hb
  obtain ⟨r, r1, r2⟩ := h X G.un
  exact ⟨_, pe_op r1 a1 b1, rR (by rw [← G.hK]; exact r2) a2 b2⟩
theorem JE.un {op : UnaryOp} {g : En → Option En} (G : Ctx M X C W k N nm fb) (h : UnJ op g) (ha : JE XR X C W a fa) : JE XR X C W (.UnaryOp op a pos) (JM g fa) := by
  obtain ⟨ta, a1, a2⟩ := ha
  obtain ⟨r, r1, r2⟩ := h X
  exact ⟨_, pe_un r1 a1, Yt (by rw [← G.hK]; exact r2) a2⟩
theorem JE.cmp {op : CmpOp} {g : En → En → Option En} (G : Ctx M X C W k N nm fb) (h : zY op g) (ha : JE XR X C W a fa) (hb : JE XR X C W b f) (hm : behindInMarks op b = false := by first | exact nomark _ | rfl) : JE XR X C W (.Compare a [op] [b] pos) (aA g fa f) := by
  obtain ⟨ta, a1, a2⟩ := ha
  obtain ⟨tb, b1, b2⟩ := hb
  obtain ⟨r, r1, r2⟩ := h X G.un
  exact ⟨_, pe_cmpR r1 a1 b1 hm, rR (by rw [← G.hK]; exact r2) a2 b2⟩
theorem JT.cmp {op : CmpOp} {g : En → En → Option En} (G : Ctx M X C W k N nm fb) (h : zY op g) (ha : JE XR X C W a fa) (hb : JE XR X C W b f) (hm : behindInMarks op b = false := by first | exact nomark _ | rfl) : JT XR X C W (.Compare a [op] [b] pos) (bB (aA g fa f)) := by
  obtain ⟨ta, a1, a2⟩ := ha
  obtain ⟨tb, b1, b2⟩ := hb
  obtain ⟨r, r1, r2⟩ := h X G.un
  exact ⟨_, pt_cmpR r1 a1 b1 hm, MK (rR (by rw [← G.hK]; exact r2) a2 b2)⟩
def cI : En → En → Option En := fun a b => (MP (fun _ _ => true) (fun i j => i + j) a b).or ((abG a b).or ((TQ a b).or (Tv a b)))
def gSub : En → En → Option En := MP (fun _ _ => true) fun i j => i - j
def dH : En → En → Option En := fun a b => (MP wW (fun i j => i * j) a b).or ((abH a b).or (M4 a b))
def CQ : En → En → Option En := MP Gn fun i j => i / j
def oR : En → En → Option En := MP aaT fun i j => i % j
def lC : En → En → Option En := MP Gp fun i j => i ^ j.toNat
theorem iU : Kg .Add cI := fun X _ => ⟨_, op_add.or (op_cat.or (Yq.or op_add_str)), aaS.or (adZ.or (abI.or abF))⟩
theorem ab5 : Kg .Sub gSub := fun X _ => ⟨_, op_sub, aaS⟩
theorem mQ : Kg .Mult dH := fun X _ => ⟨_, DM.op_mulX.or (op_rep.or (Yr.or Yw)), (Yx fun _ _ h => h).or (ad0.or abJ)⟩
theorem Kh : Kg .FloorDiv CQ := fun X _ => ⟨_, op_fdivW, Yx fun _ _ h => TF h⟩
theorem rC : Kg .Mod oR := fun X _ => ⟨_, op_mod, Yx fun _ _ h => of_decide_eq_true h⟩
theorem rD : Kg .Pow lC := fun X _ => ⟨_, op_pow, Yx fun _ _ h => TJ h⟩
def gLt : En → En → Option En := g2B fun i j => decide (i < j)
def gLe : En → En → Option En := g2B fun i j => decide (i ≤ j)
def gGt : En → En → Option En := g2B fun i j => decide (j < i)
def gGe : En → En → Option En := g2B fun i j => decide (j ≤ i)
theorem ael : zY .Lt gLt := fun X _ => ⟨_, op_lt, abE⟩
theorem aa1 : zY .Gt gGt := fun X _ => ⟨_, op_gt, abE⟩
theorem aem : zY .GtE gGe := fun X _ => ⟨_, op_ge, abE⟩
theorem sH : zY .Eq (fW false) := fun X h => ⟨_, op_eqD (by omega), af9⟩
theorem G3 : zY .NotEq (fW true) := fun X h => ⟨_, op_neD (by omega), aga⟩
theorem ab6 : zY .Is (jL false) := fun X _ => ⟨_, op_isN, ad2⟩
theorem Nh : zY .IsNot (jL true) := fun X _ => ⟨_, op_notN, abM⟩
theorem JE.ife {ft : aq → R Bool} (hc : JT XR X C W c ft) (ha : JE XR X C W a fa) (hb : JE XR X C W b f) : JE XR X C W (.IfExp c a b pos) (bH ft fa f) := by
  obtain ⟨tc, c1, c2⟩ := hc
  obtain ⟨ta, a1, a2⟩ := ha
  obtain ⟨tb, b1, b2⟩ := hb
  exact ⟨_, pe_ifExp c1 a1 b1, Yv c2 a2 b2⟩
theorem JE.and (ha : JE XR X C W a fa) (hb : JE XR X C W (.BoolOp .And (b :: es) pos) f) : JE XR X C W (.BoolOp .And (a :: b :: es) pos) (dU fa f) := by
  obtain ⟨ta, a1, a2⟩ := ha
  obtain ⟨tb, b1, b2⟩ := hb
  exact ⟨_, pe_and a1 b1, Qc a2 b2⟩
theorem JE.or (ha : JE XR X C W a fa) (hb : JE XR X C W (.BoolOp .Or (b :: es) pos) f) : JE XR X C W (.BoolOp .Or (a :: b :: es) pos) (Cr fa f) := by
  obtain ⟨ta, a1, a2⟩ := ha
  obtain ⟨tb, b1, b2⟩ := hb
  exact ⟨_, pe_or a1 b1, Tr a2 b2⟩
theorem JE.not (ha : JE XR X C W a fa) : JE XR X C W (.UnaryOp .Not a pos) (v9 fa) := by
  obtain ⟨ta, a1, a2⟩ := ha
  exact ⟨_, pe_not a1, Qe a2⟩
theorem JT.not {ft : aq → R Bool} (ha : JT XR X C W a ft) : JT XR X C W (.UnaryOp .Not a pos) (dR ft) := by
  obtain ⟨ta, a1, a2⟩ := ha
  exact ⟨_, pt_not a1, Qa a2⟩
theorem JW.pt {ft : aq → R Bool} (ha : JW XR X C W a ft) : JT XR X C W a ft := by
  obtain ⟨ta, a1, a2⟩ := ha
  exact ⟨_, a1.pt, a2⟩
theorem JW.Kl {ft : aq → R Bool} (ha : JT XR X C W a ft) : JW XR X C W (.BoolOp .And [a] pos) ft := by
  obtain ⟨ta, a1, a2⟩ := ha
  exact ⟨_, pw_and1 a1, a2⟩
theorem JW.or1 {ft : aq → R Bool} (ha : JT XR X C W a ft) : JW XR X C W (.BoolOp .Or [a] pos) ft := by
  obtain ⟨ta, a1, a2⟩ := ha
  exact ⟨_, pw_or1 a1, a2⟩
theorem JW.and {ft gt : aq → R Bool} (ha : JT XR X C W a ft) (hb : JW XR X C W (.BoolOp .And (b :: es) pos) gt) : JW XR X C W (.BoolOp .And (a :: b :: es) pos) (gH ft gt) := by
  obtain ⟨ta, a1, a2⟩ := ha
  obtain ⟨tb, b1, b2⟩ := hb
  exact ⟨_, pw_and a1 b1, P0 a2 b2⟩
theorem JW.or {ft gt : aq → R Bool} (ha : JT XR X C W a ft) (hb : JW XR X C W (.BoolOp .Or (b :: es) pos) gt) : JW XR X C W (.BoolOp .Or (a :: b :: es) pos) (eG ft gt) := by
  obtain ⟨ta, a1, a2⟩ := ha
  obtain ⟨tb, b1, b2⟩ := hb
  exact ⟨_, pw_or a1 b1, Tq a2 b2⟩
theorem JT.tru (G : Ctx M X C W k N nm fb) (ha : JE XR X C W a fa) (he : ∀ whole, isTrue a X.env whole = (do let v ← whole; standAt a.pos; holding [v] (truthy v)) := by intro _; rfl) : JT XR X C W a (kJ fa) := by
  obtain ⟨ta, a1, a2⟩ := ha
  refine ⟨_, pt_truth a1 he, ?_⟩
  rw [G.hK]
  exact PL a2
/-! displays, subscripts -/
theorem JA.nil : JA XR X C W [] ak := ⟨_, pa_nil, kh⟩
theorem JA.cons (ha : JE XR X C W e fa) (hs : JA XR X C W es fs) (h : starEach (e :: es) X.env = (false, eval e X.env) :: starEach es X.env := by rfl) : JA XR X C W (e :: es) (aj fa fs) := by
  obtain ⟨ta, a1, a2⟩ := ha
  obtain ⟨tb, b1, b2⟩ := hs
  exact ⟨_, pa_cons a1 b1 h, uH a2 b2⟩
theorem JK.nil : JK XR X C W [] ak := ⟨_, pk_nil, kh⟩
theorem JK.cons {n : Option Str} {kws : List Keyword} (ha : JE XR X C W e fa) (hs : JK XR X C W kws fs) : JK XR X C W (⟨n, e, pos⟩ :: kws) (aj fa fs) := by
  obtain ⟨ta, a1, a2⟩ := ha
  obtain ⟨tb, b1, b2⟩ := hs
  exact ⟨_, pk_cons a1 b1, uH a2 b2⟩
theorem JE.tup {j : Nat} (h : JA XR X C W es fs) : JE XR X C W (.Tuple es j pos) (aK fs) := by
  obtain ⟨t, h1, h2⟩ := h
  exact ⟨_, Yp h1, Tn h2⟩
theorem JE.lst (h : JA XR X C W es fs) : JE XR X C W (.List es pos) (aP fs) := by
  obtain ⟨t, h1, h2⟩ := h
  exact ⟨_, pe_lst h1, Tp h2⟩
theorem JE.ix (G : Ctx M X C W k N nm fb) (ha : JE XR X C W a fa) (hb : JE XR X C W b f) (hs : PlainIx b := by intro _ _; rfl) : JE XR X C W (.Subscript a b pos) (aA eZ fa f) := by
  obtain ⟨ta, a1, a2⟩ := ha
  obtain ⟨tb, b1, b2⟩ := hb
  exact ⟨_, pe_ix (ix_seq (X := X)) a1 b1 hs, rR (by rw [G.hK]; exact agb) a2 b2⟩
theorem JO.no : JO XR X C W none Uq := ⟨_, po_none, Ur⟩
theorem JO.some (h : JE XR X C W e f) : JO XR X C W (some e) (CJ f) := by
  obtain ⟨t, h1, h2⟩ := h
  exact ⟨_, po_some h1, Kd h2⟩
theorem JE.sl {lo hi : Option Expr} {fl fh : aq → R (Option Int)} (G : Ctx M X C W k N nm fb) (h : JE XR X C W e f) (hl : JO XR X C W lo fl) (hh : JO XR X C W hi fh) : JE XR X C W (.Subscript e (.Slice lo hi none p) pos) (Ut f fl fh) := by
  obtain ⟨t, h1, h2⟩ := h
  obtain ⟨tl, l1, l2⟩ := hl
  obtain ⟨th, k1, k2⟩ := hh
  refine ⟨_, pe_slice (agf (X := X)) h1 l1 k1, ?_⟩
  rw [G.hK]
  exact YT h2 l2 k2
def FnJ (x : Str) (id : String) (g : List En → Option En) : Prop := bootBuiltins x = some (.builtin id) ∧ ∀ X : Cx, X.calm = true → X.A.guards = some [] → X.A.units + 199 < cLine → ∃ r, CallR X (.builtin id) r ∧ j9 X.K r g
def TyJ (x : Str) (id : String) (g : List En → Option En) : Prop := bootBuiltins x = some (.type id) ∧ ∀ X : Cx, X.calm = true → ∃ r, CallR X (.type id) r ∧ j9 X.K r g
theorem JE.fn {id : String} {g : List En → Option En} (G : Ctx M X C W k N nm fb) (h : FnJ x id g) (hm : M.mg x = none) (hg : zU nm x = true) (ha : JA XR X C W (e :: es) fs)
    (he : starEach (e :: es) X.env = (false, eval e X.env) :: starEach es X.env := by rfl) (hpl : (backTo pos (starEach es X.env)).any (·.1) = false := by rfl) : JE XR X C W (.Call (.Name x p) (e :: es) [] pos) (aN g fs) := by
  obtain ⟨g1, g2, g3⟩ := eV G hg
  obtain ⟨t, a1, a2⟩ := ha
  obtain ⟨r, r1, r2⟩ := h.2 X G.calm G.gd G.un
  exact ⟨_, pe_callB r1 g1 (by rw [G.hmg]; exact hm) h.1 a1 g3 g2 he hpl, MF (by rw [← G.hK]; exact r2) a2⟩
theorem JE.ty {id : String} {g : List En → Option En} (G : Ctx M X C W k N nm fb) (h : TyJ x id g) (hm : M.mg x = none) (hg : zU nm x = true) (ha : JA XR X C W (e :: es) fs)
    (he : starEach (e :: es) X.env = (false, eval e X.env) :: starEach es X.env := by rfl) (hpl : (backTo pos (starEach es X.env)).any (·.1) = false := by rfl) : JE XR X C W (.Call (.Name x p) (e :: es) [] pos) (aN g fs) := by
  obtain ⟨g1, g2, g3⟩ := eV G hg
  obtain ⟨t, a1, a2⟩ := ha
  obtain ⟨r, r1, r2⟩ := h.2 X G.calm
  exact ⟨_, pe_callTy r1 g1 (by rw [G.hmg]; exact hm) h.1 a1 g3 g2 he hpl, MF (by rw [← G.hK]; exact r2) a2⟩
theorem sJ : FnJ "len" "len" dW := ⟨by decide +kernel, fun X _ _ _ => ⟨_, call_len, ad7⟩⟩
theorem aa2 : FnJ "abs" "abs" CG := ⟨boot_abs, fun X _ _ _ => ⟨_, call_abs, ad8⟩⟩
theorem aa3 : FnJ "all" "all" zV := ⟨by decide +kernel, fun X h _ _ => ⟨_, cr_all h, aea⟩⟩
theorem ab7 : FnJ "min" "min" vI := ⟨by decide +kernel, fun X h _ _ => ⟨_, call_min2 h, abV⟩⟩
theorem UG : FnJ "repr" "repr" mZ := ⟨boot_repr, fun X _ g u => ⟨_, (YQ g (by omega)).or JZ, abY⟩⟩
theorem aa4 : TyJ "int" "int" sE := ⟨boot_int, fun X _ => ⟨_, call_int1, ad9⟩⟩
theorem ab8 : TyJ "list" "list" Bb := ⟨boot_list, fun X _ => ⟨_, call_list_of, abW⟩⟩
theorem UJ : TyJ "tuple" "tuple" g8 := ⟨boot_tuple, fun X _ => ⟨_, Ug, YJ⟩⟩
theorem xO {T : String} (G : Ctx M X C W k N nm fb) (hb : bootBuiltins x = some (.type T)) (hm : M.mg x = none) (hg : zU nm x = true) : PE X (.Name x pos) (tC (.ty T)) := by
  obtain ⟨g1, g2, g3⟩ := eV G hg
  exact pe_bltn g1 (by rw [G.hmg]; exact hm) hb rfl g3 g2
theorem JE.is {T : String} {y : Str} {p2 : Pos} (G : Ctx M X C W k N nm fb) (hm : M.mg "isinstance" = none) (hg : zU nm "isinstance" = true) (hb : bootBuiltins y = some (.type T)) (hm2 : M.mg y = none) (hg2 : zU nm y = true) (h : JE XR X C W e f)
    (he : starEach [e, .Name y p2] X.env = (false, eval e X.env) :: starEach [.Name y p2] X.env := by rfl) : JE XR X C W (.Call (.Name "isinstance" p) [e, .Name y p2] [] pos) (fj T f) := by
  obtain ⟨g1, g2, g3⟩ := eV G hg
  obtain ⟨t, h1, h2⟩ := h
  refine ⟨_, pe_callB call_isi g1 (by rw [G.hmg]; exact hm) boot_isinstance (pa_cons h1 (pa_cons (xO G hb hm2 hg2) pa_nil) he) g3 g2 he rfl, ?_⟩
  rw [G.hK]
  exact YM h2
theorem JE.isT {Ts : List String} {j : Nat} {p2 : Pos} (G : Ctx M X C W k N nm fb) (hm : M.mg "isinstance" = none) (hg : zU nm "isinstance" = true) (ht : PA X es (YL Ts)) (hz : decide (Ts.length ≤ 100) = true) (h : JE XR X C W e f)
    (he : starEach [e, .Tuple es j p2] X.env = (false, eval e X.env) :: starEach [.Tuple es j p2] X.env := by rfl) : JE XR X C W (.Call (.Name "isinstance" p) [e, .Tuple es j p2] [] pos) (pQ Ts f) := by
  obtain ⟨g1, g2, g3⟩ := eV G hg
  obtain ⟨t, h1, h2⟩ := h
  refine ⟨_, pe_callB call_isiT g1 (by rw [G.hmg]; exact hm) boot_isinstance (pa_cons h1 (pa_cons (pe_tup ht) pa_nil) he) g3 g2 he rfl, ?_⟩
  rw [G.hK]
  exact Ul h2 (Nat.le_trans (of_decide_eq_true hz) (by decide))
theorem JE.lrg {p1 p2 : Pos} (G : Ctx M X C W k N nm fb) (hm : M.mg "list" = none) (hg : zU nm "list" = true) (hm2 : M.mg "range" = none) (hg2 : zU nm "range" = true) (h : JE XR X C W e f)
    (na : starEach [e] X.env = (false, eval e X.env) :: starEach [] X.env := by rfl) : JE XR X C W (.Call (.Name "list" p) [.Call (.Name "range" p1) [e] [] p2] [] pos) (lW f) := by
  obtain ⟨g1, _, _⟩ := eV G hg
  obtain ⟨g2, _, _⟩ := eV G hg2
  obtain ⟨t, h1, h2⟩ := h
  exact ⟨_, pe_listRg G.calm g1 (by rw [G.hmg]; exact hm) (prg_1 g2 (by rw [G.hmg]; exact hm2) h1 na), Qy h2⟩
variable {fd : FuncData} {ps ks : List Str} {fA : Addr} {np n : Nat} {perm L cs : List Nat} {run : List En → R En} {kws : List Keyword}
def G4 (perm : List Nat) (np n : Nat) : Bool := decide (perm.length = np) && decide perm.Nodup && perm.all fun i => decide (i < n)
theorem xP {perm : List Nat} {np n : Nat} (h : G4 perm np n = true) : perm.length = np ∧ perm.Nodup ∧ ∀ i ∈ perm, i < n := by
  unfold G4 at h
  rw [Bool.and_eq_true, Bool.and_eq_true, List.all_eq_true] at h
  exact ⟨of_decide_eq_true h.1.1, of_decide_eq_true h.1.2, fun i hi => of_decide_eq_true (h.2 i hi)⟩
theorem JE.call (G : Ctx M X C W k N nm fb) (fn : mO M.P M.w M.K M.mg M.base k fA fd ps (mX M.K np L cs XR run)) (hm : M.mg x = some (.ref fA)) (hk : PySem.W.keepIn M.K (.ref fA) = true) (hb : dJ fd ps [] n perm) (hg : zU nm x = true) (hp : G4 perm np (n + 0) = true)
    (ha : JA XR X C W (e :: es) fs) (he : starEach (e :: es) X.env = (false, eval e X.env) :: starEach es X.env := by rfl) (hpl : (backTo pos (starEach es X.env)).any (·.1) = false := by rfl) :
    JE XR X C W (.Call (.Name x p) (e :: es) [] pos) (au n 0 L perm run fs ak) := by
  obtain ⟨g1, g2, _⟩ := eV G hg
  obtain ⟨t, a1, a2⟩ := ha
  obtain ⟨p1, p2, p3⟩ := xP hp
  refine ⟨_, GX (E := WE W) (sp := mX M.K np L cs XR run) (by rw [G.hP, G.hw, G.CK, G.hmg, G.hbase]; exact fn) G.room G.gd g1 (by rw [G.hmg]; exact hm) (by rw [G.CK]; exact hk) hb (passAt G.tk) a1 g2 he hpl, ?_⟩
  rw [← G.CK, G.hK]
  exact uO a2 kh p1 p2 p3
theorem JE.ab9 {m : Nat} (G : Ctx M X C W k N nm fb) (fn : mO M.P M.w M.K M.mg M.base k fA fd ps (mX M.K np L cs XR run)) (hm : M.mg x = some (.ref fA)) (hk : PySem.W.keepIn M.K (.ref fA) = true) (hb : dJ fd ps ks 0 perm) (hg : zU nm x = true) (hl : ks.length = m) (hp : G4 perm np (0 + m) = true)
    (hkw : JK XR X C W kws fk) (hall : (backToKw pos (keywordEach kws X.env)).all (·.1.isSome) = true := by rfl) (hks : (backToKw pos (keywordEach kws X.env)).filterMap (·.1) = ks := by rfl)
    (hpl : ((backTo pos (starEach [] X.env)).any (·.1) || (backToKw pos (keywordEach kws X.env)).any (·.1.isNone)) = false := by rfl) : JE XR X C W (.Call (.Name x p) [] kws pos) (au 0 m L perm run ak fk) := by
  subst hl
  obtain ⟨g1, g2, _⟩ := eV G hg
  obtain ⟨tk, k1, k2⟩ := hkw
  obtain ⟨p1, p2, p3⟩ := xP hp
  refine ⟨_, Kf (E := WE W) (sp := mX M.K np L cs XR run) (by rw [G.hP, G.hw, G.CK, G.hmg, G.hbase]; exact fn) G.room G.gd g1 (by rw [G.hmg]; exact hm) (by rw [G.CK]; exact hk) hb (passAt G.tk) k1 hall hks g2 hpl, ?_⟩
  rw [← G.CK, G.hK]
  exact uO kh k2 p1 p2 p3
/-! methods of a list -/
def MtJ (name : Str) (id : String) (g : List D → List En → Option (List D × D)) : Prop := Slot "list" name id ∧ typeOf (.builtin id) = pure (.type "method_descriptor") ∧ ∀ X : Cx, X.calm = true → ∃ r, MtR X id r ∧ MtS X.K r g
theorem JE.mut {id : String} {name : Str} {g : List D → List En → Option (List D × D)} {ap cp np : Pos} (G : Ctx M X C W k N nm fb) (i : Nat) (h : MtJ name id g) (hi : (N[i]? == some x) = true) (hv : CN nm x = true) (ha : JA XR X C W (e :: es) fs)
    (hbase : attributeBase (.Name x np) name X.env (eval (.Name x np) X.env) = eval (.Name x np) X.env := by rfl)
    (hfew : ((backTo cp (starEach (e :: es) X.env)).all (fun x => !x.1) && (backToKw cp (keywordEach [] X.env)).all (fun x => x.1.isSome)
      && decide ((e :: es).length + ([] : List Keyword).length + (if ([] : List Keyword).isEmpty then 0 else 1) < 30)) = true := by rfl)
    (hline : (ap.endLine == cp.line) = true := by rfl) (hs : starEach (e :: es) X.env = (false, eval e X.env) :: starEach es X.env := by rfl) (hpl : (backTo cp (starEach es X.env)).any (·.1) = false := by rfl) :
    JE XR X C W (.Call (.Attribute (.Name x np) name ap) (e :: es) [] cp) (dI i g fs) := by
  obtain ⟨v1, v2, v3⟩ := oO G hv
  obtain ⟨t, a1, a2⟩ := ha
  obtain ⟨r, r1, r2⟩ := h.2.2 X G.calm
  refine ⟨_, pe_bm F.plainAttrs_list h.1 h.2.1 r1 (pe_var (by rw [G.hN]; exact beq_iff_eq.mp hi) v1 v2 v3) a1 hbase hfew hline hs hpl, ?_⟩
  rw [G.hK] at r2 ⊢
  exact Uv r2 a2
theorem Bo : MtJ "append" "list.append" dZ := ⟨F.slot_list_append, F.type_list_append, fun X _ => ⟨_, mt_append, Uu⟩⟩
theorem UL : MtJ "pop" "list.pop" oK := ⟨F.slot_list_pop, F.type_list_pop, fun X _ => ⟨_, mt_popAt, YW⟩⟩
end
end DM
end
section
namespace DM
open PySem PySem.Spec PyProof.Rows L2
/-! ### the weakest readings -/
def acd (C : Cs) (Z : ZX) (f : aq → R Val) : TE := fun σ H Q => ∃ (o : Og) (F : Hp) (ρ : aq) (T : Tm), SM C o F H σ ρ T ∧ pJ (f ρ) (fun val ρ' => ∀ F' H' v, SM C o F' H' σ ρ' ((val, v) :: T) → Q v H') (fun x ρ' => ∀ F' H', SM C o F' H' σ ρ' T → Z x F' H' σ ρ')
def agi (C : Cs) (Z : ZX) (f : aq → R Bool) : TT := fun σ H Q => ∃ (o : Og) (F : Hp) (ρ : aq) (T : Tm), SM C o F H σ ρ T ∧ pJ (f ρ) (fun b ρ' => ∀ F' H', SM C o F' H' σ ρ' T → Q b H') (fun x ρ' => ∀ F' H', SM C o F' H' σ ρ' T → Z x F' H' σ ρ')
def ace (C : Cs) (sl : List Nat) (f : D → aq → Option aq) : TG := fun v σ H Q => ∃ (o : Og) (F : Hp) (ρ ρ' : aq) (T : Tm) (d : D), SM C o F H σ ρ T ∧ Dq C.K F d v ∧ (∀ i ∈ sl, kY T i) ∧ f d ρ = some ρ' ∧ (∀ σ', SM C o F H σ' ρ' T → (∀ i, i ∉ sl → σ'[i]? = σ[i]?) → σ'.length = σ.length → Q σ' H)
theorem QC {C : Cs} {Z : ZX} {f : aq → R Val} : Impl C Z (acd C Z f) f := fun o F H σ ρ T Q S q => ⟨o, F, ρ, T, S, q⟩
theorem QD {C : Cs} {sl : List Nat} {f : D → aq → Option aq} : rY C (ace C sl f) sl f := fun o F H σ ρ ρ' T d v Q S r n h q => ⟨o, F, ρ, ρ', T, d, S, r, n, h, q⟩
theorem Impl.imp {C : Cs} {Z Z' : ZX} {te : TE} {f : aq → R Val} (h : Impl C Z te f) (hz : ∀ x F H σ ρ, Z' x F H σ ρ → Z x F H σ ρ) : Impl C Z' te f := fun o F H σ ρ T Q S q => h o F H σ ρ T Q S (aG q (fun _ _ h => h) fun x ρ' h F' H' s => hz _ _ _ _ _ (h F' H' s))
theorem fV.imp {C : Cs} {Z Z' : ZX} {te : TT} {f : aq → R Bool} (h : fV C Z te f) (hz : ∀ x F H σ ρ, Z' x F H σ ρ → Z x F H σ ρ) : fV C Z' te f := fun o F H σ ρ T Q S q => h o F H σ ρ T Q S (aG q (fun _ _ h => h) fun x ρ' h F' H' s => hz _ _ _ _ _ (h F' H' s))
abbrev W0 : WX := fun _ _ _ _ => False
section
variable {XR : jC} {M : Wd} {X : Cx} {C : Cs} {W : WX} {k : Nat} {N : List Str} {nm : List (Str × NameKind)} {fb : Str → Bool}
variable {e e2 a b c tg : Expr} {es : List Expr} {f fa fc : aq → R Val} {fs fk : aq → R (List Val)} {pos p pos' tpos : Pos} {x y : Str} {i j kk : Nat}
theorem JE.can (h : JE XR X C W e f) : PE X e (acd C (ZW XR W) f) := by
  obtain ⟨te, h1, h2⟩ := h
  refine ⟨fun pins s σ H Q I ⟨o, F, ρ, T, S, q⟩ => h1.run pins s σ H Q I (h2 o F H σ ρ T Q S q)⟩
theorem JT.can {f : aq → R Bool} (h : JT XR X C W e f) : PT X e (agi C (ZW XR W) f) := by
  obtain ⟨te, h1, h2⟩ := h
  refine ⟨fun pins s σ H Q I ⟨o, F, ρ, T, S, q⟩ => h1.run pins s σ H Q I (h2 o F H σ ρ T Q S q)⟩
theorem JG.can {t : Tg} (h : JG X C e t) : PG X e (ace C t.slots (bW t)) := by
  obtain ⟨g, h1, h2⟩ := h
  refine ⟨fun pins s σ H v u Q I r ⟨o, F, ρ, ρ', T, d, S, rd, n, hd, q⟩ => h1.run pins s σ H v u Q I r (h2 o F H σ ρ ρ' T d v Q S rd n hd q)⟩
/-! ### targets -/
theorem JG.n (G : Ctx M X C W k N nm fb) (i : Nat) (hi : (N[i]? == some x) = true) (hl : Uy nm fb x = true) (hL : C.L.contains i = false) : JG X C (.Name x pos) (.n i) := by
  obtain ⟨h1, h2⟩ := CP G hl
  exact ⟨_, pg_name (by rw [G.hN]; exact G.nd) (by rw [G.hN]; exact beq_iff_eq.mp hi) h1 h2, YD fun h => by rw [List.contains_iff_mem.mpr h] at hL; cases hL⟩
theorem uF.nil : uF X C [] [] := ⟨_, pgs_nil, J9⟩
theorem uF.cons {t : Tg} {ts : List Tg} (h : JG X C e t) (hs : uF X C es ts) (ha : (assignEach (e :: es) X.env).map (·.2) = assign e X.env :: (assignEach es X.env).map (·.2) := by rfl) : uF X C (e :: es) (t :: ts) := by
  obtain ⟨g, h1, h2⟩ := h
  obtain ⟨gs, k1, k2⟩ := hs
  exact ⟨_, pgs_cons h1 k1 ha, Gv h2 k2⟩
theorem JG.t {ts : List Tg} {n : Nat} (G : Ctx M X C W k N nm fb) (h : uF X C es ts) (hl : (ts.length == n) = true) (hn : (assignEach es X.env).length = n := by rfl) (hst : (assignEach es X.env).findIdx? (·.1) = none := by rfl) : JG X C (.Tuple es kk pos) (.t ts) := by
  obtain ⟨g, h1, h2⟩ := h
  refine ⟨_, ad6 (n := n) G.calm h1 hn hst, ?_⟩
  rw [G.hK]
  exact YF (beq_iff_eq.mp hl) h2
/-! ### what is walked -/
theorem JI.seq (G : Ctx M X C W k N nm fb) (h : JE XR X C W e f) : JI XR X C W tg e (bY f) := by
  obtain ⟨t, h1, h2⟩ := h
  refine ⟨_, abO h1, ?_⟩
  rw [G.hK]
  exact Qm h2
theorem G5 {n : Nat} {fs : aq → R (List Val)} (h : ∀ ρ ρ' as, fs ρ = .ok as ρ' → as.length = n) : ∀ ρ ρ' as, aj f fs ρ = .ok as ρ' → as.length = n + 1 := by
  intro ρ ρ' as q
  unfold aj at q
  cases z : f ρ with
  | bad => rw [z] at q; cases q
  | exc x r => rw [z] at q; cases q
  | ok a r =>
    rw [z] at q
    replace q : (fs r).bind (fun as ρ2 => R.ok (a :: as) ρ2) = R.ok as ρ' := q
    cases z2 : fs r with
    | bad => rw [z2] at q; cases q
    | exc x r => rw [z2] at q; cases q
    | ok bs r2 =>
      rw [z2] at q
      cases q
      rw [List.length_cons, h _ _ _ z2]
theorem Km : ∀ ρ ρ' as, ak ρ = .ok as ρ' → as.length = 0 := by
  intro ρ ρ' as q
  cases q
  rfl
theorem JI.rg1 (G : Ctx M X C W k N nm fb) (hm : M.mg "range" = none) (hg : zU nm "range" = true) (h : JE XR X C W e f) (hs : starEach [e] X.env = [(false, eval e X.env)] := by rfl) : JI XR X C W tg (.Call (.Name "range" p) [e] [] pos) (gD (aj f ak)) := by
  obtain ⟨g1, _, _⟩ := eV G hg
  obtain ⟨t, h1, h2⟩ := h
  exact ⟨_, pi_range1 g1 (by rw [G.hmg]; exact hm) (pa_cons h1 pa_nil hs) hs, Qn (uH h2 kh) (G5 Km)⟩
theorem JI.zip (G : Ctx M X C W k N nm fb) (hm : M.mg "zip" = none) (hg : zU nm "zip" = true) (h : JE XR X C W e f) (h' : JE XR X C W e2 fa) (hs : starEach [e, e2] X.env = (false, eval e X.env) :: starEach [e2] X.env := by rfl) (hs2 : starEach [e2] X.env = [(false, eval e2 X.env)] := by rfl)
    (hpl : (backTo pos (starEach [e2] X.env)).any (·.1) = false := by rfl) : JI XR X C W (.Tuple es kk tpos) (.Call (.Name "zip" p) [e, e2] [] pos) (fJ f fa) := by
  obtain ⟨g1, _, _⟩ := eV G hg
  obtain ⟨t, h1, h2⟩ := h
  obtain ⟨t', k1, k2⟩ := h'
  refine ⟨_, Yz g1 (by rw [G.hmg]; exact hm) (pa_cons h1 (pa_cons k1 pa_nil hs2) hs) hs hpl, ?_⟩
  rw [G.hK]
  exact Qo h2 k2
/-! ### comprehensions -/
def Y0 (N : List Str) (nm : List (Str × NameKind)) (scope : Scope) (own : List (Str × Nat)) : Bool :=
  (scope.kind == .function) && (scope.names.all fun y => scope.names.lookup y.1 == some y.2) && (own.all fun p => N[p.2]? == some p.1) &&
  (scope.names.all fun y => !(y.2 == .free) || (nm.lookup y.1 == some .cell || nm.lookup y.1 == some .free)) &&
  (scope.names.all fun y => !(y.2 == .local || y.2 == .cell) || ((own.map (·.1)).contains y.1 || !N.contains y.1))
theorem Y4 (G : Ctx M X C W k N nm fb) {scope : Scope} {own : List (Str × Nat)} (h : Y0 N nm scope own = true) : BlkOk X.N X.env.scope scope own := by
  unfold Y0 at h
  simp only [Bool.and_eq_true, List.all_eq_true, beq_iff_eq, Bool.or_eq_true, Bool.not_eq_true', beq_eq_false_iff_ne, List.contains_iff_mem] at h
  obtain ⟨⟨⟨⟨h1, h2⟩, h3⟩, h4⟩, h5⟩ := h
  refine ⟨h1, h2, fun p hp => by rw [G.hN]; exact h3 p hp, fun y hy hf => ?_, fun y hy hf => ?_⟩
  · rw [G.hnm]
    rcases h4 y hy with h | h
    · exact absurd hf h
    · exact h
  · rw [G.hN]
    rcases h5 y hy with h | h
    · simp only [Bool.or_eq_false_iff, beq_eq_false_iff_ne] at h
      rcases hf with hf | hf
      · exact absurd hf h.1
      · exact absurd hf h.2
    · rcases h with h | h
      · exact .inl h
      · right
        intro z
        rw [List.contains_iff_mem.mpr z] at h
        cases h
theorem Ctx.blk (G : Ctx M X C W k N nm fb) {scope : Scope} (hk : scope.kind = .function) (s : Shared) (H : Hp) (A : Addr) (cl : List (Str × Addr)) (fp : List Addr) :
    Ctx M (X.blk s H scope (compEnvC scope cl A X.env) fp) C W0 k N (ab3 scope.names nm) (fun x => scope.names.lookup x == some .cell) where
  hP := G.hP
  hw := G.hw
  CK := G.CK
  hmg := G.hmg
  hbase := G.hbase
  hK := G.hK
  calm := G.calm
  gd := G.gd
  room := G.room
  tk := takes0
  hN := G.hN
  nd := G.nd
  hnm := by
    show (relS scope X.env.scope).names = _
    unfold relS ab3
    rw [G.hnm, G.hkd]
    simp only [beq_self_eq_true, Bool.and_true]
  hkd := hk
  hfn := fun x h => h
def Y5 (C : Cs) (own : List (Str × Nat)) (sl : List Nat) : Bool := (own.all fun p => C.cs.contains p.2 && !C.L.contains p.2) && sl.all fun i => (own.map (·.2)).contains i
theorem Y6 {own : List (Str × Nat)} {sl : List Nat} (h : Y5 C own sl = true) : (∀ i ∈ own.map (·.2), i ∈ C.cs) ∧ (∀ i ∈ own.map (·.2), i ∉ C.L) ∧ ∀ i ∈ sl, i ∈ own.map (·.2) := by
  unfold Y5 at h
  simp only [Bool.and_eq_true, List.all_eq_true, Bool.not_eq_true', List.contains_iff_mem] at h
  refine ⟨fun i hi => ?_, fun i hi z => ?_, h.2⟩
  · obtain ⟨p, hp, rfl⟩ := List.mem_map.mp hi
    exact (h.1 p hp).1
  · obtain ⟨p, hp, rfl⟩ := List.mem_map.mp hi
    have := (h.1 p hp).2
    rw [List.contains_iff_mem.mpr z] at this
    cases this
abbrev Blks (M : Wd) (X : Cx) (C : Cs) (k : Nat) (N : List Str) (nm : List (Str × NameKind)) (scope : Scope) (P : Cx → Prop) : Prop :=
  ∀ Y : Cx, Ctx M Y C W0 k N (ab3 scope.names nm) (fun x => scope.names.lookup x == some .cell) → P Y
theorem UW {own : List (Str × Nat)} {t : Tg} {scope : Scope} {fi : aq → R (List D)} {ft : aq → R Bool} {fe : aq → R Val} {tt : TT} {wi : TI} (G : Ctx M X C W k N nm fb) (ok : Y0 N nm scope own = true) (ho : Y5 C own t.slots = true) (hi : qQ C (ZW XR W) wi fi) (ht : fV C ZF tt ft) :
    Impl C (ZW XR W) (tLc wi (ace C t.slots (bW t)) tt (acd C (ZW XR W0) fe) (own.map (·.2))) (iz (own.map (·.2)) fi (bW t) ft fe) := by
  obtain ⟨o1, o2, o3⟩ := Y6 ho
  exact YG hi QD ht (QC.imp fun x F H σ ρ h => h.elim) o1 o2 o3
def dB (ρ : aq) : R Bool := .ok true ρ
theorem U0 {Z : ZX} : fV C Z tYes dB := fun o F H σ ρ T Q S q => q F H S
theorem JE.lc {elt iter : Expr} {scope : Scope} {t : Tg} {fi : aq → R (List D)} {fe : aq → R Val} (G : Ctx M X C W k N nm fb) (own : List (Str × Nat)) (ok : Y0 N nm scope own = true) (ho : Y5 C own t.slots = true) (hi : JI XR X C W tg iter fi)
    (hg : Blks M X C k N nm scope fun Y => JG Y C tg t) (he : Blks M X C k N nm scope fun Y => JE XR Y C W0 elt fe) (hs : ∀ x, foldedSetIterable iter X.env x = pure x := by intro _; rfl) :
    JE XR X C W (.ListComp elt [⟨tg, iter, [], 0⟩] scope pos) (iz (own.map (·.2)) fi (bW t) dB fe) := by
  obtain ⟨wi, i1, i2⟩ := hi
  have bk := Y4 G ok
  exact ⟨_, pe_lc G.calm (by rw [G.hN]; exact G.nd) i1 bk (fun s H A cl fp => (hg _ (G.blk bk.kind s H A cl fp)).can) (fun s H A cl fp => pts_nil) (fun s H A cl fp => (he _ (G.blk bk.kind s H A cl fp)).can) hs, UW G ok ho i2 U0⟩
theorem JB.nil : JB XR X C W [] (fun ρ => .ok .nx ρ) := ⟨_, pss_nil, Ba⟩
theorem JB.cons {s : Stmt} {ss : List Stmt} {f g : aq → R Fl} (h : JS XR X C W s f) (h' : JB XR X C W ss g) : JB XR X C W (s :: ss) (aJ f g) := by
  obtain ⟨t, h1, h2⟩ := h
  obtain ⟨u, k1, k2⟩ := h'
  exact ⟨_, pss_cons h1 k1, Kc h2 k2⟩
theorem JB.one {s : Stmt} {f : aq → R Fl} (h : JS XR X C W s f) : JB XR X C W [s] f := by
  obtain ⟨t, h1, h2⟩ := h
  refine ⟨_, pss_cons h1 pss_nil, fun o F H σ ρ D S q => h2 o F H σ ρ D S q⟩
theorem Y7 {L : List Nat} {i : Nat} (h : L.contains i = false) : i ∉ L := fun z => by rw [List.contains_iff_mem.mpr z] at h; cases h
theorem JS.asg {keep : Bool} (G : Ctx M X C W k N nm fb) (i : Nat) (hi : (N[i]? == some x) = true) (hl : Uy nm fb x = true) (hL : C.L.contains i = false) (h : JE XR X C W e f) (hs : swapsWith e (some (.Name x pos')) pos.line X.env = pure false := by rfl) :
    JS XR X C W (.Assign [.Name x pos'] e pos) (aR keep i f) := by
  obtain ⟨h1, h2⟩ := CP G hl
  obtain ⟨t, t1, t2⟩ := h
  exact ⟨_, ps_set (by rw [G.hN]; exact G.nd) (by rw [G.hN]; exact beq_iff_eq.mp hi) h1 t1 hs h2, Qp t2 (Y7 hL)⟩
theorem JS.bW {t : Tg} (h : JE XR X C W e f) (hg : JG X C tg t) (hs : swapsWithSole [tg] e pos.line X.env = pure false := by rfl) (hw : swappedStores [tg] e X.env = pure none := by rfl) (h1 : (assignEach [tg] X.env).map (·.2) = [assign tg X.env] := by rfl) :
    JS XR X C W (.Assign [tg] e pos) (Cz t f) := by
  obtain ⟨t', t1, t2⟩ := h
  obtain ⟨g, g1, g2⟩ := hg
  exact ⟨_, ps_asg t1 g1 hs hw h1, Ka t2 g2⟩
def Bp : Expr → Bool
  | .Starred .. => true
  | _ => false
theorem acf {px py pt pt2 : Pos} {kt k2 : Nat} (G : Ctx M X C W k N nm fb) (hx : (nm.lookup x == some .local) = true) (hy : (nm.lookup y == some .local) = true) (hne : (x == y) = false) (hln : (py.line == px.line) = true) (hst : (Bp a || Bp b) = false)
    (hf : [a, b].all (foldedForSure 8) = false) (hc : [a, b].all (constantsAlone 8) = false) : swappedStores [.Tuple [.Name x px, .Name y py] kt pt] (.Tuple [a, b] k2 pt2) X.env = pure (some [x, y]) := by
  have kx : X.env.kindOf x = some .local := by
    show X.env.scope.names.lookup x = some .local
    rw [G.hnm]; exact beq_iff_eq.mp hx
  have ky : X.env.kindOf y = some .local := by
    show X.env.scope.names.lookup y = some .local
    rw [G.hnm]; exact beq_iff_eq.mp hy
  have kb : X.env.blockKind = .function := by unfold Env.blockKind; rw [G.hkd]; rfl
  have ne' : (y == x) = false := by rw [BEq.comm]; exact hne
  unfold swappedStores
  simp only [kb, hf, hc, kx, ky, hln, List.filterMap_cons, List.filterMap_nil, List.head?_cons, Option.map_some, Option.getD_some, Expr.pos, beq_self_eq_true, Bool.and_true, if_true, List.length_cons, List.length_nil]
  have ed : [x, y].eraseDups = [x, y] := by
    simp [List.eraseDups_cons, ne', hne, List.filter_cons, List.filter_nil]
  simp [ed]
  rw [Bool.or_eq_false_iff] at hst
  rintro (h | h)
  · cases a <;> simp_all [Bp]
  · cases b <;> simp_all [Bp]
theorem JS.par {k1 k2 : Bool} {px py pt pt2 : Pos} {kt kv : Nat} {fb' : aq → R Val} (G : Ctx M X C W k N nm fb) (i j : Nat) (hi : (N[i]? == some x) = true) (hj : (N[j]? == some y) = true) (hij : (i == j) = false) (hx : (nm.lookup x == some .local) = true) (hy : (nm.lookup y == some .local) = true) (hne : (x == y) = false)
    (hL : C.L.contains i = false) (hL2 : C.L.contains j = false) (ha : JE XR X C W a fa) (hb : JE XR X C W b fb')
    (hln : (py.line == px.line) = true := by rfl) (hst : (Bp a || Bp b) = false := by rfl) (hf : [a, b].all (foldedForSure 8) = false := by rfl) (hc : [a, b].all (constantsAlone 8) = false := by rfl)
    (hs : swapsWithSole [.Tuple [.Name x px, .Name y py] kt pt] (.Tuple [a, b] kv pt2) pos.line X.env = pure false := by rfl) (hst2 : starEach [a, b] X.env = (false, eval a X.env) :: starEach [b] X.env := by rfl) (hst3 : starEach [b] X.env = (false, eval b X.env) :: starEach [] X.env := by rfl) :
    JS XR X C W (.Assign [.Tuple [.Name x px, .Name y py] kt pt] (.Tuple [a, b] kv pt2) pos) (jM k1 k2 i j fa fb') := by
  obtain ⟨ta, a1, a2⟩ := ha
  obtain ⟨tb, b1, b2⟩ := hb
  exact ⟨_, ps_par G.calm (by rw [G.hN]; exact G.nd) (by rw [G.hN]; exact beq_iff_eq.mp hi) (by rw [G.hN]; exact beq_iff_eq.mp hj) (beq_eq_false_iff_ne.mp hij) (by rw [G.hnm]; exact beq_iff_eq.mp hx) (by rw [G.hnm]; exact beq_iff_eq.mp hy)
    (pa_cons a1 (pa_cons b1 pa_nil hst3) hst2) (acf G hx hy hne hln hst hf hc) hs, Qq a2 b2 (Y7 hL) (Y7 hL2)⟩
theorem JS.sto {ix : Expr} {op : Pos} {fe : aq → R Val} (G : Ctx M X C W k N nm fb) (i : Nat) (hi : (N[i]? == some x) = true) (hv : CN nm x = true) (he : JE XR X C W e fe) (hx : JE XR X C W ix f)
    (ha : ∀ v, assign (.Subscript (.Name x op) ix p) X.env v = (do
      let ov ← holding [v] (eval (.Name x op) X.env)
      let iv ← holding [v, ov] (eval ix X.env)
      standAt p
      holding [v, ov, iv] (setItem ov iv v)
      release [v, ov, iv] []) := by intro _; rfl) (hs : swapsWithSole [.Subscript (.Name x op) ix p] e pos.line X.env = pure false := by rfl) (hw : swappedStores [.Subscript (.Name x op) ix p] e X.env = pure none := by rfl) (h1 : (assignEach [.Subscript (.Name x op) ix p] X.env).map (·.2) = [assign (.Subscript (.Name x op) ix p) X.env] := by rfl) :
    JS XR X C W (.Assign [.Subscript (.Name x op) ix p] e pos) (oJ i fe f) := by
  obtain ⟨v1, v2, v3⟩ := oO G hv
  obtain ⟨t, t1, t2⟩ := he
  obtain ⟨u, u1, u2⟩ := hx
  exact ⟨_, ps_asg t1 (pg_sub (pe_var (by rw [G.hN]; exact beq_iff_eq.mp hi) v1 v2 v3) u1 set_list ha) hs hw h1, Qv t2 u2⟩
theorem JS.ret (h : JE XR X C W e f) : JS XR X C W (.Return (some e) pos) (aO C.L f) := by
  obtain ⟨t, h1, h2⟩ := h
  exact ⟨_, ps_ret h1, Qt h2⟩
theorem JS.ex (h : JE XR X C W e f) (hs : swapsWith e none pos.line X.env = pure false := by rfl) : JS XR X C W (.Expr e pos) (iJ f) := by
  obtain ⟨t, h1, h2⟩ := h
  exact ⟨_, ps_expr h1 hs, Ua h2⟩
theorem JS.brk : JS XR X C W (.Break pos) (fun ρ => .ok .bk ρ) := ⟨_, ps_break, Qs⟩
theorem JS.pass : JS XR X C W (.Pass pos) (fun ρ => .ok .nx ρ) := ⟨_, ps_pass, Ba⟩
theorem JS.if {s1 s2 : List Stmt} {ft : aq → R Bool} {g1 g2 : aq → R Fl} (hc : JT XR X C W c ft) (h1 : JB XR X C W s1 g1) (h2 : JB XR X C W s2 g2) : JS XR X C W (.If c s1 s2 pos) (bH ft g1 g2) := by
  obtain ⟨t, c1, c2⟩ := hc
  obtain ⟨u, u1, u2⟩ := h1
  obtain ⟨v, v1, v2⟩ := h2
  exact ⟨_, ps_if c1 u1 v1, T9 c2 u2 v2⟩
theorem JS.for {iter : Expr} {body : List Stmt} {t : Tg} {fi : aq → R (List D)} {g : aq → R Fl} (G : Ctx M X C W k N nm fb) (po : PassesOwn (model X.prog X.w) X.A X.env X.xe) (hi : JI XR X C W tg iter fi) (hg : JG X C tg t) (hb : JB XR X C W body g) (hs : ∀ x, foldedSetIterable iter X.env x = pure x := by intro _; rfl) :
    JS XR X C W (.For tg iter body [] pos) (runFor fi (DM.bW t) g) := by
  obtain ⟨wi, i1, i2⟩ := hi
  obtain ⟨gg, g1, g2⟩ := hg
  obtain ⟨u, u1, u2⟩ := hb
  exact ⟨_, ps_for po G.calm i1 g1 u1 hs, Qu i2 g2 u2⟩
end
/-! ### a def -/
section
variable {XR : jC} {M : Wd} {X : Cx} {C : Cs} {W : WX} {k : Nat} {N : List Str} {nm : List (Str × NameKind)} {fb : Str → Bool} {e a : Expr} {f : aq → R Val} {pos : Pos} {x : Str}
theorem JE.Kl (h : JE XR X C W a f) : JE XR X C W (.BoolOp .And [a] pos) f := by
  obtain ⟨t, h1, h2⟩ := h
  exact ⟨t, ⟨fun pins s σ H Q I q => h1.run pins s σ H Q I q⟩, h2⟩
theorem JE.or1 (h : JE XR X C W a f) : JE XR X C W (.BoolOp .Or [a] pos) f := by
  obtain ⟨t, h1, h2⟩ := h
  exact ⟨t, ⟨fun pins s σ H Q I q => h1.run pins s σ H Q I q⟩, h2⟩
end
end DM
end
section
namespace DM
open PySem PySem.Spec PyProof.Rows L2
theorem Y8 {P : Program} {w : World} {K : PySem.W.Frag} {mg mb : Str → Option Value} {k : Nat} {fa a : Addr} {fd : FuncData} {x : Str} {sp : Sp} {s₁ : Shared} {vs : List Value} {ns : List Int}
    (kin : K.In s₁.heap) (hmg : s₁.heap.Ns mainGlobals mg) (hmb : s₁.heap.Ns builtinsNs mb) (hbb : ∀ x : Str, x ≠ "__name__" → mb x = bootBuiltins x) (hlim : s₁.heap.NoLimit) (hgen : s₁.gens = #[])
    (obj : s₁.heap.get? a = some { cls := .type "list", data := .seq vs.toArray }) (Y9 : IntsAre vs ns) (hz : ns.length ≤ sizeLine) (room : Room k callerA)
    (fn : ∀ base : Heap, K.In base → base.Ns mainGlobals mg → mO P w K mg base k fa fd [x] sp) (bnd : ∀ (s : Shared) (u : Value), BindsTo s fd ⟨[u], []⟩ [(x, u)])
    (hsp : ∀ H : Hp, Only H → SqL K H a (ns.map V.int) → sp [.ref a] H (fun v _ => v = .bl true) fun _ _ _ => False) :
    codeAny (model P w) callerA (.call (.ref fa) ⟨[.ref a], []⟩) (fun r s' => r = .ok (.ret (.bool true)) ∧ OldK s₁.heap s'.heap ∧ s'.os = s₁.os ∧ AllBare s'.gens) s₁ := by
  have rel := vals_ints Y9
  have nlen := Y9.length
  have main : ∀ H : Hp, Only H → SqL K H a (ns.map V.int) → HOk P w H s₁.heap → (∀ b, H b ≠ none → b = a) → (H a ≠ none → K.lookup a = none) →
      codeAny (model P w) callerA (.call (.ref fa) ⟨[.ref a], []⟩) (fun r s' => r = .ok (.ret (.bool true)) ∧ OldK s₁.heap s'.heap ∧ s'.os = s₁.os ∧ AllBare s'.gens) s₁ := by
    intro H only seq ok just nokey
    have Za : ∀ {b : Addr} {o : Obj} {es : Array DictEntry} {ep : Nat}, s₁.heap.get? b = some o → o.data = .dict es ep → H b = none := by
      intro b o es ep e d
      cases q : H b with
      | none => rfl
      | some u =>
        obtain rfl : b = a := just b (by rw [q]; exact Option.some_ne_none u)
        rw [obj] at e
        cases e
        cases d
    have spaces : ∀ {b : Addr} {m : Str → Option Value}, s₁.heap.Ns b m → (hidT s₁.heap H).Ns b m := by
      rintro b m ⟨o, es, ep, e, d, rest⟩
      exact ⟨o, es, ep, hidT_get e (Za e d), d, rest⟩
    have kept : K.In (hidT s₁.heap H) := by
      intro b o e
      refine hidT_get (kin b o e) ?_
      cases q : H b with
      | none => rfl
      | some u =>
        obtain rfl : b = a := just b (by rw [q]; exact Option.some_ne_none u)
        rw [nokey (by rw [q]; exact Option.some_ne_none u)] at e
        cases e
    obtain ⟨mc, lim1, lim2⟩ := hlim
    have env : Env0 P w K mg (hidT s₁.heap H) callerA [] s₁ H :=
      ⟨rfl, ⟨kept, spaces hmg, ⟨mb, spaces hmb, hbb⟩, ⟨mc, spaces lim1, lim2⟩⟩, fun b o e => of_hidT e, Nat.le_of_eq (hidT_size _ _), trivial, (fun b hb => by cases hb), ok, .of_eq hgen⟩
    refine codeAny_mono ((fn _ kept (spaces hmg)).run callerA [] s₁ H ⟨[.ref a], []⟩ [.ref a] [.ref a] _ _ room rfl env (bnd s₁ (.ref a)) (.cons rfl .nil) (hsp H only seq)) fun res s' out => ?_
    cases res with
    | error er =>
      obtain ⟨_, _, _, _, _, _, _, _, _, _, _, _, z⟩ := out
      exact z.elim
    | ok fl =>
      cases fl with
      | next => exact out.elim
      | brk => exact out.elim
      | cont => exact out.elim
      | ret u =>
        obtain ⟨v, H', os, bare, un, ok', ru, hv⟩ := out
        have hv' : v = .bl true := hv
        subst hv'
        obtain rfl : u = Value.bool true := ru
        refine ⟨rfl, OldK.of_keep fun b o e => ?_, os, bare⟩
        rcases only b with z | ⟨ob, xs, z⟩
        · exact un.keep b o e z (by intro z; cases z) (by intro z; cases z)
        · obtain ⟨e1, _⟩ := ok b _ z
          obtain ⟨e2, _⟩ := ok' b _ (un.frzs b ob _ z)
          rw [e] at e1
          cases e1
          exact e2
  cases hk : K.lookup a with
  | some o =>
    have e := kin a o hk
    rw [obj] at e
    cases e
    exact main (fun _ => none) (fun _ => .inl rfl) (.inr ⟨_, vs.toArray, _, hk, rfl, rfl, rfl, by rw [List.size_toArray, nlen]; exact hz, by simpa using rel⟩) (by intro b u z; cases z) (by intro b z; exact absurd rfl z) (by intro z; exact absurd rfl z)
  | none =>
    have aep : ∀ {b : Addr} {u : HO}, (if b = a then some (HO.frz { cls := .type "list", data := .seq vs.toArray } (.lst (ns.map V.int))) else none) = some u → b = a ∧ u = .frz { cls := .type "list", data := .seq vs.toArray } (.lst (ns.map V.int)) := by
      intro b u z
      by_cases hb : b = a
      · rw [if_pos hb] at z
        cases z
        exact ⟨hb, rfl⟩
      · rw [if_neg hb] at z
        cases z
    refine main (fun b => if b = a then some (.frz { cls := .type "list", data := .seq vs.toArray } (.lst (ns.map V.int))) else none) (fun b => ?_) (.inl (.inr ⟨{ cls := .type "list", data := .seq vs.toArray }, if_pos rfl⟩)) (fun b u z => ?_) (fun b z => ?_) fun _ => hk
    · by_cases hb : b = a
      · exact .inr ⟨_, _, if_pos hb⟩
      · exact .inl (if_neg hb)
    · obtain ⟨rfl, rfl⟩ := aep z
      exact ⟨obj, by rw [List.length_map]; exact hz, vs, _, rel, obj⟩
    · cases q : (if b = a then some (HO.frz { cls := .type "list", data := .seq vs.toArray } (.lst (ns.map V.int))) else none) with
      | none => exact absurd q z
      | some u => exact (aep q).1
open Att PySem.W in
theorem Zb {l : PySem.W.OpenLaw} {n k : Nat} {q : Program} {loose : List Str} {XP : (Str → Option Value) → Heap → Prop} {YP : World → Heap → Prop} {d : DefRec} {K : Params → PySem.W.Frag} {x : Str} {L cs : List Nat} {XR : PySem.W.Frag → jC} {run : List En → R En}
    (hn : l.most = some n) (hn2 : n ≤ sizeLine) (hdf : d.params.defaults = []) (room : Room k callerA) (hY : ∀ (w : World) (h : Heap), YP w h → (K w.params).In h)
    (fn : ∀ (w : World) (mg : Str → Option Value) (fa : Addr) (h : Heap), (K w.params).In h → h.Ns mainGlobals mg → mg d.name = some (.ref fa) →
      ∃ fd : FuncData, (∀ (s : Shared) (u : Value), BindsTo s fd ⟨[u], []⟩ [(x, u)]) ∧
        ∀ base : Heap, (K w.params).In base → base.Ns mainGlobals mg → mO l.prog w (K w.params) mg base k fa fd [x] (mX (K w.params) 1 L cs (XR (K w.params)) run))
    (law : ∀ ns : List Int, ns.length ≤ n → (∀ z ∈ ns, Builtin.Int.intBits z ≤ 1048576) → ∃ ρ, run [.d8 (ns.map .int)] = .ok (.fr (.bl true)) ρ) :
    PySem.W.WalkO q loose XP YP l.row.toRowW d [] (fun f vs => PySem.call f vs) := by
  refine Att.attach_callB hn hdf fun w s₀ s₁ mg mb fa o pm cd doc a vs ns grd Y ho hd hcd hmg obj Y9 hlen bits hgen => ?_
  obtain ⟨fd, hb, hF⟩ := fn w mg fa _ (hY w _ Y) grd.T.g hmg
  refine Y8 (hY w _ Y) grd.T.g grd.T.b grd.T.builtins grd.T.nolimit hgen obj Y9 (Nat.le_trans hlen hn2) room hF hb fun H only seq => ?_
  obtain ⟨ρ, hr⟩ := law ns hlen bits
  refine ⟨rfl, H, [.d8 (ns.map .int)], Ext.refl H, .cons ⟨a, _, rfl, seq, aV.of_ints⟩ .nil, fun i j e e' v v' b ne h1 _ h3 _ w1 => ?_, fun i e v b h1 _ w1 => ?_, ?_⟩
  · cases i with
    | zero => simp at h1; subst h1; exact w1.elim
    | succ i => simp at h1
  · cases i with
    | zero => simp at h1; subst h1; exact w1.elim
    | succ i => simp at h1
  · rw [hr]
    intro F' H' σ' v S
    have r : Rp (K w.params) F' H' (.fr (.bl true)) v := S.rep (.t 0) _ v rfl
    simpa only [Rp, Dq] using r
end DM
end
section
namespace DM
open PySem L2
theorem aX {α β : Type} (a : α) (ρ : aq) (g : α → aq → R β) : (R.ok a ρ).bind g = g a ρ := rfl
theorem Bq {α : Type} (a : α) (ρ : aq) : v8 (some a) ρ = .ok a ρ := rfl
theorem CT (ρ : aq) (e : En) : look ρ (.en e) = some e := rfl
theorem xQ (ρ : aq) (i : Nat) : look ρ (.bor i) = (ρ[i]?).join := rfl
/-! names -/
def U3 (i : Nat) (ρ : aq) : Option En → R Val
  | some (.fr d) => .ok (.en (.fr d)) ρ
  | some (.d8 xs) => .ok (.en (.d8 xs)) ρ
  | some _ => .ok (.bor i) ρ
  | none => .bad
theorem xR (i : Nat) (ρ : aq) : ao i ρ = U3 i ρ (ρ[i]?).join := by
  unfold ao U3
  rcases (ρ[i]?).join with _ | e <;> rfl
theorem CV (i : Nat) (ρ : aq) (d : D) : U3 i ρ (some (.fr d)) = .ok (.en (.fr d)) ρ := rfl
theorem xT (i : Nat) (ρ : aq) (xs : List D) : U3 i ρ (some (.d8 xs)) = .ok (.en (.d8 xs)) ρ := rfl
theorem CW (i : Nat) (ρ : aq) (xs : List D) : U3 i ρ (some (.ol xs)) = .ok (.bor i) ρ := rfl
def aa5 (ρ : aq) : Option En → R Val
  | some (.fr d) => .ok (.en (.fr d)) ρ
  | some (.d8 xs) => .ok (.en (.d8 xs)) ρ
  | _ => .bad
theorem uP (i : Nat) (ρ : aq) : cJ i ρ = aa5 ρ (ρ[i]?).join := rfl
theorem xU (ρ : aq) (d : D) : aa5 ρ (some (.fr d)) = .ok (.en (.fr d)) ρ := rfl
theorem Ko (d : D) (ρ : aq) : runC d ρ = .ok (.en (.fr d)) ρ := rfl
/-! operators -/
def k2c (g : En → En → Option En) (ρ : aq) : Option En → Option En → R Val
  | some x, some y => v8 ((g x y).map .en) ρ
  | _, _ => .bad
def k2b (g : En → En → Option En) (a b : Val) (ρ : aq) : R Val := k2c g ρ (look ρ a) (look ρ b)
def k2a (g : En → En → Option En) (fb : aq → R Val) (a : Val) (ρ : aq) : R Val := (fb ρ).bind (k2b g a)
theorem Kr (g : En → En → Option En) (fa fb : aq → R Val) (ρ : aq) : aA g fa fb ρ = (fa ρ).bind (k2a g fb) := rfl
theorem U4 (g : En → En → Option En) (fb : aq → R Val) (a : Val) (ρ : aq) : k2a g fb a ρ = (fb ρ).bind (k2b g a) := rfl
theorem U5 (g : En → En → Option En) (a b : Val) (ρ : aq) : k2b g a b ρ = k2c g ρ (look ρ a) (look ρ b) := rfl
theorem U6 (g : En → En → Option En) (ρ : aq) (x y : En) : k2c g ρ (some x) (some y) = v8 ((g x y).map .en) ρ := rfl
def k1b (g : En → Option En) (ρ : aq) : Option En → R Val
  | some x => v8 ((g x).map .en) ρ
  | none => .bad
def k1a (g : En → Option En) (a : Val) (ρ : aq) : R Val := k1b g ρ (look ρ a)
theorem Ks (g : En → Option En) (fa : aq → R Val) (ρ : aq) : JM g fa ρ = (fa ρ).bind (k1a g) := by
  unfold JM
  congr 1
  funext a ρ1
  unfold k1a k1b
  rcases look ρ1 a with _ | e <;> rfl
theorem U7 (g : En → Option En) (a : Val) (ρ : aq) : k1a g a ρ = k1b g ρ (look ρ a) := rfl
theorem U8 (g : En → Option En) (ρ : aq) (x : En) : k1b g ρ (some x) = v8 ((g x).map .en) ρ := rfl
/-! tests -/
def kTB (a : Val) (ρ : aq) : R Bool := match look ρ a with
  | some e => v8 (JQ e) ρ
  | none => .bad
theorem CZ (f : aq → R Val) (ρ : aq) : bB f ρ = (f ρ).bind kTB := rfl
theorem U9 (b : Bool) (ρ : aq) : kTB (.en (.fr (.bl b))) ρ = .ok b ρ := rfl
def kTb (ρ : aq) : Option En → R Bool
  | some e => v8 (PB e) ρ
  | none => .bad
def kT (a : Val) (ρ : aq) : R Bool := kTb ρ (look ρ a)
theorem Ku (f : aq → R Val) (ρ : aq) : kJ f ρ = (f ρ).bind kT := by
  unfold kJ kT kTb
  rfl
theorem acg (a : Val) (ρ : aq) : kT a ρ = kTb ρ (look ρ a) := rfl
theorem Va (ρ : aq) (e : En) : kTb ρ (some e) = v8 (PB e) ρ := rfl
theorem Dc (b : Bool) : PB (.fr (.bl b)) = some b := rfl
def aa6 (a : Bool) (ρ : aq) : R Bool := .ok (!a) ρ
theorem uQ (f : aq → R Bool) (ρ : aq) : dR f ρ = (f ρ).bind aa6 := rfl
theorem Dd (a : Bool) (ρ : aq) : aa6 a ρ = .ok (!a) ρ := rfl
def Vb (g : aq → R Bool) (a : Bool) (ρ : aq) : R Bool := match a with | true => g ρ | false => .ok false ρ
def ach (g : aq → R Bool) (a : Bool) (ρ : aq) : R Bool := match a with | true => .ok true ρ | false => g ρ
theorem uR (f g : aq → R Bool) (ρ : aq) : gH f g ρ = (f ρ).bind (Vb g) := rfl
theorem pU (f g : aq → R Bool) (ρ : aq) : eG f g ρ = (f ρ).bind (ach g) := rfl
theorem Df (g : aq → R Bool) (ρ : aq) : Vb g true ρ = g ρ := rfl
theorem Dg (g : aq → R Bool) (ρ : aq) : Vb g false ρ = .ok false ρ := rfl
theorem Dh (g : aq → R Bool) (ρ : aq) : ach g true ρ = .ok true ρ := rfl
theorem Di (g : aq → R Bool) (ρ : aq) : ach g false ρ = g ρ := rfl
def kIf {α : Type} (fa fb : aq → R α) (a : Bool) (ρ : aq) : R α := match a with | true => fa ρ | false => fb ρ
theorem sO {α : Type} (ft : aq → R Bool) (fa fb : aq → R α) (ρ : aq) : bH ft fa fb ρ = (ft ρ).bind (kIf fa fb) := rfl
theorem G6 {α : Type} (fa fb : aq → R α) (ρ : aq) : kIf fa fb true ρ = fa ρ := rfl
theorem Nk {α : Type} (fa fb : aq → R α) (ρ : aq) : kIf fa fb false ρ = fb ρ := rfl
def Vc (fb : aq → R Val) (a : Val) (ρ : aq) : R Val := match (look ρ a).bind JQ with
  | some true => fb ρ
  | some false => .ok (.en (.fr (.bl false))) ρ
  | none => .bad
def aci (fb : aq → R Val) (a : Val) (ρ : aq) : R Val := match (look ρ a).bind JQ with
  | some true => .ok (.en (.fr (.bl true))) ρ
  | some false => fb ρ
  | none => .bad
def aa7 (a : Val) (ρ : aq) : R Val := match (look ρ a).bind JQ with
  | some b => .ok (.en (.fr (.bl (!b)))) ρ
  | none => .bad
theorem uU (fa fb : aq → R Val) (ρ : aq) : dU fa fb ρ = (fa ρ).bind (Vc fb) := rfl
theorem xV (fa fb : aq → R Val) (ρ : aq) : Cr fa fb ρ = (fa ρ).bind (aci fb) := rfl
theorem uV (fa : aq → R Val) (ρ : aq) : v9 fa ρ = (fa ρ).bind aa7 := rfl
theorem Dj (fb : aq → R Val) (ρ : aq) : Vc fb (.en (.fr (.bl true))) ρ = fb ρ := rfl
theorem Dk (fb : aq → R Val) (ρ : aq) : Vc fb (.en (.fr (.bl false))) ρ = .ok (.en (.fr (.bl false))) ρ := rfl
theorem Kv (fb : aq → R Val) (ρ : aq) : aci fb (.en (.fr (.bl true))) ρ = .ok (.en (.fr (.bl true))) ρ := rfl
theorem Kw (fb : aq → R Val) (ρ : aq) : aci fb (.en (.fr (.bl false))) ρ = fb ρ := rfl
theorem Dm (b : Bool) (ρ : aq) : aa7 (.en (.fr (.bl b))) ρ = .ok (.en (.fr (.bl (!b)))) ρ := rfl
/-! argument lists -/
def Ky (a : Val) (as : List Val) (ρ : aq) : R (List Val) := .ok (a :: as) ρ
def aa8 (fs : aq → R (List Val)) (a : Val) (ρ : aq) : R (List Val) := (fs ρ).bind (Ky a)
theorem j6 (fa : aq → R Val) (fs : aq → R (List Val)) (ρ : aq) : aj fa fs ρ = (fa ρ).bind (aa8 fs) := rfl
theorem wu (fs : aq → R (List Val)) (a : Val) (ρ : aq) : aa8 fs a ρ = (fs ρ).bind (Ky a) := rfl
theorem sS (a : Val) (as : List Val) (ρ : aq) : Ky a as ρ = .ok (a :: as) ρ := rfl
theorem sU (ρ : aq) : ak ρ = .ok [] ρ := rfl
def Vd : Option En → Option (List En) → Option (List En)
  | some e, some es => some (e :: es)
  | _, _ => none
theorem uW (ρ : aq) : looks ρ [] = some [] := rfl
theorem rE (ρ : aq) (a : Val) (as : List Val) : looks ρ (a :: as) = Vd (look ρ a) (looks ρ as) := by
  rw [looks]
  rcases look ρ a with _ | e <;> rcases looks ρ as with _ | es <;> rfl
theorem xW (e : En) (es : List En) : Vd (some e) (some es) = some (e :: es) := rfl
def Zd (g : List En → Option En) (ρ : aq) : Option (List En) → R Val
  | some es => v8 ((g es).map .en) ρ
  | none => .bad
def kCB (g : List En → Option En) (as : List Val) (ρ : aq) : R Val := Zd g ρ (looks ρ as)
theorem wA (g : List En → Option En) (fs : aq → R (List Val)) (ρ : aq) : aN g fs ρ = (fs ρ).bind (kCB g) := by
  unfold aN kCB Zd
  rfl
theorem Ve (g : List En → Option En) (as : List Val) (ρ : aq) : kCB g as ρ = Zd g ρ (looks ρ as) := rfl
theorem Kz (g : List En → Option En) (ρ : aq) (es : List En) : Zd g ρ (some es) = v8 ((g es).map .en) ρ := rfl
def kTup (as : List Val) (ρ : aq) : R Val := match datas ρ as with
  | some ds => if ds.length ≤ sizeLine then .ok (.en (.fr (.tup ds))) ρ else .bad
  | none => .bad
def G7 (as : List Val) (ρ : aq) : R Val := match datas ρ as with
  | some ds => if ds.length ≤ sizeLine then .ok (.en (.ol ds)) ρ else .bad
  | none => .bad
theorem xX (fs : aq → R (List Val)) (ρ : aq) : aK fs ρ = (fs ρ).bind kTup := rfl
theorem xY (fs : aq → R (List Val)) (ρ : aq) : aP fs ρ = (fs ρ).bind G7 := rfl
def unD : List Val → Option (List D)
  | [] => some []
  | .en (.fr d) :: as => (unD as).map (d :: ·)
  | _ => none
theorem uX (ρ : aq) : ∀ as : List Val, datas ρ as = unD as
  | [] => rfl
  | .en (.fr d) :: as => by
    show (match datas ρ as with | some ds => some (d :: ds) | none => none) = (unD as).map (d :: ·)
    rw [uX ρ as]
    cases unD as <;> rfl
  | .en (.ol _) :: as => rfl
  | .en (.od _ _) :: as => rfl
  | .en (.on _ _) :: as => rfl
  | .en (.d8 _) :: as => rfl
  | .en (.ex _) :: as => rfl
  | .en (.pA _) :: as => rfl
  | .bor _ :: as => rfl
theorem KC {as : List Val} {ds : List D} (ρ : aq) (h : unD as = some ds) (hz : ds.length ≤ 100) : kTup as ρ = .ok (.en (.fr (.tup ds))) ρ := by
  unfold kTup
  rw [uX, h]
  simp only
  rw [if_pos (Nat.le_trans hz (by decide))]
theorem xZ {as : List Val} {ds : List D} (ρ : aq) (h : unD as = some ds) (hz : ds.length ≤ 100) : G7 as ρ = .ok (.en (.ol ds)) ρ := by
  unfold G7
  rw [uX, h]
  simp only
  rw [if_pos (Nat.le_trans hz (by decide))]
theorem Vf (a b : D) (ρ : aq) : kTup [.en (.fr a), .en (.fr b)] ρ = .ok (.en (.fr (.tup [a, b]))) ρ := KC ρ rfl (by simp)
theorem Vg (a b c : D) (ρ : aq) : kTup [.en (.fr a), .en (.fr b), .en (.fr c)] ρ = .ok (.en (.fr (.tup [a, b, c]))) ρ := KC ρ rfl (by simp)
theorem Vh (ρ : aq) : G7 [] ρ = .ok (.en (.ol [])) ρ := xZ ρ rfl (by simp)
theorem Vi (a : D) (ρ : aq) : G7 [.en (.fr a)] ρ = .ok (.en (.ol [a])) ρ := xZ ρ rfl (by simp)
theorem Vj (a b : D) (ρ : aq) : G7 [.en (.fr a), .en (.fr b)] ρ = .ok (.en (.ol [a, b])) ρ := xZ ρ rfl (by simp)
theorem Vk (a b c : D) (ρ : aq) : G7 [.en (.fr a), .en (.fr b), .en (.fr c)] ρ = .ok (.en (.ol [a, b, c])) ρ := xZ ρ rfl (by simp)
theorem Vm (a b c d : D) (ρ : aq) : G7 [.en (.fr a), .en (.fr b), .en (.fr c), .en (.fr d)] ρ = .ok (.en (.ol [a, b, c, d])) ρ := xZ ρ rfl (by simp)
/-! Tj, keeping -/
def kFr (a : Val) (ρ : aq) : R Val := match frz a ρ with
  | some (e, ρ2) => .ok (.en e) ρ2
  | none => .bad
theorem yc (f : aq → R Val) (ρ : aq) : aM f ρ = (f ρ).bind kFr := rfl
theorem KD (d : D) (ρ : aq) : kFr (.en (.fr d)) ρ = .ok (.en (.fr d)) ρ := rfl
theorem KH (xs : List D) (ρ : aq) : kFr (.en (.ol xs)) ρ = .ok (.en (.fr (.lst xs))) ρ := rfl
theorem Dr (xs : List D) (ρ : aq) : kFr (.en (.d8 xs)) ρ = .ok (.en (.d8 xs)) ρ := rfl
def acj (i : Nat) (ρ : aq) : Option En → R Val
  | some e => .ok (.en e.fz) (ρ.set i (some e.fz))
  | none => .bad
theorem Ds (i : Nat) (ρ : aq) : kFr (.bor i) ρ = acj i ρ (ρ[i]?).join := by
  unfold kFr frz acj
  simp only
  rcases (ρ[i]?).join with _ | e <;> rfl
theorem Dt (i : Nat) (ρ : aq) (xs : List D) : acj i ρ (some (.ol xs)) = .ok (.en (.fr (.lst xs))) (ρ.set i (some (.fr (.lst xs)))) := rfl
def kK (keep : Bool) (a : Val) (ρ : aq) : R En := runK.YH (take keep a ρ)
theorem KJ (keep : Bool) (f : aq → R Val) (ρ : aq) : runK keep f ρ = (f ρ).bind (kK keep) := rfl
theorem Du (d : D) (ρ : aq) : kK false (.en (.fr d)) ρ = .ok (.fr d) ρ := rfl
theorem Dy (xs : List D) (ρ : aq) : kK false (.en (.ol xs)) ρ = .ok (.fr (.lst xs)) ρ := rfl
theorem yd (xs : List D) (ρ : aq) : kK false (.en (.d8 xs)) ρ = .ok (.d8 xs) ρ := rfl
theorem acn (e : En) (ρ : aq) : kK true (.en e) ρ = .ok e ρ := rfl
def kKB (i : Nat) (ρ : aq) : Option En → R En
  | some e => .ok e (ρ.set i none)
  | none => .bad
theorem yg (i : Nat) (ρ : aq) : kK true (.bor i) ρ = kKB i ρ (ρ[i]?).join := by
  unfold kK take kKB
  simp only
  rcases (ρ[i]?).join with _ | e <;> rfl
theorem Vn (i : Nat) (ρ : aq) (e : En) : kKB i ρ (some e) = .ok e (ρ.set i none) := rfl
def kKF (i : Nat) (ρ : aq) : Option En → R En
  | some e => .ok e.fz (ρ.set i (some e.fz))
  | none => .bad
theorem yh (i : Nat) (ρ : aq) : kK false (.bor i) ρ = kKF i ρ (ρ[i]?).join := by
  unfold kK take frz kKF
  simp only
  rcases (ρ[i]?).join with _ | e <;> rfl
theorem KN (i : Nat) (ρ : aq) (xs : List D) : kKF i ρ (some (.ol xs)) = .ok (.fr (.lst xs)) (ρ.set i (some (.fr (.lst xs)))) := rfl
/-! statements -/
def Vo (g : aq → R Fl) (fl : Fl) (ρ : aq) : R Fl := match fl with
  | .nx => g ρ
  | fl => .ok fl ρ
theorem nA (f g : aq → R Fl) (ρ : aq) : aJ f g ρ = (f ρ).bind (Vo g) := rfl
theorem sV (g : aq → R Fl) (ρ : aq) : Vo g .nx ρ = g ρ := rfl
theorem sW (g : aq → R Fl) (e : En) (ρ : aq) : Vo g (.rt e) ρ = .ok (.rt e) ρ := rfl
def Ze (i : Nat) (e : En) (ρ : aq) : R Fl := if i < ρ.length then .ok .nx (ρ.set i (some e)) else .bad
theorem yj (keep : Bool) (i : Nat) (f : aq → R Val) (ρ : aq) : aR keep i f ρ = (runK keep f ρ).bind (Ze i) := rfl
def G8 (i j : Nat) (e e' : En) (ρ : aq) : R Fl := if i < ρ.length ∧ j < ρ.length then .ok .nx ((ρ.set i (some e)).set j (some e')) else .bad
def aer (k2 : Bool) (i j : Nat) (g : aq → R Val) (e : En) (ρ : aq) : R Fl := (runK k2 g ρ).bind (G8 i j e)
theorem yq (k1 k2 : Bool) (i j : Nat) (f g : aq → R Val) (ρ : aq) : jM k1 k2 i j f g ρ = (runK k1 f ρ).bind (aer k2 i j g) := rfl
theorem KQ (k2 : Bool) (i j : Nat) (g : aq → R Val) (e : En) (ρ : aq) : aer k2 i j g e ρ = (runK k2 g ρ).bind (G8 i j e) := rfl
def aes (L : List Nat) (a : Val) (ρ : aq) : R Fl := match take (abS L a) a ρ with
  | some (e, ρ2) => .ok (.rt e) ρ2
  | none => .bad
theorem sX (L : List Nat) (f : aq → R Val) (ρ : aq) : aO L f ρ = (f ρ).bind (aes L) := rfl
theorem Dz (L : List Nat) (e : En) (ρ : aq) : aes L (.en e) ρ = .ok (.rt e) ρ := rfl
def aeu (i : Nat) (ρ : aq) : Option En → R Fl
  | some e => .ok (.rt e) (ρ.set i none)
  | none => .bad
theorem DG (i : Nat) (ρ : aq) (e : En) : aeu i ρ (some e) = .ok (.rt e) (ρ.set i none) := rfl
def kEx (_ : Val) (ρ : aq) : R Fl := .ok .nx ρ
theorem sY (f : aq → R Val) (ρ : aq) : iJ f ρ = (f ρ).bind kEx := rfl
theorem Vp (a : Val) (ρ : aq) : kEx a ρ = .ok .nx ρ := rfl
def aco (fl : Fl) (ρ : aq) : R En := match fl with
  | .nx => .ok (.fr .non) ρ
  | .rt e => .ok e ρ
  | _ => .bad
theorem tD (N : Nat) (body : aq → R Fl) (es : List En) : aQ N body es = (body (zX N es)).bind aco := rfl
theorem DK (ρ : aq) : aco .nx ρ = .ok (.fr .non) ρ := rfl
theorem wB (e : En) (ρ : aq) : aco (.rt e) ρ = .ok e ρ := rfl
/-! stores -/
def slO : Option En → Option (List D)
  | some (.ol xs) => some xs
  | _ => none
theorem DN (ρ : aq) (i : Nat) : iK ρ i = slO (ρ[i]?).join := by
  unfold iK slO
  rcases (ρ[i]?).join with _ | e
  · rfl
  · cases e <;> rfl
theorem KR (xs : List D) : slO (some (.ol xs)) = some xs := rfl
def yr (x : Nat) (ρ : aq) (v : Val) : Option Int → Option (List D) → R Fl
  | some i, some xs => match v with
    | .en (.fr d) => match ixN xs.length i with
      | some j => .ok .nx (ρ.set x (some (.ol (xs.set j d))))
      | none => .bad
    | _ => .bad
  | _, _ => .bad
def Vq (x : Nat) (v k : Val) (ρ : aq) : R Fl := yr x ρ v ((look ρ k).bind gq) (iK ρ x)
def G9 (x : Nat) (fi : aq → R Val) (v : Val) (ρ : aq) : R Fl := match (ρ[x]?).join with
  | none => .bad
  | some _ => (fi ρ).bind (Vq x v)
theorem yt (x : Nat) (fe fi : aq → R Val) (ρ : aq) : oJ x fe fi ρ = (aM fe ρ).bind (G9 x fi) := by
  unfold oJ
  congr 1
  funext v ρ1
  unfold G9
  rcases (ρ1[x]?).join with _ | e
  · rfl
  · simp only
    congr 1
    funext k ρ2
    unfold Vq yr
    rcases (look ρ2 k).bind gq with _ | i <;> rcases iK ρ2 x with _ | xs
    · rcases v with e | b <;> try rfl
      cases e <;> rfl
    · rcases v with e | b <;> try rfl
      cases e <;> rfl
    · rcases v with e | b <;> try rfl
      cases e <;> rfl
    · rcases v with e | b <;> try rfl
      cases e <;> rfl
theorem DP (x : Nat) (v k : Val) (ρ : aq) : Vq x v k ρ = yr x ρ v ((look ρ k).bind gq) (iK ρ x) := rfl
theorem Nm {x : Nat} {ρ : aq} {d : D} {i : Int} {xs : List D} {j : Nat} (h : ixN xs.length i = some j) : yr x ρ (.en (.fr d)) (some i) (some xs) = .ok .nx (ρ.set x (some (.ol (xs.set j d)))) := by
  unfold yr
  simp only
  rw [h]
def Np (x : Nat) (g : List D → List En → Option (List D × D)) (ρ : aq) : Option (List En) → Option (List D) → R Val
  | some es, some xs => match g xs es with
    | some (ys, d) => .ok (.en (.fr d)) (ρ.set x (some (.ol ys)))
    | none => .bad
  | _, _ => .bad
def aa9 (x : Nat) (g : List D → List En → Option (List D × D)) (as : List Val) (ρ : aq) : R Val := Np x g ρ (looks ρ as) (iK ρ x)
theorem yu {x : Nat} {g : List D → List En → Option (List D × D)} {fs : aq → R (List Val)} {ρ : aq} {xs : List D} (h : iK ρ x = some xs) : dI x g fs ρ = (fs ρ).bind (aa9 x g) := by
  unfold dI
  rw [h]
  simp only
  congr 1
theorem Nq (x : Nat) (g : List D → List En → Option (List D × D)) (as : List Val) (ρ : aq) : aa9 x g as ρ = Np x g ρ (looks ρ as) (iK ρ x) := rfl
theorem DQ {x : Nat} {g : List D → List En → Option (List D × D)} {ρ : aq} {es : List En} {xs ys : List D} {d : D} (h : g xs es = some (ys, d)) : Np x g ρ (some es) (some xs) = .ok (.en (.fr d)) (ρ.set x (some (.ol ys))) := by
  unfold Np
  simp only [h]
/-! own functions -/
def KY (L : List Nat) (run : List En → R En) (vals : List Val) (ρ : aq) : R Val := match looks ρ vals with
  | some es => if lu L 0 vals = true ∧ (iT vals).Nodup then vJ vals ρ (run es) else .bad
  | none => .bad
def kC2 (n m : Nat) (L perm : List Nat) (run : List En → R En) (as bs : List Val) (ρ : aq) : R Val := if as.length = n ∧ bs.length = m then KY L run (fX (.en (.fr .non)) perm (as ++ bs)) ρ else .bad
def kC1 (n m : Nat) (L perm : List Nat) (run : List En → R En) (fk : aq → R (List Val)) (as : List Val) (ρ : aq) : R Val := (fk ρ).bind (kC2 n m L perm run as)
theorem uY (n m : Nat) (L perm : List Nat) (run : List En → R En) (fs fk : aq → R (List Val)) (ρ : aq) : au n m L perm run fs fk ρ = (fs ρ).bind (kC1 n m L perm run fk) := rfl
theorem Vr (n m : Nat) (L perm : List Nat) (run : List En → R En) (fk : aq → R (List Val)) (as : List Val) (ρ : aq) : kC1 n m L perm run fk as ρ = (fk ρ).bind (kC2 n m L perm run as) := rfl
section
variable {L : List Nat} {run : List En → R En} {a b c : Val} {ρ : aq}
theorem Vs : kC2 1 0 L [0] run [a] [] ρ = KY L run [a] ρ := rfl
theorem Vt : kC2 2 0 L [0, 1] run [a, b] [] ρ = KY L run [a, b] ρ := rfl
theorem Vu : kC2 3 0 L [0, 1, 2] run [a, b, c] [] ρ = KY L run [a, b, c] ρ := rfl
theorem KZ : kC2 0 1 L [0] run [] [a] ρ = KY L run [a] ρ := rfl
theorem K6 : kC2 0 2 L [0, 1] run [] [a, b] ρ = KY L run [a, b] ρ := rfl
theorem DR : kC2 0 2 L [1, 0] run [] [a, b] ρ = KY L run [b, a] ρ := rfl
theorem uZ {e : En} {r : En} {ρ' : aq} (h : run [e] = .ok r ρ') : KY L run [.en e] ρ = .ok (.en r) ρ := by
  unfold KY
  simp only [looks, look, lu, GZ, iT, h, vJ, lA, Bool.and_self, List.nodup_nil, and_self, if_true]
theorem lD {e f : En} {r : En} {ρ' : aq} (h : run [e, f] = .ok r ρ') : KY L run [.en e, .en f] ρ = .ok (.en r) ρ := by
  unfold KY
  simp only [looks, look, lu, GZ, iT, h, vJ, lA, Bool.and_self, List.nodup_nil, and_self, if_true]
theorem iV {i : Nat} {u u' f : En} {r : En} {ρ' : aq} (hu : (ρ[i]?).join = some u) (h : run [u, f] = .ok r (some u' :: ρ')) : KY [0] run [.bor i, .en f] ρ = .ok (.en r) (ρ.set i (some u')) := by
  unfold KY
  simp [looks, look, lu, GZ, iT, hu, h, vJ, lA]
theorem acp {i : Nat} {u u' f g : En} {r : En} {ρ' : aq} (hu : (ρ[i]?).join = some u) (h : run [u, f, g] = .ok r (some u' :: ρ')) : KY [0] run [.bor i, .en f, .en g] ρ = .ok (.en r) (ρ.set i (some u')) := by
  unfold KY
  simp [looks, look, lu, GZ, iT, hu, h, vJ, lA]
end
/-! operators on ints -/
section
variable {i j : Int}
theorem K7 : cI (.fr (.int i)) (.fr (.int j)) = some (.fr (.int (i + j))) := rfl
theorem K8 : gSub (.fr (.int i)) (.fr (.int j)) = some (.fr (.int (i - j))) := rfl
theorem rF (h : wW i j = true) : dH (.fr (.int i)) (.fr (.int j)) = some (.fr (.int (i * j))) := by
  unfold dH MP
  simp only [gq, h, if_true, Option.some_or]
theorem DW (h : 0 < j) (h2 : j.natAbs.log2 < 9000) : CQ (.fr (.int i)) (.fr (.int j)) = some (.fr (.int (i / j))) := by
  unfold CQ MP
  have e : Gn i j = true := by unfold Gn; rw [decide_eq_true h, decide_eq_true h2]; rfl
  simp only [gq, e, if_true]
theorem pW (h : 0 < j) : oR (.fr (.int i)) (.fr (.int j)) = some (.fr (.int (i % j))) := by
  unfold oR MP
  have e : aaT i j = true := decide_eq_true h
  simp only [gq, e, if_true]
theorem DY (h : Gp i j = true) : lC (.fr (.int i)) (.fr (.int j)) = some (.fr (.int (i ^ j.toNat))) := by
  unfold lC MP
  simp only [gq, h, if_true]
theorem Vv : gLt (.fr (.int i)) (.fr (.int j)) = some (.fr (.bl (decide (i < j)))) := rfl
theorem Vw : gLe (.fr (.int i)) (.fr (.int j)) = some (.fr (.bl (decide (i ≤ j)))) := rfl
theorem Vx : gGt (.fr (.int i)) (.fr (.int j)) = some (.fr (.bl (decide (j < i)))) := rfl
theorem Vy : gGe (.fr (.int i)) (.fr (.int j)) = some (.fr (.bl (decide (j ≤ i)))) := rfl
theorem K9 (xs : List D) : eZ (.ol xs) (.fr (.int i)) = (atI xs i).map .fr := rfl
theorem tE (xs : List D) : eZ (.fr (.lst xs)) (.fr (.int i)) = (atI xs i).map .fr := rfl
theorem tG (xs : List D) : eZ (.fr (.tup xs)) (.fr (.int i)) = (atI xs i).map .fr := rfl
theorem Ea (xs : List D) : eZ (.d8 xs) (.fr (.int i)) = (atI xs i).map .fr := rfl
theorem Vz : gq (.fr (.int i)) = some i := rfl
end
end DM
end
section
namespace DM
open PySem L2
theorem VB {α : Type} (a : α) (xs : List α) : atI (a :: xs) 0 = some a := by
  unfold atI ixN
  simp
theorem aev {α : Type} (a b : α) (xs : List α) : atI (a :: b :: xs) 1 = some b := by
  unfold atI ixN
  have h : (1 : Int) < ((a :: b :: xs).length : Nat) := by simp only [List.length_cons]; omega
  simp only [if_pos (show (0 : Int) ≤ 1 by omega), if_pos h]
  rfl
theorem Zf {α : Type} (a b c : α) (xs : List α) : atI (a :: b :: c :: xs) 2 = some c := by
  unfold atI ixN
  have h : (2 : Int) < ((a :: b :: c :: xs).length : Nat) := by simp only [List.length_cons]; omega
  simp only [if_pos (show (0 : Int) ≤ 2 by omega), if_pos h]
  rfl
theorem VD {x : Nat} {ρ : aq} {d : D} {a b c : D} : yr x ρ (.en (.fr d)) (some 0) (some [a, b, c]) = .ok .nx (ρ.set x (some (.ol [d, b, c]))) := Nm (j := 0) rfl
theorem acq {x : Nat} {ρ : aq} {d : D} {a b c : D} : yr x ρ (.en (.fr d)) (some 2) (some [a, b, c]) = .ok .nx (ρ.set x (some (.ol [a, b, d]))) := Nm (j := 2) rfl
abbrev aY (a b c : Int) : En := .ol [.int a, .int b, .int c]
theorem acr {s : Int} (h0 : 0 < s) (h : s ≤ 10 ^ 100) : s.natAbs.log2 < 9000 := by
  have : s.natAbs ≤ 10 ^ 100 := by omega
  refine (Nat.log2_lt (by omega)).mpr (Nat.lt_of_le_of_lt this (by decide))
theorem Br {i j : Int} (h : i.natAbs.log2 < 50000000) (h2 : j.natAbs.log2 < 50000000) : wW i j = true := by
  unfold wW
  exact decide_eq_true (by omega)
theorem Eb {n k : Nat} (h : n < 2 ^ k) (hk : 0 < k) : n.log2 < k := by
  by_cases h0 : n = 0
  · subst h0; simpa using hk
  · exact (Nat.log2_lt h0).mpr h
theorem j7 {i j : Int} (h : i.natAbs < 2 ^ 1000) (h2 : j.natAbs < 2 ^ 1000) : wW i j = true :=
  Br (Nat.lt_trans (Eb h (by omega)) (by omega)) (Nat.lt_trans (Eb h2 (by omega)) (by omega))
theorem VF : lC (.fr (.int 10)) (.fr (.int 7)) = some (.fr (.int 10000000)) := by
  rw [DY (by decide)]
  rfl
def dD (m : Int) (e : En) : Prop := ∃ a b c, e = aY a b c ∧ 0 ≤ a ∧ 0 ≤ b ∧ b < 2 ^ 62 ∧ 0 ≤ c ∧ c + m < 2 ^ 40
theorem dD.mono {m m' : Int} {e : En} (h : dD m e) (hm : m' ≤ m) : dD m' e := by
  obtain ⟨a, b, c, h1, h2, h3, h4, h5, h6⟩ := h
  exact ⟨a, b, c, h1, h2, h3, h4, h5, by omega⟩
def jm (run : List En → R En) (n : Nat) : Prop := ∀ (m : Int) (e : En) (s : Int), 0 < s → s ≤ 10 ^ (7 * (n + 1)) → 0 ≤ m → dD (m + (n + 1)) e → ∃ r e' rest, run [e, .fr (.int s)] = .ok (.fr (.int r)) (some e' :: rest) ∧ 0 ≤ r ∧ r < s ∧ dD m e'
end DM
end
section
set_option exponentiation.threshold 10000
namespace DM
open PySem L2
/-! loops by an invariant -/
theorem wC {own : List Nat} {fg : D → aq → Option aq} {ft : aq → R Bool} {fe : aq → R Val} (I : List D → aq → List D → Prop)
    (step : ∀ d ds ρ acc, I (d :: ds) ρ acc → ∃ ρ1 b ρ2, fg d ρ = some ρ1 ∧ ft ρ1 = .ok b ρ2 ∧ (b = false → I ds (d9 ρ2 own) acc) ∧ (b = true → acc.length < sizeLine ∧ ∃ d' ρ3, aM fe ρ2 = .ok (.en (.fr d')) ρ3 ∧ I ds (d9 ρ3 own) (acc ++ [d']))) :
    ∀ ds ρ acc, I ds ρ acc → ∃ uL ρF, Az own fg ft fe ds ρ acc = .ok uL ρF ∧ I [] ρF uL
  | [], ρ, acc, h => ⟨acc, ρ, rfl, h⟩
  | d :: ds, ρ, acc, h => by
    obtain ⟨ρ1, b, ρ2, h1, h2, h3, h4⟩ := step d ds ρ acc h
    unfold Az
    rw [h1]
    simp only [h2, aX]
    cases b with
    | false => exact wC I step ds _ _ (h3 rfl)
    | true =>
      obtain ⟨h5, d', ρ3, h6, h7⟩ := h4 rfl
      simp only [h6, aX, if_pos h5]
      exact wC I step ds _ _ h7
theorem tH {own : List Nat} {fi : aq → R (List D)} {fg : D → aq → Option aq} {ft : aq → R Bool} {fe : aq → R Val} {ρ ρ1 ρF : aq} {ds acc : List D} (h : fi ρ = .ok ds ρ1) (hf : lV ρ1 own = true) (hl : Az own fg ft fe ds (d9 ρ1 own) [] = .ok acc ρF) :
    iz own fi fg ft fe ρ = .ok (.en (.ol acc)) (putBack ρ1 ρF own) := by
  unfold iz
  rw [h, aX, if_pos hf, hl]
theorem p7 : (10 : Int) ^ (7 * (0 + 1)) = 10000000 := by decide
theorem acs {xs : List D} {r : Int} (h0 : 0 ≤ r) (h1 : r < (xs.length : Nat)) : ∃ d, atI xs r = some d ∧ ixN xs.length r = some r.toNat ∧ xs[r.toNat]? = some d := by
  have hl : r.toNat < xs.length := by omega
  have e : ixN xs.length r = some r.toNat := by unfold ixN; rw [if_pos h0, if_pos h1]
  refine ⟨xs[r.toNat], ?_, e, List.getElem?_eq_getElem hl⟩
  unfold atI
  rw [e]
  exact List.getElem?_eq_getElem hl
theorem VG (xs : List D) : dW [.fr (.lst xs)] = some (.fr (.int (xs.length : Nat))) := rfl
theorem Nr (xs : List D) : dW [.ol xs] = some (.fr (.int (xs.length : Nat))) := rfl
theorem VH (xs : List D) : dW [.fr (.tup xs)] = some (.fr (.int (xs.length : Nat))) := rfl
theorem dD.en {m : Int} {e : En} (h : dD m e) : ∃ a b c, e = aY a b c := by obtain ⟨a, b, c, h, _⟩ := h; exact ⟨a, b, c, h⟩
def Fine (n : Nat) (d : D) : Prop := (toP d).canLay0 = true ∧ (toP d).depth ≤ n
theorem lE {n : Nat} (i : Int) : Fine n (.int i) := ⟨by simp [toP, PyData.canLay0], by simp [toP, PyData.depth]⟩
theorem wD {n : Nat} (i : Bool) : Fine n (.bl i) := ⟨by simp [toP, PyData.canLay0], by simp [toP, PyData.depth]⟩
theorem yw {n : Nat} : Fine n .non := ⟨by simp [toP, PyData.canLay0], by simp [toP, PyData.depth]⟩
theorem VJ {n : Nat} : ∀ {xs : List D}, (∀ x ∈ xs, Fine n x) → PyData.canLayAll0 (iH xs) = true ∧ PyData.depthAll (iH xs) ≤ n
  | [], _ => ⟨by simp [iH, PyData.canLayAll0], by simp [iH, PyData.depthAll]⟩
  | x :: xs, h => by
    obtain ⟨h1, h2⟩ := h x List.mem_cons_self
    obtain ⟨h3, h4⟩ := VJ fun y hy => h y (List.mem_cons_of_mem _ hy)
    unfold iH PyData.canLayAll0 PyData.depthAll
    exact ⟨by rw [h1, h3]; rfl, by omega⟩
theorem tK {n : Nat} {xs : List D} (h : ∀ x ∈ xs, Fine n x) : Fine (n + 1) (.lst xs) := by
  obtain ⟨h1, h2⟩ := VJ h
  exact ⟨by unfold toP PyData.canLay0; exact h1, by unfold toP PyData.depth; omega⟩
theorem tL {n : Nat} {xs : List D} (h : ∀ x ∈ xs, Fine n x) : Fine (n + 1) (.tup xs) := by
  obtain ⟨h1, h2⟩ := VJ h
  exact ⟨by unfold toP PyData.canLay0; exact h1, by unfold toP PyData.depth; omega⟩
theorem Fine.sh {n : Nat} {d : D} (h : Fine n d) (hn : n ≤ 64) : M5 d = true := by
  unfold M5 SeqAt.shaped
  rw [h.1, decide_eq_true (Nat.le_trans h.2 hn)]
  rfl
theorem VL {a b : En} {x y : D} {neg : Bool} (ha : asD a = some x) (hb : asD b = some y) (hx : M5 x = true) (hy : M5 y = true) : fW neg a b = some (.fr (.bl (if neg then !zR x y else zR x y))) := by
  unfold fW
  rw [ha, hb]
  simp only [hx, hy, and_self, if_true]
/-! the Ec list -/
theorem tM {r : Int} (h0 : 0 ≤ r) (h1 : r < 10000) : mK r = true := by
  unfold mK
  rw [decide_eq_true (by omega), decide_eq_true (by omega)]
  rfl
theorem QF {xs : List D} {r : Int} {d : D} (h : mK r = true) (h1 : ixN xs.length r = some r.toNat) (h2 : xs[r.toNat]? = some d) : oK xs [.fr (.int r)] = some (xs.eraseIdx r.toNat, d) := by
  unfold oK
  simp only [gq, h, if_true, h1, h2, Option.map_some]
theorem yx {xs : List D} {d : D} (h : xs.length < 10000) : dZ xs [.fr d] = some (xs ++ [d], .non) := if_pos (Nat.lt_of_lt_of_le h (by decide))
theorem La {xs : List D} {j : Nat} {d : D} (h : xs[j]? = some d) : (d :: xs.eraseIdx j).Perm xs := by
  induction xs generalizing j with
  | nil => simp at h
  | cons x xs ih =>
    cases j with
    | zero => simp at h; subst h; exact List.Perm.refl _
    | succ j =>
      rw [List.eraseIdx_cons_succ]
      exact (List.Perm.swap x d _).trans ((ih (by simpa using h)).cons x)
end DM
end
section
set_option exponentiation.threshold 10000
namespace DM
open PySem L2
theorem QG (xs : List D) : g8 [.ol xs] = some (.fr (.tup xs)) := rfl
theorem Ld (xs : List D) : g8 [.fr (.lst xs)] = some (.fr (.tup xs)) := rfl
theorem QH {fs : aq → R (List Val)} {ρ ρ1 : aq} {j : Int} (h : fs ρ = .ok [.en (.fr (.int j))] ρ1) (h0 : 0 ≤ j) (h1 : j < 10000) : gD fs ρ = .ok (bV 0 j.toNat) ρ1 := by
  unfold gD
  rw [h]
  exact if_pos (tM h0 h1)
theorem QJ {j : Int} (h0 : 0 ≤ j) (h1 : j < 10000) : Bc 0 j = true := by
  unfold Bc
  rw [tM (r := 0) (by decide) (by decide), tM h0 h1, decide_eq_true (show (j - 0).toNat ≤ 2 ^ 24 by omega)]
  rfl
theorem QK {f : aq → R Val} {ρ ρ1 : aq} {j : Int} (h : f ρ = .ok (.en (.fr (.int j))) ρ1) (h0 : 0 ≤ j) (h1 : j < 10000) : lW f ρ = .ok (.en (.ol (bV 0 j.toNat))) ρ1 := by
  unfold lW
  rw [h]
  exact if_pos (QJ h0 h1)
end DM
end
section
set_option exponentiation.threshold 10000
namespace DM
open PySem L2
theorem Le {f : aq → R Val} {ρ ρ1 : aq} {d : D} (h : f ρ = .ok (.en (.fr d)) ρ1) : aM f ρ = .ok (.en (.fr d)) ρ1 := by
  rw [yc, h]
  rfl
end DM
end
section
set_option exponentiation.threshold 10000
namespace DM
open PySem L2
end DM
end
section
set_option exponentiation.threshold 10000
set_option maxHeartbeats 100000
namespace DM
open PySem L2
end DM
end
section
set_option exponentiation.threshold 10000
namespace DM
open PySem L2
theorem acu (i : Int) : CG [.fr (.int i)] = some (.fr (.int (pF i))) := rfl
theorem VN (b : Bool) : sE [.fr (.bl b)] = some (.fr (.int (Yj b))) := rfl
theorem aew : lC (.fr (.int 10)) (.fr (.int 18)) = some (.fr (.int 1000000000000000000)) := by
  rw [DY (by decide)]
  rfl
theorem Zg (i : Int) : 0 ≤ pF i := by unfold pF; split <;> omega
theorem Zh (i : Int) : (pF i).natAbs = i.natAbs := by unfold pF; split <;> omega
theorem Bt (b : Bool) : Yj b = 0 ∨ Yj b = 1 := by cases b <;> simp [Yj]
end DM
end
section
set_option exponentiation.threshold 10000
namespace DM
open PySem L2
theorem VP (fi : aq → R (List D)) (fg : D → aq → Option aq) (fb : aq → R Fl) (ρ : aq) : runFor fi fg fb ρ = (fi ρ).bind (pD fg fb) := rfl
theorem cW {f : aq → R Val} {ρ ρ1 ρ2 : aq} {a : Val} {e : En} {xs : List D} (h : f ρ = .ok a ρ1) (hf : frz a ρ1 = some (e, ρ2)) (hi : e.items = some xs) : bY f ρ = .ok xs ρ2 := by
  unfold bY
  rw [h, aX]
  simp only [hf, hi, Bq]
theorem qI {f g : aq → R Val} {ρ ρ1 ρ2 : aq} {xs ys : List D} (h : bY f ρ = .ok xs ρ1) (h2 : bY g ρ1 = .ok ys ρ2) : fJ f g ρ = .ok (pairs xs ys) ρ2 := by
  unfold fJ
  rw [h, aX, h2, aX]
theorem Lf (x y : D) (xs ys : List D) : pairs (x :: xs) (y :: ys) = .tup [x, y] :: pairs xs ys := rfl
end DM
end
section
set_option exponentiation.threshold 10000
namespace DM
open PySem L2
theorem Bu {k : Nat} {cs : List Int} : ∀ x ∈ cs.map D.int, Fine k x := by
  intro x hx
  obtain ⟨i, _, rfl⟩ := List.mem_map.mp hx
  exact lE i
end DM
end
section
namespace DM
open PySem L2
def kIs (T : String) (a : Val) (ρ : aq) : R Val := match (look ρ a).bind YK with
  | some t => v8 ((zW t T).map fun b => .en (.fr (.bl b))) ρ
  | none => .bad
def Zi (Ts : List String) (a : Val) (ρ : aq) : R Val := match (look ρ a).bind YK with
  | some t => v8 ((isAny t Ts).map fun b => .en (.fr (.bl b))) ρ
  | none => .bad
theorem qJ (T : String) (f : aq → R Val) (ρ : aq) : fj T f ρ = (f ρ).bind (kIs T) := rfl
theorem fL (T : List String) (f : aq → R Val) (ρ : aq) : pQ T f ρ = (f ρ).bind (Zi T) := rfl
theorem fY {T t : String} {d : D} {ρ : aq} {b : Bool} (h : YK (.fr d) = some t) (h2 : zW t T = some b) : kIs T (.en (.fr d)) ρ = .ok (.en (.fr (.bl b))) ρ := by
  unfold kIs
  simp only [look, Option.bind_some, h, h2, Option.map_some, Bq]
theorem gJ {T : List String} {t : String} {d : D} {ρ : aq} {b : Bool} (h : YK (.fr d) = some t) (h2 : isAny t T = some b) : Zi T (.en (.fr d)) ρ = .ok (.en (.fr (.bl b))) ρ := by
  unfold Zi
  simp only [look, Option.bind_some, h, h2, Option.map_some, Bq]
mutual
theorem VR : ∀ d : PyData, d.canLay0 = true → PyData.eqv d d = true
  | .none, _ => by simp [PyData.eqv]
  | .bool b, _ => by simp [PyData.eqv]
  | .int b, _ => by simp [PyData.eqv]
  | .str b, _ => by simp [PyData.eqv]
  | .list xs, h => by
    unfold PyData.eqv
    exact u5 xs (by simpa only [PyData.canLay0] using h)
  | .tuple xs, h => by
    unfold PyData.eqv
    exact u5 xs (by simpa only [PyData.canLay0] using h)
  | .dict _, h => by simp [PyData.canLay0] at h
theorem u5 : ∀ ds : List PyData, PyData.canLayAll0 ds = true → PyData.eqvAll ds ds = true
  | [], _ => by simp [PyData.eqvAll]
  | d :: ds, h => by
    unfold PyData.canLayAll0 at h
    rw [Bool.and_eq_true] at h
    unfold PyData.eqvAll
    rw [VR d h.1, u5 ds h.2]
    rfl
end
theorem Fine.rf {n : Nat} {d : D} (h : Fine n d) : zR d d = true := VR _ h.1
theorem jE {n : Nat} {a b : En} {d : D} {neg : Bool} (h : Fine n d) (hn : n ≤ 64) (ha : asD a = some d) (hb : asD b = some d) : fW neg a b = some (.fr (.bl (!neg))) := by
  rw [VL ha hb (h.sh hn) (h.sh hn), h.rf]
  cases neg <;> rfl
end DM
end
section
namespace DM
open PySem L2
theorem eqb (b : Bool) (neg : Bool) : fW neg (.fr (.bl b)) (.fr (.bl b)) = some (.fr (.bl (!neg))) := jE (n := 0) (wD b) (by decide) rfl rfl
theorem eqi (b : Int) (neg : Bool) : fW neg (.fr (.int b)) (.fr (.int b)) = some (.fr (.bl (!neg))) := jE (n := 0) (lE b) (by decide) rfl rfl
end DM
end
local macro_rules | `(tactic| simp [gK]) => `(tactic| simp [DM.tD, DM.zX, List.map_cons, List.map_nil, List.replicate, List.cons_append, List.nil_append, DM.nA, DM.sV, DM.sW, DM.sO, DM.G6, DM.Nk, DM.CZ, DM.U9, DM.Ku, DM.acg, DM.Va, DM.Dc, DM.uQ, DM.Dd, DM.uR, DM.Df, DM.Dg, DM.pU, DM.Dh, DM.Di, DM.uU, DM.Dj, DM.Dk, DM.xV, DM.Kv, DM.Kw, DM.uV, DM.Dm, DM.Kr, DM.U4, DM.U5, DM.U6, DM.Ks, DM.U7, DM.U8, DM.xR, DM.CV, DM.xT, DM.CW, DM.uP, DM.xU, DM.Ko, DM.j6, DM.wu, DM.sS, DM.sU, DM.uW, DM.rE, DM.xW, DM.wA, DM.Ve, DM.Kz, DM.xX, DM.xY, DM.Vf, DM.Vg, DM.Vh, DM.Vi, DM.Vj, DM.Vk, DM.Vm, DM.yc, DM.KD, DM.KH, DM.Dr, DM.Ds, DM.Dt, DM.KJ, DM.Du, DM.Dy, DM.yd, DM.acn, DM.yg, DM.Vn, DM.yh, DM.KN, DM.yj, DM.Ze, DM.yq, DM.KQ, DM.G8, DM.sX, DM.Dz, DM.DG, DM.sY, DM.Vp, DM.DK, DM.wB, DM.DN, DM.KR, DM.yt, DM.G9, DM.DP, DM.uY, DM.Vr, DM.Vs, DM.Vt, DM.Vu, DM.KZ, DM.K6, DM.DR, DM.CT, DM.xQ, DM.aX, DM.Bq, DM.K7, DM.K8, DM.Vv, DM.Vw, DM.Vx, DM.Vy, DM.K9, DM.tE, DM.tG, DM.Ea, DM.Vz, Option.map_some, Option.bind_some, Option.join_some, List.getElem?_cons_zero, List.getElem?_cons_succ, List.set_cons_zero, List.set_cons_succ, List.length_cons, List.length_nil])
local macro_rules | `(tactic| simp [gK, $xs,*]) => `(tactic| simp [DM.tD, DM.zX, List.map_cons, List.map_nil, List.replicate, List.cons_append, List.nil_append, DM.nA, DM.sV, DM.sW, DM.sO, DM.G6, DM.Nk, DM.CZ, DM.U9, DM.Ku, DM.acg, DM.Va, DM.Dc, DM.uQ, DM.Dd, DM.uR, DM.Df, DM.Dg, DM.pU, DM.Dh, DM.Di, DM.uU, DM.Dj, DM.Dk, DM.xV, DM.Kv, DM.Kw, DM.uV, DM.Dm, DM.Kr, DM.U4, DM.U5, DM.U6, DM.Ks, DM.U7, DM.U8, DM.xR, DM.CV, DM.xT, DM.CW, DM.uP, DM.xU, DM.Ko, DM.j6, DM.wu, DM.sS, DM.sU, DM.uW, DM.rE, DM.xW, DM.wA, DM.Ve, DM.Kz, DM.xX, DM.xY, DM.Vf, DM.Vg, DM.Vh, DM.Vi, DM.Vj, DM.Vk, DM.Vm, DM.yc, DM.KD, DM.KH, DM.Dr, DM.Ds, DM.Dt, DM.KJ, DM.Du, DM.Dy, DM.yd, DM.acn, DM.yg, DM.Vn, DM.yh, DM.KN, DM.yj, DM.Ze, DM.yq, DM.KQ, DM.G8, DM.sX, DM.Dz, DM.DG, DM.sY, DM.Vp, DM.DK, DM.wB, DM.DN, DM.KR, DM.yt, DM.G9, DM.DP, DM.uY, DM.Vr, DM.Vs, DM.Vt, DM.Vu, DM.KZ, DM.K6, DM.DR, DM.CT, DM.xQ, DM.aX, DM.Bq, DM.K7, DM.K8, DM.Vv, DM.Vw, DM.Vx, DM.Vy, DM.K9, DM.tE, DM.tG, DM.Ea, DM.Vz, Option.map_some, Option.bind_some, Option.join_some, List.getElem?_cons_zero, List.getElem?_cons_succ, List.set_cons_zero, List.set_cons_succ, List.length_cons, List.length_nil, $xs,*])
section
namespace DM
open PySem L2
def Sm (run : List En → R En) (x : D) : Prop := ∃ rest, run [.fr x, .fr x] = .ok (.fr (.bl true)) rest
def vK (i : Nat) (cl : Nat → List En → R En) : aq → R Val := aM (au 2 0 [] [0, 1] (cl i) (aj (cJ 2) (aj (cJ 3) ak)) ak)
theorem Nt {i : Nat} {cl : Nat → List En → R En} (a : Option En) {xs : List D} (h : ∀ x ∈ xs, Sm (cl i) x) (hl : xs.length ≤ 10000) :
    ∃ bs : List Bool, Az [2, 3] (bW (.t [(.n 2), (.n 3)])) dB (vK i cl) (pairs xs xs) [a, a, none, none] [] = .ok (bs.map .bl) [a, a, none, none] ∧ bs.all id = true := by
  obtain ⟨uL, ρF, g1, bs, g2, g3, g4, _⟩ := wC (own := [2, 3]) (fg := bW (.t [(.n 2), (.n 3)])) (ft := dB) (fe := vK i cl)
    (fun rest ρ acc => ∃ bs : List Bool, ρ = [a, a, none, none] ∧ acc = bs.map .bl ∧ bs.all id = true ∧ ∃ ys : List D, rest = pairs ys ys ∧ (∀ x ∈ ys, Sm (cl i) x) ∧ bs.length + ys.length ≤ 10000)
    (fun d rest ρ acc ⟨bs, hρ, ha, hb, ys, hy, hf, hlen⟩ => by
      subst hρ ha
      cases ys with
      | nil => cases hy
      | cons y ys =>
        rw [Lf] at hy
        cases hy
        obtain ⟨r, hr⟩ := hf y List.mem_cons_self
        have c1 := fun (ρ : aq) => lD (L := []) (ρ := ρ) hr
        have k1 : vK i cl [a, a, some (.fr y), some (.fr y)] = .ok (.en (.fr (.bl true))) [a, a, some (.fr y), some (.fr y)] := by
          unfold vK
          simp [gK, c1]
        simp only [List.length_cons] at hlen
        refine ⟨[a, a, some (.fr y), some (.fr y)], true, _, rfl, rfl, (fun z => by cases z), fun _ => ⟨?_, .bl true, _, Le k1, bs ++ [true], rfl, by simp, by simp [hb], ys, rfl, fun x hx => hf x (List.mem_cons_of_mem _ hx), by simp only [List.length_append, List.length_cons, List.length_nil]; omega⟩⟩
        rw [List.length_map]
        exact Nat.lt_of_lt_of_le (show bs.length < 10001 by omega) (by decide)) (pairs xs xs) _ [] ⟨[], rfl, rfl, rfl, xs, rfl, h, by simpa using hl⟩
  subst g2 g3
  exact ⟨bs, g1, g4⟩
theorem Ed (bs : List Bool) : zV [.ol (bs.map .bl)] = some (.fr (.bl (bs.all id))) := by
  unfold zV Uc
  simp [Gf]
end DM
end
section
namespace DM
open PySem L2
def bK (n : Nat) (q : List Nat) : Prop := q.length = n ∧ q.Nodup ∧ ∀ k ∈ q, k < n
theorem bK.Zj {n : Nat} {q : List Nat} (h : q.Perm (List.range n)) : bK n q :=
  ⟨by rw [h.length_eq, List.length_range], h.nodup_iff.mpr List.nodup_range, fun k hk => List.mem_range.mp (h.mem_iff.mp hk)⟩
theorem tO : ∀ (n : Nat) (q : List Nat), q.Nodup → (∀ k ∈ q, k < n) → q.length ≤ n
  | 0, q, _, hb => by
    cases q with
    | nil => simp
    | cons k q => exact absurd (hb k List.mem_cons_self) (by omega)
  | n + 1, q, hn, hb => by
    have h := tO n (q.erase n) (hn.erase n) fun k hk => by
      have h1 := hb k (List.mem_of_mem_erase hk)
      have h2 := (hn.mem_erase_iff.mp hk).1
      omega
    have h2 := List.length_erase (a := n) (l := q)
    split at h2 <;> omega
theorem Ef : ∀ (n : Nat) (q : List Nat), q.Nodup → (∀ k ∈ q, k < n) → n ≤ q.length → ∀ s, s < n → s ∈ q := by
  intro n q hn hb hl s hs
  apply Classical.byContradiction
  intro hx
  have h1 : (s :: q).Nodup := List.nodup_cons.mpr ⟨hx, hn⟩
  have h3 := tO n (s :: q) h1 fun k hk => by
    rcases List.mem_cons.mp hk with rfl | hk
    · exact hs
    · exact hb k hk
  rw [List.length_cons] at h3
  omega
theorem bK.has {n : Nat} {q : List Nat} (h : bK n q) {s : Nat} (hs : s < n) : ∃ (j : Nat) (hj : j < q.length), q[j] = s := by
  have := Ef n q h.2.1 h.2.2 (Nat.le_of_eq h.1.symm) s hs
  obtain ⟨j, hj, e⟩ := List.getElem_of_mem this
  exact ⟨j, hj, e⟩
def nD (p : List Nat) : List D := p.map fun i => .int (i : Nat)
theorem lF (p : List Nat) : (nD p).length = p.length := by unfold nD; rw [List.length_map]
theorem Lg (n : Nat) : bV 0 n = nD (List.range n) := by
  unfold bV nD
  apply List.map_congr_left
  intro i _
  rw [Int.zero_add]
def Lh : D → Nat
  | .int i => i.toNat
  | _ => 0
theorem QL {ys : List D} {q : List Nat} (h : ys.Perm (nD q)) : ∃ p, ys = nD p ∧ p.Perm q := by
  refine ⟨ys.map Lh, ?_, ?_⟩
  · unfold nD
    rw [List.map_map]
    symm
    have : ∀ y ∈ ys, ((fun i : Nat => D.int (i : Nat)) ∘ Lh) y = y := fun y hy => by
      have := h.mem_iff.mp hy
      unfold nD at this
      obtain ⟨i, _, rfl⟩ := List.mem_map.mp this
      simp [Lh]
    exact (List.map_congr_left this).trans (List.map_id _)
  · have := h.map Lh
    unfold nD at this
    rw [List.map_map] at this
    have e : q.map (Lh ∘ fun i => D.int (i : Nat)) = q := by
      have : ∀ i ∈ q, (Lh ∘ fun i : Nat => D.int (i : Nat)) i = i := fun i _ => by simp [Lh]
      exact (List.map_congr_left this).trans (List.map_id _)
    rwa [e] at this
theorem Nu {k : Nat} (p : List Nat) : ∀ x ∈ nD p, Fine k x := by
  intro x hx
  unfold nD at hx
  obtain ⟨i, _, rfl⟩ := List.mem_map.mp hx
  exact lE _
end DM
end
section
namespace DM
open PySem L2
theorem acv (e : En) (ρ : aq) : kFr (.en e) ρ = .ok (.en e.fz) ρ := rfl
theorem acw (d : D) : (En.fr d).fz = .fr d := rfl
theorem Nv {own : List Nat} {fg : D → aq → Option aq} {fe : aq → R Val} {ρ : aq} (g : D → D) : ∀ (xs acc : List D), (∀ x ∈ xs, ∃ ρ1 ρ3, fg x ρ = some ρ1 ∧ aM fe ρ1 = .ok (.en (.fr (g x))) ρ3 ∧ d9 ρ3 own = ρ) → acc.length + xs.length ≤ 100000 → Az own fg dB fe xs ρ acc = .ok (acc ++ xs.map g) ρ
  | [], acc, _, _ => by simp [Az]
  | x :: xs, acc, h, hl => by
    obtain ⟨ρ1, ρ3, h1, h2, h3⟩ := h x List.mem_cons_self
    have ih := Nv (fg := fg) (fe := fe) g xs (acc ++ [g x]) (fun y hy => h y (List.mem_cons_of_mem _ hy)) (by simp only [List.length_cons, List.length_append, List.length_nil] at hl ⊢; omega)
    have hz : acc.length < sizeLine := Nat.lt_of_lt_of_le (show acc.length < 100001 by simp only [List.length_cons] at hl; omega) (by decide)
    unfold Az
    rw [h1]
    simp only [dB, aX, h2, if_pos hz, h3, ih, List.append_assoc, List.map_cons, List.cons_append, List.nil_append]
theorem Bv {own : List Nat} {fi : aq → R (List D)} {fg : D → aq → Option aq} {fe : aq → R Val} {ρ ρ1 ρ2 : aq} (g : D → D) {xs : List D} (hi : fi ρ = .ok xs ρ1) (hf : lV ρ1 own = true) (hw : d9 ρ1 own = ρ2) (h : ∀ x ∈ xs, ∃ ρa ρb, fg x ρ2 = some ρa ∧ aM fe ρa = .ok (.en (.fr (g x))) ρb ∧ d9 ρb own = ρ2) (hl : xs.length ≤ 100000) (hp : putBack ρ1 ρ2 own = ρ1) :
    iz own fi fg dB fe ρ = .ok (.en (.ol (xs.map g))) ρ1 := by
  subst hw
  have k := Nv (fg := fg) (fe := fe) g xs [] h (by simpa using hl)
  have := tH (fe := fe) hi hf k
  rw [List.nil_append] at this
  rw [this, hp]
/-! lists in the place of tuples -/
mutual
def rG : D → D
  | .lst xs => .lst (QM xs)
  | .tup xs => .lst (QM xs)
  | .non => .non
  | .bl b => .bl b
  | .int i => .int i
  | .str s => .str s
  | .dct k v => .dct k v
  | .v7 k v => .v7 k v
def QM : List D → List D
  | [] => []
  | x :: xs => rG x :: QM xs
end
theorem jG : ∀ xs : List D, QM xs = xs.map rG
  | [] => rfl
  | x :: xs => by rw [QM, jG xs]; rfl
theorem V1 (ns : List Int) : (ns.map D.int).map rG = ns.map D.int := by
  rw [List.map_map]
  apply List.map_congr_left
  intro i _
  simp [rG]
def jN (i : Nat) (cl : Nat → List En → R En) : aq → R Fl :=
  (aO [] (bH (kJ (pQ ["list", "tuple"] (ao 0))) (iz [1] (bY (ao 0)) (bW (.n 1)) dB (aM (au 1 0 [] [0] (cl i) (aj (cJ 1) ak) ak))) (ao 0)))
def Ls (run : List En → R En) (x : D) : Prop := ∃ e rest, run [.fr x] = .ok e rest ∧ e.fz = .fr (rG x) ∧ asD e = some (rG x)
theorem QS {i : Nat} {cl : Nat → List En → R En} (a : Int) : Ls (aQ 2 (jN i cl)) (.int a) := by
  refine ⟨.fr (.int a), [some (.fr (.int a)), none], ?_, by simp [rG, En.fz], by simp [rG, asD]⟩
  unfold jN
  simp [gK, fL, gJ (d := .int a) (T := ["list", "tuple"]) (b := false) rfl (by decide)]
theorem Bw {i : Nat} {cl : Nat → List En → R En} {d : D} {xs : List D} (hd : d = .lst xs ∨ d = .tup xs) (h : ∀ x ∈ xs, Ls (cl i) x) (hl : xs.length ≤ 10000) : ∃ rest, aQ 2 (jN i cl) [.fr d] = .ok (.ol (xs.map rG)) rest := by
  have hs : bY (ao 0) [some (.fr d), none] = .ok xs [some (.fr d), none] := by
    rcases hd with rfl | rfl <;> exact cW rfl rfl rfl
  have q := Bv (own := [1]) (fg := bW (.n 1)) (fe := aM (au 1 0 [] [0] (cl i) (aj (cJ 1) ak) ak)) rG hs rfl rfl (fun x hx => by
    obtain ⟨e, rest, h1, h2, _⟩ := h x hx
    have c1 := fun (ρ : aq) => uZ (L := []) (ρ := ρ) h1
    refine ⟨[some (.fr d), some (.fr x)], [some (.fr d), some (.fr x)], rfl, ?_, rfl⟩
    simp [gK, c1, acv, h2, acw]) (by omega) rfl
  have t : ∀ ρ, Zi ["list", "tuple"] (.en (.fr d)) ρ = .ok (.en (.fr (.bl true))) ρ := fun ρ => by
    rcases hd with rfl | rfl
    · exact gJ rfl (by decide)
    · exact gJ rfl (by decide)
  refine ⟨[some (.fr d), none], ?_⟩
  unfold jN
  generalize iz [1] (bY (ao 0)) (bW (.n 1)) dB (aM (au 1 0 [] [0] (cl i) (aj (cJ 1) ak) ak)) = X at q
  simp [gK, fL, t, q]
theorem QT {i : Nat} {cl : Nat → List En → R En} {xs : List D} (h : ∀ x ∈ xs, Ls (cl i) x) (hl : xs.length ≤ 10000) : Ls (aQ 2 (jN i cl)) (.lst xs) := by
  obtain ⟨rest, q⟩ := Bw (.inl rfl) h hl
  exact ⟨_, rest, q, by rw [rG, jG]; rfl, by rw [rG, jG]; rfl⟩
theorem QV {i : Nat} {cl : Nat → List En → R En} {xs : List D} (h : ∀ x ∈ xs, Ls (cl i) x) (hl : xs.length ≤ 10000) : Ls (aQ 2 (jN i cl)) (.tup xs) := by
  obtain ⟨rest, q⟩ := Bw (.inr rfl) h hl
  exact ⟨_, rest, q, by rw [rG, jG]; rfl, by rw [rG, jG]; rfl⟩
/-! texts of data -/
def Gg (m : Nat) (d : D) : Prop := (toP d).showable = true ∧ (toP d).leavesShort 200 = true ∧ (toP d).bulk ≤ m
theorem Gg.mono {m m' : Nat} {d : D} (h : Gg m d) (hm : m ≤ m') : Gg m' d := ⟨h.1, h.2.1, Nat.le_trans h.2.2 hm⟩
theorem Eh {m : Nat} {i : Int} (h : i.natAbs < 10 ^ 100) : Gg m (.int i) := by
  refine ⟨?_, ?_, ?_⟩
  · simp only [toP, PyData.showable, decide_eq_true_eq]
    exact Nat.lt_trans (Eb (k := 400) (Nat.lt_of_lt_of_le h (by decide)) (by decide)) (by decide)
  · have e := int_text_length_le10 (k := 100) (by decide) h
    simp only [toP, PyData.leavesShort, decide_eq_true_eq]
    show (Str.ofString (toString i)).length ≤ 200
    rw [ofString_length]
    omega
  · simp only [toP, PyData.bulk]
    omega
theorem aex {m : Nat} : ∀ {xs : List D}, (∀ x ∈ xs, Gg m x) → PyData.showableAll (iH xs) = true ∧ PyData.leavesShortAll 200 (iH xs) = true ∧ PyData.bulkAll (iH xs) ≤ (m + 1) * xs.length
  | [], _ => by simp [iH, PyData.showableAll, PyData.leavesShortAll, PyData.bulkAll]
  | x :: xs, h => by
    obtain ⟨h1, h2, h3⟩ := h x List.mem_cons_self
    obtain ⟨k1, k2, k3⟩ := aex fun y hy => h y (List.mem_cons_of_mem _ hy)
    unfold iH PyData.showableAll PyData.leavesShortAll PyData.bulkAll
    refine ⟨by rw [h1, k1]; rfl, by rw [h2, k2]; rfl, ?_⟩
    rw [List.length_cons, Nat.mul_add, Nat.mul_one]
    omega
theorem Ei {m : Nat} {xs : List D} (h : ∀ x ∈ xs, Gg m x) : Gg ((m + 1) * xs.length) (.tup xs) := by
  obtain ⟨h1, h2, h3⟩ := aex h
  exact ⟨by unfold toP PyData.showable; exact h1, by unfold toP PyData.leavesShort; exact h2, by unfold toP PyData.bulk; exact h3⟩
def qO (d : D) : D := .str (toP d).shown
theorem Hf {n m : Nat} {e : En} {d : D} (he : asD e = some d) (hr : Qx d = true) (hf : Fine n d) (hn : n ≤ 60) (hs : Gg m d) (hm : m ≤ 50000) : mZ [e] = some (.fr (qO d)) := by
  unfold mZ Uc
  simp only [he]
  have h1 := PyData.hasDict_of_canLay _ hf.1
  have h2 := PyData.shown_le_bulk 200 (by decide) _ hs.2.1
  have h3 : (toP d).shown.length ≤ sizeLine := by
    have := hs.2.2
    have : (200 + 2) * (toP d).bulk ≤ 202 * 50000 := Nat.mul_le_mul (by omega) (by omega)
    exact Nat.le_trans h2 (Nat.le_trans (by omega : _ ≤ 202 * 50000 + 200) (by decide))
  simp only [hr, hs.1, h1, hf.1, h3, (show (toP d).depth ≤ 100 from Nat.le_trans hf.2 (by omega)), and_self, if_true]
  rfl
end DM
end
section
namespace DM
open PySem L2
def Ret (run : List En → R En) (es : List En) (e : En) : Prop := ∃ rest, run es = .ok e rest
theorem cX {f g : aq → R Fl} {ρ ρ1 : aq} {r : R Fl} (h : f ρ = .ok .nx ρ1) (h2 : g ρ1 = r) : aJ f g ρ = r := by
  rw [nA, h, aX, sV, h2]
theorem Ny {f g : aq → R Fl} {ρ ρ1 : aq} {e : En} (h : f ρ = .ok (.rt e) ρ1) : aJ f g ρ = .ok (.rt e) ρ1 := by
  rw [nA, h, aX, sW]
theorem oU {N : Nat} {body : aq → R Fl} {es : List En} {e : En} {ρ0 ρ : aq} (h0 : zX N es = ρ0) (h : body ρ0 = .ok (.rt e) ρ) : aQ N body es = .ok e ρ := by
  rw [tD, h0, h, aX, wB]
theorem rH {fi : aq → R (List D)} {fg : D → aq → Option aq} {fb : aq → R Fl} {ρ ρ1 ρ2 : aq} {ds : List D} {fl : Fl} (h : fi ρ = .ok ds ρ1) (h2 : pD fg fb ds ρ1 = .ok fl ρ2) : runFor fi fg fb ρ = .ok fl ρ2 := by
  rw [VP, h, aX, h2]
theorem acz (d : D) (ρ : aq) : frz (.en (.fr d)) ρ = some (.fr d, ρ) := rfl
def Sq (d : D) (xs : List D) : Prop := d = .tup xs ∨ d = .lst xs
section
variable {d a b : D} {xs ys : List D}
theorem Sq.items (h : Sq d xs) : (En.fr d).items = some xs := by rcases h with rfl | rfl <;> rfl
theorem Sq.len (h : Sq d xs) : dW [.fr d] = some (.fr (.int (xs.length : Nat))) := by rcases h with rfl | rfl <;> rfl
theorem Sq.tup (h : Sq d xs) : g8 [.fr d] = some (.fr (.tup xs)) := by rcases h with rfl | rfl <;> rfl
theorem Sq.list (h : Sq d xs) : Bb [.fr d] = some (.ol xs) := by rcases h with rfl | rfl <;> rfl
theorem Sq.ix (h : Sq d xs) (i : Int) : eZ (.fr d) (.fr (.int i)) = (atI xs i).map .fr := by rcases h with rfl | rfl <;> rfl
theorem Sq.sum {ns : List Int} (h : Sq d (ns.map .int)) : agd [.fr d] = some (.fr (.int ns.sum)) := by
  rcases h with rfl | rfl
  · show (match Cv (.fr (.tup (ns.map D.int))) with | some xs => (pB xs).map fun (ns : List Int) => En.fr (.int ns.sum) | none => (none : Option En)) = _
    simp [Cv]
  · show (match Gf (.fr (.lst (ns.map D.int))) with | some xs => (pB xs).map fun (ns : List Int) => En.fr (.int ns.sum) | none => (none : Option En)) = _
    simp [Gf]
theorem Sq.seq (h : Sq d xs) {f : aq → R Val} {ρ ρ1 : aq} (hf : f ρ = .ok (.en (.fr d)) ρ1) : bY f ρ = .ok xs ρ1 := cW hf (acz d ρ1) h.items
def St (d : D) (xs ys : List D) : Prop := ∃ a b, Sq d [a, b] ∧ Sq a xs ∧ Sq b ys
theorem St.mk (h : Sq d [a, b]) (ha : Sq a xs) (hb : Sq b ys) : St d xs ys := ⟨a, b, h, ha, hb⟩
theorem St.hard : St (.tup [.tup xs, .tup ys]) xs ys := ⟨_, _, .inl rfl, .inl rfl, .inl rfl⟩
theorem St.soft : St (.lst [.lst xs, .lst ys]) xs ys := ⟨_, _, .inr rfl, .inr rfl, .inr rfl⟩
theorem Sq.ix0 (h : Sq d [a, b]) : eZ (.fr d) (.fr (.int 0)) = some (.fr a) := by rw [h.ix, VB]; rfl
end
def qT (cl : Nat → List En → R En) : aq → R Fl :=
  (aO [] (aN dW (aj (aA eZ (ao 0) (runC (.int 0))) ak)))
section
variable {cl : Nat → List En → R En} {d : D} {xs ys : List D}
def acA (run : List En → R En) : Prop := ∀ d xs ys, St d xs ys → Ret run [.fr d] (.fr (.int (xs.length : Nat)))
theorem yC : acA (aQ 1 (qT cl)) := by
  intro d xs ys h
  obtain ⟨a, b, h, ha, hb⟩ := h
  refine ⟨[some (.fr d)], ?_⟩
  unfold qT
  simp [gK, h.ix0, ha.len]
def aZ (n : Nat) (q : List Nat) (ns : List Int) : List Int := List.zipWith (fun (a : Nat) (b : Int) => ((a : Int) + b) % (n : Int)) q ns
end
end DM
end
section
namespace DM
open PySem L2
theorem qK {a b : Str} (ha : PyData.strOk a = true) (hb : PyData.strOk b = true) : PyData.strOk (a ++ b) = true := by
  show (a.cps ++ b.cps).all _ = true
  rw [Array.all_append]
  unfold PyData.strOk at ha hb
  rw [ha, hb]
  rfl
theorem tQ (s : String) : PyData.strOk (Str.ofString s) = true := by
  rw [Str.ofString_eq_toList]
  unfold PyData.strOk
  simp only [List.all_toArray, List.all_map, List.all_eq_true]
  intro c _
  have := c.valid
  simp only [Function.comp, decide_eq_true_eq]
  have h : c.toNat.isValidChar := c.valid
  unfold Nat.isValidChar at h
  omega
theorem yD : ∀ (ts : List Str), (∀ t ∈ ts, PyData.strOk t = true) → PyData.strOk (Str.join ", " ts) = true
  | [], _ => by unfold Str.join Str.empty PyData.strOk; simp
  | [t], h => h t List.mem_cons_self
  | t :: u :: ts, h => by
    unfold Str.join
    exact qK (qK (h t List.mem_cons_self) (tQ _)) (yD (u :: ts) fun v hv => h v (List.mem_cons_of_mem _ hv))
def Tx (d : D) : Prop := PyData.strOk (toP d).shown = true
theorem V2 (i : Int) : Tx (.int i) := by
  unfold Tx toP PyData.shown
  exact tQ _
theorem V3 : ∀ {xs : List D}, (∀ x ∈ xs, Tx x) → ∀ t ∈ PyData.shownAll (iH xs), PyData.strOk t = true
  | [], _, t, h => by simp [iH, PyData.shownAll] at h
  | x :: xs, hx, t, h => by
    unfold iH PyData.shownAll at h
    rcases List.mem_cons.mp h with rfl | h
    · exact hx x List.mem_cons_self
    · exact V3 (fun y hy => hx y (List.mem_cons_of_mem _ hy)) t h
theorem Lj {xs : List D} (h : ∀ x ∈ xs, Tx x) : Tx (.tup xs) := by
  unfold Tx toP PyData.shown tupleText
  exact qK (qK (tQ _) (yD _ (V3 h))) (tQ _)
theorem Zk {n : Nat} {d : D} (h : Tx d) : Fine n (qO d) := ⟨by simpa [qO, toP, PyData.canLay0, Tx] using h, by simp [qO, toP, PyData.depth]⟩
theorem acB {d : D} (h : Tx d) (neg : Bool) : fW neg (.fr (qO d)) (.fr (qO d)) = some (.fr (.bl (!neg))) := jE (n := 0) (Zk h) (by decide) rfl rfl
/-! flat data are the same as themselves -/
theorem Hg {n : Nat} {s : Str} (h : PyData.strOk s = true) : Fine n (.str s) := ⟨by simpa [toP, PyData.canLay0] using h, by simp [toP, PyData.depth]⟩
def jH : Nat → D → Prop
  | 0, d => (∃ i, d = .int i) ∨ (∃ b, d = .bl b) ∨ d = .non ∨ ∃ s, d = .str s ∧ PyData.strOk s = true
  | n + 1, d => ((∃ i, d = .int i) ∨ (∃ b, d = .bl b) ∨ d = .non ∨ ∃ s, d = .str s ∧ PyData.strOk s = true) ∨ ∃ xs, Sq d xs ∧ xs.length ≤ 10000 ∧ ∀ x ∈ xs, jH n x
theorem pX {n : Nat} (i : Int) : jH n (.int i) := by
  cases n with
  | zero => exact .inl ⟨i, rfl⟩
  | succ n => exact .inl (.inl ⟨i, rfl⟩)
theorem Nz {n : Nat} (i : Bool) : jH n (.bl i) := by
  cases n with
  | zero => exact .inr (.inl ⟨i, rfl⟩)
  | succ n => exact .inl (.inr (.inl ⟨i, rfl⟩))
theorem yE {n : Nat} : jH n .non := by
  cases n with
  | zero => exact .inr (.inr (.inl rfl))
  | succ n => exact .inl (.inr (.inr (.inl rfl)))
theorem V4 {n : Nat} {s : Str} (h : PyData.strOk s = true) : jH n (.str s) := by
  cases n with
  | zero => exact .inr (.inr (.inr ⟨s, rfl, h⟩))
  | succ n => exact .inl (.inr (.inr (.inr ⟨s, rfl, h⟩)))
theorem wF {n : Nat} {d : D} {xs : List D} (h : Sq d xs) (hl : xs.length ≤ 10000) (hx : ∀ x ∈ xs, jH n x) : jH (n + 1) d := .inr ⟨xs, h, hl, hx⟩
theorem tR {n : Nat} {xs : List D} (hl : xs.length ≤ 10000) (hx : ∀ x ∈ xs, jH n x) : jH (n + 1) (.tup xs) := wF (.inl rfl) hl hx
theorem V5 {n : Nat} {xs : List D} (hl : xs.length ≤ 10000) (hx : ∀ x ∈ xs, jH n x) : jH (n + 1) (.lst xs) := wF (.inr rfl) hl hx
def V6 (n : Nat) (run : List En → R En) : Prop := ∀ d, jH n d → Sm run d
theorem yF {i : Nat} {cl : Nat → List En → R En} {d : D} (h : jH 0 d) : Ls (aQ 2 (jN i cl)) d := by
  rcases h with ⟨a, rfl⟩ | ⟨a, rfl⟩ | rfl | ⟨s, rfl, h⟩
  · exact QS a
  · refine ⟨.fr (.bl a), [some (.fr (.bl a)), none], ?_, by simp [rG, En.fz], by simp [rG, asD]⟩
    unfold jN
    simp [gK, fL, gJ (d := .bl a) (T := ["list", "tuple"]) (b := false) rfl (by decide)]
  · refine ⟨.fr .non, [some (.fr .non), none], ?_, by simp [rG, En.fz], by simp [rG, asD]⟩
    unfold jN
    simp [gK, fL, gJ (d := .non) (T := ["list", "tuple"]) (b := false) rfl (by decide)]
  · refine ⟨.fr (.str s), [some (.fr (.str s)), none], ?_, by simp [rG, En.fz], by simp [rG, asD]⟩
    unfold jN
    simp [gK, fL, gJ (d := .str s) (T := ["list", "tuple"]) (b := false) rfl (by decide)]
def LsOk (n : Nat) (run : List En → R En) : Prop := ∀ d, jH n d → Ls run d
theorem acC {i : Nat} {cl : Nat → List En → R En} : LsOk 0 (aQ 2 (jN i cl)) := fun d h => yF h
theorem acD {i n : Nat} {cl : Nat → List En → R En} (h : LsOk n (cl i)) : LsOk (n + 1) (aQ 2 (jN i cl)) := by
  intro d hd
  rcases hd with hd | ⟨xs, hs, hl, hx⟩
  · exact yF hd
  · rcases hs with rfl | rfl
    · exact QV (fun x hx' => h x (hx x hx')) hl
    · exact QT (fun x hx' => h x (hx x hx')) hl
end DM
end
section
set_option exponentiation.threshold 10000
namespace DM
open PySem L2
theorem range_item {n : Nat} {d : D} (h : d ∈ bV 0 n) : ∃ k : Nat, d = .int (k : Nat) ∧ k < n := by
  unfold bV at h
  obtain ⟨i, hi, rfl⟩ := List.mem_map.mp h
  exact ⟨i, by rw [Int.zero_add], List.mem_range.mp hi⟩
theorem QW (n : Nat) : zV [.ol (List.replicate n (.bl true))] = some (.fr (.bl true)) := by
  have e : List.replicate n (D.bl true) = (List.replicate n true).map .bl := by rw [List.map_replicate]
  rw [e, Ed]
  congr 3
  simp
end DM
end
section
set_option maxHeartbeats 2000000
namespace PySem
open Sem (wp)
abbrev oV (h : Heap) (z TI TO : Addr) (f0 : Value) (f1 : Bool) : Prop := h.get? z = some { cls := .type "zip", dict := none, data := .fields #[f0, .bool f1, .bool false, .ref TI, .ref TO], slots := #[] }
def qU (h : Heap) (z TI TO : Addr) : Prop := ∃ (f0 : Value) (f1 : Bool), (f0 = .none ∨ ∃ T : Addr, f0 = rawInt T) ∧ oV h z TI TO f0 f1
theorem qU.of_zip {h : Heap} {z TI TO : Addr} (x : IsZip h z TI TO .none) : qU h z TI TO := ⟨.none, false, .inl rfl, x⟩
section
variable {prog : Program} {w : World} {A : Around} {E : Value → Shared → Prop} {s : Shared} {z TI TO i1 i2 : Addr} {fp1 fp2 : List Addr} {n1 n2 i : Nat} {P1 P2 : Nat → Value → Prop} {St1 St2 : Nat → Heap → Prop} {a1 a2 : Value}
theorem V7 {a : Addr} {Q : Option Obj → Shared → Prop} (h : Q (s.heap.get? a) s) : wpAny (model prog w) A (loadIfAlive a) Q E s := fun _ _ _ => h
theorem wG {f0 : Value} {f1 : Bool} {Q : Bool → Shared → Prop} (hf : f0 = .none ∨ ∃ T : Addr, f0 = rawInt T) (hz : oV s.heap z TI TO f0 f1) (yes : Q true s)
    (no : ∀ h', qU h' z TI TO → Heap.SameBut z s.heap h' → Q false { s with heap := h' }) : wpAny (model prog w) A (Builtin.SmallTypes.ownedTupleIsFree (.ref z)) Q E s := by
  unfold Builtin.SmallTypes.ownedTupleIsFree
  refine wpAny_bind (wpAny_field hz rfl (x := f0) rfl ?_)
  rcases hf with rfl | ⟨T, rfl⟩
  · exact wpAny_pure yes
  · show wpAny _ _ ((loadIfAlive ((T : Int).toNat)).bind _) _ _ _
    rw [Int.toNat_natCast]
    refine wpAny_bind (V7 ?_)
    cases s.heap.get? T with
    | none => exact wpAny_pure yes
    | some oT =>
      simp only [Option.isNone_some, Bool.false_eq_true, if_false]
      refine wpAny_bind (wpAny_field hz rfl (x := Value.bool f1) rfl ?_)
      cases f1
      · rw [if_pos (show (Value.bool false != Value.bool true) = true by rfl)]
        exact wpAny_bind (wpAny_setField_rec hz (by simp) fun g hg sg => wpAny_pure (no g ⟨_, true, .inr ⟨T, rfl⟩, hg⟩ sg))
      · rw [if_neg (show ¬ (Value.bool true != Value.bool true) = true by simp)]
        exact wpAny_pure (no s.heap ⟨_, true, .inr ⟨T, rfl⟩, hz⟩ (Heap.SameBut.refl _ _))
theorem NK {Q : Value → Shared → Prop} (S : ZipSep2 z TI TO i1 i2 fp1 fp2) (D1 : Draws prog w A i1 fp1 n1 P1 St1) (D2 : Draws prog w A i2 fp2 n2 P2 St2)
    (hz : qU s.heap z TI TO) (hTI : IsTupOf2 s.heap TI (.ref i1) (.ref i2)) (hTO : ∃ x y, IsTupOf2 s.heap TO x y) (st1 : St1 i s.heap) (st2 : St2 i s.heap) (l1 : i < n1) (l2 : i < n2)
    (hQ : ∀ x1 x2 h' tk, P1 i x1 → P2 i x2 → qU h' z TI TO → (∃ x y, IsTupOf2 h' TO x y) → St1 (i + 1) h' → St2 (i + 1) h' → IsTupOf2 h' s.heap.objs.size x1 x2 → h'.objs.size = s.heap.objs.size + 1 →
      (∀ c o, c ≠ z → c ≠ TO → c ≠ i1 → c ≠ i2 → s.heap.get? c = some o → h'.get? c = some o) → Q (.ref s.heap.objs.size) { s with heap := h', toks := tk }) :
    wpAny (model prog w) A (Builtin.«zip.__next__» ⟨[.ref z], []⟩) (fun fin s' => ∃ v, fin = .done (.ret v) ∧ Q v s') E s := by
  obtain ⟨h0, ge, de, t0, oo⟩ := s
  obtain ⟨f0, f1, hf, hz⟩ := hz
  obtain ⟨a1, a2, hTO⟩ := hTO
  show wpAny _ _ ((field (.ref z) 2).bind _) _ _ _
  refine wpAny_bind (wpAny_field hz rfl (x := Value.bool false) rfl ?_)
  show wpAny _ _ ((field (.ref z) 3).bind _) _ _ _
  refine wpAny_bind (wpAny_field hz rfl (x := Value.ref TI) rfl ?_)
  refine wpAny_bind (wpAny_seqItems hTI rfl ?_)
  show wpAny _ _ ((Builtin.SmallTypes.ownedTupleIsFree (.ref z)).bind _) _ _ _
  refine wpAny_bind (wG hf hz ?_ fun g hg sg => ?_)
  · simp only [if_true]
    refine wpAny_bind (wpAny_rule ?_)
    refine wpAny_bind (wpAny_field hz rfl (x := Value.ref TO) rfl ?_)
    refine wpAny_bind (wpAny_setField_rec hz (by simp) fun g0 q0 b0 => ?_)
    replace q0 : oV g0 z TI TO .ellipsis f1 := q0
    replace b0 : Heap.SameBut z h0 g0 := b0
    refine wpAny_bind ?_
    simp only [List.zipIdx_cons, List.zipIdx_nil, List.forIn_cons, List.forIn_nil]
    refine wpAny_bind (wpAny_bind (wpAny_onRaise ?_))
    show wpAny _ _ ((Builtin.SmallTypes.nextOf (.ref i1)).bind _) _ _ ⟨g0, ge, de, t0, oo⟩
    refine wpAny_bind (D1.item i _ _ _ l1 (D1.over st1 b0 S.zf1) fun x1 p1 k1 y1 n1' b1 => wpAny_pure ?_)
    replace b1 : Heap.SameBut i1 g0 p1 := b1
    have u1 : IsTupOf2 p1 TO a1 a2 := b1.extBut _ _ S.Ti1 (b0.extBut _ _ S.TOz hTO)
    refine wpAny_bind (wpAny_seqItems (s := ⟨p1, ge, de, k1, oo⟩) u1 rfl ?_)
    refine wpAny_bind (updateSeq_IsTupOf2 (s := ⟨p1, ge, de, k1, oo⟩) u1 fun g1 v1 c1 => ?_)
    replace v1 : IsTupOf2 g1 TO x1 a2 := v1
    replace c1 : Heap.SameBut TO p1 g1 := c1
    refine wpAny_bind (wpAny_letGo (wpAny_pure ?_))
    refine wpAny_bind (wpAny_bind (wpAny_onRaise ?_))
    show wpAny _ _ ((Builtin.SmallTypes.nextOf (.ref i2)).bind _) _ _ ⟨g1, ge, de, k1, oo⟩
    refine wpAny_bind (D2.item i _ _ _ l2 (D2.over (D2.over (D2.over st2 b0 S.zf2) b1 S.sep1_2) c1 S.Tf2) fun x2 p2 k2 y2 n2' b2 => wpAny_pure ?_)
    replace b2 : Heap.SameBut i2 g1 p2 := b2
    have u2 : IsTupOf2 p2 TO x1 a2 := b2.extBut _ _ S.Ti2 v1
    refine wpAny_bind (wpAny_seqItems (s := ⟨p2, ge, de, k2, oo⟩) u2 rfl ?_)
    refine wpAny_bind (updateSeq_IsTupOf2 (s := ⟨p2, ge, de, k2, oo⟩) u2 fun g2 v2 c2 => ?_)
    replace v2 : IsTupOf2 g2 TO x1 x2 := v2
    replace c2 : Heap.SameBut TO p2 g2 := c2
    refine wpAny_bind (wpAny_letGo (wpAny_pure ?_))
    refine wpAny_pure ?_
    have zg : oV g2 z TI TO .ellipsis f1 := c2.extBut _ _ S.TOz.symm (b2.extBut _ _ S.zi2 (c1.extBut _ _ S.TOz.symm (b1.extBut _ _ S.zi1 q0)))
    have sz : g2.objs.size = h0.objs.size := by rw [c2.1, b2.1, c1.1, b1.1, b0.1]
    have kk : ∀ c o, c ≠ z → c ≠ TO → c ≠ i1 → c ≠ i2 → h0.get? c = some o → g2.get? c = some o := fun c o e1 e2 e3 e4 e => c2.extBut _ _ e2 (b2.extBut _ _ e4 (c1.extBut _ _ e2 (b1.extBut _ _ e3 (b0.extBut _ _ e1 e))))
    have w1 : St1 (i + 1) g2 := D1.over (D1.over (D1.over n1' c1 S.Tf1) b2 S.sep2_1) c2 S.Tf1
    have w2 : St2 (i + 1) g2 := D2.over n2' c2 S.Tf2
    refine wpAny_bind (wpAny_seqItems (s := ⟨g2, ge, de, k2, oo⟩) v2 rfl ?_)
    show wpAny _ _ ((newTuple [x1, x2]).bind _) _ _ _
    refine wpAny_bind (wpAny_newTuple ?_)
    have lz : z < g2.objs.size := Heap.lt_size zg
    show wpAny _ _ ((Builtin.SmallTypes.ownedTupleHandOut (.ref z) (.ref g2.objs.size)).bind _) _ _ ⟨g2.push { cls := .type "tuple", data := .seq #[x1, x2] }, ge, de, k2, oo⟩
    refine wpAny_bind ?_
    unfold Builtin.SmallTypes.ownedTupleHandOut
    have z6 : oV (g2.push { cls := .type "tuple", data := .seq #[x1, x2] }) z TI TO .ellipsis f1 := Heap.get?_push_of_some _ zg
    refine wpAny_bind (wpAny_setField_rec z6 (by simp) fun h7 z7 b7 => ?_)
    replace z7 : oV h7 z TI TO (rawInt g2.objs.size) f1 := z7
    refine wpAny_setField_rec z7 (by simp) fun h8 z8 b8 => ?_
    replace z8 : oV h8 z TI TO (rawInt g2.objs.size) false := z8
    replace b7 : Heap.SameBut z (g2.push { cls := .type "tuple", data := .seq #[x1, x2] }) h7 := b7
    replace b8 : Heap.SameBut z h7 h8 := b8
    have up : ∀ c o, c ≠ z → g2.get? c = some o → h8.get? c = some o := fun c o e1 e => b8.extBut _ _ e1 (b7.extBut _ _ e1 (Heap.get?_push_of_some _ e))
    have new : IsTupOf2 h8 g2.objs.size x1 x2 := b8.extBut _ _ (Nat.ne_of_gt lz) (b7.extBut _ _ (Nat.ne_of_gt lz) (Heap.get?_push_size _ rfl))
    have big : h8.objs.size = g2.objs.size + 1 := by rw [b8.1, b7.1, Heap.size_push]
    have zz : qU h8 z TI TO := ⟨_, false, .inr ⟨_, rfl⟩, z8⟩
    rw [sz] at new big
    refine wpAny_pure ⟨_, rfl, ?_⟩
    show Q (.ref g2.objs.size) ⟨h8, ge, de, k2, oo⟩
    rw [sz]
    exact hQ x1 x2 h8 k2 y1 y2 zz ⟨_, _, up _ _ S.TOz v2⟩ (D1.frame _ _ _ w1 fun b hb o e => up b o (fun q => S.zf1 (q ▸ hb)) e) (D2.frame _ _ _ w2 fun b hb o e => up b o (fun q => S.zf2 (q ▸ hb)) e) new big fun c o e1 e2 e3 e4 e => up c o e1 (kk c o e1 e2 e3 e4 e)
  · replace sg : Heap.SameBut z h0 g := sg
    obtain ⟨f0', f1', hf', hg'⟩ := hg
    simp only [Bool.false_eq_true, if_false]
    refine wpAny_bind ?_
    rw [← Array.forIn_toList]
    simp only [List.forIn_cons, List.forIn_nil]
    refine wpAny_bind (wpAny_bind (wpAny_holding ?_))
    show wpAny _ _ ((Builtin.SmallTypes.nextOf (.ref i1)).bind _) _ _ ⟨g, ge, de, t0, oo⟩
    refine wpAny_bind (D1.item i _ _ _ l1 (D1.over st1 sg S.zf1) fun x1 p1 k1 y1 n1' b1 => wpAny_pure ?_)
    replace b1 : Heap.SameBut i1 g p1 := b1
    refine wpAny_pure ?_
    refine wpAny_bind (wpAny_bind (wpAny_holding ?_))
    show wpAny _ _ ((Builtin.SmallTypes.nextOf (.ref i2)).bind _) _ _ ⟨p1, ge, de, k1, oo⟩
    refine wpAny_bind (D2.item i _ _ _ l2 (D2.over (D2.over st2 sg S.zf2) b1 S.sep1_2) fun x2 p2 k2 y2 n2' b2 => wpAny_pure ?_)
    replace b2 : Heap.SameBut i2 p1 p2 := b2
    refine wpAny_pure (wpAny_pure ?_)
    show wpAny _ _ ((newTuple [x1, x2]).bind _) _ _ ⟨p2, ge, de, k2, oo⟩
    refine wpAny_bind (wpAny_newTuple ?_)
    have sz : p2.objs.size = h0.objs.size := by rw [b2.1, b1.1, sg.1]
    have zg : oV p2 z TI TO f0' f1' := b2.extBut _ _ S.zi2 (b1.extBut _ _ S.zi1 hg')
    have kk : ∀ c o, c ≠ z → c ≠ i1 → c ≠ i2 → h0.get? c = some o → p2.get? c = some o := fun c o e1 e2 e3 e => b2.extBut _ _ e3 (b1.extBut _ _ e2 (sg.extBut _ _ e1 e))
    have up : ∀ c o, p2.get? c = some o → (p2.push { cls := .type "tuple", data := .seq #[x1, x2] }).get? c = some o := fun c o e => Heap.get?_push_of_some _ e
    refine wpAny_pure ⟨_, rfl, ?_⟩
    show Q (.ref p2.objs.size) ⟨p2.push { cls := .type "tuple", data := .seq #[x1, x2] }, ge, de, k2, oo⟩
    have new : IsTupOf2 (p2.push { cls := .type "tuple", data := .seq #[x1, x2] }) p2.objs.size x1 x2 := Heap.get?_push_size _ rfl
    have big : (p2.push { cls := .type "tuple", data := .seq #[x1, x2] }).objs.size = p2.objs.size + 1 := Heap.size_push ..
    rw [sz] at new big ⊢
    exact hQ x1 x2 _ k2 y1 y2 ⟨f0', f1', hf', up _ _ zg⟩ ⟨_, _, up _ _ (kk _ _ S.TOz S.Ti1 S.Ti2 hTO)⟩ (D1.frame _ _ _ (D1.over n1' b2 S.sep2_1) fun b hb o e => up b o e) (D2.frame _ _ _ n2' fun b hb o e => up b o e) new big fun c o e1 e2 e3 e4 e => up c o (kk c o e1 e3 e4 e)
theorem V8 {Q : Fin → Shared → Prop} (S : ZipSep2 z TI TO i1 i2 fp1 fp2) (D1 : Draws prog w A i1 fp1 n1 P1 St1) (D2 : Draws prog w A i2 fp2 n2 P2 St2)
    (hz : qU s.heap z TI TO) (hTI : IsTupOf2 s.heap TI (.ref i1) (.ref i2)) (hTO : ∃ x y, IsTupOf2 s.heap TO x y) (st1 : St1 i s.heap) (st2 : St2 i s.heap) (l1 : i ≤ n1) (l2 : i ≤ n2) (le : i = n1 ∨ i = n2)
    (hE : ∀ h' tk e, (∀ c o, c ≠ z → c ≠ TO → c ≠ i1 → c ≠ i2 → s.heap.get? c = some o → h'.get? c = some o) → (∃ o, h'.get? e = some o ∧ o.cls = .type "StopIteration") → E (.ref e) { s with heap := h', toks := tk }) :
    wpAny (model prog w) A (Builtin.«zip.__next__» ⟨[.ref z], []⟩) Q E s := by
  obtain ⟨h0, ge, de, t0, oo⟩ := s
  obtain ⟨f0, f1, hf, hz⟩ := hz
  obtain ⟨a1, a2, hTO⟩ := hTO
  show wpAny _ _ ((field (.ref z) 2).bind _) _ _ _
  refine wpAny_bind (wpAny_field hz rfl (x := Value.bool false) rfl ?_)
  show wpAny _ _ ((field (.ref z) 3).bind _) _ _ _
  refine wpAny_bind (wpAny_field hz rfl (x := Value.ref TI) rfl ?_)
  refine wpAny_bind (wpAny_seqItems hTI rfl ?_)
  show wpAny _ _ ((Builtin.SmallTypes.ownedTupleIsFree (.ref z)).bind _) _ _ _
  refine wpAny_bind (wG hf hz ?_ fun g hg sg => ?_)
  · simp only [if_true]
    refine wpAny_bind (wpAny_rule ?_)
    refine wpAny_bind (wpAny_field hz rfl (x := Value.ref TO) rfl ?_)
    refine wpAny_bind (wpAny_setField_rec hz (by simp) fun g0 q0 b0 => ?_)
    replace q0 : oV g0 z TI TO .ellipsis f1 := q0
    replace b0 : Heap.SameBut z h0 g0 := b0
    refine wpAny_bind ?_
    simp only [List.zipIdx_cons, List.zipIdx_nil, List.forIn_cons, List.forIn_nil]
    refine wpAny_bind (wpAny_bind (wpAny_onRaise ?_))
    show wpAny _ _ ((Builtin.SmallTypes.nextOf (.ref i1)).bind _) _ _ ⟨g0, ge, de, t0, oo⟩
    by_cases hl : i < n1
    · refine wpAny_bind (D1.item i _ _ _ hl (D1.over st1 b0 S.zf1) fun x1 p1 k1 y1 n1' b1 => wpAny_pure ?_)
      replace b1 : Heap.SameBut i1 g0 p1 := b1
      have u1 : IsTupOf2 p1 TO a1 a2 := b1.extBut _ _ S.Ti1 (b0.extBut _ _ S.TOz hTO)
      refine wpAny_bind (wpAny_seqItems (s := ⟨p1, ge, de, k1, oo⟩) u1 rfl ?_)
      refine wpAny_bind (updateSeq_IsTupOf2 (s := ⟨p1, ge, de, k1, oo⟩) u1 fun g1 v1 c1 => ?_)
      replace v1 : IsTupOf2 g1 TO x1 a2 := v1
      replace c1 : Heap.SameBut TO p1 g1 := c1
      refine wpAny_bind (wpAny_letGo (wpAny_pure ?_))
      have e2 : i = n2 := by omega
      refine wpAny_bind (wpAny_bind (wpAny_onRaise ?_))
      show wpAny _ _ ((Builtin.SmallTypes.nextOf (.ref i2)).bind _) _ _ ⟨g1, ge, de, k1, oo⟩
      refine wpAny_bind (D2.done ⟨g1, ge, de, k1, oo⟩ _ _ (by rw [← e2]; exact (D2.over (D2.over (D2.over st2 b0 S.zf2) b1 S.sep1_2) c1 S.Tf2)) fun q e hq ho => ?_)
      replace hq : Heap.ExtBut i2 g1 q := hq
      obtain ⟨oe, ho, hc⟩ := ho
      replace ho : q.get? e = some oe := ho
      have zq : oV q z TI TO .ellipsis f1 := hq _ _ S.zi2 (c1.extBut _ _ S.TOz.symm (b1.extBut _ _ S.zi1 q0))
      have ez : e ≠ z := fun x => by subst x; rw [zq] at ho; cases ho; simp at hc
      refine wpAny_setField_rec (s := ⟨q, ge, de, k1, oo⟩) zq (by simp) fun q' _ bq => ?_
      replace bq : Heap.SameBut z q q' := bq
      exact hE q' k1 e (fun c o m1 m2 m3 m4 x => bq.extBut _ _ m1 (hq _ _ m4 (c1.extBut _ _ m2 (b1.extBut _ _ m3 (b0.extBut _ _ m1 x))))) ⟨oe, bq.extBut _ _ ez ho, hc⟩
    · have e1 : i = n1 := by omega
      refine wpAny_bind (D1.done ⟨g0, ge, de, t0, oo⟩ _ _ (by rw [← e1]; exact (D1.over st1 b0 S.zf1)) fun q e hq ho => ?_)
      replace hq : Heap.ExtBut i1 g0 q := hq
      obtain ⟨oe, ho, hc⟩ := ho
      replace ho : q.get? e = some oe := ho
      have zq : oV q z TI TO .ellipsis f1 := hq _ _ S.zi1 q0
      have ez : e ≠ z := fun x => by subst x; rw [zq] at ho; cases ho; simp at hc
      refine wpAny_setField_rec (s := ⟨q, ge, de, t0, oo⟩) zq (by simp) fun q' _ bq => ?_
      replace bq : Heap.SameBut z q q' := bq
      exact hE q' t0 e (fun c o m1 m2 m3 m4 x => bq.extBut _ _ m1 (hq _ _ m3 (b0.extBut _ _ m1 x))) ⟨oe, bq.extBut _ _ ez ho, hc⟩
  · replace sg : Heap.SameBut z h0 g := sg
    simp only [Bool.false_eq_true, if_false]
    refine wpAny_bind ?_
    rw [← Array.forIn_toList]
    simp only [List.forIn_cons, List.forIn_nil]
    refine wpAny_bind (wpAny_bind (wpAny_holding ?_))
    show wpAny _ _ ((Builtin.SmallTypes.nextOf (.ref i1)).bind _) _ _ ⟨g, ge, de, t0, oo⟩
    by_cases hl : i < n1
    · refine wpAny_bind (D1.item i _ _ _ hl (D1.over st1 sg S.zf1) fun x1 p1 k1 y1 n1' b1 => wpAny_pure ?_)
      replace b1 : Heap.SameBut i1 g p1 := b1
      refine wpAny_pure ?_
      have e2 : i = n2 := by omega
      refine wpAny_bind (wpAny_bind (wpAny_holding ?_))
      show wpAny _ _ ((Builtin.SmallTypes.nextOf (.ref i2)).bind _) _ _ ⟨p1, ge, de, k1, oo⟩
      refine wpAny_bind (D2.done ⟨p1, ge, de, k1, oo⟩ _ _ (by rw [← e2]; exact (D2.over (D2.over st2 sg S.zf2) b1 S.sep1_2)) fun q e hq ho => ?_)
      replace hq : Heap.ExtBut i2 p1 q := hq
      exact hE q k1 e (fun c o m1 m2 m3 m4 x => hq _ _ m4 (b1.extBut _ _ m3 (sg.extBut _ _ m1 x))) ho
    · have e1 : i = n1 := by omega
      refine wpAny_bind (D1.done ⟨g, ge, de, t0, oo⟩ _ _ (by rw [← e1]; exact (D1.over st1 sg S.zf1)) fun q e hq ho => ?_)
      replace hq : Heap.ExtBut i1 g q := hq
      exact hE q t0 e (fun c o m1 m2 m3 m4 x => hq _ _ m3 (sg.extBut _ _ m1 x)) ho
theorem Bx {Q : Value → Shared → Prop} (S : ZipSep2 z TI TO i1 i2 fp1 fp2) (D1 : Draws prog w A.in1 i1 fp1 n1 P1 St1) (D2 : Draws prog w A.in1 i2 fp2 n2 P2 St2)
    (hz : qU s.heap z TI TO) (hTI : IsTupOf2 s.heap TI (.ref i1) (.ref i2)) (hTO : ∃ x y, IsTupOf2 s.heap TO x y) (st1 : St1 i s.heap) (st2 : St2 i s.heap) (l1 : i < n1) (l2 : i < n2)
    (hQ : ∀ x1 x2 h' tk, P1 i x1 → P2 i x2 → qU h' z TI TO → (∃ x y, IsTupOf2 h' TO x y) → St1 (i + 1) h' → St2 (i + 1) h' → IsTupOf2 h' s.heap.objs.size x1 x2 → h'.objs.size = s.heap.objs.size + 1 →
      (∀ c o, c ≠ z → c ≠ TO → c ≠ i1 → c ≠ i2 → s.heap.get? c = some o → h'.get? c = some o) → Q (.ref s.heap.objs.size) { s with heap := h', toks := tk }) :
    wpAny (model prog w) A (Builtin.SmallTypes.nextOf (.ref z)) Q E s := by
  have hT : s.TypeIs (.ref z) "zip" := by obtain ⟨f0, f1, _, e⟩ := hz; exact ⟨_, e, rfl⟩
  unfold Builtin.SmallTypes.nextOf
  exact wpAny_bind (wpAny_callSpecial?_slot (name := Str.ofString "__next__") hT F.slot_zip_next
    (wpAny_call_entry F.slot_zip_next hT F.entry_zip_next (NK S D1 D2 hz hTI hTO st1 st2 l1 l2 fun x1 x2 h' tk y1 y2 b1 b2 d1 d2 b5 b6 b7 => wpAny_pure (hQ x1 x2 h' tk y1 y2 b1 b2 d1 d2 b5 b6 b7)) (F.args_zip_next_1 _)))
theorem qW {Q : Value → Shared → Prop} (S : ZipSep2 z TI TO i1 i2 fp1 fp2) (D1 : Draws prog w A.in1 i1 fp1 n1 P1 St1) (D2 : Draws prog w A.in1 i2 fp2 n2 P2 St2)
    (hz : qU s.heap z TI TO) (hTI : IsTupOf2 s.heap TI (.ref i1) (.ref i2)) (hTO : ∃ x y, IsTupOf2 s.heap TO x y) (st1 : St1 i s.heap) (st2 : St2 i s.heap) (l1 : i ≤ n1) (l2 : i ≤ n2) (le : i = n1 ∨ i = n2)
    (hE : ∀ h' tk e, (∀ c o, c ≠ z → c ≠ TO → c ≠ i1 → c ≠ i2 → s.heap.get? c = some o → h'.get? c = some o) → (∃ o, h'.get? e = some o ∧ o.cls = .type "StopIteration") → E (.ref e) { s with heap := h', toks := tk }) :
    wpAny (model prog w) A (Builtin.SmallTypes.nextOf (.ref z)) Q E s := by
  have hT : s.TypeIs (.ref z) "zip" := by obtain ⟨f0, f1, _, e⟩ := hz; exact ⟨_, e, rfl⟩
  unfold Builtin.SmallTypes.nextOf
  exact wpAny_bind (wpAny_callSpecial?_slot (name := Str.ofString "__next__") hT F.slot_zip_next
    (wpAny_call_entry F.slot_zip_next hT F.entry_zip_next (V8 S D1 D2 hz hTI hTO st1 st2 l1 l2 le hE) (F.args_zip_next_1 _)))
theorem QX {Q : Option Value → Shared → Prop} (S : ZipSep2 z TI TO i1 i2 fp1 fp2) (D1 : Draws prog w A.in1 i1 fp1 n1 P1 St1) (D2 : Draws prog w A.in1 i2 fp2 n2 P2 St2)
    (hz : qU s.heap z TI TO) (hTI : IsTupOf2 s.heap TI (.ref i1) (.ref i2)) (hTO : ∃ x y, IsTupOf2 s.heap TO x y) (st1 : St1 i s.heap) (st2 : St2 i s.heap) (l1 : i < n1) (l2 : i < n2)
    (hQ : ∀ x1 x2 h' tk, P1 i x1 → P2 i x2 → qU h' z TI TO → (∃ x y, IsTupOf2 h' TO x y) → St1 (i + 1) h' → St2 (i + 1) h' → IsTupOf2 h' s.heap.objs.size x1 x2 → h'.objs.size = s.heap.objs.size + 1 →
      (∀ c o, c ≠ z → c ≠ TO → c ≠ i1 → c ≠ i2 → s.heap.get? c = some o → h'.get? c = some o) → Q (some (.ref s.heap.objs.size)) { s with heap := h', toks := tk }) :
    wpAny (model prog w) A (pyNext (.ref z)) Q E s := by
  have hT : s.TypeIs (.ref z) "zip" := by obtain ⟨f0, f1, _, e⟩ := hz; exact ⟨_, e, rfl⟩
  unfold pyNext
  exact wpAny_bind (wpAny_attempt (wpAny_callSpecial?_slot (name := Str.ofString "__next__") hT F.slot_zip_next
    (wpAny_call_entry F.slot_zip_next hT F.entry_zip_next (NK S D1 D2 hz hTI hTO st1 st2 l1 l2 fun x1 x2 h' tk y1 y2 b1 b2 d1 d2 b5 b6 b7 => wpAny_pure (hQ x1 x2 h' tk y1 y2 b1 b2 d1 d2 b5 b6 b7)) (F.args_zip_next_1 _))))
theorem z9 {Q : Option Value → Shared → Prop} (S : ZipSep2 z TI TO i1 i2 fp1 fp2) (D1 : Draws prog w A.in1 i1 fp1 n1 P1 St1) (D2 : Draws prog w A.in1 i2 fp2 n2 P2 St2)
    (hz : qU s.heap z TI TO) (hTI : IsTupOf2 s.heap TI (.ref i1) (.ref i2)) (hTO : ∃ x y, IsTupOf2 s.heap TO x y) (st1 : St1 i s.heap) (st2 : St2 i s.heap) (l1 : i ≤ n1) (l2 : i ≤ n2) (le : i = n1 ∨ i = n2)
    (hQ : ∀ h' tk, (∀ c o, c ≠ z → c ≠ TO → c ≠ i1 → c ≠ i2 → s.heap.get? c = some o → h'.get? c = some o) → Q none { s with heap := h', toks := tk }) : wpAny (model prog w) A (pyNext (.ref z)) Q E s := by
  have hT : s.TypeIs (.ref z) "zip" := by obtain ⟨f0, f1, _, e⟩ := hz; exact ⟨_, e, rfl⟩
  unfold pyNext
  refine wpAny_bind (wpAny_attempt (wpAny_callSpecial?_slot (name := Str.ofString "__next__") hT F.slot_zip_next
    (wpAny_call_entry F.slot_zip_next hT F.entry_zip_next (V8 S D1 D2 hz hTI hTO st1 st2 l1 l2 le fun h' tk e hk he => ?_) (F.args_zip_next_1 _))))
  obtain ⟨o, ho, hc⟩ := he
  refine wpAny_bind (wpAny_isInstance (T := "StopIteration") (b := true) ⟨o, ho, hc⟩ isSubtype_stop ?_)
  exact wpAny_pure (hQ _ _ hk)
end
end PySem
end
section
set_option maxHeartbeats 2000000
namespace PySem
open Sem (wp)
theorem yG {z TI TO : Addr} (prog : Program) (w : World) (A : Around) (E : Value → Shared → Prop) (s : Shared) (Q : Value → Shared → Prop) (h : qU s.heap z TI TO) (q : Q (.ref z) s) : wpAny (model prog w) A (pyIter (.ref z)) Q E s := by
  obtain ⟨f0, f1, _, e⟩ := h
  have hT : s.TypeIs (.ref z) "zip" := ⟨_, e, rfl⟩
  refine wpAny_pyIter_slot hT F.slot_zip_iter (wpAny_call_entry F.slot_zip_iter hT F.entry_zip_iter ?_ (F.args_zip_iter_1 (Value.ref z)))
  show wpAny _ _ (ret (Value.ref z)) _ _ s
  exact wpAny_pure ⟨_, rfl, "zip", _, hT, F.slot_zip_next.lookup, q⟩
end PySem
namespace DM
open PySem L2
theorem yH {X : Cx} {pins : List (Addr × Obj)} {σ : L2.St} {H H' : Hp} {s : Shared} {h' : Heap} {t' : Nat} {ch : List Addr} (I : Inv X pins σ H s) (k : ∀ b o, b ∉ ch → s.heap.get? b = some o → h'.get? b = some o) (hf : ∀ b ∈ ch, FpOk X pins H b)
    (hup : ∀ b u, H b = some u → H' b = some u) (new : ∀ b u, H b = none → H' b = some u → s.heap.objs.size ≤ b ∧ ObjOk X.prog X.w H' h' b u) : Inv X pins σ H' { s with heap := h', toks := t' } := by
  have nit : ∀ b u, H b = some u → b ∉ ch := fun b u e z => by
    have q := (hf b z).1
    rw [q] at e; cases e
  refine I.step (g' := s.gens) (d' := s.drawn) (ch := ch) (fun b hb => ⟨(hf b hb).2.2.2.1, (hf b hb).2.1, (hf b hb).2.2.2.2.1, (hf b hb).2.2.2.2.2⟩) (fun b o _ _ hc e _ => k b o hc e) (fun b o _ _ hc e _ => ⟨o.slots, k b o hc e⟩)
    (fun b o _ e n => ?_) (fun b o hc e => ⟨o, k b o hc e⟩) (fun b xs e => hup b _ e) (fun b o u e => hup b _ e) (fun b ps e => ⟨#[], by rw [hup b _ e]; simp⟩) (fun m hm => ?_) (fun b u e => ?_) I.bare
  · cases q : H' b with
    | none => rfl
    | some u => exact absurd (Nat.lt_of_lt_of_le (Heap.lt_size e) (new b u n q).1) (Nat.lt_irrefl _)
  · obtain ⟨o, es, ep, ho, r⟩ := hm
    exact ⟨o, es, ep, k _ o (fun z => (hf _ z).2.1 rfl) ho, r⟩
  · cases q : H b with
    | none => exact (new b u q e).2
    | some v =>
      rw [hup b v q] at e
      cases e
      refine (I.hok b _ q).stay (fun c v' hc z => k c v' ?_ z) (fun c z => hup c _ z) fun c xs z => hup c _ z
      rcases hc with z | z
      · rw [z]; exact nit b _ q
      · exact nit c _ z
section
variable {X : Cx} {pins : List (Addr × Obj)} {σ : L2.St} {H : Hp} {s : Shared}
theorem Hh {e e2 : Expr} {ta : TA} {p pos : Pos} {R : Bool → Bool → Addr → Addr → Hp → Prop} {Q : Value → Shared → Prop} (hg : Gl X "zip") (hm : X.mg "zip" = none) (ha : PA X [e, e2] ta)
    (hs : starEach [e, e2] X.env = (false, eval e X.env) :: starEach [e2] X.env) (hpl : (backTo pos (starEach [e2] X.env)).any (·.1) = false) (I : Inv X pins σ H s)
    (h : ta σ H fun vs H1 => ∃ b1 b2 a b xs ys, vs = [.ref a, .ref b] ∧ gY b1 X.K H1 a xs ∧ gY b2 X.K H1 b ys ∧ R b1 b2 a b H1)
    (k : ∀ (b1 b2 : Bool) (a b : Addr) (H1 : Hp) (s1 s2 : Shared), Inv X pins σ H1 s1 → Inv X pins σ H1 s2 → R b1 b2 a b H1 → a < s1.heap.objs.size → b < s1.heap.objs.size → s2.heap.objs.size = s1.heap.objs.size + 5 → IsZip s2.heap (s1.heap.objs.size + 4) (s1.heap.objs.size + 2) (s1.heap.objs.size + 3) .none →
      IsTupOf2 s2.heap (s1.heap.objs.size + 2) (.ref s1.heap.objs.size) (.ref (s1.heap.objs.size + 1)) → (∃ x y, IsTupOf2 s2.heap (s1.heap.objs.size + 3) x y) → kW b1 s2.heap s1.heap.objs.size a 0 → kW b2 s2.heap (s1.heap.objs.size + 1) b 0 →
      Q (.ref (s1.heap.objs.size + 4)) s2) : wpAny (model X.prog X.w) X.A (eval (.Call (.Name "zip" p) [e, e2] [] pos) X.env) Q X.xe s := by
  refine PyProof.Rows.Call_ (ld_blt I hg hm PyProof.Rows.boot_zip (PyProof.Rows.callWith_type1 (thn (ha.run pos pins s σ H _ I h) fun us s1 ⟨vs, H1, I1, r1, q1⟩ => ?_) hs hpl))
  obtain ⟨b1, b2, a, b, xs, ys, ex, hqx, hqy, q⟩ := q1
  subst ex
  cases r1 with
  | cons r rr =>
    cases rr with
    | cons r' rr =>
      cases rr
      cases r
      cases r'
      obtain ⟨its, rv, p1⟩ := cY I1 hqx
      obtain ⟨its2, rv2, p2⟩ := cY I1 hqy
      refine zip_begins2 (fG b1 a its.toArray) (fG b2 b its2.toArray) p1 p2 fun h' hz hTI hTO g1 g2 hsz hk => ?_
      exact k b1 b2 a b H1 s1 _ I1 (I1.kept (t' := s1.toks) hk) q (jB p1) (jB p2) hsz hz hTI ⟨_, _, hTO⟩ (iy g1) (iy g2)
end
structure Yk (b1 b2 : Bool) (a b z TI TO i1 i2 : Addr) (i : Nat) (h : Heap) : Prop where
  z : qU h z TI TO
  ti : IsTupOf2 h TI (.ref i1) (.ref i2)
  to : ∃ x y, IsTupOf2 h TO x y
  s1 : kW b1 h i1 a i
  s2 : kW b2 h i2 b i
theorem Yk.obj {b1 b2 : Bool} {a b z TI TO i1 i2 : Addr} {i : Nat} {h : Heap} (st : Yk b1 b2 a b z TI TO i1 i2 i h) : ∀ c ∈ [z, TI, TO, i1, i2], ∃ o, h.get? c = some o ∧ ∀ v, o.data ≠ .cell v := by
  intro c hc
  obtain ⟨⟨f0, f1, _, hz⟩, hTI, ⟨x, y, hTO⟩, s1, s2⟩ := st
  have e' : c = z ∨ c = TI ∨ c = TO ∨ c = i1 ∨ c = i2 := by simpa using hc
  rcases e' with q | q | q | q | q
  · rw [q]; exact ⟨_, hz, fun v q => nomatch q⟩
  · rw [q]; exact ⟨_, hTI, fun v q => nomatch q⟩
  · rw [q]; exact ⟨_, hTO, fun v q => nomatch q⟩
  · rw [q]; exact cZ s1
  · rw [q]; exact cZ s2
theorem Yk.keep {b1 b2 : Bool} {a b z TI TO i1 i2 : Addr} {i : Nat} {h h' : Heap} (st : Yk b1 b2 a b z TI TO i1 i2 i h) (k : ∀ c ∈ [z, TI, TO, i1, i2], ∀ o, h.get? c = some o → h'.get? c = some o) : Yk b1 b2 a b z TI TO i1 i2 i h' := by
  obtain ⟨⟨f0, f1, hf, hz⟩, hTI, ⟨x, y, hTO⟩, s1, s2⟩ := st
  exact ⟨⟨f0, f1, hf, k z (by simp) _ hz⟩, k TI (by simp) _ hTI, ⟨x, y, k TO (by simp) _ hTO⟩, fH s1 fun o q => k i1 (by simp) o q, fH s2 fun o q => k i2 (by simp) o q⟩
theorem Yk.lt {b1 b2 : Bool} {a b z TI TO i1 i2 : Addr} {i : Nat} {h : Heap} (st : Yk b1 b2 a b z TI TO i1 i2 i h) : ∀ c ∈ [z, TI, TO, i1, i2], c < h.objs.size := fun c hc => by
  obtain ⟨o, e, _⟩ := st.obj c hc
  exact Heap.lt_size e
theorem V9 {X : Cx} {pins : List (Addr × Obj)} {σ : L2.St} {H : Hp} {s : Shared} (I : Inv X pins σ H s) {c N : Addr} (hN : s.heap.objs.size = N) (h : N ≤ c) : FpOk X pins H c := I.fpOk (by rw [hN]; exact h) (I.hok.fresh (by rw [hN]; exact h))
end DM
end
section
set_option maxHeartbeats 1000000
namespace DM
open PySem PySem.Spec PyProof.Rows L2
section
variable {C : Cs} {Z : ZX}
end
section
variable {XR : jC} {M : Wd} {X : Cx} {C : Cs} {W : WX} {k : Nat} {N : List Str} {nm : List (Str × NameKind)} {fb : Str → Bool}
variable {e e2 a b c tg : Expr} {es : List Expr} {f fa fc : aq → R Val} {fs fk : aq → R (List Val)} {pos p pos' tpos p2 pos2 : Pos} {x y : Str} {i j kk : Nat}
end
/-! ### the first place of an int in a list -/
def RdJ (name : Str) (id : String) (g : List D → List En → Option D) : Prop := Slot "list" name id ∧ typeOf (.builtin id) = pure (.type "method_descriptor") ∧ ∀ X : Cx, X.calm = true → ∃ r, MtR X id r ∧ RdS X.K r g
section
variable {XR : jC} {M : Wd} {X : Cx} {C : Cs} {W : WX} {k : Nat} {N : List Str} {nm : List (Str × NameKind)} {fb : Str → Bool}
variable {e o : Expr} {es : List Expr} {f : aq → R Val} {fs : aq → R (List Val)}
theorem JE.rd {id : String} {name : Str} {g : List D → List En → Option D} {ap cp : Pos} (G : Ctx M X C W k N nm fb) (h : RdJ name id g) (ho : JE XR X C W o f) (ha : JA XR X C W (e :: es) fs)
    (hbase : attributeBase o name X.env (eval o X.env) = eval o X.env := by rfl)
    (hfew : ((backTo cp (starEach (e :: es) X.env)).all (fun x => !x.1) && (backToKw cp (keywordEach [] X.env)).all (fun x => x.1.isSome)
      && decide ((e :: es).length + ([] : List Keyword).length + (if ([] : List Keyword).isEmpty then 0 else 1) < 30)) = true := by rfl)
    (hline : (ap.endLine == cp.line) = true := by rfl) (hs : starEach (e :: es) X.env = (false, eval e X.env) :: starEach es X.env := by rfl) (hpl : (backTo cp (starEach es X.env)).any (·.1) = false := by rfl) :
    JE XR X C W (.Call (.Attribute o name ap) (e :: es) [] cp) (Ke g f fs) := by
  obtain ⟨t, a1, a2⟩ := ha
  obtain ⟨u, b1, b2⟩ := ho
  obtain ⟨r, r1, r2⟩ := h.2.2 X G.calm
  refine ⟨_, pe_bm F.plainAttrs_list h.1 h.2.1 r1 b1 a1 hbase hfew hline hs hpl, ?_⟩
  rw [G.hK] at r2 ⊢
  exact Uw r2 b2 a2
end
end DM
end
section
set_option maxHeartbeats 1000000
namespace DM
open PySem PySem.Spec PyProof.Rows L2
section
variable {C : Cs} {Z : ZX}
def Wb (k : Bool) (f : aq → R Val) (fs : aq → R (List En)) (ρ : aq) : R (List En) := (runK k f ρ).bind fun e ρ1 => (fs ρ1).bind fun es ρ2 => .ok (e :: es) ρ2
def abd (ρ : aq) : R (List En) := .ok [] ρ
def yI (C : Cs) (Z : ZX) (ta : TA) (f : aq → R (List En)) : Prop :=
  ∀ (o : Og) (F H : Hp) (σ : L2.St) (ρ : aq) (T : Tm) (Q : List V → Hp → Prop), SM C o F H σ ρ T → (∀ i, kY T i) →
    pJ (f ρ) (fun es ρ' => ∀ F' H' vs, es.length = vs.length → SM C o F' H' σ ρ' (stack (es.map .en) vs ++ T) → Q vs H') (fun x ρ' => ∀ F' H', SM C o F' H' σ ρ' T → Z x F' H' σ ρ') → ta σ H Q
theorem acF : yI C Z tNil abd := fun o F H σ ρ T Q S _ q => q F H [] rfl S
theorem acG {k : Bool} {te : TE} {ta : TA} {f : aq → R Val} {fs : aq → R (List En)} (h : Impl C Z te f) (hs : yI C Z ta fs) : yI C Z (tCons te ta) (Wb k f fs) := by
  intro o F H σ ρ T Q S hT q
  unfold Wb at q
  rw [aH] at q
  refine xH h S hT (aG q (fun e ρ1 h1 F1 H1 v S1 => ?_) fun _ _ h => h)
  rw [aH] at h1
  refine hs o F1 H1 σ ρ1 _ _ S1 (xJ hT) (aG h1 (fun es ρ2 h2 F2 H2 vs hl S2 => ?_) fun _ _ h F' H' s => h F' H' s.drop)
  refine h2 F2 H2 (v :: vs) (by rw [List.length_cons, List.length_cons, hl]) ?_
  rw [List.map_cons, rA, List.append_assoc]
  exact S2
/-! targets -/
abbrev JF := En → aq → R Unit
def yJ (C : Cs) (Z : ZX) (g : TG) (t : JF) : Prop :=
  ∀ (o : Og) (F H : Hp) (σ : L2.St) (ρ : aq) (T : Tm) (e : En) (v : V) (Q : L2.St → Hp → Prop), SM C o F H σ ρ ((.en e, v) :: T) → (∀ i, kY T i) →
    pJ (t e ρ) (fun _ ρ' => ∀ F' H' σ', SM C o F' H' σ' ρ' T → Q σ' H') (fun x ρ' => ∀ F' H' σ', SM C o F' H' σ' ρ' [] → Z x F' H' σ' ρ') → g v σ H Q
theorem SM.none {o : Og} {F H : Hp} {σ : L2.St} {ρ : aq} {T : Tm} (S : SM C o F H σ ρ T) : SM C o F H σ ρ [] := S.emb id (fun j x h => by simp at h) fun i j h => h
def tgN (i : Nat) : JF := fun e ρ => if i < ρ.length then .ok () (ρ.set i (some e)) else .bad
theorem Zm {i : Nat} (hL : i ∉ C.L) : yJ C Z (gName i) (tgN i) := by
  intro o F H σ ρ T e v Q S hT q
  unfold tgN at q
  by_cases hi : i < ρ.length
  · rw [if_pos hi] at q
    exact q F H _ (S.store (by rw [← S.len]; exact hi) hL (hT i))
  · rw [if_neg hi] at q; exact q.elim
def aey (x : Nat) (d : D) (k : Val) (ρ : aq) : R Unit := match (look ρ k).bind gq, iK ρ x with
  | some i, some xs => (match ixN xs.length i with
    | some j => .ok () (ρ.set x (some (.ol (xs.set j d))))
    | none => .bad)
  | _, _ => .bad
def tgS (x : Nat) (fi : aq → R Val) : JF := fun e ρ => match e with
  | .fr d => (match (ρ[x]?).join with
    | none => .bad
    | some _ => (fi ρ).bind (aey x d))
  | _ => .bad
theorem Zo {x : Nat} {ti : TE} {fi : aq → R Val} (hi : Impl C Z ti fi) : yJ C Z (L2.gSub (tVar x) ti rSetL) (tgS x fi) := by
  intro o F H σ ρ T e v Q S hT q
  unfold tgS at q
  cases e with
  | fr d =>
    simp only at q
    cases hx : (ρ[x]?).join with
    | none => rw [hx] at q; exact q.elim
    | some ex =>
      rw [hx] at q
      simp only at q
      obtain ⟨w, hw⟩ := S.has x ex (join_some hx)
      refine ⟨w, hw, ?_⟩
      rw [aH] at q
      refine hi o F H σ ρ _ _ S (aG q (fun a ρ2 k2 F2 H2 z S2 => ?_) fun x ρ' h F' H' s => h F' H' σ s.none)
      unfold aey at k2
      cases h1 : (look ρ2 a).bind gq with
      | none => rw [h1] at k2; exact k2.elim
      | some i =>
        cases h2 : iK ρ2 x with
        | none => rw [h1, h2] at k2; exact k2.elim
        | some xs =>
          rw [h1, h2] at k2
          simp only at k2
          cases h3 : ixN xs.length i with
          | none => rw [h3] at k2; exact k2.elim
          | some j =>
            rw [h3] at k2
            have rs := su h2
            obtain ⟨a', vs, g1, g2, g3⟩ := S2.M8 rs
            rw [hw] at g1
            cases g1
            have rd : Dq C.K F2 d v := S2.look (j := 1) (v := v) (e := .fr d) rfl rfl
            refine ⟨a', vs, i, j, rfl, wj S2 h1, g2, by rw [← g3.length]; exact h3, ?_⟩
            exact k2 F2 _ σ (S2.drop.drop.abT rs hw rfl ⟨a', _, rfl, upd_same, g3.set rd j⟩ fun b w => by cases w; rfl)
  | ol _ => exact q.elim
  | od _ _ => exact q.elim
  | on _ _ => exact q.elim
  | d8 _ => exact q.elim
  | ex _ => exact q.elim
  | pA _ => exact q.elim
def rJ : List JF → List En → aq → R Fl
  | [], [], ρ => .ok .nx ρ
  | t :: ts, e :: es, ρ => (t e ρ).bind fun _ ρ1 => rJ ts es ρ1
  | _, _, _ => .bad
def tU (C : Cs) (Z : ZX) (gs : TGs) (ts : List JF) : Prop :=
  ∀ (o : Og) (F H : Hp) (σ : L2.St) (ρ : aq) (es : List En) (vs : List V) (Q : L2.St → Hp → Prop), es.length = vs.length → SM C o F H σ ρ (stack (es.map .en) vs) →
    pJ (rJ ts es ρ) (fun fl ρ' => match fl with
      | .nx => ∀ F' H' σ', SM C o F' H' σ' ρ' [] → Q σ' H'
      | _ => False) (fun x ρ' => ∀ F' H' σ', SM C o F' H' σ' ρ' [] → Z x F' H' σ' ρ') → gs vs σ H Q
theorem Hi : ∀ {es : List En} {vs : List V}, ∀ i, kY (stack (es.map .en) vs) i := by
  intro es vs i j v h
  have h' := List.mem_of_getElem? h
  unfold stack at h'
  rw [List.mem_reverse] at h'
  have := (List.of_mem_zip h').1
  obtain ⟨e, _, q⟩ := List.mem_map.mp this
  cases q
theorem Hj : tU C Z gNil [] := by
  intro o F H σ ρ es vs Q hl S q
  cases es with
  | nil =>
    cases vs with
    | nil => exact ⟨rfl, q F H σ S⟩
    | cons v vs => simp at hl
  | cons e es => exact q.elim
theorem Ek {g : TG} {gs : TGs} {t : JF} {ts : List JF} (h : yJ C Z g t) (hs : tU C Z gs ts) : tU C Z (gCons g gs) (t :: ts) := by
  intro o F H σ ρ es vs Q hl S q
  cases es with
  | nil => exact q.elim
  | cons e es =>
    cases vs with
    | nil => simp at hl
    | cons v vs =>
      have hl' : es.length = vs.length := by simpa using hl
      rw [List.map_cons, rA] at S
      have S1 : SM C o F H σ ρ ((.en e, v) :: stack (es.map .en) vs) := S.emb (fun j => if j = 0 then (stack (es.map Val.en) vs).length else if j ≤ (stack (es.map Val.en) vs).length then j - 1 else j) (fun j x hx => by
        cases j with
        | zero => simp at hx; subst hx; simp
        | succ j =>
          have hx' : (stack (es.map Val.en) vs)[j]? = some x := by simpa using hx
          have hj := (List.getElem?_eq_some_iff.mp hx').1
          simp only [Nat.add_one_ne_zero, if_false, Nat.add_sub_cancel, if_pos (Nat.succ_le_of_lt hj)]
          rw [List.getElem?_append_left hj]
          exact hx') (fun i j hij => by
          by_cases h1 : i = 0 <;> by_cases h2 : j = 0 <;> simp only [h1, h2, if_true, if_false] at hij
          · rw [h1, h2]
          · split at hij <;> omega
          · split at hij <;> omega
          · split at hij <;> split at hij <;> omega)
      unfold rJ at q
      rw [aH] at q
      refine ⟨v, vs, rfl, h o F H σ ρ _ e v _ S1 Hi (aG q (fun u ρ1 q1 F1 H1 σ1 S2 => ?_) fun _ _ h => h)⟩
      exact hs o F1 H1 σ1 ρ1 es vs Q hl' S2 q1
def Lk (f : aq → R (List En)) (ts : List JF) (ρ : aq) : R Fl := (f ρ).bind fun es ρ1 => if es.length = ts.length then rJ ts es ρ1 else .bad
theorem BJ : ∀ (ts : List JF) (es : List En) (ρ ρ' : aq) (fl : Fl), rJ ts es ρ = .ok fl ρ' → fl = .nx
  | [], [], _, _, _, h => by cases h; rfl
  | [], _ :: _, _, _, _, h => by cases h
  | _ :: _, [], _, _, _, h => by cases h
  | t :: ts, e :: es, ρ, ρ', fl, h => by
    unfold rJ at h
    cases z : t e ρ with
    | bad => rw [z] at h; cases h
    | exc x r => rw [z] at h; cases h
    | ok a r =>
      rw [z] at h
      exact BJ ts es r ρ' fl h
theorem QZ {ta : TA} {gs : TGs} {f : aq → R (List En)} {ts : List JF} {n : Nat} (hn : ts.length = n) (hz : n ≤ 100) (h : yI C Z ta f) (hs : tU C Z gs ts) : fK C Z (tAsg (tTup ta) (gTup C.K n gs)) (Lk f ts) := by
  intro o F H σ ρ D S q
  unfold Lk at q
  rw [aH] at q
  refine h o F H σ ρ [] _ S kZ (aG q (fun es ρ1 h1 F1 H1 vs hl S1 => ?_) fun x ρ' h F' H' s => h F' H' σ s)
  by_cases hlen : es.length = ts.length
  · rw [if_pos hlen] at h1
    rw [List.append_nil] at S1
    refine ⟨by rw [← hl, hlen, hn]; exact Nat.le_trans hz (by decide), fun p hp => ⟨p, vs, rfl, .inl (.inl upd_same), by rw [← hl, hlen, hn], ?_⟩⟩
    refine hs o F1 _ σ ρ1 es vs _ hl (S1.grow (Grow.junk S1.sub hp)) ?_
    cases z : rJ ts es ρ1 with
    | bad => rw [z] at h1; exact h1.elim
    | exc x r => rw [z] at h1; exact fun F' H' σ' s => h1 F' H' σ' s
    | ok fl r =>
      rw [z] at h1
      obtain rfl := BJ ts es ρ1 r fl z
      exact fun F' H' σ' s => h1 F' H' σ' s
  · rw [if_neg hlen] at h1; exact h1.elim
end
section
variable {XR : jC} {M : Wd} {X : Cx} {C : Cs} {W : WX} {k : Nat} {N : List Str} {nm : List (Str × NameKind)} {fb : Str → Bool}
variable {e e2 a b c d tg : Expr} {es : List Expr} {f fa fc : aq → R Val} {pos p pos' pt pt2 : Pos} {x y z : Str} {i j l kt kv : Nat}
def JKs (XR : jC) (X : Cx) (C : Cs) (W : WX) (es : List Expr) (f : aq → R (List En)) : Prop := ∃ ta, PA X es ta ∧ yI C (ZW XR W) ta f
theorem JKs.nil : JKs XR X C W [] abd := ⟨_, pa_nil, acF⟩
theorem JKs.cons {kp : Bool} {fs : aq → R (List En)} (h : JE XR X C W e f) (hs : JKs XR X C W es fs) (he : starEach (e :: es) X.env = (false, eval e X.env) :: starEach es X.env := by rfl) : JKs XR X C W (e :: es) (Wb kp f fs) := by
  obtain ⟨t, h1, h2⟩ := h
  obtain ⟨ts, k1, k2⟩ := hs
  exact ⟨_, pa_cons h1 k1 he, acG h2 k2⟩
def JTg (XR : jC) (X : Cx) (C : Cs) (W : WX) (e : Expr) (t : JF) : Prop := ∃ g, PG X e g ∧ yJ C (ZW XR W) g t
def Q5 (XR : jC) (X : Cx) (C : Cs) (W : WX) (es : List Expr) (ts : List JF) : Prop := ∃ g, PGs X es g ∧ tU C (ZW XR W) g ts
theorem JTg.n (G : Ctx M X C W k N nm fb) (i : Nat) (hi : (N[i]? == some x) = true) (hl : Uy nm fb x = true) (hL : C.L.contains i = false) : JTg XR X C W (.Name x pos) (tgN i) := by
  obtain ⟨h1, h2⟩ := CP G hl
  exact ⟨_, pg_name (by rw [G.hN]; exact G.nd) (by rw [G.hN]; exact beq_iff_eq.mp hi) h1 h2, Zm (Y7 hL)⟩
theorem JTg.s {ix : Expr} {op : Pos} (G : Ctx M X C W k N nm fb) (i : Nat) (hi : (N[i]? == some x) = true) (hv : CN nm x = true) (hx : JE XR X C W ix f)
    (ha : ∀ v, assign (.Subscript (.Name x op) ix p) X.env v = (do
      let ov ← holding [v] (eval (.Name x op) X.env)
      let iv ← holding [v, ov] (eval ix X.env)
      standAt p
      holding [v, ov, iv] (setItem ov iv v)
      release [v, ov, iv] []) := by intro _; rfl) : JTg XR X C W (.Subscript (.Name x op) ix p) (tgS i f) := by
  obtain ⟨v1, v2, v3⟩ := oO G hv
  obtain ⟨u, u1, u2⟩ := hx
  exact ⟨_, pg_sub (pe_var (by rw [G.hN]; exact beq_iff_eq.mp hi) v1 v2 v3) u1 set_list ha, Zo u2⟩
theorem Q5.nil : Q5 XR X C W [] [] := ⟨_, pgs_nil, Hj⟩
theorem Q5.cons {t : JF} {ts : List JF} (h : JTg XR X C W e t) (hs : Q5 XR X C W es ts) (ha : (assignEach (e :: es) X.env).map (·.2) = assign e X.env :: (assignEach es X.env).map (·.2) := by rfl) : Q5 XR X C W (e :: es) (t :: ts) := by
  obtain ⟨g, h1, h2⟩ := h
  obtain ⟨gs, k1, k2⟩ := hs
  exact ⟨_, pgs_cons h1 k1 ha, Ek h2 k2⟩
theorem JS.mul {ts : List JF} {vs : List Expr} {f : aq → R (List En)} {n : Nat} (G : Ctx M X C W k N nm fb) (hv : JKs XR X C W vs f) (ht : Q5 XR X C W es ts) (hn : (ts.length == n) = true) (hz : decide (n ≤ 100) = true)
    (hw : swappedStores [.Tuple es kt pt] (.Tuple vs kv pt2) X.env = pure none)
    (hln : (assignEach es X.env).length = n := by rfl) (hst : (assignEach es X.env).findIdx? (·.1) = none := by rfl)
    (hs : swapsWithSole [.Tuple es kt pt] (.Tuple vs kv pt2) pos.line X.env = pure false := by rfl) (h1 : (assignEach [.Tuple es kt pt] X.env).map (·.2) = [assign (.Tuple es kt pt) X.env] := by rfl) :
    JS XR X C W (.Assign [.Tuple es kt pt] (.Tuple vs kv pt2) pos) (Lk f ts) := by
  obtain ⟨ta, a1, a2⟩ := hv
  obtain ⟨g, b1, b2⟩ := ht
  refine ⟨_, ps_asg (pe_tup a1) (pg_tup (n := n) G.calm b1 hln hst) hs hw h1, ?_⟩
  rw [G.hK]
  exact QZ (beq_iff_eq.mp hn) (of_decide_eq_true hz) a2 b2
end
end DM
end
section
namespace DM
open PySem L2
theorem ixN_nat {n k : Nat} (h : k < n) : ixN n (k : Nat) = some k := by
  unfold ixN
  rw [if_pos (by omega), if_pos (by omega), Int.toNat_natCast]
theorem atI_nat {xs : List D} {k : Nat} {d : D} (h : xs[k]? = some d) : atI xs (k : Nat) = some d := by
  have hk := (List.getElem?_eq_some_iff.mp h).1
  unfold atI
  rw [ixN_nat hk]
  exact h
structure Gd (n : Nat) (q : List Nat) (bs : List Int) : Prop where
  seats : bK n q
  len : bs.length = n
  nn : ∀ b ∈ bs, 0 ≤ b
theorem Gd.d7 {n : Nat} {q : List Nat} {bs : List Int} (h : Gd n q bs) : q.length = n := h.seats.1
theorem sum_set : ∀ (l : List Int) (i : Nat) (v : Int) (h : i < l.length), (l.set i v).sum = l.sum - l[i] + v
  | [], i, v, h => by simp at h
  | a :: l, 0, v, h => by simp; omega
  | a :: l, i + 1, v, h => by
    have := sum_set l i v (by simpa using h)
    simp only [List.set_cons_succ, List.sum_cons, List.getElem_cons_succ, this]
    omega
theorem Wc : ∀ (l : List Int), (∀ b ∈ l, 0 ≤ b) → ∀ b ∈ l, b ≤ l.sum
  | a :: l, h, b, hb => by
    have h0 : 0 ≤ l.sum := Wi l fun c hc => h c (List.mem_cons_of_mem _ hc)
    rw [List.sum_cons]
    rcases List.mem_cons.mp hb with rfl | hb
    · omega
    · have := Wc l (fun c hc => h c (List.mem_cons_of_mem _ hc)) b hb
      have := h a List.mem_cons_self
      omega
where Wi : ∀ (l : List Int), (∀ b ∈ l, 0 ≤ b) → 0 ≤ l.sum
  | [], _ => by simp
  | a :: l, h => by
    have := Wi l fun c hc => h c (List.mem_cons_of_mem _ hc)
    have := h a List.mem_cons_self
    rw [List.sum_cons]
    omega
abbrev lX (q : List Nat) (bs : List Int) : D := .tup [.tup (nD q), .tup (bs.map .int)]
abbrev dM (q : List Nat) (bs : List Int) : D := .lst [.lst (nD q), .lst (bs.map .int)]
def Q6 (n : Nat) (q : List Nat) (bs : List Int) (c : Nat) : Option (List Nat × List Int) :=
  if bs.getD (q.idxOf c) 0 = 0 then none else
    some ((q.set (q.idxOf c) (q.getD (q.idxOf ((c + 1) % n)) 0)).set (q.idxOf ((c + 1) % n)) (q.getD (q.idxOf c) 0),
      (bs.set (q.idxOf c) (bs.getD (q.idxOf c) 0 - 1)).set (q.idxOf ((c + 1) % n)) (bs.getD (q.idxOf ((c + 1) % n)) 0 + 1))
theorem bK.idx {n : Nat} {q : List Nat} (h : bK n q) {c : Nat} (hc : c < n) : q.idxOf c < n ∧ q[q.idxOf c]? = some c := by
  obtain ⟨j, hj, e⟩ := h.has hc
  have hm : c ∈ q := by rw [← e]; exact List.getElem_mem hj
  have hl := List.idxOf_lt_length_iff.mpr hm
  refine ⟨by rw [h.1] at hl; exact hl, ?_⟩
  rw [List.getElem?_eq_getElem hl, List.getElem_idxOf hl]
theorem bK.pY {n : Nat} {q : List Nat} (h : bK n q) {c c' : Nat} (hc : c < n) (hc' : c' < n) (hne : c ≠ c') : q.idxOf c ≠ q.idxOf c' := fun e => by
  have h1 := (h.idx hc).2
  have h2 := (h.idx hc').2
  rw [e, h2] at h1
  exact hne (Option.some.inj h1).symm
theorem next_ne {n c : Nat} (hn : 2 ≤ n) (hc : c < n) : c ≠ (c + 1) % n := fun e => by
  by_cases h : c + 1 < n
  · rw [Nat.mod_eq_of_lt h] at e; omega
  · have : c + 1 = n := by omega
    rw [this, Nat.mod_self] at e; omega
theorem bK.mem {n : Nat} {q : List Nat} (h : bK n q) {c : Nat} (hc : c < n) : c ∈ q := by
  obtain ⟨j, hj, e⟩ := h.has hc
  rw [← e]
  exact List.getElem_mem hj
theorem tV (i j : Int) (neg : Bool) : fW neg (.fr (.int i)) (.fr (.int j)) = some (.fr (.bl (if neg then !(i == j) else i == j))) := by
  rw [VL (x := .int i) (y := .int j) rfl rfl ((lE (n := 0) i).sh (by decide)) ((lE (n := 0) j).sh (by decide))]
  simp only [zR, toP, PyData.eqv]
theorem at_ints {bs : List Int} {k : Nat} {b : Int} (h : bs[k]? = some b) : atI (bs.map D.int) (k : Nat) = some (.int b) := by
  refine atI_nat ?_
  rw [List.getElem?_map, h]
  rfl
end DM
end
section
namespace DM
open PySem L2
theorem jJ {α : Type} (l : List α) (p m : Nat) (x y : α) (i : Nat) (hp : p < l.length) (hm : m < l.length) : ((l.set p x).set m y)[i]? = if i = m then some y else if i = p then some x else l[i]? := by
  by_cases h1 : i = m
  · subst h1
    rw [if_pos rfl, List.getElem?_set_self (by rw [List.length_set]; exact hm)]
  · rw [if_neg h1, List.getElem?_set_ne (fun e => h1 e.symm)]
    by_cases h2 : i = p
    · subst h2
      rw [if_pos rfl, List.getElem?_set_self hp]
    · rw [if_neg h2, List.getElem?_set_ne (fun e => h2 e.symm)]
theorem bK.swap {n : Nat} {q : List Nat} (h : bK n q) {p m a b : Nat} (hp : q[p]? = some a) (hm : q[m]? = some b) (hne : p ≠ m) : bK n ((q.set p b).set m a) := by
  obtain ⟨p1, p2⟩ := List.getElem?_eq_some_iff.mp hp
  obtain ⟨m1, m2⟩ := List.getElem?_eq_some_iff.mp hm
  have key : ∀ i, ((q.set p b).set m a)[i]? = if i = m then some a else if i = p then some b else q[i]? := fun i => jJ q p m b a i p1 m1
  have inj : ∀ i j x, q[i]? = some x → q[j]? = some x → i = j := fun i j x h1 h2 => by
    obtain ⟨i1, i2⟩ := List.getElem?_eq_some_iff.mp h1
    obtain ⟨j1, j2⟩ := List.getElem?_eq_some_iff.mp h2
    have pw := List.pairwise_iff_getElem.mp (List.nodup_iff_pairwise_ne.mp h.2.1)
    rcases Nat.lt_trichotomy i j with hlt | hlt | hlt
    · exact absurd (by rw [i2, j2]) (pw i j i1 j1 hlt)
    · exact hlt
    · exact absurd (by rw [i2, j2]) (pw j i j1 i1 hlt)
  refine ⟨by rw [List.length_set, List.length_set]; exact h.1, ?_, fun k hk => ?_⟩
  · rw [List.nodup_iff_pairwise_ne, List.pairwise_iff_getElem]
    intro i j hi hj hij he
    have ei : ((q.set p b).set m a)[i]? = some ((q.set p b).set m a)[i] := List.getElem?_eq_getElem hi
    have ej : ((q.set p b).set m a)[j]? = some ((q.set p b).set m a)[j] := List.getElem?_eq_getElem hj
    rw [← he] at ej
    rw [key] at ei ej
    have ne : i ≠ j := by omega
    by_cases i1 : i = m <;> by_cases j1 : j = m
    · omega
    · rw [if_pos i1] at ei
      rw [if_neg j1] at ej
      by_cases j2 : j = p
      · rw [if_pos j2] at ej
        have : some a = some b := ei.trans ej.symm
        rw [← hp, ← hm] at this
        rw [hp] at this
        exact hne (inj p m _ hp (by rw [← this]))
      · rw [if_neg j2] at ej
        exact j2 (inj j p a (ej.trans ei.symm) hp)
    · rw [if_neg i1] at ei
      rw [if_pos j1] at ej
      by_cases i2 : i = p
      · rw [if_pos i2] at ei
        have : some a = some b := ej.trans ei.symm
        rw [← hm] at this
        exact hne (inj p m a hp this.symm)
      · rw [if_neg i2] at ei
        exact i2 (inj i p a (ei.trans ej.symm) hp)
    · rw [if_neg i1] at ei
      rw [if_neg j1] at ej
      by_cases i2 : i = p <;> by_cases j2 : j = p
      · omega
      · rw [if_pos i2] at ei
        rw [if_neg j2] at ej
        exact j1 (inj j m b (ej.trans ei.symm) hm)
      · rw [if_neg i2] at ei
        rw [if_pos j2] at ej
        exact i1 (inj i m b (ei.trans ej.symm) hm)
      · rw [if_neg i2] at ei
        rw [if_neg j2] at ej
        exact ne (inj i j _ ei ej)
  · obtain ⟨i, hi⟩ := List.getElem?_of_mem hk
    rw [key] at hi
    by_cases i1 : i = m
    · rw [if_pos i1] at hi
      cases hi
      exact h.2.2 _ (List.mem_of_getElem? hp)
    · rw [if_neg i1] at hi
      by_cases i2 : i = p
      · rw [if_pos i2] at hi
        cases hi
        exact h.2.2 _ (List.mem_of_getElem? hm)
      · rw [if_neg i2] at hi
        exact h.2.2 _ (List.mem_of_getElem? hi)
theorem nJ {n : Nat} {q q' : List Nat} {bs bs' : List Int} {c : Nat} (g : Gd n q bs) (h2 : 2 ≤ n) (hc : c < n) (h : Q6 n q bs c = some (q', bs')) :
    ∃ p m x y, p ≠ m ∧ p < n ∧ m < n ∧ q[p]? = some c ∧ q[m]? = some ((c + 1) % n) ∧ bs[p]? = some x ∧ bs[m]? = some y ∧ 0 < x ∧ q' = (q.set p ((c + 1) % n)).set m c ∧ bs' = (bs.set p (x - 1)).set m (y + 1) := by
  obtain ⟨ip, ap⟩ := g.seats.idx hc
  have hc' : (c + 1) % n < n := Nat.mod_lt _ (by omega)
  obtain ⟨im, am⟩ := g.seats.idx hc'
  have hne := g.seats.pY hc hc' (next_ne h2 hc)
  have hl := g.len
  unfold Q6 at h
  obtain ⟨x, hx⟩ : ∃ b, bs[q.idxOf c]? = some b := ⟨_, List.getElem?_eq_getElem (by omega)⟩
  obtain ⟨y, hy⟩ : ∃ b, bs[q.idxOf ((c + 1) % n)]? = some b := ⟨_, List.getElem?_eq_getElem (by omega)⟩
  have e1 : bs.getD (q.idxOf c) 0 = x := by rw [List.getD_eq_getElem?_getD, hx]; rfl
  have e2 : bs.getD (q.idxOf ((c + 1) % n)) 0 = y := by rw [List.getD_eq_getElem?_getD, hy]; rfl
  have e3 : q.getD (q.idxOf c) 0 = c := by rw [List.getD_eq_getElem?_getD, ap]; rfl
  have e4 : q.getD (q.idxOf ((c + 1) % n)) 0 = (c + 1) % n := by rw [List.getD_eq_getElem?_getD, am]; rfl
  rw [e1, e2, e3, e4] at h
  have hx0 := g.nn x (List.mem_of_getElem? hx)
  by_cases hz : x = 0
  · rw [if_pos hz] at h; cases h
  · rw [if_neg hz] at h
    cases h
    exact ⟨_, _, x, y, hne, ip, im, ap, am, hx, hy, by omega, rfl, rfl⟩
theorem El {n : Nat} {q q' : List Nat} {bs bs' : List Int} {c : Nat} (g : Gd n q bs) (h2 : 2 ≤ n) (hc : c < n) (h : Q6 n q bs c = some (q', bs')) : Gd n q' bs' := by
  obtain ⟨p, m, x, y, hne, hp, hm, ap, am, hx, hy, h0, rfl, rfl⟩ := nJ g h2 hc h
  have hl := g.len
  refine ⟨g.seats.swap ap am hne, by rw [List.length_set, List.length_set]; exact hl, fun b hb => ?_⟩
  obtain ⟨i, hi⟩ := List.getElem?_of_mem hb
  rw [jJ bs p m _ _ i (by omega) (by omega)] at hi
  have hy0 := g.nn y (List.mem_of_getElem? hy)
  split at hi
  · cases hi; omega
  · split at hi
    · cases hi; omega
    · exact g.nn b (List.mem_of_getElem? hi)
theorem Em {n : Nat} {q q' : List Nat} {bs bs' : List Int} {c : Nat} (g : Gd n q bs) (h2 : 2 ≤ n) (hc : c < n) (h : Q6 n q bs c = some (q', bs')) : bs'.sum = bs.sum := by
  obtain ⟨p, m, x, y, hne, hp, hm, ap, am, hx, hy, h0, rfl, rfl⟩ := nJ g h2 hc h
  have hl := g.len
  have e1 := (List.getElem?_eq_some_iff.mp hx).2
  have e2 := (List.getElem?_eq_some_iff.mp hy).2
  rw [sum_set _ m _ (by rw [List.length_set]; omega), sum_set bs p _ (by omega), List.getElem_set_ne hne, e1, e2]
  omega
theorem jo {n : Nat} {q : List Nat} {bs : List Int} {i a : Nat} {b : Int} (h1 : q[i]? = some a) (h2 : bs[i]? = some b) : (aZ n q bs)[i]? = some (((a : Int) + b) % (n : Int)) := by
  unfold aZ
  rw [List.getElem?_zipWith, h1, h2]
theorem jr {n : Nat} {q : List Nat} {bs : List Int} (h : q.length = bs.length) : (aZ n q bs).length = q.length := by
  unfold aZ
  rw [List.length_zipWith, h, Nat.min_self]
theorem yK {n : Nat} {q q' : List Nat} {bs bs' : List Int} {c : Nat} (g : Gd n q bs) (h2 : 2 ≤ n) (hc : c < n) (h : Q6 n q bs c = some (q', bs')) : aZ n q' bs' = aZ n q bs := by
  have g' := El g h2 hc h
  obtain ⟨p, m, x, y, hne, hp, hm, ap, am, hx, hy, h0, rfl, rfl⟩ := nJ g h2 hc h
  have hl := g.len
  have hql := g.d7
  apply List.ext_getElem?
  intro i
  by_cases hi : i < n
  · obtain ⟨a, ha⟩ : ∃ a, q[i]? = some a := ⟨_, List.getElem?_eq_getElem (by omega)⟩
    obtain ⟨b, hb⟩ : ∃ b, bs[i]? = some b := ⟨_, List.getElem?_eq_getElem (by omega)⟩
    have k1 := jJ q p m ((c + 1) % n) c i (by omega) (by omega)
    have k2 := jJ bs p m (x - 1) (y + 1) i (by omega) (by omega)
    rw [jo ha hb]
    by_cases i1 : i = m
    · subst i1
      rw [if_pos rfl] at k1 k2
      rw [jo k1 k2]
      rw [am] at ha
      rw [hy] at hb
      cases ha; cases hb
      congr 1
      have e : ((((c + 1) % n : Nat) : Int)) = ((c : Int) + 1) % (n : Int) := by push_cast; rfl
      rw [e, Int.emod_add_emod]
      congr 1
      omega
    · rw [if_neg i1] at k1 k2
      by_cases i2 : i = p
      · subst i2
        rw [if_pos rfl] at k1 k2
        rw [jo k1 k2]
        rw [ap] at ha
        rw [hx] at hb
        cases ha; cases hb
        congr 1
        have e : ((((c + 1) % n : Nat) : Int)) = ((c : Int) + 1) % (n : Int) := by push_cast; rfl
        rw [e, Int.emod_add_emod]
        congr 1
        omega
      · rw [if_neg i2] at k1 k2
        rw [jo (k1.trans ha) (k2.trans hb)]
  · rw [List.getElem?_eq_none (by rw [jr (by rw [g'.d7, g'.len]), g'.d7]; omega), List.getElem?_eq_none (by rw [jr (by rw [hql, hl]), hql]; omega)]
def acI (n : Nat) : List Nat → List Nat × List Int → Option (List Nat × List Int)
  | [], s => some s
  | c :: cs, s => (Q6 n s.1 s.2 c).bind (acI n cs)
structure Lot (n : Nat) (q : List Nat) (bs : List Int) (q' : List Nat) (bs' : List Int) : Prop where
  gd : Gd n q' bs'
  sum : bs'.sum = bs.sum
  kept : aZ n q' bs' = aZ n q bs
theorem Lot.refl {n : Nat} {q : List Nat} {bs : List Int} (g : Gd n q bs) : Lot n q bs q bs := ⟨g, rfl, rfl⟩
theorem Lot.step {n : Nat} {q q1 q2 : List Nat} {bs b1 b2 : List Int} {c : Nat} (L : Lot n q bs q1 b1) (h2 : 2 ≤ n) (hc : c < n) (h : Q6 n q1 b1 c = some (q2, b2)) : Lot n q bs q2 b2 :=
  ⟨El L.gd h2 hc h, (Em L.gd h2 hc h).trans L.sum, (yK L.gd h2 hc h).trans L.kept⟩
end DM
end
section
namespace DM
open PySem L2
theorem Wj {f : aq → R Val} {ρ ρ1 : aq} {k : Nat} (h : f ρ = .ok (.en (.fr (.int (k : Nat)))) ρ1) (hk : k ≤ 9999) : gD (aj f ak) ρ = .ok (bV 0 k) ρ1 := by
  have := QH (fs := aj f ak) (ρ := ρ) (ρ1 := ρ1) (j := (k : Nat)) (by rw [j6, h, aX, wu, sU, aX, sS]) (by omega) (by omega)
  simpa using this
end DM
end
section
set_option exponentiation.threshold 10000
namespace DM
open PySem L2
/-! plainly -/
theorem bK.perm {n : Nat} {q : List Nat} (h : bK n q) : q.Perm (List.range n) := by
  refine (List.perm_ext_iff_of_nodup h.2.1 List.nodup_range).mpr fun a => ⟨fun hm => List.mem_range.mpr (h.2.2 a hm), fun hm => h.mem (List.mem_range.mp hm)⟩
def vR (q : List Nat) : Int := (q.map fun i => ((i : Nat) : Int)).sum
theorem Wk {p q : List Nat} (h : p.Perm q) : vR p = vR q := by
  unfold vR
  induction h with
  | nil => rfl
  | cons x _ ih => simp only [List.map_cons, List.sum_cons, ih]
  | swap x y l => simp only [List.map_cons, List.sum_cons]; omega
  | trans _ _ ih1 ih2 => rw [ih1, ih2]
theorem Wm (x n : Int) : ∃ t, x % n = x + n * t := ⟨-(x / n), by have := Int.emod_add_mul_ediv x n; rw [Int.mul_neg]; omega⟩
theorem Hl {n : Nat} : ∀ (q : List Nat) (bs : List Int), q.length = bs.length → ∃ t, (aZ n q bs).sum = vR q + bs.sum + (n : Int) * t
  | [], [], _ => ⟨0, by simp [aZ, vR]⟩
  | a :: q, b :: bs, h => by
    obtain ⟨t, ht⟩ := Hl (n := n) q bs (by simpa using h)
    obtain ⟨u, hu⟩ := Wm ((a : Int) + b) n
    refine ⟨t + u, ?_⟩
    unfold aZ vR at ht ⊢
    simp only [List.zipWith_cons_cons, List.sum_cons, List.map_cons, ht, hu, Int.mul_add]
    omega
def nM (n : Nat) (kp : List Int) (q : List Nat) : List Int := List.zipWith (fun (k : Int) (c : Nat) => (k - (c : Int)) % (n : Int)) kp q
theorem Ho {n : Nat} : ∀ (kp : List Int) (q : List Nat), kp.length = q.length → ∃ t, (nM n kp q).sum = kp.sum - vR q + (n : Int) * t
  | [], [], _ => ⟨0, by simp [nM, vR]⟩
  | k :: kp, a :: q, h => by
    obtain ⟨t, ht⟩ := Ho (n := n) kp q (by simpa using h)
    obtain ⟨u, hu⟩ := Wm (k - (a : Int)) n
    refine ⟨t + u, ?_⟩
    unfold nM vR at ht ⊢
    simp only [List.zipWith_cons_cons, List.sum_cons, List.map_cons, ht, hu, Int.mul_add]
    omega
theorem Hq {n : Nat} {kp : List Int} {q : List Nat} (h : kp.length = q.length) : (nM n kp q).length = q.length := by
  unfold nM
  rw [List.length_zipWith, h, Nat.min_self]
theorem Hr {n : Nat} {kp : List Int} {q : List Nat} {i a : Nat} {k : Int} (h1 : kp[i]? = some k) (h2 : q[i]? = some a) : (nM n kp q)[i]? = some ((k - (a : Int)) % (n : Int)) := by
  unfold nM
  rw [List.getElem?_zipWith, h1, h2]
theorem NP {n : Nat} {kp : List Int} {q : List Nat} (h0 : 0 < n) (hq : bK n q) (h : kp.length = n) : Gd n q (nM n kp q) := by
  refine ⟨hq, by rw [Hq (h.trans hq.1.symm), hq.1], fun b hb => ?_⟩
  obtain ⟨i, hi⟩ := List.getElem?_of_mem hb
  have hl := (List.getElem?_eq_some_iff.mp hi).1
  rw [Hq (h.trans hq.1.symm)] at hl
  have e := Hr (n := n) (kp := kp) (q := q) (List.getElem?_eq_getElem (by rw [h, ← hq.1]; exact hl)) (List.getElem?_eq_getElem hl)
  rw [e] at hi
  cases hi
  exact Int.emod_nonneg _ (by omega)
theorem Q7 {n : Nat} {q0 q : List Nat} {b0 : List Int} (h0 : 0 < n) (g : Gd n q0 b0) (hq : bK n q) : aZ n q (nM n (aZ n q0 b0) q) = aZ n q0 b0 := by
  have hk : (aZ n q0 b0).length = n := by rw [jr (by rw [g.d7, g.len]), g.d7]
  have gb := NP h0 hq hk
  apply List.ext_getElem?
  intro i
  by_cases hi : i < n
  · have e1 : q[i]? = some (q[i]'(by rw [hq.1]; exact hi)) := List.getElem?_eq_getElem _
    have e2 : (aZ n q0 b0)[i]? = some ((aZ n q0 b0)[i]'(by rw [hk]; exact hi)) := List.getElem?_eq_getElem _
    rw [jo e1 (Hr e2 e1), e2]
    congr 1
    have e3 := jo (n := n) (q := q0) (bs := b0) (i := i) (List.getElem?_eq_getElem (by rw [g.d7]; exact hi)) (List.getElem?_eq_getElem (by rw [g.len]; exact hi))
    rw [e2] at e3
    have e4 := Option.some.inj e3
    rw [e4, Int.add_emod_emod]
    rw [show ∀ a b : Int, a + (b - a) = b by intro a b; omega, Int.emod_emod]
  · rw [List.getElem?_eq_none (by rw [jr (by rw [gb.d7, gb.len]), gb.d7]; omega), List.getElem?_eq_none (by rw [hk]; omega)]
theorem Q8 {n : Nat} {q : List Nat} {bs : List Int} {i : Nat} {b t : Int} (hb : bs[i]? = some b) : aZ n q (bs.set i (b + (n : Int) * t)) = aZ n q bs := by
  apply List.ext_getElem?
  intro j
  unfold aZ
  rw [List.getElem?_zipWith, List.getElem?_zipWith]
  have hl := (List.getElem?_eq_some_iff.mp hb).1
  by_cases h : i = j
  · subst h
    rw [List.getElem?_set_self hl, hb]
    cases q[i]? with
    | none => rfl
    | some a =>
      simp only
      congr 1
      rw [← Int.add_assoc, Int.add_mul_emod_self_left]
  · rw [List.getElem?_set_ne h]
structure Fill (n : Nat) (kp : List Int) (T : Int) (q : List Nat) (bg : List Int) (r : Int) : Prop where
  gd : Gd n q bg
  kept : aZ n q bg = kp
  sum : bg.sum + (n : Int) * r = T
  nn : 0 ≤ r
theorem Fill.give {n : Nat} {kp : List Int} {T : Int} {q : List Nat} {bg : List Int} {r t b : Int} {i : Nat} (F : Fill n kp T q bg r) (hb : bg[i]? = some b) (h0 : 0 ≤ t) (h1 : t ≤ r) : Fill n kp T q (bg.set i (b + (n : Int) * t)) (r - t) := by
  obtain ⟨hl, he⟩ := List.getElem?_eq_some_iff.mp hb
  have hm : 0 ≤ (n : Int) * t := Int.mul_nonneg (by omega) h0
  refine ⟨⟨F.gd.seats, by rw [List.length_set]; exact F.gd.len, fun x hx => ?_⟩, by rw [Q8 hb]; exact F.kept, ?_, by omega⟩
  · rcases List.mem_or_eq_of_mem_set hx with h | h
    · exact F.gd.nn x h
    · have := F.gd.nn b (List.mem_of_getElem? hb)
      omega
  · rw [sum_set bg i _ hl, he, Int.mul_sub]
    have := F.sum
    omega
theorem Fill.start {n : Nat} {q0 q : List Nat} {b0 : List Int} (h0 : 0 < n) (g : Gd n q0 b0) (hq : bK n q) (hr : 0 ≤ (b0.sum - (nM n (aZ n q0 b0) q).sum) / (n : Int)) : Fill n (aZ n q0 b0) b0.sum q (nM n (aZ n q0 b0) q) ((b0.sum - (nM n (aZ n q0 b0) q).sum) / (n : Int)) := by
  have hk : (aZ n q0 b0).length = n := by rw [jr (by rw [g.d7, g.len]), g.d7]
  refine ⟨NP h0 hq hk, Q7 h0 g hq, ?_, hr⟩
  obtain ⟨t1, e1⟩ := Hl (n := n) q0 b0 (by rw [g.d7, g.len])
  obtain ⟨t2, e2⟩ := Ho (n := n) (aZ n q0 b0) q (by rw [hk, hq.1])
  have e3 : vR q = vR q0 := Wk (hq.perm.trans g.seats.perm.symm)
  have e4 : b0.sum - (nM n (aZ n q0 b0) q).sum = (n : Int) * (-(t1 + t2)) := by
    rw [e2, e1, e3, Int.mul_neg, Int.mul_add]
    omega
  rw [e4, Int.mul_ediv_cancel_left _ (by omega : (n : Int) ≠ 0), ← e4]
  omega
theorem Fill.done {n : Nat} {q0 q : List Nat} {b0 bg : List Int} {r b : Int} {i : Nat} (F : Fill n (aZ n q0 b0) b0.sum q bg r) (hb : bg[i]? = some b) : Lot n q0 b0 q (bg.set i (b + (n : Int) * r)) := by
  have F2 := F.give hb F.nn (Int.le_refl r)
  have := F2.sum
  rw [Int.sub_self, Int.mul_zero, Int.add_zero] at this
  exact ⟨F2.gd, this, F2.kept⟩
/-! on data -/
theorem Wn {i j : Int} (h : i.natAbs < 2 ^ 1000) (h2 : j.natAbs < 2 ^ 1000) : dH (.fr (.int i)) (.fr (.int j)) = some (.fr (.int (i * j))) := rF (j7 h h2)
end DM
end
section
set_option exponentiation.threshold 10000
namespace DM
open PySem L2
end DM
end
section
set_option exponentiation.threshold 10000
namespace DM
open PySem L2
def unl : Nat → List Int → List Int → List Nat
  | j, a :: k1, b :: k2 => if a = b then unl (j + 1) k1 k2 else j :: unl (j + 1) k1 k2
  | _, _, _ => []
def hdD : List Nat → D
  | [] => .non
  | i :: _ => .int (i : Nat)
def NQ (k1 k2 : List Int) (s1 s2 : Int) : D := if s1 = s2 then hdD (unl 0 k1 k2) else .str "total"
def Ln (run : List En → R En) : Prop := ∀ n : Int, Ret run [.fr (.int n), .fr (.int n)] (.fr .non)
end DM
end
section
set_option exponentiation.threshold 10000
namespace DM
open PySem L2
theorem Zq {n : Nat} (p : List Nat) : ∀ x ∈ nD p, jH n x := by
  intro x hx
  unfold nD at hx
  obtain ⟨i, _, rfl⟩ := List.mem_map.mp hx
  exact pX _
theorem Q9 {n : Nat} (p : List Int) : ∀ x ∈ p.map D.int, jH n x := by
  intro x hx
  obtain ⟨i, _, rfl⟩ := List.mem_map.mp hx
  exact pX _
theorem Ra {n : Nat} {q : List Nat} {bs : List Int} (hq : q.length ≤ 1000) (hb : bs.length ≤ 1000) : jH (n + 2) (lX q bs) :=
  tR (by simp) fun x hx => by
    simp only [List.mem_cons, List.not_mem_nil, or_false] at hx
    rcases hx with rfl | rfl
    · exact tR (by rw [lF]; omega) (Zq q)
    · exact tR (by rw [List.length_map]; omega) (Q9 bs)
theorem acJ (q : List Nat) : (nD q).map rG = nD q := by
  unfold nD
  rw [List.map_map]
  apply List.map_congr_left
  intro i _
  simp [rG]
theorem Zr (q : List Nat) (bs : List Int) : rG (lX q bs) = dM q bs := by
  unfold lX dM
  rw [rG, jG]
  simp only [List.map_cons, List.map_nil, rG, jG, V1, acJ]
theorem Rb (q : List Nat) (bs : List Int) : Fine 2 (lX q bs) := tL fun x hx => by
  simp only [List.mem_cons, List.not_mem_nil, or_false] at hx
  rcases hx with rfl | rfl
  · exact tL (Nu q)
  · exact tL Bu
theorem Rc (q : List Nat) (bs : List Int) : Fine 2 (dM q bs) := tK fun x hx => by
  simp only [List.mem_cons, List.not_mem_nil, or_false] at hx
  rcases hx with rfl | rfl
  · exact tK (Nu q)
  · exact tK Bu
theorem aez (q : List Nat) : ∀ x ∈ nD q, Tx x := by
  intro x hx
  unfold nD at hx
  obtain ⟨i, _, rfl⟩ := List.mem_map.mp hx
  exact V2 _
theorem Zt (q : List Int) : ∀ x ∈ q.map D.int, Tx x := by
  intro x hx
  obtain ⟨i, _, rfl⟩ := List.mem_map.mp hx
  exact V2 _
theorem Zu (q : List Nat) (bs : List Int) : Tx (lX q bs) := Lj fun x hx => by
  simp only [List.mem_cons, List.not_mem_nil, or_false] at hx
  rcases hx with rfl | rfl
  · exact Lj (aez q)
  · exact Lj (Zt bs)
theorem acK {q : List Nat} (hq : ∀ k ∈ q, k < 100000) : ∀ x ∈ nD q, Gg 0 x := by
  intro x hx
  unfold nD at hx
  obtain ⟨i, hi, rfl⟩ := List.mem_map.mp hx
  exact Eh (Nat.lt_of_lt_of_le (show ((i : Nat) : Int).natAbs < 100000 by have := hq i hi; omega) (by decide))
theorem Zv {i : Int} (h0 : 0 ≤ i) (h : i ≤ 10 ^ 60) : i.natAbs < 10 ^ 100 := by
  have e : (10 : Int) ^ 60 = ((10 ^ 60 : Nat) : Int) := by simp
  rw [e] at h
  have : i.natAbs ≤ 10 ^ 60 := by
    generalize 10 ^ 60 = P at h ⊢
    omega
  exact Nat.lt_of_le_of_lt this (by decide)
theorem Wo {q : List Nat} {bs : List Int} (hq : ∀ k ∈ q, k < 100000) (hb : ∀ b ∈ bs, 0 ≤ b ∧ b ≤ 10 ^ 60) (h1 : q.length ≤ 100) (h2 : bs.length ≤ 100) : Gg 500 (lX q bs) := by
  refine Gg.mono (Ei (m := 200) fun x hx => ?_) (by simp)
  simp only [List.mem_cons, List.not_mem_nil, or_false] at hx
  rcases hx with rfl | rfl
  · exact Gg.mono (Ei (m := 0) (acK hq)) (by rw [lF]; omega)
  · refine Gg.mono (Ei (m := 0) fun x hx => ?_) (by rw [List.length_map]; omega)
    obtain ⟨i, hi, rfl⟩ := List.mem_map.mp hx
    exact Eh (Zv (hb i hi).1 (hb i hi).2)
structure Gs (n : Nat) (q : List Nat) (bs : List Int) : Prop where
  gd : Gd n q bs
  top : bs.sum ≤ 10 ^ 45
theorem Gs.shw {n : Nat} {q : List Nat} {bs : List Int} (g : Gs n q bs) (hn : n ≤ 100) : Gg 500 (lX q bs) := by
  refine Wo (fun k hk => by have := g.gd.seats.2.2 k hk; omega) (fun b hb => ⟨g.gd.nn b hb, Int.le_trans (Int.le_trans (Wc bs g.gd.nn b hb) g.top) (by decide)⟩) (by rw [g.gd.d7]; exact hn) (by rw [g.gd.len]; exact hn)
theorem Gs.nest {n k : Nat} {q : List Nat} {bs : List Int} (g : Gs n q bs) (hn : n ≤ 1000) : jH (k + 2) (lX q bs) := Ra (by rw [g.gd.d7]; exact hn) (by rw [g.gd.len]; exact hn)
theorem Rf {n : Nat} {q : List Nat} {bs : List Int} (g : Gs n q bs) (hn : n ≤ 100) : mZ [.fr (lX q bs)] = some (.fr (qO (lX q bs))) := Hf (n := 2) (m := 500) rfl rfl (Rb q bs) (by decide) (g.shw hn) (by decide)
theorem NT : ∀ (bs : List Int) (t : Int), (∀ b ∈ bs, b ≤ t) → bs.sum ≤ t * (bs.length : Nat)
  | [], t, _ => by simp
  | b :: bs, t, h => by
    have h1 := NT bs t fun c hc => h c (List.mem_cons_of_mem _ hc)
    have h2 := h b List.mem_cons_self
    rw [List.sum_cons, List.length_cons, Int.natCast_add, Int.mul_add]
    have : t * ((1 : Nat) : Int) = t := by simp
    omega
end DM
end
section
set_option maxHeartbeats 1000000
namespace DM
open PySem L2
/-! distances of states of one lot, by the Wq of all pairs -/
def kk (n : Nat) (q : List Nat) (bs : List Int) (i : Nat) : Int := (((q.getD i 0 : Nat) : Int) + bs.getD i 0) / (n : Int)
def ee (n : Nat) (q : List Nat) (i j : Nat) : Int := (((q.getD j 0 : Nat) : Int) - ((q.getD i 0 : Nat) : Int)) / (n : Int)
def gg (n : Nat) (q : List Nat) (bs : List Int) (i j : Nat) : Int := kk n q bs j - kk n q bs i - ee n q i j
def prs (n : Nat) : List (Nat × Nat) := (List.range n).flatMap fun i => (List.range (n - (i + 1))).map fun j => (i, i + 1 + j)
def gap (n : Nat) (q : List Nat) (bs : List Int) (q2 : List Nat) (b2 : List Int) (p : Nat × Nat) : Int := (((gg n q bs p.1 p.2 - gg n q2 b2 p.1 p.2).natAbs : Nat) : Int)
def dist (n : Nat) (q : List Nat) (bs : List Int) (q2 : List Nat) (b2 : List Int) : Int := ((prs n).map (gap n q bs q2 b2)).sum
theorem Eo {n : Nat} {p : Nat × Nat} : p ∈ prs n ↔ p.1 < p.2 ∧ p.2 < n := by
  obtain ⟨i, j⟩ := p
  unfold prs
  simp only [List.mem_flatMap, List.mem_range, List.mem_map, Prod.mk.injEq]
  constructor
  · rintro ⟨a, h1, b, h2, rfl, rfl⟩
    omega
  · rintro ⟨h1, h2⟩
    exact ⟨i, by omega, j - i - 1, by omega, rfl, by omega⟩
section
variable {α : Type} {f g h : α → Int}
theorem Ht : ∀ {l : List α}, (l.map fun x => f x + g x).sum = (l.map f).sum + (l.map g).sum
  | [] => by simp
  | a :: l => by
    have := Ht (l := l)
    simp only [List.map_cons, List.sum_cons]
    omega
theorem Lp {l : List α} (H : ∀ x ∈ l, f x = g x) : (l.map f).sum = (l.map g).sum := by
  rw [List.map_congr_left H]
end
section
variable {n : Nat} {q q2 q3 : List Nat} {bs b2 b3 : List Int}
end
/-! places of a seat order -/
theorem getD_at {α : Type} {l : List α} {i : Nat} {a d : α} (h : l[i]? = some a) : l.getD i d = a := by rw [List.getD_eq_getElem?_getD, h]; rfl
theorem bK.Hu {n : Nat} {q : List Nat} (h : bK n q) {i : Nat} (hi : i < n) : q.getD i 0 < n := by
  have hl : i < q.length := by rw [h.1]; exact hi
  rw [getD_at (List.getElem?_eq_getElem hl)]
  exact h.2.2 _ (List.getElem_mem hl)
theorem bK.at_ne {n : Nat} {q : List Nat} (h : bK n q) {i j : Nat} (hi : i < n) (hj : j < n) (hne : i ≠ j) : q.getD i 0 ≠ q.getD j 0 := fun e => by
  have hl : i < q.length := by rw [h.1]; exact hi
  have hl' : j < q.length := by rw [h.1]; exact hj
  rw [getD_at (List.getElem?_eq_getElem hl), getD_at (List.getElem?_eq_getElem hl')] at e
  exact hne ((List.getElem_inj h.2.1).mp e)
theorem NZ {a n : Int} (h1 : -n ≤ a) (h2 : a < n) : a / n = if a < 0 then -1 else 0 := by
  split
  · have h := Int.add_mul_ediv_left a 1 (show n ≠ 0 by omega)
    rw [Int.mul_one, Int.ediv_eq_zero_of_lt (by omega) (by omega)] at h
    omega
  · exact Int.ediv_eq_zero_of_lt (by omega) h2
theorem Ep {n : Nat} {q : List Nat} (h : bK n q) {i j : Nat} (hi : i < n) (hj : j < n) : ee n q i j = if q.getD j 0 < q.getD i 0 then -1 else 0 := by
  have h1 := h.Hu hi
  have h2 := h.Hu hj
  unfold ee
  rw [NZ (by omega) (by omega)]
  split <;> split <;> omega
theorem list_range {α : Type} (d : α) (l : List α) : (List.range l.length).map (fun i => l.getD i d) = l := by
  apply List.ext_getElem
  · rw [List.length_map, List.length_range]
  · intro i h1 h2
    rw [List.getElem_map, List.getElem_range, getD_at (List.getElem?_eq_getElem h2)]
theorem tW {n : Nat} {q : List Nat} {bs : List Int} (h1 : q.length = n) (h2 : bs.length = n) {i : Nat} (hi : i < n) : (aZ n q bs).getD i 0 = (((q.getD i 0 : Nat) : Int) + bs.getD i 0) % (n : Int) := by
  have e1 := List.getElem?_eq_getElem (show i < q.length by omega)
  have e2 := List.getElem?_eq_getElem (show i < bs.length by omega)
  rw [getD_at (jo e1 e2), getD_at e1, getD_at e2]
section
variable {n : Nat} {q q2 : List Nat} {bs b2 : List Int}
theorem N5 (g : Gd n q bs) (g2 : Gd n q2 b2) (hk : aZ n q bs = aZ n q2 b2) {i : Nat} (hi : i < n) : bs.getD i 0 - b2.getD i 0 = (n : Int) * (kk n q bs i - kk n q2 b2 i) - ((q.getD i 0 : Nat) : Int) + ((q2.getD i 0 : Nat) : Int) := by
  have e := tW g.d7 g.len hi
  rw [hk, tW g2.d7 g2.len hi] at e
  have d1 := Int.mul_ediv_add_emod (((q.getD i 0 : Nat) : Int) + bs.getD i 0) (n : Int)
  have d2 := Int.mul_ediv_add_emod (((q2.getD i 0 : Nat) : Int) + b2.getD i 0) (n : Int)
  unfold kk
  rw [Int.mul_sub]
  omega
theorem Es (g : Gd n q bs) (g2 : Gd n q2 b2) (hk : aZ n q bs = aZ n q2 b2) {i j : Nat} (hi : i < n) (hj : j < n) :
    (((q.getD j 0 : Nat) : Int) - ((q.getD i 0 : Nat) : Int) + (bs.getD j 0 - b2.getD j 0) - (bs.getD i 0 - b2.getD i 0)) / (n : Int) - (((q.getD j 0 : Nat) : Int) - ((q.getD i 0 : Nat) : Int)) / (n : Int) = gg n q bs i j - gg n q2 b2 i j := by
  have e1 := N5 g g2 hk hi
  have e2 := N5 g g2 hk hj
  have e3 : ((q.getD j 0 : Nat) : Int) - ((q.getD i 0 : Nat) : Int) + (bs.getD j 0 - b2.getD j 0) - (bs.getD i 0 - b2.getD i 0) = (((q2.getD j 0 : Nat) : Int) - ((q2.getD i 0 : Nat) : Int)) + (n : Int) * ((kk n q bs j - kk n q2 b2 j) - (kk n q bs i - kk n q2 b2 i)) := by
    rw [Int.mul_sub]
    omega
  rw [e3, Int.add_mul_ediv_left _ _ (by omega)]
  unfold gg ee
  omega
end
end DM
end
section
set_option maxHeartbeats 1000000
namespace DM
open PySem L2
/-! an exchange and the Wq of all pairs -/
section
variable {n : Nat} {q q' q2 : List Nat} {bs bs' b2 : List Int} {c : Nat}
theorem Wr (g : Gd n q bs) (h2 : 2 ≤ n) (hc : c < n) (h : Q6 n q bs c = some (q', bs')) :
    ∃ p m, p ≠ m ∧ p < n ∧ m < n ∧ q[p]? = some c ∧ q[m]? = some ((c + 1) % n) ∧ (∀ i, i < n → bs.getD i 0 - bs'.getD i 0 = if i = m then -1 else if i = p then 1 else 0) ∧ ∀ i j, i < n → j < n → i ≠ j → gg n q' bs' i j = gg n q bs i j + if i = p ∧ j = m then 1 else if i = m ∧ j = p then -1 else 0 := by
  obtain ⟨p, m, x, y, hne, hp, hm, ap, am, hx, hy, h0, rfl, rfl⟩ := nJ g h2 hc h
  have hql := g.d7
  have hbl := g.len
  have S' := g.seats.swap ap am hne
  have Q : ∀ i, ((q.set p ((c + 1) % n)).set m c).getD i 0 = if i = m then c else if i = p then (c + 1) % n else q.getD i 0 := fun i => by
    rw [List.getD_eq_getElem?_getD, jJ q p m _ _ i (by omega) (by omega)]
    split
    · rfl
    · split
      · rfl
      · rw [List.getD_eq_getElem?_getD]
  have B : ∀ i, ((bs.set p (x - 1)).set m (y + 1)).getD i 0 = if i = m then y + 1 else if i = p then x - 1 else bs.getD i 0 := fun i => by
    rw [List.getD_eq_getElem?_getD, jJ bs p m _ _ i (by omega) (by omega)]
    split
    · rfl
    · split
      · rfl
      · rw [List.getD_eq_getElem?_getD]
  have qp := getD_at (d := 0) ap
  have qm := getD_at (d := 0) am
  have bp := getD_at (d := 0) hx
  have bm := getD_at (d := 0) hy
  have hmod : (c + 1) % n = if c + 1 < n then c + 1 else 0 := by
    split
    · exact Nat.mod_eq_of_lt (by omega)
    · rw [show c + 1 = n by omega, Nat.mod_self]
  have hmp : m ≠ p := fun e => hne e.symm
  refine ⟨p, m, hne, hp, hm, ap, am, fun i hi => ?_, ?_⟩
  · rw [B i]
    split
    · rename_i e; subst e; omega
    · split
      · rename_i e; subst e; omega
      · omega
  have ko : ∀ i, i ≠ p → i ≠ m → kk n ((q.set p ((c + 1) % n)).set m c) ((bs.set p (x - 1)).set m (y + 1)) i = kk n q bs i := fun i e1 e2 => by
    unfold kk
    rw [Q i, B i, if_neg e2, if_neg e1, if_neg e2, if_neg e1]
  have kp : kk n ((q.set p ((c + 1) % n)).set m c) ((bs.set p (x - 1)).set m (y + 1)) p = kk n q bs p - if c + 1 < n then 0 else 1 := by
    unfold kk
    rw [Q p, B p, if_neg hne, if_pos rfl, if_neg hne, if_pos rfl, qp, bp, hmod]
    by_cases hw : c + 1 < n
    · rw [if_pos hw, if_pos hw]
      rw [show (((c + 1 : Nat) : Int) + (x - 1)) = (c : Int) + x by omega]
      omega
    · rw [if_neg hw, if_neg hw]
      have e := Int.add_mul_ediv_left (x - 1) 1 (show (n : Int) ≠ 0 by omega)
      rw [show (c : Int) + x = x - 1 + (n : Int) * 1 by omega, e]
      rw [show (((0 : Nat) : Int) + (x - 1)) = x - 1 by omega]
      omega
  have km : kk n ((q.set p ((c + 1) % n)).set m c) ((bs.set p (x - 1)).set m (y + 1)) m = kk n q bs m + if c + 1 < n then 0 else 1 := by
    unfold kk
    rw [Q m, B m, if_pos rfl, if_pos rfl, qm, bm, hmod]
    by_cases hw : c + 1 < n
    · rw [if_pos hw, if_pos hw]
      rw [show ((c : Int) + (y + 1)) = ((c + 1 : Nat) : Int) + y by omega]
      omega
    · rw [if_neg hw, if_neg hw]
      have e := Int.add_mul_ediv_left y 1 (show (n : Int) ≠ 0 by omega)
      rw [show (c : Int) + (y + 1) = y + (n : Int) * 1 by omega, e]
      rw [show (((0 : Nat) : Int) + y) = y by omega]
  intro i j hi hj hij
  unfold gg
  rw [Ep S' hi hj, Ep g.seats hi hj, Q i, Q j]
  have ni : ∀ k, k < n → k ≠ p → q.getD k 0 ≠ c := fun k hk hkp => by
    have := g.seats.at_ne hk hp hkp
    omega
  have nm : ∀ k, k < n → k ≠ m → q.getD k 0 ≠ (c + 1) % n := fun k hk hkp => by
    have := g.seats.at_ne hk hm hkp
    omega
  have li := g.seats.Hu hi
  have lj := g.seats.Hu hj
  have nii := ni i hi
  have nij := ni j hj
  have nmi := nm i hi
  have nmj := nm j hj
  generalize kk n ((q.set p ((c + 1) % n)).set m c) ((bs.set p (x - 1)).set m (y + 1)) = K' at *
  generalize kk n q bs = K at *
  generalize (c + 1) % n = d at *
  obtain ⟨w, hw⟩ : ∃ w, w = (if c + 1 < n then (0 : Int) else 1) := ⟨_, rfl⟩
  rw [← hw] at kp km
  have hD : (c + 1 < n ∧ d = c + 1 ∧ w = 0) ∨ (n ≤ c + 1 ∧ d = 0 ∧ w = 1) := by
    by_cases hz : c + 1 < n
    · rw [if_pos hz] at hmod hw
      exact .inl ⟨hz, hmod, hw⟩
    · rw [if_neg hz] at hmod hw
      exact .inr ⟨by omega, hmod, hw⟩
  clear hmod hw
  have hji : j ≠ i := fun e => hij e.symm
  by_cases e1 : i = p
  · subst e1
    by_cases e2 : j = m
    · subst e2
      simp only [hij, kp, km, and_self, reduceIte]
      omega
    · have := nij hji
      have := nmj e2
      simp only [hne, hji, e2, ko j hji e2, kp, and_self, and_false, false_and, reduceIte]
      omega
  · by_cases e2 : i = m
    · subst e2
      by_cases e3 : j = p
      · subst e3
        simp only [hij, hji, kp, km, and_self, and_false, reduceIte]
        omega
      · have := nij e3
        have := nmj hji
        simp only [hmp, hji, e3, ko j e3 hji, km, and_self, and_false, false_and, reduceIte]
        omega
    · by_cases e3 : j = p
      · subst e3
        have := nii e1
        have := nmi e2
        simp only [hne, e1, e2, ko i e1 e2, kp, and_self, and_false, false_and, reduceIte]
        omega
      · by_cases e4 : j = m
        · subst e4
          have := nii e1
          have := nmi e2
          simp only [e1, e2, ko i e1 e2, km, and_self, and_false, false_and, reduceIte]
          omega
        · simp only [e1, e2, e3, e4, ko i e1 e2, ko j e3 e4, and_self, and_false, false_and, reduceIte]
          omega
end
end DM
end
section
set_option maxHeartbeats 1000000
namespace DM
open PySem L2
/-! leading, shifts, meetings, on data -/
structure Ml (n : Nat) (q1 : List Nat) (b1 : List Int) (q2 : List Nat) (b2 : List Int) : Prop where
  g1 : Gd n q1 b1
  g2 : Gd n q2 b2
  kept : aZ n q1 b1 = aZ n q2 b2
  sum : b1.sum = b2.sum
theorem Hv : ∀ (k : List Int) (j : Nat), unl j k k = []
  | [], j => rfl
  | a :: k, j => by
    show (if a = a then unl (j + 1) k k else j :: unl (j + 1) k k) = []
    rw [if_pos rfl, Hv k]
theorem Ml.none {n : Nat} {q1 q2 : List Nat} {b1 b2 : List Int} (h : Ml n q1 b1 q2 b2) : NQ (aZ n q1 b1) (aZ n q2 b2) b1.sum b2.sum = .non := by
  unfold NQ
  rw [if_pos h.sum, h.kept, Hv]
  rfl
theorem Ml.symm {n : Nat} {q1 q2 : List Nat} {b1 b2 : List Int} (h : Ml n q1 b1 q2 b2) : Ml n q2 b2 q1 b1 := ⟨h.g2, h.g1, h.kept.symm, h.sum.symm⟩
theorem Ml.trans {n : Nat} {q1 q2 q3 : List Nat} {b1 b2 b3 : List Int} (h : Ml n q1 b1 q2 b2) (h' : Ml n q2 b2 q3 b3) : Ml n q1 b1 q3 b3 := ⟨h.g1, h'.g2, h.kept.trans h'.kept, h.sum.trans h'.sum⟩
theorem Ml.refl {n : Nat} {q1 : List Nat} {b1 : List Int} (h : Gd n q1 b1) : Ml n q1 b1 q1 b1 := ⟨h, h, rfl, rfl⟩
theorem Lot.ml {n : Nat} {q q' : List Nat} {bs bs' : List Int} (g : Gd n q bs) (h : Lot n q bs q' bs') : Ml n q bs q' bs' := ⟨g, h.gd, h.kept.symm, h.sum.symm⟩
def iY (b1 b2 : List Int) : List Int := List.zipWith (fun a b => a - b) b1 b2
def BK (n : Nat) (q : List Nat) (ds : List Int) (i j : Nat) : Int := pF ((((q.getD j 0 : Nat) : Int) - ((q.getD i 0 : Nat) : Int) + ds.getD j 0 - ds.getD i 0) / (n : Int) - (((q.getD j 0 : Nat) : Int) - ((q.getD i 0 : Nat) : Int)) / (n : Int))
end DM
end
section
set_option maxHeartbeats 1000000
namespace DM
open PySem L2
/-! crossings and distance, on data -/
theorem Hw {α : Type} {f : α → Int} : ∀ {l : List α}, (∀ x ∈ l, 0 ≤ f x) → ((l.filter fun x => decide (0 < f x)).map f).sum = (l.map f).sum
  | [], _ => by simp
  | a :: l, H => by
    have ih := Hw (f := f) (l := l) fun x hx => H x (List.mem_cons_of_mem a hx)
    have h0 := H a List.mem_cons_self
    by_cases hp : 0 < f a
    · rw [List.filter_cons_of_pos (by rw [decide_eq_true_eq]; exact hp), List.map_cons, List.sum_cons, ih, List.map_cons, List.sum_cons]
    · rw [List.filter_cons_of_neg (by rw [decide_eq_true_eq]; exact hp), ih, List.map_cons, List.sum_cons]
      omega
theorem nO {n : Nat} {b1 b2 : List Int} (h1 : b1.length = n) (h2 : b2.length = n) {i : Nat} (hi : i < n) : (iY b1 b2).getD i 0 = b1.getD i 0 - b2.getD i 0 := by
  have e1 := List.getElem?_eq_getElem (show i < b1.length by omega)
  have e2 := List.getElem?_eq_getElem (show i < b2.length by omega)
  rw [getD_at e1, getD_at e2]
  unfold iY
  rw [List.getD_eq_getElem?_getD, List.getElem?_zipWith, e1, e2]
  rfl
theorem Ws {n : Nat} {q1 q2 : List Nat} {b1 b2 : List Int} (m : Ml n q1 b1 q2 b2) {p : Nat × Nat} (hp : p ∈ prs n) : BK n q1 (iY b1 b2) p.1 p.2 = gap n q1 b1 q2 b2 p := by
  obtain ⟨h1, h2⟩ := Eo.mp hp
  unfold BK gap
  rw [nO m.g1.len m.g2.len (show p.1 < n by omega), nO m.g1.len m.g2.len h2, Es m.g1 m.g2 m.kept (by omega) h2]
  unfold pF
  split <;> omega
end DM
end
section
set_option maxHeartbeats 1000000
namespace DM
open PySem L2
/-! exchanges that are possible, and the state after one, on data -/
end DM
end
section
set_option maxHeartbeats 1000000
namespace DM
open PySem L2
/-! an exchange that comes nearer: there is one as long as two states of one lot differ -/
section
variable {n : Nat} {q q2 q' : List Nat} {bs b2 bs' : List Int} {c : Nat}
def sd (q : List Nat) (ds : List Int) (c : Nat) : Int := ds.getD (q.idxOf c) 0
def vL (n : Nat) (q : List Nat) (ds : List Int) (c : Nat) : Prop := sd q ds c > sd q ds ((c + 1) % n) + 1
theorem nQ (h : bK n q) {i : Nat} (hi : i < n) : q.idxOf (q.getD i 0) = i := by
  have h1 := h.Hu hi
  obtain ⟨a, b⟩ := h.idx h1
  apply Classical.byContradiction
  intro hne
  exact h.at_ne a hi hne (getD_at b)
end
end DM
end
section
set_option maxHeartbeats 1000000
namespace DM
open PySem L2
/-! a nearer exchange, a plan, runs of rows, on data -/
def exL (n : Nat) (q : List Nat) (bs : List Int) : List Nat := (List.range n).filter fun c => decide (0 < bs.getD (q.idxOf c) 0)
def abf (n : Nat) (q : List Nat) (ds : List Int) (c : Nat) : Bool := decide (sd q ds c > sd q ds ((c + 1) % n) + 1)
def yL (n : Nat) (q : List Nat) (bs b2 : List Int) : List Nat := (exL n q bs).filter (abf n q (iY bs b2))
theorem u6 {n : Nat} {q : List Nat} {bs b2 : List Int} {c : Nat} : c ∈ yL n q bs b2 ↔ c < n ∧ 0 < bs.getD (q.idxOf c) 0 ∧ vL n q (iY bs b2) c := by
  unfold yL exL abf vL
  simp only [List.mem_filter, List.mem_range, decide_eq_true_eq, and_assoc]
end DM
end
section
set_option maxHeartbeats 1000000
namespace DM
open PySem L2
def Rg (n : Nat) (b2 : List Int) : List Nat → List Nat × List Int → List Nat × List Int → Prop
  | [], s, t => s = t
  | c :: cs, s, t => ∃ s', (∃ l, yL n s.1 s.2 b2 = c :: l) ∧ Q6 n s.1 s.2 c = some s' ∧ Rg n b2 cs s' t
theorem Rg.snoc {n : Nat} {b2 : List Int} {c : Nat} {t t' : List Nat × List Int} (h1 : ∃ l, yL n t.1 t.2 b2 = c :: l) (h2 : Q6 n t.1 t.2 c = some t') : ∀ {cs : List Nat} {s : List Nat × List Int}, Rg n b2 cs s t → Rg n b2 (cs ++ [c]) s t'
  | [], s, h => by
    have h : s = t := h
    subst h
    exact ⟨t', h1, h2, rfl⟩
  | a :: cs, s, ⟨s', k1, k2, k3⟩ => ⟨s', k1, k2, Rg.snoc h1 h2 k3⟩
theorem Wt {n : Nat} {q l : List Nat} {bs b2 : List Int} {c : Nat} (h : yL n q bs b2 = c :: l) : c < n := (u6.mp (h ▸ List.mem_cons_self)).1
theorem Rg.lt {n : Nat} {b2 : List Int} : ∀ {cs : List Nat} {s t : List Nat × List Int}, Rg n b2 cs s t → ∀ c ∈ cs, c < n
  | [], _, _, _, c, hc => by simp at hc
  | a :: cs, s, t, ⟨s', ⟨l, k1⟩, k2, k3⟩, c, hc => by
    rcases List.mem_cons.mp hc with rfl | hc
    · exact Wt k1
    · exact Rg.lt k3 c hc
theorem Rg.row {n : Nat} {b2 : List Int} : ∀ {cs : List Nat} {s t : List Nat × List Int}, Rg n b2 cs s t → acI n cs s = some t
  | [], s, t, h => by
    have h : s = t := h
    subst h
    rfl
  | a :: cs, s, t, ⟨s', k1, k2, k3⟩ => by
    show (Q6 n s.1 s.2 a).bind (fun u => acI n cs u) = some t
    rw [k2]
    exact Rg.row k3
end DM
end
section
set_option maxHeartbeats 1000000
namespace DM
open PySem L2
/-! one rich person goes past all others -/
theorem Rh {n : Nat} {f : Nat → Nat} (h1 : ∀ i, i < n → f i < n) (h2 : ∀ i j, i < n → j < n → f i = f j → i = j) : bK n ((List.range n).map f) := by
  refine ⟨by rw [List.length_map, List.length_range], ?_, fun k hk => ?_⟩
  · refine List.pairwise_map.mpr (List.Pairwise.imp_of_mem (fun {a b} ha hb hne e => hne (h2 a b (List.mem_range.mp ha) (List.mem_range.mp hb) e)) List.nodup_range)
  · obtain ⟨i, hi, rfl⟩ := List.mem_map.mp hk
    exact h1 i (List.mem_range.mp hi)
def tI (T : Int) (l w : Nat) : Int := T + if w ≤ l then 1 else 0
def rb (n : Nat) (S e : Int) : List Int := (S + e) :: List.replicate (n - 1) 0
def tb (n : Nat) (e T : Int) (l : Nat) : List Int := e :: (List.range (n - 1)).map fun w => tI T l (w + 1)
structure aeA (n b : Nat) (S e T : Int) (l : Nat) : Prop where
  h2 : 2 ≤ n
  hb : b < n
  hl : l < n - 1
  hT : 0 ≤ T
  he : 0 ≤ e
  hS : S = ((n : Int) - 1) * T + l
section
variable {n b : Nat} {S e T : Int} {l : Nat}
theorem aeA.S0 (h : aeA n b S e T l) : 0 ≤ S := by
  have := h.h2
  have h1 : 0 ≤ ((n : Int) - 1) * T := Int.mul_nonneg (by omega) h.hT
  have := h.hS
  omega
theorem Ri {q q2 : List Nat} {x y : List Int} (g : Gd n q x) (g2 : Gd n q2 y) (h : ∀ i, i < n → (((q.getD i 0 : Nat) : Int) + x.getD i 0) % (n : Int) = (((q2.getD i 0 : Nat) : Int) + y.getD i 0) % (n : Int)) : aZ n q x = aZ n q2 y := by
  have l1 : (aZ n q x).length = n := by rw [jr (by rw [g.d7, g.len]), g.d7]
  have l2 : (aZ n q2 y).length = n := by rw [jr (by rw [g2.d7, g2.len]), g2.d7]
  rw [← list_range 0 (aZ n q x), ← list_range 0 (aZ n q2 y), l1, l2]
  apply List.map_congr_left
  intro i hi
  have hi := List.mem_range.mp hi
  rw [tW g.d7 g.len hi, tW g2.d7 g2.len hi, h i hi]
end
end DM
end
section
set_option maxHeartbeats 1000000
namespace DM
open PySem L2
/-! the way past all others, exchange by exchange -/
section
variable {n : Nat} {q q2 q' : List Nat} {bs b2 bs' : List Int} {c : Nat}
theorem wH (hs : bK n q) {i j : Nat} (hi : i < n) (hj : j < n) (hne : i ≠ j) : gg n q bs j i = 1 - gg n q bs i j := by
  have h1 := Ep hs hi hj
  have h3 := Ep hs hj hi
  have h4 := hs.at_ne hi hj hne
  unfold gg
  rw [h1, h3]
  split <;> split <;> omega
theorem wI (m : Ml n q bs q2 b2) (h2 : 2 ≤ n) (hc : c < n) (hP : vL n q (iY bs b2) c) : gg n q bs (q.idxOf c) (q.idxOf ((c + 1) % n)) < gg n q2 b2 (q.idxOf c) (q.idxOf ((c + 1) % n)) := by
  obtain ⟨hp, ap⟩ := m.g1.seats.idx hc
  obtain ⟨hm, am⟩ := m.g1.seats.idx (show (c + 1) % n < n from Nat.mod_lt _ (by omega))
  unfold vL sd at hP
  generalize q.idxOf c = p at *
  generalize q.idxOf ((c + 1) % n) = mm at *
  rw [nO m.g1.len m.g2.len hp, nO m.g1.len m.g2.len hm] at hP
  have e := Es m.g1 m.g2 m.kept hp hm
  rw [getD_at ap, getD_at am] at e
  have key : ((((c + 1) % n : Nat) : Int) - (c : Int) + (bs.getD mm 0 - b2.getD mm 0) - (bs.getD p 0 - b2.getD p 0)) / (n : Int) < ((((c + 1) % n : Nat) : Int) - (c : Int)) / (n : Int) := by
    by_cases hz : c + 1 < n
    · rw [Nat.mod_eq_of_lt hz]
      have a1 : ((((c + 1 : Nat) : Int)) - (c : Int)) / (n : Int) = 0 := Int.ediv_eq_zero_of_lt (by omega) (by omega)
      rw [a1]
      exact Int.ediv_neg_of_neg_of_pos (by omega) (by omega)
    · have hz2 : (c + 1) % n = 0 := by rw [show c + 1 = n by omega, Nat.mod_self]
      rw [hz2]
      have a1 : ((((0 : Nat) : Int)) - (c : Int)) / (n : Int) = -1 := by
        rw [NZ (by omega) (by omega), if_pos (by omega)]
      rw [a1]
      have a2 := Int.add_mul_ediv_left ((((0 : Nat) : Int)) - (c : Int) + (bs.getD mm 0 - b2.getD mm 0) - (bs.getD p 0 - b2.getD p 0)) 1 (show (n : Int) ≠ 0 by omega)
      have a3 : ((((0 : Nat) : Int)) - (c : Int) + (bs.getD mm 0 - b2.getD mm 0) - (bs.getD p 0 - b2.getD p 0) + (n : Int) * 1) / (n : Int) < 0 := Int.ediv_neg_of_neg_of_pos (by omega) (by omega)
      omega
  omega
structure Hz (n : Nat) (q : List Nat) (bs : List Int) (q2 : List Nat) (b2 : List Int) : Prop where
  ml : Ml n q bs q2 b2
  others : ∀ i j, 0 < i → 0 < j → i < n → j < n → i ≠ j → gg n q bs i j = gg n q2 b2 i j
  zero : ∀ j, 0 < j → j < n → gg n q bs 0 j ≤ gg n q2 b2 0 j
theorem Hz.near (h : Hz n q bs q2 b2) (h2 : 2 ≤ n) (hc : c < n) (hP : vL n q (iY bs b2) c) : q.idxOf c = 0 := by
  have e := wI h.ml h2 hc hP
  obtain ⟨hp, _⟩ := h.ml.g1.seats.idx hc
  have hc' : (c + 1) % n < n := Nat.mod_lt _ (by omega)
  obtain ⟨hm, _⟩ := h.ml.g1.seats.idx hc'
  have hne := h.ml.g1.seats.pY hc hc' (next_ne h2 hc)
  generalize q.idxOf c = p at *
  generalize q.idxOf ((c + 1) % n) = mm at *
  apply Classical.byContradiction
  intro h0
  by_cases hz : mm = 0
  · subst hz
    have a1 := h.zero p (by omega) hp
    have a2 := wH (bs := bs) h.ml.g1.seats (show 0 < n by omega) hp (by omega)
    have a3 := wH (bs := b2) h.ml.g2.seats (show 0 < n by omega) hp (by omega)
    omega
  · have := h.others p mm (by omega) (by omega) hp hm hne
    omega
theorem Hz.step (h : Hz n q bs q2 b2) (h2 : 2 ≤ n) (hc : c < n) (hP : vL n q (iY bs b2) c) (hv : Q6 n q bs c = some (q', bs')) : Hz n q' bs' q2 b2 ∧ q'.getD 0 0 = (c + 1) % n := by
  have h0 := h.near h2 hc hP
  have e := wI h.ml h2 hc hP
  obtain ⟨p, mm, hne, hp, hm, ap, am, _, hg⟩ := Wr h.ml.g1 h2 hc hv
  have ip : q.idxOf c = p := by
    have := nQ h.ml.g1.seats hp
    rw [getD_at ap] at this
    exact this
  have im : q.idxOf ((c + 1) % n) = mm := by
    have := nQ h.ml.g1.seats hm
    rw [getD_at am] at this
    exact this
  rw [ip, im] at e
  rw [ip] at h0
  subst h0
  refine ⟨⟨⟨El h.ml.g1 h2 hc hv, h.ml.g2, (yK h.ml.g1 h2 hc hv).trans h.ml.kept, (Em h.ml.g1 h2 hc hv).trans h.ml.sum⟩, fun i j hi hj hin hjn hij => ?_, fun j hj hjn => ?_⟩, ?_⟩
  · rw [hg i j hin hjn hij, if_neg (by omega), if_neg (by omega), h.others i j hi hj hin hjn hij]
    omega
  · rw [hg 0 j (by omega) hjn (by omega)]
    have := h.zero j hj hjn
    split
    · rename_i k
      obtain ⟨_, rfl⟩ := k
      omega
    · rw [if_neg (by omega)]
      omega
  · obtain ⟨p', m', x, y, hne', hp', hm', ap', am', _, _, _, rfl, rfl⟩ := nJ h.ml.g1 h2 hc hv
    have e1 : p' = 0 := by
      have := nQ h.ml.g1.seats hp'
      rw [getD_at ap', ip] at this
      omega
    subst e1
    have hql := h.ml.g1.d7
    rw [List.getD_eq_getElem?_getD, jJ q 0 m' _ _ 0 (by omega) (by omega), if_neg hne', if_pos rfl]
    rfl
theorem Hz.walk (h2 : 2 ≤ n) : ∀ (cs : List Nat) (q : List Nat) (bs : List Int) (t : List Nat × List Int), Hz n q bs q2 b2 → Rg n b2 cs (q, bs) t → cs = (List.range cs.length).map fun k => (q.getD 0 0 + k) % n
  | [], q, bs, t, _, _ => rfl
  | c :: cs, q, bs, t, h, ⟨⟨q', bs'⟩, ⟨l, k1⟩, k2, k3⟩ => by
    have hm := u6.mp (show c ∈ yL n q bs b2 by rw [k1]; exact List.mem_cons_self)
    have h0 := h.near h2 hm.1 hm.2.2
    obtain ⟨s1, s2⟩ := h.step h2 hm.1 hm.2.2 k2
    have ih := Hz.walk h2 cs q' bs' t s1 k3
    have hc : q.getD 0 0 = c := by
      have := (h.ml.g1.seats.idx hm.1).2
      rw [h0] at this
      exact getD_at this
    rw [s2] at ih
    rw [List.length_cons, List.range_succ_eq_map, List.map_cons, List.map_map, Nat.add_zero, hc, Nat.mod_eq_of_lt hm.1]
    refine List.cons_eq_cons.mpr ⟨rfl, ih.trans ?_⟩
    apply List.map_congr_left
    intro k _
    simp only [Function.comp]
    rw [Nat.mod_add_mod]
    congr 1
    omega
end
section
variable {n b : Nat} {S e T : Int} {l : Nat}
end
end DM
end
section
set_option maxHeartbeats 1000000
namespace DM
open PySem L2
/-! somebody goes past all others, whoever it is -/
section
variable {n w : Nat} {q q2 q' : List Nat} {bs b2 bs' : List Int} {c : Nat}
structure tX (n w : Nat) (q : List Nat) (bs : List Int) (q2 : List Nat) (b2 : List Int) : Prop where
  ml : Ml n q bs q2 b2
  others : ∀ i j, i ≠ w → j ≠ w → i < n → j < n → i ≠ j → gg n q bs i j = gg n q2 b2 i j
  zero : ∀ j, j ≠ w → j < n → gg n q bs w j ≤ gg n q2 b2 w j
theorem tX.near (h : tX n w q bs q2 b2) (h2 : 2 ≤ n) (hc : c < n) (hP : vL n q (iY bs b2) c) : q.idxOf c = w := by
  have e := wI h.ml h2 hc hP
  obtain ⟨hp, _⟩ := h.ml.g1.seats.idx hc
  have hc' : (c + 1) % n < n := Nat.mod_lt _ (by omega)
  obtain ⟨hm, _⟩ := h.ml.g1.seats.idx hc'
  have hne := h.ml.g1.seats.pY hc hc' (next_ne h2 hc)
  generalize q.idxOf c = p at *
  generalize q.idxOf ((c + 1) % n) = mm at *
  apply Classical.byContradiction
  intro h0
  by_cases hz : mm = w
  · subst hz
    have a1 := h.zero p (by omega) hp
    have a2 := wH (bs := bs) h.ml.g1.seats hm hp (by omega)
    have a3 := wH (bs := b2) h.ml.g2.seats hm hp (by omega)
    omega
  · have := h.others p mm (by omega) (by omega) hp hm hne
    omega
theorem tX.step (h : tX n w q bs q2 b2) (h2 : 2 ≤ n) (hc : c < n) (hP : vL n q (iY bs b2) c) (hv : Q6 n q bs c = some (q', bs')) : tX n w q' bs' q2 b2 ∧ q'.getD w 0 = (c + 1) % n := by
  have h0 := h.near h2 hc hP
  have e := wI h.ml h2 hc hP
  obtain ⟨p, mm, hne, hp, hm, ap, am, _, hg⟩ := Wr h.ml.g1 h2 hc hv
  have ip : q.idxOf c = p := by
    have := nQ h.ml.g1.seats hp
    rw [getD_at ap] at this
    exact this
  have im : q.idxOf ((c + 1) % n) = mm := by
    have := nQ h.ml.g1.seats hm
    rw [getD_at am] at this
    exact this
  rw [ip, im] at e
  rw [ip] at h0
  subst h0
  refine ⟨⟨⟨El h.ml.g1 h2 hc hv, h.ml.g2, (yK h.ml.g1 h2 hc hv).trans h.ml.kept, (Em h.ml.g1 h2 hc hv).trans h.ml.sum⟩, fun i j hi hj hin hjn hij => ?_, fun j hj hjn => ?_⟩, ?_⟩
  · rw [hg i j hin hjn hij, if_neg (by omega), if_neg (by omega), h.others i j hi hj hin hjn hij]
    omega
  · rw [hg p j hp hjn (by omega)]
    have := h.zero j hj hjn
    split
    · rename_i k
      obtain ⟨_, rfl⟩ := k
      omega
    · rw [if_neg (by omega)]
      omega
  · obtain ⟨p', m', x, y, hne', hp', hm', ap', am', _, _, _, rfl, rfl⟩ := nJ h.ml.g1 h2 hc hv
    have e1 : p' = p := by
      have := nQ h.ml.g1.seats hp'
      rw [getD_at ap', ip] at this
      omega
    subst e1
    have hql := h.ml.g1.d7
    rw [List.getD_eq_getElem?_getD, jJ q _ m' _ _ _ (by omega) (by omega), if_neg hne', if_pos rfl]
    rfl
theorem tX.walk (h2 : 2 ≤ n) : ∀ (cs : List Nat) (q : List Nat) (bs : List Int) (t : List Nat × List Int), tX n w q bs q2 b2 → Rg n b2 cs (q, bs) t → cs = (List.range cs.length).map fun k => (q.getD w 0 + k) % n
  | [], q, bs, t, _, _ => rfl
  | c :: cs, q, bs, t, h, ⟨⟨q', bs'⟩, ⟨l, k1⟩, k2, k3⟩ => by
    have hm := u6.mp (show c ∈ yL n q bs b2 by rw [k1]; exact List.mem_cons_self)
    have h0 := h.near h2 hm.1 hm.2.2
    obtain ⟨s1, s2⟩ := h.step h2 hm.1 hm.2.2 k2
    have ih := tX.walk h2 cs q' bs' t s1 k3
    have hc : q.getD w 0 = c := by
      have := (h.ml.g1.seats.idx hm.1).2
      rw [h0] at this
      exact getD_at this
    rw [s2] at ih
    rw [List.length_cons, List.range_succ_eq_map, List.map_cons, List.map_map, Nat.add_zero, hc, Nat.mod_eq_of_lt hm.1]
    refine List.cons_eq_cons.mpr ⟨rfl, ih.trans ?_⟩
    apply List.map_congr_left
    intro k _
    simp only [Function.comp]
    rw [Nat.mod_add_mod]
    congr 1
    omega
end
end DM
end
section
set_option maxHeartbeats 1000000
namespace DM
open PySem L2
/-! rounds of one person round the table -/
structure tY (n w : Nat) (q : List Nat) (b : List Int) (R : Int) : Prop where
  g : Gd n q b
  h2 : 2 ≤ n
  hw : w < n
  hR : 1 ≤ R
def nU (n : Nat) (R : Int) : Int := (n : Int) * ((n : Int) - 1) * R
def tZ (b : List Int) (w : Nat) (C : Int) : List Int := b.set w (b.getD w 0 + C)
def rK (n : Nat) (b : List Int) (w : Nat) (R : Int) : List Int := (b.map fun x => x + (n : Int) * R).set w (b.getD w 0)
theorem HD {l : List Int} {w i : Nat} {v : Int} (hw : w < l.length) : (l.set w v).getD i 0 = if i = w then v else l.getD i 0 := by
  rw [List.getD_eq_getElem?_getD, List.getD_eq_getElem?_getD, List.getElem?_set]
  by_cases h : i = w
  · subst h
    rw [if_pos rfl, if_pos rfl, if_pos hw]
    rfl
  · rw [if_neg (fun e => h e.symm), if_neg h]
theorem rM {α : Type} (c : Int) : ∀ l : List α, (l.map fun _ => c).sum = (l.length : Nat) * c
  | [] => by simp
  | a :: l => by
    have := rM c l
    rw [List.map_cons, List.sum_cons, this, List.length_cons, show ((l.length + 1 : Nat) : Int) = (l.length : Int) + 1 by omega, Int.add_mul, Int.one_mul]
    omega
section
variable {n w : Nat} {q : List Nat} {b : List Int} {R : Int}
theorem tY.C1 (n : Nat) (R : Int) : nU n R = (n : Int) * ((n : Int) * R - R) := by
  unfold nU
  rw [Int.mul_assoc, Int.sub_mul, Int.one_mul]
theorem tY.nR (h : tY n w q b R) : 1 ≤ (n : Int) * R := by
  have h2 := h.h2
  have h1 : (n : Int) * 1 ≤ (n : Int) * R := Int.mul_le_mul_of_nonneg_left h.hR (by omega)
  omega
theorem tY.C2 (h : tY n w q b R) : nU n R = (n : Int) * ((n : Int) * R) - (n : Int) * R := by rw [tY.C1, Int.mul_sub]
theorem tY.C0 (h : tY n w q b R) : 1 ≤ nU n R := by
  have h2 := h.h2
  have h1 := h.nR
  rw [h.C2]
  have : (2 : Int) * ((n : Int) * R) ≤ (n : Int) * ((n : Int) * R) := Int.mul_le_mul_of_nonneg_right (by omega) (by omega)
  omega
theorem tY.atA (h : tY n w q b R) (i : Nat) : (tZ b w (nU n R)).getD i 0 = if i = w then b.getD w 0 + nU n R else b.getD i 0 := HD (by rw [h.g.len]; exact h.hw)
theorem tY.atB (h : tY n w q b R) {i : Nat} (hi : i < n) : (rK n b w R).getD i 0 = if i = w then b.getD w 0 else b.getD i 0 + (n : Int) * R := by
  unfold rK
  rw [HD (by rw [List.length_map, h.g.len]; exact h.hw)]
  have hl := h.g.len
  have e : (b.map fun x => x + (n : Int) * R).getD i 0 = b.getD i 0 + (n : Int) * R := by
    have e1 := List.getElem?_eq_getElem (show i < b.length by omega)
    rw [List.getD_eq_getElem?_getD, List.getElem?_map, e1, getD_at e1]
    rfl
  rw [e]
theorem N6 {l : List Int} (h : ∀ x ∈ l, 0 ≤ x) (i : Nat) : 0 ≤ l.getD i 0 := by
  rw [List.getD_eq_getElem?_getD]
  cases e : l[i]? with
  | none => exact Int.le_refl 0
  | some x => exact h x (List.mem_of_getElem? e)
theorem tY.gA (h : tY n w q b R) : Gd n q (tZ b w (nU n R)) := by
  refine ⟨h.g.seats, by unfold tZ; rw [List.length_set]; exact h.g.len, fun x hx => ?_⟩
  have := h.C0
  have := N6 h.g.nn w
  unfold tZ at hx
  rcases List.mem_or_eq_of_mem_set hx with hx | hx
  · exact h.g.nn x hx
  · omega
theorem tY.gB (h : tY n w q b R) : Gd n q (rK n b w R) := by
  refine ⟨h.g.seats, by unfold rK; rw [List.length_set, List.length_map]; exact h.g.len, fun x hx => ?_⟩
  have := h.nR
  have := N6 h.g.nn w
  unfold rK at hx
  rcases List.mem_or_eq_of_mem_set hx with hx | hx
  · obtain ⟨y, hy, rfl⟩ := List.mem_map.mp hx
    have := h.g.nn y hy
    omega
  · omega
theorem tY.ml (h : tY n w q b R) : Ml n q (tZ b w (nU n R)) q (rK n b w R) := by
  have h2 := h.h2
  have hl := h.g.len
  have hw := h.hw
  refine ⟨h.gA, h.gB, Ri h.gA h.gB fun i hi => ?_, ?_⟩
  · rw [h.atA, h.atB hi]
    by_cases e : i = w
    · rw [if_pos e, if_pos e, tY.C1, ← Int.add_assoc, Int.add_mul_emod_self_left]
    · rw [if_neg e, if_neg e, ← Int.add_assoc, Int.add_mul_emod_self_left]
  · have e1 := List.getElem?_eq_getElem (show w < b.length by omega)
    have e2 := List.getElem?_eq_getElem (show w < (b.map fun x => x + (n : Int) * R).length by rw [List.length_map]; omega)
    unfold tZ rK
    rw [sum_set b w _ (by omega), sum_set _ w _ (by rw [List.length_map]; omega), getD_at e1, List.getElem_map, Ht (f := fun x : Int => x) (g := fun _ => (n : Int) * R), List.map_id', rM, h.C2]
    have e5 : ((b.length : Nat) : Int) = (n : Int) := by omega
    generalize b[w] = bw at *
    rw [show ((b.length : Nat) : Int) * ((n : Int) * R) = (n : Int) * ((n : Int) * R) by rw [e5]]
    omega
theorem tY.step (h : tY n w q b R) {i : Nat} (hi : i < n) : (iY (tZ b w (nU n R)) (rK n b w R)).getD i 0 = if i = w then nU n R else -((n : Int) * R) := by
  rw [nO h.gA.len h.gB.len hi, h.atA, h.atB hi]
  split <;> omega
theorem tY.meet (h : tY n w q b R) {i j : Nat} (hi : i < n) (hj : j < n) (hij : i ≠ j) : (((q.getD j 0 : Nat) : Int) - ((q.getD i 0 : Nat) : Int) + (iY (tZ b w (nU n R)) (rK n b w R)).getD j 0 - (iY (tZ b w (nU n R)) (rK n b w R)).getD i 0) / (n : Int) - (((q.getD j 0 : Nat) : Int) - ((q.getD i 0 : Nat) : Int)) / (n : Int) = if i = w then -((n : Int) * R) else if j = w then (n : Int) * R else 0 := by
  have h2 := h.h2
  have hn : (n : Int) ≠ 0 := by omega
  rw [h.step hi, h.step hj]
  generalize ((q.getD j 0 : Nat) : Int) - ((q.getD i 0 : Nat) : Int) = X
  by_cases e : i = w
  · rw [if_pos e, if_pos e, if_neg (fun z => hij (e.trans z.symm)), show X + -((n : Int) * R) - nU n R = X + (n : Int) * (-((n : Int) * R)) by rw [h.C2, Int.mul_neg]; omega, Int.add_mul_ediv_left _ _ hn]
    omega
  · rw [if_neg e, if_neg e]
    by_cases e2 : j = w
    · rw [if_pos e2, if_pos e2, show X + nU n R - -((n : Int) * R) = X + (n : Int) * ((n : Int) * R) by rw [h.C2]; omega, Int.add_mul_ediv_left _ _ hn]
      omega
    · rw [if_neg e2, if_neg e2, show X + -((n : Int) * R) - -((n : Int) * R) = X by omega]
      omega
theorem tY.past (h : tY n w q b R) : tX n w q (tZ b w (nU n R)) q (rK n b w R) := by
  have m := h.ml
  have hst := fun {i : Nat} (hi : i < n) => nO m.g1.len m.g2.len hi
  have key : ∀ i j, i < n → j < n → i ≠ j → gg n q (tZ b w (nU n R)) i j - gg n q (rK n b w R) i j = if i = w then -((n : Int) * R) else if j = w then (n : Int) * R else 0 := fun i j hi hj hij => by
    have e1 := Es m.g1 m.g2 m.kept hi hj
    have e2 := h.meet hi hj hij
    rw [hst hi, hst hj] at e2
    omega
  have := h.nR
  refine ⟨m, fun i j hi hj hin hjn hij => ?_, fun j hj hjn => ?_⟩
  · have := key i j hin hjn hij
    rw [if_neg hi, if_neg hj] at this
    omega
  · have := key w j h.hw hjn (fun e => hj e.symm)
    rw [if_pos rfl] at this
    omega
theorem tY.BK (h : tY n w q b R) {p : Nat × Nat} (hp : p ∈ prs n) : BK n q (iY (tZ b w (nU n R)) (rK n b w R)) p.1 p.2 = if p.1 = w ∨ p.2 = w then (n : Int) * R else 0 := by
  obtain ⟨h1, h3⟩ := Eo.mp hp
  have := h.nR
  unfold DM.BK
  rw [h.meet (show p.1 < n by omega) h3 (by omega)]
  by_cases e : p.1 = w
  · rw [if_pos e, if_pos (.inl e)]
    unfold pF
    split <;> omega
  · rw [if_neg e]
    by_cases e2 : p.2 = w
    · rw [if_pos e2, if_pos (.inr e2)]
      unfold pF
      split <;> omega
    · rw [if_neg e2, if_neg (by omega)]
      rfl
def uf (n w : Nat) : List (Nat × Nat) := ((List.range n).filter fun m => !(m == w)).map fun m => (if m < w then m else w, if w < m then m else w)
def N7 (p q : Nat × Nat) : Bool := decide (p.1 < q.1 ∨ (p.1 = q.1 ∧ p.2 < q.2))
theorem swo2 : SrtO.Swo N7 := by
  refine ⟨fun x y hh => ?_, fun x y z h1 h2 => ?_⟩
  · have a := of_decide_eq_true (p := x.1 < y.1 ∨ (x.1 = y.1 ∧ x.2 < y.2)) hh
    exact decide_eq_false (p := y.1 < x.1 ∨ (y.1 = x.1 ∧ y.2 < x.2)) (by omega)
  · have a := of_decide_eq_false (p := y.1 < x.1 ∨ (y.1 = x.1 ∧ y.2 < x.2)) h1
    have b := of_decide_eq_false (p := z.1 < y.1 ∨ (z.1 = y.1 ∧ z.2 < y.2)) h2
    exact decide_eq_false (p := z.1 < x.1 ∨ (z.1 = x.1 ∧ z.2 < x.2)) (by omega)
theorem u9 (n : Nat) : (List.range n).Pairwise (fun a b => a < b) := List.pairwise_lt_range
theorem Zw (n : Nat) : (prs n).Pairwise (fun p q => N7 p q = true) := by
  unfold prs
  rw [List.pairwise_flatMap]
  refine ⟨fun i hi => ?_, ?_⟩
  · refine List.pairwise_map.mpr ((u9 _).imp fun {a b} hab => ?_)
    exact decide_eq_true (p := i < i ∨ (i = i ∧ i + 1 + a < i + 1 + b)) (by omega)
  · refine (u9 n).imp fun {a b} hab x hx y hy => ?_
    obtain ⟨u, _, rfl⟩ := List.mem_map.mp hx
    obtain ⟨v, _, rfl⟩ := List.mem_map.mp hy
    exact decide_eq_true (p := a < b ∨ (a = b ∧ a + 1 + u < b + 1 + v)) (by omega)
theorem Rj {n w : Nat} : (uf n w).Pairwise (fun p q => N7 p q = true) := by
  unfold uf
  refine List.pairwise_map.mpr (List.Pairwise.imp_of_mem (fun {a b} ha hb hab => ?_) ((u9 n).filter _))
  have h1 := (List.mem_filter.mp ha).2
  have h2 := (List.mem_filter.mp hb).2
  have h1 : a ≠ w := by simpa using h1
  have h2 : b ≠ w := by simpa using h2
  refine decide_eq_true (p := (if a < w then a else w) < (if b < w then b else w) ∨ ((if a < w then a else w) = (if b < w then b else w) ∧ (if w < a then a else w) < (if w < b then b else w))) ?_
  split <;> split <;> split <;> split <;> omega
theorem BL {l : List (Nat × Nat)} (h : l.Pairwise (fun p q => N7 p q = true)) : l.Nodup := h.imp fun {a b} hab e => by
  subst e
  have := of_decide_eq_true (p := a.1 < a.1 ∨ (a.1 = a.1 ∧ a.2 < a.2)) hab
  omega
theorem HF {n w : Nat} (hw : w < n) : (prs n).filter (fun p => decide (p.1 = w ∨ p.2 = w)) = uf n w := by
  have a1 := (Zw n).filter (fun p => decide (p.1 = w ∨ p.2 = w))
  have a2 := Rj (n := n) (w := w)
  refine Gk swo2 a2 ((List.perm_ext_iff_of_nodup (BL a1) (BL a2)).mpr fun p => ?_) (a1.imp fun {x y} hxy => swo2.asym x y hxy)
  unfold uf
  rw [List.mem_filter, Eo, List.mem_map]
  simp only [decide_eq_true_eq]
  obtain ⟨i, j⟩ := p
  constructor
  · rintro ⟨⟨h1, h3⟩, h4⟩
    rcases h4 with h4 | h4
    · refine ⟨j, List.mem_filter.mpr ⟨List.mem_range.mpr h3, by simp only at h1 h4; simp; omega⟩, ?_⟩
      simp only at h1 h4 ⊢
      rw [if_neg (by omega), if_pos (by omega), h4]
    · refine ⟨i, List.mem_filter.mpr ⟨List.mem_range.mpr (by simp only at h1 h3; omega), by simp only at h1 h4; simp; omega⟩, ?_⟩
      simp only at h1 h4 ⊢
      rw [if_pos (by omega), if_neg (by omega), h4]
  · rintro ⟨m, hm, e⟩
    obtain ⟨h1, h3⟩ := List.mem_filter.mp hm
    have h1 := List.mem_range.mp h1
    have h3 : m ≠ w := by simpa using h3
    have e1 := ((Prod.mk.injEq ..).mp e).1
    have e2 := ((Prod.mk.injEq ..).mp e).2
    simp only at e1 e2 ⊢
    by_cases c : m < w
    · rw [if_pos c] at e1
      rw [if_neg (by omega)] at e2
      omega
    · rw [if_neg c] at e1
      rw [if_pos (by omega)] at e2
      omega
theorem Rk {n w : Nat} (hw : w < n) : (uf n w).length = n - 1 := by
  unfold uf
  rw [List.length_map]
  have h1 := List.length_eq_countP_add_countP (fun m => !(m == w)) (l := List.range n)
  rw [List.length_range] at h1
  rw [← List.countP_eq_length_filter]
  have h3 : (List.range n).countP (fun a => decide ¬ (!(a == w)) = true) = 1 := by
    have : (List.range n).countP (fun a => decide ¬ (!(a == w)) = true) = (List.range n).count w := by
      unfold List.count
      apply List.countP_congr
      intro a _
      simp
    rw [this, List.nodup_range.count, if_pos (List.mem_range.mpr hw)]
  omega
theorem tY.dist (h : tY n w q b R) : dist n q (tZ b w (nU n R)) q (rK n b w R) = nU n R := by
  have m := h.ml
  have hn := h.nR
  have h2 := h.h2
  have e0 : DM.dist n q (tZ b w (nU n R)) q (rK n b w R) = ((prs n).map fun p => if p.1 = w ∨ p.2 = w then (n : Int) * R else 0).sum := Lp fun p hp => by
    rw [← Ws m hp, h.BK hp]
  have e1 := Hw (f := fun p : Nat × Nat => if p.1 = w ∨ p.2 = w then (n : Int) * R else 0) (l := prs n) fun p _ => by
    show 0 ≤ if p.1 = w ∨ p.2 = w then (n : Int) * R else 0
    split <;> omega
  rw [e0, ← e1]
  have e2 : ((prs n).filter fun p => decide (0 < if p.1 = w ∨ p.2 = w then (n : Int) * R else 0)) = uf n w := by
    rw [← HF h.hw]
    apply List.filter_congr
    intro p _
    by_cases c : p.1 = w ∨ p.2 = w
    · rw [if_pos c, decide_eq_true c]
      exact decide_eq_true (by omega)
    · rw [if_neg c, decide_eq_false c]
      rfl
  rw [e2]
  have e3 : ((uf n w).map fun p => if p.1 = w ∨ p.2 = w then (n : Int) * R else 0) = (uf n w).map fun _ => (n : Int) * R := by
    apply List.map_congr_left
    intro p hp
    rw [← HF h.hw] at hp
    rw [if_pos (by simpa using (List.mem_filter.mp hp).2)]
  rw [e3, rM, Rk h.hw, h.C2]
  have : ((n - 1 : Nat) : Int) = (n : Int) - 1 := by omega
  rw [this, Int.sub_mul, Int.one_mul]
end
end DM
end
section
namespace DM
open PySem PySem.Spec PyProof.Rows L2
structure Bas (x : Str) (B newId initId : String) (bm : List Value) : Prop where
  F : ExcBaseFacts B newId initId bm
  S : StoreFacts B bm "object.__setattr__" "object"
  ty : typeOf (.type B) = pure (.type "type")
  boot : bootBuiltins x = some (.type B)
  nn : x ≠ "__name__"
  nd : (x == ("__debug__" : Str)) = false
  stub : Manifest.isStub B = false
  hin : PySem.W.handedIn (.builtin initId) = true
theorem aeB : typeOf (.type "ValueError") = pure (.type "type") := by kernel_rfl
theorem aeC : Bas "ValueError" "ValueError" "ValueError.__new__" "ValueError.__init__" [.type "ValueError", .type "Exception", .type "BaseException", .type "object"] :=
  ⟨F.excBase_ValueError, F.store_ValueError, aeB, by decide +kernel, by decide, by decide, by decide +kernel, by decide +kernel⟩
structure Own (K : PySem.W.Frag) (C fI : Addr) (f cn : Str) (B newId initId : String) (bm : List Value) : Prop where
  cls : ∃ q N bs sn sub ab col dd k0 k1 k2 k3 k5, K.lookup C = some (excClassObj cn q C N bs bm true sn sub ab col dd k0 k1 k2 k3 k5 newId)
  sa : PySem.W.findIn K (.ref C) "__setattr__" = some (some (.builtin "object.__setattr__"))
  ga : PySem.W.findIn K (.ref C) "__getattribute__" = some (some (.builtin "BaseException.__getattribute__"))
  gg : PySem.W.findIn K (.ref C) "__getattr__" = some none
  noF : PySem.W.findIn K (.ref C) f = some none
  iC : PySem.W.findIn K (.ref C) "__init__" = some (some (.ref fI))
  tI : PySem.W.typeIn K (.ref fI) = some (.type "function")
  kC : PySem.W.keepIn K (.ref C) = true
  exC : PySem.W.subIn K (.ref C) (.type "BaseException") = some true
  tyC : PySem.W.typeIn K (.ref C) = some (.type "type")
  hdC : PySem.W.hasDictIn K C = true
  cC : PySem.W.findIn K (.ref C) "__class__" = some (some (.builtin "object.__class__"))
  ini : PySem.W.findCls K (.type B) (.type "type") "__init__" = some (.val (.builtin initId))
section
open PySem.W PySem.Calls PySem.HandSPX Builtin Builtin.ObjectAttr
variable {prog : Program} {w : World} {A : Around} {E : Value → Shared → Prop} {R : Result → Shared → Prop} {hp : Heap} {g : Array GenState} {d : Drawn} {t : Nat} {os : OsState}
theorem Zx {K : W.Frag} {name : Str} {tk : Tok} {v : Value} {x C : Addr} {fv : Array Value} {cd : ClassData} (hm1 : cd.mro.isEmpty = false) (hm2 : cd.mro.contains (.type "object") = true) (hm3 : ∀ self, refuseLoop self "__setattr__" cd.mro = pure ())
    (Y : K.In hp) (gx : hp.get? x = some { cls := .ref C, data := .fields fv }) (hcd : W.clsIn K C = some cd) (hh : cd.hasDict = true) (ha : W.findIn K (.ref C) name = some none)
    (fin : ∀ h' tk' dx, (∀ b o, b ≠ x → hp.get? b = some o → h'.get? b = some o) → hp.objs.size ≤ dx → dx ≠ x → h'.get? x = some { cls := .ref C, dict := some dx, data := .fields fv } →
      h'.Ns1 dx (fun y => if y = name then some v else none) → R (.ok (.ret .none)) ⟨h', g, d, tk', os⟩) : codeAny (model prog w) A (.call (.builtin "object.__setattr__") ⟨[.ref x, .str name tk, v], []⟩) R ⟨hp, g, d, t, os⟩ := by
  have J : W.InstAt hp x { cls := .ref C, data := .fields fv } C none := ⟨gx, rfl, rfl, trivial⟩
  have SO := F.store_object
  have nx : x ≠ hp.objs.size := Nat.ne_of_lt (Heap.lt_size gx)
  have sub : W.Looks (model prog w) hp (isInstance (.ref x) (.type "object")) true := J.type.andThen (W.looks_mroIn Y (by unfold W.mroIn; rw [hcd, Option.bind_some, hm1, if_neg Bool.false_ne_true, hm2]))
  refine codeAny_call_builtin SO.slot.plain SO.entry (@W.check_slot (model prog w) _ _ ⟨hp, g, d, t, os⟩ "object.__setattr__" "object" "__setattr__" (.ref x) [.str name tk, v] [] _ SO.kind SO.split sub (SO.args (.ref x) (.str name tk) v) ?_)
  have lm : W.Looks (model prog w) hp (mroOf (.ref C)) cd.mro := (W.looks_clsIn Y hcd).andThen .now
  have l3 : W.Looks (model prog w) hp (storeTaker? none) none := .now
  have lc : W.Looks (model prog w) hp (classData C) cd := W.looks_clsIn Y hcd
  rw [W.osa_eq, refuse_eq]
  refine wpAny_bind (wpAny_bind (J.type.at (wpAny_bind (lm.at ?_))))
  rw [hm3]
  refine wpAny_pure (wpAny_bind (J.type.at (wpAny_bind ((W.looks_findIn Y ha).at (wpAny_bind (l3.at ?_))))))
  show wpAny _ _ (storeInOwnDict (.ref x) (.ref C) (.str name tk) name v false) _ _ _
  obtain ⟨nm, bs, mro, ns, qn, hd, sn, sb, ab, col, del⟩ := cd
  dsimp only at hh; subst hh
  unfold storeInOwnDict ownDictForStores
  repeat (first | with_reducible refine store_in_new ?_ ?_ | with_reducible refine wpAny_loadPart_at gx ?_ | with_reducible refine lc.at ?_ | wp_step)
  · exact ⟨_, #[], _, (Heap.get?_update_ne _ _ _ _ nx.symm).trans (Heap.get?_push_at rfl rfl), rfl, fun e he => absurd he (by simp), fun _ => rfl⟩
  · intro h' tk' n' hs
    have g1 : (hp.push { cls := .type "dict", data := .dict #[] }).get? x = some { cls := .ref C, data := .fields fv } := Heap.get?_push_of_some _ gx
    refine fin h' tk' hp.objs.size (fun b o hb ho => ?_) (Nat.le_refl _) nx.symm ?_ n'
    · exact (hs.2 b (Nat.ne_of_lt (Heap.lt_size ho))).trans ((Heap.get?_update_ne _ _ _ _ hb).trans (Heap.get?_push_of_some _ ho))
    · exact (hs.2 x nx).trans (Heap.get?_update_self _ g1 rfl)
end
section
variable {X : Cx} {pins : List (Addr × Obj)} {σ : L2.St} {H : Hp} {s : Shared} {a C fI dx : Addr} {f x cn : Str} {y : V} {u : Value} {fs : List (Str × V)} {E : Value → Shared → Prop} {A : Around} {B newId initId : String} {bm : List Value}
theorem Zy {Q : Unit → Shared → Prop} (Bs : Bas x B newId initId bm) (T : Own X.K C fI f cn B newId initId bm) (I : Inv X pins σ H s) (e : H a = some (exo a C none)) (ry : RelV y u)
    (h : ∀ dx s', H dx = none → dx ≠ a → Inv X pins σ (upd (upd H dx (exd dx [(f, y)])) a (exo a C (some dx))) s' → Q () s') : wpAny (model X.prog X.w) A (setAttr (.ref a) f u) Q E s := by
  obtain ⟨q, N, bs, sn, sub, ab, col, dd, k0, k1, k2, k3, k5, hC⟩ := T.cls
  have hcl : PySem.W.clsIn X.K C = some { name := cn, bases := bs, mro := .ref C :: bm, ns := N, qualname := q, hasDict := true, slotNames := sn, subclasses := sub, abstract := ab, collection := col, hasDel := false } := by unfold PySem.W.clsIn; rw [hC]
  obtain ⟨t1, ho⟩ := exo_at I.hok e
  obtain ⟨hp, g, d, t, os⟩ := s
  refine PySem.W.set_plain I.kIn (ox := { cls := .ref C, dict := none, data := .fields #[.ref t1, .none, .none, .none, .bool false, .none] }) (od := none) ⟨ho, rfl, rfl, trivial⟩ T.sa ?_
  refine Zx (cd := { name := cn, bases := bs, mro := .ref C :: bm, ns := N, qualname := q, hasDict := true, slotNames := sn, subclasses := sub, abstract := ab, collection := col, hasDel := false }) rfl (by
    show (Value.ref C :: bm).contains (.type "object") = true
    rw [List.contains_cons, Bs.S.hasOwner, Bool.or_true]) (fun self => by rw [refuseLoop_ref]; exact Bs.S.passes self) I.kIn ho hcl rfl T.noF (fun h' tk' dx k dn dne hx hn => ?_)
  have hnd : H dx = none := I.hok.fresh dn
  have nd : ∀ {b : Addr} {o : Obj}, hp.get? b = some o → b ≠ dx := fun {b o} q => Nat.ne_of_lt (Nat.lt_of_lt_of_le (Heap.lt_size q) dn)
  have na : ∀ {b : Addr}, H b = none → b ≠ a := fun {b} n z => by rw [z, e] at n; cases n
  have un : Un X.fs [] H (upd (upd H dx (exd dx [(f, y)])) a (exo a C (some dx))) hp h' :=
    ⟨fun b o q n _ _ => k b o (na n) q, fun b o q n _ _ => ⟨o.slots, k b o (na n) q⟩, fun b o q n _ => by rw [upd_ne (na n), upd_ne (nd q)]; exact n, fun b o q _ => by
      by_cases hb : b = a
      · exact ⟨_, by rw [hb]; exact hx⟩
      · exact ⟨o, k b o hb q⟩,
     fun b xs q => by rw [upd_ne (at_ne e q exo_tup), upd_ne (ne_of_none q hnd)]; exact q, fun b o v q => by rw [upd_ne (at_ne e q exo_frz), upd_ne (ne_of_none q hnd)]; exact q,
     fun b ps q => ⟨#[], by rw [upd_ne (at_ne e q exo_tbl), upd_ne (ne_of_none q hnd), q]; simp⟩⟩
  refine h dx _ hnd dne (I.un (t' := tk') un fun b o q => ?_)
  by_cases hb : b = a
  · subst hb; rw [upd_same] at q; cases q; exact exo_ok hx
  · rw [upd_ne hb] at q
    by_cases hd : b = dx
    · subst hd; rw [upd_same] at q; cases q; exact exd_ok hn (relO_put (fs := []) ry fun g => True.intro)
    · rw [upd_ne hd] at q
      exact (I.hok b o q).stay (fun c v hc z => k c v (by
          rcases hc with hc | hc
          · rw [hc]; exact hb
          · exact at_ne e hc exo_own) z)
        (fun c hc => by rw [upd_ne (at_ne e hc exo_own), upd_ne (ne_of_none hc hnd)]; exact hc) (fun c xs hc => by rw [upd_ne (at_ne e hc exo_tup), upd_ne (ne_of_none hc hnd)]; exact hc)
theorem Zz {us : List Value} {Q : Value → Shared → Prop} (Bs : Bas x B newId initId bm) (T : Own X.K C fI f cn B newId initId bm) (I : Inv X pins σ H s) (e : H a = some (exo a C none)) (hl : us.length ≤ sizeLine) (h : ∀ s', Inv X pins σ H s' → Q .none s') :
    wpAny (model X.prog X.w) A (call (.builtin initId) (.ref a :: us)) Q E s := by
  obtain ⟨q, N, bs, sn, sub, ab, col, dd, k0, k1, k2, k3, k5, hC⟩ := T.cls
  obtain ⟨t1, ho⟩ := exo_at I.hok e
  obtain ⟨hp, g, d, t, os⟩ := s
  refine wpAny_call (PySem.HandSPX.init_base Bs.F (fun Y => rfl) (I.kIn _ _ hC) ho hl fun h' t2 k hx => ?_)
  have J := I.write (t' := t) (x := a) (e := a) (o := exo a C none) (by rw [e]; exact True.intro) (.inl rfl) k ⟨_, hx⟩ (exo_ok hx)
  have eu : upd H a (exo a C none) = H := by
    funext b
    by_cases hb : b = a
    · rw [hb, upd_same, e]
    · rw [upd_ne hb]
  rw [eu] at J
  exact h _ J
def tBI (C : Addr) (ta : TA) : TE := fun σ H Q => ta σ H fun vs H1 => ∃ (a : Addr) (ws : List V), vs = .ref a :: ws ∧ ws.length ≤ 1000 ∧ H1 a = some (exo a C none) ∧ Q .non H1
def tOs (C : Addr) (f : Str) (to te : TE) : TS := fun D σ H => te σ H fun y H1 => to σ H1 fun x H2 => ∃ a : Addr, x = .ref a ∧ H2 a = some (exo a C none) ∧ ∀ dx, H2 dx = none → dx ≠ a → D.nx σ (upd (upd H2 dx (exd dx [(f, y)])) a (exo a C (some dx)))
variable {o e : Expr} {es : List Expr} {to te : TE} {ta : TA} {p p' p1 p2 pos : Pos}
def abh (x : Str) (e : Expr) (es : List Expr) (p1 p2 pos : Pos) : Prop := ∀ env : Env, ∃ pl : Sem Bool, eval (.Call (.Attribute (.Name x p1) "__init__" p2) (e :: es) [] pos) env = (do
    let ov ← eval (.Name x p1) env
    standAt p2.atName
    let (f, first) ← holding [ov] (getMethod ov "__init__" pl)
    callWith pos f first (backTo pos (starEach (e :: es) env)) (backToKw pos (keywordEach [] env)))
theorem ZC (Bs : Bas x B newId initId bm) (T : Own X.K C fI f cn B newId initId bm) (hg : Gl X x) (hm : X.mg x = none) (ha : PA X (e :: es) ta) (ev : abh x e es p1 p2 pos)
    (he : starEach (e :: es) X.env = (false, eval e X.env) :: starEach es X.env) (hpl : (backTo pos (starEach es X.env)).any (·.1) = false) :
    PE X (.Call (.Attribute (.Name x p1) "__init__" p2) (e :: es) [] pos) (tBI C ta) := by
  obtain ⟨pl, hc⟩ := ev X.env
  refine ⟨fun pins s σ H Q I h => PySem.W.methodCall_KW (ld_blt I hg hm Bs.boot ?_ Bs.nn Bs.nd) hc⟩
  obtain ⟨m, fr⟩ := I.fr
  refine PySem.W.method_type fr I.ok.mod.kin Bs.ty Bs.stub T.ini Bs.hin ?_
  show wpAny _ _ (callWith pos (Value.builtin initId) [] (backTo pos (starEach (e :: es) X.env)) []) _ _ _
  refine PyProof.Rows.callWith_method1 (thn (ha.run pos pins _ σ H _ (I.tok _) h) fun us s1 hh => ?_) he hpl
  obtain ⟨vs, H1, I1, r1, a, ws, ev, hl, ea, q⟩ := hh
  subst ev
  cases r1 with
  | @cons _ u0 _ ur ra rw' =>
    obtain rfl : u0 = Value.ref a := ra
    exact Zz Bs T I1 ea (by rw [← Paired.length rw', sizeLine_eq]; omega) fun s' J => ⟨.non, H1, J, rfl, q⟩
theorem aeD (Bs : Bas x B newId initId bm) (T : Own X.K C fI f cn B newId initId bm) (ho : PE X o to) (he : PE X e te) (hs : swapsWith e (some (.Attribute o f p')) pos.line X.env = pure false) : PS X (.Assign [.Attribute o f p'] e pos) (tOs C f to te) := by
  refine ⟨fun pins s σ H D I h => plainObj_wpAny_Assign_Attribute (thn (he.run pins s σ H _ I h) fun v s1 h1 => ?_) hs⟩
  obtain ⟨y, H1, I1, r1, q1⟩ := h1
  refine thn (ho.run pins s1 σ H1 _ I1 q1) fun u s2 h2 => ?_
  obtain ⟨x, H2, I2, r2, a, ex, ea, q⟩ := h2
  subst ex
  obtain rfl : u = Value.ref a := r2
  exact Zy Bs T I2 ea r1 fun dx s' n ne J => ⟨σ, _, J, q dx n ne⟩
end
end DM
end
section
namespace DM
open PySem PySem.Spec PyProof.Rows L2
def N8 (C : Addr) (f : Str) : Sp := fun vs H Q _ => ∃ (a : Addr) (y : V), vs = [.ref a, y] ∧ H a = some (exo a C none) ∧ ∀ dx, H dx = none → dx ≠ a → Q .non (upd (upd H dx (exd dx [(f, y)])) a (exo a C (some dx)))
def agv (x f : Str) (p1 p2 p3 p4 p5 p6 p7 p8 p9 p10 : Pos) : List Stmt :=
  [.Expr (.Call (.Attribute (.Name x p1) "__init__" p2) [.Name "self" p3, .Name f p4] [] p5) p6, .Assign [.Attribute (.Name "self" p7) f p8] (.Name f p9) p10]
structure acM (st : Stmt) (x f : Str) : Prop where
  names : (defScope st).names = [(Str.ofString "self", NameKind.local), (f, NameKind.local), (x, NameKind.globalImplicit)]
  body : ∃ p1 p2 p3 p4 p5 p6 p7 p8 p9 p10 : Pos, defBody st = agv x f p1 p2 p3 p4 p5 p6 p7 p8 p9 p10 ∧ abh x (.Name "self" p3) [.Name f p4] p1 p2 p5
  nf : (f == ("self" : Str)) = false
  nx : (x == ("self" : Str)) = false
  nxf : (x == f) = false
  nd : (f == ("__debug__" : Str)) = false
  nc : (f == ("__classdict__" : Str)) = false
section
variable {P : Program} {w : World} {K : PySem.W.Frag} {mg : Str → Option Value} {base : Heap} {C fI : Addr} {f x cn qual : Str} {B newId initId : String} {bm : List Value} {st : Stmt} {fd : FuncData}
theorem acN (Bs : Bas x B newId initId bm) (T : Own K C fI f cn B newId initId bm) (Fn : Fun K "__init__" qual st fI fd) (sc : FnScope ["self", f] ["self", f] (defScope st)) (I : acM st x f) (hm : mg x = none) :
    FnOk P w K mg base (L2.CX P w) 1 fI fd ["self", f] (N8 C f) := by
  refine Fn.okX sc (fun vs H Q E h => ?_) fun cdv A outer s H vs Q E hr h => ?_
  · obtain ⟨a, y, rfl, _⟩ := h
    rfl
  · obtain ⟨a, y, rfl, ea, q⟩ := h
    obtain ⟨p1, p2, p3, p4, p5, p6, p7, p8, p9, p10, hb, ev⟩ := I.body
    have lk0 : (defScope st).names.lookup ("self" : Str) = some NameKind.local := by rw [I.names]; rfl
    have lk1 : (defScope st).names.lookup f = some NameKind.local := by
      rw [I.names]
      simp [List.lookup, I.nf]
    have lk2 : (defScope st).names.lookup x = some NameKind.globalImplicit := by
      rw [I.names]
      simp [List.lookup, I.nx, I.nxf]
    rw [hb]
    refine ⟨tSeq (tDrop (tBI C (tCons (tVar 0) (tCons (tVar 1) tNil)))) (tSeq (tOs C f (tVar 0) (tVar 1)) tNext), ?_, ?_⟩
    · have v0 : ∀ p : Pos, PE (cxOf (L2.CX P w) P w K mg base ["self", f] qual (defScope st) fI cdv A outer s H E) (.Name "self" p) (tVar 0) := fun p => pe_var rfl (.inl lk0) (by decide) (by decide)
      have v1 : ∀ p : Pos, PE (cxOf (L2.CX P w) P w K mg base ["self", f] qual (defScope st) fI cdv A outer s H E) (.Name f p) (tVar 1) := fun p => pe_var rfl (.inl lk1) I.nd I.nc
      have e1 : PE (cxOf (L2.CX P w) P w K mg base ["self", f] qual (defScope st) fI cdv A outer s H E) (.Call (.Attribute (.Name x p1) "__init__" p2) [.Name "self" p3, .Name f p4] [] p5) (tBI C (tCons (tVar 0) (tCons (tVar 1) tNil))) :=
        ZC Bs T lk2 hm (pa_cons (v0 p3) (pa_cons (v1 p4) pa_nil)) ev rfl rfl
      exact pss_cons (ps_expr e1 rfl) (pss_cons (aeD Bs T (v0 p7) (v1 p9) rfl) pss_nil)
    · exact ⟨_, rfl, _, rfl, a, [y], rfl, by simp, ea, _, rfl, _, rfl, a, rfl, ea, q⟩
end
end DM
end
section
namespace DM
open PySem PySem.Spec PyProof.Rows L2
def acO (C : Addr) (f : Str) (ta : TA) : L2.St → Hp → XK → Prop := fun σ H Q => ta σ H fun vs H1 => ∃ v, vs = [v] ∧ ∀ d, H1 d = none → Q (.ref C) (some d) (upd H1 d (.xd [(f, v)]))
section
variable {X : Cx} {C fI : Addr} {f x y cn : Str} {B newId initId : String} {bm : List Value} {e : Expr} {ta : TA} {p pos : Pos} {k : Nat} {fd : FuncData}
theorem acP (Bs : Bas x B newId initId bm) (T : Own X.K C fI f cn B newId initId bm) (F1 : FnOk X.prog X.w X.K X.mg X.base (L2.CX X.prog X.w) k fI fd ["self", f] (N8 C f)) (hr : Room (k + 1) X.A) (hb : Binds X.K fd ["self", f] []) (hg : Gl X y) (hm : X.mg y = some (.ref C)) (ha : PA X [e] ta)
    (hdb : (y == ("__debug__" : Str)) = false) (he : starEach (e :: []) X.env = (false, eval e X.env) :: starEach [] X.env := by rfl) (hpl : (backTo pos (starEach [] X.env)).any (·.1) = false := by rfl) :
    PMk X (.Call (.Name y p) [e] [] pos) (acO C f ta) := by
  intro pins s σ H Q I h
  obtain ⟨q, N, bs, sn, sub, ab, col, dd, k0, k1, k2, k3, k5, hC⟩ := T.cls
  refine wpAny_Call_Name_kw (ld_glob I hg hm ?_ hdb)
  refine PySem.W.callWith_K (h₀ := X.base) I.ok.mod.kin T.kC (thn (ha.run pos pins s σ H _ I h) fun us s1 hh => ?_) he hpl
  obtain ⟨vs, H1, I1, r1, v, ev, q1⟩ := hh
  subst ev
  refine ⟨I1.kIn, ?_⟩
  cases r1 with
  | @cons _ u _ ur ra rr =>
  cases rr
  show wpAny _ _ (call (.ref C) [u]) _ _ _
  obtain ⟨hp, g, dr, tk, os⟩ := s1
  have hsz : hp.objs.size ≤ hp.objs.size + 1 := Nat.le_succ _
  have hn : H1 (hp.objs.size + 1) = none := I1.hok.fresh hsz
  have kk : ∀ b o, hp.get? b = some o → ((hp.push (PySem.W.kdv_tup [u])).push (PySem.HandSPX.excO C hp.objs.size)).get? b = some o := fun b o z => Heap.get?_push_of_some _ (Heap.get?_push_of_some _ z)
  have hget : ((hp.push (PySem.W.kdv_tup [u])).push (PySem.HandSPX.excO C hp.objs.size)).get? (hp.objs.size + 1) = some (PySem.HandSPX.excO C hp.objs.size) := by heap_get
  have I2 : Inv X pins σ (upd H1 (hp.objs.size + 1) (exo (hp.objs.size + 1) C none)) ⟨(hp.push (PySem.W.kdv_tup [u])).push (PySem.HandSPX.excO C hp.objs.size), g, dr, tk, os⟩ :=
    I1.laid (t' := tk) (a := hp.objs.size + 1) (o := exo (hp.objs.size + 1) C none) (h' := (hp.push (PySem.W.kdv_tup [u])).push (PySem.HandSPX.excO C hp.objs.size)) kk hsz (exo_ok hget)
  have r2 : Vals [V.ref (hp.objs.size + 1), v] [Value.ref (hp.objs.size + 1), u] := .cons rfl (.cons ra .nil)
  let a := hp.objs.size + 1
  have hq : N8 C f [V.ref a, v] (upd H1 a (exo a C none)) (fun v' H2 => v' = .non ∧ ∃ d, H1 d = none ∧ d ≠ a ∧ H2 = upd (upd (upd H1 a (exo a C none)) d (exd d [(f, v)])) a (exo a C (some d))) (fun _ _ _ => False) :=
    ⟨a, v, rfl, upd_same, fun dx n ne => ⟨rfl, dx, by rw [upd_ne ne] at n; exact n, ne, rfl⟩⟩
  refine wpAny_call (PySem.HandSPX.call_own Bs.F (fun Y => rfl) (I1.kIn _ _ hC) (PySem.W.looks_findIn I1.kIn T.iC) (fun self => PySem.W.bind_fn I1.kIn self T.tI) (by rw [sizeLine_eq]; simp)
    (codeAny_mono (F1.run _ X.stack _ _ ⟨[Value.ref (hp.objs.size + 1), u], []⟩ [Value.ref (hp.objs.size + 1), u] _ _ (fun _ _ _ => False) (hr.make C [u] []) (I2.env0.make C [u] []) (hb _ [Value.ref (hp.objs.size + 1), u] I2.kIn rfl) r2 hq) fun r s' hq' => ?_))
  cases r with
  | error er => exact passL pins σ _ _ er s' I2 hq'
  | ok fl =>
    cases fl with
    | ret u' =>
      obtain ⟨v', H2, os2, bare2, un2, hok2, rv, ev, d, hd1, hda, eH⟩ := hq'
      subst ev
      obtain ⟨h2, g2, d2, t2, os'⟩ := s'
      have ea : H2 a = some (exo a C (some d)) := by rw [eH, upd_same]
      have ed : H2 d = some (exd d [(f, v)]) := by rw [eH, upd_ne hda, upd_same]
      have eU : upd (del H2 a) d (.xd [(f, v)]) = upd H1 d (.xd [(f, v)]) := by
        funext b
        by_cases hb : b = d
        · rw [hb, upd_same, upd_same]
        · rw [upd_ne hb, upd_ne hb]
          by_cases hba : b = a
          · rw [hba, del_same]; exact hn.symm
          · rw [del_ne hba, eH, upd_ne hba, upd_ne hb, upd_ne hba]
      have q2 := q1 d hd1
      rw [← eU] at q2
      exact ⟨rv, mk_end (raises_own T.exC T.tyC) I1 hsz kk un2 hok2 os2 bare2 ea ed hd1 q2⟩
    | next => exact False.elim hq'
    | brk => exact False.elim hq'
    | cont => exact False.elim hq'
end
def fM (K : PySem.W.Frag) : jC := fun x cls d F _ => cls = .ref (JD K x.jT) ∧ ∃ dd u a, d = some dd ∧ F dd = some (.xd [(Ar x.jT, u)]) ∧ x.arg = some a ∧ Dq K F a u
def pZ (jT : Nat) (f : aq → R Val) (ρ : aq) : R Fl := (aM f ρ).bind fun a ρ1 => match a with
  | .en (.fr d) => .exc ⟨jT, some d⟩ ρ1
  | _ => .bad
def tRaise (C : Addr) (f : Str) (W : WX) (ta : TA) : TS := fun _ σ H => acO C f ta σ H fun cls d H' => W cls d σ H'
theorem HJ {C : Cs} {W : WX} {te : TE} {f : aq → R Val} {jT : Nat} (h : Impl C (ZW (fM C.K) W) te f) : fK C (ZW (fM C.K) W) (tRaise (JD C.K jT) (Ar jT) W (tCons te tNil)) (pZ jT f) := by
  intro o F H σ ρ D S q
  unfold pZ at q
  rw [aH] at q
  refine Cq h o F H σ ρ [] _ S (aG q (fun a ρ1 h1 F1 H1 v S1 => ?_) fun x ρ' h F' H' s => h F' H' σ s)
  cases a with
  | bor i => exact h1.elim
  | en e =>
    cases e with
    | fr d =>
      refine ⟨v, rfl, fun dd hdd => ?_⟩
      have rv : Dq C.K F1 d v := S1.look (j := 0) (v := v) (e := .fr d) rfl rfl
      have g := Grow.obj S1.sub (o := .xd [(Ar jT, v)]) hdd
      exact h1 (upd F1 dd (.xd [(Ar jT, v)])) (upd H1 dd (.xd [(Ar jT, v)])) σ (S1.drop.grow g) _ _ ⟨rfl, dd, v, d, rfl, upd_same, rfl, Dq.mono g.f _ _ rv⟩
    | ol _ => exact h1.elim
    | od _ _ => exact h1.elim
    | on _ _ => exact h1.elim
    | d8 _ => exact h1.elim
    | ex _ => exact h1.elim
    | pA _ => exact h1.elim
structure Cls (M : Wd) (jT : Nat) (B : String) : Prop where
  ex : ∃ (C fI : Addr) (x : Str) (newId initId qual : String) (bm : List Value) (st : Stmt) (fd : FuncData), M.mg (Mz jT) = some (.ref C) ∧ C = JD M.K jT ∧ Bas x B newId initId bm ∧ Own M.K C fI (Ar jT) (Mz jT) B newId initId bm ∧ Fun M.K "__init__" (Str.ofString qual) st fI fd ∧
    FnScope ["self", Ar jT] ["self", Ar jT] (defScope st) ∧ acM st x (Ar jT) ∧ M.mg x = none ∧ Binds M.K fd ["self", Ar jT] []
section
variable {M : Wd} {X : Cx} {C : Cs} {W : WX} {k : Nat} {N : List Str} {nm : List (Str × NameKind)} {fb : Str → Bool} {e : Expr} {f : aq → R Val} {pos p pos' : Pos} {y : Str} {jT : Nat} {B : String}
theorem JS.raise (G : Ctx M X C W (k + 2) N nm fb) (hc : Cls M jT B) (hy : y = Mz jT) (hg : zU nm y = true) (h : JE (fM C.K) X C W e f)
    (he : starEach (e :: []) X.env = (false, eval e X.env) :: starEach [] X.env := by rfl) (hpl : (backTo pos (starEach [] X.env)).any (·.1) = false := by rfl) : JS (fM C.K) X C W (.Raise (some (.Call (.Name y p) [e] [] pos)) none pos') (pZ jT f) := by
  subst hy
  obtain ⟨Cc, fI, x, newId, initId, qual, bm, st, fd, gm, eC, Bs, T, Fn, sc, It, mx, bd⟩ := hc.ex
  obtain ⟨g1, g2, _⟩ := eV G hg
  obtain ⟨t, t1, t2⟩ := h
  have hK : M.K = C.K := by rw [← G.CK, G.hK]
  subst eC
  have F1 : FnOk M.P M.w M.K M.mg M.base (L2.CX M.P M.w) 1 fI fd ["self", Ar jT] (N8 (JD M.K jT) (Ar jT)) := acN Bs T Fn sc It mx
  have P1 : PMk X (.Call (.Name (Mz jT) p) [e] [] pos) (acO (JD M.K jT) (Ar jT) (tCons t tNil)) :=
    acP Bs (by rw [G.CK]; exact T) (by rw [G.hP, G.hw, G.CK, G.hmg, G.hbase]; exact F1) (G.room.mono (by omega)) (by rw [G.CK]; exact bd) g1 (by rw [G.hmg]; exact gm) (pa_cons t1 pa_nil he) g2 he hpl
  have P2 := ps_raise (pos := pos') G.calm G.tk P1
  rw [hK] at P2
  exact ⟨_, P2, HJ t2⟩
end
end DM
end
section
namespace DM
open PySem PySem.Spec PySem.Calls PyProof.Rows PySem.W
section
variable {M : Model} {A : Around} {E : Value → Shared → Prop} {s : Shared} {K : Frag}
end
end DM
end
section
namespace DM
open PySem PySem.Spec PyProof.Rows L2
structure Oa (X : Cx) : Prop where
  hs : X.stack = X.env :: X.outer
  hf : X.env.frame = some X.env.locals
  hex : X.ex = []
section
variable {X : Cx} {C : Cs} {W : WX} {t : Expr} {n c : Str} {i j : Nat} {body : List Stmt} {pa pc pn2 pos pos' : Pos} {f : aq → R Fl} {ajA : List Nat}
end
end DM
end
section
namespace DM
open PySem PySem.Spec PyProof.Rows L2
section
variable {K : PySem.W.Frag} {C fI : Addr} {f cn x : Str} {B newId initId : String} {bm : List Value}
theorem Own.cd (T : Own K C fI f cn B newId initId bm) : ∃ cd : ClassData, PySem.W.clsIn K C = some cd ∧ cd.mro = .ref C :: bm ∧ cd.name = cn := by
  obtain ⟨q, N, bs, sn, sub, ab, col, dd, k0, k1, k2, k3, k5, hC⟩ := T.cls
  unfold PySem.W.clsIn
  rw [hC]
  exact ⟨_, rfl, rfl, rfl⟩
theorem Own.sub (T : Own K C fI f cn B newId initId bm) (v : Value) : PySem.W.subIn K (.ref C) v = some ((Value.ref C :: bm).contains v) := by
  obtain ⟨cd, h1, h2, _⟩ := T.cd
  show PySem.W.mroIn K C v = _
  unfold PySem.W.mroIn
  rw [h1, Option.bind_some, h2]
  rfl
theorem Own.some (T : Own K C fI f cn B newId initId bm) : (PySem.W.clsIn K C).isSome = true := by
  obtain ⟨cd, h1, _⟩ := T.cd
  rw [h1]; rfl
theorem Own.ne {C' fI' : Addr} {f' cn' : Str} {B' newId' Oc : String} {bm' : List Value} (T : Own K C fI f cn B newId initId bm) (T' : Own K C' fI' f' cn' B' newId' Oc bm') (h : cn ≠ cn') : C ≠ C' := fun z => by
  obtain ⟨cd, h1, _, h2⟩ := T.cd
  obtain ⟨cd', h1', _, h2'⟩ := T'.cd
  rw [z, h1'] at h1
  cases h1
  exact h (h2.symm.trans h2')
end
def Od (c : Nat) : List String := match (S9.getD c ("", "", "")).2.2 with
  | "LookupError" => ["LookupError", "Exception", "BaseException", "object"]
  | "ValueError" => ["ValueError", "Exception", "BaseException", "object"]
  | "RuntimeError" => ["RuntimeError", "Exception", "BaseException", "object"]
  | "OverflowError" => ["OverflowError", "ArithmeticError", "Exception", "BaseException", "object"]
  | _ => []
structure Aa (M : Wd) (jT : Nat) : Prop where
  ex : ∃ (C fI : Addr) (B newId initId : String) (bm : List Value), M.mg (Mz jT) = some (.ref C) ∧ C = JD M.K jT ∧ Own M.K C fI (Ar jT) (Mz jT) B newId initId bm ∧ bm = (Od jT).map Value.type ∧ bm.contains (.type "object") = true
theorem Aa.mg {M : Wd} {jT : Nat} (h : Aa M jT) : M.mg (Mz jT) = some (.ref (JD M.K jT)) := by
  obtain ⟨C, fI, B, newId, initId, bm, h1, h2, _⟩ := h.ex
  rw [h1, h2]
theorem Aa.ty {M : Wd} {jT : Nat} (h : Aa M jT) (T : String) : PySem.W.subIn M.K (.ref (JD M.K jT)) (.type T) = some ((Od jT).contains T) := by
  obtain ⟨C, fI, B, newId, initId, bm, h1, h2, h4, h10, _⟩ := h.ex
  subst h2
  rw [h4.sub, h10]
  congr 1
  rw [List.contains_cons]
  have e1 : (Value.type T == Value.ref (JD M.K jT)) = false := by simp
  rw [e1, Bool.false_or]
  generalize Od jT = l
  induction l with
  | nil => rfl
  | cons a l ih =>
    rw [List.map_cons, List.contains_cons, List.contains_cons, ih]
    congr 1
    by_cases z : T = a
    · subst z; simp
    · have : (T == a) = false := beq_eq_false_iff_ne.mpr z
      rw [this]
      exact beq_eq_false_iff_ne.mpr fun y => z (Value.type.inj y)
theorem Aa.sub {M : Wd} {c c' : Nat} (h : Aa M c) (h' : Aa M c') (hn : c ≠ c' → Mz c ≠ Mz c') : PySem.W.subIn M.K (.ref (JD M.K c)) (.ref (JD M.K c')) = some (c == c') := by
  obtain ⟨C, fI, B, newId, initId, bm, h1, h2, h4, h10, _⟩ := h.ex
  obtain ⟨C', fI', B', newId', Oc, bm', h1', h2', h4', _⟩ := h'.ex
  subst h2 h2'
  rw [h4.sub, h10]
  congr 1
  rw [List.contains_cons]
  have e2 : ((Od c).map Value.type).contains (.ref (JD M.K c')) = false := by
    rw [List.contains_eq_any_beq, List.any_eq_false]
    intro y hy
    obtain ⟨T, _, rfl⟩ := List.mem_map.mp hy
    simp
  rw [e2, Bool.or_false]
  by_cases z : c = c'
  · subst z; simp
  · have : (c == c') = false := beq_eq_false_iff_ne.mpr z
    rw [this]
    exact beq_eq_false_iff_ne.mpr fun y => (h4.ne h4' (hn z)) (Value.ref.inj y).symm
/-! ### isinstance -/
inductive Tgt where
  | own (c : Nat) | blt (T : String)
def Tgt.val (K : PySem.W.Frag) : Tgt → Value
  | .own c => .ref (JD K c)
  | .blt T => .type T
section
variable {M : Wd} {X : Cx} {known : List Nat}
end
end DM
end
section
namespace DM
open PySem PySem.Spec PyProof.Rows L2
/-! ### the field -/
section
variable {M : Wd} {X : Cx} {known : List Nat}
end
/-! ### on text and data at once -/
section
variable {M : Wd} {X : Cx} {C : Cs} {W : WX} {k : Nat} {N : List Str} {nm : List (Str × NameKind)} {fb : Str → Bool} {XR : jC} {known : List Nat} {e : Expr} {es : List Expr} {f : aq → R Val} {pos p pos' : Pos} {x y : Str}
inductive acQ (M : Wd) (nm : List (Str × NameKind)) : List Expr → List Nat → Prop where
  | nil : acQ M nm [] []
  | cons {c : Nat} {p : Pos} {es : List Expr} {cs : List Nat} : Aa M c → zU nm (Mz c) = true → acQ M nm es cs → acQ M nm (.Name (Mz c) p :: es) (c :: cs)
theorem Ctx.tr (G : Ctx M X C W k N nm fb) {pn : List (Addr × Obj)} {xe : Value → Shared → Prop} {W' : WX} (tk : Takes (X.tr pn xe) W') : Ctx M (X.tr pn xe) C W' k N nm fb :=
  ⟨G.hP, G.hw, G.CK, G.hmg, G.hbase, G.hK, G.calm, G.gd, G.room, tk, G.hN, G.nd, G.hnm, G.hkd, G.hfn⟩
end
def aeE (s : Stmt) : Stmt := match s with
  | .ClassDef _ _ _ (b :: _) _ _ _ _ _ _ _ => b
  | _ => s
theorem Wu {K : PySem.W.Frag} {c : Nat} {a : Addr} (h : PySem.W.nsIn K mainGlobals (Mz c) = some (some (.ref a))) : a = JD K c := by
  unfold JD
  rw [h]
theorem acR (K : PySem.W.Frag) : PySem.W.findCls K (.type "ValueError") (.type "type") "__init__" = some (.val (.builtin "ValueError.__init__")) := by kernel_rfl
theorem acS {K : PySem.W.Frag} {C fI : Addr} {f cn : Str} {B newId initId : String} {bm : List Value} {q : Str} {N : Addr} {bs : List Value} {sn : List Str} {sub : List Value} {ab : Bool} {col : Option Bool} {dd : Option Addr} {k0 k1 k2 k3 k5 : Option Value}
    (l : K.lookup C = some (excClassObj cn q C N bs bm true sn sub ab col dd k0 k1 k2 k3 k5 newId)) (hB : bm.contains (.type "BaseException") = true) (sa : PySem.W.findIn K (.ref C) "__setattr__" = some (some (.builtin "object.__setattr__")))
    (ga : PySem.W.findIn K (.ref C) "__getattribute__" = some (some (.builtin "BaseException.__getattribute__"))) (gg : PySem.W.findIn K (.ref C) "__getattr__" = some none) (nf : PySem.W.findIn K (.ref C) f = some none) (iC : PySem.W.findIn K (.ref C) "__init__" = some (some (.ref fI)))
    (tI : PySem.W.typeIn K (.ref fI) = some (.type "function")) (kC : PySem.W.keepIn K (.ref C) = true) (cC : PySem.W.findIn K (.ref C) "__class__" = some (some (.builtin "object.__class__"))) (ini : PySem.W.findCls K (.type B) (.type "type") "__init__" = some (.val (.builtin initId))) :
    Own K C fI f cn B newId initId bm where
  cls := ⟨q, N, bs, sn, sub, ab, col, dd, k0, k1, k2, k3, k5, l⟩
  sa := sa
  ga := ga
  gg := gg
  noF := nf
  iC := iC
  tI := tI
  kC := kC
  exC := by
    show PySem.W.mroIn K C (.type "BaseException") = some true
    unfold PySem.W.mroIn PySem.W.clsIn
    rw [l]
    show some ((Value.ref C :: bm).contains (.type "BaseException")) = some true
    rw [List.contains_cons, hB, Bool.or_true]
  tyC := by
    show (K.lookup C).map (·.cls) = _
    rw [l]; rfl
  hdC := by
    unfold PySem.W.hasDictIn PySem.W.clsIn
    rw [l]; rfl
  cC := cC
  ini := ini
/-! ### a def that may raise -/
theorem vf {XR : jC} {M : Wd} {xn qual : Str} {st : Stmt} {f : Addr} {fd : FuncData} {N ps : List Str} {k : Nat} {nm : List (Str × NameKind)} {L cs : List Nat} {body : aq → R Fl} (fn : Fun M.K xn qual st f fd) (sc : FnScope N ps (defScope st)) (hn : (defScope st).names = nm)
    (h : ∀ (X : Cx) (W : WX), Ctx M X ⟨M.K, L, cs⟩ W k N nm (fun _ => true) → PassesOwn (model X.prog X.w) X.A X.env X.xe → Oa X → JB XR X ⟨M.K, L, cs⟩ W (defBody st) body) :
    mO M.P M.w M.K M.mg M.base (k + 1) f fd ps (mX M.K ps.length L cs XR (aQ N.length body)) := by
  refine ab1 fn sc fun cdv A outer s H E hr hg => ?_
  have G : Ctx M (cxOf (L2.CX M.P M.w) M.P M.w M.K M.mg M.base N qual (defScope st) f cdv A outer s H E) ⟨M.K, L, cs⟩ (fun cls d _ H => E cls d H) k N nm (fun _ => true) :=
    ⟨rfl, rfl, rfl, rfl, rfl, rfl, rfl, hg, hr, takes_of rfl rfl rfl rfl, rfl, sc.nd, hn, sc.kind, fun _ _ => rfl⟩
  exact h _ _ G PassesOwn.leaving ⟨rfl, rfl, rfl⟩
theorem jt {M : Wd} {f : Addr} {fd : FuncData} {ps : List Str} {np j : Nat} {L cs : List Nat} {XR : jC} (h : np = ps.length) : mO M.P M.w M.K M.mg M.base j f fd ps (mX M.K np L cs XR fun _ => .bad) :=
  ⟨fun vs H Q E z => z.1.trans h, fun A outer s H args us vs Q E _ _ _ _ _ z => by
    obtain ⟨_, _, _, _, _, _, _, z⟩ := z
    exact z.elim⟩
end DM
end
section
namespace DM
open PySem PySem.Spec PyProof.Rows L2
/-! ### a slot set aside -/
abbrev aside (F H : Hp) (σ : L2.St) (ρ : aq) (T : Tm) (lk : Nat → Option V) : Og := now F H σ ρ T lk
section
variable {C : Cs} {o : Og} {F H F' H' : Hp} {σ : L2.St} {ρ ρ' : aq} {T T' : Tm} {x : Nat} {e : En} {v : V}
end
/-! ### x[k].m(..) -/
section
variable {C : Cs} {Z : ZX}
end
end DM
end
section
namespace DM
open PySem PySem.Spec PyProof.Rows L2
def Itm.val : Itm → Val
  | .fr d => .en (.fr d)
  | .ol xs => .en (.ol xs)
section
variable {C : Cs} {Z : ZX}
end
/-! ### a call that only reads its arguments -/
def dOf : En → Option D
  | .fr d => some d
  | .ol xs => some (.lst xs)
  | .pA its => some (.lst (its.map Itm.fz))
  | _ => none
theorem Oe {K : PySem.W.Frag} {F H : Hp} (s : Ext F H) : ∀ {its : List Itm} {vs : List V}, its.length = vs.length → (∀ (i : Nat) (x : Itm) (y : V), its[i]? = some x → vs[i]? = some y → RpI K F H x y) → aV K H (its.map Itm.fz) vs
  | [], [], _, _ => .nil
  | [], _ :: _, h, _ => by simp at h
  | _ :: _, [], h, _ => by simp at h
  | x :: its, y :: vs, h, r => by
    refine aV.cons ?_ (Oe s (by simpa using h) fun i x y e1 e2 => r (i + 1) x y (by simpa using e1) (by simpa using e2))
    have h0 := r 0 x y rfl rfl
    cases x with
    | fr d => exact Dq.mono s _ _ h0
    | ol xs =>
      obtain ⟨a, us, rfl, k1, k2⟩ := h0
      show Dq K H (.lst xs) (.ref a)
      simp only [Dq]
      exact ⟨a, us, rfl, k1, aV.mono s _ _ k2⟩
theorem acT {K : PySem.W.Frag} {F H : Hp} {e : En} {v : V} {d : D} (s : Ext F H) (r : Rp K F H e v) (h : dOf e = some d) : Dq K H d v := by
  cases e with
  | fr d' => cases h; exact Dq.mono s _ _ r
  | ol xs =>
    cases h
    obtain ⟨a, vs, rfl, k1, k2⟩ := r
    simp only [Dq]
    exact ⟨a, vs, rfl, k1, aV.mono s _ _ k2⟩
  | pA its =>
    cases h
    obtain ⟨p, vs, rfl, k1, k2, k3, _⟩ := r
    simp only [Dq]
    exact ⟨p, vs, rfl, k1, Oe s k2 k3⟩
  | od _ _ => cases h
  | on _ _ => cases h
  | d8 _ => cases h
  | ex _ => cases h
def Et : List En → Option (List D)
  | [] => some []
  | e :: es => match dOf e, Et es with
    | some d, some ds => some (d :: ds)
    | _, _ => none
def HS : D → Bool
  | .non => true
  | .bl _ => true
  | .int _ => true
  | .str _ => true
  | _ => false
def roR (run : List En → R En) (ρ : aq) : Option (List D) → R Val
  | some ds => match run (ds.map .fr) with
    | .ok (.fr d) _ => if HS d = true then .ok (.en (.fr d)) ρ else .bad
    | _ => .bad
  | none => .bad
def yM (n m : Nat) (perm : List Nat) (run : List En → R En) (fs fk : aq → R (List Val)) (ρ : aq) : R Val := (fs ρ).bind fun as ρ1 => (fk ρ1).bind fun bs ρ2 =>
  if as.length = n ∧ bs.length = m then roR run ρ2 ((looks ρ2 (fX (.en (.fr .non)) perm (as ++ bs))).bind Et) else .bad
theorem ZD {K : PySem.W.Frag} {F F' : Hp} {d : D} {v : V} (h : HS d = true) (r : Dq K F d v) : Dq K F' d v := by
  cases d with
  | non => simpa only [Dq] using r
  | bl b => simpa only [Dq] using r
  | int b => simpa only [Dq] using r
  | str b => simpa only [Dq] using r
  | lst _ => cases h
  | tup _ => cases h
  | dct _ _ => cases h
  | v7 _ _ => cases h
theorem HW : ∀ {es : List En} {ds : List D} {j : Nat} {e : En}, Et es = some ds → es[j]? = some e → ∃ d, ds[j]? = some d ∧ dOf e = some d
  | [], ds, j, e, h, hj => by simp at hj
  | x :: es, ds, j, e, h, hj => by
    unfold Et at h
    cases h1 : dOf x with
    | none => rw [h1] at h; cases h
    | some d =>
      cases h2 : Et es with
      | none => rw [h1, h2] at h; cases h
      | some ds' =>
        rw [h1, h2] at h
        cases h
        cases j with
        | zero => simp at hj; subst hj; exact ⟨d, rfl, h1⟩
        | succ j =>
          obtain ⟨d', k1, k2⟩ := HW (j := j) h2 (by simpa using hj)
          exact ⟨d', by simpa using k1, k2⟩
theorem HX : ∀ {es : List En} {ds : List D}, Et es = some ds → ds.length = es.length
  | [], ds, h => by
    have h' : some [] = some ds := h
    cases h'; rfl
  | x :: es, ds, h => by
    unfold Et at h
    cases h1 : dOf x with
    | none => rw [h1] at h; cases h
    | some d =>
      cases h2 : Et es with
      | none => rw [h1, h2] at h; cases h
      | some ds' =>
        rw [h1, h2] at h
        cases h
        rw [List.length_cons, List.length_cons, HX h2]
section
variable {C : Cs} {XR : jC} {W : WX}
theorem Lq {n m np : Nat} {cs perm : List Nat} {run : List En → R En} {t tk : TA} {fs fk : aq → R (List Val)} (ha : jP C (ZW XR W) t fs) (hk : jP C (ZW XR W) tk fk) (hnp : perm.length = np) (hlt : ∀ i ∈ perm, i < n + m) :
    Impl C (ZW XR W) (xM n m (mX C.K np [] cs XR run) perm (WE W) t tk) (yM n m perm run fs fk) := by
  intro o F H σ ρ T Q S q
  unfold yM at q
  rw [aH] at q
  refine ha o F H σ ρ T _ S (aG q (fun as ρ1 h1 F1 H1 vs hl1 S1 => ?_) fun _ _ h => h)
  rw [aH] at h1
  have Nf : ∀ {F' H' : Hp} {σ' : L2.St} {ρ' : aq}, SM C o F' H' σ' ρ' (stack as vs ++ T) → SM C o F' H' σ' ρ' T := fun S' => S'.emb (fun j => (stack as vs).length + j) (fun j x hx => by rw [List.getElem?_append_right (by omega), Nat.add_sub_cancel_left]; exact hx) fun i j e => by omega
  refine hk o F1 H1 σ ρ1 _ _ S1 (aG h1 (fun bs ρ2 h2 F2 H2 zs hl2 S2 => ?_) fun x ρ' h F' H' s => h F' H' (Nf s))
  have S3 : SM C o F2 H2 σ ρ2 T := Nf (S2.emb (fun j => (stack bs zs).length + j) (fun j x hx => by rw [List.getElem?_append_right (by omega), Nat.add_sub_cancel_left]; exact hx) fun i j e => by omega)
  by_cases hnm : as.length = n ∧ bs.length = m
  · rw [if_pos hnm] at h2
    have hl : (as ++ bs).length = (vs ++ zs).length := by rw [List.length_append, List.length_append, hl1, hl2]
    have hA : (as ++ bs).length = n + m := by rw [List.length_append, hnm.1, hnm.2]
    rw [← List.append_assoc, ← Bm hl1] at S2
    generalize hcs : fX (.en (.fr .non)) perm (as ++ bs) = vals at h2
    cases hlk : (looks ρ2 vals).bind Et with
    | none => rw [hlk] at h2; exact h2.elim
    | some ds =>
      rw [hlk] at h2
      replace h2 : pJ (match run (ds.map .fr) with
        | .ok (.fr d) _ => if HS d = true then R.ok (Val.en (.fr d)) ρ2 else .bad
        | _ => .bad) (fun val ρ' => ∀ F' H' v, SM C o F' H' σ ρ' ((val, v) :: T) → Q v H') (fun x ρ' => ∀ F' H', SM C o F' H' σ ρ' T → ZW XR W x F' H' σ ρ') := h2
      obtain ⟨es, l1, l2⟩ := ji hlk
      have lt1 : ∀ i ∈ perm, i < (as ++ bs).length := fun i hi => by rw [hA]; exact hlt i hi
      have lt2 : ∀ i ∈ perm, i < (vs ++ zs).length := fun i hi => by rw [← hl]; exact lt1 i hi
      have lv : vals.length = perm.length := by rw [← hcs]; exact List.length_map ..
      have lp : (fX V.non perm (vs ++ zs)).length = perm.length := List.length_map ..
      have ld : ds.length = perm.length := by rw [HX l2, qG l1, lv]
      have at1 : ∀ (j : Nat) (d : D) (v : V), ds[j]? = some d → (fX V.non perm (vs ++ zs))[j]? = some v → Dq C.K H2 d v := fun j d v h3 h4 => by
        have hj : j < es.length := by rw [qG l1, lv, ← ld]; exact (List.getElem?_eq_some_iff.mp h3).1
        obtain ⟨d', k1, k2⟩ := HW l2 (List.getElem?_eq_getElem hj)
        rw [h3] at k1
        cases k1
        obtain ⟨a, h5, h6⟩ := uN l1 (List.getElem?_eq_getElem hj)
        rw [← hcs] at h5
        obtain ⟨i, h7, h8⟩ := qH h5 lt1
        obtain ⟨i', h7', h9⟩ := qH h4 lt2
        rw [h7] at h7'
        cases h7'
        have hst := Bl hl h8 h9
        have hst' : (stack (as ++ bs) (vs ++ zs) ++ T)[(as ++ bs).length - 1 - i]? = some (a, v) := by
          rw [List.getElem?_append_left (List.getElem?_eq_some_iff.mp hst).1]
          exact hst
        exact acT S2.sub (S2.look hst' h6) k2
      have pr : Paired (Rp C.K H2 H2) (ds.map En.fr) (fX V.non perm (vs ++ zs)) := by
        have go : ∀ (ds : List D) (us : List V), ds.length = us.length → (∀ (j : Nat) (d : D) (v : V), ds[j]? = some d → us[j]? = some v → Dq C.K H2 d v) → Paired (Rp C.K H2 H2) (ds.map En.fr) us := by
          intro ds
          induction ds with
          | nil => intro us hl _; cases us with
            | nil => exact .nil
            | cons _ _ => simp at hl
          | cons e es ih => intro us hl h; cases us with
            | nil => simp at hl
            | cons u us => exact .cons (h 0 e u rfl rfl) (ih us (by simpa using hl) fun j e v h1 h2 => h (j + 1) e v (by simpa using h1) (by simpa using h2))
        exact go ds _ (by rw [ld, lp]) at1
      have noO : ∀ {i : Nat} {e : En} {v : V} {a : Addr}, (ds.map En.fr)[i]? = some e → ¬ Ow H2 e v a := fun {i e v a} h w => by
        rw [List.getElem?_map] at h
        obtain ⟨d, _, rfl⟩ := Option.map_eq_some_iff.mp h
        exact w
      refine ⟨by rw [← hl1]; exact hnm.1, by rw [← hl2]; exact hnm.2, by rw [lp, hnp], H2, ds.map En.fr, Ext.refl H2, pr, fun i j e e' v v' a ne g1 g2 g3 g4 w1 => absurd w1 (noO g1), fun i e v a g1 g2 w1 => absurd w1 (noO g1), ?_⟩
      cases hr : run (ds.map .fr) with
      | bad => rw [hr] at h2; exact h2.elim
      | exc x ρ' => rw [hr] at h2; exact h2.elim
      | ok e ρ' =>
        rw [hr] at h2
        cases e with
        | fr d =>
          intro F' H' σ' v N
          replace h2 : pJ (if HS d = true then R.ok (Val.en (.fr d)) ρ2 else .bad) (fun val ρ' => ∀ F' H' v, SM C o F' H' σ ρ' ((val, v) :: T) → Q v H') (fun x ρ' => ∀ F' H', SM C o F' H' σ ρ' T → ZW XR W x F' H' σ ρ') := h2
          by_cases hf : HS d = true
          · rw [if_pos hf] at h2
            have hx : Ext H2 H' := fun b u hb => N.keep b u (fun ⟨i, e, v, g1, _, g3⟩ => noO g1 g3) hb
            have rd : Dq C.K F' d v := N.rep (.t 0) _ v rfl
            exact h2 F2 H' v ((S3.grow ⟨Ext.refl F2, hx, S3.sub.trans hx, fun _ a b => absurd a b⟩).cV (ZD hf rd))
          · rw [if_neg hf] at h2; exact h2.elim
        | ol _ => exact h2.elim
        | od _ _ => exact h2.elim
        | on _ _ => exact h2.elim
        | d8 _ => exact h2.elim
        | ex _ => exact h2.elim
        | pA _ => exact h2.elim
  · rw [if_neg hnm] at h2; exact h2.elim
end
/-! ### on text and data at once -/
section
variable {M : Wd} {X : Cx} {C : Cs} {W : WX} {k : Nat} {N : List Str} {nm : List (Str × NameKind)} {fb : Str → Bool} {XR : jC} {e : Expr} {es : List Expr} {f fi : aq → R Val} {fs fk : aq → R (List Val)} {pos p pos' : Pos} {x : Str}
variable {fd : FuncData} {ps ks : List Str} {fA : Addr} {np n : Nat} {perm cs : List Nat} {run : List En → R En} {kws : List Keyword}
theorem JE.vJ (G : Ctx M X C W k N nm fb) (fn : mO M.P M.w M.K M.mg M.base k fA fd ps (mX M.K np [] cs XR run)) (hm : M.mg x = some (.ref fA)) (hk : PySem.W.keepIn M.K (.ref fA) = true) (hb : dJ fd ps [] n perm) (hg : zU nm x = true) (hp : G4 perm np (n + 0) = true)
    (ha : JA XR X C W (e :: es) fs) (he : starEach (e :: es) X.env = (false, eval e X.env) :: starEach es X.env := by rfl) (hpl : (backTo pos (starEach es X.env)).any (·.1) = false := by rfl) :
    JE XR X C W (.Call (.Name x p) (e :: es) [] pos) (yM n 0 perm run fs ak) := by
  obtain ⟨g1, g2, _⟩ := eV G hg
  obtain ⟨t, a1, a2⟩ := ha
  obtain ⟨p1, p2, p3⟩ := xP hp
  refine ⟨_, GX (E := WE W) (sp := mX M.K np [] cs XR run) (by rw [G.hP, G.hw, G.CK, G.hmg, G.hbase]; exact fn) G.room G.gd g1 (by rw [G.hmg]; exact hm) (by rw [G.CK]; exact hk) hb (passAt G.tk) a1 g2 he hpl, ?_⟩
  rw [← G.CK, G.hK]
  exact Lq a2 kh p1 p3
end
end DM
end
section
namespace DM
open PySem PySem.Spec PyProof.Rows L2
section
variable {C : Cs} {Z : ZX}
end
section
variable {XR : jC} {M : Wd} {X : Cx} {C : Cs} {W : WX} {k : Nat} {N : List Str} {nm : List (Str × NameKind)} {fb : Str → Bool}
variable {e e2 e3 : Expr} {es : List Expr} {f fa fc : aq → R Val} {pos p tpos : Pos} {kk : Nat}
end
end DM
end
section
namespace DM
open PySem PySem.Spec PyProof.Rows L2
def aeG (C : Cs) (x : Nat) : Cs := { C with L := x :: C.L }
section
variable {C : Cs} {o : Og} {F H F' H' : Hp} {σ σ' : L2.St} {ρ ρ' : aq} {T T' : Tm} {x : Nat} {e : En} {v : V}
end
section
variable {C : Cs} {Z : ZX}
end
section
variable {XR : jC} {M : Wd} {X : Cx} {C : Cs} {W : WX} {k : Nat} {N : List Str} {nm : List (Str × NameKind)} {fb : Str → Bool}
variable {tg : Expr} {pos p : Pos} {y : Str}
theorem Ctx.lock (G : Ctx M X C W k N nm fb) (x : Nat) : Ctx M X (aeG C x) W k N nm fb :=
  ⟨G.hP, G.hw, G.CK, G.hmg, G.hbase, G.hK, G.calm, G.gd, G.room, G.tk, G.hN, G.nd, G.hnm, G.hkd, G.hfn⟩
end
end DM
end
section
namespace DM
open PySem PySem.Spec PyProof.Rows L2
section
variable {prog : Program} {w : World} {A : Around} {E : Value → Shared → Prop} {s : Shared}
end
end DM
namespace DM
open PySem PySem.Spec PyProof.Rows L2 Srt SrtO
section
variable {prog : Program} {w : World} {A : Around} {E : Value → Shared → Prop} {s : Shared}
end
section
variable {K : PySem.W.Frag}
end
end DM
end
section
namespace DM
open PySem PySem.Spec PyProof.Rows L2 HT
section
variable {prog : Program} {w : World} {A : Around} {E : Value → Shared → Prop} {s : Shared}
end
section
variable {C : Cs} {Z : ZX}
end
section
variable {XR : jC} {M : Wd} {X : Cx} {C : Cs} {W : WX} {k : Nat} {N : List Str} {nm : List (Str × NameKind)} {fb : Str → Bool}
end
end DM
end
section
namespace DM
open PySem PySem.Spec PyProof.Rows L2
section
variable {X : Cx}
end
section
variable {C : Cs} {Z : ZX}
end
section
variable {XR : jC} {M : Wd} {X : Cx} {C : Cs} {W : WX} {k : Nat} {N : List Str} {nm : List (Str × NameKind)} {fb : Str → Bool} {o e : Expr} {es : List Expr} {f : aq → R Val} {fs : aq → R (List Val)}
end
end DM
end
section
namespace DM
open PySem PySem.Spec PyProof.Rows L2
def abj (n : Nat) (S : Addr → Sp → Prop) (perm : List Nat) (E : L2.St → XK) (tf : TE) (t : TA) : TE := fun σ H Q => tf σ H fun v H1 => ∃ f sp, v = .ref f ∧ S f sp ∧ xM n 0 sp perm E t tNil σ H1 Q
section
variable {X : Cx} {k n : Nat} {perm : List Nat} {E : L2.St → XK} {pos : Pos} {e : Expr} {es : List Expr} {t : TA}
theorem ZG {S : Addr → Sp → Prop} {func : Expr} {tf : TE} (hf : PE X func tf) (A : ∀ f sp, S f sp → ∃ fd ps, mO X.prog X.w X.K X.mg X.base k f fd ps sp ∧ PySem.W.keepIn X.K (.ref f) = true ∧ dJ fd ps [] n perm)
    (hr : Room k X.A) (hgd : X.A.guards = some []) (hx : ∀ σ, PassesAt (L2.CX X.prog X.w) X σ (E σ)) (ha : PA X (e :: es) t)
    (hc : eval (.Call func (e :: es) [] pos) X.env = (do callWith pos (← eval func X.env) [] (backTo pos (starEach (e :: es) X.env)) (backToKw pos (keywordEach [] X.env))))
    (he : starEach (e :: es) X.env = (false, eval e X.env) :: starEach es X.env) (hpl : (backTo pos (starEach es X.env)).any (·.1) = false) :
    PE X (.Call func (e :: es) [] pos) (abj n S perm E tf t) := by
  refine ⟨fun pins s σ H Q I h => PyProof.Rows.Call_ (thn (hf.run pins s σ H _ I h) fun u s1 hh => ?_) hc⟩
  obtain ⟨v, H1, I1, r1, f, sp, rfl, hS, q⟩ := hh
  cases r1
  obtain ⟨fd, ps, fn, hk, hb⟩ := A f sp hS
  refine PySem.W.callWith_K (h₀ := X.base) I1.ok.mod.kin hk (thn (ha.run pos pins s1 σ H1 _ I1 q) fun us s2 hh => ?_) he hpl
  obtain ⟨vs, H2, I2, r, q⟩ := hh
  exact ⟨I2.kIn, ab2 (ks := []) (ws := []) (zs := []) fn hr hgd hb hx I2 r .nil q⟩
end
def Oh : List Addr → TA
  | [] => tNil
  | f :: fs => tCons (tC (.ref f)) (Oh fs)
theorem HY : ∀ {fs : List Addr} {σ : L2.St} {H : Hp} {Q : List V → Hp → Prop}, Q (fs.map V.ref) H → Oh fs σ H Q
  | [], σ, H, Q, h => h
  | f :: fs, σ, H, Q, h => HY (fs := fs) (Q := fun xs H2 => Q (V.ref f :: xs) H2) h
def wJ (runs : List (List En → R En)) (i : Nat) (c : Int) (fs : aq → R (List Val)) (ρ : aq) : R Val := match (ρ[i]?).join with
  | some (.fr (.int j)) => match runs[(j - c).toNat]? with
    | some run => if 0 ≤ j - c then au 2 0 [] [0, 1] run fs ak ρ else .bad
    | none => .bad
  | _ => .bad
section
variable {C : Cs} {XR : jC} {W : WX}
theorem Rm {runs : List (List En → R En)} {fas : List Addr} {S : Addr → Sp → Prop} {i : Nat} {c : Int} {ti : TE} {t : TA} {fs : aq → R (List Val)} (hl : fas.length ≤ sizeLine)
    (hS : ∀ (j : Nat) (run : List En → R En), runs[j]? = some run → ∃ f cs, fas[j]? = some f ∧ S f (mX C.K 2 [] cs XR run))
    (hti : ∀ (σ : L2.St) (H : Hp) (j : Int) (Q : VK), σ[i]? = some (some (.int j)) → Q (.int (j - c)) H → ti σ H Q) (ha : jP C (ZW XR W) t fs) :
    Impl C (ZW XR W) (abj 2 S [0, 1] (WE W) (tOp (rIxL C.K) (tLst (Oh fas)) ti) t) (wJ runs i c fs) := by
  intro o F H σ ρ T Q S1 q
  unfold wJ at q
  cases hρ : (ρ[i]?).join with
  | none => rw [hρ] at q; exact q.elim
  | some e =>
    rw [hρ] at q
    have q' := join_some hρ
    obtain ⟨v, hv⟩ := S1.has i e q'
    have r : Rp C.K F H e v := S1.rep (.s i) e v ⟨q', hv⟩
    match e, q, r with
    | .fr (.int j), q, r =>
      simp only at q
      cases hr : runs[(j - c).toNat]? with
      | none => rw [hr] at q; exact q.elim
      | some run =>
        rw [hr] at q
        simp only at q
        by_cases h0 : 0 ≤ j - c
        · rw [if_pos h0] at q
          have r : v = .int j := by simpa only [Rp, Dq] using r
          subst r
          obtain ⟨f, cs, hf, hs⟩ := hS _ _ hr
          refine HY ⟨by rw [List.length_map]; exact hl, fun p hp => ?_⟩
          refine hti _ _ j _ hv ⟨p, fas.map V.ref, j - c, .ref f, rfl, rfl, SqL.of upd_same, ?_, f, _, rfl, hs, ?_⟩
          · have e1 : (j - c) = (((j - c).toNat : Nat) : Int) := by omega
            rw [e1]
            exact L2.atI_nat (by rw [List.getElem?_map, hf]; rfl)
          · exact uO ha kh rfl (by decide) (by decide) o F _ σ ρ T Q (S1.grow (Grow.junk S1.sub hp)) q
        · rw [if_neg h0] at q; exact q.elim
end
section
variable {XR : jC} {M : Wd} {X : Cx} {C : Cs} {W : WX} {k : Nat} {N : List Str} {nm : List (Str × NameKind)} {fb : Str → Bool} {e : Expr} {es : List Expr} {fs : aq → R (List Val)}
inductive nW (XR : jC) (M : Wd) (k : Nat) (nm : List (Str × NameKind)) : List Expr → List Addr → List (List En → R En) → Prop
  | nil : nW XR M k nm [] [] []
  | cons {x : Str} {p : Pos} {f : Addr} {fd : FuncData} {ps : List Str} {cs : List Nat} {run : List En → R En} {ns : List Expr} {fas : List Addr} {runs : List (List En → R En)} (fn : mO M.P M.w M.K M.mg M.base k f fd ps (mX M.K 2 [] cs XR run)) (hm : M.mg x = some (.ref f)) (hk : PySem.W.keepIn M.K (.ref f) = true) (hb : dJ fd ps [] 2 [0, 1]) (hg : zU nm x = true)
    (rest : nW XR M k nm ns fas runs) : nW XR M k nm (.Name x p :: ns) (f :: fas) (run :: runs)
def PkS (XR : jC) (M : Wd) (k : Nat) (f : Addr) (sp : Sp) : Prop := ∃ fd ps, mO M.P M.w M.K M.mg M.base k f fd ps sp ∧ PySem.W.keepIn M.K (.ref f) = true ∧ dJ fd ps [] 2 [0, 1]
theorem nW.pa (G : Ctx M X C W k N nm fb) : ∀ {ns : List Expr} {fas : List Addr} {runs : List (List En → R En)}, nW XR M k nm ns fas runs → PA X ns (Oh fas)
  | _, _, _, .nil => pa_nil
  | _, _, _, .cons fn hm hk hb hg rest => by
    obtain ⟨g1, g2, _⟩ := eV G hg
    exact pa_cons (pe_glob g1 (by rw [G.hmg]; exact hm) rfl g2) (nW.pa G rest)
theorem nW.get {ns : List Expr} {fas : List Addr} {runs : List (List En → R En)} (h : nW XR M k nm ns fas runs) : ∀ (j : Nat) (run : List En → R En), runs[j]? = some run → ∃ f cs, fas[j]? = some f ∧ PkS XR M k f (mX M.K 2 [] cs XR run) := by
  induction h with
  | nil => intro j run e; simp at e
  | cons fn hm hk hb hg rest ih =>
    intro j run e
    cases j with
    | zero =>
      simp only [List.getElem?_cons_zero, Option.some.injEq] at e
      subst e
      exact ⟨_, _, rfl, _, _, fn, hk, hb⟩
    | succ j =>
      simp only [List.getElem?_cons_succ] at e ⊢
      exact ih j run e
theorem nW.len {ns : List Expr} {fas : List Addr} {runs : List (List En → R En)} (h : nW XR M k nm ns fas runs) : fas.length = ns.length := by
  induction h with
  | nil => rfl
  | cons _ _ _ _ _ _ ih => rw [List.length_cons, List.length_cons, ih]
theorem JE.aeH {ns : List Expr} {fas : List Addr} {runs : List (List En → R En)} {ie : Expr} {ti : TE} {i : Nat} {c : Int} {lp sp pos : Pos} (G : Ctx M X C W k N nm fb) (h : nW XR M k nm ns fas runs) (hl : ns.length ≤ 100) (hi : PE X ie ti) (hpx : PlainIx ie)
    (hti : ∀ (σ : L2.St) (H : Hp) (j : Int) (Q : VK), σ[i]? = some (some (.int j)) → Q (.int (j - c)) H → ti σ H Q) (ha : JA XR X C W (e :: es) fs)
    (hc : eval (.Call (.Subscript (.List ns lp) ie sp) (e :: es) [] pos) X.env = (do callWith pos (← eval (.Subscript (.List ns lp) ie sp) X.env) [] (backTo pos (starEach (e :: es) X.env)) (backToKw pos (keywordEach [] X.env))))
    (he : starEach (e :: es) X.env = (false, eval e X.env) :: starEach es X.env) (hpl : (backTo pos (starEach es X.env)).any (·.1) = false) :
    JE XR X C W (.Call (.Subscript (.List ns lp) ie sp) (e :: es) [] pos) (wJ runs i c fs) := by
  obtain ⟨t, a1, a2⟩ := ha
  have fl := h.len
  refine ⟨_, ZG (E := WE W) (S := PkS XR M k) (n := 2) (perm := [0, 1]) (pe_ix ix_list (pe_lst (nW.pa G h)) hi hpx) (fun f sp hs => ?_) G.room G.gd (passAt G.tk) a1 hc he hpl, ?_⟩
  · rw [G.hP, G.hw, G.CK, G.hmg, G.hbase]
    exact hs
  · rw [G.hK]
    refine Rm (Nat.le_trans (by omega : fas.length ≤ 100) (by decide)) (fun j run e => ?_) hti a2
    have := h.get j run e
    rw [← G.CK, G.hK] at this
    exact this
theorem JE.pick {ns : List Expr} {fas : List Addr} {runs : List (List En → R En)} {x : Str} {i : Nat} {np lp sp pos : Pos} (G : Ctx M X C W k N nm fb) (h : nW XR M k nm ns fas runs) (hl : ns.length ≤ 100) (hi : (N[i]? == some x) = true) (hv : CN nm x = true) (ha : JA XR X C W (e :: es) fs)
    (hpx : PlainIx (.Name x np) := by intro _ _; rfl)
    (hc : eval (.Call (.Subscript (.List ns lp) (.Name x np) sp) (e :: es) [] pos) X.env = (do callWith pos (← eval (.Subscript (.List ns lp) (.Name x np) sp) X.env) [] (backTo pos (starEach (e :: es) X.env)) (backToKw pos (keywordEach [] X.env))) := by rfl)
    (he : starEach (e :: es) X.env = (false, eval e X.env) :: starEach es X.env := by rfl) (hpl : (backTo pos (starEach es X.env)).any (·.1) = false := by rfl) :
    JE XR X C W (.Call (.Subscript (.List ns lp) (.Name x np) sp) (e :: es) [] pos) (wJ runs i 0 fs) := by
  obtain ⟨v1, v2, v3⟩ := oO G hv
  exact JE.aeH G h hl (pe_var (by rw [G.hN]; exact beq_iff_eq.mp hi) v1 v2 v3) hpx (fun σ H j Q hσ q => ⟨_, hσ, by simpa using q⟩) ha hc he hpl
end
end DM
end
section
namespace DM
open PySem PySem.Spec PyProof.Rows L2
section
variable {C : Cs} {o : Og} {F H : Hp} {σ : L2.St} {ρ : aq} {T : Tm}
end
/-! the comprehension -/
section
variable {C : Cs} {Z : ZX}
end
end DM
end
section
namespace DM
open PySem PySem.Spec PyProof.Rows L2
section
variable {X : Cx}
end
section
variable {K : PySem.W.Frag}
end
end DM
end
section
namespace DM
open PySem PySem.Spec PyProof.Rows L2
def tgT (t : Tg) : JF := fun e ρ => match e with
  | .fr d => match bW t d ρ with
    | some ρ2 => .ok () ρ2
    | none => .bad
  | _ => .bad
section
variable {C : Cs} {Z : ZX}
theorem ZJ {t : Tg} {g : TG} {sl : List Nat} (hg : rY C g sl (bW t)) : yJ C Z g (tgT t) := by
  intro o F H σ ρ T e v Q S hT q
  unfold tgT at q
  cases e with
  | fr d =>
    simp only at q
    cases z : bW t d ρ with
    | none => rw [z] at q; exact q.elim
    | some ρ2 =>
      rw [z] at q
      exact hg o F H σ ρ ρ2 T d v Q S.drop (S.look (j := 0) (v := v) (e := .fr d) rfl rfl) (fun i _ => hT i) z fun σ' S' _ _ => q F H σ' S'
  | ol _ => exact q.elim
  | od _ _ => exact q.elim
  | on _ _ => exact q.elim
  | d8 _ => exact q.elim
  | ex _ => exact q.elim
  | pA _ => exact q.elim
end
section
variable {XR : jC} {M : Wd} {X : Cx} {C : Cs} {W : WX} {k : Nat} {N : List Str} {nm : List (Str × NameKind)} {fb : Str → Bool}
variable {e tg a b c : Expr} {es vs : List Expr} {pos px pt pt2 pl : Pos} {x : Str} {kt kt2 kv kl : Nat}
theorem JTg.t {t : Tg} (h : JG X C tg t) : JTg XR X C W tg (tgT t) := by
  obtain ⟨g, h1, h2⟩ := h
  exact ⟨g, h1, ZJ h2⟩
end
end DM
end
section
namespace DM
open PySem PySem.Spec PyProof.Rows L2
section
variable {XR : jC} {M : Wd} {X : Cx} {C : Cs} {W : WX} {k : Nat} {N : List Str} {nm : List (Str × NameKind)} {fb : Str → Bool}
variable {e o : Expr} {es : List Expr} {f : aq → R Val} {fs : aq → R (List Val)}
end
end DM
end
section
namespace DM
open PySem PySem.Spec PyProof.Rows L2
end DM
end
section
namespace DM
open PySem PySem.Spec PyProof.Rows L2
/-! ### x in d.values() -/
theorem fZ : plainId "proto.contains_iter" = true := by decide +kernel
theorem jR : entryFor table "proto.contains_iter" = some Builtin.«proto.contains_iter» := entryFor_of_tree (by kernel_rfl)
section
variable {prog : Program} {w : World} {κ : Type} [DecidableEq κ] {knd : KeyKind prog w κ}
theorem Ro {it d : Addr} {ep : Nat} {kvs : List (κ × Value)} {x : Value} (e : Value → Bool) (he : ∀ p ∈ kvs, MeetsSeq.EqGives p.2 x (e p.2)) (hne : d ≠ it) :
    ∀ (k i : Nat), kvs.length - i = k → ∀ (A : Around) (R : Result → Shared → Prop) {s : Shared}, A.handled = none → s.heap.IsValIter it d i kvs.length ep → s.heap.DictAt knd d kvs ep →
    (∀ h', Heap.ExtBut it s.heap h' → R (.ok (.ret (.bool ((kvs.drop i).any fun p => e p.2)))) { s with heap := h' }) →
    wpAny (model prog w) A.in1 (Builtin.«proto.contains_iter» ⟨[.ref it, x], []⟩) (fun fin s' => match fin with | .done f => R (.ok f) s' | .again c' => c'.quiet = true ∧ codeAny (model prog w) A c' R s') (fun e s' => R (.error e) s') s := by
  intro k
  induction k with
  | zero =>
    intro i hk A R s hh hit hm h
    unfold Builtin.«proto.contains_iter»
    have hn : kvs[i]? = none := List.getElem?_eq_none (by omega)
    have hd : kvs.drop i = [] := List.drop_eq_nil_iff.mpr (by omega)
    rw [hd] at h
    refine wpAny_bind (wpAny_pyNext_values_end hh hit hm hn fun h' hs => ?_)
    exact wpAny_bind (wpAny_rule (wpAny_pure (h h' hs)))
  | succ k ih =>
    intro i hk A R s hh hit hm h
    have hlt : i < kvs.length := by omega
    have hx : kvs[i]? = some (kvs[i].1, kvs[i].2) := List.getElem?_eq_getElem hlt
    have hd : kvs.drop i = kvs[i] :: kvs.drop (i + 1) := List.drop_eq_getElem_cons hlt
    rw [hd, List.any_cons] at h
    unfold Builtin.«proto.contains_iter»
    refine wpAny_bind (wpAny_pyNext_values_item hit hm hx fun h' hit' hs => ?_)
    show wpAny _ _ (eqBool kvs[i].2 x >>= _) _ _ _
    refine wpAny_bind (he _ (List.getElem_mem hlt) prog w _ _ _ _ ?_)
    cases hb : e kvs[i].2 with
    | true =>
      rw [if_pos rfl]
      rw [hb, Bool.true_or] at h
      exact wpAny_bind (wpAny_rule (wpAny_pure (h h' hs.extBut)))
    | false =>
      rw [if_neg (by simp)]
      rw [hb, Bool.false_or] at h
      refine wpAny_pure ⟨plainId_quiet fZ _, codeAny_builtin jR ?_⟩
      rw [Around.under_plainId fZ]
      exact ih (i + 1) (by omega) A R (s := { s with heap := h' }) hh hit' (hm.extBut hs.extBut hne) fun h'' hs' => h h'' (hs.extBut.trans hs')
theorem fB : typeLookup (.type "dict_values") "__contains__" = pure none := by
  rw [typeLookup_type, builtinLookup_eq_fast]; kernel_rfl
theorem Ab {A : Around} {E : Value → Shared → Prop} {s : Shared} {v d : Addr} {ep : Nat} {kvs : List (κ × Value)} {x : Value} {Q : Bool → Shared → Prop} (e : Value → Bool) (hh : A.handled = none) (hv : s.heap.IsValuesView v d) (hm : s.heap.DictAt knd d kvs ep)
    (he : ∀ p ∈ kvs, MeetsSeq.EqGives p.2 x (e p.2)) (hQ : ∀ h', (∀ b o, s.heap.get? b = some o → h'.get? b = some o) → Q (kvs.any fun p => e p.2) { s with heap := h' }) : wpAny (model prog w) A (contains (.ref v) x) Q E s := by
  unfold contains
  refine wpAny_holding ?_
  rw [stdlibNamesSay?_of_typeIs hv.typeIs]
  refine wpAny_bind (wpAny_specialOf hv.typeIs fB ?_)
  rw [if_neg (by decide)]
  refine wpAny_bind (wpAny_callSpecialUnlessNone?_none hv.typeIs fB ?_)
  refine wpAny_bind (wpAny_rule ?_)
  refine wpAny_bind (wpAny_tryCatch (wpAny_pyIter_values hv hm ?_))
  refine wpAny_bind (wpAny_runValue (codeAny_builtin jR ?_))
  rw [Around.under_plainId fZ]
  have hlt := hm.lt_size
  have hm2 := hm.push ({ cls := .type "dict_valueiterator", data := .fields #[.ref d, .int 0 0, .int kvs.length 0, .int ep 0] } : Obj)
  refine wpAny_mono (Ro (s := { s with heap := s.heap.push { cls := .type "dict_valueiterator", data := .fields #[.ref d, .int 0 0, .int kvs.length 0, .int ep 0] } }) e he (Nat.ne_of_lt hlt) kvs.length 0 rfl A (fun r s' => ∃ b, r = .ok (.ret (Value.bool b)) ∧ Q b s') hh ⟨_, Heap.get?_push_size _ rfl, rfl, rfl⟩ hm2 fun h' hs => ?_) (fun fin s' h => ?_) fun e s' h => ?_
  · rw [List.drop_zero]
    exact ⟨_, rfl, hQ h' fun b o hb => hs b o (Nat.ne_of_lt (Heap.lt_size hb)) (Heap.get?_push_of_some _ hb)⟩
  · cases fin with
    | done f =>
      obtain ⟨b, eb, hq⟩ := h
      cases eb
      exact wpAny_pure hq
    | again c' =>
      refine ⟨h.1, codeAny_mono h.2 fun r s'' ⟨b, eb, hq⟩ => ?_⟩
      subst eb
      exact wpAny_pure hq
  · obtain ⟨b, eb, _⟩ := h
    cases eb
end
/-! ### on texts -/
def ZK (p d : Addr) : HO := .ext fun h => h.get? p = some { cls := .type "dict_values", data := .fields #[.ref d] }
def abk (td : TE) : TE := fun σ H Q => td σ H fun x H1 => ∃ d kvs, x = .ref d ∧ Rd H1 d (.dK kvs) ∧ ∀ p, H1 p = none → Q (.ref p) (upd H1 p (ZK p d))
def aeI (neg : Bool) : R2 := fun x y H Q => ∃ (p d : Addr) (kvs : List (Key × V)) (ns : List Int) (i : Int), x = .int i ∧ y = .ref p ∧ H p = some (ZK p d) ∧ Rd H d (.dK kvs) ∧ kvs.map Prod.snd = ns.map V.int ∧ Q (.bl (if neg then !ns.contains i else ns.contains i)) H
section
variable {X : Cx}
theorem Oi {e : Expr} {td : TE} {apos cpos : Pos} (he : PE X e td) (hbase : attributeBase e "values" X.env (eval e X.env) = eval e X.env := by rfl) (hline : (apos.endLine == cpos.line) = true := by rfl) : PE X (.Call (.Attribute e "values" apos) [] [] cpos) (abk td) := by
  refine ⟨fun pins s σ H Q I h => ?_⟩
  refine wpAny_Call_method (T := "dict") (id := "dict.values") hbase rfl hline F.plainAttrs_dict F.slot_dict_values F.type_dict_values (thn (he.run pins s σ H _ I h) fun u s1 ⟨x, H1, I1, rx, d, kvs, ex, hd, q⟩ => ?_)
  subst ex
  obtain rfl : u = Value.ref d := rx
  obtain ⟨z, lo, vs, rel, dd⟩ := dk_rd I1.hok hd
  refine ⟨dd.typeIs, dd.mapOf.noDict, ?_⟩
  have I2 := I1.laid (a := s1.heap.objs.size) (o := ZK s1.heap.objs.size d) (h' := s1.heap.push { cls := .type "dict_values", data := .fields #[.ref d] }) (t' := s1.toks) (fun b ob q => Heap.get?_push_of_some _ q) (Nat.le_refl _)
    ⟨Heap.get?_push_size _ rfl, ⟨_, Heap.get?_push_size _ rfl⟩, fun h1 h2 q k => k _ q⟩
  show wpAny _ _ (callWith cpos (.builtin "dict.values") [.ref d] [] []) _ X.xe s1
  exact method_meetsIn F.slot_dict_values F.entry_dict_values rfl (PySem.evalArgs_none ⟨rfl, dd.typeIs, F.args_dict_values_1 _, _, meets_dict_values (mixKind X.prog X.w) d lo, ⟨vs, dd⟩, ⟨.ref s1.heap.objs.size, _, I2, rfl, q _ (I1.hok.fresh (Nat.le_refl _))⟩⟩)
theorem Oj : ∀ {kvs : List (Key × V)} {vs : List (Key × Value)} {ns : List Int}, KV kvs vs → kvs.map Prod.snd = ns.map V.int → ∀ (i : Int), (∀ p ∈ vs, ∃ (n : Int) (t : Tok), p.2 = .int n t) ∧ (vs.any fun p => match p.2 with | .int n _ => n == i | _ => false) = ns.contains i
  | [], [], [], _, _, _ => ⟨fun p hp => absurd hp (by simp), rfl⟩
  | [], [], n :: ns, _, h, _ => by cases h
  | (k, x) :: kvs, (k', v) :: vs, [], _, h, _ => by cases h
  | (k, x) :: kvs, (k', v) :: vs, n :: ns, .cons ⟨r1, r2⟩ rt, h, i => by
    rw [List.map_cons, List.map_cons] at h
    injection h with h1 h2
    have h1' : x = .int n := h1
    subst h1'
    obtain ⟨t, rfl⟩ : ∃ t, v = .int n t := r2
    obtain ⟨a, b⟩ := Oj rt h2 i
    refine ⟨fun p hp => ?_, ?_⟩
    · rcases List.mem_cons.mp hp with rfl | hp
      · exact ⟨n, t, rfl⟩
      · exact a p hp
    · rw [List.any_cons, b, List.contains_cons]
      show (n == i || ns.contains i) = (i == n || ns.contains i)
      congr 1
      by_cases z : n = i
      · subst z; rfl
      · rw [beq_eq_false_iff_ne.mpr z, beq_eq_false_iff_ne.mpr (Ne.symm z)]
theorem ZL (hc : X.calm = true) {pins : List (Addr × Obj)} {s : Shared} {σ : L2.St} {H : Hp} {p d : Addr} {kvs : List (Key × V)} {ns : List Int} {i : Int} {t : Tok} {Q : Bool → Shared → Prop} (I : Inv X pins σ H s) (hp : H p = some (ZK p d)) (hd : Rd H d (.dK kvs)) (hv : kvs.map Prod.snd = ns.map V.int)
    (q : ∀ s', Inv X pins σ H s' → Q (ns.contains i) s') : wpAny (model X.prog X.w) X.A (contains (.ref p) (.int i t)) Q X.xe s := by
  obtain ⟨z, lo, vs, rel, dd⟩ := dk_rd I.hok hd
  obtain ⟨ep, hat⟩ := dd.dictAt
  obtain ⟨a, b⟩ := Oj rel hv i
  have hq : s.heap.get? p = some { cls := .type "dict_values", data := .fields #[.ref d] } := (I.hok p _ hp).1
  refine Ab (fun v => match v with | .int n _ => n == i | _ => false) (I.ok.hd hc) ⟨_, hq, rfl, rfl⟩ hat (fun y hy => ?_) fun h' k => ?_
  · obtain ⟨n, u, e⟩ := a y hy
    rw [e]
    exact MeetsSeq.EqGives.int n i u t
  · rw [b]
    exact q _ (I.kept (t' := s.toks) k)
theorem Wv (hc : X.calm = true) : OpR X (compareOp .In) (aeI false) := by
  intro pins s σ H x y v u Q I rx ry h
  obtain ⟨p, d, kvs, ns, i, rfl, rfl, hp, hd, hv, q⟩ := h
  obtain ⟨t, rfl⟩ : ∃ t, v = .int i t := rx
  obtain rfl : u = Value.ref p := ry
  show wpAny _ _ (do return Value.bool (← contains (.ref p) (.int i t))) _ _ s
  exact wpAny_bind (ZL hc I hp hd hv fun s' I' => wpAny_pure ⟨.bl _, H, I', rfl, q⟩)
end
/-! ### on data -/
def acU (neg : Bool) : En → En → Option En := fun a b => match gq a, dcE b with
  | some i, some (_, ds) => match pB ds with
    | some ns => some (.fr (.bl (if neg then !ns.contains i else ns.contains i)))
    | none => none
  | _, _ => none
def Eu (neg : Bool) (fa fb : aq → R Val) : aq → R Val := aA (acU neg) fa fb
section
variable {C : Cs} {Z : ZX}
theorem Ib {neg : Bool} {ta tb : TE} {fa fb : aq → R Val} (ha : Impl C Z ta fa) (hb : Impl C Z tb fb) : Impl C Z (tOp (aeI neg) ta (abk tb)) (Eu neg fa fb) := by
  intro o F H σ ρ T Q S h
  unfold Eu aA at h
  rw [aH] at h
  refine ha o F H σ ρ T _ S (aG h (fun a ρ1 h1 F1 H1 x S1 => ?_) fun _ _ h => h)
  rw [aH] at h1
  refine hb o F1 H1 σ ρ1 _ _ S1 (aG h1 (fun b ρ2 h2 F2 H2 y S2 => ?_) fun _ _ h F' H' s => h F' H' s.drop)
  cases la : look ρ2 a with
  | none => rw [la] at h2; exact h2.elim
  | some e1 =>
    cases lb : look ρ2 b with
    | none => rw [la, lb] at h2; exact h2.elim
    | some e2 =>
      rw [la, lb] at h2
      obtain ⟨val, hv, q⟩ := fQ h2
      cases hg : acU neg e1 e2 with
      | none => rw [hg] at hv; cases hv
      | some e =>
        rw [hg] at hv
        cases hv
        have r1 := S2.look (j := 1) rfl la
        have r2 := S2.look (j := 0) rfl lb
        unfold acU at hg
        cases h3 : gq e1 with
        | none => rw [h3] at hg; cases hg
        | some i =>
          cases h4 : dcE e2 with
          | none => rw [h3, h4] at hg; cases hg
          | some pr =>
            rw [h3, h4] at hg
            simp only at hg
            cases h5 : pB pr.2 with
            | none => rw [h5] at hg; cases hg
            | some ns =>
              rw [h5] at hg
              cases hg
              obtain ⟨d, us, vs, rfl, ⟨kz, k1, k2, k3⟩, k4, k5⟩ := Tt S2.sub r2 h4
              have ei := dN r1 h3
              subst ei
              refine ⟨d, kz.zip vs, rfl, k3, fun p hp => ⟨p, d, kz.zip vs, ns, i, rfl, rfl, upd_same, ?_, ?_, ?_⟩⟩
              · have hdp : d ≠ p := by
                  rcases k3 with k3 | ⟨_, k3⟩
                  · exact ne_of_none k3 hp
                  · exact ne_of_none k3 hp
                rcases k3 with k3 | ⟨ob, k3⟩
                · exact .inl (by rw [upd_ne hdp]; exact k3)
                · exact .inr ⟨ob, by rw [upd_ne hdp]; exact k3⟩
              · have e5 := Gz h5
                rw [e5] at k5
                have e6 := k5.ints
                subst e6
                rw [List.map_snd_zip (by rw [k2]; exact Nat.le_refl _)]
              · refine q F2 _ _ ?_
                exact SM.under [(b, V.ref d), (a, V.int i)] ((S2.grow (Grow.junk S2.sub hp)).cV (lU _))
end
/-! ### both at once -/
section
variable {XR : jC} {M : Wd} {X : Cx} {C : Cs} {W : WX} {k : Nat} {N : List Str} {nm : List (Str × NameKind)} {fb : Str → Bool} {a b : Expr} {fa f : aq → R Val} {pos : Pos}
theorem JE.inV {ap cp : Pos} (G : Ctx M X C W k N nm fb) (ha : JE XR X C W a fa) (hb : JE XR X C W b f) (hbase : attributeBase b "values" X.env (eval b X.env) = eval b X.env := by rfl) (hline : (ap.endLine == cp.line) = true := by rfl)
    (hm : behindInMarks .In (.Call (.Attribute b "values" ap) [] [] cp) = false := by first | exact nomark _ | rfl) : JE XR X C W (.Compare a [.In] [.Call (.Attribute b "values" ap) [] [] cp] pos) (Eu false fa f) := by
  obtain ⟨ta, a1, a2⟩ := ha
  obtain ⟨tb, b1, b2⟩ := hb
  exact ⟨_, pe_cmpR (Wv G.calm) a1 (Oi b1 hbase hline) hm, Ib a2 b2⟩
theorem JT.inV {ap cp : Pos} (G : Ctx M X C W k N nm fb) (ha : JE XR X C W a fa) (hb : JE XR X C W b f) (hbase : attributeBase b "values" X.env (eval b X.env) = eval b X.env := by rfl) (hline : (ap.endLine == cp.line) = true := by rfl)
    (hm : behindInMarks .In (.Call (.Attribute b "values" ap) [] [] cp) = false := by first | exact nomark _ | rfl) : JT XR X C W (.Compare a [.In] [.Call (.Attribute b "values" ap) [] [] cp] pos) (bB (Eu false fa f)) := by
  obtain ⟨ta, a1, a2⟩ := ha
  obtain ⟨tb, b1, b2⟩ := hb
  exact ⟨_, pt_cmpR (Wv G.calm) a1 (Oi b1 hbase hline) hm, MK (Ib a2 b2)⟩
end
end DM
end
section
namespace DM
open PySem PySem.Spec PyProof.Rows L2
/-! ### keys on data -/
def ZM : D → Option Key
  | .int i => some (.inl i)
  | .str s => some (.inr s)
  | _ => none
def kD : Key → D
  | .inl i => .int i
  | .inr s => .str s
theorem ZP (k : Key) : ZM (kD k) = some k := by cases k <;> rfl
theorem aeJ {K : PySem.W.Frag} {F : Hp} (k : Key) : Dq K F (kD k) (kV k) := by
  cases k with
  | inl i => exact oG i
  | inr s => exact wU s
theorem aeK {K : PySem.W.Frag} {F : Hp} {d : D} {k : Key} (h : Dq K F d (kV k)) : d = kD k := by
  cases k with
  | inl i =>
    cases d <;> simp only [Dq, kV] at h
    · cases h
    · cases h
    · cases h; rfl
    · cases h
    · obtain ⟨a, _, e, _⟩ := h; cases e
    · obtain ⟨a, _, e, _⟩ := h; cases e
    · obtain ⟨a, _, _, e, _⟩ := h; cases e
    · obtain ⟨a, _, _, e, _⟩ := h; cases e
  | inr s =>
    cases d <;> simp only [Dq, kV] at h
    · cases h
    · cases h
    · cases h
    · cases h; rfl
    · obtain ⟨a, _, e, _⟩ := h; cases e
    · obtain ⟨a, _, e, _⟩ := h; cases e
    · obtain ⟨a, _, _, e, _⟩ := h; cases e
    · obtain ⟨a, _, _, e, _⟩ := h; cases e
theorem Ew {K : PySem.W.Frag} {F : Hp} : ∀ {kz : List Key} {ks : List D}, aV K F ks (kz.map kV) → ks = kz.map kD
  | [], [], _ => rfl
  | [], d :: ds, h => by
    obtain ⟨v, r, e, _⟩ := h.uncons
    cases e
  | k :: kz, [], h => by
    have := h.length
    simp at this
  | k :: kz, d :: ds, h => by
    obtain ⟨v, r, e, h1, h2⟩ := h.uncons
    rw [List.map_cons] at e
    injection e with e1 e2
    subst e1
    subst e2
    rw [aeK h1, Ew h2]
    rfl
def atK : List D → List D → Key → Option D
  | x :: ks, d :: ds, k => if ZM x = some k then some d else atK ks ds k
  | _, _, _ => none
theorem Ol {K : PySem.W.Frag} {F : Hp} (k : Key) : ∀ {kz : List Key} {ds : List D} {vs : List V}, aV K F ds vs → kz.length = vs.length → (∀ d, atK (kz.map kD) ds k = some d → ∃ y, valV (kz.zip vs) k = some y ∧ Dq K F d y) ∧ (atK (kz.map kD) ds k = none → valV (kz.zip vs) k = none)
  | [], ds, vs, _, _ => by
    refine ⟨fun d h => ?_, fun _ => by rw [List.zip_nil_left]; rfl⟩
    have h' : (none : Option D) = some d := by cases ds <;> exact h
    cases h'
  | j :: kz, [], vs, h, hl => by
    have := h.nil_iff
    subst this
    cases hl
  | j :: kz, d :: ds, vs, h, hl => by
    obtain ⟨v, r, rfl, h1, h2⟩ := h.uncons
    rw [List.length_cons, List.length_cons] at hl
    obtain ⟨i1, i2⟩ := Ol (K := K) (F := F) k (kz := kz) (ds := ds) (vs := r) h2 (by omega)
    rw [List.zip_cons_cons]
    show (∀ d', (if ZM (kD j) = some k then some d else atK (kz.map kD) ds k) = some d' → _) ∧ ((if ZM (kD j) = some k then some d else atK (kz.map kD) ds k) = none → _)
    rw [ZP]
    by_cases e : j = k
    · subst e
      rw [if_pos rfl, valV_pos rfl]
      exact ⟨fun d' e' => by cases e'; exact ⟨v, rfl, h1⟩, fun z => by cases z⟩
    · rw [if_neg (fun z => e (Option.some.inj z)), valV_neg (p := (j, v)) e]
      exact ⟨i1, i2⟩
def acV : En → Option Key
  | .fr (.int i) => some (.inl i)
  | .fr (.str s) => some (.inr s)
  | _ => none
theorem ZQ {K : PySem.W.Frag} {F H : Hp} {e : En} {x : V} {k : Key} (r : Rp K F H e x) (h : acV e = some k) : x = kV k := by
  cases e with
  | fr d =>
    cases d with
    | int i => cases h; exact dN r rfl
    | str s => cases h; exact wV r rfl
    | _ => cases h
  | _ => cases h
/-! ### {} -/
section
variable {C : Cs} {Z : ZX}
end
/-! ### dict(d) -/
def aeL : R2 := fun x y H Q => ∃ a v, x = .ref a ∧ DGet H a y (some v) ∧ Q v H
def Ww : En → En → Option En := fun a b => match dcE a, acV b with
  | some p, some k => (atK p.1 p.2 k).map .fr
  | _, _ => none
theorem acW {K : PySem.W.Frag} : wQ K aeL Ww := by
  intro F H e1 e2 x y e Q s r1 r2 hg q
  unfold Ww at hg
  cases h1 : dcE e1 with
  | none => rw [h1] at hg; cases hg
  | some p =>
    cases h2 : acV e2 with
    | none => rw [h1, h2] at hg; cases hg
    | some k =>
      rw [h1, h2] at hg
      simp only at hg
      cases h3 : atK p.1 p.2 k with
      | none => rw [h3] at hg; cases hg
      | some d =>
        rw [h3] at hg
        cases hg
        obtain ⟨a, us, vs, rfl, ⟨kz, k1, k2, k3⟩, k4, k5⟩ := Tt s r1 h1
        subst k1
        have ek := Ew k4
        rw [ek] at h3
        obtain ⟨v, v1, v2⟩ := (Ol k k5 k2).1 d h3
        exact ⟨a, v, rfl, .inl ⟨_, k, k3, ZQ r2 h2, v1.symm⟩, q F H v (.old (Grow.refl s) v2)⟩
section
variable {C : Cs} {Z : ZX}
end
end DM
end
section
namespace DM
open PySem PySem.Spec PyProof.Rows L2
/-! ### made frozen: its object known from then on -/
def aeM (te : TE) : TE := fun σ H Q => te σ H fun x H1 => (∃ a hu, x = .ref a ∧ H1 a = some hu ∧ Mut (some hu) ∧ ∀ o, Q x (upd H1 a (.frz o hu))) ∨ Q x H1
theorem acX {X : Cx} {e : Expr} {te : TE} (h : PE X e te) : PE X e (aeM te) := by
  refine ⟨fun pins s σ H Q I q => thn (h.run pins s σ H _ I q) fun u s1 ⟨x, H1, I1, rx, q1⟩ => ?_⟩
  rcases q1 with ⟨a, kvs, ex, hd, mu, q1⟩ | q1
  · obtain ⟨od, I2⟩ := I1.lock hd mu
    exact ⟨x, _, I2, rx, q1 od⟩
  · exact ⟨x, H1, I1, rx, q1⟩
theorem SM.Om {C : Cs} {o : Og} {F H : Hp} {σ : L2.St} {ρ ρ' : aq} {T T' : Tm} {w : Wh} {e0 : En} {d0 : D} {a : Addr} {hu : HO} {ob : Obj} (S : SM C o F H σ ρ T) (h : At σ ρ T w e0 (.ref a)) (ow : Ow H e0 (.ref a) a) (r5 : ∀ {F' : Hp}, Ext F F' → F' a = some (.frz ob hu) → Dq C.K F' d0 (.ref a)) (hl : ρ'.length = ρ.length)
    (hat : ∀ p e' v', At σ ρ' T' p e' v' → (p = w ∧ e' = .fr d0 ∧ v' = .ref a) ∨ (p ≠ w ∧ At σ ρ T p e' v')) (hs : ∀ (i : Nat) (e' : En), ρ'[i]? = some (some e') → ∃ e'', ρ[i]? = some (some e''))
    (hb : ∀ (j i : Nat) (v' : V), T'[j]? = some (.bor i, v') → T[j]? = some (.bor i, v') ∧ ((∃ e', ρ[i]? = some (some e')) → ∃ e', ρ'[i]? = some (some e'))) :
    SM C o (upd F a (.frz ob (hu))) (upd H a (.frz ob (hu))) σ ρ' T' := by
  obtain ⟨fa, oo⟩ := S.own w _ _ a h ow
  have fe : Ext F (upd F a (.frz ob (hu))) := Ext.new fa
  have r4 : Dq C.K (upd F a (.frz ob (hu))) d0 (.ref a) := r5 fe upd_same
  have nw : ∀ {p : Wh} {e1 : En} {v1 : V}, p ≠ w → At σ ρ T p e1 v1 → ¬ Ow H e1 v1 a := fun {p e1 v1} ne q w1 => S.sep w p _ e1 _ v1 a (Ne.symm ne) h q ow w1
  have oth : ∀ {p : Wh} {e1 : En} {v1 : V}, p ≠ w → At σ ρ T p e1 v1 → ∀ b x, Ow H e1 v1 b → H b = some x → upd H a (.frz ob (hu)) b = some x := fun {p e1 v1} np q b x w1 hx => by
    have hb : b ≠ a := fun z => nw np q (by rw [← z]; exact w1)
    rw [upd_ne hb]; exact hx
  have rp : ∀ {p : Wh} {e1 : En} {v1 : V}, p ≠ w → At σ ρ T p e1 v1 → Rp C.K (upd F a (.frz ob (hu))) (upd H a (.frz ob (hu))) e1 v1 := fun {p e1 v1} np q => (S.rep p e1 v1 q).away fe (oth np q)
  have bk : ∀ {p : Wh} {e1 : En} {v1 : V}, p ≠ w → At σ ρ T p e1 v1 → ∀ b, Ow (upd H a (.frz ob (hu))) e1 v1 b → Ow H e1 v1 b := fun {p e1 v1} np q b w1 => by
    cases e1 with
    | fr d => exact w1
    | d8 d => exact w1
    | ex d => exact w1
    | ol d => exact w1
    | od k d => exact w1
    | on k d => exact w1
    | pA its =>
      obtain ⟨p', us, h1, h2, h3⟩ := w1
      obtain ⟨p2, us2, g1, g2, _⟩ := S.rep p _ _ q
      rw [h1] at g1
      cases g1
      have hp : p' ≠ a := fun z => nw np q ⟨p', us2, h1, g2, .inl z.symm⟩
      rw [upd_ne hp] at h2
      exact ⟨p', us, h1, h2, h3⟩
  exact {
    sub := fun b u q => by
      by_cases hb : b = a
      · subst hb; rw [upd_same] at q ⊢; exact q
      · rw [upd_ne hb] at q ⊢; exact S.sub b u q
    len := hl.trans S.len
    has := fun i e' q => by obtain ⟨e'', q'⟩ := hs i e' q; exact S.has i e'' q'
    rep := fun p e' v' q => by
      rcases hat p e' v' q with ⟨rfl, rfl, rfl⟩ | ⟨ne, q'⟩
      · exact r4
      · exact rp ne q'
    bor := fun j i v' q => by
      obtain ⟨q1, q2⟩ := hb j i v' q
      obtain ⟨b1, b2, b3⟩ := S.bor j i v' q1
      exact ⟨b1, q2 b2, b3⟩
    sep := fun p q e1 e2 v1 v2 b ne a1 a2 w1 w2 => by
      rcases hat p e1 v1 a1 with ⟨_, rfl, _⟩ | ⟨n1, a1'⟩
      · exact w1
      · rcases hat q e2 v2 a2 with ⟨_, rfl, _⟩ | ⟨n2, a2'⟩
        · exact w2
        · exact S.sep p q e1 e2 v1 v2 b ne a1' a2' (bk n1 a1' b w1) (bk n2 a2' b w2)
    own := fun p e1 v1 b a1 w1 => by
      rcases hat p e1 v1 a1 with ⟨_, rfl, _⟩ | ⟨ne, a1'⟩
      · exact w1.elim
      · have w1' := bk ne a1' b w1
        obtain ⟨o1, o2⟩ := S.own p e1 v1 b a1' w1'
        have hb : b ≠ a := fun z => nw ne a1' (by rw [← z]; exact w1')
        exact ⟨by rw [upd_ne hb]; exact o1, o2⟩
    ext := S.ext.trans fe
    keep := fun b u h1 h2 => by
      have hb : b ≠ a := fun z => by
        subst z
        rcases oo with q | q
        · exact h1 q
        · rw [q] at h2; cases h2
      rw [upd_ne hb]
      exact S.keep b u h1 h2
    new := fun b h1 h2 => by
      by_cases hb : b = a
      · rw [hb]; exact oo
      · rw [upd_ne hb] at h2; exact S.new b h1 h2
    lk := S.lk
    uG := S.uG }
def Wx (a : Val) (ρ : aq) : R Val := match a with
  | .en (.od ks ds) => if wN ks = true then .bad else .ok (.en (.fr (.dct ks ds))) ρ
  | .en (.on ks ds) => .ok (.en (.fr (.v7 ks ds))) ρ
  | .bor i => match (ρ[i]?).join with
    | some (.od ks ds) => if wN ks = true then .bad else .ok (.en (.fr (.dct ks ds))) (ρ.set i (some (.fr (.dct ks ds))))
    | some (.on ks ds) => .ok (.en (.fr (.v7 ks ds))) (ρ.set i (some (.fr (.v7 ks ds))))
    | _ => .bad
  | .en e => .ok (.en e) ρ
def Lw (f : aq → R Val) (ρ : aq) : R Val := (f ρ).bind Wx
section
variable {C : Cs} {Z : ZX}
theorem Wy {te : TE} {f : aq → R Val} (h : Impl C Z te f) : Impl C Z (aeM te) (Lw f) := by
  intro o F H σ ρ T Q S q
  unfold Lw at q
  rw [aH] at q
  refine h o F H σ ρ T _ S (aG q (fun a ρ1 h1 F1 H1 v S1 => ?_) fun _ _ h => h)
  have same : ∀ e, a = .en e → Wx a ρ1 = .ok (.en e) ρ1 → (∃ a hu, v = .ref a ∧ H1 a = some hu ∧ Mut (some hu) ∧ ∀ o, Q v (upd H1 a (.frz o hu))) ∨ Q v H1 := fun e ea eq => by
    rw [eq] at h1
    subst ea
    exact .inr (h1 F1 H1 v S1)
  cases a with
  | en e =>
    cases e with
    | od ks ds =>
      left
      unfold Wx at h1
      simp only at h1
      by_cases hn : wN ks = true
      · rw [if_pos hn] at h1; exact h1.elim
      rw [if_neg hn] at h1
      obtain ⟨a, us, vs, rfl, ⟨kz, rfl, k2, k3⟩, k4, k5⟩ : Rp C.K F1 H1 (.od ks ds) v := S1.look (j := 0) (v := v) rfl rfl
      refine ⟨a, _, rfl, k3, True.intro, fun ob => h1 _ _ _ (S1.Om (w := .t 0) (e0 := .od ks ds) (d0 := .dct ks ds) (ob := ob) (hu := .dK (kz.zip vs)) rfl rfl (fun {F'} fe hf => by simp only [Dq]; exact ⟨a, _, vs, rfl, .inr ⟨⟨ob, kz, rfl, k2, hf⟩, aV.mono fe _ _ k4, aV.mono fe _ _ k5⟩⟩) rfl (fun p e' v' a => ?_) (fun i e' q => ⟨e', q⟩) fun j i v' q => ?_)⟩
      · cases p with
        | s i => exact .inr ⟨(fun z => by cases z), a⟩
        | t j =>
          cases j with
          | zero =>
            have a' : some (Val.en (.fr (.dct ks ds)), V.ref _) = some (Val.en e', v') := a
            cases a'
            exact .inl ⟨rfl, rfl, rfl⟩
          | succ j => exact .inr ⟨(fun z => by cases z), a⟩
      · cases j with
        | zero => simp at q
        | succ j => exact ⟨q, fun z => z⟩
    | on ks ds =>
      left
      unfold Wx at h1
      simp only at h1
      obtain ⟨a, us, vs, rfl, ⟨zs, g1, g2, g3, k3⟩, k4, k5⟩ : Rp C.K F1 H1 (.on ks ds) v := S1.look (j := 0) (v := v) rfl rfl
      refine ⟨a, _, rfl, k3, True.intro, fun ob => h1 _ _ _ (S1.Om (w := .t 0) (e0 := .on ks ds) (d0 := .v7 ks ds) (ob := ob) (hu := Yi a zs us vs) rfl rfl (fun {F'} fe hf => by simp only [Dq]; exact ⟨a, us, vs, rfl, ⟨ob, zs, g1, g2, g3, hf⟩, aV.mono fe _ _ k4, aV.mono fe _ _ k5⟩) rfl (fun p e' v' a => ?_) (fun i e' q => ⟨e', q⟩) fun j i v' q => ?_)⟩
      · cases p with
        | s i => exact .inr ⟨(fun z => by cases z), a⟩
        | t j =>
          cases j with
          | zero =>
            have a' : some (Val.en (.fr (.v7 ks ds)), V.ref _) = some (Val.en e', v') := a
            cases a'
            exact .inl ⟨rfl, rfl, rfl⟩
          | succ j => exact .inr ⟨(fun z => by cases z), a⟩
      · cases j with
        | zero => simp at q
        | succ j => exact ⟨q, fun z => z⟩
    | fr d => exact same _ rfl rfl
    | ol d => exact same _ rfl rfl
    | d8 d => exact same _ rfl rfl
    | ex d => exact same _ rfl rfl
    | pA d => exact same _ rfl rfl
  | bor i =>
    unfold Wx at h1
    simp only at h1
    cases q : (ρ1[i]?).join with
    | none => rw [q] at h1; exact h1.elim
    | some e0 =>
      rw [q] at h1
      cases e0 with
      | od ks ds =>
        left
        simp only at h1
        by_cases hn : wN ks = true
        · rw [if_pos hn] at h1; exact h1.elim
        rw [if_neg hn] at h1
        have q' := join_some q
        obtain ⟨b1, _, b3⟩ := S1.bor 0 i v rfl
        have hi : i < ρ1.length := (List.getElem?_eq_some_iff.mp q').1
        obtain ⟨a, us, vs, rfl, ⟨kz, rfl, k2, k3⟩, k4, k5⟩ : Rp C.K F1 H1 (.od ks ds) v := S1.rep (.s i) _ v ⟨q', b1⟩
        refine ⟨a, _, rfl, k3, True.intro, fun ob => ?_⟩
        have S2 : SM C o (upd F1 a (.frz ob (.dK (kz.zip vs)))) (upd H1 a (.frz ob (.dK (kz.zip vs)))) σ (ρ1.set i (some (.fr (.dct ks ds)))) ((.bor i, .ref a) :: T) := by
          refine S1.Om (w := .s i) (e0 := .od ks ds) (d0 := .dct ks ds) (ob := ob) (hu := .dK (kz.zip vs)) ⟨q', b1⟩ rfl (fun {F'} fe hf => by simp only [Dq]; exact ⟨a, _, vs, rfl, .inr ⟨⟨ob, kz, rfl, k2, hf⟩, aV.mono fe _ _ k4, aV.mono fe _ _ k5⟩⟩) (List.length_set ..) (fun p e' v' a => ?_) (fun k e' z => ?_) fun j k v' z => ⟨z, fun ⟨e', y⟩ => ?_⟩
          · cases p with
            | s k =>
              obtain ⟨a1, a2⟩ := a
              by_cases hk : k = i
              · subst hk
                rw [List.getElem?_set_self hi] at a1
                rw [b1] at a2
                cases a1; cases a2
                exact .inl ⟨rfl, rfl, rfl⟩
              · rw [List.getElem?_set_ne (Ne.symm hk)] at a1
                exact .inr ⟨fun z => hk (Wh.s.inj z), a1, a2⟩
            | t j => exact .inr ⟨(fun z => by cases z), a⟩
          · by_cases hk : k = i
            · subst hk; exact ⟨_, q'⟩
            · rw [List.getElem?_set_ne (Ne.symm hk)] at z; exact ⟨_, z⟩
          · by_cases hk : k = i
            · subst hk; exact ⟨_, List.getElem?_set_self hi⟩
            · exact ⟨e', by rw [List.getElem?_set_ne (Ne.symm hk)]; exact y⟩
        have r : Rp C.K _ _ (.fr (.dct ks ds)) (.ref a) := S2.rep (.s i) _ _ ⟨List.getElem?_set_self hi, b1⟩
        exact h1 _ _ _ (S2.drop.cV r)
      | on ks ds =>
        left
        simp only at h1
        have q' := join_some q
        obtain ⟨b1, _, b3⟩ := S1.bor 0 i v rfl
        have hi : i < ρ1.length := (List.getElem?_eq_some_iff.mp q').1
        obtain ⟨a, us, vs, rfl, ⟨zs, g1, g2, g3, k3⟩, k4, k5⟩ : Rp C.K F1 H1 (.on ks ds) v := S1.rep (.s i) _ v ⟨q', b1⟩
        refine ⟨a, _, rfl, k3, True.intro, fun ob => ?_⟩
        have S2 : SM C o (upd F1 a (.frz ob (Yi a zs us vs))) (upd H1 a (.frz ob (Yi a zs us vs))) σ (ρ1.set i (some (.fr (.v7 ks ds)))) ((.bor i, .ref a) :: T) := by
          refine S1.Om (w := .s i) (e0 := .on ks ds) (d0 := .v7 ks ds) (ob := ob) (hu := Yi a zs us vs) ⟨q', b1⟩ rfl (fun {F'} fe hf => by simp only [Dq]; exact ⟨a, us, vs, rfl, ⟨ob, zs, g1, g2, g3, hf⟩, aV.mono fe _ _ k4, aV.mono fe _ _ k5⟩) (List.length_set ..) (fun p e' v' a => ?_) (fun k e' z => ?_) fun j k v' z => ⟨z, fun ⟨e', y⟩ => ?_⟩
          · cases p with
            | s k =>
              obtain ⟨a1, a2⟩ := a
              by_cases hk : k = i
              · subst hk
                rw [List.getElem?_set_self hi] at a1
                rw [b1] at a2
                cases a1; cases a2
                exact .inl ⟨rfl, rfl, rfl⟩
              · rw [List.getElem?_set_ne (Ne.symm hk)] at a1
                exact .inr ⟨fun z => hk (Wh.s.inj z), a1, a2⟩
            | t j => exact .inr ⟨(fun z => by cases z), a⟩
          · by_cases hk : k = i
            · subst hk; exact ⟨_, q'⟩
            · rw [List.getElem?_set_ne (Ne.symm hk)] at z; exact ⟨_, z⟩
          · by_cases hk : k = i
            · subst hk; exact ⟨_, List.getElem?_set_self hi⟩
            · exact ⟨e', by rw [List.getElem?_set_ne (Ne.symm hk)]; exact y⟩
        have r : Rp C.K _ _ (.fr (.v7 ks ds)) (.ref a) := S2.rep (.s i) _ _ ⟨List.getElem?_set_self hi, b1⟩
        exact h1 _ _ _ (S2.drop.cV r)
      | _ => exact h1.elim
end
/-! ### d.items() -/
def acY (d : Addr) (o : Obj) (kvs : List (Key × V)) : It :=
  ⟨fun i H => H d = some (.frz o (.dK kvs)) ∧ i < kvs.length, fun i H x H' => ∃ T ot k v, Nd ot ∧ kvs[i]? = some (k, v) ∧ x = .ref T ∧ H T = none ∧ H' = upd H T (.frz ot (.tup [kV k, v])), fun i H => H d = some (.frz o (.dK kvs)) ∧ kvs.length ≤ i⟩
theorem Ie {P : Program} {w : World} {K : PySem.W.Frag} {d : Addr} {o : Obj} {es : Array DictEntry} {ep : Nat} {kvs : List (Key × V)} {elts : List Expr} {kk : Nat} {tpos : Pos} (it : Addr) (hod : o.data = .dict es ep) :
    Turn P w K (.Tuple elts kk tpos) (acY d o kvs) [it] it (fun i h => ∃ ok ov, IsItemIter h it d i kvs.length ep ok ov) where
  mem := by simp
  obj := fun i h st b hb => by
    have e : b = it := by simpa using hb
    subst e
    obtain ⟨ok, ov, e⟩ := st
    exact ⟨_, e, fun v z => nomatch z⟩
  keep := fun i h h' st k => let ⟨ok, ov, e⟩ := st; ⟨ok, ov, k it (by simp) _ e⟩
  item := by
    intro X hP hw hK hc i pins s σ H E I hf st hg
    subst hP hw hK
    obtain ⟨hd, hi⟩ := hg
    obtain ⟨hs, hgd, hx, es', ep', vs, hdt, hsz, kv, hm⟩ := I.frzK hd
    obtain ⟨rfl, rfl⟩ := dict_ep hod hdt
    obtain ⟨⟨k, v⟩, hkv⟩ : ∃ p, kvs[i]? = some p := ⟨kvs[i], List.getElem?_eq_getElem hi⟩
    obtain ⟨u, hu, ru⟩ := kv_get kv hkv
    have hl : kvs.length = vs.length := Paired.length kv
    obtain ⟨ok, ov, he⟩ := st
    rw [hl] at he
    have hlt : it < s.heap.objs.size := Heap.lt_size he
    refine wpAny_pyNext_items_item he hm hu fun key h' hkey ho hT hz hk => ?_
    refine ⟨_, rfl, wpAny_letOwnedTupleGo_items (s := { s with heap := h' }) ho fun h'' he' sb => ?_⟩
    have hT2 : h''.get? s.heap.objs.size = some (eY [key, u]) := (sb.2 _ (Nat.ne_of_gt hlt)).trans hT
    have new : ObjOk X.prog X.w (upd H s.heap.objs.size (.frz (eY [key, u]) (.tup [kV k, v]))) h'' s.heap.objs.size (.frz (eY [key, u]) (.tup [kV k, v])) :=
      ⟨hT2, by show 2 ≤ sizeLine; decide, [key, u], .cons (relV_key (show keyIs k key = true from hkey)) (.cons ru .nil), ⟨_, hT2, rfl, _, rfl⟩⟩
    have I1 : Inv X pins σ (upd H s.heap.objs.size (.frz (eY [key, u]) (.tup [kV k, v]))) { s with heap := h'' } :=
      I.turnedNew (t' := s.toks) (ch := [it]) (fun b ob hb e => (sb.2 b (by simpa using hb)).trans (hk b ob (by simpa using hb) e)) hf (Nat.le_refl _) new
    refine ⟨.ref s.heap.objs.size, _, I1, rfl, ⟨_, _, k, v, jA _, hkv, rfl, I.hok.fresh (Nat.le_refl _), rfl⟩, ⟨key, u, ?_⟩, fun b hb => ?_⟩
    · rw [hl]; exact he'
    · have e : b = it := by simpa using hb
      rw [e, upd_ne (Nat.ne_of_lt hlt)]
      exact (hf it (by simp)).1
  done := by
    intro X hP hw hK hc i pins s σ H E I hf st hg
    subst hP hw hK
    obtain ⟨hd, hi⟩ := hg
    obtain ⟨f0, f1, f2, f3, f4, f5⟩ := hf it (by simp)
    obtain ⟨hs, hgd, hx, es', ep', vs, hdt, hsz, kv, hm⟩ := I.frzK hd
    obtain ⟨rfl, rfl⟩ := dict_ep hod hdt
    have hl : kvs.length = vs.length := Paired.length kv
    obtain ⟨ok, ov, he⟩ := st
    rw [hl] at he
    exact wpAny_pyNext_items_end (I.ok.hd hc) he hm (List.getElem?_eq_none (by omega)) fun h' eb => ⟨rfl, I.turned (t' := s.toks) (fun b ob hb e => eb b ob hb e) f0 f1 f3 f4 f5⟩
  self := fun A i s Q E st h => let ⟨_, _, e⟩ := st; PySem.W.kcp_self e h
def Oo (td : TE) : TI := fun σ H R => td σ H fun x H1 => ∃ d o kvs, x = .ref d ∧ H1 d = some (.frz o (.dK kvs)) ∧ R (acY d o kvs) H1
theorem Rq {X : Cx} {e : Expr} {td : TE} {apos cpos : Pos} {elts : List Expr} {kk : Nat} {tpos : Pos} (he : PE X e td) (hbase : attributeBase e "items" X.env (eval e X.env) = eval e X.env := by rfl) (hline : (apos.endLine == cpos.line) = true := by rfl) :
    PI X (.Tuple elts kk tpos) (.Call (.Attribute e "items" apos) [] [] cpos) (Oo td) := by
  refine ⟨fun pins s σ H R I h => ?_⟩
  refine wpAny_Call_method (T := "dict") (id := "dict.items") hbase rfl hline F.plainAttrs_dict F.slot_dict_items F.type_dict_items (thn (he.run pins s σ H _ I h) fun u s1 ⟨x, H1, I1, rx, d, o, kvs, ex, hd, q⟩ => ?_)
  subst ex
  obtain rfl : u = Value.ref d := rx
  obtain ⟨hs, hgd, hx, es, ep, vs, hdt, hsz, kv, hm⟩ := I1.frzK hd
  have hl : kvs.length = vs.length := Paired.length kv
  refine ⟨hm.dictOf.typeIs, hm.dictOf.mapOf.noDict, ?_⟩
  have I2 : Inv X pins σ H1 { s1 with heap := s1.heap.push { cls := .type "dict_items", data := .fields #[.ref d] } } := I1.kept (t' := s1.toks) fun b ob q => Heap.get?_push_of_some _ q
  have fin : wpAny (model X.prog X.w) X.A (pyIter (.ref s1.heap.objs.size)) (PIE X pins σ (.Tuple elts kk tpos) R) X.xe { s1 with heap := s1.heap.push { cls := .type "dict_items", data := .fields #[.ref d] } } := by
    refine wpAny_pyIter_items (d := d) (knd := mixKind X.prog X.w) ⟨_, Heap.get?_push_size _ rfl, rfl, rfl⟩ (hm.push _) (pi_one (tk := s1.toks) I2 _ (Ie _ hdt) ⟨.none, .none, ?_⟩ q)
    rw [hl]
    exact Heap.get?_push_size _ rfl
  show wpAny _ _ (callWith cpos (.builtin "dict.items") [.ref d] [] []) _ X.xe s1
  exact method_meetsIn F.slot_dict_items F.entry_dict_items rfl (PySem.evalArgs_none ⟨rfl, hm.dictOf.typeIs, F.args_dict_items_1 _, _, meets_dict_items (mixKind X.prog X.w) d hs, ⟨vs, hm.dictOf⟩, fin⟩)
theorem Wz {K : PySem.W.Frag} {F0 : Hp} {a : Addr} {o : Obj} {kz : List Key} {vs : List V} {ds : List D} (h : F0 a = some (.frz o (.dK (kz.zip vs)))) (hl : kz.length = vs.length) (d : aV K F0 ds vs) : YB K F0 (acY a o (kz.zip vs)) (pairs (kz.map kD) ds) where
  go := fun i F H e1 e2 hi => by
    rw [bJ, List.length_map, d.length, hl, Nat.min_self] at hi
    exact ⟨e2 _ _ (e1 _ _ h), by rw [List.length_zip, hl, Nat.min_self]; exact hi⟩
  stop := fun F H e1 e2 => ⟨e2 _ _ (e1 _ _ h), by rw [bJ, List.length_map, d.length, hl, List.length_zip, hl]; exact Nat.le_refl _⟩
  yld := fun i F H x H' e1 e2 hi y => by
    obtain ⟨T, ob, k, v, nd, hkv, rfl, hT, rfl⟩ := y
    obtain ⟨g1, g2⟩ := List.getElem?_zip_eq_some.mp hkv
    obtain ⟨d', h1, h2⟩ := d.wO g2
    obtain ⟨g, q⟩ := rW e2 nd hT (aeJ k) (Dq.mono e1 _ _ h2)
    exact ⟨_, _, j5 (by rw [List.getElem?_map, g1]; rfl) h1, g, q⟩
def prE : En → Option (List D)
  | .fr (.dct ks ds) => if wN ks = true then none else some (pairs ks ds)
  | _ => none
def runItems (f : aq → R Val) (ρ : aq) : R (List D) := (f ρ).bind fun a ρ1 => v8 ((look ρ1 a).bind prE) ρ1
theorem Ig {C : Cs} {Z : ZX} {te : TE} {f : aq → R Val} (h : Impl C Z te f) : qQ C Z (Oo te) (runItems f) := by
  intro o F H σ ρ T Q S q
  unfold runItems at q
  rw [aH] at q
  refine h o F H σ ρ T _ S (aG q (fun a ρ1 h1 F1 H1 v S1 => ?_) fun _ _ h => h)
  obtain ⟨ps, hp, q1⟩ := fQ h1
  obtain ⟨e, l1, l2⟩ := ji hp
  have r := S1.look (j := 0) (v := v) rfl l1
  cases e with
  | fr d =>
    cases d with
    | dct ks ds =>
      unfold prE at l2
      by_cases hn : wN ks = true
      · simp only [if_pos hn] at l2; cases l2
      · simp only [if_neg hn] at l2
        cases l2
        have r' : ∃ a us vs, v = .ref a ∧ (wN ks = true ∨ (PD F1 a us vs ∧ aV C.K F1 ks us ∧ aV C.K F1 ds vs)) := by simpa only [Rp, Dq] using r
        obtain ⟨a', us, vs, rfl, r2⟩ := r'
        obtain ⟨⟨ob, kz, rfl, k2, k3⟩, k4, k5⟩ := r2.resolve_left hn
        have ek := Ew k4
        refine ⟨a', ob, _, rfl, S1.sub _ _ k3, q1 F1 H1 _ S1.drop ?_⟩
        rw [ek]
        exact Wz k3 k2 k5
    | _ => cases l2
  | _ => cases l2
/-! ### both at once -/
section
variable {XR : jC} {M : Wd} {X : Cx} {C : Cs} {W : WX} {k : Nat} {N : List Str} {nm : List (Str × NameKind)} {fb : Str → Bool} {a b e x' : Expr} {es : List Expr} {fa f : aq → R Val} {pos p tpos : Pos} {kk : Nat} {x : Str}
theorem JE.pin (h : JE XR X C W e f) : JE XR X C W e (Lw f) := by
  obtain ⟨t, h1, h2⟩ := h
  exact ⟨_, acX h1, Wy h2⟩
theorem JE.getD (G : Ctx M X C W k N nm fb) (ha : JE XR X C W a fa) (hb : JE XR X C W b f) (hs : NoSl b := by intro _ _ _ _ z; cases z) : JE XR X C W (.Subscript a b pos) (aA Ww fa f) := by
  obtain ⟨ta, a1, a2⟩ := ha
  obtain ⟨tb, b1, b2⟩ := hb
  have hu : X.A.units + 1 < cLine := by have := G.un; omega
  exact ⟨_, pe_dget hu a1 b1 hs, rR acW a2 b2⟩
theorem JI.items (G : Ctx M X C W k N nm fb) {ap cp : Pos} (h : JE XR X C W e f) (hbase : attributeBase e "items" X.env (eval e X.env) = eval e X.env := by rfl) (hline : (ap.endLine == cp.line) = true := by rfl) :
    JI XR X C W (.Tuple es kk tpos) (.Call (.Attribute e "items" ap) [] [] cp) (runItems f) := by
  obtain ⟨t, h1, h2⟩ := h
  exact ⟨_, Rq h1 hbase hline, Ig h2⟩
end
end DM
end
section
namespace DM
open PySem PySem.Spec PyProof.Rows L2
section
variable {X : Cx}
end
def jU (neg : Bool) : En → En → Option En := fun a b => (gIn neg a b).or (Qg neg a b)
theorem BP : zY .NotIn (jU true) := fun X h => ⟨_, (op_notInD (by omega)).or op_notIn_seq, Yy.or (ad1 true)⟩
section
variable {XR : jC} {M : Wd} {X : Cx} {C : Cs} {W : WX} {k : Nat} {N : List Str} {nm : List (Str × NameKind)} {fb : Str → Bool} {e : Expr} {f : aq → R Val} {pos p : Pos} {x : Str}
end
end DM
end
section
set_option maxHeartbeats 1000000
namespace DM
open PySem PySem.Spec PyProof.Rows L2
section
variable {X : Cx} {a b : Expr} {rest : List Expr} {pos : Pos} {ta tb : TE}
end
section
variable {C : Cs} {Z : ZX}
end
section
variable {XR : jC} {M : Wd} {X : Cx} {C : Cs} {W : WX} {k : Nat} {N : List Str} {nm : List (Str × NameKind)} {fb' : Str → Bool} {a b : Expr} {es : List Expr} {fa f : aq → R Val} {pos : Pos}
end
end DM
end
section
set_option maxHeartbeats 1000000
namespace DM
open PySem PySem.Spec PyProof.Rows L2
section
variable {C : Cs} {Z : ZX}
end
section
variable {XR : jC} {M : Wd} {X : Cx} {C : Cs} {W : WX} {k : Nat} {N : List Str} {nm : List (Str × NameKind)} {fb : Str → Bool} {tg a b c : Expr} {fa fb' fc : aq → R Val} {pos p : Pos}
end
end DM
end
section
namespace DM
open PySem PySem.Spec PyProof.Rows L2
def abl : List Nat → TA
  | [] => tNil
  | i :: is => tCons (tVar i) (abl is)
section
variable {C : Cs} {XR : jC} {W : WX}
end
/-! ### on text and data at once -/
section
variable {M : Wd} {X : Cx} {C : Cs} {W : WX} {k : Nat} {N : List Str} {nm : List (Str × NameKind)} {fb : Str → Bool} {XR : jC} {e : Expr} {es : List Expr} {pos p : Pos} {x : Str}
def JN (X : Cx) (es : List Expr) (is : List Nat) : Prop := PA X es (abl is)
theorem JN.nil : JN X [] [] := pa_nil
theorem JN.cons {is : List Nat} (G : Ctx M X C W k N nm fb) (i : Nat) (hi : (N[i]? == some x) = true) (hv : CN nm x = true) (hs : JN X es is) (h : starEach ((.Name x pos) :: es) X.env = (false, eval (.Name x pos) X.env) :: starEach es X.env := by rfl) : JN X (.Name x pos :: es) (i :: is) := by
  obtain ⟨h1, h2, h3⟩ := oO G hv
  exact pa_cons (pe_var (by rw [G.hN]; exact beq_iff_eq.mp hi) h1 h2 h3) hs h
variable {fd : FuncData} {ps : List Str} {fA : Addr} {np n : Nat} {perm cs is : List Nat} {run : List En → R En}
end
end DM
end
section
namespace DM
open PySem PySem.Spec PyProof.Rows L2
mutual
theorem ZR : ∀ (d : D) (k : NestedKey), jf d = some k → nkI k = true
  | .non, k, e => by cases e; rfl
  | .int i, k, e => by cases e; rfl
  | .tup ds, k, e => by
    obtain ⟨ks, h, rfl⟩ := Option.map_eq_some_iff.mp e
    exact Ih ds ks h
  | .bl _, k, e => by cases e
  | .str _, k, e => by cases e
  | .lst _, k, e => by cases e
  | .dct _ _, k, e => by cases e
  | .v7 _ _, k, e => by cases e
theorem Ih : ∀ (ds : List D) (ks : List NestedKey), iw ds = some ks → nkIs ks = true
  | [], ks, e => by cases e; rfl
  | d :: ds, ks, e => by
    have e' : (match jf d, iw ds with | some k, some ks => some (k :: ks) | _, _ => none) = some ks := e
    cases h1 : jf d with
    | none => rw [h1] at e'; cases e'
    | some k =>
      cases h2 : iw ds with
      | none => rw [h1, h2] at e'; cases e'
      | some r =>
        rw [h1, h2] at e'
        cases e'
        show (nkI k && nkIs r) = true
        rw [ZR d k h1, Ih ds r h2]
        rfl
end
section
variable {P : Program} {w : World} {K : PySem.W.Frag} {F H : Hp} {h : Heap}
mutual
theorem Rr (ok : HOk P w H h) (s : Ext F H) : ∀ (d : D) (k : NestedKey) (v : V) (u : Value), jf d = some k → Dq K F d v → RelV v u → NestedIs h k u
  | .non, k, v, u, e, r, rv => by
    cases e
    simp only [Dq] at r
    subst r
    obtain rfl : u = Value.none := rv
    exact .none
  | .int i, k, v, u, e, r, rv => by
    cases e
    simp only [Dq] at r
    subst r
    obtain ⟨t, rfl⟩ : ∃ t, u = Value.int i t := rv
    exact .int i t
  | .tup ds, k, v, u, e, r, rv => by
    obtain ⟨ks, h1, rfl⟩ := Option.map_eq_some_iff.mp e
    simp only [Dq] at r
    obtain ⟨a, vs, rfl, ⟨o, _, ha⟩, hd⟩ := r
    obtain rfl : u = Value.ref a := rv
    obtain ⟨_, z, its, rv, ob, g1, g2, n, g3⟩ := ok a _ (s _ _ ha)
    exact .tup g1 g2 g3 (yN ok s ds ks vs its h1 hd rv)
  | .bl _, k, _, _, e, _, _ => by cases e
  | .str _, k, _, _, e, _, _ => by cases e
  | .lst _, k, _, _, e, _, _ => by cases e
  | .dct _ _, k, _, _, e, _, _ => by cases e
  | .v7 _ _, k, _, _, e, _, _ => by cases e
theorem yN (ok : HOk P w H h) (s : Ext F H) : ∀ (ds : List D) (ks : List NestedKey) (vs : List V) (us : List Value), iw ds = some ks → aV K F ds vs → Vals vs us → NestedAll h ks us
  | [], ks, vs, us, e, r, rv => by
    cases e
    have := r.nil_iff
    subst this
    cases rv
    exact .nil
  | d :: ds, ks, vs, us, e, r, rv => by
    have e' : (match jf d, iw ds with | some k, some ks => some (k :: ks) | _, _ => none) = some ks := e
    cases h1 : jf d with
    | none => rw [h1] at e'; cases e'
    | some k =>
      cases h2 : iw ds with
      | none => rw [h1, h2] at e'; cases e'
      | some q =>
        rw [h1, h2] at e'
        cases e'
        obtain ⟨v, vr, rfl, r1, r2⟩ := r.uncons
        cases rv with
        | cons x1 x2 => exact .cons (Rr ok s d k v _ h1 r1 x1) (yN ok s ds q vr _ h2 r2 x2)
end
end
/-! ### look-ups on data -/
section
variable {X : Cx} {pins : List (Addr × Obj)} {σ : L2.St} {H : Hp} {s : Shared} {a : Addr} {zs : List NestedKey} {us vs : List V} {K : PySem.W.Frag}
end
/-! ### d[k], k in d -/
section
variable {X : Cx}
end
/-! on data -/
section
variable {K : PySem.W.Frag} {F H : Hp} {e : En} {x : V}
end
end DM
end
section
namespace DM
open PySem PySem.Spec PyProof.Rows L2
/-! ### d[k] = v -/
theorem Vals.snoc {vs : List V} {us : List Value} {v : V} {u : Value} (r : Vals vs us) (h : L2.RelV v u) : Vals (vs ++ [v]) (us ++ [u]) := r.append (.cons h .nil)
section
variable {X : Cx}
end
/-! on data -/
section
variable {C : Cs} {Z : ZX}
end
section
variable {XR : jC} {M : Wd} {X : Cx} {C : Cs} {W : WX} {k : Nat} {N : List Str} {nm : List (Str × NameKind)} {fb : Str → Bool} {e : Expr} {f : aq → R Val} {pos p : Pos} {x : Str}
end
end DM
end
section
namespace DM
open PySem PySem.Spec PyProof.Rows L2
/-! ajC: sorted(set(xs)), xs a list of ints -/
abbrev aiq (w : World) : Obj := { cls := .type "set", dict := none, data := .set #[] 0 (.fresh 0 0 (!w.params.followText "set-order")) }
section
variable {P : Program} {A : Around} {w : World} {s : Shared} {E : Value → Shared → Prop}
end
section
variable {M : Wd} {XR : jC} {X : Cx} {C : Cs} {W : WX} {k : Nat} {N : List Str} {nm : List (Str × NameKind)} {fb : Str → Bool}
end
end DM
end
section
namespace DM
open PySem PySem.Spec PyProof.Rows L2
/-! ajD: which of two states comes first: pairs of tuples of ints -/
section
variable {A : Around} {s : Shared} {l b : Addr} {its its2 : List Value} {ns ms : List Int}
end
section
variable {A : Around} {s : Shared} {p q a b c d : Addr} {i1 i2 j1 j2 : List Value} {n1 n2 m1 m2 : List Int}
end
/-! on data -/
section
variable {X : Cx}
end
end DM
end
section
namespace DM
open PySem PySem.Spec PyProof.Rows L2
/-! ### by their ints in a row -/
mutual
def ZS : NestedKey → List Int
  | .num i => [i]
  | .tup ks => Ac ks
  | .none => []
  | .text _ => []
def Ac : List NestedKey → List Int
  | [] => []
  | k :: ks => ZS k ++ Ac ks
end
mutual
def yO : NestedKey → NestedKey → Bool
  | .num _, .num _ => true
  | .tup a, .tup b => qb a b
  | _, _ => false
def qb : List NestedKey → List NestedKey → Bool
  | [], [] => true
  | a :: as, b :: bs => yO a b && qb as bs
  | _, _ => false
end
mutual
theorem Oq : ∀ {a b : NestedKey}, yO a b = true → (ZS a).length = (ZS b).length
  | .num _, .num _, _ => rfl
  | .tup a, .tup b, h => Ii (a := a) (b := b) h
  | .num _, .tup _, h => by cases h
  | .tup _, .num _, h => by cases h
  | .none, _, h => by cases h
  | .text _, _, h => by cases h
  | .num _, .none, h => by cases h
  | .num _, .text _, h => by cases h
  | .tup _, .none, h => by cases h
  | .tup _, .text _, h => by cases h
theorem Ii : ∀ {a b : List NestedKey}, qb a b = true → (Ac a).length = (Ac b).length
  | [], [], _ => rfl
  | [], _ :: _, h => by cases h
  | _ :: _, [], h => by cases h
  | a :: as, b :: bs, h => by
    have h : (yO a b && qb as bs) = true := h
    rw [Bool.and_eq_true] at h
    show (ZS a ++ Ac as).length = (ZS b ++ Ac bs).length
    rw [List.length_append, List.length_append, Oq h.1, Ii h.2]
end
mutual
theorem ZV : ∀ {a b : NestedKey}, yO a b = true → ZS a = ZS b → a = b
  | .num i, .num j, _, e => by
    have e : [i] = [j] := e
    rw [(List.cons.inj e).1]
  | .tup a, .tup b, h, e => by rw [Ij (a := a) (b := b) h e]
  | .num _, .tup _, h, _ => by cases h
  | .tup _, .num _, h, _ => by cases h
  | .none, _, h, _ => by cases h
  | .text _, _, h, _ => by cases h
  | .num _, .none, h, _ => by cases h
  | .num _, .text _, h, _ => by cases h
  | .tup _, .none, h, _ => by cases h
  | .tup _, .text _, h, _ => by cases h
theorem Ij : ∀ {a b : List NestedKey}, qb a b = true → Ac a = Ac b → a = b
  | [], [], _, _ => rfl
  | [], _ :: _, h, _ => by cases h
  | _ :: _, [], h, _ => by cases h
  | a :: as, b :: bs, h, e => by
    have h : (yO a b && qb as bs) = true := h
    rw [Bool.and_eq_true] at h
    have e : ZS a ++ Ac as = ZS b ++ Ac bs := e
    have l := Oq h.1
    obtain ⟨e1, e2⟩ := List.append_inj e l
    rw [ZV h.1 e1, Ij h.2 e2]
end
mutual
inductive vW (h : Heap) : NestedKey → Value → Prop
  | int (i t) : vW h (.num i) (.int i t)
  | tup {a o vs n ks} : h.get? a = some o → o.cls = .type "tuple" → o.data = .seq vs n → lY h ks vs.toList → vW h (.tup ks) (.ref a)
inductive lY (h : Heap) : List NestedKey → List Value → Prop
  | nil : lY h [] []
  | cons {k v ks vs} : vW h k v → lY h ks vs → lY h (k :: ks) (v :: vs)
end
mutual
theorem vW.nested {h : Heap} : ∀ {k : NestedKey} {v : Value}, vW h k v → NestedIs h k v
  | .num _, _, x => by cases x; exact .int _ _
  | .tup ks, _, x => by
    cases x with
    | tup h1 h2 h3 h4 => exact .tup h1 h2 h3 (lY.nested h4)
  | .none, _, x => by cases x
  | .text _, _, x => by cases x
theorem lY.nested {h : Heap} : ∀ {ks : List NestedKey} {vs : List Value}, lY h ks vs → NestedAll h ks vs
  | [], _, x => by cases x; exact .nil
  | k :: ks, _, x => by
    cases x with
    | cons h1 h2 => exact .cons (vW.nested h1) (lY.nested h2)
end
mutual
theorem vW.at {h h' : Heap} (hk : ∀ a o vs n, h.get? a = some o → o.data = .seq vs n → h'.get? a = some o) : ∀ {k : NestedKey} {v : Value}, vW h k v → vW h' k v
  | .num _, _, x => by cases x; exact .int _ _
  | .tup ks, _, x => by
    cases x with
    | tup h1 h2 h3 h4 => exact .tup (hk _ _ _ _ h1 h3) h2 h3 (lY.at hk h4)
  | .none, _, x => by cases x
  | .text _, _, x => by cases x
theorem lY.at {h h' : Heap} (hk : ∀ a o vs n, h.get? a = some o → o.data = .seq vs n → h'.get? a = some o) : ∀ {ks : List NestedKey} {vs : List Value}, lY h ks vs → lY h' ks vs
  | [], _, x => by cases x; exact .nil
  | k :: ks, _, x => by
    cases x with
    | cons h1 h2 => exact .cons (vW.at hk h1) (lY.at hk h2)
end
end DM
end
section
namespace DM
open PySem PySem.Spec PyProof.Rows L2
/-! ### permutations of rows -/
mutual
theorem key_inj : ∀ (d e : D) (k : NestedKey), jf d = some k → jf e = some k → d = e
  | .non, e, k, h1, h2 => by
    cases h1
    cases e with
    | non => rfl
    | tup ds => obtain ⟨_, _, z⟩ := Option.map_eq_some_iff.mp h2; cases z
    | _ => cases h2
  | .int i, e, k, h1, h2 => by
    cases h1
    cases e with
    | int j => cases h2; rfl
    | tup ds => obtain ⟨_, _, z⟩ := Option.map_eq_some_iff.mp h2; cases z
    | _ => cases h2
  | .tup ds, e, k, h1, h2 => by
    obtain ⟨ks, q1, rfl⟩ := Option.map_eq_some_iff.mp h1
    cases e with
    | tup es =>
      obtain ⟨ks', q2, z⟩ := Option.map_eq_some_iff.mp h2
      cases z
      rw [Ik ds es ks q1 q2]
    | _ => cases h2
  | .bl _, _, k, h1, _ => by cases h1
  | .str _, _, k, h1, _ => by cases h1
  | .lst _, _, k, h1, _ => by cases h1
  | .dct _ _, _, k, h1, _ => by cases h1
  | .v7 _ _, _, k, h1, _ => by cases h1
theorem Ik : ∀ (ds es : List D) (ks : List NestedKey), iw ds = some ks → iw es = some ks → ds = es
  | [], es, ks, h1, h2 => by
    cases h1
    cases es with
    | nil => rfl
    | cons e es =>
      have h2 : (match jf e, iw es with | some k, some ks => some (k :: ks) | _, _ => none) = some [] := h2
      cases a : jf e with
      | none => rw [a] at h2; cases h2
      | some _ =>
        cases b : iw es with
        | none => rw [a, b] at h2; cases h2
        | some _ => rw [a, b] at h2; cases h2
  | d :: ds, es, ks, h1, h2 => by
    have h1 : (match jf d, iw ds with | some k, some ks => some (k :: ks) | _, _ => none) = some ks := h1
    cases a : jf d with
    | none => rw [a] at h1; cases h1
    | some k =>
      cases b : iw ds with
      | none => rw [a, b] at h1; cases h1
      | some r =>
        rw [a, b] at h1
        cases h1
        cases es with
        | nil => cases h2
        | cons e es =>
          have h2 : (match jf e, iw es with | some k, some ks => some (k :: ks) | _, _ => none) = some (k :: r) := h2
          cases a2 : jf e with
          | none => rw [a2] at h2; cases h2
          | some k2 =>
            cases b2 : iw es with
            | none => rw [a2, b2] at h2; cases h2
            | some r2 =>
              rw [a2, b2] at h2
              cases h2
              rw [key_inj d e _ a a2, Ik ds es _ b b2]
end
open Classical in
noncomputable def keyV (h : Heap) (v : Value) : NestedKey := if x : ∃ k, vW h k v then x.choose else .none
section
variable {prog : Program} {w : World} {A : Around} {s : Shared}
end
/-! ### the rule -/
abbrev Row := NestedKey × D × V
mutual
theorem aeN {P : Program} {w : World} {K : PySem.W.Frag} {F H : Hp} {h : Heap} (ok : HOk P w H h) (s : Ext F H) : ∀ (d : D) (k : NestedKey) (v : V) (u : Value), jf d = some k → yO k k = true → Dq K F d v → L2.RelV v u → vW h k u
  | .non, k, v, u, e, hs, r, rv => by cases e; cases hs
  | .int i, k, v, u, e, hs, r, rv => by
    cases e
    simp only [Dq] at r
    subst r
    obtain ⟨t, rfl⟩ : ∃ t, u = Value.int i t := rv
    exact .int i t
  | .tup ds, k, v, u, e, hs, r, rv => by
    obtain ⟨ks, h1, rfl⟩ := Option.map_eq_some_iff.mp e
    simp only [Dq] at r
    obtain ⟨a, vs, rfl, ⟨o, _, ha⟩, hd⟩ := r
    obtain rfl : u = Value.ref a := rv
    obtain ⟨_, z, its, rv, ob, g1, g2, n, g3⟩ := ok a _ (s _ _ ha)
    exact .tup g1 g2 g3 (WD ok s ds ks vs its h1 hs hd rv)
  | .bl _, k, _, _, e, _, _, _ => by cases e
  | .str _, k, _, _, e, _, _, _ => by cases e
  | .lst _, k, _, _, e, _, _, _ => by cases e
  | .dct _ _, k, _, _, e, _, _, _ => by cases e
  | .v7 _ _, k, _, _, e, _, _, _ => by cases e
theorem WD {P : Program} {w : World} {K : PySem.W.Frag} {F H : Hp} {h : Heap} (ok : HOk P w H h) (s : Ext F H) : ∀ (ds : List D) (ks : List NestedKey) (vs : List V) (us : List Value), iw ds = some ks → qb ks ks = true → aV K F ds vs → Vals vs us → lY h ks us
  | [], ks, vs, us, e, hs, r, rv => by
    cases e
    have := r.nil_iff
    subst this
    cases rv
    exact .nil
  | d :: ds, ks, vs, us, e, hs, r, rv => by
    have e' : (match jf d, iw ds with | some k, some ks => some (k :: ks) | _, _ => none) = some ks := e
    cases h1 : jf d with
    | none => rw [h1] at e'; cases e'
    | some k =>
      cases h2 : iw ds with
      | none => rw [h1, h2] at e'; cases e'
      | some q =>
        rw [h1, h2] at e'
        cases e'
        have hs : (yO k k && qb q q) = true := hs
        rw [Bool.and_eq_true] at hs
        obtain ⟨v, vr, rfl, r1, r2⟩ := r.uncons
        cases rv with
        | cons x1 x2 => exact .cons (aeN ok s d k v _ h1 hs.1 r1 x1) (WD ok s ds q vr _ h2 hs.2 r2 x2)
end
section
variable {X : Cx}
end
/-! on data -/
end DM
end
section
namespace PySem
open PyProof.Rows
section
variable {prog : Program} {w : World} {K : Type} [DecidableEq K] {knd : HeapKind prog w K} {A : Around} {E : Value → Shared → Prop} {s : Shared}
end
end PySem
namespace DM
open PySem PySem.Spec PyProof.Rows L2
/-! ### {k: v} -/
section
variable {C : Cs} {Z : ZX}
end
/-! ### d.get(k, x) -/
section
variable {X : Cx}
end
section
variable {C : Cs} {Z : ZX}
end
/-! ### len(d) -/
section
variable {XR : jC} {M : Wd} {X : Cx} {C : Cs} {W : WX} {k : Nat} {N : List Str} {nm : List (Str × NameKind)} {fb : Str → Bool} {o a b e : Expr} {es : List Expr} {f fa : aq → R Val} {fs : aq → R (List Val)} {pos : Pos}
end
end DM
end
section
namespace DM
open PySem PySem.Spec PyProof.Rows L2
open Sem (wp)
/-! ajE: zip(xs, ys, zs, strict=True) -/
abbrev eX (h : Heap) (z TI TO : Addr) (f0 : Value) : Prop := h.get? z = some { cls := .type "zip", dict := none, data := .fields #[f0, .bool false, .bool true, .ref TI, .ref TO], slots := #[] }
section
variable {prog : Program} {w : World} {A : Around} {s : Shared} {E : Value → Shared → Prop} {i1 : Addr} {fp1 : List Addr} {n1 i : Nat} {P1 : Nat → Value → Prop} {St1 : Nat → Heap → Prop}
theorem Ey {Q : Option Value → Shared → Prop} (D : Draws prog w A i1 fp1 n1 P1 St1) (hi : i < n1) (st : St1 i s.heap) (hQ : ∀ x h' tk, P1 i x → St1 (i + 1) h' → Heap.SameBut i1 s.heap h' → Q (some x) { s with heap := h', toks := tk }) : wpAny (model prog w) A (Builtin.SmallTypes.nextOrEnd (.ref i1)) Q E s := by
  unfold Builtin.SmallTypes.nextOrEnd
  exact wpAny_bind (wpAny_attempt (D.item i _ _ _ hi st fun x h' tk a b c => wpAny_pure (hQ x h' tk a b c)))
theorem Ly {Q : Option Value → Shared → Prop} (D : Draws prog w A i1 fp1 n1 P1 St1) (st : St1 n1 s.heap) (hQ : ∀ h', Heap.ExtBut i1 s.heap h' → Q none { s with heap := h' }) : wpAny (model prog w) A (Builtin.SmallTypes.nextOrEnd (.ref i1)) Q E s := by
  unfold Builtin.SmallTypes.nextOrEnd
  refine wpAny_bind (wpAny_attempt (D.done s _ _ st fun h' e hx he => ?_))
  obtain ⟨o, ho, hc⟩ := he
  exact wpAny_bind (wpAny_isInstance (T := "StopIteration") (b := true) ⟨o, ho, hc⟩ isSubtype_stop (wpAny_pure (hQ h' hx)))
end
section
variable {prog : Program} {w : World} {A : Around} {s : Shared} {E : Value → Shared → Prop} {z TI TO i1 i2 i3 : Addr} {fp1 fp2 fp3 : List Addr} {n1 n2 n3 i : Nat} {P1 P2 P3 : Nat → Value → Prop} {St1 St2 St3 : Nat → Heap → Prop} {a1 a2 a3 : Value}
theorem WK {Q : Value → Shared → Prop} (S : ZipSep3 z TI TO i1 i2 i3 fp1 fp2 fp3) (D1 : Draws prog w A i1 fp1 n1 P1 St1) (D2 : Draws prog w A i2 fp2 n2 P2 St2) (D3 : Draws prog w A i3 fp3 n3 P3 St3)
    (hz : eX s.heap z TI TO .none) (hTI : IsTupOf3 s.heap TI (.ref i1) (.ref i2) (.ref i3)) (hTO : IsTupOf3 s.heap TO a1 a2 a3) (st1 : St1 i s.heap) (st2 : St2 i s.heap) (st3 : St3 i s.heap) (hlt1 : i < n1) (hlt2 : i < n2) (hlt3 : i < n3)
    (hQ : ∀ x1 x2 x3 h' tk, P1 i x1 → P2 i x2 → P3 i x3 → eX h' z TI TO (rawInt s.heap.objs.size) → IsTupOf3 h' TO x1 x2 x3 → St1 (i + 1) h' → St2 (i + 1) h' → St3 (i + 1) h' → IsTupOf3 h' s.heap.objs.size x1 x2 x3 → h'.objs.size = s.heap.objs.size + 1 →
      (∀ c o, c ≠ z → c ≠ TO → c ≠ i1 → c ≠ i2 → c ≠ i3 → s.heap.get? c = some o →
            h'.get? c = some o) → Q (.ref s.heap.objs.size) { s with heap := h', toks := tk }) :
    wpAny (model prog w) A (Builtin.«zip.__next__» ⟨[.ref z], []⟩)
          (fun fin s' => ∃ v, fin = .done (.ret v) ∧ Q v s') E s := by
  (obtain ⟨hp, g, d, tk0, os⟩ := s)
  (show wpAny _ _ (field (.ref z) 2 >>= _) _ _ _)
  refine wpAny_bind (wpAny_field hz rfl (x := .bool true) rfl ?_)
  (show wpAny _ _ (field (.ref z) 3 >>= _) _ _ _)
  (refine wpAny_bind (wpAny_field hz rfl (x := .ref TI) rfl ?_))
  (refine wpAny_bind (wpAny_seqItems hTI rfl ?_))
  (show wpAny _ _ (Builtin.SmallTypes.ownedTupleIsFree (.ref z) >>= _) _ _ _)
  refine wpAny_bind ?_
  (unfold Builtin.SmallTypes.ownedTupleIsFree)
  (refine wpAny_bind (wpAny_field hz rfl (x := .none) rfl (wpAny_pure ?_)))
  simp only [if_true]
  (refine wpAny_bind (wpAny_rule ?_))
  (refine wpAny_bind (wpAny_field hz rfl (x := .ref TO) rfl ?_))
  (refine wpAny_bind (wpAny_setField_rec hz (by simp) fun g0 hz0 hs0 => ?_))
  replace hz0 : eX g0 z TI TO .ellipsis := hz0
  (replace hs0 : Heap.SameBut z hp g0 := hs0)
  refine wpAny_bind ?_
  (simp only [List.zipIdx_cons, List.zipIdx_nil, List.forIn_cons, List.forIn_nil])
  (refine wpAny_bind (wpAny_bind (wpAny_onRaise ?_)))
  show wpAny _ _ (Builtin.SmallTypes.nextOrEnd (.ref i1)) _ _ ⟨g0, g, d, tk0, os⟩
  refine Ey D1 hlt1 (D1.over st1 hs0 S.zf1) fun x1 p1 tk1 hx1 sn1 hp1 => ?_
  (replace hp1 : Heap.SameBut i1 g0 p1 := hp1)
  (have hU1 : IsTupOf3 p1 TO a1 a2 a3 := hp1.extBut _ _ S.Ti1 (hs0.extBut _ _ S.TOz hTO))
  (refine wpAny_bind (wpAny_seqItems (s := ⟨p1, g, d, tk1, os⟩) hU1 rfl ?_))
  (refine wpAny_bind (updateSeq_IsTupOf3 (s := ⟨p1, g, d, tk1, os⟩) hU1 fun g1 hT1 hs1 => ?_))
  (replace hT1 : IsTupOf3 g1 TO x1 a2 a3 := hT1)
  (replace hs1 : Heap.SameBut TO p1 g1 := hs1)
  (refine wpAny_bind (wpAny_letGo (wpAny_pure ?_)))
  (refine wpAny_bind (wpAny_bind (wpAny_onRaise ?_)))
  show wpAny _ _ (Builtin.SmallTypes.nextOrEnd (.ref i2)) _ _ ⟨g1, g, d, tk1, os⟩
  refine Ey D2 hlt2 (D2.over (D2.over (D2.over st2 hs0 S.zf2) hp1 S.sep1_2) hs1 S.Tf2) fun x2 p2 tk2 hx2 sn2 hp2 => ?_
  (replace hp2 : Heap.SameBut i2 g1 p2 := hp2)
  (have hU2 : IsTupOf3 p2 TO x1 a2 a3 := hp2.extBut _ _ S.Ti2 hT1)
  (refine wpAny_bind (wpAny_seqItems (s := ⟨p2, g, d, tk2, os⟩) hU2 rfl ?_))
  (refine wpAny_bind (updateSeq_IsTupOf3 (s := ⟨p2, g, d, tk2, os⟩) hU2 fun g2 hT2 hs2 => ?_))
  (replace hT2 : IsTupOf3 g2 TO x1 x2 a3 := hT2)
  (replace hs2 : Heap.SameBut TO p2 g2 := hs2)
  (refine wpAny_bind (wpAny_letGo (wpAny_pure ?_)))
  (refine wpAny_bind (wpAny_bind (wpAny_onRaise ?_)))
  show wpAny _ _ (Builtin.SmallTypes.nextOrEnd (.ref i3)) _ _ ⟨g2, g, d, tk2, os⟩
  refine Ey D3 hlt3 (D3.over (D3.over (D3.over (D3.over (D3.over st3 hs0 S.zf3) hp1 S.sep1_3) hs1 S.Tf3) hp2 S.sep2_3) hs2 S.Tf3) fun x3 p3 tk3 hx3 sn3 hp3 => ?_
  (replace hp3 : Heap.SameBut i3 g2 p3 := hp3)
  (have hU3 : IsTupOf3 p3 TO x1 x2 a3 := hp3.extBut _ _ S.Ti3 hT2)
  (refine wpAny_bind (wpAny_seqItems (s := ⟨p3, g, d, tk3, os⟩) hU3 rfl ?_))
  (refine wpAny_bind (updateSeq_IsTupOf3 (s := ⟨p3, g, d, tk3, os⟩) hU3 fun g3 hT3 hs3 => ?_))
  (replace hT3 : IsTupOf3 g3 TO x1 x2 x3 := hT3)
  (replace hs3 : Heap.SameBut TO p3 g3 := hs3)
  (refine wpAny_bind (wpAny_letGo (wpAny_pure (wpAny_pure ?_))))
  (refine wpAny_bind (wpAny_seqItems (s := ⟨g3, g, d, tk3, os⟩) hT3 rfl ?_))
  (refine wpAny_bind (wpAny_newTuple ?_))
  (have hsz : g3.objs.size = hp.objs.size := by rw [hs3.1, hp3.1, hs2.1, hp2.1, hs1.1, hp1.1, hs0.1])
  have hzz : eX g3 z TI TO .ellipsis := (hs3.extBut _ _ S.TOz.symm (hp3.extBut _ _ S.zi3 (hs2.extBut _ _ S.TOz.symm (hp2.extBut _ _ S.zi2 (hs1.extBut _ _ S.TOz.symm (hp1.extBut _ _ S.zi1 hz0))))))
  have hkk : ∀ c o, c ≠ z → c ≠ TO → c ≠ i1 → c ≠ i2 → c ≠ i3 → hp.get?
        c = some o → g3.get? c = some o := fun c o cz cT c1 c2 c3 e =>
    (hs3.extBut _ _ cT (hp3.extBut _ _ c3 (hs2.extBut _ _ cT (hp2.extBut _
          _ c2 (hs1.extBut _ _ cT (hp1.extBut _ _ c1 (hs0.extBut _ _ cz e)))))))
  (have hj1 : St1 (i + 1) g3 := (D1.over (D1.over (D1.over (D1.over (D1.over sn1 hs1 S.Tf1) hp2 S.sep2_1) hs2 S.Tf1) hp3 S.sep3_1) hs3 S.Tf1))
  (have hj2 : St2 (i + 1) g3 := (D2.over (D2.over (D2.over sn2 hs2 S.Tf2) hp3 S.sep3_2) hs3 S.Tf2))
  (have hj3 : St3 (i + 1) g3 := (D3.over sn3 hs3 S.Tf3))
  (have hzlt : z < g3.objs.size := Heap.lt_size hzz)
  (show wpAny _ _ (Builtin.SmallTypes.ownedTupleHandOut (.ref z) (.ref g3.objs.size) >>= _) _ _ ⟨g3.push { cls := .type "tuple", data := .seq #[x1, x2, x3] }, g, d, tk3, os⟩)
  refine wpAny_bind ?_
  (unfold Builtin.SmallTypes.ownedTupleHandOut)
  have hz₆ : eX (g3.push { cls := .type "tuple", data := .seq #[x1, x2, x3] }) z TI TO .ellipsis := Heap.get?_push_of_some _ hzz
  (refine wpAny_bind (wpAny_setField_rec hz₆ (by simp) fun h₇ hz₇ hs₇ => ?_))
  replace hz₇ : eX h₇ z TI TO (rawInt g3.objs.size) := hz₇
  (refine wpAny_setField_rec hz₇ (by simp) fun h₈ hz₈ hs₈ => ?_)
  replace hz₈ : eX h₈ z TI TO (rawInt g3.objs.size) := hz₈
  (replace hs₇ : Heap.SameBut z (g3.push { cls := .type "tuple", data := .seq #[x1, x2, x3] }) h₇ := hs₇)
  (replace hs₈ : Heap.SameBut z h₇ h₈ := hs₈)
  (have up : ∀ c o, c ≠ z → g3.get? c = some o → h₈.get? c = some o := fun c o c1 e => hs₈.extBut _ _ c1 (hs₇.extBut _ _ c1 (Heap.get?_push_of_some _ e)))
  (have hT₈ : IsTupOf3 h₈ g3.objs.size x1 x2 x3 := hs₈.extBut _ _ (Nat.ne_of_gt hzlt) (hs₇.extBut _ _ (Nat.ne_of_gt hzlt) (Heap.get?_push_size _ rfl)))
  (have hz8 : h₈.objs.size = g3.objs.size + 1 := by rw [hs₈.1, hs₇.1, Heap.size_push])
  rw [hsz] at hz₈ hT₈ hz8
  (refine wpAny_pure ⟨_, rfl, ?_⟩)
  (show Q (.ref g3.objs.size) ⟨h₈, g, d, tk3, os⟩)
  rw [hsz]
  (exact hQ x1 x2 x3 h₈ tk3 hx1 hx2 hx3 hz₈ (up _ _ S.TOz hT3) (D1.frame _ _ _ hj1 fun b hb o e => up b o (fun q => S.zf1 (q ▸ hb)) e) (D2.frame _ _ _ hj2 fun b hb o e => up b o (fun q => S.zf2 (q ▸ hb)) e) (D3.frame _ _ _ hj3 fun b hb o e => up b o (fun q => S.zf3 (q ▸ hb)) e) hT₈ hz8 fun c o cz cT c1 c2 c3 e => up c o cz (hkk c o cz cT c1 c2 c3 e))
end
abbrev Il (h : Heap) (o1 o2 o3 : Obj) : Heap := (gzO3 h o1 o2 o3).push { cls := .type "zip", data := .fields #[.none, .bool false, .bool true, .ref (((h.push o1).push o2).push o3).objs.size, .ref (gzT3 h o1 o2 o3).objs.size] }
theorem Im (a b c : Value) : checkTypeCall "zip" ⟨[a, b, c], [(Str.ofString "strict", .bool true)]⟩ = pure () := by kernel_rfl
theorem Lz (a b c : Value) : checkBuiltinCall "zip.__new__" ⟨[.type "zip", a, b, c], [(Str.ofString "strict", .bool true)]⟩ = pure () := by kernel_rfl
theorem Z0 (obj a b c : Value) : argsOk "object.__init__" ⟨[obj, a, b, c], [(Str.ofString "strict", .bool true)]⟩ := by unfold argsOk; kernel_rfl
theorem yP {v1 v2 v3 : Value} {o1 o2 o3 : Obj} {H1 H2 H3 : Heap → Prop} (B1 : Begins v1 o1 H1) (B2 : Begins v2 o2 H2) (B3 : Begins v3 o3 H3) :
    Meets (Builtin.«zip.__new__» ⟨[.type "zip", v1, v2, v3], [(Str.ofString "strict", .bool true)]⟩) (fun _ R s => (H1 s.heap ∧ H2 s.heap ∧ H3 s.heap) ∧
      R (.ok (.ret (.ref (gzO3 s.heap o1 o2 o3).objs.size))) { s with heap := Il s.heap o1 o2 o3 }) :=
  .of_wp fun prog
        w A R s h => by
    (obtain ⟨hp, g, d, tk, os⟩ := s; obtain ⟨⟨h1, h2, h3⟩, h⟩ := h)
    have hsub := sub_zip
    have q1 : ∀ {A' : Around} {E : Value → Shared → Prop} {Q : Value → Shared → Prop}, Q (.ref hp.objs.size)
          ⟨(hp.push o1), g, d, tk, os⟩ → wpAny (model prog w) A' (pyIter v1) Q E ⟨hp, g, d, tk, os⟩ :=
      fun q => B1.iter prog w _ _ ⟨hp, g, d, tk,
            os⟩ _ (B1.keeps _ _ h1 fun b o' e => e) q
    have q2 : ∀ {A' : Around} {E : Value → Shared → Prop} {Q : Value → Shared → Prop}, Q (.ref (hp.push o1).objs.size)
          ⟨((hp.push o1).push o2), g, d, tk, os⟩ → wpAny (model prog w) A' (pyIter v2) Q E ⟨(hp.push o1), g, d, tk, os⟩ :=
      fun q => B2.iter prog w _ _ ⟨(hp.push o1), g, d, tk, os⟩ _
            (B2.keeps _ _ h2 fun b o' e => (Heap.get?_push_of_some _ e)) q
    have q3 : ∀ {A' : Around} {E : Value → Shared → Prop} {Q : Value → Shared → Prop}, Q (.ref ((hp.push o1).push o2).objs.size)
          ⟨(((hp.push o1).push o2).push o3), g, d, tk, os⟩ → wpAny (model prog w) A' (pyIter v3) Q E ⟨((hp.push o1).push o2), g, d, tk, os⟩ :=
      fun q => B3.iter prog w _ _ ⟨((hp.push o1).push o2), g, d, tk, os⟩ _ (B3.keeps
            _ _ h3 fun b o' e => (Heap.get?_push_of_some _ (Heap.get?_push_of_some _ e))) q
    wp_walk using q1, q2, q3
    exact ⟨_, rfl, h⟩
section
variable {prog : Program} {w : World} {A :
      Around} {E : Value → Shared → Prop} {s : Shared}
theorem Io {v1 v2 v3 : Value} {o1 o2 o3 : Obj} {H1 H2 H3 : Heap → Prop} {Q : Value → Shared → Prop} (B1 : Begins v1 o1 H1) (B2 : Begins v2 o2 H2) (B3 : Begins v3 o3 H3) (h1 : H1 s.heap) (h2 : H2 s.heap) (h3 : H3 s.heap)
    (h : ∀ h', eX h' (s.heap.objs.size + 5) (s.heap.objs.size + 3) (s.heap.objs.size + 4) .none → IsTupOf3 h' (s.heap.objs.size + 3) (.ref s.heap.objs.size) (.ref (s.heap.objs.size + 1)) (.ref (s.heap.objs.size + 2)) →
      IsTupOf3 h' (s.heap.objs.size + 4) .none .none .none → h'.get? s.heap.objs.size = some o1 → h'.get?
            (s.heap.objs.size + 1) = some o2 → h'.get? (s.heap.objs.size + 2) = some o3 → h'.objs.size = s.heap.objs.size + 6 →
      (∀ c o, s.heap.get? c = some o → h'.get? c = some o) →
            Q (.ref (s.heap.objs.size + 5)) { s with heap := h' }) :
    wpAny (model prog w) A (call (.type "zip") [v1, v2, v3] [(Str.ofString "strict", .bool true)]) Q E s := by
  refine callType_newKw F.called_zip (by decide) (Im _ _ _) (Lz _ _ _) (fun obj => Z0 obj _ _ _) F.entry_zip_new
    (yP B1 B2 B3) ⟨⟨h1, h2, h3⟩, ?_⟩
  (have z1 : (s.heap.push o1).objs.size = s.heap.objs.size + 1 := by rw [Heap.size_push])
  (have z2 : ((s.heap.push o1).push o2).objs.size = s.heap.objs.size + 2 := by rw [Heap.size_push, z1])
  (have z3 : (((s.heap.push o1).push o2).push o3).objs.size = s.heap.objs.size + 3 := by rw [Heap.size_push, z2])
  (have zT : (gzT3 s.heap o1 o2 o3).objs.size = s.heap.objs.size + 4 := by rw [Heap.size_push, z3])
  (have zO : (gzO3 s.heap o1 o2 o3).objs.size = s.heap.objs.size + 5 := by rw [Heap.size_push, zT])
  have zZ : (Il s.heap o1 o2 o3).objs.size = s.heap.objs.size + 6 := by rw [Heap.size_push, zO]
  have gZ : (Il s.heap o1 o2 o3).get? (gzO3 s.heap o1 o2 o3).objs.size = some { cls := .type "zip", data := .fields #[.none, .bool false, .bool true, .ref (((s.heap.push o1).push o2).push o3).objs.size, .ref (gzT3 s.heap o1 o2 o3).objs.size] } := Heap.get?_push_size _ rfl
  have gO : (Il s.heap o1 o2 o3).get? (gzT3 s.heap o1 o2 o3).objs.size = some { cls := .type "tuple", data := .seq #[.none, .none, .none] } := Heap.get?_push_of_some _ (Heap.get?_push_size _ rfl)
  have gT : (Il s.heap o1 o2 o3).get? (((s.heap.push o1).push o2).push o3).objs.size = some { cls := .type "tuple", data := .seq #[.ref s.heap.objs.size, .ref (s.heap.push o1).objs.size, .ref ((s.heap.push o1).push o2).objs.size] } := Heap.get?_push_of_some _ (Heap.get?_push_of_some _ (Heap.get?_push_size _ rfl))
  have g1 : (Il s.heap o1 o2 o3).get? s.heap.objs.size = some o1 := Heap.get?_push_of_some _ (Heap.get?_push_of_some _ (Heap.get?_push_of_some _ (Heap.get?_push_of_some _ (Heap.get?_push_of_some _ (Heap.get?_push_size _ B1.free)))))
  have g2 : (Il s.heap o1 o2 o3).get? (s.heap.push o1).objs.size = some o2 := Heap.get?_push_of_some _ (Heap.get?_push_of_some _ (Heap.get?_push_of_some _ (Heap.get?_push_of_some _ (Heap.get?_push_size _ B2.free))))
  have g3 : (Il s.heap o1 o2 o3).get? ((s.heap.push o1).push o2).objs.size = some o3 := Heap.get?_push_of_some _ (Heap.get?_push_of_some _ (Heap.get?_push_of_some _ (Heap.get?_push_size _ B3.free)))
  rw [zO, zT, z3] at gZ
  rw [zT] at gO
  rw [z3, z2, z1] at gT
  rw [z1] at g2
  rw [z2] at g3
  show _ ∧ _
  rw [zO]
  (exact ⟨⟨_, gZ, rfl⟩, h _ gZ gT gO g1 g2 g3 zZ fun c o e => Heap.get?_push_of_some _ (Heap.get?_push_of_some _ (Heap.get?_push_of_some _ (Heap.get?_push_of_some _ (Heap.get?_push_of_some _ (Heap.get?_push_of_some _ e)))))⟩)
end
end DM
end
section
namespace DM
open PySem PySem.Spec PyProof.Rows L2
open Sem (wp)
/-! ajF: the end of zip(xs, ys, zs, strict=True); the walk -/
section
variable {prog : Program} {w : World} {A : Around} {s : Shared} {E : Value → Shared → Prop} {z TI TO i1 i2 i3 : Addr} {fp1 fp2 fp3 : List Addr} {n1 n2 n3 i : Nat} {P1 P2 P3 : Nat → Value → Prop} {St1 St2 St3 : Nat → Heap → Prop} {a1 a2 a3 : Value}
theorem Z4 {Q : PySem.Fin → Shared → Prop} (hh : A.handled = none) (S : ZipSep3 z TI TO i1 i2 i3 fp1 fp2 fp3) (D1 : Draws prog w A i1 fp1 n1 P1 St1) (D2 : Draws prog w A i2 fp2 n2 P2 St2) (D3 : Draws prog w A i3 fp3 n3 P3 St3) (hz : eX s.heap z TI TO .none) (hTI : IsTupOf3 s.heap TI (.ref i1) (.ref i2) (.ref i3)) (hTO : IsTupOf3 s.heap TO a1 a2 a3) (st1 : St1 n1 s.heap) (st2 : St2 n2 s.heap) (st3 : St3 n3 s.heap)
    (hE : ∀ h' tk e, (∀ u o, u ≠ z → u ≠ TO → u ≠ i1 → u ≠ i2 → u ≠ i3 → s.heap.get? u = some o → h'.get? u = some o) → (∃ o, h'.get? e = some o ∧ o.cls = .type "StopIteration") → E (.ref e) { s with heap := h', toks := tk }) : wpAny (model prog w) A (Builtin.«zip.__next__» ⟨[.ref z], []⟩) Q E s := by
  (obtain ⟨hp, g, d, tk0, os⟩ := s)
  (show wpAny _ _ (field (.ref z) 2 >>= _) _ _ _)
  refine wpAny_bind (wpAny_field hz rfl (x := .bool true) rfl ?_)
  (show wpAny _ _ (field (.ref z) 3 >>= _) _ _ _)
  (refine wpAny_bind (wpAny_field hz rfl (x := .ref TI) rfl ?_))
  (refine wpAny_bind (wpAny_seqItems hTI rfl ?_))
  (show wpAny _ _ (Builtin.SmallTypes.ownedTupleIsFree (.ref z) >>= _) _ _ _)
  refine wpAny_bind ?_
  (unfold Builtin.SmallTypes.ownedTupleIsFree)
  (refine wpAny_bind (wpAny_field hz rfl (x := .none) rfl (wpAny_pure ?_)))
  simp only [if_true]
  (refine wpAny_bind (wpAny_rule ?_))
  (refine wpAny_bind (wpAny_field hz rfl (x := .ref TO) rfl ?_))
  (refine wpAny_bind (wpAny_setField_rec hz (by simp) fun g0 hz0 hs0 => ?_))
  replace hz0 : eX g0 z TI TO .ellipsis := hz0
  (replace hs0 : Heap.SameBut z hp g0 := hs0)
  refine wpAny_bind ?_
  (simp only [List.zipIdx_cons, List.zipIdx_nil, List.forIn_cons, List.forIn_nil])
  (refine wpAny_bind (wpAny_bind (wpAny_onRaise ?_)))
  show wpAny _ _ (Builtin.SmallTypes.nextOrEnd (.ref i1)) _ _ ⟨g0, g, d, tk0, os⟩
  refine Ly D1 (D1.over st1 hs0 S.zf1) fun h1 x1 => ?_
  replace x1 : Heap.ExtBut i1 g0 h1 := x1
  have hz1 : eX h1 z TI TO .ellipsis := x1 _ _ S.zi1 hz0
  refine wpAny_bind (wpAny_setField_rec (s := ⟨h1, g, d, tk0, os⟩) hz1 (by simp) fun q1 hq1 hs1 => ?_)
  replace hs1 : Heap.SameBut z h1 q1 := hs1
  refine wpAny_bind ?_
  show wpAny _ _ (forIn (List.zipIdx (List.drop 1 [Value.ref i1, Value.ref i2, Value.ref i3]) 1) _ _ >>= _) _ _ ⟨q1, g, d, tk0, os⟩
  simp only [List.drop_succ_cons, List.drop_zero, List.zipIdx_cons, List.zipIdx_nil, List.forIn_cons, List.forIn_nil]
  have agy : St2 n2 q1 := D2.over (D2.frame _ _ _ (D2.over st2 hs0 S.zf2) fun u hu o e => x1 u o (fun y => S.sep1_2 (y ▸ hu)) e) hs1 S.zf2
  refine wpAny_bind (wpAny_bind (wpAny_bind (Ly (s := ⟨q1, g, d, tk0, os⟩) D2 agy fun h2 x2 => ?_)))
  replace x2 : Heap.ExtBut i2 q1 h2 := x2
  refine wpAny_pure ?_
  have agz : St3 n3 h2 := D3.frame _ _ _ (D3.over (D3.frame _ _ _ (D3.over st3 hs0 S.zf3) fun u hu o e => x1 u o (fun y => S.sep1_3 (y ▸ hu)) e) hs1 S.zf3) fun u hu o e => x2 u o (fun y => S.sep2_3 (y ▸ hu)) e
  refine wpAny_bind (wpAny_bind (Ly (s := ⟨h2, g, d, tk0, os⟩) D3 agz fun h3 x3 => ?_))
  replace x3 : Heap.ExtBut i3 h2 h3 := x3
  (refine wpAny_pure (wpAny_pure ?_))
  (refine wpAny_bind (wpAny_rule ?_))
  show wpAny _ _ (newExc (.type "StopIteration") [] >>= fun e => (raiseNew e : Sem PySem.Fin)) _ _ _
  refine wpAny_bind ?_
  simp only [newExc, newTuple]
  (refine wpAny_bind (wpAny_newObj_type ?_ (by size_fits)))
  (refine wpAny_bind (m := firstArgMember _ _) (wpAny_of_eq (a := Value.none) (by first | rfl | (simp only [firstArgMember]; rfl)) ?_))
  (refine wpAny_newObj_type ?_ (by size_fits))
  simp only [raiseNew]
  (refine wpAny_bind (wpAny_handled ?_))
  first | rw [show A.in1.handled
        = none from hh] | rw [hh]
  (refine wpAny_bind (wpAny_pure (wpAny_throw ?_)))
  exact hE _ _ _ (fun u o uz uT u1 u2 u3 e => Heap.get?_push_of_some _ (Heap.get?_push_of_some _ (x3 _ _ u3 (x2 _ _ u2 (hs1.extBut _ _ uz (x1 _ _ u1 (hs0.extBut _ _ uz e))))))) ⟨_, Heap.get?_push_size _ rfl, rfl⟩
end
end DM
end
section
set_option maxHeartbeats 800000
namespace DM
open PySem PySem.Spec PyProof.Rows L2
/-! ajG: a walk over zip(xs, ys, zs, strict=True) -/
section
variable {prog : Program} {w : World} {A : Around} {s : Shared} {E : Value → Shared → Prop}
theorem aeO {elts : List Expr} {k : Nat} {pos : Pos} {z TI TO T : Addr} {Q : Unit → Shared → Prop} (hz : eX s.heap z TI TO (rawInt T)) (hQ : ∀ h1, eX h1 z TI TO .none → Heap.SameBut z s.heap h1 → Q () { s with heap := h1 }) : wpAny (model prog w) A (letOwnedTupleGo (.Tuple elts k pos) (.ref z) (.ref T)) Q E s := by
  unfold letOwnedTupleGo
  refine wpAny_bind ((wpAny_load hz ?_))
  show wpAny _ _ (if (["enumerate", "zip", "dict_itemiterator", "dict_reverseitemiterator", "odict_iterator", "itertools.zip_longest", "itertools.pairwise"].contains "zip" && (#[rawInt T, .bool false, .bool true, .ref TI, .ref TO] : Array Value)[0]? == some (rawInt T)) = true then _ else _) Q E s
  rw [if_pos (by simp)]
  refine wpAny_bind (wpAny_rule ?_)
  show wpAny _ _ (setField (.ref z) 0 .none) Q E s
  exact wpAny_setField_rec hz (by simp) fun h1 z1 s1 => hQ h1 z1 s1
theorem Ot {z TI TO : Addr} {f0 : Value} {Q : Value → Shared → Prop} (hz : eX s.heap z TI TO f0) (h : Q (.ref z) s) : wpAny (model prog w) A (pyIter (.ref z)) Q E s := by
  have ty : s.TypeIs (.ref z) "zip" := ⟨_, hz, rfl⟩
  refine wpAny_pyIter_slot ty F.slot_zip_iter (wpAny_call_entry F.slot_zip_iter ty F.entry_zip_iter ?_ (F.args_zip_iter_1 _))
  show wpAny _ _ (ret (.ref z)) _ _ s
  exact wpAny_pure ⟨_, rfl, "zip", _, ty, F.slot_zip_next.lookup, h⟩
section
variable {elts : List Expr} {k i : Nat} {pos : Pos} {z TI TO i1 i2 i3 : Addr} {fp1 fp2 fp3 : List Addr} {n1 n2 n3 : Nat} {P1 P2 P3 : Nat → Value → Prop} {St1 St2 St3 : Nat → Heap → Prop} {a1 a2 a3 : Value}
theorem WL {Q : Value → Shared → Prop} (S : ZipSep3 z TI TO i1 i2 i3 fp1 fp2 fp3) (D1 : Draws prog w A.in1 i1 fp1 n1 P1 St1) (D2 : Draws prog w A.in1 i2 fp2 n2 P2 St2) (D3 : Draws prog w A.in1 i3 fp3 n3 P3 St3)
    (hz : eX s.heap z TI TO .none) (hTI : IsTupOf3 s.heap TI (.ref i1) (.ref i2) (.ref i3)) (hTO : IsTupOf3 s.heap TO a1 a2 a3) (st1 : St1 i s.heap) (st2 : St2 i s.heap) (st3 : St3 i s.heap) (l1 : i < n1) (l2 : i < n2) (l3 : i < n3)
    (hQ : ∀ T x y u h1 tk, s.heap.objs.size ≤ T → P1 i x → P2 i y → P3 i u → h1.get? T = some (eY [x, y, u]) → (eX h1 z TI TO .none ∧ IsTupOf3 h1 TI (.ref i1) (.ref i2) (.ref i3) ∧ (∃ b1 b2 b3, IsTupOf3 h1 TO b1 b2 b3) ∧ St1 (i + 1) h1 ∧ St2 (i + 1) h1 ∧ St3 (i + 1) h1) →
      (∀ b o, b ∉ [z, TO, i1, i2, i3] → s.heap.get? b = some o → h1.get? b = some o) → Q (.ref T) { s with heap := h1, toks := tk }) :
    wpAny (model prog w) A (pyNext (.ref z)) (fun r s₁ => ∃ v, r = some v ∧ wpAny (model prog w) A (letOwnedTupleGo (.Tuple elts k pos) (.ref z) v) (fun _ s₂ => Q v s₂) E s₁) E s := by
  have ty : s.TypeIs (.ref z) "zip" := ⟨_, hz, rfl⟩
  unfold pyNext
  refine wpAny_bind (wpAny_attempt (wpAny_callSpecial?_slot (name := Str.ofString "__next__") ty F.slot_zip_next (wpAny_call_entry F.slot_zip_next ty F.entry_zip_next
    (WK S D1 D2 D3 hz hTI hTO st1 st2 st3 l1 l2 l3 fun x y u h1 tk p1 p2 p3 b1 b2 d1 d2 d3 b5 b6 k1 => wpAny_pure ⟨_, rfl, ?_⟩) (F.args_zip_next_1 _))))
  exact aeO (s := { s with heap := h1, toks := tk }) b1 fun h2 z2 sb => hQ s.heap.objs.size x y u h2 tk (Nat.le_refl _) p1 p2 p3 (sb.extBut _ _ (Nat.ne_of_gt (Heap.lt_size hz)) b5)
    ⟨z2, sb.extBut _ _ S.TIz (k1 _ _ S.TIz S.TITO S.TIi1 S.TIi2 S.TIi3 hTI), ⟨_, _, _, sb.extBut _ _ S.TOz b2⟩, D1.over d1 sb S.zf1, D2.over d2 sb S.zf2, D3.over d3 sb S.zf3⟩
    fun c o hc e => sb.extBut _ _ (fun q => hc (by simp [q])) (k1 c o (fun q => hc (by simp [q])) (fun q => hc (by simp [q])) (fun q => hc (by simp [q])) (fun q => hc (by simp [q])) (fun q => hc (by simp [q])) e)
theorem WM {Q : Option Value → Shared → Prop} (hh : A.handled = none) (S : ZipSep3 z TI TO i1 i2 i3 fp1 fp2 fp3) (D1 : Draws prog w A.in1 i1 fp1 n1 P1 St1) (D2 : Draws prog w A.in1 i2 fp2 n2 P2 St2) (D3 : Draws prog w A.in1 i3 fp3 n3 P3 St3)
    (hz : eX s.heap z TI TO .none) (hTI : IsTupOf3 s.heap TI (.ref i1) (.ref i2) (.ref i3)) (hTO : IsTupOf3 s.heap TO a1 a2 a3) (st1 : St1 n1 s.heap) (st2 : St2 n2 s.heap) (st3 : St3 n3 s.heap)
    (hQ : ∀ h1 tk, (∀ b o, b ∉ [z, TO, i1, i2, i3] → s.heap.get? b = some o → h1.get? b = some o) → Q none { s with heap := h1, toks := tk }) : wpAny (model prog w) A (pyNext (.ref z)) Q E s := by
  have ty : s.TypeIs (.ref z) "zip" := ⟨_, hz, rfl⟩
  unfold pyNext
  refine wpAny_bind (wpAny_attempt (wpAny_callSpecial?_slot (name := Str.ofString "__next__") ty F.slot_zip_next (wpAny_call_entry F.slot_zip_next ty F.entry_zip_next
    (Z4 (by first | exact hh | simpa using hh) S D1 D2 D3 hz hTI hTO st1 st2 st3 fun h1 tk e hk he => ?_) (F.args_zip_next_1 _))))
  obtain ⟨o, ho, hc⟩ := he
  refine wpAny_bind (wpAny_isInstance (T := "StopIteration") (b := true) ⟨o, ho, hc⟩ isSubtype_stop ?_)
  exact wpAny_pure (hQ _ _ fun b o hb e => hk b o (fun q => hb (by simp [q])) (fun q => hb (by simp [q])) (fun q => hb (by simp [q])) (fun q => hb (by simp [q])) (fun q => hb (by simp [q])) e)
end
end
def WQ (b1 b2 b3 : Bool) (K : PySem.W.Frag) (a b c : Addr) : It :=
  ⟨fun i H => ∃ (xs ys us : List V) (x y u : V), gY b1 K H a xs ∧ gY b2 K H b ys ∧ gY b3 K H c us ∧ xs[i]? = some x ∧ ys[i]? = some y ∧ us[i]? = some u,
    fun i H v H' => ∃ T o x y u, Nd o ∧ v = .ref T ∧ H T = none ∧ H' = upd H T (.frz o (.tup [x, y, u])) ∧ (∀ xs, gY b1 K H a xs → xs[i]? = some x) ∧ (∀ ys, gY b2 K H b ys → ys[i]? = some y) ∧ ∀ us, gY b3 K H c us → us[i]? = some u,
    fun i H => ∃ xs ys us : List V, gY b1 K H a xs ∧ gY b2 K H b ys ∧ gY b3 K H c us ∧ xs.length = i ∧ ys.length = i ∧ us.length = i⟩
theorem LC {P : Program} {w : World} {K : PySem.W.Frag} {elts : List Expr} {kk : Nat} {tpos : Pos} (b1 b2 b3 : Bool) (a b c z TI TO i1 i2 i3 : Addr) (S : ZipSep3 z TI TO i1 i2 i3 [i1, a] [i2, b] [i3, c]) (h1 : a ≠ i1) (h2 : b ≠ i2) (h3 : c ≠ i3) :
    Turn P w K (.Tuple elts kk tpos) (WQ b1 b2 b3 K a b c) [z, TI, TO, i1, i2, i3] z (fun i h => eX h z TI TO .none ∧ IsTupOf3 h TI (.ref i1) (.ref i2) (.ref i3) ∧ (∃ x y u, IsTupOf3 h TO x y u) ∧ kW b1 h i1 a i ∧ kW b2 h i2 b i ∧ kW b3 h i3 c i) where
  mem := by simp
  obj := fun i h st e he => by
    obtain ⟨hz, hTI, ⟨x, y, u, hTO⟩, s1, s2, s3⟩ := st
    have e' : e = z ∨ e = TI ∨ e = TO ∨ e = i1 ∨ e = i2 ∨ e = i3 := by simpa using he
    rcases e' with q | q | q | q | q | q
    · rw [q]; exact ⟨_, hz, fun v q => nomatch q⟩
    · rw [q]; exact ⟨_, hTI, fun v q => nomatch q⟩
    · rw [q]; exact ⟨_, hTO, fun v q => nomatch q⟩
    · rw [q]; exact cZ s1
    · rw [q]; exact cZ s2
    · rw [q]; exact cZ s3
  keep := fun i h h' st k => by
    obtain ⟨hz, hTI, ⟨x, y, u, hTO⟩, s1, s2, s3⟩ := st
    exact ⟨k z (by simp) _ hz, k TI (by simp) _ hTI, ⟨x, y, u, k TO (by simp) _ hTO⟩, fH s1 fun o q => k i1 (by simp) o q, fH s2 fun o q => k i2 (by simp) o q, fH s3 fun o q => k i3 (by simp) o q⟩
  item := by
    intro X hP hw hK hc i pins s σ H E I hf st hg
    subst hP hw hK
    obtain ⟨hz, hTI, hTO, s1, s2, s3⟩ := st
    obtain ⟨xs, ys, us, x, y, u, hqx, hqy, hqu, hx, hy, hu⟩ := hg
    obtain ⟨its, rv, p1⟩ := cY I hqx
    obtain ⟨its2, rv2, p2⟩ := cY I hqy
    obtain ⟨yQ, rv3, p3⟩ := cY I hqu
    obtain ⟨v1, hv1, ru1⟩ := rv.get hx
    obtain ⟨v2, hv2, ru2⟩ := rv2.get hy
    obtain ⟨v3, hv3, ru3⟩ := rv3.get hu
    have Cy := hTO
    obtain ⟨a1, a2, a3, Cy⟩ := Cy
    have q1 := (List.getElem?_eq_some_iff.mp hv1).1
    have q2 := (List.getElem?_eq_some_iff.mp hv2).1
    have q3 := (List.getElem?_eq_some_iff.mp hv3).1
    refine WL S (bU (prog := X.prog) (w := X.w) (A := X.A.in1) (I.ok.hd hc) b1 i1 a h1 its.toArray) (bU (prog := X.prog) (w := X.w) (A := X.A.in1) (I.ok.hd hc) b2 i2 b h2 its2.toArray) (bU (prog := X.prog) (w := X.w) (A := X.A.in1) (I.ok.hd hc) b3 i3 c h3 yQ.toArray) hz hTI Cy ⟨s1, p1⟩ ⟨s2, p2⟩ ⟨s3, p3⟩ (by simpa using q1) (by simpa using q2) (by simpa using q3) fun T y1 y2 y3 h' tk hT hy1 hy2 hy3 hIT hst hk => ?_
    have e1 : y1 = v1 := by
      rw [List.getElem?_toArray, hv1] at hy1
      exact (Option.some.inj hy1).symm
    have e2 : y2 = v2 := by
      rw [List.getElem?_toArray, hv2] at hy2
      exact (Option.some.inj hy2).symm
    have e3 : y3 = v3 := by
      rw [List.getElem?_toArray, hv3] at hy3
      exact (Option.some.inj hy3).symm
    subst e1 e2 e3
    have new : ObjOk X.prog X.w (upd H T (.frz (eY [y1, y2, y3]) (.tup [x, y, u]))) h' T (.frz (eY [y1, y2, y3]) (.tup [x, y, u])) :=
      ⟨hIT, by show 3 ≤ sizeLine; decide, [y1, y2, y3], .cons ru1 (.cons ru2 (.cons ru3 .nil)), _, hIT, rfl, _, rfl⟩
    have I1 : Inv X pins σ (upd H T (.frz (eY [y1, y2, y3]) (.tup [x, y, u]))) { s with heap := h', toks := tk } := I.turnedNew (ch := [z, TO, i1, i2, i3]) (fun b ob hb q => hk b ob hb q) (fun c hc => hf c (by
      have e' : c = z ∨ c = TO ∨ c = i1 ∨ c = i2 ∨ c = i3 := by simpa using hc
      rcases e' with q | q | q | q | q <;> simp [q])) hT new
    refine ⟨.ref T, _, I1, rfl, ⟨T, _, x, y, u, jA _, rfl, I.hok.fresh hT, rfl, fun l hl => by rw [ju I hl hqx]; exact hx, fun l hl => by rw [ju I hl hqy]; exact hy, fun l hl => by rw [ju I hl hqu]; exact hu⟩, ⟨hst.1, hst.2.1, hst.2.2.1, hst.2.2.2.1.1, hst.2.2.2.2.1.1, hst.2.2.2.2.2.1⟩, fun e hem => ?_⟩
    have heT : e ≠ T := by
      have hlt : e < s.heap.objs.size := by
        have e' : e = z ∨ e = TI ∨ e = TO ∨ e = i1 ∨ e = i2 ∨ e = i3 := by simpa using hem
        obtain ⟨q3, q4, q5, hTO⟩ := hTO
        rcases e' with q | q | q | q | q | q
        · rw [q]; exact Heap.lt_size hz
        · rw [q]; exact Heap.lt_size hTI
        · rw [q]; exact Heap.lt_size hTO
        · rw [q]; obtain ⟨_, e, _⟩ := cZ s1; exact Heap.lt_size e
        · rw [q]; obtain ⟨_, e, _⟩ := cZ s2; exact Heap.lt_size e
        · rw [q]; obtain ⟨_, e, _⟩ := cZ s3; exact Heap.lt_size e
      exact Nat.ne_of_lt (Nat.lt_of_lt_of_le hlt hT)
    rw [upd_ne heT]
    exact (hf e hem).1
  done := by
    intro X hP hw hK hc i pins s σ H E I hf st hg
    subst hP hw hK
    obtain ⟨hz, hTI, ⟨a1, a2, a3, hTO⟩, s1, s2, s3⟩ := st
    obtain ⟨xs, ys, us, hqx, hqy, hqu, n1, n2, n3⟩ := hg
    obtain ⟨its, rv, p1⟩ := cY I hqx
    obtain ⟨its2, rv2, p2⟩ := cY I hqy
    obtain ⟨yQ, rv3, p3⟩ := cY I hqu
    have l1 := rv.length
    have l2 := rv2.length
    have l3 := rv3.length
    have m1 : its.toArray.size = i := by simp only [List.size_toArray]; omega
    have m2 : its2.toArray.size = i := by simp only [List.size_toArray]; omega
    have m3 : yQ.toArray.size = i := by simp only [List.size_toArray]; omega
    exact WM (by first | exact I.ok.hd hc | simpa using I.ok.hd hc) S (bU (prog := X.prog) (w := X.w) (A := X.A.in1) (I.ok.hd hc) b1 i1 a h1 its.toArray) (bU (prog := X.prog) (w := X.w) (A := X.A.in1) (I.ok.hd hc) b2 i2 b h2 its2.toArray) (bU (prog := X.prog) (w := X.w) (A := X.A.in1) (I.ok.hd hc) b3 i3 c h3 yQ.toArray) hz hTI hTO ⟨by rw [m1]; exact s1, p1⟩ ⟨by rw [m2]; exact s2, p2⟩ ⟨by rw [m3]; exact s3, p3⟩ fun h' tk hk => ⟨rfl, I.turnedL (ch := [z, TO, i1, i2, i3]) hk (fun c hc => hf c (by
      have e' : c = z ∨ c = TO ∨ c = i1 ∨ c = i2 ∨ c = i3 := by simpa using hc
      rcases e' with q | q | q | q | q <;> simp [q]))⟩
  self := fun A i s Q E st h => Ot st.1 h
def WR (K : PySem.W.Frag) (ta : TA) : TI := fun σ H R => ta σ H fun vs H1 => ∃ b1 b2 b3 a b c xs ys us, vs = [.ref a, .ref b, .ref c] ∧ gY b1 K H1 a xs ∧ gY b2 K H1 b ys ∧ gY b3 K H1 c us ∧ R (WQ b1 b2 b3 K a b c) H1
theorem LK {M : Model} {env : Env} {A : Around} {s : Shared} {E : Value → Shared → Prop} {pos : Pos} {T : String} {e : Expr} {rest : List Expr} {kws : List Keyword} {Q : Value → Shared → Prop}
    (h : wpAny M A (spliced (backTo pos (starEach (e :: rest) env))) (fun vs t1 => wpAny M A (evalAll ((backToKw pos (keywordEach kws env)).map (·.2))) (fun kvs t2 => wpAny M A (call (.type T) vs (((backToKw pos (keywordEach kws env)).filterMap (·.1)).zip kvs)) Q E t2) E t1) E s)
    (he : backTo pos (starEach (e :: rest) env) = (false, eval e env) :: backTo pos (starEach rest env)) (hpl : (backTo pos (starEach (e :: rest) env)).any (·.1) = false) (hall : (backToKw pos (keywordEach kws env)).all (·.1.isSome) = true) (hkw : (backToKw pos (keywordEach kws env)).any (·.1.isNone) = false) :
    wpAny M A (callWith pos (.type T) [] (backTo pos (starEach (e :: rest) env)) (backToKw pos (keywordEach kws env))) Q E s := by
  unfold callWith
  have h2 : wpAny M A (evalArgs (.type T) true (backTo pos (starEach (e :: rest) env)) (backToKw pos (keywordEach kws env))) (fun a t1 => wpAny M A (call (.type T) ([] ++ a.pos) a.kw) Q E t1) E s := by
    rw [he] at h ⊢
    exact PyProof.Rows.evalArgs_kwB hall h
  refine wpAny_bind ((wpAny_holding (wpAny_mono h2 (fun a t1 h1 => wpAny_bind (wpAny_standAt ?_)) fun _ _ x => x)))
  simp only [hpl, hkw, Bool.or_false]
  refine wpAny_bind ((wpAny_pure ?_))
  exact wpAny_bind (wpAny_mono h1 (fun r t2 hr => wpAny_bind (wpAny_holding (wpAny_point (wpAny_pure hr)))) fun _ _ x => x)
theorem WT {X : Cx} {e e2 e3 : Expr} {ta : TA} {p pos tpos cp kp : Pos} {elts : List Expr} {kk j : Nat} (hg : Gl X "zip") (hm : X.mg "zip" = none) (ha : PA X [e, e2, e3] ta)
    (he : backTo pos (starEach [e, e2, e3] X.env) = (false, eval e X.env) :: backTo pos (starEach [e2, e3] X.env) := by rfl) (hpl : (backTo pos (starEach [e, e2, e3] X.env)).any (·.1) = false := by rfl) :
    PI X (.Tuple elts kk tpos) (.Call (.Name "zip" p) [e, e2, e3] [⟨some (Str.ofString "strict"), .Constant (.bool true) j cp, kp⟩] pos) (WR X.K ta) := by
  have hk : PK X [⟨some (Str.ofString "strict"), .Constant (.bool true) j cp, kp⟩] _ := pk_cons pe_bl pk_nil
  refine ⟨fun pins s σ H R I h => ?_⟩
  refine wpAny_Call_Name_kw (ld_blt I hg hm PyProof.Rows.boot_zip ?_ (by decide) (by decide))
  refine LK (thn (ha.run pos pins s σ H _ I h) fun us s1 ⟨vs, H1, I1, r1, q1⟩ => thn (hk.run pos pins s1 σ H1 (fun zs H2 => zs = [V.bl true] ∧ H2 = H1) I1 ⟨rfl, rfl⟩) fun ws s2 ⟨zs, H2, I2, r2, q2⟩ => ?_) he hpl (by rfl) (by rfl)
  obtain ⟨rfl, rfl⟩ := q2
  have hks : (backToKw pos (keywordEach [⟨some (Str.ofString "strict"), .Constant (.bool true) j cp, kp⟩] X.env)).filterMap (·.1) = [Str.ofString "strict"] := by rfl
  rw [hks]
  obtain ⟨b1, b2, b3, a, b, c, xs, ys, zs, ex, hqx, hqy, WW, q⟩ := q1
  subst ex
  cases r2 with
  | cons rb rr =>
    cases rr
    cases rb
    cases r1 with
    | cons r rr =>
      cases rr with
      | cons r' rr =>
        cases rr with
        | cons r'' rr =>
          cases rr
          cases r
          cases r'
          cases r''
          obtain ⟨its, rv, p1⟩ := cY I2 hqx
          obtain ⟨its2, rv2, p2⟩ := cY I2 hqy
          obtain ⟨yQ, rv3, p3⟩ := cY I2 WW
          have la := jB p1
          have lb := jB p2
          have lc := jB p3
          refine Io (fG b1 a its.toArray) (fG b2 b its2.toArray) (fG b3 c yQ.toArray) p1 p2 p3 fun h' hz hTI hTO g1 g2 g3 hsz hk => Ot hz ?_
          have I3 : Inv X pins σ H2 { s2 with heap := h' } := I2.kept (t' := s2.toks) hk
          refine ⟨s2.heap.objs.size + 5, [s2.heap.objs.size + 5, s2.heap.objs.size + 3, s2.heap.objs.size + 4, s2.heap.objs.size, s2.heap.objs.size + 1, s2.heap.objs.size + 2], _, _, H2, rfl, I3, LC b1 b2 b3 a b c _ _ _ _ _ _ (zip_sep3 (N := s2.heap.objs.size) (fp1 := [a]) (fp2 := [b]) (fp3 := [c]) (fun u hu => by rw [List.mem_singleton.mp hu]; exact la) (fun u hu => by rw [List.mem_singleton.mp hu]; exact lb) (fun u hu => by rw [List.mem_singleton.mp hu]; exact lc)) (Nat.ne_of_lt la) (Nat.ne_of_lt (Nat.lt_succ_of_lt lb)) (Nat.ne_of_lt (Nat.lt_succ_of_lt (Nat.lt_succ_of_lt lc))), ⟨hz, hTI, ⟨_, _, _, hTO⟩, iy g1, iy g2, iy g3⟩, fun u hum => ?_, q⟩
          have e' : u = s2.heap.objs.size + 5 ∨ u = s2.heap.objs.size + 3 ∨ u = s2.heap.objs.size + 4 ∨ u = s2.heap.objs.size ∨ u = s2.heap.objs.size + 1 ∨ u = s2.heap.objs.size + 2 := by simpa using hum
          have hle : s2.heap.objs.size ≤ u := by
            rcases e' with z | z | z | z | z | z
            · rw [z]; exact Nat.le_add_right _ _
            · rw [z]; exact Nat.le_add_right _ _
            · rw [z]; exact Nat.le_add_right _ _
            · rw [z]; exact Nat.le_refl _
            · rw [z]; exact Nat.le_add_right _ _
            · rw [z]; exact Nat.le_add_right _ _
          exact I2.fpOk hle (I2.hok.fresh hle)
end DM
end
section
set_option maxHeartbeats 800000
namespace DM
open PySem PySem.Spec PyProof.Rows L2
/-! ajI: zip(xs, ys, zs, strict=True) on data -/
def lG (ds es us : List D) : List D := (ds.zip (es.zip us)).map fun p => .tup [p.1, p.2.1, p.2.2]
theorem mU {ds es us : List D} (h1 : ds.length = es.length) (h2 : es.length = us.length) : (lG ds es us).length = ds.length := by
  unfold lG
  rw [List.length_map, List.length_zip, List.length_zip]
  omega
theorem yR {ds es us : List D} {i : Nat} {d e u : D} (h1 : ds[i]? = some d) (h2 : es[i]? = some e) (h3 : us[i]? = some u) : (lG ds es us)[i]? = some (.tup [d, e, u]) := by
  unfold lG
  have z2 : (es.zip us)[i]? = some (e, u) := List.getElem?_zip_eq_some.mpr ⟨h2, h3⟩
  have z1 : (ds.zip (es.zip us))[i]? = some (d, e, u) := List.getElem?_zip_eq_some.mpr ⟨h1, z2⟩
  rw [List.getElem?_map, z1]
  rfl
theorem LQ {K : PySem.W.Frag} {F H : Hp} {o : Obj} {T : Addr} {d e u : D} {x y z : V} (s : Ext F H) (nd : Nd o) (hT : H T = none) (h1 : Dq K F d x) (h2 : Dq K F e y) (h3 : Dq K F u z) : Grow F H (upd F T (.frz o (.tup [x, y, z]))) (upd H T (.frz o (.tup [x, y, z]))) ∧ Dq K (upd F T (.frz o (.tup [x, y, z]))) (.tup [d, e, u]) (.ref T) := by
  have g := Grow.obj s (o := .frz o (.tup [x, y, z])) hT
  refine ⟨g, ?_⟩
  simp only [Dq]
  exact ⟨T, _, rfl, ⟨o, nd, upd_same⟩, .cons (Dq.mono g.f _ _ h1) (.cons (Dq.mono g.f _ _ h2) (.cons (Dq.mono g.f _ _ h3) .nil))⟩
theorem WY {K : PySem.W.Frag} {F0 : Hp} {b1 b2 b3 : Bool} {a b c : Addr} {vs ws us : List V} {ds es ts : List D} (h : gY b1 K F0 a vs) (d : aV K F0 ds vs) (h2 : gY b2 K F0 b ws) (d2 : aV K F0 es ws) (h3 : gY b3 K F0 c us) (d3 : aV K F0 ts us) (l1 : ds.length = es.length) (l2 : es.length = ts.length) : YB K F0 (WQ b1 b2 b3 K a b c) (lG ds es ts) where
  go := fun i F H e1 e2 hi => by
    have n1 := d.length
    have n2 := d2.length
    have n3 := d3.length
    rw [mU l1 l2] at hi
    have i1 : i < vs.length := by omega
    have i2 : i < ws.length := by omega
    have i3 : i < us.length := by omega
    exact ⟨vs, ws, us, vs[i], ws[i], us[i], aW (e1.trans e2) h, aW (e1.trans e2) h2, aW (e1.trans e2) h3, by simp [i1], by simp [i2], by simp [i3]⟩
  stop := fun F H e1 e2 => by
    have n1 := d.length
    have n2 := d2.length
    have n3 := d3.length
    rw [mU l1 l2]
    exact ⟨vs, ws, us, aW (e1.trans e2) h, aW (e1.trans e2) h2, aW (e1.trans e2) h3, by omega, by omega, by omega⟩
  yld := fun i F H x H' e1 e2 hi y => by
    obtain ⟨T, ob, u, u2, u3, nd, rfl, hT, rfl, y1, y2, y3⟩ := y
    obtain ⟨d', k1, k2⟩ := d.wO (y1 vs (aW (e1.trans e2) h))
    obtain ⟨d'', k3, k4⟩ := d2.wO (y2 ws (aW (e1.trans e2) h2))
    obtain ⟨d3', k5, k6⟩ := d3.wO (y3 us (aW (e1.trans e2) h3))
    obtain ⟨g, q⟩ := LQ e2 nd hT (Dq.mono e1 _ _ k2) (Dq.mono e1 _ _ k4) (Dq.mono e1 _ _ k6)
    exact ⟨_, _, yR k1 k3 k5, g, q⟩
def lH (f g h : aq → R Val) (ρ : aq) : R (List D) := (bY f ρ).bind fun ds ρ1 => (bY g ρ1).bind fun es ρ2 => (bY h ρ2).bind fun us ρ3 => if ds.length = es.length ∧ es.length = us.length then .ok (lG ds es us) ρ3 else .bad
section
variable {C : Cs} {Z : ZX}
theorem Ip {te ue ve : TE} {f g k : aq → R Val} (h : Impl C Z te f) (h' : Impl C Z ue g) (h'' : Impl C Z ve k) : qQ C Z (WR C.K (tCons te (tCons ue (tCons ve tNil)))) (lH f g k) := by
  intro o F H σ ρ T Q S q
  unfold lH at q
  rw [aH] at q
  refine eE h S (aG q (fun ds ρ1 h1 F1 H1 v e0 S1 hd => ?_) fun _ _ h => h)
  rw [aH] at h1
  refine eE h' S1 (aG h1 (fun es ρ2 h2 F2 H2 v2 e1 S2 hd2 => ?_) fun _ _ h F' H' s => h F' H' s.drop)
  rw [aH] at h2
  refine eE h'' S2 (aG h2 (fun us ρ3 h3 F3 H3 v3 e2 S3 hd3 => ?_) fun _ _ h F' H' s => h F' H' s.drop.drop)
  obtain ⟨a, vs, b, rfl, q3, q4⟩ := S3.itemsOf (v := v) (by simp) hd
  obtain ⟨a2, ws, b2, rfl, q5, q6⟩ := S3.itemsOf (v := v2) (by simp) hd2
  obtain ⟨a3, xs, b3, rfl, q7, q8⟩ := S3.itemsOf (v := v3) (by simp) hd3
  by_cases c : ds.length = es.length ∧ es.length = us.length
  · rw [if_pos c] at h3
    exact ⟨b, b2, b3, a, a2, a3, vs, ws, xs, rfl, aW S3.sub q3, aW S3.sub q5, aW S3.sub q7, h3 F3 H3 _ S3.drop.drop.drop (WY q3 q4 q5 q6 q7 q8 c.1 c.2)⟩
  · rw [if_neg c] at h3
    exact h3.elim
end
section
variable {XR : jC} {M : Wd} {X : Cx} {C : Cs} {W : WX} {k : Nat} {N : List Str} {nm : List (Str × NameKind)} {fb : Str → Bool} {e e2 e3 : Expr} {f f2 f3 : aq → R Val} {es : List Expr} {pos p tpos cp kp : Pos} {kk j : Nat}
theorem JI.aeP (G : Ctx M X C W k N nm fb) (hm : M.mg "zip" = none) (hg : zU nm "zip" = true) (h : JE XR X C W e f) (h' : JE XR X C W e2 f2) (h'' : JE XR X C W e3 f3) (hs : starEach [e, e2, e3] X.env = (false, eval e X.env) :: starEach [e2, e3] X.env := by rfl) (hs2 : starEach [e2, e3] X.env = (false, eval e2 X.env) :: starEach [e3] X.env := by rfl) (hs3 : starEach [e3] X.env = [(false, eval e3 X.env)] := by rfl)
    (he : backTo pos (starEach [e, e2, e3] X.env) = (false, eval e X.env) :: backTo pos (starEach [e2, e3] X.env) := by rfl) (hpl : (backTo pos (starEach [e, e2, e3] X.env)).any (·.1) = false := by rfl) : JI XR X C W (.Tuple es kk tpos) (.Call (.Name "zip" p) [e, e2, e3] [⟨some (Str.ofString "strict"), .Constant (.bool true) j cp, kp⟩] pos) (lH f f2 f3) := by
  obtain ⟨g1, _, _⟩ := eV G hg
  obtain ⟨t, h1, h2⟩ := h
  obtain ⟨t', k1, k2⟩ := h'
  obtain ⟨t'', m1, m2⟩ := h''
  refine ⟨_, WT g1 (by rw [G.hmg]; exact hm) (pa_cons h1 (pa_cons k1 (pa_cons m1 pa_nil hs3) hs2) hs) he hpl, ?_⟩
  rw [G.hK]
  exact Ip h2 k2 m2
end
end DM
end
section
set_option maxHeartbeats 1000000
namespace DM
open PySem L2
def Exc (run : List En → R En) (es : List En) (x : Ex) : Prop := ∃ ρ, run es = .exc x ρ
theorem qL {n : Nat} {q : List Nat} (h : bK n q) {i j c : Nat} (h1 : q[i]? = some c) (h2 : q[j]? = some c) : i = j := (List.getElem?_inj (List.getElem?_eq_some_iff.mp h1).1 h.2.1).mp (h1.trans h2.symm)
end DM
end
section
set_option maxHeartbeats 1000000
namespace DM
open PySem L2
/-! how often each two people pass one another, the law's own way -/
end DM
end
section
set_option maxHeartbeats 1000000
namespace DM
open PySem L2
/-! the two afR, whatever they raise -/
def qd (r : aq → R Fl) : aq → R Fl := (bH (bB (aA (fW true) (ao 0) (ao 1))) r (fun ρ => .ok .nx ρ))
theorem W3 {r : aq → R Fl} : Ln (aQ 2 (qd r)) := by
  intro n
  refine ⟨[some (.fr (.int n)), some (.fr (.int n))], ?_⟩
  unfold qd
  simp [gK, tV]
end DM
end
section
set_option maxHeartbeats 1000000
namespace DM
open PySem L2
/-! how far apart, the law's own way -/
end DM
end
section
set_option maxHeartbeats 1000000
namespace DM
open PySem L2
/-! other numbers for the people -/
section
variable {n : Nat} {π q q2 : List Nat} {bs b2 : List Int}
def ps (G : Nat → Nat → Int) : List Nat → Int
  | [] => 0
  | a :: l => (l.map (G a)).sum + ps G l
end
end DM
end
section
set_option maxHeartbeats 1000000
namespace DM
open PySem L2
/-! the law's loop as a beginning; tuples put together -/
end DM
end
section
set_option maxHeartbeats 1000000
namespace DM
open PySem L2
/-! one rich person goes past all others, who sit agB: plain law -/
section
variable {n l : Nat} {q : List Nat} {S e T : Int}
theorem Z5 (hs : bK n q) {w : Nat} (hw : w < n) : q.getD w 0 < n := by
  have e := List.getElem?_eq_getElem (show w < q.length by rw [hs.1]; exact hw)
  rw [getD_at e]
  exact hs.2.2 _ (List.getElem_mem _)
end
end DM
end
section
set_option maxHeartbeats 1000000
namespace DM
open PySem PySem.Spec PyProof.Rows L2
/-! values of any kind -/
theorem Z6 {m : Nat} {s : Str} (h : PyData.strOk s = true) (hl : s.cps.size ≤ m) : Gg m (.str s) := by
  refine ⟨?_, ?_, ?_⟩
  · simp only [toP, PyData.showable]
  · exact PyData.leavesShort_of_canLay0 200 _ (by simpa only [toP, PyData.canLay0] using h) (by simp only [toP, PyData.intsShort])
  · simp only [toP, PyData.bulk]
    exact hl
def Leaf (N : Nat) (d : D) : Prop := (∃ i, d = .int i ∧ i.natAbs < N) ∨ (∃ b, d = .bl b) ∨ d = .non ∨ ∃ s, d = .str s ∧ PyData.strOk s = true ∧ s.cps.size ≤ 100
def Vl (N : Nat) : Nat → D → Prop
  | 0, d => Leaf N d
  | n + 1, d => Leaf N d ∨ ∃ xs, Sq d xs ∧ ∀ x ∈ xs, Vl N n x
mutual
def wt : D → Nat
  | .lst xs => Ym xs
  | .tup xs => Ym xs
  | _ => 100
def Ym : List D → Nat
  | [] => 0
  | x :: xs => wt x + 1 + Ym xs
end
theorem abm {d : D} {xs : List D} (h : Sq d xs) : wt d = Ym xs := by
  rcases h with rfl | rfl
  · unfold wt; rfl
  · unfold wt; rfl
theorem Ou : ∀ xs : List D, xs.length ≤ Ym xs
  | [] => Nat.zero_le _
  | x :: xs => by
    have := Ou xs
    unfold Ym
    rw [List.length_cons]
    omega
theorem Ov : ∀ {xs : List D} {x : D}, x ∈ xs → wt x + 1 ≤ Ym xs
  | y :: xs, x, h => by
    unfold Ym
    rcases List.mem_cons.mp h with rfl | h
    · omega
    · have := Ov h
      omega
section
variable {N n : Nat} {d : D}
theorem Leaf.vl (h : Leaf N d) : Vl N n d := by
  cases n with
  | zero => exact h
  | succ n => exact .inl h
theorem Leaf.abn (h : Leaf N d) : jH n d := by
  rcases h with ⟨i, rfl, _⟩ | ⟨b, rfl⟩ | rfl | ⟨s, rfl, h, _⟩
  · exact pX _
  · exact Nz _
  · exact yE
  · exact V4 h
theorem Leaf.fine (h : Leaf N d) : Fine n d := by
  rcases h with ⟨i, rfl, _⟩ | ⟨b, rfl⟩ | rfl | ⟨s, rfl, h, _⟩
  · exact lE _
  · exact wD _
  · exact yw
  · exact Hg h
theorem Leaf.wt (h : Leaf N d) : DM.wt d = 100 := by
  rcases h with ⟨i, rfl, _⟩ | ⟨b, rfl⟩ | rfl | ⟨s, rfl, h, _⟩ <;> (unfold DM.wt; rfl)
theorem Leaf.shw (h : Leaf N d) (hN : N ≤ 10 ^ 100) : Gg 100 d := by
  rcases h with ⟨i, rfl, hi⟩ | ⟨b, rfl⟩ | rfl | ⟨s, rfl, h, hl⟩
  · exact Eh (Nat.lt_of_lt_of_le hi hN)
  · exact ⟨by simp only [toP, PyData.showable], PyData.leavesShort_of_canLay0 200 _ (wD (n := 0) b).1 (by simp only [toP, PyData.intsShort]), by simp only [toP, PyData.bulk]; omega⟩
  · exact ⟨by simp only [toP, PyData.showable], PyData.leavesShort_of_canLay0 200 _ (yw (n := 0)).1 (by simp only [toP, PyData.intsShort]), by simp only [toP, PyData.bulk]; omega⟩
  · exact Z6 h hl
end
theorem Vl.nest {N : Nat} : ∀ {n : Nat} {d : D}, Vl N n d → wt d ≤ 10000 → jH n d
  | 0, d, h, _ => Leaf.abn h
  | n + 1, d, h, hw => by
    rcases h with h | ⟨xs, hs, hx⟩
    · exact h.abn
    · rw [abm hs] at hw
      exact wF hs (Nat.le_trans (Ou xs) hw) fun x hm => Vl.nest (hx x hm) (by have := Ov hm; omega)
theorem Vl.fine {N : Nat} : ∀ {n : Nat} {d : D}, Vl N n d → Fine n d
  | 0, d, h => Leaf.fine h
  | n + 1, d, h => by
    rcases h with h | ⟨xs, hs, hx⟩
    · exact h.fine
    · rcases hs with rfl | rfl
      · exact tL fun x hm => Vl.fine (hx x hm)
      · exact tK fun x hm => Vl.fine (hx x hm)
theorem W4 : ∀ {xs : List D}, (∀ x ∈ xs, Gg (wt x) x) → PyData.showableAll (iH xs) = true ∧ PyData.leavesShortAll 200 (iH xs) = true ∧ PyData.bulkAll (iH xs) ≤ Ym xs
  | [], _ => by simp [iH, PyData.showableAll, PyData.leavesShortAll, PyData.bulkAll]
  | x :: xs, h => by
    obtain ⟨h1, h2, h3⟩ := h x List.mem_cons_self
    obtain ⟨k1, k2, k3⟩ := W4 fun y hy => h y (List.mem_cons_of_mem _ hy)
    unfold iH PyData.showableAll PyData.leavesShortAll PyData.bulkAll Ym
    exact ⟨by rw [h1, k1]; rfl, by rw [h2, k2]; rfl, by omega⟩
theorem Vl.shw {N : Nat} (hN : N ≤ 10 ^ 100) : ∀ {n : Nat} {d : D}, Vl N n d → Gg (wt d) d
  | 0, d, h => by
    have := Leaf.shw h hN
    rw [Leaf.wt h]
    exact this
  | n + 1, d, h => by
    rcases h with h | ⟨xs, hs, hx⟩
    · rw [h.wt]
      exact h.shw hN
    · rw [abm hs]
      obtain ⟨k1, k2, k3⟩ := W4 (xs := xs) fun x hm => Vl.shw hN (hx x hm)
      rcases hs with rfl | rfl
      · exact ⟨by unfold toP PyData.showable; exact k1, by unfold toP PyData.leavesShort; exact k2, by unfold toP PyData.bulk; exact k3⟩
      · exact ⟨by unfold toP PyData.showable; exact k1, by unfold toP PyData.leavesShort; exact k2, by unfold toP PyData.bulk; exact k3⟩
theorem Vl.repr {N n : Nat} {d : D} {e : En} (h : Vl N n d) (hN : N ≤ 10 ^ 100) (hn : n ≤ 60) (hw : wt d ≤ 50000) (he : asD e = some d) (hr : Qx d = true) : mZ [e] = some (.fr (qO d)) := Hf he hr h.fine hn (h.shw hN) hw
theorem Leaf.up {N M : Nat} (hm : N ≤ M) {d : D} (h : Leaf N d) : Leaf M d := by
  rcases h with ⟨i, rfl, hi⟩ | h
  · exact .inl ⟨i, rfl, by omega⟩
  · exact .inr h
theorem Vl.up {N M : Nat} (hm : N ≤ M) : ∀ {n k : Nat} {d : D}, n ≤ k → Vl N n d → Vl M k d
  | 0, k, d, _, h => (Leaf.up hm h).vl
  | n + 1, 0, d, hk, h => by omega
  | n + 1, k + 1, d, hk, h => by
    rcases h with h | ⟨xs, hs, hx⟩
    · exact .inl (h.up hm)
    · exact .inr ⟨xs, hs, fun x hx' => Vl.up hm (by omega) (hx x hx')⟩
end DM
end
section
set_option maxHeartbeats 1000000
namespace DM
open PySem PySem.Spec PyProof.Rows L2
/-! anything -/
def Ir : List D := [.non, (.bl true), (.bl false), (.int 0), (.int 1), (.int (-1)), (.int 1000000000000000000000000000000), (.str ""), (.str "0:1 1:0"), (.tup []), (.lst []), (.tup [(.tup []), (.tup [])]), (.tup [(.tup [(.int 0)]), (.tup [(.int 1)])]), (.tup [(.tup [(.int 0), (.int 1)]), (.tup [(.int 1), (.int 0)])])]
def anyB : List D := [(.tup [(.tup [(.int 0), (.int 1)]), (.lst [(.int 1), (.int 0)])]), (.lst [(.tup [(.int 0), (.int 1)]), (.tup [(.int 1), (.int 0)])]), (.tup [(.tup [(.int 0), (.int 1)]), (.tup [(.int 1)])]), (.tup [(.tup [(.int 0), (.int 0)]), (.tup [(.int 1), (.int 0)])]), (.tup [(.tup [(.int 0), (.int 1)]), (.tup [(.int 1), (.int (-1))])])]
def anyC : List D := [(.tup [(.int 0), (.int 1)]), (.lst [(.int 0), (.int 1)]), (.tup [(.tup [(.bl false), (.bl true)]), (.tup [(.int 1), (.int 0)])]), (.tup [(.tup [(.int 0), (.int 1)]), (.tup [(.bl true), (.int 0)])]), (.tup [(.tup [(.int 0), (.int 1)]), (.tup [(.int 1), (.int 0)]), (.tup [])])]
def agC : List D := [(.lst [(.int 0)]), (.lst [(.lst [(.int 0)])]), (.lst [(.bl true)])]
def agD : List D := Ir ++ anyB ++ anyC ++ agC
theorem an0 {a b c : Int} : (aR false 1 (aP (aj (runC .non) (aj (runC (.bl true)) (aj (runC (.bl false)) (aj (runC (.int 0)) (aj (runC (.int 1)) (aj (JM (g1I fun i => -i) (runC (.int 1))) (aj (aA lC (runC (.int 10)) (runC (.int 30))) (aj (runC (.str "")) (aj (runC (.str "0:1 1:0")) (aj (aK ak) (aj (aM (aP ak)) (aj (aK (aj (aK ak) (aj (aK ak) ak))) (aj (aK (aj (aK (aj (runC (.int 0)) ak)) (aj (aK (aj (runC (.int 1)) ak)) ak))) (aj (aK (aj (aK (aj (runC (.int 0)) (aj (runC (.int 1)) ak))) (aj (aK (aj (runC (.int 1)) (aj (runC (.int 0)) ak))) ak))) ak)))))))))))))))) [some (.ol [.int a, .int b, .int c]), none] = .ok .nx [some (.ol [.int a, .int b, .int c]), some (.fr (.lst Ir))] := by kernel_rfl
theorem an1 {a b c : Int} : (aR false 1 (aA cI (ao 1) (aP (aj (aK (aj (aK (aj (runC (.int 0)) (aj (runC (.int 1)) ak))) (aj (aM (aP (aj (runC (.int 1)) (aj (runC (.int 0)) ak)))) ak))) (aj (aM (aP (aj (aK (aj (runC (.int 0)) (aj (runC (.int 1)) ak))) (aj (aK (aj (runC (.int 1)) (aj (runC (.int 0)) ak))) ak)))) (aj (aK (aj (aK (aj (runC (.int 0)) (aj (runC (.int 1)) ak))) (aj (aK (aj (runC (.int 1)) ak)) ak))) (aj (aK (aj (aK (aj (runC (.int 0)) (aj (runC (.int 0)) ak))) (aj (aK (aj (runC (.int 1)) (aj (runC (.int 0)) ak))) ak))) (aj (aK (aj (aK (aj (runC (.int 0)) (aj (runC (.int 1)) ak))) (aj (aK (aj (runC (.int 1)) (aj (JM (g1I fun i => -i) (runC (.int 1))) ak))) ak))) ak)))))))) [some (.ol [.int a, .int b, .int c]), some (.fr (.lst Ir))] = .ok .nx [some (.ol [.int a, .int b, .int c]), some (.fr (.lst (Ir ++ anyB)))] := by kernel_rfl
theorem an2 {a b c : Int} : (aR false 1 (aA cI (ao 1) (aP (aj (aK (aj (runC (.int 0)) (aj (runC (.int 1)) ak))) (aj (aM (aP (aj (runC (.int 0)) (aj (runC (.int 1)) ak)))) (aj (aK (aj (aK (aj (runC (.bl false)) (aj (runC (.bl true)) ak))) (aj (aK (aj (runC (.int 1)) (aj (runC (.int 0)) ak))) ak))) (aj (aK (aj (aK (aj (runC (.int 0)) (aj (runC (.int 1)) ak))) (aj (aK (aj (runC (.bl true)) (aj (runC (.int 0)) ak))) ak))) (aj (aK (aj (aK (aj (runC (.int 0)) (aj (runC (.int 1)) ak))) (aj (aK (aj (runC (.int 1)) (aj (runC (.int 0)) ak))) (aj (aK ak) ak)))) ak)))))))) [some (.ol [.int a, .int b, .int c]), some (.fr (.lst (Ir ++ anyB)))] = .ok .nx [some (.ol [.int a, .int b, .int c]), some (.fr (.lst (Ir ++ anyB ++ anyC)))] := by kernel_rfl
theorem an3 {a b c : Int} : (aM (aA cI (ao 1) (aP (aj (aM (aP (aj (runC (.int 0)) ak))) (aj (aM (aP (aj (aM (aP (aj (runC (.int 0)) ak))) ak))) (aj (aM (aP (aj (runC (.bl true)) ak))) ak)))))) [some (.ol [.int a, .int b, .int c]), some (.fr (.lst (Ir ++ anyB ++ anyC)))] = .ok (.en (.fr (.lst agD))) [some (.ol [.int a, .int b, .int c]), some (.fr (.lst (Ir ++ anyB ++ anyC)))] := by kernel_rfl
end DM
end
section
set_option maxHeartbeats 1000000
namespace DM
open PySem PySem.Spec PyProof.Rows L2
/-! one thing changed -/
theorem abo {cl : Nat → List En → R En} {cT : Nat} {a0 b0 c0 a1 b1 c1 : Int} {d : D} {s : Int} {rest : aq} (g : cl cT [aY a0 b0 c0, .fr (.int 8)] = .ok (.fr (.int s)) (some (aY a1 b1 c1) :: rest)) : (aR false 2 (au 2 0 [0] [0, 1] (cl cT) (aj (ao 0) (aj (runC (.int 8)) ak)) ak)) [some (.ol [.int a0, .int b0, .int c0]), some (.fr d), none, none, none] = DM.R.ok Fl.nx [some (.ol [.int a1, .int b1, .int c1]), some (.fr d), some (.fr (.int s)), none, none] := by
  have k1 := fun (ρ : aq) hu => iV (ρ := ρ) (i := 0) hu g
  unfold aY at k1
  simp [gK, k1]
section
variable {cT cA cS : Nat} {cl : Nat → List En → R En}
end
end DM
end
section
set_option maxHeartbeats 1000000
namespace DM
open PySem PySem.Spec PyProof.Rows L2
/-! rows that are ways, or not -/
theorem W6 (a b : Int) : zR (.int a) (.int b) = (a == b) := by simp only [zR, toP, PyData.eqv]
end DM
end
section
set_option maxHeartbeats 1000000
namespace DM
open PySem PySem.Spec PyProof.Rows L2
/-! a value that may be asked -/
end DM
end
section
set_option maxHeartbeats 1000000
namespace DM
open PySem PySem.Spec PyProof.Rows L2
/-! states or not -/
end DM
end
section
set_option maxHeartbeats 1000000
namespace DM
open PySem PySem.Spec PyProof.Rows L2
/-! states or not: the program's answer and the law's -/
end DM
end
section
set_option maxHeartbeats 1000000
namespace DM
open PySem L2
/-! all the states along a row; a row that fails -/
section
variable {ca ce : Nat} {cl : Nat → List En → R En}
end
end DM
end
section
set_option maxHeartbeats 1000000
namespace DM
abbrev gj := List Nat × List Int
abbrev Pay := Nat × Int
abbrev Sw := List Nat × List (List Pay)
def fmv (n : Nat) (s : gj) (c : Nat) : gj :=
  ((s.1.set (s.1.idxOf c) (s.1.getD (s.1.idxOf ((c + 1) % n)) 0)).set (s.1.idxOf ((c + 1) % n)) (s.1.getD (s.1.idxOf c) 0),
    (s.2.set (s.1.idxOf c) (s.2.getD (s.1.idxOf c) 0 - 1)).set (s.1.idxOf ((c + 1) % n)) (s.2.getD (s.1.idxOf ((c + 1) % n)) 0 + 1))
def nY (n : Nat) : List Nat → gj → gj
  | [], s => s
  | c :: cs, s => nY n cs (fmv n s c)
theorem vM {n : Nat} : ∀ (a b : List Nat) (s : gj), nY n (a ++ b) s = nY n b (nY n a s)
  | [], _, _ => rfl
  | c :: a, b, s => vM a b (fmv n s c)
structure Fr (n : Nat) (s : gj) : Prop where
  seats : bK n s.1
  len : s.2.length = n
theorem bK.get {n : Nat} {q : List Nat} (h : bK n q) {p : Nat} (hp : p < n) : q.getD p 0 < n ∧ q[p]? = some (q.getD p 0) := by
  have hl := h.1
  have e : q[p]? = some (q[p]'(by omega)) := List.getElem?_eq_getElem (by omega)
  have e2 := getD_at (d := 0) e
  rw [e2]
  exact ⟨h.2.2 _ (List.getElem_mem _), e⟩
theorem bK.BR {n : Nat} {q : List Nat} (h : bK n q) {p : Nat} (hp : p < n) : q.idxOf (q.getD p 0) = p := by
  obtain ⟨h1, h2⟩ := h.get hp
  exact qL h (h.idx h1).2 h2
theorem bK.nZ {n : Nat} {q : List Nat} (h : bK n q) {c : Nat} (hc : c < n) : q.getD (q.idxOf c) 0 = c := getD_at (h.idx hc).2
theorem qM {α : Type} {l : List α} {p m : Nat} {u v d : α} (hp : p < l.length) (hm : m < l.length) (i : Nat) : ((l.set p u).set m v).getD i d = if i = m then v else if i = p then u else l.getD i d := by
  rw [List.getD_eq_getElem?_getD, List.getD_eq_getElem?_getD]
  by_cases i1 : i = m
  · rw [if_pos i1, i1, List.getElem?_set_self (by rw [List.length_set]; exact hm)]
    rfl
  · rw [if_neg i1, List.getElem?_set_ne (Ne.symm i1)]
    by_cases i2 : i = p
    · rw [if_pos i2, i2, List.getElem?_set_self hp]
      rfl
    · rw [if_neg i2, List.getElem?_set_ne (Ne.symm i2)]
theorem yS {n : Nat} {q : List Nat} (h : bK n q) {p m : Nat} (hp : p < n) (hm : m < n) (hne : p ≠ m) : bK n ((q.set p (q.getD m 0)).set m (q.getD p 0)) := by
  have a1 := (h.get hp).2
  have a2 := (h.get hm).2
  exact h.swap a1 a2 hne
section
variable {n : Nat} {s : gj} {c : Nat}
theorem yU (f : Fr n s) (h2 : 2 ≤ n) (hc : c < n) : Fr n (fmv n s c) := by
  have hd : (c + 1) % n < n := Nat.mod_lt _ (by omega)
  refine ⟨yS f.seats (f.seats.idx hc).1 (f.seats.idx hd).1 (f.seats.pY hc hd (next_ne h2 hc)), ?_⟩
  show (List.set _ _ _).length = n
  rw [List.length_set, List.length_set]
  exact f.len
theorem Ox (f : Fr n s) (h2 : 2 ≤ n) (hc : c < n) {e : Nat} (he : e < n) : (fmv n s c).1.idxOf e = if e = c then s.1.idxOf ((c + 1) % n) else if e = (c + 1) % n then s.1.idxOf c else s.1.idxOf e := by
  have hd : (c + 1) % n < n := Nat.mod_lt _ (by omega)
  have f' := yU f h2 hc
  obtain ⟨i1, i2⟩ := f'.seats.idx he
  have hne := f.seats.pY hc hd (next_ne h2 hc)
  have hl := f.seats.1
  have key : ∀ j, j < n → (fmv n s c).1.getD j 0 = e → (fmv n s c).1.idxOf e = j := fun j hj h => by
    rw [← h]
    exact f'.seats.BR hj
  have g := fun j => qM (l := s.1) (p := s.1.idxOf c) (m := s.1.idxOf ((c + 1) % n)) (u := s.1.getD (s.1.idxOf ((c + 1) % n)) 0) (v := s.1.getD (s.1.idxOf c) 0) (d := 0) (by rw [hl]; exact (f.seats.idx hc).1) (by rw [hl]; exact (f.seats.idx hd).1) j
  by_cases e1 : e = c
  · rw [if_pos e1]
    refine key _ (f.seats.idx hd).1 ?_
    show (List.set _ _ _).getD _ 0 = e
    rw [g, if_pos rfl, f.seats.nZ hc, e1]
  · rw [if_neg e1]
    by_cases e2 : e = (c + 1) % n
    · rw [if_pos e2]
      refine key _ (f.seats.idx hc).1 ?_
      show (List.set _ _ _).getD _ 0 = e
      rw [g, if_neg hne, if_pos rfl, f.seats.nZ hd, e2]
    · rw [if_neg e2]
      refine key _ (f.seats.idx he).1 ?_
      show (List.set _ _ _).getD _ 0 = e
      rw [g, if_neg (f.seats.pY he hd e2), if_neg (f.seats.pY he hc e1), f.seats.nZ he]
theorem oh (f : Fr n s) (h2 : 2 ≤ n) (hc : c < n) (p : Nat) : (fmv n s c).2.getD p 0 = if p = s.1.idxOf ((c + 1) % n) then s.2.getD p 0 + 1 else if p = s.1.idxOf c then s.2.getD p 0 - 1 else s.2.getD p 0 := by
  have hd : (c + 1) % n < n := Nat.mod_lt _ (by omega)
  have hl := f.len
  show (List.set _ _ _).getD _ 0 = _
  rw [qM (by rw [hl]; exact (f.seats.idx hc).1) (by rw [hl]; exact (f.seats.idx hd).1)]
  by_cases e1 : p = s.1.idxOf ((c + 1) % n)
  · rw [if_pos e1, if_pos e1, e1]
  · rw [if_neg e1, if_neg e1]
    by_cases e2 : p = s.1.idxOf c
    · rw [if_pos e2, if_pos e2, e2]
    · rw [if_neg e2, if_neg e2]
end
def tot (l : List Pay) : Int := (l.map (·.2)).sum
def wst (n : Nat) (w : Sw) (i c : Nat) : Sw :=
  ((w.1.set c (w.1.getD ((c + 1) % n) 0)).set ((c + 1) % n) (w.1.getD c 0),
    (w.2.set (w.1.getD c 0) (w.2.getD (w.1.getD c 0) [] ++ [(i, -1)])).set (w.1.getD ((c + 1) % n) 0) (w.2.getD (w.1.getD ((c + 1) % n) 0) [] ++ [(i, 1)]))
def wat (n : Nat) : Nat → List Nat → Sw → Sw
  | _, [], w => w
  | i, c :: cs, w => wat n (i + 1) cs (wst n w i c)
structure Wf (n : Nat) (w : Sw) : Prop where
  seats : bK n w.1
  len : w.2.length = n
section
variable {n : Nat} {w : Sw} {i c : Nat}
theorem ac1 (f : Wf n w) (h2 : 2 ≤ n) (hc : c < n) : Wf n (wst n w i c) := by
  have hd : (c + 1) % n < n := Nat.mod_lt _ (by omega)
  refine ⟨yS f.seats hc hd (next_ne h2 hc), ?_⟩
  show (List.set _ _ _).length = n
  rw [List.length_set, List.length_set]
  exact f.len
theorem ac2 (f : Wf n w) (h2 : 2 ≤ n) (hc : c < n) (e : Nat) : (wst n w i c).1.getD e 0 = if e = (c + 1) % n then w.1.getD c 0 else if e = c then w.1.getD ((c + 1) % n) 0 else w.1.getD e 0 := by
  have hd : (c + 1) % n < n := Nat.mod_lt _ (by omega)
  have hl := f.seats.1
  show (List.set _ _ _).getD _ 0 = _
  rw [qM (by omega) (by omega)]
theorem W7 (f : Wf n w) (h2 : 2 ≤ n) (hc : c < n) : w.1.getD c 0 ≠ w.1.getD ((c + 1) % n) 0 := fun e => by
  have hd : (c + 1) % n < n := Nat.mod_lt _ (by omega)
  have h1 := (f.seats.get hc).2
  rw [e] at h1
  exact next_ne h2 hc (qL f.seats h1 (f.seats.get hd).2)
theorem Z7 (f : Wf n w) (h2 : 2 ≤ n) (hc : c < n) (x : Nat) : (wst n w i c).2.getD x [] = w.2.getD x [] ++ (if x = w.1.getD c 0 then [(i, -1)] else if x = w.1.getD ((c + 1) % n) 0 then [(i, 1)] else []) := by
  have hd : (c + 1) % n < n := Nat.mod_lt _ (by omega)
  have hl := f.len
  have ne := W7 f h2 hc
  show (List.set _ _ _).getD _ [] = _
  rw [qM (by rw [hl]; exact (f.seats.get hc).1) (by rw [hl]; exact (f.seats.get hd).1)]
  by_cases e1 : x = w.1.getD ((c + 1) % n) 0
  · rw [if_pos e1, if_neg (fun z => ne (z.symm.trans e1)), if_pos e1, e1]
  · rw [if_neg e1]
    by_cases e2 : x = w.1.getD c 0
    · rw [if_pos e2, if_pos e2, e2]
    · rw [if_neg e2, if_neg e2, if_neg e1, List.append_nil]
end
theorem Z8 (a b : List Pay) : tot (a ++ b) = tot a + tot b := by
  unfold tot
  rw [List.map_append, List.sum_append]
structure Rel (n : Nat) (s u : gj) (w : Sw) : Prop where
  fr : Fr n u
  wf : Wf n w
  idx : ∀ c, c < n → u.1.idxOf c = s.1.idxOf (w.1.getD c 0)
  purse : ∀ p, p < n → u.2.getD p 0 = s.2.getD p 0 + tot (w.2.getD (s.1.getD p 0) [])
theorem Rel.step {n : Nat} {s u : gj} {w : Sw} {i c : Nat} (f : Fr n s) (h2 : 2 ≤ n) (hc : c < n) (r : Rel n s u w) : Rel n s (fmv n u c) (wst n w i c) := by
  have hd : (c + 1) % n < n := Nat.mod_lt _ (by omega)
  have hx := (r.wf.seats.get hc).1
  have hy := (r.wf.seats.get hd).1
  refine ⟨yU r.fr h2 hc, ac1 r.wf h2 hc, fun e he => ?_, fun p hp => ?_⟩
  · rw [Ox r.fr h2 hc he, ac2 r.wf h2 hc]
    by_cases e1 : e = c
    · rw [if_pos e1, if_neg (fun z => next_ne h2 hc (e1.symm.trans z)), if_pos e1, r.idx _ hd]
    · rw [if_neg e1]
      by_cases e2 : e = (c + 1) % n
      · rw [if_pos e2, if_pos e2, r.idx _ hc]
      · rw [if_neg e2, if_neg e2, if_neg e1, r.idx _ he]
  · rw [oh r.fr h2 hc, Z7 r.wf h2 hc, Z8, r.idx _ hd, r.idx _ hc, r.purse p hp]
    have hi : ∀ x, x < n → (p = s.1.idxOf x ↔ s.1.getD p 0 = x) := fun x hx => ⟨fun e => by rw [e, f.seats.nZ hx], fun e => by rw [← e, f.seats.BR hp]⟩
    have ne := W7 r.wf h2 hc
    by_cases e1 : p = s.1.idxOf (w.1.getD ((c + 1) % n) 0)
    · have k1 := (hi _ hy).mp e1
      rw [if_pos e1, if_neg (fun z => ne (z.symm.trans k1)), if_pos k1]
      show _ = _ + (_ + 1)
      omega
    · have k1 : ¬ s.1.getD p 0 = w.1.getD ((c + 1) % n) 0 := fun z => e1 ((hi _ hy).mpr z)
      rw [if_neg e1]
      by_cases e2 : p = s.1.idxOf (w.1.getD c 0)
      · have k2 := (hi _ hx).mp e2
        rw [if_pos e2, if_pos k2]
        show _ = _ + (_ + -1)
        omega
      · have k2 : ¬ s.1.getD p 0 = w.1.getD c 0 := fun z => e2 ((hi _ hx).mpr z)
        rw [if_neg e2, if_neg k2, if_neg k1]
        show _ = _ + (_ + 0)
        omega
def w0 (n : Nat) : Sw := (List.range n, List.replicate n [])
theorem vN (n : Nat) : bK n (List.range n) := ⟨List.length_range, List.nodup_range, fun k hk => List.mem_range.mp hk⟩
theorem aeQ (n : Nat) : Wf n (w0 n) := ⟨vN n, List.length_replicate⟩
theorem range_getD {n c : Nat} (h : c < n) : (List.range n).getD c 0 = c := getD_at (by rw [List.getElem?_range h])
theorem W8 {α : Type} (n : Nat) (a : α) (i : Nat) : (List.replicate n a).getD i a = a := by
  rw [List.getD_eq_getElem?_getD]
  by_cases h : i < n
  · rw [List.getElem?_replicate, if_pos h]; rfl
  · rw [List.getElem?_replicate, if_neg h]; rfl
theorem Rel.start {n : Nat} {s : gj} (f : Fr n s) : Rel n s s (w0 n) := by
  refine ⟨f, aeQ n, fun c hc => ?_, fun p hp => ?_⟩
  · show _ = s.1.idxOf ((List.range n).getD c 0)
    rw [range_getD hc]
  · show _ = _ + tot ((List.replicate n []).getD _ [])
    rw [W8]
    show _ = _ + (0 : Int)
    omega
theorem Rel.along {n : Nat} {s : gj} (f : Fr n s) (h2 : 2 ≤ n) : ∀ {cs : List Nat} {i : Nat} {u : gj} {w : Sw}, (∀ c ∈ cs, c < n) → Rel n s u w → Rel n s (nY n cs u) (wat n i cs w)
  | [], _, _, _, _, r => r
  | c :: cs, i, u, w, hc, r => Rel.along (cs := cs) (u := fmv n u c) (w := wst n w i c) f h2 (fun k hk => hc k (List.mem_cons_of_mem _ hk)) (r.step f h2 (hc c List.mem_cons_self))
def wk (n : Nat) (row : List Nat) (k : Nat) : Sw := wat n 0 (row.take k) (w0 n)
theorem W9 {n : Nat} {s : gj} {row : List Nat} (f : Fr n s) (h2 : 2 ≤ n) (hr : ∀ c ∈ row, c < n) (k : Nat) : Rel n s (nY n (row.take k) s) (wk n row k) := (Rel.start f).along f h2 fun c hc => hr c (List.mem_of_mem_take hc)
end DM
end
section
set_option maxHeartbeats 1000000
namespace DM
def Z9 (n : Nat) (row : List Nat) : Nat → gj → gj
  | 0, s => s
  | t + 1, s => Z9 n row t (nY n row s)
def payer (n : Nat) (row : List Nat) (s : gj) (i : Nat) : Nat := (nY n (row.take i) s).1.idxOf (row.getD i 0)
def Ru (n : Nat) (row : List Nat) (s : gj) (i : Nat) : Prop := i < row.length ∧ (nY n (row.take i) s).2.getD (payer n row s i) 0 < 1
structure Fst (n : Nat) (row : List Nat) (s : gj) (t i p : Nat) : Prop where
  poor : Ru n row (Z9 n row t s) i
  who : p = payer n row (Z9 n row t s) i
  least : ∀ t' i', Ru n row (Z9 n row t' s) i' → t < t' ∨ (t = t' ∧ i ≤ i')
theorem aeR {n : Nat} {row : List Nat} (h2 : 2 ≤ n) (hr : ∀ c ∈ row, c < n) (k : Nat) : Wf n (wk n row k) := (W9 (s := (List.range n, List.replicate n 0)) ⟨vN n, List.length_replicate⟩ h2 hr k).wf
def Xa (E : List Nat) : Nat → Nat → Nat
  | 0, x => x
  | t + 1, x => Xa E t (E.getD x 0)
theorem Ez {E : List Nat} : ∀ (a b : Nat) (x : Nat), Xa E (a + b) x = Xa E b (Xa E a x)
  | 0, b, x => by rw [Nat.zero_add]; rfl
  | a + 1, b, x => by
    rw [Nat.add_right_comm]
    exact Ez a b (E.getD x 0)
def yV (P : List (List Pay)) (E : List Nat) : Nat → Nat → Int
  | 0, _ => 0
  | t + 1, x => tot (P.getD x []) + yV P E t (E.getD x 0)
theorem Iu {P : List (List Pay)} {E : List Nat} : ∀ (a b : Nat) (x : Nat), yV P E (a + b) x = yV P E a x + yV P E b (Xa E a x)
  | 0, b, x => by
    rw [Nat.zero_add]
    show _ = 0 + yV P E b x
    omega
  | a + 1, b, x => by
    rw [Nat.add_right_comm]
    show _ + yV P E (a + b) (E.getD x 0) = (_ + yV P E a (E.getD x 0)) + yV P E b (Xa E a (E.getD x 0))
    rw [Iu a b]
    omega
section
variable {n : Nat} {row : List Nat} {s : gj}
def lab (n : Nat) (row : List Nat) (i : Nat) : Nat := (wk n row i).1.getD (row.getD i 0) 0
theorem Xb (hr : ∀ c ∈ row, c < n) {i : Nat} (hi : i < row.length) : row.getD i 0 < n := by
  rw [List.getD_eq_getElem?_getD, List.getElem?_eq_getElem hi]
  exact hr _ (List.getElem_mem hi)
theorem ac3 (h2 : 2 ≤ n) (hr : ∀ c ∈ row, c < n) {i : Nat} (hi : i < row.length) : lab n row i < n := ((aeR h2 hr i).seats.get (Xb hr hi)).1
theorem Xc (f : Fr n s) (h2 : 2 ≤ n) (hr : ∀ c ∈ row, c < n) {i : Nat} (hi : i < row.length) : payer n row s i = s.1.idxOf (lab n row i) := (W9 f h2 hr i).idx _ (Xb hr hi)
theorem Xd (f : Fr n s) (h2 : 2 ≤ n) (hr : ∀ c ∈ row, c < n) {i : Nat} (hi : i < row.length) : payer n row s i < n := by
  rw [Xc f h2 hr hi]
  exact (f.seats.idx (ac3 h2 hr hi)).1
end
/-! turns -/
structure Trn (E : List Nat) (x L : Nat) : Prop where
  pos : 0 < L
  back : Xa E L x = x
  first : ∀ j, 0 < j → j < L → Xa E j x ≠ x
section
variable {E : List Nat} {P : List (List Pay)} {x L : Nat}
theorem Trn.mul (t : Trn E x L) : ∀ r, Xa E (r * L) x = x
  | 0 => by rw [Nat.zero_mul]; rfl
  | r + 1 => by rw [Nat.succ_mul, Ez, t.mul r, t.back]
theorem Trn.at (t : Trn E x L) (r k : Nat) : Xa E (r * L + k) x = Xa E k x := by rw [Ez, t.mul r]
theorem Trn.sum (t : Trn E x L) : ∀ (r k : Nat), yV P E (r * L + k) x = r * yV P E L x + yV P E k x
  | 0, k => by simp
  | r + 1, k => by
    rw [Nat.succ_mul, Nat.add_assoc, Nat.add_comm L k, ← Nat.add_assoc, Nat.add_comm (r * L + k) L, Iu, t.back, t.sum r k]
    rw [show (((r + 1 : Nat) : Int)) = (r : Int) + 1 by omega, Int.add_mul]
    omega
end
end DM
end
section
set_option maxHeartbeats 1000000
namespace DM
section
variable {n : Nat} {row : List Nat} {s : gj} {p L : Nat}
end
/-! the least of rows of ints -/
end DM
end
section
set_option maxHeartbeats 1000000
namespace DM
open PySem L2
section
variable {w : Sw} {i c : Nat}
end
end DM
end
section
set_option maxHeartbeats 1000000
set_option exponentiation.threshold 10000
namespace DM
open PySem L2
section
variable {P : List (List Pay)} {T : List Nat} {b loss C : Int} {acc : List D} {place i : Nat} {c : Int} {x7 x10 : Option En}
end
end DM
end
section
set_option maxHeartbeats 1000000
set_option exponentiation.threshold 10000
namespace DM
open PySem L2
section
variable {n : Nat} {row : List Nat} {d dr : D}
end
end DM
end
section
set_option maxHeartbeats 1000000
set_option exponentiation.threshold 10000
namespace DM
open PySem L2
theorem Fst.same {n : Nat} {row : List Nat} {s : gj} {t i p t' i' p' : Nat} (a : Fst n row s t i p) (b : Fst n row s t' i' p') : t = t' ∧ i = i' ∧ p = p' := by
  have h1 := a.least t' i' b.poor
  have h2 := b.least t i a.poor
  have e1 : t = t' := by omega
  have e2 : i = i' := by omega
  refine ⟨e1, e2, ?_⟩
  rw [a.who, b.who, e1, e2]
section
variable {n many L x : Nat} {row : List Nat} {d dr e3 : D} {c : Int} {A C : List D}
end
end DM
end
section
set_option maxHeartbeats 1000000
set_option exponentiation.threshold 10000
namespace DM
open PySem L2
def lJ (i : Nat) (cl : Nat → List En → R En) : aq → R Fl :=
  (aJ (bH (bB (aA gGt (aA eZ (ao 0) (runC (.int 0))) (runC (.int 0)))) (aJ (aR false 2 (aA oR (aA eZ (ao 0) (runC (.int 0))) (ao 1)))
  (aJ (oJ 0 (aA CQ (aA eZ (ao 0) (runC (.int 0))) (ao 1)) (runC (.int 0)))
  (aO [0] (ao 2)))) (fun ρ => .ok .nx ρ))
  (aJ (bH (bB (aA gGt (ao 1) (aA lC (runC (.int 10)) (runC (.int 7))))) (aO [0] (aA oR (aA cI (au 2 0 [0] [0, 1] (cl i) (aj (ao 0) (aj (aA lC (runC (.int 10)) (runC (.int 7))) ak)) ak) (aA dH (aA lC (runC (.int 10)) (runC (.int 7))) (au 2 0 [0] [0, 1] (cl i) (aj (ao 0) (aj (aA cI (aA CQ (aA gSub (ao 1) (runC (.int 1))) (aA lC (runC (.int 10)) (runC (.int 7)))) (runC (.int 1))) ak)) ak))) (ao 1))) (fun ρ => .ok .nx ρ))
  (aJ (oJ 0 (aA cI (aA eZ (ao 0) (runC (.int 2))) (runC (.int 1))) (runC (.int 2)))
  (aJ (aR false 3 (aA oR (aA lC (aA cI (aA eZ (ao 0) (runC (.int 1))) (aA dH (runC (.int 48271)) (aA eZ (ao 0) (runC (.int 2))))) (runC (.int 5))) (runC (.int 2147483647))))
  (aO [0] (aA oR (aA CQ (aA oR (aA cI (aA dH (ao 3) (aA cI (aA oR (ao 3) (runC (.int 30011))) (runC (.int 7)))) (aA dH (aA eZ (ao 0) (runC (.int 2))) (runC (.int 7919)))) (runC (.int 2147483629))) (runC (.int 64))) (ao 1)))))))
theorem LR {i : Nat} {cl : Nat → List En → R En} {a b c s : Int} (ha : 0 < a) (hs : 0 < s) (hz : s ≤ 10 ^ 100) :
    ∃ rest, aQ 4 (lJ i cl) [aY a b c, .fr (.int s)] = .ok (.fr (.int (a % s))) (some (aY (a / s) b c) :: rest) := by
  unfold lJ aY
  simp [gK, VB, Zf, VD, ha, pW hs, DW hs (acr hs hz)]
theorem vO {i : Nat} {cl : Nat → List En → R En} {b c s : Int} (hs : 0 < s) (hz : s ≤ 10000000) (hb : 0 ≤ b) (hb2 : b < 2 ^ 62) (hc : 0 ≤ c) (hc2 : c < 2 ^ 40) :
    ∃ r, (0 ≤ r ∧ r < s) ∧ ∃ rest, aQ 4 (lJ i cl) [aY 0 b c, .fr (.int s)] = .ok (.fr (.int r)) (some (aY 0 b (c + 1)) :: rest) := by
  have h1 : dH (.fr (.int 48271)) (.fr (.int (c + 1))) = some (.fr (.int (48271 * (c + 1)))) := rF (j7 (by decide) (Nat.lt_of_lt_of_le (show (c + 1).natAbs < 2 ^ 41 by omega) (Nat.pow_le_pow_right (by decide) (by decide))))
  have h2 : dH (.fr (.int (c + 1))) (.fr (.int 7919)) = some (.fr (.int ((c + 1) * 7919))) := rF (j7 (Nat.lt_of_lt_of_le (show (c + 1).natAbs < 2 ^ 41 by omega) (Nat.pow_le_pow_right (by decide) (by decide))) (by decide))
  have h3 : lC (.fr (.int (b + 48271 * (c + 1)))) (.fr (.int 5)) = some (.fr (.int ((b + 48271 * (c + 1)) ^ 5))) := DY (by unfold Gp; simp; omega)
  have m : ∀ (x : Int) (n : Int), 0 < n → 0 ≤ x % n ∧ x % n < n := fun x n h => ⟨Int.emod_nonneg x (by omega), Int.emod_lt_of_pos x h⟩
  generalize hx : (b + 48271 * (c + 1)) ^ 5 = X at h3
  have k1 := m X 2147483647 (by omega)
  have k2 := m (X % 2147483647) 30011 (by omega)
  have h4 : dH (.fr (.int (X % 2147483647))) (.fr (.int (X % 2147483647 % 30011 + 7))) = some (.fr (.int ((X % 2147483647) * (X % 2147483647 % 30011 + 7)))) :=
    rF (j7 (Nat.lt_of_lt_of_le (show (X % 2147483647).natAbs < 2 ^ 41 by omega) (Nat.pow_le_pow_right (by decide) (by decide))) (Nat.lt_of_lt_of_le (show (X % 2147483647 % 30011 + 7).natAbs < 2 ^ 41 by omega) (Nat.pow_le_pow_right (by decide) (by decide))))
  have k3 := m (((X % 2147483647) * (X % 2147483647 % 30011 + 7) + (c + 1) * 7919) % 2147483629 / 64) s hs
  have nz : ¬ (10000000 < s) := by omega
  refine ⟨_, k3, ?_⟩
  unfold lJ aY
  simp [gK, VB, aev, Zf, acq, VF, h1, h2, h3, h4, nz, pW hs, pW (show (0 : Int) < 2147483647 by decide), pW (show (0 : Int) < 30011 by decide), pW (show (0 : Int) < 2147483629 by decide), DW (show (0 : Int) < 64 by decide) (by decide)]
theorem Rv {i : Nat} {cl : Nat → List En → R En} : jm (aQ 4 (lJ i cl)) 0 := by
  intro m e s hs hz hm ⟨a, b, c, he, h1, h2, h3, h4, h5⟩
  subst he
  by_cases ha : 0 < a
  · obtain ⟨rest, h⟩ := LR (i := i) (cl := cl) (b := b) (c := c) ha hs (Int.le_trans hz (by decide))
    exact ⟨_, _, rest, h, Int.emod_nonneg a (by omega), Int.emod_lt_of_pos a hs, _, _, _, rfl, Int.ediv_nonneg h1 (by omega), h2, h3, h4, by omega⟩
  · obtain rfl : a = 0 := by omega
    obtain ⟨r, hr, rest, h⟩ := vO (i := i) (cl := cl) (b := b) (c := c) hs (Int.le_trans hz (by decide)) h2 h3 h4 (by omega)
    exact ⟨r, _, rest, h, hr.1, hr.2, _, _, _, rfl, h1, h2, h3, by omega, by omega⟩
end DM
end
section
set_option maxHeartbeats 1000000
set_option exponentiation.threshold 10000
namespace DM
open PySem L2
/-! the box -/
def aeS (cl : Nat → List En → R En) : aq → R Fl :=
  (aJ (aR false 2 (bH (bB (aA gLt (ao 1) (aN dW (aj (ao 0) ak)))) (aA eZ (ao 0) (ao 1)) (runC (.int 0))))
  (aO [] (aP (aj (aA dH (aN CG (aj (ao 2) ak)) (aN sE (aj (aA gGe (aN CG (aj (ao 2) ak)) (aA lC (runC (.int 10)) (runC (.int 18)))) ak))) (aj (aA cI (aA cI (aA oR (ao 2) (runC (.int 2147483629))) (aA dH (runC (.int 7919)) (ao 1))) (runC (.int 55))) (aj (runC (.int 0)) ak))))))
def Xe (run : List En → R En) : Prop := ∀ (ns : List Int) (k : Nat), k ≤ 100 → (∀ n ∈ ns, n.natAbs.log2 < 50000000) → ∃ e rest, run [.d8 (ns.map .int), .fr (.int (k : Nat))] = .ok e rest ∧ dD (2 ^ 39) e
theorem aac {cl : Nat → List En → R En} : Xe (aQ 3 (aeS cl)) := by
  intro ns k hk hns
  have key : ∀ n : Int, n.natAbs.log2 < 50000000 → (aR false 2 (bH (bB (aA gLt (ao 1) (aN dW (aj (ao 0) ak)))) (aA eZ (ao 0) (ao 1)) (runC (.int 0)))) [some (.d8 (ns.map .int)), some (.fr (.int (k : Nat))), none] = .ok .nx [some (.d8 (ns.map .int)), some (.fr (.int (k : Nat))), some (.fr (.int (n)))] → ∃ e rest, aQ 3 (aeS cl) [.d8 (ns.map .int), .fr (.int (k : Nat))] = .ok e rest ∧ dD (2 ^ 39) e := fun n hn st => by
    have h1 : dH (.fr (.int (pF n))) (.fr (.int (Yj (decide (1000000000000000000 ≤ pF n))))) = some (.fr (.int (pF n * Yj (decide (1000000000000000000 ≤ pF n))))) :=
      rF (Br (by rw [Zh]; exact hn) (by rcases Bt (decide (1000000000000000000 ≤ pF n)) with h | h <;> rw [h] <;> decide))
    have h2 : dH (.fr (.int 7919)) (.fr (.int (k : Nat))) = some (.fr (.int (7919 * (k : Nat)))) := rF (j7 (by decide) (Nat.lt_of_lt_of_le (show (k : Int).natAbs < 2 ^ 41 by omega) (Nat.pow_le_pow_right (by decide) (by decide))))
    have h5 := Int.emod_nonneg n (show (2147483629 : Int) ≠ 0 by decide)
    have h6 := Int.emod_lt_of_pos n (show (0 : Int) < 2147483629 by decide)
    have h7 : oR (.fr (.int n)) (.fr (.int 2147483629)) = some (.fr (.int (n % 2147483629))) := pW (by decide)
    have st2 : (aO [] (aP (aj (aA dH (aN CG (aj (ao 2) ak)) (aN sE (aj (aA gGe (aN CG (aj (ao 2) ak)) (aA lC (runC (.int 10)) (runC (.int 18)))) ak))) (aj (aA cI (aA cI (aA oR (ao 2) (runC (.int 2147483629))) (aA dH (runC (.int 7919)) (ao 1))) (runC (.int 55))) (aj (runC (.int 0)) ak))))) [some (.d8 (ns.map .int)), some (.fr (.int (k : Nat))), some (.fr (.int (n)))] = .ok (.rt (aY (pF n * Yj (decide (1000000000000000000 ≤ pF n))) (n % 2147483629 + 7919 * (k : Nat) + 55) 0)) [some (.d8 (ns.map .int)), some (.fr (.int (k : Nat))), some (.fr (.int (n)))] := by
      generalize ns.map D.int = ds at *
      simp only [tD, zX, List.map_cons, List.map_nil, List.replicate, List.cons_append, List.nil_append, nA, sV, sW, sO, G6, Nk, CZ, U9, Ku, acg, Va, Dc, uQ, Dd, uR, Df, Dg, pU, Dh, Di, uU, Dj, Dk, xV, Kv, Kw, uV, Dm, Kr, U4, U5, U6, Ks, U7, U8, xR, CV, xT, CW, uP, xU, Ko, j6, wu, sS, sU, uW, rE, xW, wA, Ve, Kz, xX, xY, Vf, Vg, Vh, Vi, Vj, Vk, Vm, yc, KD, KH, Dr, Ds, Dt, KJ, Du, Dy, yd, acn, yg, Vn, yh, KN, yj, Ze, yq, KQ, G8, sX, Dz, DG, sY, Vp, DK, wB, DN, KR, yt, G9, DP, uY, Vr, Vs, Vt, Vu, KZ, K6, DR, CT, xQ, aX, Bq, K7, K8, Vv, Vw, Vx, Vy, K9, tE, tG, Ea, Vz, Option.map_some, Option.bind_some, Option.join_some, List.getElem?_cons_zero, List.getElem?_cons_succ, List.set_cons_zero, List.set_cons_succ, List.length_cons, List.length_nil, h7, h1, h2, acu, VN, aew]
    refine ⟨_, _, oU rfl (cX st st2), _, _, _, rfl, ?_, by omega, by omega, by omega, by omega⟩
    have a0 := Zg n
    rcases Bt (decide (1000000000000000000 ≤ pF n)) with h | h <;> rw [h] <;> omega
  have gl : dW [.d8 (ns.map D.int)] = some (.fr (.int (ns.length : Nat))) := by
    have : dW [.d8 (ns.map D.int)] = some (.fr (.int ((ns.map D.int).length : Nat))) := rfl
    rw [this, List.length_map]
  by_cases h : k < ns.length
  · refine key ns[k] (hns _ (List.getElem_mem h)) ?_
    have a1 : atI (ns.map D.int) ((k : Nat) : Int) = some (.int ns[k]) := at_ints (List.getElem?_eq_getElem h)
    have h4 : ((k : Nat) : Int) < (ns.length : Nat) := by omega
    generalize ns.map D.int = ds at *
    generalize ns[k] = z at *
    simp [gK, gl, a1, h4, h]
  · refine key 0 (by decide) ?_
    have h4 : ¬ ((k : Nat) : Int) < (ns.length : Nat) := by omega
    generalize ns.map D.int = ds at *
    simp [gK, gl, h4, h]
/-! one of several -/
def abp (i : Nat) (cl : Nat → List En → R En) : aq → R Fl :=
  (aO [0] (aA eZ (ao 1) (au 2 0 [0] [0, 1] (cl i) (aj (ao 0) (aj (aN dW (aj (ao 1) ak)) ak)) ak)))
def EY (run : List En → R En) : Prop := ∀ (m : Int) (e : En) (d : D) (xs : List D), Sq d xs → 0 ≤ m → 0 < xs.length → xs.length ≤ 1000 → dD (m + 1) e → ∃ x e' rest, run [e, .fr d] = .ok (.fr x) (some e' :: rest) ∧ x ∈ xs ∧ dD m e'
theorem aad {i : Nat} {cl : Nat → List En → R En} (ht : jm (cl i) 0) : EY (aQ 2 (abp i cl)) := by
  intro m e d xs hs hm h0 hl hb
  obtain ⟨r, e1, OD, g1, g2, g3, g4⟩ := ht m e xs.length (by omega) (by rw [p7]; omega) hm (hb.mono (by omega))
  obtain ⟨a, b, c, rfl⟩ := hb.en
  obtain ⟨a', b', c', rfl⟩ := g4.en
  obtain ⟨k, rfl⟩ : ∃ k : Nat, r = (k : Nat) := ⟨r.toNat, by omega⟩
  have hk : k < xs.length := by omega
  have c1 := fun (ρ : aq) hu => iV (ρ := ρ) (i := 0) hu g1
  have gl := hs.len
  have gi : eZ (.fr d) (.fr (.int (k : Nat))) = some (.fr xs[k]) := by rw [hs.ix, atI_nat (List.getElem?_eq_getElem hk)]; rfl
  refine ⟨xs[k], aY a' b' c', [some (.fr d)], ?_, List.getElem_mem hk, g4⟩
  unfold abp aY at *
  simp [gK, gl, c1, gi]
/-! Ec -/
def aae (i : Nat) (cl : Nat → List En → R En) : aq → R Fl :=
  (aJ (jM true true 2 3 (aN Bb (aj (ao 1) ak)) (aP ak))
  (aJ (runFor (gD (aj (aN dW (aj (ao 2) ak)) ak)) (bW (.n 4)) (iJ (dI 3 dZ (aj (aM (dI 2 oK (aj (au 2 0 [0] [0, 1] (cl i) (aj (ao 0) (aj (aN dW (aj (ao 2) ak)) ak)) ak) ak))) ak))))
  (aO [0] (ao 3))))
theorem ug {i : Nat} {cl : Nat → List En → R En} (ht : jm (cl i) 0) (w : Option En) : ∀ (ds left found : List D) (e : En) (m : Int) (x : Option En), left.length = ds.length → ds.length + found.length ≤ 1000 → dD (m + ds.length) e → 0 ≤ m →
    ∃ e' found' x', pD (bW (.n 4)) (iJ (dI 3 dZ (aj (aM (dI 2 oK (aj (au 2 0 [0] [0, 1] (cl i) (aj (ao 0) (aj (aN dW (aj (ao 2) ak)) ak)) ak) ak))) ak))) ds [some e, w, some (.ol left), some (.ol found), x] = .ok .nx [some e', w, some (.ol []), some (.ol found'), x'] ∧ found'.Perm (found ++ left) ∧ dD m e'
  | [], left, found, e, m, x, hl, hz, hb, hm => by
    obtain rfl := List.length_eq_zero_iff.mp hl
    exact ⟨e, found, x, rfl, by rw [List.append_nil], hb.mono (by simp)⟩
  | d0 :: ds, left, found, e, m, x, hl, hz, hb, hm => by
    rw [List.length_cons] at hl hz hb
    obtain ⟨r, e1, OD, g1, g2, g3, g4⟩ := ht (m + ds.length) e left.length (by omega) (by rw [p7]; omega) (by omega) (hb.mono (by omega))
    obtain ⟨a, b, c, rfl⟩ := hb.en
    obtain ⟨a', b', c', rfl⟩ := g4.en
    obtain ⟨d, k1, k2, k3⟩ := acs g2 g3
    have hr : r.toNat < left.length := (List.getElem?_eq_some_iff.mp k3).1
    have hlen : (left.eraseIdx r.toNat).length = ds.length := by rw [List.length_eraseIdx, if_pos hr]; omega
    obtain ⟨e', found', x', q1, q2, q3⟩ := ug ht w ds (left.eraseIdx r.toNat) (found ++ [d]) (aY a' b' c') m (some (.fr d0)) hlen (by rw [List.length_append, List.length_singleton]; omega) g4 hm
    refine ⟨e', found', x', ?_, ?_, q3⟩
    · have c1 := fun (ρ : aq) hu => iV (ρ := ρ) (i := 0) hu g1
      have c2 := fun (ρ : aq) => DQ (x := 2) (ρ := ρ) (QF (tM g2 (by omega)) k2 k3)
      have c3 := fun (ρ : aq) => DQ (x := 3) (ρ := ρ) (yx (xs := found) (d := d) (by omega))
      have st : (iJ (dI 3 dZ (aj (aM (dI 2 oK (aj (au 2 0 [0] [0, 1] (cl i) (aj (ao 0) (aj (aN dW (aj (ao 2) ak)) ak)) ak) ak))) ak))) [some (aY a b c), w, some (.ol left), some (.ol found), some (.fr d0)] = .ok .nx [some (aY a' b' c'), w, some (.ol (left.eraseIdx r.toNat)), some (.ol (found ++ [d])), some (.fr d0)] := by
        rw [sY, yu (xs := found) rfl, j6, yc, yu (xs := left) rfl]
        unfold aY at *
        simp [gK, Nr, c1, Nq, c2, c3]
      unfold pD
      show (R.bind (((iJ (dI 3 dZ (aj (aM (dI 2 oK (aj (au 2 0 [0] [0, 1] (cl i) (aj (ao 0) (aj (aN dW (aj (ao 2) ak)) ak)) ak) ak))) ak)))) [some (aY a b c), w, some (.ol left), some (.ol found), some (.fr d0)]) _) = _
      rw [st, aX]
      exact q1
    · refine q2.trans ?_
      rw [List.append_assoc]
      exact List.Perm.append_left found (La k3)
def vg (run : List En → R En) : Prop := ∀ (m : Int) (e : En) (d : D) (xs : List D), Sq d xs → 0 ≤ m → xs.length ≤ 1000 → dD (m + xs.length) e → ∃ ys e' rest, run [e, .fr d] = .ok (.ol ys) (some e' :: rest) ∧ ys.Perm xs ∧ dD m e'
theorem Ma {i : Nat} {cl : Nat → List En → R En} (ht : jm (cl i) 0) : vg (aQ 5 (aae i cl)) := by
  intro m e d xs hs hm hl hb
  obtain ⟨e', ys, x', h1, h2, h3⟩ := ug ht (some (.fr d)) (bV 0 xs.length) xs [] e m none (by rw [bD]) (by rw [bD]; simp only [List.length_nil]; omega) (by rw [bD]; exact hb) hm
  rw [List.nil_append] at h2
  obtain ⟨a, b, c, rfl⟩ := hb.en
  have s0 : (jM true true 2 3 (aN Bb (aj (ao 1) ak)) (aP ak)) [some (aY a b c), some (.fr d), none, none, none] = .ok .nx [some (aY a b c), some (.fr d), some (.ol xs), some (.ol []), none] := by
    have gl := hs.list
    unfold aY
    simp [gK, gl]
  have z : gD (aj (aN dW (aj (ao 2) ak)) ak) [some (aY a b c), some (.fr d), some (.ol xs), some (.ol []), none] = .ok (bV 0 xs.length) [some (aY a b c), some (.fr d), some (.ol xs), some (.ol []), none] := by
    refine Wj ?_ (by omega)
    unfold aY
    simp [gK, Nr]
  have s2 : (aO [0] (ao 3)) [some e', some (.fr d), some (.ol []), some (.ol ys), x'] = .ok (.rt (.ol ys)) [some e', some (.fr d), some (.ol []), none, x'] := rfl
  exact ⟨ys, e', _, oU rfl (cX s0 (cX (rH z h1) s2)), h2, h3⟩
/-! states -/
def aeT (i j : Nat) (cl : Nat → List En → R En) : aq → R Fl :=
  (aJ (aR false 3 (au 2 0 [0] [0, 1] (cl j) (aj (ao 0) (aj (aM (lW (ao 1))) ak)) ak))
  (aO [0] (aK (aj (aN g8 (aj (ao 3) ak)) (aj (aN g8 (aj (iz [4] (gD (aj (ao 1) ak)) (bW (.n 4)) dB (aM (au 2 0 [0] [0, 1] (cl i) (aj (ao 0) (aj (aA cI (ao 2) (runC (.int 1))) ak)) ak))) ak)) ak)))))
def Fb (t : Nat) (run : List En → R En) : Prop := ∀ (m : Int) (e : En) (n : Nat) (top : Int), 0 ≤ m → n ≤ 1000 → 0 ≤ top → top + 1 ≤ 10 ^ (7 * (t + 1)) → dD (m + n * (t + 2)) e → ∃ q b e' rest, run [e, .fr (.int (n : Nat)), .fr (.int top)] = .ok (.fr (lX q b)) (some e' :: rest) ∧ Gd n q b ∧ (∀ x ∈ b, x ≤ top) ∧ dD m e'
theorem aaf {t i : Nat} {cl : Nat → List En → R En} (ht : jm (cl i) t) {n : Nat} {top m : Int} {e : En} {x3 : Option En} (hn : n ≤ 1000) (hm : 0 ≤ m) (h0 : 0 ≤ top) (h1 : top + 1 ≤ 10 ^ (7 * (t + 1))) (hb : dD (m + n * (t + 1)) e) :
    ∃ (b : List Int) (e' : En), (iz [4] (gD (aj (ao 1) ak)) (bW (.n 4)) dB (aM (au 2 0 [0] [0, 1] (cl i) (aj (ao 0) (aj (aA cI (ao 2) (runC (.int 1))) ak)) ak))) [some e, some (.fr (.int (n : Nat))), some (.fr (.int (top))), x3, none] = .ok (.en (.ol (b.map .int))) [some e', some (.fr (.int (n : Nat))), some (.fr (.int (top))), x3, none] ∧ b.length = n ∧ (∀ x ∈ b, 0 ≤ x ∧ x ≤ top) ∧ dD m e' := by
  have l2 : gD (aj (ao 1) ak) [some e, some (.fr (.int (n : Nat))), some (.fr (.int (top))), x3, none] = .ok (bV 0 n) [some e, some (.fr (.int (n : Nat))), some (.fr (.int (top))), x3, none] := Wj rfl (by omega)
  obtain ⟨uL, ρF, g1, e', b, rfl, hacc, hlen, hall, hbx⟩ := wC (own := [4]) (fg := bW (.n 4)) (ft := dB) (fe := (aM (au 2 0 [0] [0, 1] (cl i) (aj (ao 0) (aj (aA cI (ao 2) (runC (.int 1))) ak)) ak)))
    (fun rest ρ acc => ∃ (e : En) (b : List Int), ρ = [some e, some (.fr (.int (n : Nat))), some (.fr (.int (top))), x3, none] ∧ acc = b.map .int ∧ b.length + rest.length = n ∧ (∀ x ∈ b, 0 ≤ x ∧ x ≤ top) ∧ dD (m + rest.length * (t + 1)) e)
    (fun d rest ρ acc ⟨e, b, hρ, ha, hl, hall, hbx⟩ => by
      subst hρ ha
      rw [List.length_cons] at hl hbx
      obtain ⟨r, e1, OD, k1, k2, k3, k4⟩ := ht (m + rest.length * (t + 1)) e (top + 1) (by omega) h1 (Int.add_nonneg hm (Int.mul_nonneg (by omega) (by omega))) (hbx.mono (by rw [Int.natCast_add, Int.add_mul]; omega))
      obtain ⟨a, b', c, rfl⟩ := hbx.en
      obtain ⟨a2, b2, c2, rfl⟩ := k4.en
      have c1 := fun (ρ : aq) hu => iV (ρ := ρ) (i := 0) hu k1
      have q : (aM (au 2 0 [0] [0, 1] (cl i) (aj (ao 0) (aj (aA cI (ao 2) (runC (.int 1))) ak)) ak)) [some (aY a b' c), some (.fr (.int (n : Nat))), some (.fr (.int (top))), x3, some (.fr d)] = .ok (.en (.fr (.int r))) [some (aY a2 b2 c2), some (.fr (.int (n : Nat))), some (.fr (.int (top))), x3, some (.fr d)] := by
        unfold aY at *
        simp [gK, c1]
      refine ⟨_, true, _, rfl, rfl, (fun z => by cases z), fun _ => ⟨Nat.lt_of_lt_of_le (show (b.map D.int).length < 1001 by rw [List.length_map]; omega) (by decide), .int r, _, Le q, aY a2 b2 c2, b ++ [r], rfl, by rw [List.map_append]; rfl, by simp only [List.length_append, List.length_cons, List.length_nil]; omega, fun x hx => ?_, k4⟩⟩
      rcases List.mem_append.mp hx with hx | hx
      · exact hall x hx
      · rw [List.mem_singleton.mp hx]; omega) (bV 0 n) [some e, some (.fr (.int (n : Nat))), some (.fr (.int (top))), x3, none] [] ⟨e, [], rfl, rfl, by rw [bD]; simp, (by intro x hx; cases hx), by rw [bD]; exact hb⟩
  refine ⟨b, e', ?_, by simpa using hlen, hall, hbx.mono (by simp)⟩
  have := tH (own := [4]) (fi := gD (aj (ao 1) ak)) (fg := bW (.n 4)) (ft := dB) (fe := (aM (au 2 0 [0] [0, 1] (cl i) (aj (ao 0) (aj (aA cI (ao 2) (runC (.int 1))) ak)) ak))) l2 rfl g1
  rw [hacc] at this
  exact this
theorem aag {X : aq → R Val} {j : Nat} {cl : Nat → List En → R En} {a b c a1 b1 c1 top : Int} {n : Nat} {q : List Nat} {nl : List D} {rest : aq} (r0 : X [some (aY a b c), some (.fr (.int (n : Nat))), some (.fr (.int (top))), none, none] = .ok (.en (.ol nl)) [some (aY a b c), some (.fr (.int (n : Nat))), some (.fr (.int (top))), none, none]) (g1 : cl j [aY a b c, .fr (.lst nl)] = .ok (.ol (nD q)) (some (aY a1 b1 c1) :: rest)) : (aR false 3 (au 2 0 [0] [0, 1] (cl j) (aj (ao 0) (aj (aM X) ak)) ak)) [some (aY a b c), some (.fr (.int (n : Nat))), some (.fr (.int (top))), none, none] = .ok .nx [some (aY a1 b1 c1), some (.fr (.int (n : Nat))), some (.fr (.int (top))), some (.fr (.lst (nD q))), none] := by
  have k1 := fun (ρ : aq) hu => iV (ρ := ρ) (i := 0) hu g1
  unfold aY at *
  simp [gK, r0, k1]
theorem aah {X : aq → R Val} {a1 b1 c1 a2 b2 c2 top : Int} {n : Nat} {q : List Nat} {b : List Int} (l : X [some (aY a1 b1 c1), some (.fr (.int (n : Nat))), some (.fr (.int (top))), some (.fr (.lst (nD q))), none] = .ok (.en (.ol (b.map .int))) [some (aY a2 b2 c2), some (.fr (.int (n : Nat))), some (.fr (.int (top))), some (.fr (.lst (nD q))), none]) : (aO [0] (aK (aj (aN g8 (aj (ao 3) ak)) (aj (aN g8 (aj X ak)) ak)))) [some (aY a1 b1 c1), some (.fr (.int (n : Nat))), some (.fr (.int (top))), some (.fr (.lst (nD q))), none] = .ok (.rt (.fr (lX q b))) [some (aY a2 b2 c2), some (.fr (.int (n : Nat))), some (.fr (.int (top))), some (.fr (.lst (nD q))), none] := by
  unfold aY lX at *
  generalize b.map D.int = bl at *
  generalize nD q = ql at *
  simp [gK, l, Ld, QG]
theorem OJ {t i j : Nat} {cl : Nat → List En → R En} (ht : jm (cl i) t) (hs : vg (cl j)) : Fb t (aQ 5 (aeT i j cl)) := by
  intro m e n top hm hn h0 h1 hb
  have hnt : (0 : Int) ≤ n * (t + 1) := Int.mul_nonneg (by omega) (by omega)
  have hnt2 : (n : Int) * (t + 2) = n * (t + 1) + n := by
    rw [show ((t : Int) + 2) = (t + 1) + 1 by omega, Int.mul_add (n : Int) (t + 1) 1, Int.mul_one]
  obtain ⟨ys, e1, OD, g1, g2, g3⟩ := hs (m + n * (t + 1)) e (.lst (nD (List.range n))) (nD (List.range n)) (.inr rfl) (by omega) (by rw [lF, List.length_range]; exact hn) (hb.mono (by rw [lF, List.length_range, hnt2]; omega))
  obtain ⟨q, rfl, hq⟩ : ∃ q, ys = nD q ∧ q.Perm (List.range n) := by
    exact QL g2
  obtain ⟨b, e2, l, hlb, hall, hbx⟩ := aaf (x3 := some (.fr (.lst (nD q)))) ht hn hm h0 h1 g3
  obtain ⟨a, b', c, rfl⟩ := hb.en
  obtain ⟨a1, b1, c1, rfl⟩ := g3.en
  obtain ⟨a2, b2, c2, rfl⟩ := hbx.en
  have r0 : lW (ao 1) [some (aY a b' c), some (.fr (.int (n : Nat))), some (.fr (.int (top))), none, none] = .ok (.en (.ol (nD (List.range n)))) [some (aY a b' c), some (.fr (.int (n : Nat))), some (.fr (.int (top))), none, none] := by
    rw [QK (f := ao 1) (j := (n : Nat)) rfl (by omega) (by omega), Int.toNat_natCast, Lg]
  have s0 := aag (q := q) r0 g1
  have s1 := aah (q := q) l
  exact ⟨q, b, aY a2 b2 c2, _, oU rfl (cX s0 s1), ⟨bK.Zj hq, hlb, fun x hx => (hall x hx).1⟩, fun x hx => (hall x hx).2, hbx⟩
/-! rows -/
def ac4 (cB cR : Nat) (most : Int) (cl : Nat → List En → R En) : aq → R Fl :=
  (aO [] (aN zV (aj (iz [1] (gD (aj (aA cI (runC (.int 1)) (aN vI (aj (runC (.int most)) (aj (aN dW (aj (ao 0) ak)) ak)))) ak)) (bW (.n 1)) dB (aM (au 1 0 [0] [0] (cl cR) (aj (au 2 0 [] [0, 1] (cl cB) (aj (ao 0) (aj (cJ 1) ak)) ak) ak) ak))) ak)))
def Fd (run : List En → R En) : Prop := ∀ (e : En), dD (2 ^ 39) e → ∃ rest, run [e] = .ok (.fr (.bl true)) rest
theorem aai {cB cR most : Nat} {cl : Nat → List En → R En} (hB : Xe (cl cB)) (hR : Fd (cl cR)) (aiv : most ≤ 90) {ns : List Int} (h1 : ns.length ≤ 63) (h2 : ∀ z ∈ ns, Builtin.Int.intBits z ≤ 1048576) :
    Ret (aQ 2 (ac4 cB cR (most : Nat) cl)) [.d8 (ns.map .int)] (.fr (.bl true)) := by
  have h3 : ∀ n ∈ ns, n.natAbs.log2 < 50000000 := fun n hn => by
    have := h2 n hn
    unfold Builtin.Int.intBits at this
    by_cases hz : n = 0
    · subst hz; decide
    · have hz' : (n == 0) = false := by simpa using hz
      rw [hz'] at this
      have t : n.natAbs.log2 + 1 ≤ 1048576 := this
      omega
  have gl : dW [.d8 (ns.map D.int)] = some (.fr (.int (ns.length : Nat))) := by
    have : dW [.d8 (ns.map D.int)] = some (.fr (.int ((ns.map D.int).length : Nat))) := rfl
    rw [this, List.length_map]
  have gm : vI [.fr (.int (most : Nat)), .fr (.int (ns.length : Nat))] = some (.fr (.int (min most ns.length : Nat))) := by
    have e : vI [.fr (.int (most : Nat)), .fr (.int (ns.length : Nat))] = some (.fr (.int (min ((most : Nat) : Int) ((ns.length : Nat) : Int)))) := rfl
    rw [e]
    congr 3
    omega
  have z : (gD (aj (aA cI (runC (.int 1)) (aN vI (aj (runC (.int most)) (aj (aN dW (aj (ao 0) ak)) ak)))) ak)) [some (.d8 (ns.map .int)), none] = .ok (bV 0 (1 + min most ns.length)) [some (.d8 (ns.map .int)), none] := by
    refine Wj (k := 1 + min most ns.length) ?_ (by omega)
    generalize ns.map D.int = ds at *
    simp [gK, gl, gm]
  have lc := Bv (own := [1]) (fg := bW (.n 1)) (fe := (aM (au 1 0 [0] [0] (cl cR) (aj (au 2 0 [] [0, 1] (cl cB) (aj (ao 0) (aj (cJ 1) ak)) ak) ak) ak))) (ρ2 := [some (.d8 (ns.map .int)), none]) (fun _ => .bl true) z rfl rfl (fun d hd => by
    obtain ⟨k, rfl, hk⟩ := range_item hd
    obtain ⟨e, r1, g1, g2⟩ := hB ns k (by omega) h3
    obtain ⟨r2, g3⟩ := hR e g2
    have k1 := fun (ρ : aq) => lD (L := []) (ρ := ρ) g1
    have k2 := fun (ρ : aq) => uZ (L := [0]) (ρ := ρ) g3
    refine ⟨[some (.d8 (ns.map .int)), some (.fr (.int (k : Nat)))], [some (.d8 (ns.map .int)), some (.fr (.int (k : Nat)))], rfl, Le ?_, rfl⟩
    generalize ns.map D.int = ds at *
    simp [gK, k1, k2]) (by rw [bD]; omega) rfl
  have ga : zV [.ol ((bV 0 (1 + min most ns.length)).map fun _ => D.bl true)] = some (.fr (.bl true)) := by
    have : ((bV 0 (1 + min most ns.length)).map fun _ => D.bl true) = List.replicate (1 + min most ns.length) (.bl true) := by
      rw [List.map_const', bD]
    rw [this]
    exact QW _
  have s : ac4 cB cR (most : Nat) cl [some (.d8 (ns.map .int)), none] = .ok (.rt (.fr (.bl true))) [some (.d8 (ns.map .int)), none] := by
    unfold ac4
    generalize (iz [1] (gD (aj (aA cI (runC (.int 1)) (aN vI (aj (runC (.int (most : Nat))) (aj (aN dW (aj (ao 0) ak)) ak)))) ak)) (bW (.n 1)) dB (aM (au 1 0 [0] [0] (cl cR) (aj (au 2 0 [] [0, 1] (cl cB) (aj (ao 0) (aj (cJ 1) ak)) ak) ak) ak))) = X at *
    rw [sX, wA, j6, lc]
    simp [gK, ga]
  exact ⟨_, oU rfl s⟩
end DM
end
section
set_option maxHeartbeats 1000000
namespace DM
open PySem L2
theorem Gd.fr {n : Nat} {s : gj} (g : Gd n s.1 s.2) : Fr n s := ⟨g.seats, g.len⟩
end DM
namespace DM
open PySem L2
end DM
end
section
set_option maxHeartbeats 1000000
namespace DM
open PySem L2
def ig (i : Nat) (cl : Nat → List En → R En) : aq → R Fl :=
  (aJ (bH (kJ (pQ ["list", "tuple"] (ao 1))) (aJ (bH (eG (bB (aA (fW true) (fj "list" (ao 0)) (fj "list" (ao 1)))) (bB (aA (fW true) (fj "tuple" (ao 0)) (fj "tuple" (ao 1))))) (aO [] (runC (.bl false))) (fun ρ => .ok .nx ρ))
  (aO [] (dU (aA (fW false) (aN dW (aj (ao 0) ak)) (aN dW (aj (ao 1) ak))) (aN zV (aj (iz [2, 3] (fJ (ao 0) (ao 1)) (bW (.t [(.n 2), (.n 3)])) dB (aM (au 2 0 [] [0, 1] (cl i) (aj (cJ 2) (aj (cJ 3) ak)) ak))) ak))))) (fun ρ => .ok .nx ρ))
  (aJ (bH (eG (bB (aA (jL false) (ao 1) (runC .non))) (kJ (fj "str" (ao 1)))) (aO [] (dU (aA (fW false) (ao 0) (ao 1)) (aA (fW false) (fj "str" (ao 0)) (fj "str" (ao 1))))) (fun ρ => .ok .nx ρ))
  (aO [] (dU (fj "int" (ao 0)) (dU (aA (fW false) (fj "bool" (ao 0)) (fj "bool" (ao 1))) (aA (fW false) (ao 0) (ao 1)))))))
theorem Rw {i : Nat} {cl : Nat → List En → R En} (a : Int) : Sm (aQ 4 (ig i cl)) (.int a) := by
  unfold Sm ig
  have n1 : jL false (.fr (.int a)) (.fr .non) = some (.fr (.bl false)) := rfl
  have n2 : fW false (.fr (.int a)) (.fr (.int a)) = some (.fr (.bl true)) := jE (n := 0) (lE a) (by decide) rfl rfl
  simp [gK, qJ, fL, gJ (d := (.int a)) (T := ["list", "tuple"]) (b := false) rfl (by decide), fY (d := (.int a)) (T := "str") (b := false) rfl (by decide), fY (d := (.int a)) (T := "int") (b := true) rfl (by decide), fY (d := (.int a)) (T := "bool") (b := false) rfl (by decide), n1, n2, eqb]
theorem Xf {i : Nat} {cl : Nat → List En → R En} (a : Bool) : Sm (aQ 4 (ig i cl)) (.bl a) := by
  unfold Sm ig
  have n1 : jL false (.fr (.bl a)) (.fr .non) = some (.fr (.bl false)) := rfl
  have n2 : fW false (.fr (.bl a)) (.fr (.bl a)) = some (.fr (.bl true)) := jE (n := 0) (wD a) (by decide) rfl rfl
  simp [gK, qJ, fL, gJ (d := (.bl a)) (T := ["list", "tuple"]) (b := false) rfl (by decide), fY (d := (.bl a)) (T := "str") (b := false) rfl (by decide), fY (d := (.bl a)) (T := "int") (b := true) rfl (by decide), fY (d := (.bl a)) (T := "bool") (b := true) rfl (by decide), n1, n2, eqb]
theorem Rx {i : Nat} {cl : Nat → List En → R En}  : Sm (aQ 4 (ig i cl)) .non := by
  unfold Sm ig
  have n1 : jL false (.fr .non) (.fr .non) = some (.fr (.bl true)) := rfl
  have n2 : fW false (.fr .non) (.fr .non) = some (.fr (.bl true)) := jE (n := 0) yw (by decide) rfl rfl
  simp [gK, qJ, fL, gJ (d := .non) (T := ["list", "tuple"]) (b := false) rfl (by decide), fY (d := .non) (T := "str") (b := false) rfl (by decide), fY (d := .non) (T := "int") (b := false) rfl (by decide), fY (d := .non) (T := "bool") (b := false) rfl (by decide), n1, n2, eqb]
theorem Ry {i : Nat} {cl : Nat → List En → R En} {s : Str} (h : PyData.strOk s = true) : Sm (aQ 4 (ig i cl)) (.str s) := by
  unfold Sm ig
  have n1 : jL false (.fr (.str s)) (.fr .non) = some (.fr (.bl false)) := rfl
  have n2 : fW false (.fr (.str s)) (.fr (.str s)) = some (.fr (.bl true)) := jE (n := 0) (Hg h) (by decide) rfl rfl
  simp [gK, qJ, fL, gJ (d := (.str s)) (T := ["list", "tuple"]) (b := false) rfl (by decide), fY (d := (.str s)) (T := "str") (b := true) rfl (by decide), fY (d := (.str s)) (T := "int") (b := false) rfl (by decide), fY (d := (.str s)) (T := "bool") (b := false) rfl (by decide), n1, n2, eqb]
theorem Rz {i : Nat} {cl : Nat → List En → R En} {xs : List D} (h : ∀ x ∈ xs, Sm (cl i) x) (hl : xs.length ≤ 10000) : Sm (aQ 4 (ig i cl)) (.lst xs) := by
  obtain ⟨bs, h1, h2⟩ := Nt (some (.fr (.lst xs))) h hl
  have z : fJ (ao 0) (ao 1) [some (.fr (.lst xs)), some (.fr (.lst xs)), none, none] = .ok (pairs xs xs) [some (.fr (.lst xs)), some (.fr (.lst xs)), none, none] := qI (cW rfl rfl rfl) (cW rfl rfl rfl)
  have q := tH (own := [2, 3]) (fg := bW (.t [(.n 2), (.n 3)])) (ft := dB) (fe := vK i cl) z rfl h1
  unfold vK at q
  generalize hX : iz [2, 3] (fJ (ao 0) (ao 1)) (bW (.t [(.n 2), (.n 3)])) dB (aM (au 2 0 [] [0, 1] (cl i) (aj (cJ 2) (aj (cJ 3) ak)) ak)) = X at q
  replace q : X [some (.fr (.lst xs)), some (.fr (.lst xs)), none, none] = .ok (.en (.ol (bs.map .bl))) [some (.fr (.lst xs)), some (.fr (.lst xs)), none, none] := q
  unfold Sm ig
  rw [hX]
  simp [gK, qJ, fL, gJ (d := .lst xs) (T := ["list", "tuple"]) (b := true) rfl (by decide), fY (d := .lst xs) (T := "list") (b := true) rfl (by decide), fY (d := .lst xs) (T := "tuple") (b := false) rfl (by decide), eqb, eqi, VG, q, Ed, h2]
theorem RB {i : Nat} {cl : Nat → List En → R En} {xs : List D} (h : ∀ x ∈ xs, Sm (cl i) x) (hl : xs.length ≤ 10000) : Sm (aQ 4 (ig i cl)) (.tup xs) := by
  obtain ⟨bs, h1, h2⟩ := Nt (some (.fr (.tup xs))) h hl
  have z : fJ (ao 0) (ao 1) [some (.fr (.tup xs)), some (.fr (.tup xs)), none, none] = .ok (pairs xs xs) [some (.fr (.tup xs)), some (.fr (.tup xs)), none, none] := qI (cW rfl rfl rfl) (cW rfl rfl rfl)
  have q := tH (own := [2, 3]) (fg := bW (.t [(.n 2), (.n 3)])) (ft := dB) (fe := vK i cl) z rfl h1
  unfold vK at q
  generalize hX : iz [2, 3] (fJ (ao 0) (ao 1)) (bW (.t [(.n 2), (.n 3)])) dB (aM (au 2 0 [] [0, 1] (cl i) (aj (cJ 2) (aj (cJ 3) ak)) ak)) = X at q
  replace q : X [some (.fr (.tup xs)), some (.fr (.tup xs)), none, none] = .ok (.en (.ol (bs.map .bl))) [some (.fr (.tup xs)), some (.fr (.tup xs)), none, none] := q
  unfold Sm ig
  rw [hX]
  simp [gK, qJ, fL, gJ (d := .tup xs) (T := ["list", "tuple"]) (b := true) rfl (by decide), fY (d := .tup xs) (T := "list") (b := false) rfl (by decide), fY (d := .tup xs) (T := "tuple") (b := true) rfl (by decide), eqb, eqi, VH, q, Ed, h2]
theorem Iv {i : Nat} {cl : Nat → List En → R En} {d : D} (h : jH 0 d) : Sm (aQ 4 (ig i cl)) d := by
  rcases h with ⟨a, rfl⟩ | ⟨a, rfl⟩ | rfl | ⟨s, rfl, h⟩
  · exact Rw a
  · exact Xf a
  · exact Rx
  · exact Ry h
theorem aaj {i : Nat} {cl : Nat → List En → R En} : V6 0 (aQ 4 (ig i cl)) := fun d h => Iv h
theorem aak {i n : Nat} {cl : Nat → List En → R En} (h : V6 n (cl i)) : V6 (n + 1) (aQ 4 (ig i cl)) := by
  intro d hd
  rcases hd with hd | ⟨xs, hs, hl, hx⟩
  · exact Iv hd
  · rcases hs with rfl | rfl
    · exact RB (fun x hx' => h x (hx x hx')) hl
    · exact Rz (fun x hx' => h x (hx x hx')) hl
end DM
end
section
set_option maxHeartbeats 1000000
namespace DM
open PySem L2
structure Sh (n : Nat) (f : Nat → Int) (u v : gj) : Prop where
  fu : Fr n u
  fv : Fr n v
  seats : u.1 = v.1
  purse : ∀ p, p < n → u.2.getD p 0 = f p + v.2.getD p 0
section
variable {n : Nat} {f : Nat → Int} {u v : gj}
theorem Sh.step (h : Sh n f u v) (h2 : 2 ≤ n) {c : Nat} (hc : c < n) : Sh n f (fmv n u c) (fmv n v c) := by
  refine ⟨yU h.fu h2 hc, yU h.fv h2 hc, ?_, fun p hp => ?_⟩
  · unfold fmv
    rw [h.seats]
  · rw [oh h.fu h2 hc, oh h.fv h2 hc, h.seats, h.purse p hp]
    by_cases e1 : p = v.1.idxOf ((c + 1) % n)
    · rw [if_pos e1, if_pos e1]; omega
    · rw [if_neg e1, if_neg e1]
      by_cases e2 : p = v.1.idxOf c
      · rw [if_pos e2, if_pos e2]; omega
      · rw [if_neg e2, if_neg e2]
theorem Sh.nY (h2 : 2 ≤ n) : ∀ {cs : List Nat} {u v : gj}, Sh n f u v → (∀ c ∈ cs, c < n) → Sh n f (nY n cs u) (nY n cs v)
  | [], _, _, h, _ => h
  | c :: cs, u, v, h, hc => Sh.nY h2 (cs := cs) (h.step h2 (hc c List.mem_cons_self)) fun k hk => hc k (List.mem_cons_of_mem _ hk)
theorem Sh.Z9 {row : List Nat} (h2 : 2 ≤ n) (hr : ∀ c ∈ row, c < n) : ∀ (t : Nat) {u v : gj}, Sh n f u v → Sh n f (Z9 n row t u) (Z9 n row t v)
  | 0, _, _, h => h
  | t + 1, u, v, h => Sh.Z9 h2 hr t (h.nY h2 hr)
theorem Sh.poor {row : List Nat} (h2 : 2 ≤ n) (hr : ∀ c ∈ row, c < n) (h : Sh n f u v) (i : Nat) : payer n row u i = payer n row v i ∧ (Ru n row u i ↔ i < row.length ∧ f (payer n row v i) + (DM.nY n (row.take i) v).2.getD (payer n row v i) 0 < 1) := by
  have s := h.nY h2 (cs := row.take i) fun c hc => hr c (List.mem_of_mem_take hc)
  have e : payer n row u i = payer n row v i := by
    unfold payer
    rw [s.seats]
  refine ⟨e, ?_⟩
  unfold Ru
  rw [e]
  by_cases hi : i < row.length
  · rw [s.purse _ (Xd h.fv h2 hr hi)]
  · exact ⟨fun z => absurd z.1 hi, fun z => absurd z.1 hi⟩
end
def zero (q : List Nat) : gj := (q, List.replicate q.length 0)
section
variable {n M : Nat} {row : List Nat} {s : gj}
def whole (n : Nat) (row q : List Nat) (M : Nat) (p : Nat) : Int := (Z9 n row M (zero q)).2.getD p 0
end
end DM
end
section
set_option maxHeartbeats 1000000
namespace DM
open PySem L2
section
variable {n M : Nat} {row : List Nat} {s : gj}
end
end DM
end
section
set_option maxHeartbeats 1000000
namespace DM
open PySem L2
section
variable {cL : Nat} {cl : Nat → List En → R En} {n : Nat} {row : List Nat}
end
/-! the walk -/
section
variable {n : Nat} {row : List Nat} {s : gj} {m : Nat}
end
section
variable {cP : Nat} {cl : Nat → List En → R En} {n : Nat} {row : List Nat} {s : gj} {m : Nat} {x3 x4 : Option En}
end
/-! what is drawn -/
section
variable {cp co cu ct : Nat} {cl : Nat → List En → R En}
end
end DM
end
section
set_option maxHeartbeats 1000000
namespace DM
structure Lay (n : Nat) (l : List Nat) (s : gj) : Prop where
  fr : Fr n s
  len : l.length = n
  at' : ∀ c, c < n → s.1.idxOf c = l.getD c 0
section
variable {n : Nat} {l : List Nat} {s : gj}
theorem Lay.seats (h : Lay n l s) : bK n l := by
  have e : l = (List.range n).map fun c => s.1.idxOf c := by
    refine List.ext_getElem? fun i => ?_
    by_cases hi : i < n
    · rw [List.getElem?_map, List.getElem?_range hi, List.getElem?_eq_getElem (by rw [h.len]; exact hi)]
      show some _ = some (s.1.idxOf i)
      rw [h.at' i hi, List.getD_eq_getElem?_getD, List.getElem?_eq_getElem (by rw [h.len]; exact hi)]
      rfl
    · rw [List.getElem?_eq_none (by rw [h.len]; omega), List.getElem?_eq_none (by rw [List.length_map, List.length_range]; omega)]
  rw [e]
  refine Rh (fun i hi => (h.fr.seats.idx hi).1) fun i j hi hj hij => ?_
  by_cases q : i = j
  · exact q
  · exact absurd hij (h.fr.seats.pY hi hj q)
theorem Lay.seat (h : Lay n l s) {c : Nat} (hc : c < n) : s.1.getD (l.getD c 0) 0 = c := by
  rw [← h.at' c hc]
  exact h.fr.seats.nZ hc
structure Rou (n : Nat) (l : List Nat) (s u : gj) (i : Nat) : Prop where
  fr : Fr n u
  at' : ∀ c, c < n → u.1.idxOf c = if c < i then l.getD (c + 1) 0 else if c = i then l.getD 0 0 else l.getD c 0
  aeU : u.2.getD (l.getD 0 0) 0 = s.2.getD (l.getD 0 0) 0 - i
  aeV : ∀ j, 0 < j → j < n → u.2.getD (l.getD j 0) 0 = s.2.getD (l.getD j 0) 0 + if j ≤ i then 1 else 0
theorem Lay.inj (h : Lay n l s) {i j : Nat} (hi : i < n) (hj : j < n) (e : l.getD i 0 = l.getD j 0) : i = j := by
  have e1 := h.seat hi
  have e2 := h.seat hj
  rw [e] at e1
  exact e1.symm.trans e2
theorem Mf (i : Nat) : List.range (i + 1) = List.range i ++ [i] := List.range_succ
theorem RG (cs : List Nat) (c : Nat) (s : gj) : nY n (cs ++ [c]) s = fmv n (nY n cs s) c := by
  rw [vM]
  rfl
theorem rou (h : Lay n l s) (h2 : 2 ≤ n) : ∀ i, i < n → Rou n l s (nY n (List.range i) s) i
  | 0, _ => ⟨h.fr, fun c hc => by
      rw [if_neg (by omega)]
      show s.1.idxOf c = _
      rw [h.at' c hc]
      by_cases e : c = 0
      · rw [if_pos e, e]
      · rw [if_neg e], by show s.2.getD _ 0 = _; simp, fun j h1 h2 => by rw [if_neg (by omega)]; show s.2.getD _ 0 = _; omega⟩
  | i + 1, hi => by
    have r := rou h h2 i (by omega)
    rw [Mf, RG]
    generalize nY n (List.range i) s = u at r ⊢
    have m1 : (i + 1) % n = i + 1 := Nat.mod_eq_of_lt hi
    have p1 : u.1.idxOf i = l.getD 0 0 := by rw [r.at' i (by omega), if_neg (by omega), if_pos rfl]
    have p2 : u.1.idxOf (i + 1) = l.getD (i + 1) 0 := by rw [r.at' (i + 1) hi, if_neg (by omega), if_neg (by omega)]
    have ne : ∀ j : Nat, 0 < j → j < n → l.getD 0 0 ≠ l.getD j 0 := fun j hj hjn e => by
      have := h.inj (show 0 < n by omega) hjn e
      omega
    refine ⟨yU r.fr h2 (by omega), fun c hc => ?_, ?_, fun j j0 jn => ?_⟩
    · rw [Ox r.fr h2 (by omega) hc, m1, p1, p2]
      by_cases c1 : c = i
      · rw [if_pos c1, if_pos (by omega), c1]
      · rw [if_neg c1]
        by_cases c2 : c = i + 1
        · rw [if_pos c2, if_neg (by omega), if_pos c2]
        · rw [if_neg c2, r.at' c hc]
          by_cases c3 : c < i
          · rw [if_pos c3, if_pos (by omega)]
          · rw [if_neg c3, if_neg c1, if_neg (by omega), if_neg c2]
    · rw [oh r.fr h2 (by omega), m1, p1, p2, if_neg (ne (i + 1) (by omega) hi), if_pos rfl, r.aeU]
      omega
    · rw [oh r.fr h2 (by omega), m1, p1, p2]
      by_cases c1 : j = i + 1
      · rw [if_pos (by rw [c1]), r.aeV j j0 jn, if_neg (by omega), if_pos (by omega)]
        omega
      · rw [if_neg (fun e => c1 (h.inj jn hi e)), if_neg (fun e => ne j j0 jn e.symm), r.aeV j j0 jn]
        by_cases c2 : j ≤ i
        · rw [if_pos c2, if_pos (by omega)]
        · rw [if_neg c2, if_neg (by omega)]
end
section
variable {n : Nat} {l : List Nat} {s : gj}
theorem Lay.poor (h : Lay n l s) (h2 : 2 ≤ n) {i : Nat} : Ru n (List.range n) s i ↔ i < n ∧ s.2.getD (l.getD 0 0) 0 - i < 1 := by
  unfold Ru payer
  rw [List.length_range]
  refine and_congr_right fun hi => ?_
  have e : (List.range n).take i = List.range i := by rw [List.take_range, Nat.min_eq_left (Nat.le_of_lt hi)]
  have r := rou h h2 i hi
  rw [e, range_getD hi, r.at' i hi, if_neg (by omega), if_pos rfl, r.aeU]
theorem Lay.payer (h : Lay n l s) (h2 : 2 ≤ n) {i : Nat} (hi : i < n) : DM.payer n (List.range n) s i = l.getD 0 0 := by
  unfold DM.payer
  have e : (List.range n).take i = List.range i := by rw [List.take_range, Nat.min_eq_left (Nat.le_of_lt hi)]
  have r := rou h h2 i hi
  rw [e, range_getD hi, r.at' i hi, if_neg (by omega), if_pos rfl]
end
end DM
end
section
set_option maxHeartbeats 1000000
namespace DM
/-! sums -/
def bL {α : Type} (l : List α) (f : α → Int) : Int := (l.map f).sum
section
variable {α β : Type}
theorem BW (f : α → Int) : bL [] f = 0 := rfl
theorem dF (a : α) (l : List α) (f : α → Int) : bL (a :: l) f = f a + bL l f := by unfold bL; rw [List.map_cons, List.sum_cons]
theorem aeW (l r : List α) (f : α → Int) : bL (l ++ r) f = bL l f + bL r f := by unfold bL; rw [List.map_append, List.sum_append]
theorem aU {l : List α} {f g : α → Int} (h : ∀ x ∈ l, f x = g x) : bL l f = bL l g := by unfold bL; rw [List.map_congr_left h]
theorem Iw (l : List α) (f g : α → Int) : bL l (fun x => f x + g x) = bL l f + bL l g := by
  induction l with
  | nil => rfl
  | cons a l ih => rw [dF, dF, dF, ih]; omega
theorem aeX (l : List α) (f g : α → Int) : bL l (fun x => f x - g x) = bL l f - bL l g := by
  induction l with
  | nil => rfl
  | cons a l ih => rw [dF, dF, dF, ih]; omega
theorem abq (c : Int) (l : List α) (f : α → Int) : bL l (fun x => c * f x) = c * bL l f := by
  induction l with
  | nil => rw [BW, BW, Int.mul_zero]
  | cons a l ih => rw [dF, dF, ih, Int.mul_add]
theorem O2 (c : Int) (l : List α) (f : α → Int) : bL l (fun x => f x * c) = bL l f * c := by
  rw [Int.mul_comm, ← abq]
  exact aU fun x _ => Int.mul_comm _ _
theorem rN (l : List α) : bL l (fun _ => 0) = 0 := by
  induction l with
  | nil => rfl
  | cons a l ih => rw [dF, ih]; rfl
theorem O4 (c : Int) (l : List α) : bL l (fun _ => c) = l.length * c := by
  induction l with
  | nil => rw [BW]; simp
  | cons a l ih => rw [dF, ih, List.length_cons, Int.natCast_add, Int.add_mul]; omega
theorem Fe (l : List α) (r : List β) (f : α → β → Int) : bL l (fun x => bL r (f x)) = bL r (fun y => bL l (fun x => f x y)) := by
  induction l with
  | nil => rw [BW]; exact (rN r).symm
  | cons a l ih =>
    rw [dF, ih, ← Iw]
    exact aU fun y _ => (dF a l (fun x => f x y)).symm
theorem yW {l : List α} {f : α → Int} (h : ∀ x ∈ l, 0 ≤ f x) : 0 ≤ bL l f := by
  induction l with
  | nil => exact Int.le_refl _
  | cons a l ih =>
    rw [dF]
    have h1 := h a List.mem_cons_self
    have h2 := ih fun x hx => h x (List.mem_cons_of_mem _ hx)
    omega
theorem abr (g : β → α) (l : List β) (f : α → Int) : bL (l.map g) f = bL l fun x => f (g x) := by unfold bL; rw [List.map_map]; rfl
theorem jK (p : α → Bool) (l : List α) (f : α → Int) : bL (l.filter p) f = bL l fun x => if p x = true then f x else 0 := by
  induction l with
  | nil => rfl
  | cons a l ih =>
    rw [dF, List.filter_cons]
    by_cases h : p a = true
    · rw [if_pos h, if_pos h, dF, ih]
    · rw [if_neg h, if_neg h, ih]; omega
theorem S_len (l : List α) : (l.length : Int) = bL l fun _ => 1 := by rw [O4]; omega
end
theorem aal {F : List Nat} (hn : F.Nodup) {s : Nat} (f : Nat → Int) : bL (F.erase s) f = bL F fun r => if r = s then 0 else f r := by
  induction F with
  | nil => rfl
  | cons a F ih =>
    obtain ⟨h1, h2⟩ := List.nodup_cons.mp hn
    by_cases e : a = s
    · subst e
      rw [List.erase_cons_head, dF, if_pos rfl, Int.zero_add]
      exact aU fun r hr => by rw [if_neg (fun z => h1 (by rw [← z]; exact hr))]
    · rw [List.erase_cons_tail (by simpa using e), dF, dF, ih h2, if_neg e]
theorem vh {F : List Nat} (hn : F.Nodup) {s : Nat} (p : Nat → Bool) (f : Nat → Int) : bL ((F.erase s).filter p) f = bL (F.filter p) fun r => if r = s then 0 else f r := by
  rw [jK, aal hn, jK]
  refine aU fun r _ => ?_
  by_cases h1 : r = s
  · rw [if_pos h1, if_pos h1]; split <;> rfl
  · rw [if_neg h1, if_neg h1]
theorem O5 {F : List Nat} (hn : F.Nodup) (p q : Nat → Bool) (f : Nat → Nat → Int) : bL (F.filter p) (fun s => bL ((F.erase s).filter q) (f s)) = bL (F.filter q) (fun r => bL ((F.erase r).filter p) (fun s => f s r)) := by
  have e1 : bL (F.filter p) (fun s => bL ((F.erase s).filter q) (f s)) = bL (F.filter p) (fun s => bL (F.filter q) fun r => if r = s then 0 else f s r) := aU fun s _ => vh hn q (f s)
  have e2 : bL (F.filter q) (fun r => bL ((F.erase r).filter p) (fun s => f s r)) = bL (F.filter q) (fun r => bL (F.filter p) fun s => if s = r then 0 else f s r) := aU fun r _ => vh hn p (fun s => f s r)
  rw [e1, e2, Fe]
  refine aU fun r _ => aU fun s _ => ?_
  by_cases h : r = s
  · rw [if_pos h, if_pos h.symm]
  · rw [if_neg h, if_neg (fun z => h z.symm)]
theorem filter_all {α : Type} (F : List α) : F.filter (fun _ => true) = F := List.filter_eq_self.mpr fun _ _ => rfl
theorem Iz {F : List Nat} (hn : F.Nodup) (f : Nat → Nat → Int) : bL F (fun s => bL (F.erase s) (f s)) = bL F (fun r => bL (F.erase r) (fun s => f s r)) := by
  have := O5 hn (fun _ => true) (fun _ => true) f
  simpa only [filter_all] using this
theorem IK {F : List Nat} (hn : F.Nodup) {r : Nat} (hr : r ∈ F) (p : Nat → Bool) (hp : p r = true) : (((F.erase r).filter p).length : Int) = ((F.filter p).length : Int) - 1 := by
  rw [S_len, S_len, vh hn p]
  have e : bL (F.filter p) (fun x => if x = r then 0 else (1 : Int)) = bL (F.filter p) (fun _ => 1) - bL (F.filter p) (fun x => if x = r then 1 else 0) := by
    rw [← aeX]
    exact aU fun x _ => by split <;> rfl
  rw [e]
  have e2 : ∀ (l : List Nat), l.Nodup → r ∈ l → bL l (fun x => if x = r then (1 : Int) else 0) = 1 := by
    intro l
    induction l with
    | nil => intro _ h; cases h
    | cons a l ih =>
      intro hn h
      obtain ⟨n1, n2⟩ := List.nodup_cons.mp hn
      rw [dF]
      by_cases ea : a = r
      · subst ea
        rw [if_pos rfl]
        have : bL l (fun x => if x = a then (1 : Int) else 0) = bL l (fun _ => 0) := aU fun x hx => by rw [if_neg (fun z => n1 (by rw [← z]; exact hx))]
        rw [this, rN]
        rfl
      · rw [if_neg ea, ih n2 ((List.mem_cons.mp h).resolve_left (fun z => ea z.symm))]
        rfl
  rw [e2 _ (hn.filter _) (List.mem_filter.mpr ⟨hr, hp⟩)]
/-! in how many ways few of many things are chosen -/
def chs : Nat → Nat → Nat
  | _, 0 => 1
  | 0, _ + 1 => 0
  | n + 1, k + 1 => chs n k + chs n (k + 1)
end DM
end
section
set_option maxHeartbeats 1000000
namespace DM
def sh (f : Nat → Int) : Nat → Int := fun i => f (i + 1)
def dl (f : Nat → Int) : Nat → Int := fun i => f (i + 1) - f i
def Sy : Nat → (Nat → Int) → Nat → Int
  | 0, f => f
  | m + 1, f => Sy m (dl f)
def JH : Nat → Nat
  | 0 => 1
  | n + 1 => (n + 1) * JH n
def wL : List Nat → List Nat → (Nat → Int) → Int
  | [], _, f => f 0
  | t :: ts, F, f => bL F fun s => wL ts (F.erase s) (if s ≤ t then sh f else f)
theorem aeY (f : Nat → Int) : sh f = fun i => f i + dl f i := by
  funext i
  show f (i + 1) = f i + (f (i + 1) - f i)
  omega
theorem Fg : ∀ (ts F : List Nat) (f g : Nat → Int), wL ts F (fun i => f i + g i) = wL ts F f + wL ts F g
  | [], _, _, _ => rfl
  | t :: ts, F, f, g => by
    show bL F _ = bL F _ + bL F _
    rw [← Iw]
    refine aU fun s _ => ?_
    show wL ts (F.erase s) (if s ≤ t then sh (fun i => f i + g i) else fun i => f i + g i) = _
    by_cases h : s ≤ t
    · rw [if_pos h, if_pos h, if_pos h]
      exact Fg ts (F.erase s) (sh f) (sh g)
    · rw [if_neg h, if_neg h, if_neg h]
      exact Fg ts (F.erase s) f g
theorem RJ (t : Nat) (ts F : List Nat) (f : Nat → Int) : wL (t :: ts) F f = bL F (fun s => wL ts (F.erase s) f) + bL (F.filter fun s => decide (s ≤ t)) (fun s => wL ts (F.erase s) (dl f)) := by
  rw [jK, ← Iw]
  show bL F _ = _
  refine aU fun s _ => ?_
  by_cases h : s ≤ t
  · rw [if_pos h, if_pos (decide_eq_true h), aeY, Fg]
  · rw [if_neg h, if_neg (by simpa using h), Int.add_zero]
def jV : List Nat → List Nat → Nat → Int
  | [], _, 0 => 1
  | [], _, _ + 1 => 0
  | _ :: ts, F, 0 => jV ts F 0
  | t :: ts, F, m + 1 => jV ts F (m + 1) + bL (F.filter fun s => decide (s ≤ t)) fun s => jV ts (F.erase s) m
theorem lK : ∀ (ts F : List Nat) (m : Nat), 0 ≤ jV ts F m
  | [], _, 0 => show (0 : Int) ≤ 1 by decide
  | [], _, _ + 1 => Int.le_refl 0
  | _ :: ts, F, 0 => lK ts F 0
  | t :: ts, F, m + 1 => Int.add_nonneg (lK ts F (m + 1)) (yW fun s _ => lK ts (F.erase s) m)
theorem Fj : ∀ (ts F : List Nat) (m : Nat), ts.length < m → jV ts F m = 0
  | [], _, 0, h => by simp at h
  | [], _, _ + 1, _ => rfl
  | _ :: _, _, 0, h => by simp at h
  | t :: ts, F, m + 1, h => by
    rw [List.length_cons] at h
    show jV ts F (m + 1) + bL _ _ = 0
    have e : bL (F.filter fun s => decide (s ≤ t)) (fun s => jV ts (F.erase s) m) = bL (F.filter fun s => decide (s ≤ t)) (fun _ => 0) := aU fun s _ => Fj ts _ m (by omega)
    rw [Fj ts F (m + 1) (by omega), e, rN]
    rfl
theorem uh : ∀ (ts F : List Nat) (g : Nat → Bool), F.Nodup → (∀ t ∈ ts, ∀ s ∈ F, s ≤ t → g s = true) → ∀ m : Nat, bL (F.filter g) (fun s => jV ts (F.erase s) m) = (((F.filter g).length : Int) - m) * jV ts F m
  | [], F, g, _, _, 0 => by
    show bL (F.filter g) (fun _ => 1) = _ * 1
    rw [O4, Int.mul_one, Int.mul_one]
    omega
  | [], F, g, _, _, m + 1 => by
    show bL (F.filter g) (fun _ => 0) = _ * 0
    rw [rN, Int.mul_zero]
  | t :: ts, F, g, hn, hg, 0 => uh ts F g hn (fun u hu => hg u (List.mem_cons_of_mem _ hu)) 0
  | t :: ts, F, g, hn, hg, m + 1 => by
    have hg' := fun u (hu : u ∈ ts) => hg u (List.mem_cons_of_mem _ hu)
    have i1 := uh ts F g hn hg' (m + 1)
    have e : bL (F.filter g) (fun s => jV (t :: ts) (F.erase s) (m + 1)) = bL (F.filter g) (fun s => jV ts (F.erase s) (m + 1)) + bL (F.filter g) (fun s => bL ((F.erase s).filter fun r => decide (r ≤ t)) fun r => jV ts ((F.erase s).erase r) m) := by
      rw [← Iw]
      rfl
    rw [e, i1, O5 hn g (fun r => decide (r ≤ t)) (fun s r => jV ts ((F.erase s).erase r) m)]
    have e2 : bL (F.filter fun r => decide (r ≤ t)) (fun r => bL ((F.erase r).filter g) fun s => jV ts ((F.erase s).erase r) m) = bL (F.filter fun r => decide (r ≤ t)) (fun r => (((F.filter g).length : Int) - (m + 1)) * jV ts (F.erase r) m) := by
      refine aU fun r hr => ?_
      obtain ⟨r1, r2⟩ := List.mem_filter.mp hr
      have r3 : r ≤ t := by simpa using r2
      have i2 := uh ts (F.erase r) g (hn.erase r) (fun u hu s hs => hg' u hu s (List.mem_of_mem_erase hs)) m
      rw [IK hn r1 g (hg t List.mem_cons_self r r1 r3)] at i2
      have e3 : bL ((F.erase r).filter g) (fun s => jV ts ((F.erase s).erase r) m) = bL ((F.erase r).filter g) (fun s => jV ts ((F.erase r).erase s) m) := aU fun s _ => by rw [List.erase_comm]
      rw [e3, i2]
      congr 1
      omega
    rw [e2, abq]
    show _ = (((F.filter g).length : Int) - ((m + 1 : Nat) : Int)) * (jV ts F (m + 1) + _)
    rw [Int.mul_add]
    rfl
theorem aam (ts F : List Nat) (hn : F.Nodup) (m : Nat) : bL F (fun s => jV ts (F.erase s) m) = ((F.length : Int) - m) * jV ts F m := by
  have := uh ts F (fun _ => true) hn (fun _ _ _ _ _ => rfl) m
  rwa [filter_all] at this
theorem iZ (n : Nat) (f : Nat → Int) : bL (List.range (n + 1)) f = f 0 + bL (List.range n) fun m => f (m + 1) := by
  rw [List.range_succ_eq_map, dF, abr]
theorem vP (n : Nat) (f : Nat → Int) : bL (List.range (n + 1)) f = bL (List.range n) f + f n := by
  rw [List.range_succ, aeW, dF, BW, Int.add_zero]
theorem Mg : ∀ (ts F : List Nat) (f : Nat → Int), F.Nodup → F.length = ts.length → wL ts F f = bL (List.range (ts.length + 1)) fun m => jV ts F m * JH (ts.length - m) * Sy m f 0
  | [], F, f, _, _ => by
    show f 0 = bL [0] _
    rw [dF, BW]
    show f 0 = 1 * ((JH 0 : Nat) : Int) * f 0 + 0
    show f 0 = 1 * 1 * f 0 + 0
    omega
  | t :: ts, F, f, hn, hl => by
    rw [List.length_cons] at hl
    have le : ∀ s ∈ F, (F.erase s).length = ts.length := fun s hs => by rw [List.length_erase_of_mem hs]; omega
    rw [RJ]
    have e1 : bL F (fun s => wL ts (F.erase s) f) = bL (List.range (ts.length + 1)) fun m => jV ts F m * JH (ts.length + 1 - m) * Sy m f 0 := by
      have e : bL F (fun s => wL ts (F.erase s) f) = bL F fun s => bL (List.range (ts.length + 1)) fun m => jV ts (F.erase s) m * (JH (ts.length - m) * Sy m f 0) := aU fun s hs => by
        rw [Mg ts (F.erase s) f (hn.erase s) (le s hs)]
        exact aU fun m _ => Int.mul_assoc _ _ _
      rw [e, Fe]
      refine aU fun m hm => ?_
      have hm := List.mem_range.mp hm
      rw [O2, aam ts F hn m, hl, show ts.length + 1 - m = (ts.length - m) + 1 by omega]
      have ef : ((JH (ts.length - m + 1) : Nat) : Int) = (((ts.length + 1 : Nat) : Int) - m) * JH (ts.length - m) := by
        show (((ts.length - m + 1) * JH (ts.length - m) : Nat) : Int) = _
        rw [Int.natCast_mul]
        congr 1
        omega
      rw [ef, ← Int.mul_assoc, Int.mul_comm ((((ts.length + 1 : Nat) : Int) - m)) (jV ts F m), Int.mul_assoc (jV ts F m)]
    have e2 : bL (F.filter fun s => decide (s ≤ t)) (fun s => wL ts (F.erase s) (dl f)) = bL (List.range (ts.length + 1)) fun m => bL (F.filter fun s => decide (s ≤ t)) (fun s => jV ts (F.erase s) m) * (JH (ts.length - m) * Sy (m + 1) f 0) := by
      have e : bL (F.filter fun s => decide (s ≤ t)) (fun s => wL ts (F.erase s) (dl f)) = bL (F.filter fun s => decide (s ≤ t)) fun s => bL (List.range (ts.length + 1)) fun m => jV ts (F.erase s) m * (JH (ts.length - m) * Sy (m + 1) f 0) := aU fun s hs => by
        rw [Mg ts (F.erase s) (dl f) (hn.erase s) (le s (List.mem_filter.mp hs).1)]
        exact aU fun m _ => Int.mul_assoc _ _ _
      rw [e, Fe]
      exact aU fun m _ => O2 _ _ _
    rw [e1, e2]
    show _ = bL (List.range (ts.length + 1 + 1)) fun m => jV (t :: ts) F m * JH (ts.length + 1 - m) * Sy m f 0
    rw [iZ (ts.length + 1)]
    have e3 : bL (List.range (ts.length + 1)) (fun m => jV (t :: ts) F (m + 1) * JH (ts.length + 1 - (m + 1)) * Sy (m + 1) f 0) = bL (List.range (ts.length + 1)) (fun m => jV ts F (m + 1) * JH (ts.length + 1 - (m + 1)) * Sy (m + 1) f 0) + bL (List.range (ts.length + 1)) fun m => bL (F.filter fun s => decide (s ≤ t)) (fun s => jV ts (F.erase s) m) * (JH (ts.length - m) * Sy (m + 1) f 0) := by
      rw [← Iw]
      refine aU fun m _ => ?_
      show (jV ts F (m + 1) + _) * _ * _ = _
      rw [Nat.add_sub_add_right, Int.add_mul, Int.add_mul, Int.mul_assoc (bL _ _)]
    rw [e3, iZ ts.length, vP ts.length (fun m => jV ts F (m + 1) * JH (ts.length + 1 - (m + 1)) * Sy (m + 1) f 0), Fj ts F (ts.length + 1) (by omega)]
    show _ = jV ts F 0 * _ * _ + _
    rw [Int.zero_mul, Int.zero_mul]
    omega
/-! the placements, step by step -/
def stp (P : List Int) (c : Nat) : List Int := (List.range (P.length + 1)).map fun m => P.getD m 0 + (match m with | 0 => 0 | k + 1 => P.getD k 0 * max 0 ((c : Int) - k))
def plc (cs : List Nat) : List Int := cs.foldl stp [1]
def good (F : List Nat) (t : Nat) : Nat := (F.filter fun s => decide (s ≤ t)).length
theorem aan (P : List Int) (c m : Nat) : (stp P c).getD m 0 = P.getD m 0 + (match m with | 0 => 0 | k + 1 => P.getD k 0 * max 0 ((c : Int) - k)) := by
  unfold stp
  by_cases h : m < P.length + 1
  · rw [List.getD_eq_getElem?_getD, List.getElem?_map, List.getElem?_range h]
    rfl
  · have e1 : P.getD m 0 = 0 := by rw [List.getD_eq_getElem?_getD, List.getElem?_eq_none (by omega)]; rfl
    rw [List.getD_eq_getElem?_getD, List.getElem?_eq_none (by rw [List.length_map, List.length_range]; omega), e1]
    cases m with
    | zero => omega
    | succ k =>
      have e2 : P.getD k 0 = 0 := by rw [List.getD_eq_getElem?_getD, List.getElem?_eq_none (by omega)]; rfl
      show (0 : Int) = 0 + P.getD k 0 * _
      rw [e2, Int.zero_mul]
      rfl
theorem Xg (cs : List Nat) (c : Nat) : plc (cs ++ [c]) = stp (plc cs) c := by unfold plc; rw [List.foldl_append]; rfl
theorem Xh : ∀ (ts F : List Nat), F.Nodup → ts.Pairwise (fun a b => b ≤ a) → ∀ m : Nat, (plc (ts.reverse.map (good F))).getD m 0 = jV ts F m
  | [], F, _, _, m => by
    show ([1] : List Int).getD m 0 = jV [] F m
    match m with
    | 0 => rfl
    | _ + 1 => rfl
  | t :: ts, F, hn, hp, m => by
    obtain ⟨p1, p2⟩ := List.pairwise_cons.mp hp
    have ih := Xh ts F hn p2
    rw [List.reverse_cons, List.map_append, List.map_cons, List.map_nil, Xg, aan]
    match m with
    | 0 => rw [ih 0]; show jV ts F 0 + 0 = jV ts F 0; omega
    | m + 1 =>
      show (plc _).getD (m + 1) 0 + (plc _).getD m 0 * _ = jV ts F (m + 1) + bL _ _
      have c := uh ts F (fun s => decide (s ≤ t)) hn (fun u hu s _ hs => decide_eq_true (Nat.le_trans hs (p1 u hu))) m
      rw [ih (m + 1), ih m, c]
      have nn := lK ts F m
      have sn : 0 ≤ bL (F.filter fun s => decide (s ≤ t)) (fun s => jV ts (F.erase s) m) := yW fun s _ => lK _ _ _
      rw [c] at sn
      show jV ts F (m + 1) + jV ts F m * max 0 ((good F t : Int) - m) = jV ts F (m + 1) + ((good F t : Int) - m) * jV ts F m
      have sn' : 0 ≤ ((good F t : Int) - m) * jV ts F m := sn
      congr 1
      by_cases h : 0 ≤ (good F t : Int) - m
      · rw [Int.max_eq_right h, Int.mul_comm]
      · rw [Int.max_eq_left (by omega), Int.mul_zero]
        have h0 : jV ts F m = 0 := by
          have k : jV ts F m ≤ 0 := by
            by_cases z : jV ts F m ≤ 0
            · exact z
            · have := Int.mul_neg_of_neg_of_pos (show (good F t : Int) - m < 0 by omega) (show 0 < jV ts F m by omega)
              omega
          omega
        rw [h0, Int.mul_zero]
/-! by numbers of those who sit well -/
def ap : List Int → (Nat → Int) → Int
  | [], _ => 0
  | a :: l, f => a * f 0 + ap l (sh f)
theorem Xi : ∀ (l : List Int) (f g : Nat → Int), ap l (fun i => f i - g i) = ap l f - ap l g
  | [], _, _ => rfl
  | a :: l, f, g => by
    have ih := Xi l (sh f) (sh g)
    show a * (f 0 - g 0) + ap l (fun i => sh f i - sh g i) = a * f 0 + ap l (sh f) - (a * g 0 + ap l (sh g))
    rw [ih, Int.mul_sub]
    omega
def RK : List Int → List Int → List Int
  | a :: l, b :: r => (a - b) :: RK l r
  | _, _ => []
def xm1 (l : List Int) : List Int := RK (0 :: l) (l ++ [0])
theorem O6 : ∀ (l : List Int) (a : Int) (f : Nat → Int), ap (RK (a :: l) (l ++ [0])) f = a * f 0 + ap l (sh f) - ap l f
  | [], a, f => by
    show (a - 0) * f 0 + 0 = a * f 0 + 0 - 0
    rw [Int.sub_zero, Int.sub_zero]
  | b :: l, a, f => by
    have ih := O6 l b (sh f)
    show (a - b) * f 0 + ap (RK (b :: l) (l ++ [0])) (sh f) = a * f 0 + (b * sh f 0 + ap l (sh (sh f))) - (b * f 0 + ap l (sh f))
    rw [ih, Int.sub_mul]
    omega
theorem ac5 (l : List Int) (f : Nat → Int) : ap (xm1 l) f = ap l (dl f) := by
  unfold xm1
  rw [O6, Int.zero_mul, Int.zero_add]
  exact (Xi l (sh f) f).symm
def ac6 (c : Int) : List Int → List Int
  | a :: l => (a + c) :: l
  | [] => []
def hor : List Int → List Int
  | [] => []
  | q :: qs => ac6 q (xm1 (hor qs))
theorem IV : ∀ (l : List Int) (a : Int), (RK (a :: l) (l ++ [0])).length = l.length + 1
  | [], _ => rfl
  | b :: l, a => by
    show (RK (b :: l) (l ++ [0])).length + 1 = _
    rw [IV l b]
    rfl
theorem aao {l : List Int} (c : Int) (f : Nat → Int) (h : l ≠ []) : ap (ac6 c l) f = c * f 0 + ap l f := by
  cases l with
  | nil => exact absurd rfl h
  | cons a l =>
    show (a + c) * f 0 + ap l (sh f) = c * f 0 + (a * f 0 + ap l (sh f))
    rw [Int.add_mul]
    omega
theorem ac7 (l : List Int) : xm1 l ≠ [] := fun z => by
  have := IV l 0
  unfold xm1 at z
  rw [z] at this
  simp at this
theorem Xj : ∀ (qs : List Int) (f : Nat → Int), ap (hor qs) f = bL (List.range qs.length) fun m => qs.getD m 0 * Sy m f 0
  | [], f => rfl
  | q :: qs, f => by
    show ap (ac6 q (xm1 (hor qs))) f = _
    rw [aao q f (ac7 _), ac5, Xj qs (dl f), List.length_cons, iZ]
    rfl
def sea (cs : List Nat) : List Int := hor ((List.range (cs.length + 1)).map fun m => (plc cs).getD m 0 * ((JH (cs.length - m) : Nat) : Int))
theorem ac9 (ts F : List Nat) (f : Nat → Int) (hn : F.Nodup) (hl : F.length = ts.length) (hp : ts.Pairwise (fun a b => b ≤ a)) : ap (sea (ts.reverse.map (good F))) f = wL ts F f := by
  unfold sea
  rw [Xj, Mg ts F f hn hl, List.length_map, List.length_range, List.length_map, List.length_reverse]
  refine aU fun m hm => ?_
  have hm := List.mem_range.mp hm
  congr 1
  rw [List.getD_eq_getElem?_getD, List.getElem?_map, List.getElem?_range hm]
  show (plc _).getD m 0 * _ = _
  rw [Xh ts F hn hp m]
/-! the order of the people does not matter -/
theorem IW {ts us : List Nat} (h : ts.Perm us) : ∀ (F : List Nat) (f : Nat → Int), F.Nodup → wL ts F f = wL us F f := by
  induction h with
  | nil => intro F f _; rfl
  | cons t _ ih =>
    intro F f hn
    exact aU fun s _ => ih (F.erase s) _ (hn.erase s)
  | swap a b l =>
    intro F f hn
    show bL F (fun s => bL (F.erase s) fun r => wL l ((F.erase s).erase r) (if r ≤ a then sh (if s ≤ b then sh f else f) else (if s ≤ b then sh f else f))) = bL F (fun s => bL (F.erase s) fun r => wL l ((F.erase s).erase r) (if r ≤ b then sh (if s ≤ a then sh f else f) else (if s ≤ a then sh f else f)))
    rw [Iz hn]
    refine aU fun s _ => aU fun r _ => ?_
    rw [List.erase_comm]
    congr 1
    by_cases h1 : s ≤ a
    · by_cases h2 : r ≤ b
      · rw [if_pos h1, if_pos h2, if_pos h1, if_pos h2]
      · rw [if_pos h1, if_neg h2, if_pos h1, if_neg h2]
    · by_cases h2 : r ≤ b
      · rw [if_neg h1, if_pos h2, if_neg h1, if_pos h2]
      · rw [if_neg h1, if_neg h2, if_neg h1, if_neg h2]
  | trans _ _ h1 h2 => intro F f hn; rw [h1 F f hn, h2 F f hn]
end DM
end
section
set_option exponentiation.threshold 10000
namespace DM
open PySem L2 DM
/-! ajL: the counting on data: choose, placements, seatings. -/
theorem yX {fg : D → aq → Option aq} {fb : aq → R Fl} {P : Nat → aq → Prop} : ∀ (ds : List D) (k : Nat) (ρ : aq), P k ρ → (∀ (j : Nat) (d : D) (ρ : aq), ds[j]? = some d → P (k + j) ρ → ∃ ρ1 ρ2, fg d ρ = some ρ1 ∧ fb ρ1 = .ok .nx ρ2 ∧ P (k + j + 1) ρ2) → ∃ ρ', pD fg fb ds ρ = .ok .nx ρ' ∧ P (k + ds.length) ρ'
  | [], k, ρ, h, _ => ⟨ρ, rfl, h⟩
  | d :: ds, k, ρ, h, st => by
    obtain ⟨ρ1, ρ2, h1, h2, h3⟩ := st 0 d ρ rfl h
    obtain ⟨ρ', h4, h5⟩ := yX (fg := fg) (fb := fb) (P := P) ds (k + 1) ρ2 h3 fun j d' ρ hj hp => by
      rw [show k + 1 + j = k + (j + 1) by omega] at hp ⊢
      exact st (j + 1) d' ρ hj hp
    refine ⟨ρ', ?_, by rw [List.length_cons, show k + (ds.length + 1) = k + 1 + ds.length by omega]; exact h5⟩
    unfold pD
    rw [h1]
    simp only [h2, aX]
    exact h4
def chI (m : Int) (f : Nat) : Nat := if m < f then 0 else chs m.toNat f
def Sml (B : Nat) (P : List Int) : Prop := ∀ x ∈ P, 0 ≤ x ∧ x ≤ (B : Nat)
theorem Sml.get {B : Nat} {P : List Int} (h : Sml B P) (i : Nat) : 0 ≤ P.getD i 0 ∧ P.getD i 0 ≤ (B : Nat) := by
  rw [List.getD_eq_getElem?_getD]
  cases q : P[i]? with
  | none => exact ⟨Int.le_refl _, Int.natCast_nonneg _⟩
  | some x => exact h x (List.mem_of_getElem? q)
theorem Sml.stp {B : Nat} {P : List Int} {c : Nat} (h : Sml B P) (hc : c ≤ 20) : Sml (B * 21) (DM.stp P c) := fun x hx => by
  obtain ⟨i, _, rfl⟩ := List.mem_map.mp hx
  have a := h.get i
  have e20 : ((B * 21 : Nat) : Int) = (B : Int) * 21 := Int.natCast_mul _ _
  cases i with
  | zero =>
    show 0 ≤ P.getD 0 0 + 0 ∧ P.getD 0 0 + 0 ≤ _
    rw [e20]; omega
  | succ k =>
    have b := h.get k
    show 0 ≤ P.getD (k + 1) 0 + P.getD k 0 * max 0 ((c : Int) - k) ∧ P.getD (k + 1) 0 + P.getD k 0 * max 0 ((c : Int) - k) ≤ _
    have m0 : 0 ≤ max 0 ((c : Int) - k) := by omega
    have m1 : max 0 ((c : Int) - k) ≤ 20 := by omega
    have p0 : 0 ≤ P.getD k 0 * max 0 ((c : Int) - k) := Int.mul_nonneg b.1 m0
    have p1 : P.getD k 0 * max 0 ((c : Int) - k) ≤ P.getD k 0 * 20 := Int.mul_le_mul_of_nonneg_left m1 b.1
    rw [e20]
    omega
section
variable {cs : List Nat} {P : List Int} {c m : Nat} {x2 x3 x4 x5 : Option En}
end
section
variable {cs : List Nat} {L : List Int} {t : Nat} {w : Int} {o : Nat} {x3 x4 : Option En}
end
end DM
end
section
set_option exponentiation.threshold 10000
namespace DM
open PySem L2 DM
/-! ajM: the counting on data: spread, ways_with. -/
def abu (S : List (Nat × Nat)) : D := .dct (nD (S.map (·.1))) (nD (S.map (·.2)))
def dY (n : Nat) (S : List (Nat × Nat)) : List Nat := (List.range n).filter fun s => !(S.map (·.2)).contains s
def uo (ks : List Nat) (S : List (Nat × Nat)) : Nat := (S.filter fun p => decide (ks.getD p.1 0 < p.2)).length
def jW (n : Nat) (S : List (Nat × Nat)) : List Nat := (List.range n).filter fun x => !(S.map (·.1)).contains x
def Fo (ks : List Nat) (S : List (Nat × Nat)) : List Nat := (jW ks.length S).map fun x => good (dY ks.length S) (ks.getD x 0)
def O7 (q : Int) (ks : List Nat) (S : List (Nat × Nat)) (N : List Int) : List (Int × Int) := ((List.range N.length).map fun w => (q - uo ks S - (jW ks.length S).length + (w : Nat), N.getD w 0))
def Fp (q : Int) (ks : List Nat) (S : List (Nat × Nat)) (N : List Int) : List (Int × Int) := (O7 q ks S N).filter fun p => decide (0 ≤ p.1) && decide (0 < p.2)
section
variable {d : D} {q : Int} {n : Nat} {ks st : List Nat} {S : List (Nat × Nat)} {fl : List D}
end
section
variable {d : D} {q : Int} {n : Nat} {ks st : List Nat} {S : List (Nat × Nat)} {fl : List D} {i : Nat} {cl : Nat → List En → R En} {N : List Int}
end
end DM
end
section
set_option exponentiation.threshold 10000
namespace DM
open PySem L2 DM
/-! ajN: ways_with on data; and as a sum over all seatings that go on. -/
/-! how great the numbers are -/
def Xk (n : Nat) (L : List (Int × Int)) : Int := (L.map fun p => p.2 * ((chI (p.1 + n - 1) (n - 1) : Nat) : Int)).sum
def stN (ks : List Nat) (S : List (Nat × Nat)) : List Nat := (PySem.W.sortI ((Fo ks S).map fun i => ((i : Nat) : Int))).map Int.toNat
def Xl (run : List En → R En) : Prop := ∀ (d : D) (q : Int) (ks : List Nat) (S : List (Nat × Nat)), Sq d (nD ks) → 1 ≤ ks.length → ks.length ≤ 18 → (∀ p ∈ S, p.1 < ks.length) → S.length ≤ 1000 → q < 2 ^ 150 → Ret run [.fr d, .fr (.int q), .fr (abu S)] (.fr (.int (Xk ks.length (Fp q ks S (sea (stN ks S))))))
theorem Mh : ∀ (N : List Int) (f : Nat → Int), ap N f = bL (List.range N.length) fun w => N.getD w 0 * f w
  | [], f => rfl
  | a :: N, f => by
    show a * f 0 + ap N (sh f) = _
    rw [Mh N (sh f), List.length_cons, iZ]
    rfl
theorem ada (N : List Int) (k : Nat) : ap N (fun i => if i = k then 1 else 0) = N.getD k 0 := by
  rw [Mh]
  by_cases hk : k < N.length
  · have e : bL (List.range N.length) (fun w => N.getD w 0 * (if w = k then 1 else 0)) = bL (List.range N.length) fun w => if w = k then N.getD k 0 else 0 := aU fun w _ => by
      by_cases z : w = k
      · rw [if_pos z, if_pos z, z, Int.mul_one]
      · rw [if_neg z, if_neg z, Int.mul_zero]
    rw [e]
    have key : ∀ m, bL (List.range m) (fun w => if w = k then N.getD k 0 else 0) = if k < m then N.getD k 0 else 0 := by
      intro m
      induction m with
      | zero => rfl
      | succ m ih =>
        rw [vP, ih]
        by_cases z : m = k
        · rw [if_neg (by omega), if_pos z, if_pos (by omega)]; omega
        · rw [if_neg z]
          by_cases y : k < m
          · rw [if_pos y, if_pos (by omega)]; omega
          · rw [if_neg y, if_neg (by omega)]; omega
    rw [key, if_pos hk]
  · have e : bL (List.range N.length) (fun w => N.getD w 0 * (if w = k then 1 else 0)) = bL (List.range N.length) fun _ => 0 := aU fun w hw => by
      have hw := List.mem_range.mp hw
      rw [if_neg (by omega), Int.mul_zero]
    rw [e, rN, List.getD_eq_getElem?_getD, List.getElem?_eq_none (by omega)]
    rfl
theorem yZ : ∀ (ts F : List Nat) (f : Nat → Int), (∀ i, 0 ≤ f i) → 0 ≤ wL ts F f
  | [], _, f, h => h 0
  | t :: ts, F, f, h => yW fun s _ => yZ ts _ _ (by
    intro i
    split
    · exact h (i + 1)
    · exact h i)
theorem BX : ∀ (ts F : List Nat) (f g : Nat → Int), (∀ i, i ≤ ts.length → f i = g i) → wL ts F f = wL ts F g
  | [], _, f, g, h => h 0 (Nat.le_refl _)
  | t :: ts, F, f, g, h => aU fun s _ => BX ts _ _ _ fun i hi => by
    split
    · exact h (i + 1) (by rw [List.length_cons]; omega)
    · exact h i (by rw [List.length_cons]; omega)
theorem good_mono (F : List Nat) {a b : Nat} (h : a ≤ b) : good F a ≤ good F b := by
  unfold good
  induction F with
  | nil => exact Nat.le_refl _
  | cons x F ih =>
    rw [List.filter_cons, List.filter_cons]
    by_cases h1 : x ≤ a
    · rw [if_pos (decide_eq_true h1), if_pos (decide_eq_true (Nat.le_trans h1 h)), List.length_cons, List.length_cons]
      omega
    · rw [if_neg (by simpa using h1)]
      split
      · rw [List.length_cons]; omega
      · exact ih
def jO (ks : List Nat) (S : List (Nat × Nat)) : List Nat := (jW ks.length S).map fun x => ks.getD x 0
theorem RL (ks : List Nat) (S : List (Nat × Nat)) : Fo ks S = (jO ks S).map (good (dY ks.length S)) := by
  unfold Fo jO
  rw [List.map_map]
  rfl
theorem O8 {ks : List Nat} {S : List (Nat × Nat)} (hl : (dY ks.length S).length = (jW ks.length S).length) (f : Nat → Int) : ap (sea (stN ks S)) f = wL (jO ks S) (dY ks.length S) f := by
  have hn : (dY ks.length S).Nodup := List.nodup_range.filter _
  have tl : (jO ks S).length = (jW ks.length S).length := by unfold jO; rw [List.length_map]
  have p1 : ((PySem.W.sortI ((jO ks S).map fun i => ((i : Nat) : Int))).map Int.toNat).Perm (jO ks S) := by
    have := (PySem.W.sortI_perm ((jO ks S).map fun i => ((i : Nat) : Int))).map Int.toNat
    rw [List.map_map] at this
    have e : (jO ks S).map (Int.toNat ∘ fun i => ((i : Nat) : Int)) = jO ks S := by
      conv => rhs; rw [← List.map_id (jO ks S)]
      exact List.map_congr_left fun x _ => Int.toNat_natCast x
    rw [e] at this
    exact this
  have p2 : ((PySem.W.sortI ((jO ks S).map fun i => ((i : Nat) : Int))).map Int.toNat).Pairwise (fun a b => a ≤ b) := by
    rw [List.pairwise_map]
    exact (PySem.W.sortI_rises _).imp fun {a b} h => by omega
  generalize hA : (PySem.W.sortI ((jO ks S).map fun i => ((i : Nat) : Int))).map Int.toNat = A at p1 p2
  have e1 := IW (p1.symm.trans (List.reverse_perm A).symm) (dY ks.length S) f hn
  have e2 := ac9 A.reverse (dY ks.length S) f hn (by rw [List.length_reverse, p1.length_eq, tl]; exact hl) (List.pairwise_reverse.mpr p2)
  rw [List.reverse_reverse] at e2
  rw [e1, ← e2]
  congr 2
  have e3 : (A.map (good (dY ks.length S))).map (fun i => ((i : Nat) : Int)) = PySem.W.sortI ((Fo ks S).map fun i => ((i : Nat) : Int)) := by
    refine PySem.W.eq_sortI ?_ ?_
    · rw [RL]
      exact (p1.map _).map _
    · rw [List.pairwise_map, List.pairwise_map]
      exact p2.imp fun {a b} h => by have := good_mono (dY ks.length S) h; omega
  unfold stN
  rw [← e3, List.map_map]
  conv => rhs; rw [← List.map_id (A.map (good (dY ks.length S)))]
  exact List.map_congr_left fun x _ => Int.toNat_natCast x
def ae0 (n : Nat) (c : Int) (w : Nat) : Int := if 0 ≤ c + (w : Nat) then ((chI (c + (w : Nat) + n - 1) (n - 1) : Nat) : Int) else 0
def O9 (q : Int) (ks : List Nat) (S : List (Nat × Nat)) : Int := wL (jO ks S) (dY ks.length S) (ae0 ks.length (q - uo ks S - (jW ks.length S).length))
theorem Xm {q : Int} {ks : List Nat} {S : List (Nat × Nat)} (hl : (dY ks.length S).length = (jW ks.length S).length) : Xk ks.length (Fp q ks S (sea (stN ks S))) = O9 q ks S := by
  have nn : ∀ w, 0 ≤ (sea (stN ks S)).getD w 0 := fun w => by
    rw [← ada, O8 hl]
    exact yZ _ _ _ fun i => by split <;> omega
  unfold O9
  rw [← O8 hl, Mh]
  unfold Xk Fp O7
  generalize sea (stN ks S) = N at *
  show bL _ (fun p : Int × Int => p.2 * ((chI (p.1 + ks.length - 1) (ks.length - 1) : Nat) : Int)) = _
  rw [jK, abr]
  refine aU fun w _ => ?_
  have h0 := nn w
  unfold ae0
  by_cases h1 : 0 ≤ q - uo ks S - (jW ks.length S).length + (w : Nat)
  · rw [if_pos h1]
    by_cases h2 : 0 < N.getD w 0
    · rw [if_pos (by rw [Bool.and_eq_true]; exact ⟨decide_eq_true h1, decide_eq_true h2⟩)]
    · rw [if_neg (by rw [Bool.and_eq_true]; exact fun z => h2 (of_decide_eq_true z.2)), show N.getD w 0 = 0 by omega, Int.zero_mul]
  · rw [if_neg h1, if_neg (by rw [Bool.and_eq_true]; exact fun z => h1 (of_decide_eq_true z.1)), Int.mul_zero]
theorem oW (n : Nat) : ∀ (l : List Nat), l.Nodup → (∀ x ∈ l, x < n) → ((List.range n).filter fun s => !l.contains s).length + l.length = n
  | [], _, _ => by
    have e : ((List.range n).filter fun s => !([] : List Nat).contains s) = List.range n := List.filter_eq_self.mpr fun _ _ => rfl
    rw [e, List.length_range]
    rfl
  | x :: l, hn, hl => by
    obtain ⟨n1, n2⟩ := List.nodup_cons.mp hn
    have ih := oW n l n2 fun y hy => hl y (List.mem_cons_of_mem _ hy)
    have hx : x ∈ (List.range n).filter fun s => !l.contains s := List.mem_filter.mpr ⟨List.mem_range.mpr (hl x List.mem_cons_self), by simpa using n1⟩
    have e : ((List.range n).filter fun s => !(x :: l).contains s) = ((List.range n).filter fun s => !l.contains s).erase x := by
      rw [List.Nodup.erase_eq_filter (List.nodup_range.filter _), List.filter_filter]
      refine List.filter_congr fun s _ => ?_
      rw [List.contains_cons, Bool.not_or]
      rfl
    have p := List.length_pos_of_mem hx
    rw [e, List.length_erase_of_mem hx, List.length_cons]
    omega
structure qX (n : Nat) (S : List (Nat × Nat)) : Prop where
  keys : (S.map (·.1)).Nodup
  vals : (S.map (·.2)).Nodup
  klt : ∀ p ∈ S, p.1 < n
  vlt : ∀ p ∈ S, p.2 < n
theorem qX.same {n : Nat} {S : List (Nat × Nat)} (h : qX n S) : (dY n S).length = (jW n S).length := by
  have a := oW n (S.map (·.2)) h.vals fun x hx => by
    obtain ⟨p, hp, rfl⟩ := List.mem_map.mp hx
    exact h.vlt p hp
  have b := oW n (S.map (·.1)) h.keys fun x hx => by
    obtain ⟨p, hp, rfl⟩ := List.mem_map.mp hx
    exact h.klt p hp
  rw [List.length_map] at a b
  unfold dY jW
  omega
theorem qX.len {n : Nat} {S : List (Nat × Nat)} (h : qX n S) : S.length ≤ n := by
  have b := oW n (S.map (·.1)) h.keys fun x hx => by
    obtain ⟨p, hp, rfl⟩ := List.mem_map.mp hx
    exact h.klt p hp
  rw [List.length_map] at b
  omega
def adb (run : List En → R En) : Prop := ∀ (d : D) (q : Int) (ks : List Nat) (S : List (Nat × Nat)), Sq d (nD ks) → 1 ≤ ks.length → ks.length ≤ 18 → qX ks.length S → q < 2 ^ 150 → Ret run [.fr d, .fr (.int q), .fr (abu S)] (.fr (.int (O9 q ks S)))
theorem Xl.way {run : List En → R En} (h : Xl run) : adb run := fun d q ks S h1 h2 h3 h4 h5 => by
  rw [← Xm h4.same]
  exact h d q ks S h1 h2 h3 h4.klt (by have := h4.len; omega) h5
end DM
end
section
set_option exponentiation.threshold 10000
namespace DM
open PySem L2 DM
/-! ajO: how many states: quota_of, many_with, lot_many on data. -/
theorem Ja {n : Nat} (h0 : 0 < n) : ∀ (q : List Nat) (ns : List Int), ∀ x ∈ aZ n q ns, 0 ≤ x ∧ x < (n : Int)
  | [], ns, x, h => by simp [aZ] at h
  | a :: q, [], x, h => by simp [aZ] at h
  | a :: q, b :: ns, x, h => by
    have e : aZ n (a :: q) (b :: ns) = (((a : Nat) : Int) + b) % (n : Int) :: aZ n q ns := rfl
    rw [e] at h
    rcases List.mem_cons.mp h with rfl | h
    · exact ⟨Int.emod_nonneg _ (by omega), Int.emod_lt_of_pos _ (by omega)⟩
    · exact Ja h0 q ns x h
def dh (n : Nat) (q : List Nat) (ns : List Int) : List Nat := (aZ n q ns).map Int.toNat
theorem BZ {n : Nat} {q : List Nat} {ns : List Int} (h : q.length = n) (h2 : ns.length = n) : (dh n q ns).length = n := by
  unfold dh aZ
  rw [List.length_map, List.length_zipWith, h, h2, Nat.min_self]
def Xn (ks : List Nat) (K : Int) : Int := K - vR ks + ((ks.length : Nat) : Int) * (((ks.length : Nat) : Int) - 1) / 2
def agK (ks : List Nat) (K : Int) : Bool := decide (Xn ks K % ((ks.length : Nat) : Int) = 0) && decide (0 ≤ Xn ks K / ((ks.length : Nat) : Int))
def ae1 (ks : List Nat) (K : Int) : Int := if agK ks K then O9 (Xn ks K / ((ks.length : Nat) : Int)) ks [] else 0
def ade (n : Nat) (q : List Nat) (bs : List Int) : Int := ae1 (dh n q bs) bs.sum
end DM
end
section
set_option exponentiation.threshold 10000
namespace DM
open PySem L2 DM
/-! ajP: the law's own count: all seatings, gone through one by one. -/
def ae2 (F b : List Nat) : List (List Nat) := (F.filter fun x => !b.contains x).map fun x => b ++ [x]
def Yn (F : List Nat) : Nat → List (List Nat)
  | 0 => [[]]
  | k + 1 => (Yn F k).flatMap (ae2 F)
structure ae3 (F : List Nat) (k : Nat) (b : List Nat) : Prop where
  len : b.length = k
  nodup : b.Nodup
  sub : ∀ x ∈ b, x ∈ F
theorem Pa {F : List Nat} : ∀ {k : Nat} {b : List Nat}, b ∈ Yn F k → ae3 F k b
  | 0, b, h => by
    cases List.mem_singleton.mp h
    exact ⟨rfl, List.nodup_nil, fun x hx => absurd hx List.not_mem_nil⟩
  | k + 1, b, h => by
    obtain ⟨c, hc, h⟩ := List.mem_flatMap.mp h
    obtain ⟨x, hx, rfl⟩ := List.mem_map.mp h
    obtain ⟨h1, h2⟩ := List.mem_filter.mp hx
    have p := Pa hc
    have h2 : x ∉ c := by simpa using h2
    refine ⟨by rw [List.length_append, p.len]; rfl, List.nodup_append.mpr ⟨p.nodup, List.nodup_cons.mpr ⟨List.not_mem_nil, List.nodup_nil⟩, fun a ha y hy => ?_⟩, fun y hy => ?_⟩
    · rw [List.mem_singleton.mp hy]
      exact fun e => h2 (e ▸ ha)
    · rcases List.mem_append.mp hy with hy | hy
      · exact p.sub y hy
      · rw [List.mem_singleton.mp hy]; exact h1
def wlN : List Nat → List Nat → Nat
  | t :: ts, s :: b => (if s ≤ t then 1 else 0) + wlN ts b
  | _, _ => 0
end DM
end
section
namespace DM
open PySem L2
/-! ajQ: passes and lots: rows, rows back, rows twice. -/
theorem Ml.lot {n : Nat} {q q2 : List Nat} {b b2 : List Int} (m : Ml n q b q2 b2) : ade n q b = ade n q2 b2 := by
  unfold ade dh
  rw [m.kept, m.sum]
end DM
end
section
namespace DM
open PySem L2 DM
/-! ajR: what goes on from seated people, by any weight of the rounds left; and by the seat of one person more. -/
def ou (q : Int) (ks : List Nat) (S : List (Nat × Nat)) : Int := q - uo ks S - (jW ks.length S).length
def pC (q : Int) (ks : List Nat) (S : List (Nat × Nat)) (g : Int → Int) : Int := wL (jO ks S) (dY ks.length S) (fun w => if 0 ≤ ou q ks S + (w : Nat) then g (ou q ks S + (w : Nat)) else 0)
section
variable {n : Nat} {ks : List Nat} {S : List (Nat × Nat)} {who s : Nat}
theorem Jb (hw : who < n) (h : who ∉ S.map (·.1)) : (jW n S).Perm (who :: jW n (S ++ [(who, s)])) := by
  have e : jW n (S ++ [(who, s)]) = (jW n S).erase who := by
    unfold jW
    rw [List.Nodup.erase_eq_filter (List.nodup_range.filter _), List.filter_filter]
    refine List.filter_congr fun x _ => ?_
    rw [List.map_append]
    have e : (S.map (·.1) ++ [(who, s)].map (·.1)).contains x = ((S.map (·.1)).contains x || x == who) := by
      rw [Bool.eq_iff_iff]
      simp
    rw [e, Bool.not_or, Bool.and_comm]
    rfl
  rw [e]
  exact List.perm_cons_erase (List.mem_filter.mpr ⟨List.mem_range.mpr hw, by simpa using h⟩)
theorem RM : dY n (S ++ [(who, s)]) = (dY n S).erase s := by
  unfold dY
  rw [List.Nodup.erase_eq_filter (List.nodup_range.filter _), List.filter_filter]
  refine List.filter_congr fun x _ => ?_
  rw [List.map_append]
  have e : (S.map (·.2) ++ [(who, s)].map (·.2)).contains x = ((S.map (·.2)).contains x || x == s) := by
    rw [Bool.eq_iff_iff]
    simp
  rw [e, Bool.not_or, Bool.and_comm]
  rfl
theorem Xo : uo ks (S ++ [(who, s)]) = uo ks S + (if ks.getD who 0 < s then 1 else 0) := by
  unfold uo
  rw [List.filter_append, List.length_append]
  congr 1
  by_cases h : ks.getD who 0 < s
  · rw [if_pos h, List.filter_cons, if_pos (decide_eq_true h)]
    rfl
  · rw [if_neg h, List.filter_cons, if_neg (by simpa using h)]
    rfl
theorem Jc (q : Int) (g : Int → Int) (hw : who < ks.length) (h : who ∉ S.map (·.1)) : pC q ks S g = bL (dY ks.length S) fun s => pC q ks (S ++ [(who, s)]) g := by
  have hp : ∀ s, (jO ks S).Perm (ks.getD who 0 :: jO ks (S ++ [(who, s)])) := fun s => (Jb (s := s) hw h).map fun x => ks.getD x 0
  have hn : (dY ks.length S).Nodup := List.nodup_range.filter _
  have hl : ∀ s, ((jW ks.length (S ++ [(who, s)])).length : Int) = (jW ks.length S).length - 1 := fun s => by
    have := (Jb (s := s) hw h).length_eq
    rw [List.length_cons] at this
    omega
  have ht : ∀ s, jO ks (S ++ [(who, s)]) = jO ks (S ++ [(who, 0)]) := fun s => by
    unfold jO jW
    rw [List.map_append, List.map_append]
    rfl
  unfold pC
  rw [IW (hp 0) _ _ hn]
  show bL (dY ks.length S) _ = _
  refine aU fun s _ => ?_
  rw [ht s, RM]
  refine BX _ _ _ _ fun i _ => ?_
  have hc : ou q ks (S ++ [(who, s)]) = ou q ks S + (if s ≤ ks.getD who 0 then 1 else 0) := by
    unfold ou
    rw [hl s, Xo]
    by_cases z : s ≤ ks.getD who 0
    · rw [if_pos z, if_neg (by omega)]; omega
    · rw [if_neg z, if_pos (by omega)]; omega
  rw [hc]
  by_cases z : s ≤ ks.getD who 0
  · rw [if_pos z, if_pos z]
    show (if 0 ≤ ou q ks S + ((i + 1 : Nat) : Int) then g (ou q ks S + ((i + 1 : Nat) : Int)) else 0) = _
    rw [show ou q ks S + ((i + 1 : Nat) : Int) = ou q ks S + 1 + (i : Nat) by omega]
  · rw [if_neg z, if_neg z, Int.add_zero]
end
end DM
end
section
set_option maxHeartbeats 1000000
namespace DM
open PySem L2
/-! ajS: lots, when the people have other numbers, and when RN moves on by some seats. -/
section
variable {n : Nat} {π q q2 : List Nat} {bs b2 : List Int}
theorem Xp (h1 : q.length = n) (h2 : bs.length = n) {i : Nat} (hi : i < n) : (((dh n q bs).getD i 0 : Nat) : Int) = (((q.getD i 0 : Nat) : Int) + bs.getD i 0) % (n : Int) := by
  rw [← tW h1 h2 hi]
  have hl : (aZ n q bs).length = n := by unfold aZ; rw [List.length_zipWith, h1, h2, Nat.min_self]
  have e := List.getElem?_eq_getElem (show i < (aZ n q bs).length by omega)
  unfold dh
  rw [List.getD_eq_getElem?_getD, List.getElem?_map, getD_at e, e]
  have := Ja (show 0 < n by omega) q bs _ (List.getElem_mem (show i < (aZ n q bs).length by omega))
  show (((aZ n q bs)[i].toNat : Nat) : Int) = _
  omega
def psN (n y : Nat) (q : List Nat) : List Nat := q.map fun c => (c + y) % n
end
end DM
end
section
namespace DM
open PySem L2 DM
/-! ajT: a state's residues have a quota. -/
end DM
end
section
set_option exponentiation.threshold 10000
namespace DM
open PySem L2 DM
/-! ajU: wishes on data: share_ways, held_rounds, open_people. -/
abbrev dO := List (Option Nat × Option Int)
def oN : Option Nat → D
  | none => .non
  | some s => .int (s : Nat)
def oI : Option Int → D
  | none => .non
  | some s => .int s
def itD (x : Option Nat × Option Int) : D := .tup [oN x.1, oI x.2]
def lZ (w : dO) : List D := w.map itD
def itH : Bool → Option Nat × Option Int → D
  | true, x => .tup [oN x.1, oI x.2]
  | false, x => .lst [oN x.1, oI x.2]
def Jd (hh : Bool) (w : dO) : List D := w.map (itH hh)
theorem Pb (hh : Bool) (w : dO) : (Jd hh w).length = w.length := by unfold Jd; rw [List.length_map]
def SqW (d : D) (w : dO) : Prop := ∃ hh, Sq d (Jd hh w)
theorem SqW.of {d : D} {w : dO} (h : Sq d (lZ w)) : SqW d w := ⟨true, h⟩
theorem SqW.soft {d : D} {w : dO} (h : Sq d (Jd false w)) : SqW d w := ⟨false, h⟩
theorem SqW.len {d : D} {w : dO} (h : SqW d w) : dW [.fr d] = some (.fr (.int (w.length : Nat))) := by
  obtain ⟨hh, h⟩ := h
  rw [h.len, Pb]
def shW (r : Int) (m : Nat) : Int := if m = 0 ∨ r < 0 then (if m = 0 ∧ r = 0 then 1 else 0) else ((chI (r + m - 1) (m - 1) : Nat) : Int)
def Je (n : Nat) (w : dO) : Int := (w.map fun x => match x.2 with | some c => c / (n : Int) | none => 0).sum
end DM
end
section
set_option exponentiation.threshold 10000
namespace DM
open PySem L2 DM
/-! ajV: wishes on data: open_people, ways_to_meet. -/
def Jf (w : dO) : Nat := (w.filter fun x => x.2.isNone).length
def adg (n : Nat) (q : List Nat) (b : List Int) (w : dO) (S : List (Nat × Nat)) : Int := pC (Xn (dh n q b) b.sum / (n : Int)) (dh n q b) S fun x => shW (x - Je n w) (Jf w)
end DM
end
section
namespace DM
open PySem L2 DM
/-! ajW: wishes on data: seat_of. -/
def pG (k : Int) (n : Nat) : Option Nat → Option Int → Option Int
  | none, none => none
  | some s, none => if s < n then some (s : Nat) else some (-1)
  | none, some c => some ((k - c) % (n : Int))
  | some s, some c => if ((s : Nat) : Int) = (k - c) % (n : Int) then some ((k - c) % (n : Int)) else some (-1)
end DM
end
section
set_option maxHeartbeats 1000000
namespace DM
open PySem L2
/-! ajX: seats moved on: lots, exchanges, the state after one. -/
theorem Pg {F : List Nat} : ∀ {k : Nat} {b : List Nat}, ae3 F k b → b ∈ Yn F k
  | 0, b, h => by
    have := List.length_eq_zero_iff.mp h.len
    subst this
    exact List.mem_singleton.mpr rfl
  | k + 1, b, h => by
    have hl := h.len
    have hne : b ≠ [] := fun z => by subst z; simp at hl
    have e := List.dropLast_concat_getLast hne
    generalize b.getLast hne = x at e
    generalize hc : b.dropLast = c at e
    subst e
    rw [List.length_append] at hl
    have nd := List.nodup_append.mp h.nodup
    refine List.mem_flatMap.mpr ⟨c, Pg ⟨by simpa using hl, nd.1, fun y hy => h.sub y (List.mem_append_left _ hy)⟩, ?_⟩
    refine List.mem_map.mpr ⟨x, List.mem_filter.mpr ⟨h.sub x (List.mem_append_right _ List.mem_cons_self), ?_⟩, rfl⟩
    have : x ∉ c := fun hx => nd.2.2 x hx x List.mem_cons_self rfl
    simpa using this
theorem Ca {F : List Nat} (hF : F.Nodup) : ∀ k, (Yn F k).Nodup
  | 0 => List.nodup_cons.mpr ⟨List.not_mem_nil, List.nodup_nil⟩
  | k + 1 => by
    refine List.pairwise_flatMap.mpr ⟨fun b _ => ?_, ?_⟩
    · unfold ae2
      refine List.pairwise_map.mpr ((hF.filter _).imp fun {x y} hne z => hne ?_)
      have := List.append_cancel_left z
      injection this
    · refine (Ca hF k).imp fun {a b} hne x hx y hy z => hne ?_
      obtain ⟨u, _, rfl⟩ := List.mem_map.mp hx
      obtain ⟨v, _, rfl⟩ := List.mem_map.mp hy
      exact (List.append_inj' z rfl).1
section
variable {n : Nat} {q q' ks : List Nat} {bs bs' : List Int}
theorem vm {b : List Nat} : b ∈ Yn (List.range n) n ↔ bK n b := ⟨fun h => ⟨(Pa h).len, (Pa h).nodup, fun x hx => List.mem_range.mp ((Pa h).sub x hx)⟩, fun h => Pg ⟨h.1, h.2.1, fun x hx => List.mem_range.mpr (h.2.2 x hx)⟩⟩
end
end DM
end
section
namespace DM
open PySem L2
/-! ajY: the law's renaming and moving on, on data. -/
theorem qY {α : Type} (z : α) {l : List α} {i : Nat} (h : i < l.length) : l[i]? = some (l.getD i z) := by
  rw [List.getD_eq_getElem?_getD, List.getElem?_eq_getElem h]
  rfl
end DM
end
section
namespace DM
open PySem L2 DM
/-! ajZ: wishes on data: seats_of. -/
def mV (ks : List Nat) : dO → Nat → List (Nat × Nat) → Option (List (Nat × Nat))
  | [], _, S => some S
  | (s, c) :: w, j, S => match pG (ks.getD j 0 : Nat) ks.length s c with
    | none => mV ks w (j + 1) S
    | some v => if v < 0 ∨ v.toNat ∈ S.map (·.2) then none else mV ks w (j + 1) (S ++ [(j, v.toNat)])
end DM
end
section
namespace DM
open PySem L2 DM
/-! aj0: who a wish seats: each on a seat of his own. -/
end DM
end
section
set_option exponentiation.threshold 10000
namespace DM
open PySem L2 DM
/-! aj1: wish_many on data. -/
def Xq (n : Nat) (q : List Nat) (b : List Int) (w : dO) : Int := match mV (dh n q b) w 0 [] with
  | none => 0
  | some S => adg n q b w S
end DM
end
section
namespace DM
open PySem L2 DM
/-! aj2: the order in which people are seated does not matter; shares by the first one's share. -/
theorem qZ {l r : List Nat} (h : l.Perm r) (x : Nat) : l.contains x = r.contains x := by
  rw [Bool.eq_iff_iff]
  simp [h.mem_iff]
theorem Mi {S S' : List (Nat × Nat)} (h : S.Perm S') (q : Int) (ks : List Nat) (g : Int → Int) : pC q ks S g = pC q ks S' g := by
  have f : dY ks.length S = dY ks.length S' := by
    unfold dY
    exact List.filter_congr fun x _ => by rw [qZ (h.map _)]
  have o : jW ks.length S = jW ks.length S' := by
    unfold jW
    exact List.filter_congr fun x _ => by rw [qZ (h.map _)]
  have b : uo ks S = uo ks S' := by
    unfold uo
    exact (h.filter _).length_eq
  have t : jO ks S = jO ks S' := by
    unfold jO
    rw [o]
  unfold pC ou
  rw [f, o, b, t]
end DM
end
section
namespace DM
open PySem L2 DM
/-! aj3: what mV tells, at once. -/
def cM (ks : List Nat) : dO → Nat → List (Nat × Int)
  | [], _ => []
  | (s, c) :: w, j => match pG (ks.getD j 0 : Nat) ks.length s c with
    | none => cM ks w (j + 1)
    | some v => (j, v) :: cM ks w (j + 1)
def RP (p : Nat × Int) : Nat × Nat := (p.1, p.2.toNat)
def Xr (S : List (Nat × Nat)) (D : List (Nat × Int)) : Prop := (∀ p ∈ D, 0 ≤ p.2) ∧ (S.map (·.2) ++ D.map fun p => p.2.toNat).Nodup
theorem rO {ks : List Nat} : ∀ (w : dO) (j : Nat) (S : List (Nat × Nat)), Xr S (cM ks w j) → mV ks w j S = some (S ++ (cM ks w j).map RP)
  | [], j, S, _ => by
    show some S = some (S ++ [])
    rw [List.append_nil]
  | (s, c) :: w, j, S, h => by
    have ef : mV ks ((s, c) :: w) j S = (match pG (ks.getD j 0 : Nat) ks.length s c with
      | none => mV ks w (j + 1) S
      | some v => if v < 0 ∨ v.toNat ∈ S.map (·.2) then none else mV ks w (j + 1) (S ++ [(j, v.toNat)])) := rfl
    have ed : cM ks ((s, c) :: w) j = (match pG (ks.getD j 0 : Nat) ks.length s c with
      | none => cM ks w (j + 1)
      | some v => (j, v) :: cM ks w (j + 1)) := rfl
    cases hd : pG (ks.getD j 0 : Nat) ks.length s c with
    | none =>
      rw [hd] at ef ed
      rw [ef, ed]
      rw [ed] at h
      exact rO w (j + 1) S h
    | some v =>
      rw [hd] at ef ed
      have ed : cM ks ((s, c) :: w) j = (j, v) :: cM ks w (j + 1) := ed
      rw [ed] at h ⊢
      obtain ⟨h1, h2⟩ := h
      have hv := h1 (j, v) List.mem_cons_self
      rw [List.map_cons] at h2
      have hn : v.toNat ∉ S.map (·.2) := fun z => (List.nodup_append.mp h2).2.2 _ z _ List.mem_cons_self rfl
      have hb : ¬ (v < 0 ∨ v.toNat ∈ S.map (·.2)) := fun z => by
        rcases z with z | z
        · have hv : 0 ≤ v := hv
          omega
        · exact hn z
      have e : mV ks ((s, c) :: w) j S = mV ks w (j + 1) (S ++ [(j, v.toNat)]) := ef.trans (if_neg hb)
      rw [e, rO w (j + 1) (S ++ [(j, v.toNat)]) ⟨fun p hp => h1 p (List.mem_cons_of_mem _ hp), by
        rw [List.map_append, List.append_assoc]
        exact h2⟩, List.append_assoc]
      rfl
end DM
end
section
namespace DM
open PySem L2 DM
/-! aj4: wishes divided by the seats and the purses of one person. -/
end DM
end
section
namespace DM
open PySem L2 DM
/-! aj5: a wish with one Xu item put in. -/
section
variable {ks : List Nat}
theorem za : ∀ (w : dO) (j : Nat), ∀ p ∈ cM ks w j, j ≤ p.1 ∧ p.1 < j + w.length ∧ ∃ x, w[p.1 - j]? = some x ∧ pG (ks.getD p.1 0 : Nat) ks.length x.1 x.2 = some p.2
  | [], j, p, h => absurd h List.not_mem_nil
  | (s, c) :: w, j, p, h => by
    have ed : cM ks ((s, c) :: w) j = (match pG (ks.getD j 0 : Nat) ks.length s c with
      | none => cM ks w (j + 1)
      | some v => (j, v) :: cM ks w (j + 1)) := rfl
    have go : p ∈ cM ks w (j + 1) → j ≤ p.1 ∧ p.1 < j + ((s, c) :: w).length ∧ ∃ x, ((s, c) :: w)[p.1 - j]? = some x ∧ pG (ks.getD p.1 0 : Nat) ks.length x.1 x.2 = some p.2 := fun h => by
      obtain ⟨h1, h2, x, h3, h4⟩ := za w (j + 1) p h
      refine ⟨by omega, by rw [List.length_cons]; omega, x, ?_, h4⟩
      rw [show p.1 - j = (p.1 - (j + 1)) + 1 by omega]
      exact h3
    cases hd : pG (ks.getD j 0 : Nat) ks.length s c with
    | none =>
      rw [hd] at ed
      have ed : cM ks ((s, c) :: w) j = cM ks w (j + 1) := ed
      exact go (ed ▸ h)
    | some v =>
      rw [hd] at ed
      have ed : cM ks ((s, c) :: w) j = (j, v) :: cM ks w (j + 1) := ed
      have h : p ∈ (j, v) :: cM ks w (j + 1) := ed ▸ h
      rcases List.mem_cons.mp h with rfl | h
      · refine ⟨Nat.le_refl _, by rw [List.length_cons]; show j < _; omega, (s, c), ?_, hd⟩
        show ((s, c) :: w)[j - j]? = _
        rw [Nat.sub_self]
        rfl
      · exact go h
theorem vo : ∀ (w : dO) (j : Nat), ((cM ks w j).map (·.1)).Pairwise (· < ·)
  | [], j => List.Pairwise.nil
  | (s, c) :: w, j => by
    have ed : cM ks ((s, c) :: w) j = (match pG (ks.getD j 0 : Nat) ks.length s c with
      | none => cM ks w (j + 1)
      | some v => (j, v) :: cM ks w (j + 1)) := rfl
    have ih := vo w (j + 1)
    cases hd : pG (ks.getD j 0 : Nat) ks.length s c with
    | none =>
      rw [hd] at ed
      rw [ed]
      exact ih
    | some v =>
      rw [hd] at ed
      rw [ed]
      refine List.pairwise_cons.mpr ⟨fun y hy => ?_, ih⟩
      obtain ⟨p, hp, rfl⟩ := List.mem_map.mp hy
      exact (za w (j + 1) p hp).1
def hx (n : Nat) : Option Int → Int
  | some c => c / (n : Int)
  | none => 0
def ox : Option Int → Nat
  | some _ => 0
  | none => 1
end
section
variable {n : Nat} {q : List Nat} {b : List Int} {w1 w2 : dO}
def qOf (n : Nat) (q : List Nat) (b : List Int) : Int := Xn (dh n q b) b.sum / (n : Int)
end
end DM
end
section
namespace DM
open PySem L2 DM
/-! aj6: wishes whose items are those of a state; two people on one seat. -/
def Mj (q : List Nat) (b : List Int) (i : Nat) (x : Option Nat × Option Int) : Prop := (x.1 = none ∨ x.1 = some (q.getD i 0)) ∧ (x.2 = none ∨ x.2 = some (b.getD i 0))
def vp (q : List Nat) (b : List Int) (w : dO) : Prop := ∀ (i : Nat) (x : Option Nat × Option Int), w[i]? = some x → Mj q b i x
section
variable {n : Nat} {q : List Nat} {b : List Int} {w w1 w2 : dO}
theorem rP (g : Gd n q b) {i : Nat} (hi : i < n) : q.getD i 0 < n := by
  have hq := g.d7
  rw [List.getD_eq_getElem?_getD, List.getElem?_eq_getElem (show i < q.length by omega)]
  exact g.seats.2.2 _ (List.getElem_mem _)
theorem RQ (g : Gd n q b) {i : Nat} (hi : i < n) : ((((dh n q b).getD i 0 : Nat) : Int) - b.getD i 0) % (n : Int) = (q.getD i 0 : Nat) := by
  have hs := rP g hi
  rw [Xp g.d7 g.len hi, Int.sub_emod, Int.emod_emod, ← Int.sub_emod, show ((q.getD i 0 : Nat) : Int) + b.getD i 0 - b.getD i 0 = (q.getD i 0 : Nat) by omega]
  exact Int.emod_eq_of_lt (by omega) (by omega)
theorem Xv (g : Gd n q b) {i : Nat} (hi : i < n) {x : Option Nat × Option Int} (h : Mj q b i x) {v : Int} (hv : pG ((dh n q b).getD i 0 : Nat) n x.1 x.2 = some v) : v = (q.getD i 0 : Nat) := by
  obtain ⟨s, c⟩ := x
  have hs := rP g hi
  have hd := RQ g hi
  rcases h with ⟨h1 | h1, h2 | h2⟩
  · have h1 : s = none := h1
    have h2 : c = none := h2
    subst h1 h2
    cases hv
  · have h1 : s = none := h1
    have h2 : c = some (b.getD i 0) := h2
    subst h1 h2
    have hv : some (((((dh n q b).getD i 0 : Nat) : Int) - b.getD i 0) % (n : Int)) = some v := hv
    injection hv with hv
    omega
  · have h1 : s = some (q.getD i 0) := h1
    have h2 : c = none := h2
    subst h1 h2
    have hv : (if q.getD i 0 < n then some ((q.getD i 0 : Nat) : Int) else some (-1)) = some v := hv
    rw [if_pos hs] at hv
    injection hv with hv
    omega
  · have h1 : s = some (q.getD i 0) := h1
    have h2 : c = some (b.getD i 0) := h2
    subst h1 h2
    have hv : (if ((q.getD i 0 : Nat) : Int) = ((((dh n q b).getD i 0 : Nat) : Int) - b.getD i 0) % (n : Int) then some (((((dh n q b).getD i 0 : Nat) : Int) - b.getD i 0) % (n : Int)) else some (-1)) = some v := hv
    rw [if_pos hd.symm] at hv
    injection hv with hv
    omega
theorem Jg {α : Type} {f : α → Nat} : ∀ {l : List α}, (l.map f).Nodup → ∀ a ∈ l, ∀ c ∈ l, f a = f c → a = c
  | [], _, a, ha, _, _, _ => absurd ha List.not_mem_nil
  | x :: l, h, a, ha, c, hc, e => by
    rw [List.map_cons] at h
    obtain ⟨h1, h2⟩ := List.nodup_cons.mp h
    rcases List.mem_cons.mp ha with ea | ha
    · rcases List.mem_cons.mp hc with ec | hc
      · rw [ea, ec]
      · exact absurd (by rw [← ea, e]; exact List.mem_map_of_mem hc) h1
    · rcases List.mem_cons.mp hc with ec | hc
      · exact absurd (by rw [← ec, ← e]; exact List.mem_map_of_mem ha) h1
      · exact Jg h2 a ha c hc e
theorem Cd {α : Type} (f g : α → Nat) : ∀ {l : List α}, (l.map f).Nodup → (∀ a ∈ l, ∀ c ∈ l, g a = g c → f a = f c) → (l.map g).Nodup
  | [], _, _ => List.nodup_nil
  | x :: l, h, hg => by
    rw [List.map_cons] at h ⊢
    obtain ⟨h1, h2⟩ := List.nodup_cons.mp h
    refine List.nodup_cons.mpr ⟨fun hx => ?_, Cd f g h2 fun a ha c hc => hg a (List.mem_cons_of_mem _ ha) c (List.mem_cons_of_mem _ hc)⟩
    obtain ⟨y, hy, e⟩ := List.mem_map.mp hx
    have := hg x List.mem_cons_self y (List.mem_cons_of_mem _ hy) e.symm
    exact h1 (this ▸ List.mem_map_of_mem hy)
theorem Ce {ks : List Nat} : ∀ (w : dO) (j i : Nat) (x : Option Nat × Option Int) (v : Int), w[i]? = some x → pG (ks.getD (j + i) 0 : Nat) ks.length x.1 x.2 = some v → (j + i, v) ∈ cM ks w j
  | [], j, i, x, v, h, _ => by simp at h
  | (s, c) :: w, j, i, x, v, h, hd => by
    have ed : cM ks ((s, c) :: w) j = (match pG (ks.getD j 0 : Nat) ks.length s c with
      | none => cM ks w (j + 1)
      | some v => (j, v) :: cM ks w (j + 1)) := rfl
    cases i with
    | zero =>
      have h : some (s, c) = some x := h
      injection h with h
      subst h
      have hd : pG (ks.getD j 0 : Nat) ks.length s c = some v := hd
      rw [ed, hd]
      exact List.mem_cons_self
    | succ i =>
      have ih := Ce w (j + 1) i x v h (by rw [show j + 1 + i = j + (i + 1) by omega]; exact hd)
      rw [show j + 1 + i = j + (i + 1) by omega] at ih
      rw [ed]
      cases pG (ks.getD j 0 : Nat) ks.length s c with
      | none => exact ih
      | some u => exact List.mem_cons_of_mem _ ih
end
end DM
end
section
set_option exponentiation.threshold 10000
namespace DM
open PySem L2 DM
/-! aj7: how large an answer to a wish can be. -/
end DM
end
section
set_option exponentiation.threshold 30000
namespace DM
open PySem L2 DM
/-! aj8: the greatest common divisor, fractions in lowest terms, on data. -/
section
variable {x0 x1 : Option En}
end
end DM
end
section
set_option exponentiation.threshold 10000
namespace DM
open PySem L2 DM
/-! aj9: the seats and the purses of one person over a lot, on data: seat_ways, purse_parts. -/
section
variable {cl : Nat → List En → R En}
end
end DM
end
section
set_option exponentiation.threshold 10000
namespace DM
open PySem L2 DM
/-! akb: the sums over one Xu seats: plain law. -/
section
variable {n who : Nat} {q : List Nat} {b : List Int}
end
/-! the sum of a first share -/
end DM
end
section
set_option exponentiation.threshold 10000
namespace DM
open PySem L2 DM
/-! akc: chances of seats, averages and ranges of purses, on data. -/
section
variable {cl : Nat → List En → R En}
end
end DM
end
section
set_option exponentiation.threshold 10000
namespace DM
open PySem L2 DM
/-! akd: wishes that ask for one person alone: plain law. -/
def vQ (m : Nat) : dO := List.replicate m (none, none)
theorem Xw (m : Nat) : (vQ m).length = m := List.length_replicate
section
variable {n who : Nat} {q : List Nat} {b : List Int}
end
end DM
end
section
set_option maxHeartbeats 1000000
set_option exponentiation.threshold 10000
namespace DM
open PySem L2
end DM
end
section
set_option exponentiation.threshold 10000
namespace DM
open PySem L2
/-! ake: the aix own defs of the third kind: exchanges, rows, random states. -/
end DM
end
section
set_option exponentiation.threshold 10000
namespace DM
open PySem L2
/-! akf: random states and rows of the third kind. -/
end DM
end
section
namespace DM
open PySem L2
/-! akg: rows and distances, one purse greater in both. -/
section
variable {n w : Nat} {q q2 : List Nat} {b b2 : List Int} {c : Int}
end
end DM
end
section
namespace DM
open PySem L2 DM
/-! akh: steps that the laws about wishes share: an item put into a wish, and the call; loops that append. -/
end DM
end
section
namespace DM
open PySem L2 DM
/-! aki: drawn states with purses of any size (k50 to k59). -/
end DM
end
section
namespace DM
/-! akj: Mp by number: plain law. -/
end DM
end
section
set_option exponentiation.threshold 10000
namespace DM
open PySem L2 DM
/-! akk: Mp by number, on data: shares_before, share_at, shares_at. -/
section
variable {cl : Nat → List En → R En}
end
end DM
end
section
set_option exponentiation.threshold 10000
namespace DM
open PySem L2 DM
/-! akl: states by seats and number, on data: shares_number, least_purses, rounds_left, state_with. -/
section
variable {cl : Nat → List En → R En}
end
end DM
end
section
set_option exponentiation.threshold 10000
namespace DM
open PySem L2 DM
/-! akm: seated_with, and the steps of state_number and state_at, on data. -/
def frees (m : Nat) (S : List (Nat × Nat)) : List Nat := (List.range m).filter fun s => !(S.map (·.2)).contains s
end DM
end
section
set_option exponentiation.threshold 10000
namespace DM
open PySem L2 DM
/-! akn: seatings by number: plain law. -/
def pre (q : List Nat) (j : Nat) : List (Nat × Nat) := (List.range j).map fun i => (i, q.getD i 0)
theorem aap (q : List Nat) (j : Nat) : (pre q j).map (·.1) = List.range j := by
  unfold pre
  rw [List.map_map]
  exact List.map_id _
theorem aaq {q : List Nat} {j : Nat} (h : j ≤ q.length) : (pre q j).map (·.2) = q.take j := by
  unfold pre
  rw [List.map_map]
  refine List.ext_getElem (by rw [List.length_map, List.length_range, List.length_take]; omega) fun i h1 h2 => ?_
  rw [List.getElem_map, List.getElem_range, List.getElem_take]
  rw [List.length_map, List.length_range] at h1
  show q.getD i 0 = _
  rw [List.getD_eq_getElem?_getD, List.getElem?_eq_getElem (show i < q.length by omega)]
  rfl
theorem Cg {n s : Nat} {S : List (Nat × Nat)} : s ∈ frees n S ↔ s < n ∧ s ∉ S.map (·.2) := by
  unfold frees
  rw [List.mem_filter, List.mem_range]
  constructor
  · exact fun h => ⟨h.1, by simpa using h.2⟩
  · exact fun h => ⟨h.1, by simpa using h.2⟩
theorem RW {n j s : Nat} {S : List (Nat × Nat)} (P : qX n S) (hj : j < n) (hs : s < n) (h1 : j ∉ S.map (·.1)) (h2 : s ∉ S.map (·.2)) : qX n (S ++ [(j, s)]) := by
  refine ⟨?_, ?_, fun p hp => ?_, fun p hp => ?_⟩
  · rw [List.map_append]
    refine List.nodup_append.mpr ⟨P.keys, List.nodup_cons.mpr ⟨List.not_mem_nil, List.nodup_nil⟩, fun a ha y hy => ?_⟩
    have hy : y = j := List.mem_singleton.mp hy
    rw [hy]
    exact fun z => h1 (z ▸ ha)
  · rw [List.map_append]
    refine List.nodup_append.mpr ⟨P.vals, List.nodup_cons.mpr ⟨List.not_mem_nil, List.nodup_nil⟩, fun a ha y hy => ?_⟩
    have hy : y = s := List.mem_singleton.mp hy
    rw [hy]
    exact fun z => h2 (z ▸ ha)
  · rcases List.mem_append.mp hp with hp | hp
    · exact P.klt p hp
    · rw [List.mem_singleton.mp hp]; exact hj
  · rcases List.mem_append.mp hp with hp | hp
    · exact P.vlt p hp
    · rw [List.mem_singleton.mp hp]; exact hs
theorem Xx : ∀ (ks q : List Nat), ks.length = q.length → wlN ks q + ((List.range ks.length).filter fun i => decide (ks.getD i 0 < q.getD i 0)).length = ks.length
  | [], [], _ => rfl
  | [], _ :: _, h => by cases h
  | _ :: _, [], h => by cases h
  | k :: ks, s :: q, h => by
    have ih := Xx ks q (by simpa using h)
    rw [List.length_cons, List.range_succ_eq_map, List.filter_cons, List.filter_map, ]
    have e1 : wlN (k :: ks) (s :: q) = (if s ≤ k then 1 else 0) + wlN ks q := rfl
    have e2 : (decide ((k :: ks).getD 0 0 < (s :: q).getD 0 0)) = decide (k < s) := rfl
    have e3 : ((fun i => decide ((k :: ks).getD i 0 < (s :: q).getD i 0)) ∘ Nat.succ) = fun i => decide (ks.getD i 0 < q.getD i 0) := rfl
    rw [e1, e2, e3]
    by_cases z : s ≤ k
    · rw [if_pos z, if_neg (by simp; omega), List.length_map]
      omega
    · rw [if_neg z, if_pos (decide_eq_true (by omega)), List.length_cons, List.length_map]
      omega
theorem aar (ks q : List Nat) : uo ks (pre q ks.length) = ((List.range ks.length).filter fun i => decide (ks.getD i 0 < q.getD i 0)).length := by
  unfold uo pre
  rw [List.filter_map, List.length_map]
  rfl
theorem Xy (ks : List Nat) (q : List Nat) : jW ks.length (pre q ks.length) = [] := by
  unfold jW
  rw [aap]
  refine List.filter_eq_nil_iff.mpr fun x hx => ?_
  have := List.mem_range.mp hx
  simp [this]
end DM
end
section
set_option exponentiation.threshold 10000
namespace DM
open PySem L2 DM
/-! ako: states of a lot by number: plain law, and state_number and state_at on data. -/
section
variable {n : Nat} {q : List Nat} {b : List Int}
end
/-! state_number on data -/
section
variable {cl : Nat → List En → R En} {n : Nat} {q2 : List Nat} {b2 : List Int}
end
end DM
end
section
set_option exponentiation.threshold 10000
namespace DM
open PySem L2 DM
/-! akp: state_at on data. -/
section
variable {cl : Nat → List En → R En}
end
end DM
end
section
namespace DM
open PySem L2 DM
/-! akq: more coins: the lot is at least as large, numbers go up with the first one's coins; equal tuples of integers. -/
section
variable {n w : Nat} {q : List Nat} {b : List Int} {c : Int}
end
end DM
end
section
set_option exponentiation.threshold 10000
namespace DM
open PySem L2
end DM
end
section
namespace DM
open PySem L2 DM
/-! akr: what goes on from seated people, as a sum over all seatings. -/
theorem Xz {α : Type} [DecidableEq α] {l : List α} (hn : l.Nodup) {a : α} (ha : a ∈ l) (c : Int) : bL l (fun x => if x = a then c else 0) = c := by
  induction l with
  | nil => exact absurd ha List.not_mem_nil
  | cons x l ih =>
    obtain ⟨n1, n2⟩ := List.nodup_cons.mp hn
    rw [dF]
    rcases List.mem_cons.mp ha with h | ha
    · rw [if_pos h.symm]
      have e : bL l (fun x => if x = a then c else 0) = bL l (fun _ => 0) := aU fun y hy => if_neg fun z => n1 (by rw [← h, ← z]; exact hy)
      rw [e, rN, Int.add_zero]
    · rw [if_neg fun z => n1 (by rw [z]; exact ha), Int.zero_add]
      exact ih n2 ha
def ext (S : List (Nat × Nat)) (b : List Nat) : Bool := S.all fun p => decide (b.getD p.1 0 = p.2)
theorem aas (S : List (Nat × Nat)) (j s : Nat) (b : List Nat) : ext (S ++ [(j, s)]) b = (ext S b && decide (b.getD j 0 = s)) := by
  unfold ext
  rw [List.all_append]
  simp
def hB (g : Int → Int) (q0 : Int) (ks b : List Nat) : Int := if 0 ≤ q0 + wlN ks b - ks.length then g (q0 + wlN ks b - ks.length) else 0
theorem XC {n : Nat} {a b : List Nat} (ha : a.length = n) (hb : b.length = n) (h : ∀ i, i < n → a.getD i 0 = b.getD i 0) : a = b := by
  refine List.ext_getElem (by rw [ha, hb]) fun i h1 h2 => ?_
  have := h i (by omega)
  rw [List.getD_eq_getElem?_getD, List.getD_eq_getElem?_getD, List.getElem?_eq_getElem h1, List.getElem?_eq_getElem h2] at this
  exact this
theorem Jh {n : Nat} {S : List (Nat × Nat)} (P : qX n S) (hl : S.length = n) : ∃ b : List Nat, bK n b ∧ ext S b = true ∧ S.Perm (pre b n) := by
  have pk : (S.map (·.1)).Perm (List.range n) := by
    refine (List.perm_ext_iff_of_nodup P.keys List.nodup_range).mpr fun x => ⟨fun h => ?_, fun h => ?_⟩
    · obtain ⟨p, hp, rfl⟩ := List.mem_map.mp h
      exact List.mem_range.mpr (P.klt p hp)
    · have hx := List.mem_range.mp h
      by_cases z : x ∈ S.map (·.1)
      · exact z
      · exfalso
        have := tO n (x :: S.map (·.1)) (List.nodup_cons.mpr ⟨z, P.keys⟩) (fun k hk => by
          rcases List.mem_cons.mp hk with rfl | hk
          · exact hx
          · obtain ⟨p, hp, rfl⟩ := List.mem_map.mp hk
            exact P.klt p hp)
        rw [List.length_cons, List.length_map, hl] at this
        omega
  obtain ⟨b, hb⟩ : ∃ b : List Nat, b.length = n ∧ ∀ p ∈ S, b.getD p.1 0 = p.2 := by
    refine ⟨(List.range n).map fun i => ((S.find? fun p => p.1 == i).map (·.2)).getD 0, by rw [List.length_map, List.length_range], fun p hp => ?_⟩
    have h1 := P.klt p hp
    rw [List.getD_eq_getElem?_getD, List.getElem?_map, List.getElem?_range h1]
    show ((S.find? fun r => r.1 == p.1).map (·.2)).getD 0 = p.2
    cases hf : S.find? fun r => r.1 == p.1 with
    | none =>
      have := List.find?_eq_none.mp hf p hp
      simp at this
    | some r =>
      have h2 := List.find?_some hf
      have h3 := List.mem_of_find?_eq_some hf
      have h2 : r.1 = p.1 := by simpa using h2
      have := Jg P.keys r h3 p hp h2
      rw [this]
      rfl
  obtain ⟨b1, b2⟩ := hb
  have bs : S.map (·.2) = (S.map (·.1)).map fun i => b.getD i 0 := by
    rw [List.map_map]
    exact List.map_congr_left fun p hp => (b2 p hp).symm
  have pb : S.Perm (pre b n) := by
    have e : S = (S.map (·.1)).map fun i => (i, b.getD i 0) := by
      rw [List.map_map]
      conv => lhs; rw [← List.map_id S]
      refine List.map_congr_left fun p hp => ?_
      show p = (p.1, b.getD p.1 0)
      rw [b2 p hp]
    rw [e]
    exact pk.map _
  have lb : (pre b n).map (·.2) = b := by rw [aaq (by omega), List.take_of_length_le (by omega)]
  have vb : b.Perm (S.map (·.2)) := by
    have := (pb.map (·.2)).symm
    rwa [lb] at this
  refine ⟨b, ⟨b1, vb.nodup_iff.mpr P.vals, fun k hk => ?_⟩, ?_, pb⟩
  · obtain ⟨p, hp, rfl⟩ := List.mem_map.mp (vb.subset hk)
    exact P.vlt p hp
  · unfold ext
    exact List.all_eq_true.mpr fun p hp => decide_eq_true (b2 p hp)
theorem Mq {q0 : Int} {ks b : List Nat} (g : Int → Int) (hb : b.length = ks.length) (h0 : 0 < ks.length) : pC q0 ks (pre b ks.length) g = hB g q0 ks b := by
  have wb := Xx ks b hb.symm
  rw [← aar] at wb
  have ho := Xy ks b
  have ht : jO ks (pre b ks.length) = [] := by unfold jO; rw [ho]; rfl
  unfold pC hB
  rw [ht]
  show (if 0 ≤ ou q0 ks (pre b ks.length) + ((0 : Nat) : Int) then g (ou q0 ks (pre b ks.length) + ((0 : Nat) : Int)) else 0) = _
  unfold ou
  rw [ho]
  have e : q0 - uo ks (pre b ks.length) - (([] : List Nat).length : Nat) + ((0 : Nat) : Int) = q0 + wlN ks b - ks.length := by
    show q0 - uo ks (pre b ks.length) - ((0 : Nat) : Int) + ((0 : Nat) : Int) = _
    omega
  rw [e]
theorem Ci {q0 : Int} {ks : List Nat} (g : Int → Int) (h0 : 0 < ks.length) : ∀ (m : Nat) (S : List (Nat × Nat)), qX ks.length S → S.length + m = ks.length → pC q0 ks S g = bL ((Yn (List.range ks.length) ks.length).filter (ext S)) (hB g q0 ks)
  | 0, S, P, hl => by
    obtain ⟨b, hb, he, hp⟩ := Jh P hl
    rw [Mi hp, Mq g hb.1 h0, jK]
    have e : bL (Yn (List.range ks.length) ks.length) (fun x => if ext S x = true then hB g q0 ks x else 0) = bL (Yn (List.range ks.length) ks.length) (fun x => if x = b then hB g q0 ks b else 0) := aU fun x hx => by
      have hs := vm.mp hx
      by_cases z : x = b
      · rw [z, if_pos he, if_pos rfl]
      · rw [if_neg z, if_neg fun y => z ?_]
        refine XC hs.1 hb.1 fun i hi => ?_
        have y := List.all_eq_true.mp y
        have he := List.all_eq_true.mp he
        have hm : (i, b.getD i 0) ∈ S := hp.symm.subset (by
          unfold pre
          exact List.mem_map.mpr ⟨i, List.mem_range.mpr hi, rfl⟩)
        exact of_decide_eq_true (y _ hm)
    rw [e, Xz (Ca List.nodup_range _) (vm.mpr hb)]
  | m + 1, S, P, hl => by
    obtain ⟨j, hj, hjS⟩ : ∃ j, j < ks.length ∧ j ∉ S.map (·.1) := by
      by_cases z : ∃ j, j < ks.length ∧ j ∉ S.map (·.1)
      · exact z
      · exfalso
        have h : ∀ j ∈ List.range ks.length, j ∈ S.map (·.1) := fun j hj => by
          by_cases y : j ∈ S.map (·.1)
          · exact y
          · exact absurd ⟨j, List.mem_range.mp hj, y⟩ z
        have := List.Nodup.length_le_of_subset List.nodup_range h
        rw [List.length_range, List.length_map] at this
        omega
    rw [Jc _ _ hj hjS]
    have e1 : bL (dY ks.length S) (fun s => pC q0 ks (S ++ [(j, s)]) g) = bL (dY ks.length S) (fun s => bL (Yn (List.range ks.length) ks.length) fun b => if ext S b = true then (if s = b.getD j 0 then hB g q0 ks b else 0) else 0) := aU fun s hs => by
      obtain ⟨s1, s2⟩ := Cg.mp (show s ∈ frees ks.length S from hs)
      rw [Ci g h0 m (S ++ [(j, s)]) (RW P hj s1 hjS s2) (by rw [List.length_append, List.length_singleton]; omega), jK]
      refine aU fun b _ => ?_
      rw [aas]
      by_cases z : ext S b = true
      · rw [if_pos z, z, Bool.true_and]
        by_cases y : b.getD j 0 = s
        · rw [if_pos (decide_eq_true y), if_pos y.symm]
        · rw [if_neg (by simpa using y), if_neg fun w => y w.symm]
      · have z' : ext S b = false := by simpa using z
        rw [if_neg z, z', Bool.false_and, if_neg (by decide)]
    rw [e1, Fe, jK]
    refine aU fun b hb => ?_
    have hs := vm.mp hb
    by_cases z : ext S b = true
    · simp only [if_pos z]
      refine Xz (List.nodup_range.filter _) (show b.getD j 0 ∈ frees ks.length S from Cg.mpr ⟨DM.Z5 hs hj, fun w => ?_⟩) _
      obtain ⟨p, hp, e⟩ := List.mem_map.mp w
      have e2 := of_decide_eq_true (List.all_eq_true.mp z p hp)
      have pj : p.1 ≠ j := fun y => hjS (by rw [← y]; exact List.mem_map_of_mem hp)
      have hbl := hs.1
      have g1 : b[p.1]? = some (b.getD p.1 0) := qY 0 (by rw [hbl]; exact P.klt p hp)
      have g2 : b[j]? = some (b.getD j 0) := qY 0 (by omega)
      rw [e2, e] at g1
      exact pj (qL hs g1 g2)
    · simp only [if_neg z]
      exact rN _
end DM
end
section
namespace DM
open PySem L2 DM
/-! aks: chances, averages and ranges of RN: plain law. -/
section
variable {n who : Nat} {q : List Nat} {b : List Int}
def xB (n : Nat) (q : List Nat) (b : List Int) (x : List Nat) : Int := qOf n q b + wlN (dh n q b) x - n
section
variable {q2 : List Nat} {b2 : List Int}
end
end
end DM
end
section
set_option exponentiation.threshold 30000
namespace DM
open PySem L2 DM
/-! akt: draws below very great numbers; sums of fractions. -/
theorem aat {s : Int} (h0 : 0 < s) (h : s ≤ 10 ^ 294) : s.natAbs.log2 < 9000 := by
  have e : (10 : Int) ^ 294 = ((10 ^ 294 : Nat) : Int) := by simp
  have hn : s.natAbs ≤ 10 ^ 294 := by
    rw [e] at h
    generalize 10 ^ 294 = P at h ⊢
    omega
  exact Nat.lt_trans (Eb (k := 980) (Nat.lt_of_le_of_lt hn (by decide)) (by decide)) (by decide)
theorem Ji {i : Nat} {cl : Nat → List En → R En} {a b c s : Int} (ha : 0 < a) (hs : 0 < s) (hz : s ≤ 10 ^ 294) :
    ∃ rest, aQ 4 (lJ i cl) [aY a b c, .fr (.int s)] = .ok (.fr (.int (a % s))) (some (aY (a / s) b c) :: rest) := by
  have gd := DW (i := a) hs (aat hs hz)
  unfold lJ aY
  simp [gK, VB, Zf, VD, ha, pW hs, gd]
theorem Jj {i n : Nat} {cl : Nat → List En → R En} (hn : n ≤ 40) (ih0 : jm (cl i) 0) (ih : jm (cl i) n) : jm (aQ 4 (lJ i cl)) (n + 1) := by
  intro m e s hs hz hm agN
  have hP : (10 : Int) ^ (7 * (n + 1 + 1)) = 10000000 * 10 ^ (7 * (n + 1)) := by
    rw [show 7 * (n + 1 + 1) = 7 + 7 * (n + 1) by omega, Int.pow_add]
    rfl
  have hzB : s ≤ 10 ^ 294 := Int.le_trans hz (by
    rw [show (10 : Int) ^ (7 * (n + 1 + 1)) = ((10 ^ (7 * (n + 1 + 1)) : Nat) : Int) by simp, show (10 : Int) ^ 294 = ((10 ^ 294 : Nat) : Int) by simp]
    exact Int.ofNat_le.mpr (Nat.pow_le_pow_right (by decide) (by omega)))
  obtain ⟨a, b, c, he, h1, h2, h3, h4, h5⟩ := agN
  by_cases ha : 0 < a
  · subst he
    obtain ⟨rest, h⟩ := Ji (i := i) (cl := cl) (b := b) (c := c) ha hs hzB
    exact ⟨_, _, rest, h, Int.emod_nonneg a (by omega), Int.emod_lt_of_pos a hs, _, _, _, rfl, Int.ediv_nonneg h1 (by omega), h2, h3, h4, by omega⟩
  · obtain rfl : a = 0 := by omega
    by_cases hsm : s ≤ 10000000
    · subst he
      obtain ⟨r, hr, rest, h⟩ := vO (i := i) (cl := cl) (b := b) (c := c) hs hsm h2 h3 h4 (by omega)
      exact ⟨r, _, rest, h, hr.1, hr.2, _, _, _, rfl, h1, h2, h3, by omega, by omega⟩
    · have ae5 : dD (m + (n + 1) + (0 + 1)) e := ⟨0, b, c, he, h1, h2, h3, h4, by omega⟩
      obtain ⟨r1, e1, OD, g1, g2, g3, g4⟩ := ih0 (m + (n + 1)) e 10000000 (by omega) (by decide) (by omega) ae5
      obtain ⟨r2, e2, aiy, k1, k2, k3, k4⟩ := ih m e1 ((s - 1) / 10000000 + 1) (by omega) (by rw [hP] at hz; generalize (10 : Int) ^ (7 * (n + 1)) = P at hz ⊢; omega) hm g4
      have hd : 0 ≤ (s - 1) / 10000000 + 1 ∧ (s - 1) / 10000000 + 1 ≤ 10 ^ 288 := by
        have e : (10 : Int) ^ 294 = 1000000 * 10 ^ 288 := by decide
        rw [e] at hzB
        have p1 : (1 : Int) ≤ 10 ^ 288 := by decide
        generalize (10 : Int) ^ 288 = P at hzB p1 ⊢
        omega
      have hmul : dH (.fr (.int 10000000)) (.fr (.int r2)) = some (.fr (.int (10000000 * r2))) := rF (j7 (by decide) (by
        have : r2.natAbs ≤ 10 ^ 288 := by
          have := hd.2
          have e : (10 : Int) ^ 288 = ((10 ^ 288 : Nat) : Int) := by simp
          rw [e] at this
          generalize 10 ^ 288 = P at this ⊢
          omega
        exact Nat.lt_of_le_of_lt this (by decide)))
      have nz : 10000000 < s := by omega
      obtain ⟨a', b', c', he'⟩ : ∃ a' b' c', e1 = aY a' b' c' := by obtain ⟨a', b', c', h, _⟩ := g4; exact ⟨a', b', c', h⟩
      obtain ⟨a2, b2, c2, he2⟩ : ∃ a' b' c', e2 = aY a' b' c' := by obtain ⟨a', b', c', h, _⟩ := k4; exact ⟨a', b', c', h⟩
      subst he he' he2
      have c1 := fun (ρ : aq) hu => iV (ρ := ρ) (i := 0) hu g1
      have c2' := fun (ρ : aq) hu => iV (ρ := ρ) (i := 0) hu k1
      have key : ∃ rest, aQ 4 (lJ i cl) [aY 0 b c, .fr (.int s)] = .ok (.fr (.int ((r1 + 10000000 * r2) % s))) (some (aY a2 b2 c2) :: rest) := by
        unfold lJ aY
        unfold aY at c1 c2'
        simp [gK, VB, aev, Zf, VF, nz, hmul, c1, c2', pW hs, DW (show (0 : Int) < 10000000 by decide) (by decide)]
      obtain ⟨rest, key⟩ := key
      exact ⟨_, _, rest, key, Int.emod_nonneg _ (by omega), Int.emod_lt_of_pos _ hs, k4⟩
theorem zf {i : Nat} {call : Nat → Nat → List En → R En} (h : ∀ k, call (k + 1) i = aQ 4 (lJ i (call k))) (k : Nat) : ∀ n, n ≤ 41 → jm (call (k + n + 1) i) n
  | 0, _ => by rw [h]; exact Rv
  | n + 1, hn => by
    rw [h]
    exact Jj (by omega) (by
      have := zf h (k + n) 0 (by omega)
      exact this) (zf h k n (by omega))
section
variable {cl : Nat → List En → R En}
end
end DM
end
section
namespace DM
open PySem L2 DM
/-! akv: passes with all seats afT on, and with other numbers for the people. -/
section
variable {n y : Nat} {row : List Nat} {s : gj}
theorem ps_set (q : List Nat) (i v : Nat) : psN n y (q.set i v) = (psN n y q).set i ((v + y) % n) := by
  unfold psN
  rw [List.map_set]
variable {π : List Nat}
end
/-! chances, averages, ranges -/
section
variable {n who y : Nat} {q π : List Nat} {b : List Int}
end
end DM
end
section
set_option maxHeartbeats 1000000
namespace DM
open PySem L2
section
variable {n : Nat} {s : gj}
end
end DM
end
section
set_option exponentiation.threshold 10000
namespace DM
open PySem L2 DM
/-! akx: the numbers of the states of a lot agP with the states. -/
section
variable {n : Nat} {q0 : Int} {ks x z : List Nat}
end
/-! states of a lot -/
section
variable {n : Nat} {q q1 q2 : List Nat} {b b1 b2 : List Int}
end
end DM
end
section
set_option exponentiation.threshold 30000
namespace DM
open PySem L2 DM
/-! aky: first-kind draws below very great numbers; states compared. -/
end DM
end
section
namespace DM
open PySem L2 DM
/-! akz: wishes whose items are those of a state: as a sum over the seatings; turned round; with other numbers. -/
def XD (n : Nat) (w : dO) (q x : List Nat) : Prop := ∀ i, i < n → w.getD i (none, none) ≠ (none, none) → x.getD i 0 = q.getD i 0
section
variable {n y : Nat} {q π : List Nat} {b : List Int} {w : dO}
theorem j8 {i : Nat} (h : i < w.length) : w[i]? = some (w.getD i (none, none)) := by
  rw [List.getD_eq_getElem?_getD, List.getElem?_eq_getElem h]
  rfl
theorem XF (g : Gd n q b) {i : Nat} (hi : i < n) {x : Option Nat × Option Int} (h : Mj q b i x) (hx : x ≠ (none, none)) : pG ((dh n q b).getD i 0 : Nat) n x.1 x.2 = some ((q.getD i 0 : Nat) : Int) := by
  have e : ∃ v, pG ((dh n q b).getD i 0 : Nat) n x.1 x.2 = some v := by
    obtain ⟨s, c⟩ := x
    cases s with
    | none =>
      cases c with
      | none => exact absurd rfl hx
      | some c => exact ⟨_, rfl⟩
    | some s =>
      cases c with
      | none =>
        show ∃ v, (if s < n then some ((s : Nat) : Int) else some (-1)) = some v
        split <;> exact ⟨_, rfl⟩
      | some c =>
        show ∃ v, (if ((s : Nat) : Int) = (((dh n q b).getD i 0 : Nat) - c) % (n : Int) then some ((((dh n q b).getD i 0 : Nat) - c) % (n : Int)) else some (-1)) = some v
        split <;> exact ⟨_, rfl⟩
  obtain ⟨v, hv⟩ := e
  rw [hv, Xv g hi h hv]
theorem zj (g : Gd n q b) (hw : vp q b w) (hl : w.length = n) : ∀ p ∈ cM (dh n q b) w 0, p.1 < n ∧ p.2 = (q.getD p.1 0 : Nat) ∧ w.getD p.1 (none, none) ≠ (none, none) := fun p hp => by
  have kl := BZ g.d7 g.len
  obtain ⟨_, y2, x, y3, y4⟩ := za w 0 p hp
  rw [kl] at y4
  rw [Nat.sub_zero] at y3
  have pn : p.1 < n := by omega
  refine ⟨pn, Xv g pn (hw _ x y3) y4, fun z => ?_⟩
  have e := j8 (w := w) (i := p.1) (by omega)
  rw [y3] at e
  have e := Option.some.inj e
  rw [e, z] at y4
  cases y4
theorem XH (g : Gd n q b) (hw : vp q b w) (hl : w.length = n) : Xr [] (cM (dh n q b) w 0) := by
  have key := zj g hw hl
  refine ⟨fun p hp => by rw [(key p hp).2.1]; omega, ?_⟩
  show ((cM (dh n q b) w 0).map fun p => p.2.toNat).Nodup
  have nd : ((cM (dh n q b) w 0).map (·.1)).Nodup := (vo w 0).imp fun h => by omega
  refine Cd (·.1) _ nd fun a ha c hc e => ?_
  obtain ⟨a1, a2, _⟩ := key a ha
  obtain ⟨c1, c2, _⟩ := key c hc
  rw [a2, c2, Int.toNat_natCast, Int.toNat_natCast] at e
  have ga : q[a.1]? = some (q.getD a.1 0) := qY 0 (by rw [g.d7]; exact a1)
  have gc : q[c.1]? = some (q.getD c.1 0) := qY 0 (by rw [g.d7]; exact c1)
  rw [← e] at gc
  exact qL g.seats ga gc
theorem ae6 (g : Gd n q b) (hw : vp q b w) (hl : w.length = n) : qX n ((cM (dh n q b) w 0).map RP) := by
  have key := zj g hw hl
  obtain ⟨o1, o2⟩ := XH g hw hl
  refine ⟨?_, ?_, fun p hp => ?_, fun p hp => ?_⟩
  · rw [List.map_map]
    show ((cM (dh n q b) w 0).map (·.1)).Nodup
    exact (vo w 0).imp fun h => by omega
  · rw [List.map_map]
    exact o2
  · obtain ⟨r, hr, rfl⟩ := List.mem_map.mp hp
    exact (key r hr).1
  · obtain ⟨r, hr, rfl⟩ := List.mem_map.mp hp
    obtain ⟨k1, k2, _⟩ := key r hr
    show r.2.toNat < n
    rw [k2, Int.toNat_natCast]
    exact rP g k1
open Classical in
theorem ae7 (h0 : 0 < n) (g : Gd n q b) (hw : vp q b w) (hl : w.length = n) : Xq n q b w = bL (Yn (List.range n) n) fun x => if XD n w q x then (if 0 ≤ xB n q b x then shW (xB n q b x - Je n w) (Jf w) else 0) else 0 := by
  have kl := BZ g.d7 g.len
  have key := zj g hw hl
  have P := ae6 g hw hl
  have e : Xq n q b w = pC (qOf n q b) (dh n q b) ((cM (dh n q b) w 0).map RP) fun x => shW (x - Je n w) (Jf w) := by
    unfold Xq
    rw [rO w 0 [] (XH g hw hl)]
    rfl
  have sl : ((cM (dh n q b) w 0).map RP).length ≤ n := by
    have h1 := tO n _ P.keys fun i hi => by
      obtain ⟨p, hp, rfl⟩ := List.mem_map.mp hi
      exact P.klt p hp
    rwa [List.length_map] at h1
  rw [e, Ci _ (by omega) (n - ((cM (dh n q b) w 0).map RP).length) _ (by rw [kl]; exact P) (by rw [kl]; omega), jK, kl]
  refine aU fun x _ => ?_
  have eB : hB (fun x => shW (x - Je n w) (Jf w)) (qOf n q b) (dh n q b) x = if 0 ≤ xB n q b x then shW (xB n q b x - Je n w) (Jf w) else 0 := by
    unfold hB xB
    rw [kl]
  rw [eB]
  have ex : ext ((cM (dh n q b) w 0).map RP) x = true ↔ XD n w q x := by
    unfold ext
    rw [List.all_eq_true]
    constructor
    · intro h i hi hne
      have hit := hw i _ (j8 (by omega))
      have hd := XF g hi hit hne
      have hm := Ce (ks := dh n q b) w 0 i _ _ (j8 (by omega)) (by rw [Nat.zero_add, kl]; exact hd)
      have := of_decide_eq_true (h _ (List.mem_map_of_mem hm))
      rw [Nat.zero_add] at this
      have this : x.getD i 0 = ((q.getD i 0 : Nat) : Int).toNat := this
      rwa [Int.toNat_natCast] at this
    · intro h p hp
      obtain ⟨r, hr, rfl⟩ := List.mem_map.mp hp
      obtain ⟨k1, k2, k3⟩ := key r hr
      refine decide_eq_true ?_
      show x.getD r.1 0 = r.2.toNat
      rw [k2, Int.toNat_natCast]
      exact h r.1 k1 k3
  by_cases z : XD n w q x
  · rw [if_pos z, if_pos (ex.mpr z)]
  · rw [if_neg z, if_neg fun c => z (ex.mp c)]
/-! turned round -/
end
end DM
end
section
namespace DM
open PySem L2
/-! akA: a tuple or a list with other numbers: the law's own renaming. -/
end DM
end
section
namespace DM
open PySem L2
/-! akB: a state meets a wish for its own seats and coins. -/
theorem aau : zR .non .non = true := rfl
theorem XJ {x : D} (h : Av x = true) : jU true (.fr .non) (.fr (.tup [.non, x])) = some (.fr (.bl false)) := by
  unfold jU
  have g1 : gIn true (.fr .non) (.fr (.tup [.non, x])) = none := rfl
  rw [g1, Option.none_or]
  unfold Qg
  have h2 : [D.non, x].all Av = true := by
    rw [List.all_cons, List.all_cons, h]
    rfl
  have h1 : Av .non = true := rfl
  simp only [asD, Cv, h1, h2, and_self, if_true, List.any_cons, aau, Bool.true_or]
  rfl
theorem aav (x : Int) : jU true (.fr (.int x)) (.fr (.tup [.non, .int x])) = some (.fr (.bl false)) := by
  unfold jU
  have g1 : gIn true (.fr (.int x)) (.fr (.tup [.non, .int x])) = none := rfl
  rw [g1, Option.none_or]
  unfold Qg
  have h2 : [D.non, .int x].all Av = true := rfl
  have h1 : Av (.int x) = true := rfl
  have e : zR (.int x) (.int x) = true := by rw [W6]; simp
  simp only [asD, Cv, h1, h2, and_self, if_true, List.any_cons, e, Bool.true_or, Bool.or_true]
  rfl
def aaw (iP iL : Nat) (cl : Nat → List En → R En) : aq → R Fl :=
  (aJ (iJ (au 2 0 [] [0, 1] (cl iL) (aj (aM (au 1 0 [] [0] (cl iP) (aj (ao 0) ak) ak)) (aj (aN dW (aj (ao 1) ak)) ak)) ak))
  (aJ (runFor (lH (aA eZ (ao 0) (runC (.int 0))) (aA eZ (ao 0) (runC (.int 1))) (ao 1)) (bW (.t [(.n 2), (.n 3), (.t [(.n 4), (.n 5)])])) (bH (eG (bB (aA (jU true) (ao 4) (aK (aj (runC .non) (aj (ao 2) ak))))) (bB (aA (jU true) (ao 5) (aK (aj (runC .non) (aj (ao 3) ak)))))) (aO [] (runC (.bl false))) (fun ρ => .ok .nx ρ)))
  (aO [] (runC (.bl true)))))
end DM
end
section
set_option exponentiation.threshold 10000
namespace DM
open PySem L2
end DM
end
section
namespace DM
open PySem L2
/-! akC: a lot searched layer by layer. -/
section
variable {S : Type} [DecidableEq S] {nb : S → Nat → Option S} {n k : Nat} {P : S → Prop} {d : S → Nat} {s0 : S} {L W : List S}
structure Gr (nb : S → Nat → Option S) (n : Nat) (P : S → Prop) (d : S → Nat) (s0 : S) : Prop where
  start : P s0
  zero : ∀ s, P s → (d s = 0 ↔ s = s0)
  step : ∀ s c t, P s → c < n → nb s c = some t → P t ∧ d t ≤ d s + 1
  back : ∀ t k, P t → d t = k + 1 → ∃ s c, P s ∧ d s = k ∧ c < n ∧ nb s c = some t
structure Lyr (P : S → Prop) (d : S → Nat) (k : Nat) (L W : List S) : Prop where
  nd : L.Nodup
  sub : ∀ s ∈ L, P s ∧ d s ≤ k + 1
  all : ∀ s, P s → d s ≤ k → s ∈ L
  new : ∀ s, s ∈ W ↔ s ∈ L ∧ d s = k + 1
structure Full (P : S → Prop) (d : S → Nat) (k : Nat) (L W : List S) : Prop where
  nd : L.Nodup
  mem : ∀ s, s ∈ L ↔ P s ∧ d s ≤ k
  top : ∀ s, s ∈ W ↔ P s ∧ d s = k
theorem Full.start (G : Gr nb n P d s0) : Full P d 0 [s0] [s0] := by
  have e : ∀ s, s ∈ [s0] ↔ P s ∧ d s = 0 := fun s => by
    constructor
    · intro h
      have : s = s0 := by simpa using h
      subst this
      exact ⟨G.start, (G.zero s G.start).mpr rfl⟩
    · rintro ⟨h1, h2⟩
      rw [(G.zero s h1).mp h2]
      exact List.mem_cons_self
  exact ⟨List.nodup_cons.mpr ⟨fun z => (by cases z), List.nodup_nil⟩, fun s => (e s).trans ⟨fun h => ⟨h.1, by omega⟩, fun h => ⟨h.1, by omega⟩⟩, e⟩
theorem Full.done (G : Gr nb n P d s0) (F : Full P d k L []) : ∀ s, s ∈ L ↔ P s := by
  have no : ∀ j s, P s → d s = k + j → False := by
    intro j
    induction j with
    | zero => exact fun s p h => absurd ((F.top s).mpr ⟨p, h⟩) (by simp)
    | succ j ih =>
      intro s p h
      obtain ⟨u, c, pu, du, _⟩ := G.back s (k + j) p (by omega)
      exact ih u pu du
  exact fun s => ⟨fun h => ((F.mem s).mp h).1, fun p => (F.mem s).mpr ⟨p, by
    by_cases z : d s ≤ k
    · exact z
    · exact (no (d s - k) s p (by omega)).elim⟩⟩
end
/-! ### a lot is such a thing -/
section
variable {n : Nat} {q : List Nat} {b : List Int}
def dS (n : Nat) (q : List Nat) (b : List Int) (s : gj) : Nat := (dist n q b s.1 s.2).toNat
end
/-! ### as keys -/
def hS (s : gj) : D := lX s.1 s.2
def onS (L : List gj) (g : gj → D) : En := .on (L.map hS) (L.map g)
end DM
end
section
namespace DM
open PySem L2
/-! akD: the running search finds the lot, with the fewest exchanges. -/
section
variable {i j : Nat} {cl : Nat → List En → R En} {s0 h t : gj} {c : Nat} {L Lr W : List gj} {g : gj → D} {x3 x4 x5 x6 : Option En} {r1 : aq}
end
structure agQ (n : Nat) (q : List Nat) (b : List Int) : Prop where
  g : Gd n q b
  h2 : 2 ≤ n
  hn : n ≤ 100
  few : ∀ L : List gj, L.Nodup → (∀ s ∈ L, Ml n q b s.1 s.2) → L.length < 1000000
  near : ∀ s : gj, Ml n q b s.1 s.2 → dS n q b s < 99990
def gS (n : Nat) (q : List Nat) (b : List Int) (s : gj) : D := .int (dS n q b s : Nat)
section
variable {i j n k : Nat} {cl : Nat → List En → R En} {q : List Nat} {b : List Int} {Lr : List gj}
abbrev PS (n : Nat) (q : List Nat) (b : List Int) : gj → Prop := fun s => Ml n q b s.1 s.2
theorem Lyr.few (B : agQ n q b) {L W : List gj} (I : Lyr (PS n q b) (dS n q b) k L W) : L.length < 1000000 := B.few L I.nd fun s hs => (I.sub s hs).1
def RgOk (n : Nat) (q : List Nat) (b : List Int) (j : Nat) : Prop := ∀ (L Lr : List gj) (h : gj) (x3 x5 x6 : Option En), PS n q b h → (gD (aj (aN dW (aj (aA eZ (ao j) (runC (.int 0))) ak)) ak)) [some (.fr (hS (q, b))), some (onS L (gS n q b)), some (.fr (.lst (Lr.map hS))), x3, some (.fr (hS h)), x5, x6] = .ok (bV 0 n) [some (.fr (hS (q, b))), some (onS L (gS n q b)), some (.fr (.lst (Lr.map hS))), x3, some (.fr (hS h)), x5, x6]
end
end DM
end
section
namespace DM
open PySem L2
/-! akE: the states of a lot, ascending; how many there are. -/
section
variable {n : Nat} {q : List Nat} {b : List Int}
end
/-! ### the running program's order -/
end DM
end
section
set_option exponentiation.threshold 10000
namespace DM
open PySem L2
/-! akF: state_at with numbers that are not there. -/
section
variable {cl : Nat → List En → R En}
end
/-! a comprehension whose items draw from the box -/
end DM
end
section
namespace DM
open PySem L2
/-! akG: all states of so many people and so many coins, in order. -/
end DM
end
section
set_option exponentiation.threshold 10000
namespace DM
open PySem L2 DM
/-! akH: the law's own list of all states. -/
section
variable {cl : Nat → List En → R En}
def Lis (e : En) (xs : List D) : Prop := e = .fr (.lst xs) ∨ e = .ol xs
theorem Lis.items {e : En} {xs : List D} (h : Lis e xs) : e.items = some xs := by rcases h with rfl | rfl <;> rfl
theorem Lis.seq {e : En} {xs : List D} {f : aq → R Val} {ρ ρ1 : aq} (h : f ρ = .ok (.en e) ρ1) (l : Lis e xs) : bY f ρ = .ok xs ρ1 := by
  rcases l with rfl | rfl
  · exact cW h rfl rfl
  · exact cW h rfl rfl
end
end DM
end
section
namespace DM
open PySem L2
/-! akI: the running search with the program's own exchanges. -/
section
variable {i x : Nat} {cl : Nat → List En → R En} {s0 h t : gj} {c : Nat} {L Lr W : List gj} {x4 x5 x6 x7 : Option En} {r1 r2 : aq}
end
section
variable {i x n k : Nat} {cl : Nat → List En → R En} {q : List Nat} {b : List Int} {Lr : List gj}
end
end DM
end
section
namespace DM
open PySem L2
/-! akJ: a tally by tuples; how many states have given residues. -/
section
variable {n c : Nat}
end
end DM
end
section
namespace DM
open PySem L2
/-! akK: a lot by seatings; sums and ends of a purse over it. -/
section
variable {n : Nat} {q : List Nat} {b : List Int}
end
end DM
end
section
namespace DM
open PySem PySem.Spec PyProof.Rows L2
end DM
end
section
namespace DM
open PySem L2 DM
/-! akL: the states of a lot that meet a wish: plain law. -/
def Fq (n : Nat) : dO → List Nat → List Nat
  | [], _ => []
  | (_, some c) :: w, l => (c / (n : Int)).toNat :: Fq n w l
  | (_, none) :: w, [] => 0 :: Fq n w []
  | (_, none) :: w, s :: l => s :: Fq n w l
theorem qj (n : Nat) : ∀ (w : dO) (l : List Nat), (Fq n w l).length = w.length
  | [], _ => rfl
  | (_, some c) :: w, l => congrArg (· + 1) (qj n w l)
  | (_, none) :: w, [] => congrArg (· + 1) (qj n w [])
  | (_, none) :: w, _ :: l => congrArg (· + 1) (qj n w l)
def WNN (w : dO) : Prop := ∀ x ∈ w, ∀ c, x.2 = some c → 0 ≤ c
theorem WNN.tail {x : Option Nat × Option Int} {w : dO} (h : WNN (x :: w)) : WNN w := fun y hy => h y (List.mem_cons_of_mem _ hy)
end DM
end
section
namespace DM
open PySem L2 DM
/-! akM: the states that meet a wish, seat by seat: plain law. -/
section
variable {n : Nat} {q : List Nat} {b : List Int} {w : dO}
def oX (w : dO) (s : gj) : Bool := (List.range w.length).all fun i => (decide ((w.getD i (none, none)).1 = none) || decide ((w.getD i (none, none)).1 = some (s.1.getD i 0))) && (decide ((w.getD i (none, none)).2 = none) || decide ((w.getD i (none, none)).2 = some (s.2.getD i 0)))
theorem Jk {s : gj} : oX w s = true ↔ vp s.1 s.2 w := by
  unfold oX vp
  rw [List.all_eq_true]
  constructor
  · intro h i x hi
    have hl := (List.getElem?_eq_some_iff.mp hi).1
    have := h i (List.mem_range.mpr hl)
    have e : w.getD i (none, none) = x := by rw [List.getD_eq_getElem?_getD, hi]; rfl
    rw [e] at this
    simpa [Mj] using this
  · intro h i hi
    have hi := List.mem_range.mp hi
    have := h i _ (j8 hi)
    simpa [Mj] using this
end
end DM
end
section
set_option exponentiation.threshold 10000
namespace DM
open PySem L2 DM
/-! akN: open_people, free_seats, seated_with, state_meeting on data. -/
section
variable {cl : Nat → List En → R En}
end
end DM
end
section
set_option exponentiation.threshold 10000
namespace DM
open PySem L2 DM
/-! akO: seatings_meeting, all_meeting on data. -/
section
variable {n : Nat} {q : List Nat} {b : List Int} {w : dO}
end
section
variable {cl : Nat → List En → R En}
end
section
variable {cl : Nat → List En → R En} {iP iS iR iF iW iM : Nat}
end
end DM
end
section
set_option exponentiation.threshold 10000
namespace DM
open PySem L2 DM
/-! akP: wish_at, all_states on data. -/
section
variable {n : Nat} {q : List Nat} {b : List Int} {w : dO}
end
section
variable {cl : Nat → List En → R En}
end
section
variable {cl : Nat → List En → R En} {iC iP iS iR iF iM iW iQ : Nat}
end
end DM
end
section
set_option exponentiation.threshold 10000
namespace DM
open PySem L2 DM
/-! akQ: the nearest state that meets a wish; spheres, farthest. -/
section
variable {n : Nat} {q : List Nat} {b : List Int} {w : dO}
end
section
variable {cl : Nat → List En → R En}
end
section
variable {cl : Nat → List En → R En} {iC iM iD iA iS : Nat}
end
end DM
end
section
namespace DM
open PySem L2
/-! akR: meets, for any wish. -/
theorem zm {fg : D → aq → Option aq} {fb : aq → R Fl} {P : aq → Prop} {e : En} (ok : D → Bool) : ∀ (ds : List D) (ρ : aq), P ρ → (∀ d ∈ ds, ∀ ρ, P ρ → ∃ ρ1, fg d ρ = some ρ1 ∧ (ok d = true → ∃ ρ2, fb ρ1 = .ok .nx ρ2 ∧ P ρ2) ∧ (ok d = false → ∃ ρ2, fb ρ1 = .ok (.rt e) ρ2)) → ∃ ρ', pD fg fb ds ρ = .ok (if ds.all ok then .nx else .rt e) ρ' ∧ (ds.all ok = true → P ρ')
  | [], ρ, hp, _ => ⟨ρ, rfl, fun _ => hp⟩
  | d :: ds, ρ, hp, h => by
    obtain ⟨ρ1, h1, h2, h3⟩ := h d List.mem_cons_self ρ hp
    rw [List.all_cons]
    cases c : ok d with
    | true =>
      obtain ⟨ρ2, a1, a2⟩ := h2 c
      obtain ⟨ρ', b1, b2⟩ := zm ok ds ρ2 a2 fun x hx => h x (List.mem_cons_of_mem _ hx)
      rw [Bool.true_and]
      refine ⟨ρ', ?_, b2⟩
      unfold pD
      rw [h1]
      simp only [a1, aX]
      exact b1
    | false =>
      obtain ⟨ρ2, a1⟩ := h3 c
      refine ⟨ρ2, ?_, fun z => by rw [Bool.false_and] at z; cases z⟩
      unfold pD
      rw [h1]
      simp only [a1, aX]
      rfl
theorem Ph {x : D} {c : Int} {b : Bool} (hx : x = .non ∧ b = true ∨ ∃ z, x = .int z ∧ b = decide (z = c)) : jU true (.fr x) (.fr (.tup [.non, .int c])) = some (.fr (.bl (!b))) := by
  rcases hx with ⟨rfl, rfl⟩ | ⟨z, rfl, rfl⟩
  · exact XJ rfl
  · by_cases e : z = c
    · subst e
      rw [decide_eq_true rfl]
      exact aav z
    · rw [decide_eq_false e]
      unfold jU
      have g1 : gIn true (.fr (.int z)) (.fr (.tup [.non, .int c])) = none := rfl
      rw [g1, Option.none_or]
      unfold Qg
      have h2 : [D.non, .int c].all Av = true := rfl
      have h1 : Av (.int z) = true := rfl
      have e1 : zR .non (.int z) = false := rfl
      have e2 : zR (.int c) (.int z) = false := by
        rw [W6]
        simpa using fun y : c = z => e y.symm
      have e3 : zR (.int z) .non = false := rfl
      have e4 : zR (.int z) (.int c) = false := by
        rw [W6]
        simpa using e
      simp only [asD, Cv, h1, h2, and_self, if_true, List.any_cons, List.any_nil, e1, e2, e3, e4, Bool.or_false, Bool.false_or]
def rQ : D → Int → Bool
  | .int z, s => decide (z = s)
  | _, _ => true
def okT : D → Bool
  | .tup [.int s, .int c, .tup [x, y]] => rQ x s && rQ y c
  | .tup [.int s, .int c, .lst [x, y]] => rQ x s && rQ y c
  | _ => false
theorem aby (x : Option Nat) (s : Nat) : rQ (oN x) (s : Nat) = (decide (x = none) || decide (x = some s)) := by
  cases x with
  | none => rfl
  | some y =>
    show decide (((y : Nat) : Int) = (s : Nat)) = _
    by_cases e : y = s
    · subst e; simp
    · rw [decide_eq_false (show ¬ ((y : Nat) : Int) = (s : Nat) by omega)]
      simp [e]
theorem abz (x : Option Int) (s : Int) : rQ (oI x) s = (decide (x = none) || decide (x = some s)) := by
  cases x with
  | none => rfl
  | some y =>
    show decide (y = s) = _
    by_cases e : y = s
    · subst e; simp
    · rw [decide_eq_false e]
      simp [e]
theorem XM (x : D) (c : Int) (h : x = .non ∨ ∃ z, x = .int z) : x = .non ∧ rQ x c = true ∨ ∃ z, x = .int z ∧ rQ x c = decide (z = c) := by
  rcases h with rfl | ⟨z, rfl⟩
  · exact .inl ⟨rfl, rfl⟩
  · exact .inr ⟨z, rfl, rfl⟩
theorem Pj (x : Option Nat) : oN x = .non ∨ ∃ z, oN x = .int z := by
  cases x with
  | none => exact .inl rfl
  | some y => exact .inr ⟨_, rfl⟩
theorem Pk (x : Option Int) : oI x = .non ∨ ∃ z, oI x = .int z := by
  cases x with
  | none => exact .inl rfl
  | some y => exact .inr ⟨_, rfl⟩
def MtG (run : List En → R En) : Prop := ∀ (n : Nat) (d dw : D) (q : List Nat) (b : List Int) (w : dO), St d (nD q) (b.map .int) → q.length = n → b.length = n → SqW dw w → w.length = n → n ≤ 1000 → Ret run [.fr d, .fr dw] (.fr (.bl (oX w (q, b))))
section
variable {cl : Nat → List En → R En}
theorem agT {d dw u v : D} {s : Nat} {c : Int} (h1 : jU true (.fr u) (.fr (.tup [.non, .int (s : Nat)])) = some (.fr (.bl false))) (h2 : jU true (.fr v) (.fr (.tup [.non, .int c])) = some (.fr (.bl false))) : (bH (eG (bB (aA (jU true) (ao 4) (aK (aj (runC .non) (aj (ao 2) ak))))) (bB (aA (jU true) (ao 5) (aK (aj (runC .non) (aj (ao 3) ak)))))) (aO [] (runC (.bl false))) (fun ρ => .ok .nx ρ)) [some (.fr (d)), some (.fr (dw)), some (.fr (.int (s : Nat))), some (.fr (.int (c))), some (.fr (u)), some (.fr (v))] = DM.R.ok Fl.nx [some (.fr (d)), some (.fr (dw)), some (.fr (.int (s : Nat))), some (.fr (.int (c))), some (.fr (u)), some (.fr (v))] := by
  simp [gK, h1, h2]
theorem agU {d dw u v : D} {s : Nat} {c : Int} (h1 : jU true (.fr u) (.fr (.tup [.non, .int (s : Nat)])) = some (.fr (.bl true))) : (bH (eG (bB (aA (jU true) (ao 4) (aK (aj (runC .non) (aj (ao 2) ak))))) (bB (aA (jU true) (ao 5) (aK (aj (runC .non) (aj (ao 3) ak)))))) (aO [] (runC (.bl false))) (fun ρ => .ok .nx ρ)) [some (.fr (d)), some (.fr (dw)), some (.fr (.int (s : Nat))), some (.fr (.int (c))), some (.fr (u)), some (.fr (v))] = DM.R.ok (Fl.rt (.fr (.bl false))) [some (.fr (d)), some (.fr (dw)), some (.fr (.int (s : Nat))), some (.fr (.int (c))), some (.fr (u)), some (.fr (v))] := by
  simp [gK, h1]
theorem agV {d dw u v : D} {s : Nat} {c : Int} (h1 : jU true (.fr u) (.fr (.tup [.non, .int (s : Nat)])) = some (.fr (.bl false))) (h2 : jU true (.fr v) (.fr (.tup [.non, .int c])) = some (.fr (.bl true))) : (bH (eG (bB (aA (jU true) (ao 4) (aK (aj (runC .non) (aj (ao 2) ak))))) (bB (aA (jU true) (ao 5) (aK (aj (runC .non) (aj (ao 3) ak)))))) (aO [] (runC (.bl false))) (fun ρ => .ok .nx ρ)) [some (.fr (d)), some (.fr (dw)), some (.fr (.int (s : Nat))), some (.fr (.int (c))), some (.fr (u)), some (.fr (v))] = DM.R.ok (Fl.rt (.fr (.bl false))) [some (.fr (d)), some (.fr (dw)), some (.fr (.int (s : Nat))), some (.fr (.int (c))), some (.fr (u)), some (.fr (v))] := by
  simp [gK, h1, h2]
theorem ae8 {d dw : D} {n : Nat} {iP iL : Nat} {cl : Nat → List En → R En} {r1 r2 : aq} (g1 : cl iP [.fr d] = .ok (.fr (.int (n : Nat))) r1) (g2 : cl iL [.fr (.int (n : Nat)), .fr (.int (n : Nat))] = .ok (.fr .non) r2) (gl : dW [.fr dw] = some (.fr (.int (n : Nat)))) : (iJ (au 2 0 [] [0, 1] (cl iL) (aj (aM (au 1 0 [] [0] (cl iP) (aj (ao 0) ak) ak)) (aj (aN dW (aj (ao 1) ak)) ak)) ak)) [some (.fr (d)), some (.fr (dw)), none, none, none, none] = DM.R.ok Fl.nx [some (.fr (d)), some (.fr (dw)), none, none, none, none] := by
  have k1 := fun (ρ : aq) => uZ (L := []) (ρ := ρ) g1
  have k2 := fun (ρ : aq) => lD (L := []) (ρ := ρ) g2
  simp [gK, k1, k2, gl]
theorem agW {a : D} {d dw : D} (i0 : eZ (.fr d) (.fr (.int 0)) = some (.fr a)) : (aA eZ (ao 0) (runC (.int 0))) [some (.fr (d)), some (.fr (dw)), none, none, none, none] = .ok (.en (.fr a)) [some (.fr (d)), some (.fr (dw)), none, none, none, none] := by
  simp [gK, i0]
theorem agX {a : D} {d dw : D} (i0 : eZ (.fr d) (.fr (.int 1)) = some (.fr a)) : (aA eZ (ao 0) (runC (.int 1))) [some (.fr (d)), some (.fr (dw)), none, none, none, none] = .ok (.en (.fr a)) [some (.fr (d)), some (.fr (dw)), none, none, none, none] := by
  simp [gK, i0]
end
theorem ix2 {d a c : D} (h : Sq d [a, c]) : eZ (.fr d) (.fr (.int 0)) = some (.fr a) ∧ eZ (.fr d) (.fr (.int 1)) = some (.fr c) := by
  rcases h with rfl | rfl
  · exact ⟨by rw [tG]; rfl, by rw [tG]; rfl⟩
  · exact ⟨by rw [tE]; rfl, by rw [tE]; rfl⟩
theorem RX {iP iL : Nat} {cl : Nat → List En → R En} (HP : acA (cl iP)) (HL : Ln (cl iL)) : MtG (aQ 6 (aaw iP iL cl)) := by
  intro n d dw q b w hd hq hb hw hl hn
  obtain ⟨hh, hw⟩ := hw
  have wl : (Jd hh w).length = n := by rw [Pb, hl]
  obtain ⟨_, g1⟩ := HP d (nD q) (b.map .int) hd
  rw [lF, hq] at g1
  obtain ⟨_, g2⟩ := HL (n : Nat)
  have gl : dW [.fr dw] = some (.fr (.int (n : Nat))) := by rw [hw.len, wl]
  have l1 : (nD q).length = (b.map D.int).length := by rw [lF, List.length_map, hq, hb]
  have l2 : (b.map D.int).length = (Jd hh w).length := by rw [List.length_map, wl, hb]
  have tl : (lG (nD q) (b.map .int) (Jd hh w)).length = n := by rw [mU l1 l2, lF, hq]
  have at_ : ∀ j, j < n → (lG (nD q) (b.map .int) (Jd hh w))[j]? = some (.tup [.int (q.getD j 0 : Nat), .int (b.getD j 0), itH hh (w.getD j (none, none))]) := fun j jl => by
    have k1 : (nD q)[j]? = some (.int (q.getD j 0 : Nat)) := by
      unfold nD
      rw [List.getElem?_map, qY 0 (by rw [hq]; exact jl)]
      rfl
    have k2 : (b.map D.int)[j]? = some (.int (b.getD j 0)) := by
      rw [List.getElem?_map, qY 0 (by rw [hb]; exact jl)]
      rfl
    have k0 := j8 (w := w) (i := j) (by rw [hl]; exact jl)
    have k3 : (Jd hh w)[j]? = some (itH hh (w.getD j (none, none))) := by
      unfold Jd
      rw [List.getElem?_map, k0]
      rfl
    exact yR k1 k2 k3
  have ev : (lG (nD q) (b.map .int) (Jd hh w)).all okT = oX w (q, b) := by
    rw [Bool.eq_iff_iff, List.all_eq_true]
    unfold oX
    rw [List.all_eq_true]
    have key : ∀ j, okT (.tup [.int (q.getD j 0 : Nat), .int (b.getD j 0), itH hh (w.getD j (none, none))]) = ((decide ((w.getD j (none, none)).1 = none) || decide ((w.getD j (none, none)).1 = some (q.getD j 0))) && (decide ((w.getD j (none, none)).2 = none) || decide ((w.getD j (none, none)).2 = some (b.getD j 0)))) := fun j => by
      rw [← aby, ← abz]
      cases hh <;> rfl
    constructor
    · intro h j hj
      have hj := List.mem_range.mp hj
      have := h _ (List.mem_of_getElem? (at_ j (by omega)))
      rw [key] at this
      exact this
    · intro h x hx
      obtain ⟨j, hj, e⟩ := List.getElem_of_mem hx
      have e2 := List.getElem?_eq_getElem hj
      rw [tl] at hj
      rw [at_ j hj, e] at e2
      rw [← Option.some.inj e2, key]
      exact h j (List.mem_range.mpr (by omega))
  obtain ⟨ρ', h1, h2⟩ := zm (fg := bW (.t [(.n 2), (.n 3), (.t [(.n 4), (.n 5)])])) (fb := (bH (eG (bB (aA (jU true) (ao 4) (aK (aj (runC .non) (aj (ao 2) ak))))) (bB (aA (jU true) (ao 5) (aK (aj (runC .non) (aj (ao 3) ak)))))) (aO [] (runC (.bl false))) (fun ρ => .ok .nx ρ))) (P := fun ρ => ∃ x2 x3 x4 x5, ρ = [some (.fr (d)), some (.fr (dw)), x2, x3, x4, x5]) (e := .fr (.bl false)) okT (lG (nD q) (b.map .int) (Jd hh w)) [some (.fr (d)), some (.fr (dw)), none, none, none, none] ⟨none, none, none, none, rfl⟩ fun y hy ρ ⟨x2, x3, x4, x5, hρ⟩ => by
    subst hρ
    obtain ⟨j, hj, e⟩ := List.getElem_of_mem hy
    have e2 := List.getElem?_eq_getElem hj
    rw [tl] at hj
    rw [at_ j hj, e] at e2
    have e2 := Option.some.inj e2
    subst e2
    have a1 := Ph (XM (oN (w.getD j (none, none)).1) ((q.getD j 0 : Nat) : Int) (Pj _))
    have a2 := Ph (XM (oI (w.getD j (none, none)).2) (b.getD j 0) (Pk _))
    have ok : okT (.tup [.int (q.getD j 0 : Nat), .int (b.getD j 0), itH hh (w.getD j (none, none))]) = (rQ (oN (w.getD j (none, none)).1) ((q.getD j 0 : Nat) : Int) && rQ (oI (w.getD j (none, none)).2) (b.getD j 0)) := by cases hh <;> rfl
    rw [ok]
    refine ⟨[some (.fr (d)), some (.fr (dw)), some (.fr (.int (q.getD j 0 : Nat))), some (.fr (.int (b.getD j 0))), some (.fr (oN (w.getD j (none, none)).1)), some (.fr (oI (w.getD j (none, none)).2))], by cases hh <;> rfl, fun h => ?_, fun h => ?_⟩
    · have h : (rQ (oN (w.getD j (none, none)).1) ((q.getD j 0 : Nat) : Int) && rQ (oI (w.getD j (none, none)).2) (b.getD j 0)) = true := h
      obtain ⟨b1, b2⟩ := (Bool.and_eq_true _ _).mp h
      rw [b1] at a1
      rw [b2] at a2
      exact ⟨_, agT a1 a2, _, _, _, _, rfl⟩
    · have h : (rQ (oN (w.getD j (none, none)).1) ((q.getD j 0 : Nat) : Int) && rQ (oI (w.getD j (none, none)).2) (b.getD j 0)) = false := h
      cases c : rQ (oN (w.getD j (none, none)).1) ((q.getD j 0 : Nat) : Int) with
      | false =>
        rw [c] at a1
        exact ⟨_, agU a1⟩
      | true =>
        rw [c, Bool.true_and] at h
        rw [c] at a1
        rw [h] at a2
        exact ⟨_, agV a1 a2⟩
  obtain ⟨a, c, s1, s2, s3⟩ := hd
  obtain ⟨i0, i1⟩ := ix2 s1
  have z : lH (aA eZ (ao 0) (runC (.int 0))) (aA eZ (ao 0) (runC (.int 1))) (ao 1) [some (.fr (d)), some (.fr (dw)), none, none, none, none] = .ok (lG (nD q) (b.map .int) (Jd hh w)) [some (.fr (d)), some (.fr (dw)), none, none, none, none] := by
    have a1 : bY (aA eZ (ao 0) (runC (.int 0))) [some (.fr (d)), some (.fr (dw)), none, none, none, none] = .ok (nD q) [some (.fr (d)), some (.fr (dw)), none, none, none, none] := s2.seq (agW i0)
    have a2 : bY (aA eZ (ao 0) (runC (.int 1))) [some (.fr (d)), some (.fr (dw)), none, none, none, none] = .ok (b.map .int) [some (.fr (d)), some (.fr (dw)), none, none, none, none] := s3.seq (agX i1)
    have a3 : bY (ao 1) [some (.fr (d)), some (.fr (dw)), none, none, none, none] = .ok (Jd hh w) [some (.fr (d)), some (.fr (dw)), none, none, none, none] := hw.seq rfl
    unfold lH
    rw [a1, aX, a2, aX, a3, aX, if_pos ⟨l1, l2⟩]
  rw [ev] at h1 h2
  cases hm : oX w (q, b) with
  | true =>
    rw [hm] at h1
    obtain ⟨x2, x3, x4, x5, rfl⟩ := h2 hm
    exact ⟨_, oU rfl (cX (ae8 g1 g2 gl) (cX (rH z h1) rfl))⟩
  | false =>
    rw [hm] at h1
    exact ⟨_, oU rfl (cX (ae8 g1 g2 gl) (Ny (rH z h1)))⟩
/-! from any state of the lot -/
end DM
end
section
namespace DM
open PySem L2
/-! akT: plan with its refusal; items of wishes drawn. -/
theorem XQ {run : List En → R En} (H : EY run) (m : Int) (e : En) (x : D) (r : Nat) (hr : r ≤ 5) (h0 : 0 ≤ m) (hb : dD (m + 1) e) : ∃ d e' rest, run [e, .fr (.lst (x :: List.replicate r .non))] = .ok (.fr d) (some e' :: rest) ∧ (d = .non ∨ d = x) ∧ dD m e' := by
  obtain ⟨d, e', rest, g1, g2, g3⟩ := H m e (.lst (x :: List.replicate r .non)) (x :: List.replicate r .non) (.inr rfl) h0 (by rw [List.length_cons]; omega) (by rw [List.length_cons, List.length_replicate]; omega) hb
  refine ⟨d, e', rest, g1, ?_, g3⟩
  rcases List.mem_cons.mp g2 with e | e
  · exact .inr e
  · exact .inl (List.mem_replicate.mp e).2
theorem adh {d : D} {s : Nat} (h : d = .non ∨ d = .int (s : Nat)) : ∃ x : Option Nat, d = oN x ∧ (x = none ∨ x = some s) := by
  rcases h with rfl | rfl
  · exact ⟨none, rfl, .inl rfl⟩
  · exact ⟨some s, rfl, .inr rfl⟩
theorem aax (w : dO) (x : Option Nat) (y : Option Int) : lZ w ++ [.tup [oN x, oI y]] = lZ (w ++ [(x, y)]) := by
  unfold lZ
  rw [List.map_append]
  rfl
theorem R4 {q : List Nat} {b : List Int} {j : Nat} {d : D} (hj : (pairs (nD q) (b.map .int))[j]? = some d) : j < q.length ∧ j < b.length ∧ d = .tup [.int (q.getD j 0 : Nat), .int (b.getD j 0)] := by
  unfold pairs at hj
  rw [List.getElem?_map] at hj
  obtain ⟨⟨u, v⟩, hz, rfl⟩ := Option.map_eq_some_iff.mp hj
  obtain ⟨h1, h2⟩ := List.getElem?_zip_eq_some.mp hz
  have l1 := (List.getElem?_eq_some_iff.mp h1).1
  have l2 := (List.getElem?_eq_some_iff.mp h2).1
  rw [lF] at l1
  rw [List.length_map] at l2
  unfold nD at h1
  rw [List.getElem?_map, qY 0 l1] at h1
  rw [List.getElem?_map, qY 0 l2] at h2
  rw [Option.map_some] at h1 h2
  have h1 : D.int ((q.getD j 0 : Nat) : Int) = u := Option.some.inj h1
  have h2 : D.int (b.getD j 0) = v := Option.some.inj h2
  refine ⟨l1, l2, ?_⟩
  show D.tup [u, v] = _
  rw [← h1, ← h2]
end DM
end
section
namespace DM
open PySem L2
/-! akU: the exchanges of each two people along a row; a tally's keys, ascending. -/
section
variable {n c : Nat} {q q' q2 : List Nat} {b b' b2 : List Int}
end
end DM
end
section
namespace DM
open PySem L2
/-! akV: people and wishes that do not fit. -/
theorem Sq.gl {d : D} {xs : List D} (h : Sq d xs) : dW [.fr d] = some (.fr (.int (xs.length : Nat))) := by
  rcases h with rfl | rfl <;> rfl
section
variable {cl : Nat → List En → R En} {iL iP iC : Nat}
end
end DM
end
section
set_option maxHeartbeats 1000000
namespace DM
open PySem PySem.Spec PyProof.Rows L2
section
variable {X : Cx} {pins : List (Addr × Obj)} {σ : L2.St} {H : Hp} {s : Shared} {d : Addr} {o : Obj} {zs : List NestedKey} {us vs : List V}
end
section
variable {XR : jC} {M : Wd} {X : Cx} {C : Cs} {W : WX} {k : Nat} {N : List Str} {nm : List (Str × NameKind)} {fb : Str → Bool} {e : Expr} {es : List Expr} {f : aq → R Val} {tpos : Pos} {kk : Nat}
end
end DM
end
section
namespace DM
open PySem L2
/-! akW: how many shortest rows lead from a state to another one. -/
section
variable {n : Nat} {q : List Nat} {b : List Int}
variable {LL : List gj}
end
section
variable {n : Nat} {LL : List gj}
end
end DM
end
section
namespace DM
open PySem L2
/-! akX: neighbours, ways_many. -/
section
variable {cl : Nat → List En → R En}
end
section
variable {cl : Nat → List En → R En} {n : Nat} {iB iS iA iD iN iE iX : Nat}
end
section
variable {cl : Nat → List En → R En} {n : Nat} {iB iS iA iD iN : Nat} {LL L : List gj} {s t : gj} {d1 d2 : D} {g : gj → Int} {left : Int}
end
end DM
end
section
set_option maxHeartbeats 2000000
namespace PySem
open Sem (wp)
structure ZZ (O lQ gM i3 z TI TO i1 i2 : Addr) (fp1 fp2 fp3 : List Addr) : Prop where
  S : ZipSep2 z TI TO i1 i2 fp1 fp2
  oI : O ∉ z :: TI :: TO :: (fp1 ++ fp2)
  tI : gM ∉ z :: TI :: TO :: (fp1 ++ fp2)
  iI : i3 ∉ z :: TI :: TO :: (fp1 ++ fp2)
  TIn : lQ ≠ z ∧ lQ ≠ TO ∧ lQ ≠ i1 ∧ lQ ≠ i2 ∧ lQ ≠ O ∧ lQ ≠ gM ∧ lQ ≠ i3
  m3 : i3 ∈ fp3
  o3 : O ∉ fp3
  t3 : gM ∉ fp3
  n3 : z ∉ fp3 ∧ TO ∉ fp3 ∧ i1 ∉ fp3 ∧ i2 ∉ fp3
  oT : O ≠ gM
section
variable {prog : Program} {w : World} {A : Around} {E : Value → Shared → Prop} {s : Shared} {O lQ gM i3 z TI TO i1 i2 : Addr} {fp1 fp2 fp3 : List Addr} {n1 n2 n3 i : Nat} {P1 P2 P3 : Nat → Value → Prop} {St1 St2 St3 : Nat → Heap → Prop}
structure Cj (z TI TO i1 i2 : Addr) (St1 St2 : Nat → Heap → Prop) (i : Nat) (h : Heap) : Prop where
  z : qU h z TI TO
  ti : IsTupOf2 h TI (.ref i1) (.ref i2)
  to : ∃ x y, IsTupOf2 h TO x y
  s1 : St1 i h
  s2 : St2 i h
theorem Cj.move (D1 : Draws prog w A i1 fp1 n1 P1 St1) (D2 : Draws prog w A i2 fp2 n2 P2 St2) {h h' : Heap} (x : Cj z TI TO i1 i2 St1 St2 i h) (k : ∀ b ∈ z :: TI :: TO :: (fp1 ++ fp2), ∀ o, h.get? b = some o → h'.get? b = some o) : Cj z TI TO i1 i2 St1 St2 i h' := by
  obtain ⟨⟨f0, f1, hf, hz⟩, hTI, ⟨a, b, hTO⟩, s1, s2⟩ := x
  exact ⟨⟨f0, f1, hf, k z (by simp) _ hz⟩, k TI (by simp) _ hTI, ⟨a, b, k TO (by simp) _ hTO⟩, D1.frame _ _ _ s1 fun c hc o e => k c (by simp [hc]) o e, D2.frame _ _ _ s2 fun c hc o e => k c (by simp [hc]) o e⟩
theorem Cj.but (D1 : Draws prog w A i1 fp1 n1 P1 St1) (D2 : Draws prog w A i2 fp2 n2 P2 St2) {h h' : Heap} {a : Addr} (x : Cj z TI TO i1 i2 St1 St2 i h) (b : Heap.SameBut a h h') (ha : a ∉ z :: TI :: TO :: (fp1 ++ fp2)) : Cj z TI TO i1 i2 St1 St2 i h' :=
  x.move D1 D2 fun c hc o e => b.extBut c o (fun q => ha (q ▸ hc)) e
theorem aay {Q : Value → Shared → Prop} (G : ZZ O lQ gM i3 z TI TO i1 i2 fp1 fp2 fp3) (D1 : Draws prog w A.in1 i1 fp1 n1 P1 St1) (D2 : Draws prog w A.in1 i2 fp2 n2 P2 St2) (D3 : Draws prog w A i3 fp3 n3 P3 St3)
    (hz : qU s.heap O lQ gM) (hTI : IsTupOf2 s.heap lQ (.ref z) (.ref i3)) (hTO : ∃ x y, IsTupOf2 s.heap gM x y) (zi : Cj z TI TO i1 i2 St1 St2 i s.heap) (st3 : St3 i s.heap) (l1 : i < n1) (l2 : i < n2) (l3 : i < n3)
    (hQ : ∀ x1 x2 x3 h' tk, P1 i x1 → P2 i x2 → P3 i x3 → qU h' O lQ gM → (∃ x y, IsTupOf2 h' gM x y) → Cj z TI TO i1 i2 St1 St2 (i + 1) h' → St3 (i + 1) h' → IsTupOf2 h' s.heap.objs.size x1 x2 → IsTupOf2 h' (s.heap.objs.size + 1) (.ref s.heap.objs.size) x3 → h'.objs.size = s.heap.objs.size + 2 →
      (∀ c o, c ≠ O → c ≠ gM → c ≠ i3 → c ≠ z → c ≠ TO → c ≠ i1 → c ≠ i2 → s.heap.get? c = some o → h'.get? c = some o) → Q (.ref (s.heap.objs.size + 1)) { s with heap := h', toks := tk }) :
    wpAny (model prog w) A (Builtin.«zip.__next__» ⟨[.ref O], []⟩) (fun fin s' => ∃ v, fin = .done (.ret v) ∧ Q v s') E s := by
  obtain ⟨h0, ge, de, t0, oo⟩ := s
  obtain ⟨f0, f1, hf, hz⟩ := hz
  obtain ⟨a1, a2, hTO⟩ := hTO
  obtain ⟨S, oI, tI, iI, ⟨n1', n2', n3', n4', n5', n6', n7'⟩, m3, o3, t3, ⟨q1, q2, q3, q4⟩, oT⟩ := id G
  have Oz : O ≠ z := fun e => oI (by simp [e])
  have OTO : O ≠ TO := fun e => oI (by simp [e])
  have Oi1 : O ≠ i1 := fun e => oI (by simp [e, S.mem1])
  have Oi2 : O ≠ i2 := fun e => oI (by simp [e, S.mem2])
  have Tz : gM ≠ z := fun e => tI (by simp [e])
  have TTO : gM ≠ TO := fun e => tI (by simp [e])
  have Ti1 : gM ≠ i1 := fun e => tI (by simp [e, S.mem1])
  have Ti2 : gM ≠ i2 := fun e => tI (by simp [e, S.mem2])
  have Oi3 : O ≠ i3 := fun e => o3 (e ▸ m3)
  have Ti3 : gM ≠ i3 := fun e => t3 (e ▸ m3)
  have lO : O < h0.objs.size := Heap.lt_size hz
  have lT : gM < h0.objs.size := Heap.lt_size hTO
  show wpAny _ _ ((field (.ref O) 2).bind _) _ _ _
  refine wpAny_bind (wpAny_field hz rfl (x := Value.bool false) rfl ?_)
  show wpAny _ _ ((field (.ref O) 3).bind _) _ _ _
  refine wpAny_bind (wpAny_field hz rfl (x := Value.ref lQ) rfl ?_)
  refine wpAny_bind (wpAny_seqItems hTI rfl ?_)
  show wpAny _ _ ((Builtin.SmallTypes.ownedTupleIsFree (.ref O)).bind _) _ _ _
  refine wpAny_bind (wG hf hz ?_ fun g hg sg => ?_)
  · simp only [if_true]
    refine wpAny_bind (wpAny_rule ?_)
    refine wpAny_bind (wpAny_field hz rfl (x := Value.ref gM) rfl ?_)
    refine wpAny_bind (wpAny_setField_rec hz (by simp) fun g0 q0 b0 => ?_)
    replace q0 : oV g0 O lQ gM .ellipsis f1 := q0
    replace b0 : Heap.SameBut O h0 g0 := b0
    have z0 : g0.objs.size = h0.objs.size := b0.1
    refine wpAny_bind ?_
    simp only [List.zipIdx_cons, List.zipIdx_nil, List.forIn_cons, List.forIn_nil]
    refine wpAny_bind (wpAny_bind (wpAny_onRaise ?_))
    show wpAny _ _ ((Builtin.SmallTypes.nextOf (.ref z)).bind _) _ _ ⟨g0, ge, de, t0, oo⟩
    have vX := zi.but D1 D2 b0 oI
    refine wpAny_bind (Bx S D1 D2 vX.z vX.ti vX.to vX.s1 vX.s2 l1 l2 fun x1 x2 p1 k1 y1 y2 w1 w2 w3 w4 w5 w6 w7 => wpAny_pure ?_)
    replace w5 : IsTupOf2 p1 g0.objs.size x1 x2 := w5
    replace w6 : p1.objs.size = g0.objs.size + 1 := w6
    replace w7 : ∀ c o, c ≠ z → c ≠ TO → c ≠ i1 → c ≠ i2 → g0.get? c = some o → p1.get? c = some o := w7
    rw [z0] at w5 w6
    show wpAny _ _ _ _ _ ⟨p1, ge, de, k1, oo⟩
    have zi1 : Cj z TI TO i1 i2 St1 St2 (i + 1) p1 := ⟨w1, w7 _ _ S.TIz S.TITO S.TIi1 S.TIi2 vX.ti, w2, w3, w4⟩
    have u1 : IsTupOf2 p1 gM a1 a2 := w7 _ _ Tz TTO Ti1 Ti2 (b0.extBut _ _ oT.symm hTO)
    rw [show (Value.ref g0.objs.size) = .ref h0.objs.size by rw [z0]]
    refine wpAny_bind (wpAny_seqItems (s := ⟨p1, ge, de, k1, oo⟩) u1 rfl ?_)
    refine wpAny_bind (updateSeq_IsTupOf2 (s := ⟨p1, ge, de, k1, oo⟩) u1 fun g1 v1 c1 => ?_)
    replace v1 : IsTupOf2 g1 gM (.ref h0.objs.size) a2 := v1
    replace c1 : Heap.SameBut gM p1 g1 := c1
    have zi2 := zi1.but D1 D2 c1 tI
    have s3 : St3 i g1 := D3.frame _ _ _ st3 fun b hb o e => c1.extBut _ _ (fun q => t3 (q ▸ hb)) (w7 _ _ (fun q => q1 (q ▸ hb)) (fun q => q2 (q ▸ hb)) (fun q => q3 (q ▸ hb)) (fun q => q4 (q ▸ hb)) (b0.extBut _ _ (fun q => o3 (q ▸ hb)) e))
    refine wpAny_bind (wpAny_letGo (wpAny_pure ?_))
    refine wpAny_bind (wpAny_bind (wpAny_onRaise ?_))
    show wpAny _ _ ((Builtin.SmallTypes.nextOf (.ref i3)).bind _) _ _ ⟨g1, ge, de, k1, oo⟩
    refine wpAny_bind (D3.item i _ _ _ l3 s3 fun x3 p2 k2 y3 n3q b2 => wpAny_pure ?_)
    replace b2 : Heap.SameBut i3 g1 p2 := b2
    have zi3 := zi2.but D1 D2 b2 iI
    have u2 : IsTupOf2 p2 gM (.ref h0.objs.size) a2 := b2.extBut _ _ Ti3 v1
    refine wpAny_bind (wpAny_seqItems (s := ⟨p2, ge, de, k2, oo⟩) u2 rfl ?_)
    refine wpAny_bind (updateSeq_IsTupOf2 (s := ⟨p2, ge, de, k2, oo⟩) u2 fun g2 v2 c2 => ?_)
    replace v2 : IsTupOf2 g2 gM (.ref h0.objs.size) x3 := v2
    replace c2 : Heap.SameBut gM p2 g2 := c2
    have zi4 := zi3.but D1 D2 c2 tI
    refine wpAny_bind (wpAny_letGo (wpAny_pure ?_))
    refine wpAny_pure ?_
    have zg : oV g2 O lQ gM .ellipsis f1 := c2.extBut _ _ oT (b2.extBut _ _ Oi3 (c1.extBut _ _ oT (w7 _ _ Oz OTO Oi1 Oi2 q0)))
    have sz : g2.objs.size = h0.objs.size + 1 := by rw [c2.1, b2.1, c1.1, w6]
    have nT : gM ≠ h0.objs.size := Nat.ne_of_lt lT
    have l3' : i3 < h0.objs.size := by
      obtain ⟨o, e⟩ := D3.live _ _ st3
      exact Heap.lt_size e
    have tup : IsTupOf2 g2 h0.objs.size x1 x2 := c2.extBut _ _ nT.symm (b2.extBut _ _ (Nat.ne_of_gt l3') (c1.extBut _ _ nT.symm w5))
    have kk : ∀ c o, c ≠ O → c ≠ gM → c ≠ i3 → c ≠ z → c ≠ TO → c ≠ i1 → c ≠ i2 → h0.get? c = some o → g2.get? c = some o := fun c o e1 e2 e3 e4 e5 e6 e7 e => c2.extBut _ _ e2 (b2.extBut _ _ e3 (c1.extBut _ _ e2 (w7 _ _ e4 e5 e6 e7 (b0.extBut _ _ e1 e))))
    have s4 : St3 (i + 1) g2 := D3.over n3q c2 t3
    refine wpAny_bind (wpAny_seqItems (s := ⟨g2, ge, de, k2, oo⟩) v2 rfl ?_)
    show wpAny _ _ ((newTuple [.ref h0.objs.size, x3]).bind _) _ _ _
    refine wpAny_bind (wpAny_newTuple ?_)
    have lz : O < g2.objs.size := Heap.lt_size zg
    show wpAny _ _ ((Builtin.SmallTypes.ownedTupleHandOut (.ref O) (.ref g2.objs.size)).bind _) _ _ ⟨g2.push { cls := .type "tuple", data := .seq #[.ref h0.objs.size, x3] }, ge, de, k2, oo⟩
    refine wpAny_bind ?_
    unfold Builtin.SmallTypes.ownedTupleHandOut
    have z6 : oV (g2.push { cls := .type "tuple", data := .seq #[.ref h0.objs.size, x3] }) O lQ gM .ellipsis f1 := Heap.get?_push_of_some _ zg
    refine wpAny_bind (wpAny_setField_rec z6 (by simp) fun h7 z7 b7 => ?_)
    replace z7 : oV h7 O lQ gM (rawInt g2.objs.size) f1 := z7
    refine wpAny_setField_rec z7 (by simp) fun h8 z8 b8 => ?_
    replace z8 : oV h8 O lQ gM (rawInt g2.objs.size) false := z8
    replace b7 : Heap.SameBut O (g2.push { cls := .type "tuple", data := .seq #[.ref h0.objs.size, x3] }) h7 := b7
    replace b8 : Heap.SameBut O h7 h8 := b8
    have up : ∀ c o, c ≠ O → g2.get? c = some o → h8.get? c = some o := fun c o e1 e => b8.extBut _ _ e1 (b7.extBut _ _ e1 (Heap.get?_push_of_some _ e))
    have new : IsTupOf2 h8 g2.objs.size (.ref h0.objs.size) x3 := b8.extBut _ _ (Nat.ne_of_gt lz) (b7.extBut _ _ (Nat.ne_of_gt lz) (Heap.get?_push_size _ rfl))
    have big : h8.objs.size = g2.objs.size + 1 := by rw [b8.1, b7.1, Heap.size_push]
    have zz : qU h8 O lQ gM := ⟨_, false, .inr ⟨_, rfl⟩, z8⟩
    rw [sz] at new big
    refine wpAny_pure ⟨_, rfl, ?_⟩
    show Q (.ref g2.objs.size) ⟨h8, ge, de, k2, oo⟩
    rw [sz]
    exact hQ x1 x2 x3 h8 k2 y1 y2 y3 zz ⟨_, _, up _ _ oT.symm v2⟩ (zi4.move D1 D2 fun b hb o e => up b o (fun q => oI (q ▸ hb)) e) (D3.frame _ _ _ s4 fun b hb o e => up b o (fun q => o3 (q ▸ hb)) e) (up _ _ (Nat.ne_of_gt lO) tup) new big fun c o e1 e2 e3 e4 e5 e6 e7 e => up c o e1 (kk c o e1 e2 e3 e4 e5 e6 e7 e)
  · replace sg : Heap.SameBut O h0 g := sg
    obtain ⟨f0', f1', hf', hg'⟩ := hg
    simp only [Bool.false_eq_true, if_false]
    refine wpAny_bind ?_
    rw [← Array.forIn_toList]
    simp only [List.forIn_cons, List.forIn_nil]
    refine wpAny_bind (wpAny_bind (wpAny_holding ?_))
    show wpAny _ _ ((Builtin.SmallTypes.nextOf (.ref z)).bind _) _ _ ⟨g, ge, de, t0, oo⟩
    have vX := zi.but D1 D2 sg oI
    have z0 : g.objs.size = h0.objs.size := sg.1
    refine wpAny_bind (Bx S D1 D2 vX.z vX.ti vX.to vX.s1 vX.s2 l1 l2 fun x1 x2 p1 k1 y1 y2 w1 w2 w3 w4 w5 w6 w7 => wpAny_pure ?_)
    replace w5 : IsTupOf2 p1 g.objs.size x1 x2 := w5
    replace w6 : p1.objs.size = g.objs.size + 1 := w6
    replace w7 : ∀ c o, c ≠ z → c ≠ TO → c ≠ i1 → c ≠ i2 → g.get? c = some o → p1.get? c = some o := w7
    rw [z0] at w5 w6
    have zi1 : Cj z TI TO i1 i2 St1 St2 (i + 1) p1 := ⟨w1, w7 _ _ S.TIz S.TITO S.TIi1 S.TIi2 vX.ti, w2, w3, w4⟩
    have s3 : St3 i p1 := D3.frame _ _ _ st3 fun b hb o e => w7 _ _ (fun q => q1 (q ▸ hb)) (fun q => q2 (q ▸ hb)) (fun q => q3 (q ▸ hb)) (fun q => q4 (q ▸ hb)) (sg.extBut _ _ (fun q => o3 (q ▸ hb)) e)
    refine wpAny_pure ?_
    refine wpAny_bind (wpAny_bind (wpAny_holding ?_))
    show wpAny _ _ ((Builtin.SmallTypes.nextOf (.ref i3)).bind _) _ _ ⟨p1, ge, de, k1, oo⟩
    refine wpAny_bind (D3.item i _ _ _ l3 s3 fun x3 p2 k2 y3 n3q b2 => wpAny_pure ?_)
    replace b2 : Heap.SameBut i3 p1 p2 := b2
    have zi2 := zi1.but D1 D2 b2 iI
    refine wpAny_pure (wpAny_pure ?_)
    show wpAny _ _ ((newTuple [.ref g.objs.size, x3]).bind _) _ _ ⟨p2, ge, de, k2, oo⟩
    rw [show (Value.ref g.objs.size) = .ref h0.objs.size by rw [z0]]
    refine wpAny_bind (wpAny_newTuple ?_)
    have sz : p2.objs.size = h0.objs.size + 1 := by rw [b2.1, w6]
    have zg : oV p2 O lQ gM f0' f1' := b2.extBut _ _ Oi3 (w7 _ _ Oz OTO Oi1 Oi2 hg')
    have l3' : i3 < h0.objs.size := by
      obtain ⟨o, e⟩ := D3.live _ _ st3
      exact Heap.lt_size e
    have tup : IsTupOf2 p2 h0.objs.size x1 x2 := b2.extBut _ _ (Nat.ne_of_gt l3') w5
    have kk : ∀ c o, c ≠ O → c ≠ i3 → c ≠ z → c ≠ TO → c ≠ i1 → c ≠ i2 → h0.get? c = some o → p2.get? c = some o := fun c o e1 e3 e4 e5 e6 e7 e => b2.extBut _ _ e3 (w7 _ _ e4 e5 e6 e7 (sg.extBut _ _ e1 e))
    have up : ∀ c o, p2.get? c = some o → (p2.push { cls := .type "tuple", data := .seq #[.ref h0.objs.size, x3] }).get? c = some o := fun c o e => Heap.get?_push_of_some _ e
    refine wpAny_pure ⟨_, rfl, ?_⟩
    show Q (.ref p2.objs.size) ⟨p2.push { cls := .type "tuple", data := .seq #[.ref h0.objs.size, x3] }, ge, de, k2, oo⟩
    have new : IsTupOf2 (p2.push { cls := .type "tuple", data := .seq #[.ref h0.objs.size, x3] }) p2.objs.size (.ref h0.objs.size) x3 := Heap.get?_push_size _ rfl
    have big : (p2.push { cls := .type "tuple", data := .seq #[.ref h0.objs.size, x3] }).objs.size = p2.objs.size + 1 := Heap.size_push ..
    rw [sz] at new big ⊢
    exact hQ x1 x2 x3 _ k2 y1 y2 y3 ⟨f0', f1', hf', up _ _ zg⟩ ⟨_, _, up _ _ (kk _ _ oT.symm Ti3 Tz TTO Ti1 Ti2 hTO)⟩ (zi2.move D1 D2 fun b _ o e => up b o e) (D3.frame _ _ _ n3q fun b hb o e => up b o e) (up _ _ tup) new big fun c o e1 e2 e3 e4 e5 e6 e7 e => up c o (kk c o e1 e3 e4 e5 e6 e7 e)
theorem adi {Q : Fin → Shared → Prop} (G : ZZ O lQ gM i3 z TI TO i1 i2 fp1 fp2 fp3) (D1 : Draws prog w A.in1 i1 fp1 n1 P1 St1) (D2 : Draws prog w A.in1 i2 fp2 n2 P2 St2)
    (hz : qU s.heap O lQ gM) (hTI : IsTupOf2 s.heap lQ (.ref z) (.ref i3)) (hTO : ∃ x y, IsTupOf2 s.heap gM x y) (zi : Cj z TI TO i1 i2 St1 St2 i s.heap) (l1 : i ≤ n1) (l2 : i ≤ n2) (le : i = n1 ∨ i = n2)
    (hE : ∀ h' tk e, (∀ c o, c ≠ O → c ≠ z → c ≠ TO → c ≠ i1 → c ≠ i2 → s.heap.get? c = some o → h'.get? c = some o) → (∃ o, h'.get? e = some o ∧ o.cls = .type "StopIteration") → E (.ref e) { s with heap := h', toks := tk }) :
    wpAny (model prog w) A (Builtin.«zip.__next__» ⟨[.ref O], []⟩) Q E s := by
  obtain ⟨h0, ge, de, t0, oo⟩ := s
  obtain ⟨f0, f1, hf, hz⟩ := hz
  obtain ⟨a1, a2, hTO⟩ := hTO
  obtain ⟨S, oI, tI, iI, ⟨n1', n2', n3', n4', n5', n6', n7'⟩, m3, o3, t3, ⟨q1, q2, q3, q4⟩, oT⟩ := id G
  have Oz : O ≠ z := fun e => oI (by simp [e])
  have OTO : O ≠ TO := fun e => oI (by simp [e])
  have Oi1 : O ≠ i1 := fun e => oI (by simp [e, S.mem1])
  have Oi2 : O ≠ i2 := fun e => oI (by simp [e, S.mem2])
  show wpAny _ _ ((field (.ref O) 2).bind _) _ _ _
  refine wpAny_bind (wpAny_field hz rfl (x := Value.bool false) rfl ?_)
  show wpAny _ _ ((field (.ref O) 3).bind _) _ _ _
  refine wpAny_bind (wpAny_field hz rfl (x := Value.ref lQ) rfl ?_)
  refine wpAny_bind (wpAny_seqItems hTI rfl ?_)
  show wpAny _ _ ((Builtin.SmallTypes.ownedTupleIsFree (.ref O)).bind _) _ _ _
  refine wpAny_bind (wG hf hz ?_ fun g hg sg => ?_)
  · simp only [if_true]
    refine wpAny_bind (wpAny_rule ?_)
    refine wpAny_bind (wpAny_field hz rfl (x := Value.ref gM) rfl ?_)
    refine wpAny_bind (wpAny_setField_rec hz (by simp) fun g0 q0 b0 => ?_)
    replace q0 : oV g0 O lQ gM .ellipsis f1 := q0
    replace b0 : Heap.SameBut O h0 g0 := b0
    refine wpAny_bind ?_
    simp only [List.zipIdx_cons, List.zipIdx_nil, List.forIn_cons, List.forIn_nil]
    refine wpAny_bind (wpAny_bind (wpAny_onRaise ?_))
    show wpAny _ _ ((Builtin.SmallTypes.nextOf (.ref z)).bind _) _ _ ⟨g0, ge, de, t0, oo⟩
    have vX := zi.but D1 D2 b0 oI
    refine wpAny_bind (qW S D1 D2 vX.z vX.ti vX.to vX.s1 vX.s2 l1 l2 le fun q k1 e hq ho => ?_)
    replace hq : ∀ c o, c ≠ z → c ≠ TO → c ≠ i1 → c ≠ i2 → g0.get? c = some o → q.get? c = some o := hq
    obtain ⟨oe, ho, hc⟩ := ho
    replace ho : q.get? e = some oe := ho
    have zq : oV q O lQ gM .ellipsis f1 := hq _ _ Oz OTO Oi1 Oi2 q0
    have ez : e ≠ O := fun x => by subst x; rw [zq] at ho; cases ho; simp at hc
    refine wpAny_setField_rec (s := ⟨q, ge, de, k1, oo⟩) zq (by simp) fun q' _ bq => ?_
    replace bq : Heap.SameBut O q q' := bq
    exact hE q' k1 e (fun c o m0 m1 m2 m3 m4 x => bq.extBut _ _ m0 (hq _ _ m1 m2 m3 m4 (b0.extBut _ _ m0 x))) ⟨oe, bq.extBut _ _ ez ho, hc⟩
  · replace sg : Heap.SameBut O h0 g := sg
    simp only [Bool.false_eq_true, if_false]
    refine wpAny_bind ?_
    rw [← Array.forIn_toList]
    simp only [List.forIn_cons, List.forIn_nil]
    refine wpAny_bind (wpAny_bind (wpAny_holding ?_))
    show wpAny _ _ ((Builtin.SmallTypes.nextOf (.ref z)).bind _) _ _ ⟨g, ge, de, t0, oo⟩
    have vX := zi.but D1 D2 sg oI
    refine wpAny_bind (qW S D1 D2 vX.z vX.ti vX.to vX.s1 vX.s2 l1 l2 le fun q k1 e hq ho => ?_)
    exact hE q k1 e (fun c o m0 m1 m2 m3 m4 x => hq _ _ m1 m2 m3 m4 (sg.extBut _ _ m0 x)) ho
theorem R5 {Q : Option Value → Shared → Prop} (G : ZZ O lQ gM i3 z TI TO i1 i2 fp1 fp2 fp3) (D1 : Draws prog w A.in1.in1 i1 fp1 n1 P1 St1) (D2 : Draws prog w A.in1.in1 i2 fp2 n2 P2 St2) (D3 : Draws prog w A.in1 i3 fp3 n3 P3 St3)
    (hz : qU s.heap O lQ gM) (hTI : IsTupOf2 s.heap lQ (.ref z) (.ref i3)) (hTO : ∃ x y, IsTupOf2 s.heap gM x y) (zi : Cj z TI TO i1 i2 St1 St2 i s.heap) (st3 : St3 i s.heap) (l1 : i < n1) (l2 : i < n2) (l3 : i < n3)
    (hQ : ∀ x1 x2 x3 h' tk, P1 i x1 → P2 i x2 → P3 i x3 → qU h' O lQ gM → (∃ x y, IsTupOf2 h' gM x y) → Cj z TI TO i1 i2 St1 St2 (i + 1) h' → St3 (i + 1) h' → IsTupOf2 h' s.heap.objs.size x1 x2 → IsTupOf2 h' (s.heap.objs.size + 1) (.ref s.heap.objs.size) x3 → h'.objs.size = s.heap.objs.size + 2 →
      (∀ c o, c ≠ O → c ≠ gM → c ≠ i3 → c ≠ z → c ≠ TO → c ≠ i1 → c ≠ i2 → s.heap.get? c = some o → h'.get? c = some o) → Q (some (.ref (s.heap.objs.size + 1))) { s with heap := h', toks := tk }) :
    wpAny (model prog w) A (pyNext (.ref O)) Q E s := by
  have hT : s.TypeIs (.ref O) "zip" := by obtain ⟨f0, f1, _, e⟩ := hz; exact ⟨_, e, rfl⟩
  unfold pyNext
  exact wpAny_bind (wpAny_attempt (wpAny_callSpecial?_slot (name := Str.ofString "__next__") hT F.slot_zip_next
    (wpAny_call_entry F.slot_zip_next hT F.entry_zip_next (aay G D1 D2 D3 hz hTI hTO zi st3 l1 l2 l3 fun x1 x2 x3 h' tk y1 y2 y3 b1 b2 b3 b4 b5 b6 b7 b8 => wpAny_pure (hQ x1 x2 x3 h' tk y1 y2 y3 b1 b2 b3 b4 b5 b6 b7 b8)) (F.args_zip_next_1 _))))
theorem Ad {Q : Option Value → Shared → Prop} (G : ZZ O lQ gM i3 z TI TO i1 i2 fp1 fp2 fp3) (D1 : Draws prog w A.in1.in1 i1 fp1 n1 P1 St1) (D2 : Draws prog w A.in1.in1 i2 fp2 n2 P2 St2)
    (hz : qU s.heap O lQ gM) (hTI : IsTupOf2 s.heap lQ (.ref z) (.ref i3)) (hTO : ∃ x y, IsTupOf2 s.heap gM x y) (zi : Cj z TI TO i1 i2 St1 St2 i s.heap) (l1 : i ≤ n1) (l2 : i ≤ n2) (le : i = n1 ∨ i = n2)
    (hQ : ∀ h' tk, (∀ c o, c ≠ O → c ≠ z → c ≠ TO → c ≠ i1 → c ≠ i2 → s.heap.get? c = some o → h'.get? c = some o) → Q none { s with heap := h', toks := tk }) : wpAny (model prog w) A (pyNext (.ref O)) Q E s := by
  have hT : s.TypeIs (.ref O) "zip" := by obtain ⟨f0, f1, _, e⟩ := hz; exact ⟨_, e, rfl⟩
  unfold pyNext
  refine wpAny_bind (wpAny_attempt (wpAny_callSpecial?_slot (name := Str.ofString "__next__") hT F.slot_zip_next
    (wpAny_call_entry F.slot_zip_next hT F.entry_zip_next (adi G D1 D2 hz hTI hTO zi l1 l2 le fun h' tk e hk he => ?_) (F.args_zip_next_1 _))))
  obtain ⟨o, ho, hc⟩ := he
  refine wpAny_bind (wpAny_isInstance (T := "StopIteration") (b := true) ⟨o, ho, hc⟩ isSubtype_stop ?_)
  exact wpAny_pure (hQ _ _ hk)
/-! ### made -/
abbrev zzT (h : Heap) (z : Addr) (o2 : Obj) : Heap := (h.push o2).push { cls := .type "tuple", data := .seq #[.ref z, .ref h.objs.size] }
abbrev zzO (h : Heap) (z : Addr) (o2 : Obj) : Heap := (zzT h z o2).push { cls := .type "tuple", data := .seq #[.none, .none] }
abbrev zzZ (h : Heap) (z : Addr) (o2 : Obj) : Heap := (zzO h z o2).push { cls := .type "zip", data := .fields #[.none, .bool false, .bool false, .ref (h.push o2).objs.size, .ref (zzT h z o2).objs.size] }
theorem adk {z : Addr} {P : Heap → Prop} {v2 : Value} {o2 : Obj} {H2 : Heap → Prop} (self : ∀ (prog : Program) (w : World) (A : Around) (E : Value → Shared → Prop) (s : Shared) (Q : Value → Shared → Prop), P s.heap → Q (.ref z) s → wpAny (model prog w) A (pyIter (.ref z)) Q E s) (B2 : Begins v2 o2 H2) :
    Meets (Builtin.«zip.__new__» ⟨[.type "zip", .ref z, v2], []⟩) (fun _ R s => (P s.heap ∧ H2 s.heap) ∧
      R (.ok (.ret (.ref (zzO s.heap z o2).objs.size))) { s with heap := zzZ s.heap z o2 }) :=
  .of_wp fun prog w A R s h => by
    obtain ⟨hp, g, d, tk, os⟩ := s; obtain ⟨⟨h1, h2⟩, h⟩ := h
    have hsub := sub_zip
    have q1 : ∀ {A' : Around} {E : Value → Shared → Prop} {Q : Value → Shared → Prop}, Q (.ref z) ⟨hp, g, d, tk, os⟩ → wpAny (model prog w) A' (pyIter (.ref z)) Q E ⟨hp, g, d, tk, os⟩ :=
      fun q => self prog w _ _ ⟨hp, g, d, tk, os⟩ _ h1 q
    have q2 : ∀ {A' : Around} {E : Value → Shared → Prop} {Q : Value → Shared → Prop}, Q (.ref hp.objs.size) ⟨(hp.push o2), g, d, tk, os⟩ → wpAny (model prog w) A' (pyIter v2) Q E ⟨hp, g, d, tk, os⟩ :=
      fun q => B2.iter prog w _ _ ⟨hp, g, d, tk, os⟩ _ h2 q
    wp_walk using q1, q2
    exact ⟨_, rfl, h⟩
theorem R6 {z : Addr} {P : Heap → Prop} {v2 : Value} {o2 : Obj} {H2 : Heap → Prop} {Q : Value → Shared → Prop} (self : ∀ (prog : Program) (w : World) (A : Around) (E : Value → Shared → Prop) (s : Shared) (Q : Value → Shared → Prop), P s.heap → Q (.ref z) s → wpAny (model prog w) A (pyIter (.ref z)) Q E s) (B2 : Begins v2 o2 H2) (h1 : P s.heap) (h2 : H2 s.heap)
    (h : ∀ h', IsZip h' (s.heap.objs.size + 3) (s.heap.objs.size + 1) (s.heap.objs.size + 2) .none → IsTupOf2 h' (s.heap.objs.size + 1) (.ref z) (.ref s.heap.objs.size) →
      IsTupOf2 h' (s.heap.objs.size + 2) .none .none → h'.get? s.heap.objs.size = some o2 → h'.objs.size = s.heap.objs.size + 4 →
      (∀ c o, s.heap.get? c = some o → h'.get? c = some o) → Q (.ref (s.heap.objs.size + 3)) { s with heap := h' }) :
    wpAny (model prog w) A (call (.type "zip") [.ref z, v2]) Q E s := by
  refine callType_new F.called_zip (by decide) (F.typeCall_zip_2 _ _) (F.newCall_zip_2 _ _) (fun obj => F.args_object_init_3 obj _ _) F.entry_zip_new
    (adk self B2) ⟨⟨h1, h2⟩, ?_⟩
  have e1 : (s.heap.push o2).objs.size = s.heap.objs.size + 1 := Heap.size_push ..
  have e2 : (zzT s.heap z o2).objs.size = s.heap.objs.size + 2 := by rw [Heap.size_push, e1]
  have e3 : (zzO s.heap z o2).objs.size = s.heap.objs.size + 3 := by rw [Heap.size_push, e2]
  have e4 : (zzZ s.heap z o2).objs.size = s.heap.objs.size + 4 := by rw [Heap.size_push, e3]
  have gZ : (zzZ s.heap z o2).get? (zzO s.heap z o2).objs.size = some { cls := .type "zip", data := .fields #[.none, .bool false, .bool false, .ref (s.heap.push o2).objs.size, .ref (zzT s.heap z o2).objs.size] } := Heap.get?_push_size _ rfl
  have gO : (zzZ s.heap z o2).get? (zzT s.heap z o2).objs.size = some { cls := .type "tuple", data := .seq #[.none, .none] } := Heap.get?_push_of_some _ (Heap.get?_push_size _ rfl)
  have gT : (zzZ s.heap z o2).get? (s.heap.push o2).objs.size = some { cls := .type "tuple", data := .seq #[.ref z, .ref s.heap.objs.size] } := Heap.get?_push_of_some _ (Heap.get?_push_of_some _ (Heap.get?_push_size _ rfl))
  have g1 : (zzZ s.heap z o2).get? s.heap.objs.size = some o2 := Heap.get?_push_of_some _ (Heap.get?_push_of_some _ (Heap.get?_push_of_some _ (Heap.get?_push_size _ B2.free)))
  rw [e3, e2, e1] at gZ
  rw [e2] at gO
  rw [e1] at gT
  show _ ∧ _
  rw [e3]
  exact ⟨⟨_, gZ, rfl⟩, h _ gZ gT gO g1 e4 fun c o e => Heap.get?_push_of_some _ (Heap.get?_push_of_some _ (Heap.get?_push_of_some _ (Heap.get?_push_of_some _ e)))⟩
end
end PySem
end
section
set_option maxHeartbeats 2000000
namespace PySem
open Sem (wp)
theorem adl {prog : Program} {w : World} {A : Around} {E : Value → Shared → Prop} {s : Shared} {elts : List Expr} {kk : Nat} {pos : Pos} {O lQ gM U : Addr} {Q : Unit → Shared → Prop} (hz : qU s.heap O lQ gM) (hQ : ∀ h', qU h' O lQ gM → Heap.SameBut O s.heap h' → Q () { s with heap := h' }) :
    wpAny (model prog w) A (letOwnedTupleGo (.Tuple elts kk pos) (.ref O) (.ref U)) Q E s := by
  obtain ⟨f0, f1, hf, hz⟩ := hz
  unfold letOwnedTupleGo
  refine wpAny_bind (wpAny_load hz ?_)
  show wpAny _ _ (if (["enumerate", "zip", "dict_itemiterator", "dict_reverseitemiterator", "odict_iterator", "itertools.zip_longest", "itertools.pairwise"].contains "zip" &&
      (#[f0, .bool f1, .bool false, .ref lQ, .ref gM] : Array Value)[0]? == some (rawInt U)) = true then _ else _) Q E s
  split
  · refine wpAny_bind (wpAny_rule ?_)
    show wpAny _ _ (setField (.ref O) 0 .none) Q E s
    exact wpAny_setField_rec hz (by simp) fun h' hz' hs' => hQ h' ⟨.none, f1, .inl rfl, hz'⟩ hs'
  · exact wpAny_pure (hQ s.heap ⟨f0, f1, hf, hz⟩ (Heap.SameBut.refl _ _))
end PySem
namespace DM
open PySem L2
section
variable {X : Cx} {pins pl : List (Addr × Obj)} {σ : L2.St} {H : Hp} {s : Shared}
theorem aaz (I : Inv X pins σ H s) (h : ∀ p ∈ pl, s.heap.get? p.1 = some p.2 ∧ H p.1 = none ∧ p.1 ≠ X.env.locals ∧ p.1 ∉ X.fs ∧ ∀ v, p.2.data ≠ .cell v) : Inv X (pl ++ pins) σ H s := by
  have pp : ∀ p ∈ X.pn ++ (pl ++ pins), s.heap.get? p.1 = some p.2 ∧ H p.1 = none ∧ p.1 ≠ X.env.locals ∧ p.1 ∉ X.fs ∧ ∀ v, p.2.data ≠ .cell v := fun p hp => by
    rcases List.mem_append.mp hp with q | q
    · exact I.pin p (List.mem_append.mpr (.inl q))
    · rcases List.mem_append.mp q with q | q
      · exact h p q
      · exact I.pin p (List.mem_append.mpr (.inr q))
  exact { I with pin := pp }
theorem R7 (I : Inv X (pl ++ pins) σ H s) : Inv X pins σ H s := by
  have pp : ∀ p ∈ X.pn ++ pins, s.heap.get? p.1 = some p.2 ∧ H p.1 = none ∧ p.1 ≠ X.env.locals ∧ p.1 ∉ X.fs ∧ ∀ v, p.2.data ≠ .cell v := fun p hp => by
    rcases List.mem_append.mp hp with q | q
    · exact I.pin p (List.mem_append.mpr (.inl q))
    · exact I.pin p (List.mem_append.mpr (.inr (List.mem_append.mpr (.inr q))))
  exact { I with pin := pp }
theorem qu (I : Inv X (pl ++ pins) σ H s) {p : Addr × Obj} (h : p ∈ pl) : s.heap.get? p.1 = some p.2 ∧ H p.1 = none := ⟨(I.pin p (List.mem_append.mpr (.inr (List.mem_append.mpr (.inl h))))).1, (I.pin p (List.mem_append.mpr (.inr (List.mem_append.mpr (.inl h))))).2.1⟩
end
def aaA (b1 b2 b3 : Bool) (K : PySem.W.Frag) (a b c : Addr) : It :=
  ⟨fun i H => ∃ (xs ys zs : List V) (x y w : V), gY b1 K H a xs ∧ gY b2 K H b ys ∧ gY b3 K H c zs ∧ xs[i]? = some x ∧ ys[i]? = some y ∧ zs[i]? = some w,
    fun i H v H' => ∃ T U o o2 x y w, Nd o ∧ Nd o2 ∧ v = .ref U ∧ H T = none ∧ H U = none ∧ T ≠ U ∧ H' = upd (upd H T (.frz o (.tup [x, y]))) U (.frz o2 (.tup [.ref T, w])) ∧ (∀ xs, gY b1 K H a xs → xs[i]? = some x) ∧ (∀ ys, gY b2 K H b ys → ys[i]? = some y) ∧ ∀ zs, gY b3 K H c zs → zs[i]? = some w,
    fun i H => ∃ xs ys : List V, gY b1 K H a xs ∧ gY b2 K H b ys ∧ min xs.length ys.length = i⟩
theorem aaB {P : Program} {w : World} {K : PySem.W.Frag} {elts : List Expr} {kk : Nat} {tpos : Pos} (b1 b2 b3 : Bool) (a b c O lQ gM i3 z TI TO i1 i2 : Addr) (G : ZZ O lQ gM i3 z TI TO i1 i2 [i1, a] [i2, b] [i3, c]) (h1 : a ≠ i1) (h2 : b ≠ i2) (h3 : c ≠ i3) :
    Turn P w K (.Tuple elts kk tpos) (aaA b1 b2 b3 K a b c) [O, lQ, gM, i3, z, TI, TO, i1, i2] O (fun i h => qU h O lQ gM ∧ IsTupOf2 h lQ (.ref z) (.ref i3) ∧ (∃ x y, IsTupOf2 h gM x y) ∧ kW b3 h i3 c i ∧ Yk b1 b2 a b z TI TO i1 i2 i h) where
  mem := by simp
  obj := fun i h st d hd => by
    obtain ⟨⟨f0, f1, _, hz⟩, hTI, ⟨x, y, hTO⟩, s3, st⟩ := st
    have e' : d = O ∨ d = lQ ∨ d = gM ∨ d = i3 ∨ d ∈ [z, TI, TO, i1, i2] := by simpa using hd
    rcases e' with q | q | q | q | q
    · rw [q]; exact ⟨_, hz, fun v q => nomatch q⟩
    · rw [q]; exact ⟨_, hTI, fun v q => nomatch q⟩
    · rw [q]; exact ⟨_, hTO, fun v q => nomatch q⟩
    · rw [q]; exact cZ s3
    · exact st.obj d q
  keep := fun i h h' st k => by
    obtain ⟨⟨f0, f1, hf, hz⟩, hTI, ⟨x, y, hTO⟩, s3, st⟩ := st
    exact ⟨⟨f0, f1, hf, k O (by simp) _ hz⟩, k lQ (by simp) _ hTI, ⟨x, y, k gM (by simp) _ hTO⟩, fH s3 fun o q => k i3 (by simp) o q, st.keep fun d hd => k d (by
      have e' : d = z ∨ d = TI ∨ d = TO ∨ d = i1 ∨ d = i2 := by simpa using hd
      rcases e' with q | q | q | q | q <;> simp [q])⟩
  item := by
    intro X hP hw hK hc i pins s σ H E I hf st hg
    subst hP hw hK
    obtain ⟨stO, stI, stT, st3, st⟩ := st
    obtain ⟨xs, ys, zs, x, y, wz, hqx, hqy, WW, hx, hy, hw⟩ := hg
    obtain ⟨its, rv, p1⟩ := cY I hqx
    obtain ⟨its2, rv2, p2⟩ := cY I hqy
    obtain ⟨yQ, rv3, p3⟩ := cY I WW
    obtain ⟨u, hu, ru⟩ := rv.get hx
    obtain ⟨u2, hu2, ru2⟩ := rv2.get hy
    obtain ⟨u3, hu3, ru3⟩ := rv3.get hw
    have q1 : i < its.toArray.size := by simpa using (List.getElem?_eq_some_iff.mp hu).1
    have q2 : i < its2.toArray.size := by simpa using (List.getElem?_eq_some_iff.mp hu2).1
    have q3 : i < yQ.toArray.size := by simpa using (List.getElem?_eq_some_iff.mp hu3).1
    have lts := st.lt
    have lO : O < s.heap.objs.size := by obtain ⟨f0, f1, _, e⟩ := stO; exact Heap.lt_size e
    have lTI : lQ < s.heap.objs.size := Heap.lt_size stI
    have lTO : gM < s.heap.objs.size := by obtain ⟨x, y, e⟩ := stT; exact Heap.lt_size e
    have li3 : i3 < s.heap.objs.size := by obtain ⟨o, e, _⟩ := cZ st3; exact Heap.lt_size e
    obtain ⟨n1', n2', n3', n4', n5', n6', n7'⟩ := G.TIn
    refine R5 G (bU (prog := X.prog) (w := X.w) (A := X.A.in1.in1) (I.ok.hd hc) b1 i1 a h1 its.toArray) (bU (prog := X.prog) (w := X.w) (A := X.A.in1.in1) (I.ok.hd hc) b2 i2 b h2 its2.toArray) (bU (prog := X.prog) (w := X.w) (A := X.A.in1) (I.ok.hd hc) b3 i3 c h3 yQ.toArray) stO stI stT ⟨st.z, st.ti, st.to, ⟨st.s1, p1⟩, ⟨st.s2, p2⟩⟩ ⟨st3, p3⟩ q1 q2 q3 fun x1 x2 x3 h' tk y1 y2 y3 z1 o1 zi t3 new new2 sz kk => ⟨_, rfl, ?_⟩
    refine adl z1 fun h6 z6 b6 => ?_
    replace b6 : Heap.SameBut O h' h6 := b6
    have up6 : ∀ c o, c ≠ O → h'.get? c = some o → h6.get? c = some o := fun c o q1 q => b6.extBut c o q1 q
    have e1 : x1 = u := by
      rw [List.getElem?_toArray, hu] at y1
      exact (Option.some.inj y1).symm
    have e2 : x2 = u2 := by
      rw [List.getElem?_toArray, hu2] at y2
      exact (Option.some.inj y2).symm
    have e3 : x3 = u3 := by
      rw [List.getElem?_toArray, hu3] at y3
      exact (Option.some.inj y3).symm
    subst e1 e2 e3
    have hn1 : H s.heap.objs.size = none := I.hok.fresh (Nat.le_refl _)
    have hn2 : H (s.heap.objs.size + 1) = none := I.hok.fresh (Nat.le_succ _)
    have ag6 : s.heap.objs.size ≠ s.heap.objs.size + 1 := Nat.ne_of_lt (Nat.lt_succ_self _)
    have g1 : IsTupOf2 h6 s.heap.objs.size x1 x2 := up6 _ _ (Nat.ne_of_gt lO) new
    have g2 : IsTupOf2 h6 (s.heap.objs.size + 1) (.ref s.heap.objs.size) x3 := up6 _ _ (Nat.ne_of_gt (Nat.lt_succ_of_lt lO)) new2
    have up : ∀ c o, c ∉ [O, gM, i3, z, TO, i1, i2] → s.heap.get? c = some o → h6.get? c = some o := fun c o hc q => up6 c o (fun w => hc (by simp [w])) (kk c o (fun w => hc (by simp [w])) (fun w => hc (by simp [w])) (fun w => hc (by simp [w])) (fun w => hc (by simp [w])) (fun w => hc (by simp [w])) (fun w => hc (by simp [w])) (fun w => hc (by simp [w])) q)
    have I1 : Inv X pins σ (upd (upd H s.heap.objs.size (.frz (eY [x1, x2]) (.tup [x, y]))) (s.heap.objs.size + 1) (.frz (eY [.ref s.heap.objs.size, x3]) (.tup [.ref s.heap.objs.size, wz]))) { s with heap := h6, toks := tk } := yH (ch := [O, gM, i3, z, TO, i1, i2]) I
      up (fun c hc => hf c (by
        have e' : c = O ∨ c = gM ∨ c = i3 ∨ c = z ∨ c = TO ∨ c = i1 ∨ c = i2 := by simpa using hc
        rcases e' with q | q | q | q | q | q | q <;> simp [q])) (fun b v q => by
        rw [upd_ne (ne_of_none q hn2), upd_ne (ne_of_none q hn1)]; exact q) (fun b v n q => by
        by_cases hb : b = s.heap.objs.size + 1
        · subst hb
          rw [upd_same] at q
          cases q
          exact ⟨Nat.le_succ _, g2, by show 2 ≤ sizeLine; decide, [.ref s.heap.objs.size, x3], .cons rfl (.cons ru3 .nil), ⟨_, g2, rfl, _, rfl⟩⟩
        · rw [upd_ne hb] at q
          by_cases hb1 : b = s.heap.objs.size
          · subst hb1
            rw [upd_same] at q
            cases q
            exact ⟨Nat.le_refl _, g1, by show 2 ≤ sizeLine; decide, [x1, x2], .cons ru (.cons ru2 .nil), ⟨_, g1, rfl, _, rfl⟩⟩
          · rw [upd_ne hb1, n] at q
            cases q)
    have ziw : Yk b1 b2 a b z TI TO i1 i2 (i + 1) h' := ⟨zi.z, zi.ti, zi.to, zi.s1.1, zi.s2.1⟩
    have oI := G.oI
    have eO : ∀ c ∈ [z, TI, TO, i1, i2], c ≠ O := fun c hc w => oI (by
      subst w
      have e' : c = z ∨ c = TI ∨ c = TO ∨ c = i1 ∨ c = i2 := by simpa using hc
      rcases e' with q | q | q | q | q <;> simp [q])
    have Oi3 : i3 ≠ O := fun w => G.o3 (w ▸ G.m3)
    obtain ⟨u1, u2, o1⟩ := o1
    refine ⟨.ref (s.heap.objs.size + 1), _, I1, rfl, ⟨s.heap.objs.size, s.heap.objs.size + 1, _, _, x, y, wz, jA _, jA _, rfl, hn1, hn2, ag6, rfl, fun l hl => by rw [ju I hl hqx]; exact hx, fun l hl => by rw [ju I hl hqy]; exact hy, fun l hl => by rw [ju I hl WW]; exact hw⟩, ⟨z6, up _ _ (by simp [n1', n2', n3', n4', n5', n6', n7']) stI, ⟨u1, u2, up6 _ _ G.oT.symm o1⟩, fH t3.1 fun o q => up6 _ _ Oi3 q, ziw.keep fun c hc o q => up6 _ _ (eO c hc) q⟩, fun c hcm => ?_⟩
    have hlt : c < s.heap.objs.size := by
      have e' : c = O ∨ c = lQ ∨ c = gM ∨ c = i3 ∨ c ∈ [z, TI, TO, i1, i2] := by simpa using hcm
      rcases e' with q | q | q | q | q
      · rw [q]; exact lO
      · rw [q]; exact lTI
      · rw [q]; exact lTO
      · rw [q]; exact li3
      · exact lts c q
    show upd (upd H s.heap.objs.size _) (s.heap.objs.size + 1) _ c = none
    rw [upd_ne (Nat.ne_of_lt (Nat.lt_succ_of_lt hlt)), upd_ne (Nat.ne_of_lt hlt)]
    exact (hf c hcm).1
  done := by
    intro X hP hw hK hc i pins s σ H E I hf st hg
    subst hP hw hK
    obtain ⟨stO, stI, stT, st3, st⟩ := st
    obtain ⟨xs, ys, hqx, hqy, hend⟩ := hg
    obtain ⟨its, rv, p1⟩ := cY I hqx
    obtain ⟨its2, rv2, p2⟩ := cY I hqy
    have l1 := rv.length
    have l2 := rv2.length
    refine Ad G (bU (prog := X.prog) (w := X.w) (A := X.A.in1.in1) (I.ok.hd hc) b1 i1 a h1 its.toArray) (bU (prog := X.prog) (w := X.w) (A := X.A.in1.in1) (I.ok.hd hc) b2 i2 b h2 its2.toArray) stO stI stT ⟨st.z, st.ti, st.to, ⟨st.s1, p1⟩, ⟨st.s2, p2⟩⟩ (by simp only [List.size_toArray]; omega) (by simp only [List.size_toArray]; omega) (by simp only [List.size_toArray]; omega) fun h' tk kk => ⟨rfl, ?_⟩
    exact I.turnedL (ch := [O, z, TO, i1, i2]) (fun c o hc q => kk c o (fun e => hc (by simp [e])) (fun e => hc (by simp [e])) (fun e => hc (by simp [e])) (fun e => hc (by simp [e])) (fun e => hc (by simp [e])) q) (fun c hc => hf c (by
      have e' : c = O ∨ c = z ∨ c = TO ∨ c = i1 ∨ c = i2 := by simpa using hc
      rcases e' with q | q | q | q | q <;> simp [q]))
  self := fun A i s Q E st h => yG P w A E s Q st.1 h
def iZZ (K : PySem.W.Frag) (ta : TA) (te : TE) : TI := fun σ H R => ta σ H fun vs H1 => ∃ b1 b2 a b xs ys, vs = [.ref a, .ref b] ∧ gY b1 K H1 a xs ∧ gY b2 K H1 b ys ∧ te σ H1 fun v H2 => ∃ b3 c zs, v = .ref c ∧ gY b3 K H2 c zs ∧ R (aaA b1 b2 b3 K a b c) H2
section
variable {X : Cx} {pins : List (Addr × Obj)} {σ : L2.St} {H H2 : Hp} {s : Shared}
theorem zp {b : Bool} {c d : Addr} {zs : List V} (I : Inv X pins σ H s) (h : gY b X.K H2 c zs) (hd : H2 d = none) (hN : s.heap.objs.size ≤ d) : d ≠ c := by
  intro e
  subst e
  have rd : ∀ u, Rd H2 d u → False := fun u r => by
    rcases r with r | ⟨o, r⟩
    · rw [hd] at r; cases r
    · rw [hd] at r; cases r
  cases b
  · rcases h with h | ⟨o, its, n, hk, _⟩
    · exact rd _ h
    · exact absurd (Heap.lt_size (I.kIn d o hk)) (Nat.not_lt.mpr hN)
  · rcases h with h | ⟨o, its, n, hk, _⟩
    · exact rd _ h
    · exact absurd (Heap.lt_size (I.kIn d o hk)) (Nat.not_lt.mpr hN)
theorem afa {e e2 e3 : Expr} {elts : List Expr} {kk : Nat} {ta : TA} {te : TE} {p p2 pos pos2 tpos : Pos} (hg : Gl X "zip") (hm : X.mg "zip" = none) (ha : PA X [e, e2] ta) (he : PE X e3 te)
    (hs : starEach [e, e2] X.env = (false, eval e X.env) :: starEach [e2] X.env) (hpl : (backTo pos (starEach [e2] X.env)).any (·.1) = false)
    (hsO : starEach [.Call (.Name "zip" p) [e, e2] [] pos, e3] X.env = (false, eval (.Call (.Name "zip" p) [e, e2] [] pos) X.env) :: starEach [e3] X.env) (hs3 : starEach [e3] X.env = (false, eval e3 X.env) :: starEach [] X.env) (adn : (backTo pos2 (starEach [e3] X.env)).any (·.1) = false) :
    PI X (.Tuple elts kk tpos) (.Call (.Name "zip" p2) [.Call (.Name "zip" p) [e, e2] [] pos, e3] [] pos2) (iZZ X.K ta te) := by
  refine ⟨fun pins s σ H R I h => ?_⟩
  refine PyProof.Rows.Call_ (ld_blt I hg hm PyProof.Rows.boot_zip (PyProof.Rows.callWith_type1 ?_ hsO adn))
  refine PyProof.Rows.args_cons (Hh (R := fun b1 b2 a b H1 => te σ H1 fun v H2 => ∃ b3 c zs, v = .ref c ∧ gY b3 X.K H2 c zs ∧ R (aaA b1 b2 b3 X.K a b c) H2) hg hm ha hs hpl I h fun b1 b2 a b H1 s1 s2 I1 I2 q la lb hsz hz hTI hTO g1 g2 => ?_) hsO
  generalize hN : s1.heap.objs.size = N at *
  obtain ⟨ux, uy, hTO⟩ := hTO
  obtain ⟨o1, go1, no1⟩ := cZ g1
  obtain ⟨o2, go2, no2⟩ := cZ g2
  have IP : Inv X ([(N + 4, ({ cls := .type "zip", data := .fields #[.none, .bool false, .bool false, .ref (N + 2), .ref (N + 3)] } : Obj)), (N + 2, ({ cls := .type "tuple", data := .seq #[.ref N, .ref (N + 1)] } : Obj)), (N + 3, ({ cls := .type "tuple", data := .seq #[ux, uy] } : Obj)), (N, o1), (N + 1, o2)] ++ pins) σ H1 s2 := aaz I2 (fun pr hp => by
    have hp : pr = (N + 4, ({ cls := .type "zip", data := .fields #[.none, .bool false, .bool false, .ref (N + 2), .ref (N + 3)] } : Obj)) ∨ pr = (N + 2, ({ cls := .type "tuple", data := .seq #[.ref N, .ref (N + 1)] } : Obj)) ∨ pr = (N + 3, ({ cls := .type "tuple", data := .seq #[ux, uy] } : Obj)) ∨ pr = (N, o1) ∨ pr = (N + 1, o2) := by simpa using hp
    have fp : ∀ c, N ≤ c → H1 c = none ∧ c ≠ X.env.locals ∧ c ∉ X.fs := fun c hc => by
      have f := V9 I1 hN hc
      exact ⟨f.1, f.2.1, f.2.2.1⟩
    rcases hp with rfl | rfl | rfl | rfl | rfl
    · obtain ⟨f1, f2, f3⟩ := fp (N + 4) (Nat.le_add_right _ _)
      exact ⟨hz, f1, f2, f3, fun v q => nomatch q⟩
    · obtain ⟨f1, f2, f3⟩ := fp (N + 2) (Nat.le_add_right _ _)
      exact ⟨hTI, f1, f2, f3, fun v q => nomatch q⟩
    · obtain ⟨f1, f2, f3⟩ := fp (N + 3) (Nat.le_add_right _ _)
      exact ⟨hTO, f1, f2, f3, fun v q => nomatch q⟩
    · obtain ⟨f1, f2, f3⟩ := fp N (Nat.le_refl _)
      exact ⟨go1, f1, f2, f3, no1⟩
    · obtain ⟨f1, f2, f3⟩ := fp (N + 1) (Nat.le_add_right _ _)
      exact ⟨go2, f1, f2, f3, no2⟩)
  refine PyProof.Rows.args_cons (thn (he.run _ _ _ _ _ IP q) fun u s3 ⟨v, H2, IP2, rv, b3, c, zs, ev, WW, qR⟩ => PyProof.Rows.args_nil ?_) hs3
  subst ev
  cases rv
  obtain ⟨yQ, rv3, p3⟩ := cY IP2 WW
  have I3 := R7 IP2
  obtain ⟨k1, n1⟩ := qu IP2 (p := (N + 4, ({ cls := .type "zip", data := .fields #[.none, .bool false, .bool false, .ref (N + 2), .ref (N + 3)] } : Obj))) (by simp)
  obtain ⟨k2, n2⟩ := qu IP2 (p := (N + 2, ({ cls := .type "tuple", data := .seq #[.ref N, .ref (N + 1)] } : Obj))) (by simp)
  obtain ⟨k3, n3⟩ := qu IP2 (p := (N + 3, ({ cls := .type "tuple", data := .seq #[ux, uy] } : Obj))) (by simp)
  obtain ⟨k4, n4⟩ := qu IP2 (p := (N, o1)) (by simp)
  obtain ⟨k5, n5⟩ := qu IP2 (p := (N + 1, o2)) (by simp)
  have zs3 : qU s3.heap (N + 4) (N + 2) (N + 3) := qU.of_zip k1
  refine R6 (P := fun h => qU h (N + 4) (N + 2) (N + 3)) yG (fG b3 c yQ.toArray) zs3 p3 fun h' hz' ag7 Cy g3 hsz' hk => wpAny_pyIter_zip hz' ?_
  have I4 : Inv X pins σ H2 { s3 with heap := h' } := I3.kept (t' := s3.toks) hk
  have lz : N + 4 < s3.heap.objs.size := Heap.lt_size k1
  have lc := jB p3
  have c1 := zp I1 WW n1 (by rw [hN]; exact Nat.le_add_right _ _)
  have c2 := zp I1 WW n2 (by rw [hN]; exact Nat.le_add_right _ _)
  have c3 := zp I1 WW n3 (by rw [hN]; exact Nat.le_add_right _ _)
  have c4 := zp I1 WW n4 (by rw [hN]; exact Nat.le_refl _)
  have c5 := zp I1 WW n5 (by rw [hN]; exact Nat.le_add_right _ _)
  have fpO : ∀ d, s3.heap.objs.size ≤ d → FpOk X pins H2 d := fun d hd => I3.fpOk hd (I3.hok.fresh hd)
  have fpI : ∀ d, N ≤ d → H2 d = none → FpOk X pins H2 d := fun d hd hn => I1.fpOk (by rw [hN]; exact hd) hn
  generalize hM : s3.heap.objs.size = M at *
  have la' : @LT.lt Nat instLTNat a N := la
  have lb' : @LT.lt Nat instLTNat b N := lb
  have lz' : @LT.lt Nat instLTNat (N + 4) M := lz
  have lc' : @LT.lt Nat instLTNat c M := lc
  refine ⟨M + 3, [M + 3, M + 1, M + 2, M, N + 4, N + 2, N + 3, N, N + 1], _, _, H2, rfl, I4, aaB b1 b2 b3 a b c (M + 3) (M + 1) (M + 2) M (N + 4) (N + 2) (N + 3) N (N + 1) ?_ (Nat.ne_of_lt la) (Nat.ne_of_lt (Nat.lt_succ_of_lt lb)) (Nat.ne_of_lt lc), ⟨qU.of_zip hz', ag7, ⟨_, _, Cy⟩, iy g3, Yk.keep (h := s3.heap) ⟨zs3, k2, ⟨_, _, k3⟩, fH g1 fun o q => by rw [go1] at q; cases q; exact k4, fH g2 fun o q => by rw [go2] at q; cases q; exact k5⟩ fun c _ o q => hk c o q⟩, fun d hd => ?_, qR⟩
  · have ni : ∀ d : Nat, M ≤ d → d ∉ (N + 4 : Nat) :: (N + 2) :: (N + 3) :: ([N, a] ++ [N + 1, b]) := fun d hd hh => by
      have e' : @Eq Nat d (N + 4) ∨ @Eq Nat d (N + 2) ∨ @Eq Nat d (N + 3) ∨ @Eq Nat d N ∨ @Eq Nat d a ∨ @Eq Nat d (N + 1) ∨ @Eq Nat d b := by simpa using hh
      omega
    have n2c : ∀ d : Nat, d ≠ M → d ≠ c → d ∉ [M, c] := fun d h1 h2 hh => by
      have e' : d = M ∨ d = c := by simpa using hh
      rcases e' with e | e
      · exact h1 e
      · exact h2 e
    exact {
      S := zip_sep2 (N := N) (fp1 := [a]) (fp2 := [b]) (fun c hc => by rw [List.mem_singleton.mp hc]; exact la) (fun c hc => by rw [List.mem_singleton.mp hc]; exact lb)
      oI := ni (M + 3) (by omega)
      tI := ni (M + 2) (by omega)
      iI := ni M (Nat.le_refl _)
      TIn := ⟨show (M + 1 : Nat) ≠ N + 4 by omega, show (M + 1 : Nat) ≠ N + 3 by omega, show (M + 1 : Nat) ≠ N by omega, show (M + 1 : Nat) ≠ N + 1 by omega, show (M + 1 : Nat) ≠ M + 3 by omega, show (M + 1 : Nat) ≠ M + 2 by omega, show (M + 1 : Nat) ≠ M by omega⟩
      m3 := by simp
      o3 := n2c (M + 3) (by omega) (fun e => absurd (show @LT.lt Nat instLTNat c (M + 3) by omega) (by rw [e]; exact Nat.lt_irrefl _))
      t3 := n2c (M + 2) (by omega) (fun e => absurd (show @LT.lt Nat instLTNat c (M + 2) by omega) (by rw [e]; exact Nat.lt_irrefl _))
      n3 := ⟨n2c (N + 4) (by omega) c1, n2c (N + 3) (by omega) c3, n2c N (by omega) c4, n2c (N + 1) (by omega) c5⟩
      oT := show (M + 3 : Nat) ≠ M + 2 by omega }
  · have e' : d = M + 3 ∨ d = M + 1 ∨ d = M + 2 ∨ d = M ∨ d = N + 4 ∨ d = N + 2 ∨ d = N + 3 ∨ d = N ∨ d = N + 1 := by simpa using hd
    rcases e' with z | z | z | z | z | z | z | z | z <;> rw [z]
    · exact fpO _ (Nat.le_add_right _ _)
    · exact fpO _ (Nat.le_add_right _ _)
    · exact fpO _ (Nat.le_add_right _ _)
    · exact fpO _ (Nat.le_refl _)
    · exact fpI _ (Nat.le_add_right _ _) n1
    · exact fpI _ (Nat.le_add_right _ _) n2
    · exact fpI _ (Nat.le_add_right _ _) n3
    · exact fpI _ (Nat.le_refl _) n4
    · exact fpI _ (Nat.le_add_right _ _) n5
end
end DM
end
section
set_option maxHeartbeats 1000000
namespace DM
open PySem PySem.Spec PyProof.Rows L2
def lstK : En → Bool
  | .fr (.tup _) => false
  | _ => true
theorem Mr {K : PySem.W.Frag} {F H : Hp} {e : En} {x : V} {xs : List D} (r : Rp K F H e.fz x) (h : e.fz.items = some xs) : ∃ a vs, x = .ref a ∧ gY (lstK e.fz) K F a vs ∧ aV K F xs vs := by
  have key : ∀ e' : En, Rp K F H e' x → (∀ ys, e' ≠ .ol ys) → e'.items = some xs → ∃ a vs, x = .ref a ∧ gY (lstK e') K F a vs ∧ aV K F xs vs := fun e' r' hn h' => by
    cases e' with
    | fr d =>
      cases d with
      | lst k =>
        have r' : ∃ a vs, x = .ref a ∧ F a = some (.lst vs) ∧ aV K F k vs := by simpa only [Rp, Dq] using r'
        obtain ⟨a, vs, h1, h2, h3⟩ := r'
        cases h'
        exact ⟨a, vs, h1, .inl (.inl h2), h3⟩
      | tup k =>
        obtain ⟨a, vs, h1, h2, h3⟩ := mJ (xs := xs) r' h'
        exact ⟨a, vs, h1, h2.JC, h3⟩
      | _ => cases h'
    | ol ys => exact absurd rfl (hn ys)
    | od _ _ => cases h'
    | on _ _ => cases h'
    | ex _ => cases h'
    | pA _ => cases h'
    | d8 k => cases h'; obtain ⟨a, vs, h1, h2, h3⟩ := r'; exact ⟨a, vs, h1, h2, h3⟩
  refine key e.fz r (fun ys z => ?_) h
  cases e <;> cases z
theorem SM.zu {C : Cs} {o : Og} {F H : Hp} {σ : L2.St} {ρ : aq} {T : Tm} {e0 : En} {v : V} {ds : List D} (S : SM C o F H σ ρ T) (h : (Val.en e0.fz, v) ∈ T) (hd : e0.fz.items = some ds) :
    ∃ a vs, v = .ref a ∧ gY (lstK e0.fz) C.K F a vs ∧ aV C.K F ds vs := Mr (S.Gi h rfl) hd
theorem afc {K : PySem.W.Frag} {F0 : Hp} {b1 b2 b3 : Bool} {a b c : Addr} {vs ws us : List V} {ds es gs : List D} (h : gY b1 K F0 a vs) (d : aV K F0 ds vs) (h2 : gY b2 K F0 b ws) (d2 : aV K F0 es ws) (h3 : gY b3 K F0 c us) (d3 : aV K F0 gs us) (le : (pairs ds es).length ≤ gs.length) : YB K F0 (aaA b1 b2 b3 K a b c) (pairs (pairs ds es) gs) where
  go := fun i F H e1 e2 hi => by
    rw [bJ] at hi
    have le' := le
    rw [bJ] at hi le'
    rw [d.length, d2.length] at hi le'
    rw [d3.length] at hi le'
    have i1 : i < vs.length := by omega
    have i2 : i < ws.length := by omega
    have i3 : i < us.length := by omega
    exact ⟨vs, ws, us, vs[i], ws[i], us[i], aW (e1.trans e2) h, aW (e1.trans e2) h2, aW (e1.trans e2) h3, by simp [i1], by simp [i2], by simp [i3]⟩
  stop := fun F H e1 e2 => ⟨vs, ws, aW (e1.trans e2) h, aW (e1.trans e2) h2, by
    have l := le
    rw [bJ] at l ⊢
    rw [bJ]
    rw [d.length, d2.length] at l ⊢
    omega⟩
  yld := fun i F H x H' e1 e2 hi y => by
    obtain ⟨T, U, ob, ob2, u, u2, u3, nd, nd2, rfl, hT, hU, hne, rfl, y1, y2, y3⟩ := y
    obtain ⟨d', k1, k2⟩ := d.wO (y1 vs (aW (e1.trans e2) h))
    obtain ⟨d'', k3, k4⟩ := d2.wO (y2 ws (aW (e1.trans e2) h2))
    obtain ⟨d3', k5, k6⟩ := d3.wO (y3 us (aW (e1.trans e2) h3))
    obtain ⟨g, q⟩ := rW e2 nd hT (Dq.mono e1 _ _ k2) (Dq.mono e1 _ _ k4)
    obtain ⟨g2, q2⟩ := rW (T := U) g.sub nd2 (by rw [upd_ne (Ne.symm hne)]; exact hU) q (Dq.mono g.f _ _ (Dq.mono e1 _ _ k6))
    exact ⟨_, _, j5 (j5 k1 k3) k5, g.trans g2, q2⟩
def zA (f g h : aq → R Val) (ρ : aq) : R (List D) := (bY f ρ).bind fun ds ρ1 => (bY g ρ1).bind fun es ρ2 => (bY h ρ2).bind fun gs ρ3 => if (pairs ds es).length ≤ gs.length then .ok (pairs (pairs ds es) gs) ρ3 else .bad
section
variable {C : Cs} {Z : ZX}
theorem XS {te ue ve : TE} {f g q : aq → R Val} (h : Impl C Z te f) (h' : Impl C Z ue g) (h'' : Impl C Z ve q) : qQ C Z (iZZ C.K (tCons te (tCons ue tNil)) ve) (zA f g q) := by
  intro o F H σ ρ T Q S w
  unfold zA at w
  rw [aH] at w
  refine eE h S (aG w (fun ds ρ1 h1 F1 H1 v e0 S1 hd => ?_) fun _ _ h => h)
  rw [aH] at h1
  refine eE h' S1 (aG h1 (fun es ρ2 h2 F2 H2 v2 e1 S2 hd2 => ?_) fun _ _ h F' H' s => h F' H' s.drop)
  rw [aH] at h2
  obtain ⟨a, vs, rfl, k1, k2⟩ := S2.zu (v := v) (by simp) hd
  obtain ⟨a2, ws, rfl, k3, k4⟩ := S2.zu (v := v2) (by simp) hd2
  refine ⟨_, _, a, a2, vs, ws, rfl, aW S2.sub k1, aW S2.sub k3, eE h'' S2 (aG h2 (fun gs ρ3 h3 F3 H3 v3 e2 S3 hd3 => ?_) fun _ _ h F' H' s => h F' H' s.drop.drop)⟩
  obtain ⟨b, vs', eb, m1, m2⟩ := S3.zu (v := .ref a) (by simp) hd
  obtain ⟨b2, ws', eb2, m3, m4⟩ := S3.zu (v := .ref a2) (by simp) hd2
  obtain ⟨c, us, rfl, m5, m6⟩ := S3.zu (v := v3) (by simp) hd3
  cases eb
  cases eb2
  by_cases le : (pairs ds es).length ≤ gs.length
  · rw [if_pos le] at h3
    exact ⟨_, c, us, rfl, aW S3.sub m5, h3 F3 H3 _ S3.drop.drop.drop (afc m1 m2 m3 m4 m5 m6 le)⟩
  · rw [if_neg le] at h3
    exact h3.elim
end
section
variable {XR : jC} {M : Wd} {X : Cx} {C : Cs} {W : WX} {k : Nat} {N : List Str} {nm : List (Str × NameKind)} {fb : Str → Bool}
variable {e e2 e3 : Expr} {es : List Expr} {f fa fc : aq → R Val} {pos p tpos p2 pos2 : Pos} {kk : Nat}
theorem JI.zz (G : Ctx M X C W k N nm fb) (hm : M.mg "zip" = none) (hg : zU nm "zip" = true) (h : JE XR X C W e f) (h' : JE XR X C W e2 fa) (h'' : JE XR X C W e3 fc)
    (hs : starEach [e, e2] X.env = (false, eval e X.env) :: starEach [e2] X.env := by rfl) (hs2 : starEach [e2] X.env = [(false, eval e2 X.env)] := by rfl)
    (hpl : (backTo pos (starEach [e2] X.env)).any (·.1) = false := by rfl)
    (hsO : starEach [.Call (.Name "zip" p) [e, e2] [] pos, e3] X.env = (false, eval (.Call (.Name "zip" p) [e, e2] [] pos) X.env) :: starEach [e3] X.env := by rfl) (hs3 : starEach [e3] X.env = (false, eval e3 X.env) :: starEach [] X.env := by rfl)
    (adn : (backTo pos2 (starEach [e3] X.env)).any (·.1) = false := by rfl) :
    JI XR X C W (.Tuple es kk tpos) (.Call (.Name "zip" p2) [.Call (.Name "zip" p) [e, e2] [] pos, e3] [] pos2) (zA f fa fc) := by
  obtain ⟨g1, _, _⟩ := eV G hg
  obtain ⟨t, h1, h2⟩ := h
  obtain ⟨t', k1, k2⟩ := h'
  obtain ⟨t'', k3, k4⟩ := h''
  refine ⟨_, afa g1 (by rw [G.hmg]; exact hm) (pa_cons h1 (pa_cons k1 pa_nil hs2) hs) k3 hs hpl hsO hs3 adn, ?_⟩
  rw [G.hK]
  exact XS h2 k2 k4
end
end DM
end
section
set_option maxHeartbeats 2000000
namespace PySem
open Sem (wp)
open AutoSeq1 (wpAny_loadPart')
theorem F.Ms : typeLookup (.type "zip") "__len__" = pure none := by rw [typeLookup_type, builtinLookup_eq_fast]; kernel_rfl
theorem F.Jl : typeLookup (.type "zip") "__length_hint__" = pure none := by rw [typeLookup_type, builtinLookup_eq_fast]; kernel_rfl
structure SJ (P1 P2 : Nat → Value → Prop) (N0 : Nat) (L : List (Addr × Value × Value)) (i : Nat) (h : Heap) : Prop where
  len : L.length = i
  at_ : ∀ (j : Nat) (e : Addr × Value × Value), L[j]? = some e → P1 j e.2.1 ∧ P2 j e.2.2 ∧ @LE.le Nat instLENat N0 e.1 ∧ IsTupOf2 h e.1 e.2.1 e.2.2
  asc : L.Pairwise fun e e' => @LT.lt Nat instLTNat e.1 e'.1
def fO (L : List (Addr × Value × Value)) : Array Value := (L.map fun e => Value.ref e.1).toArray
section
variable {prog : Program} {w : World} {A : Around} {R : Result → Shared → Prop} {E : Value → Shared → Prop} {s : Shared} {z TI TO i1 i2 : Addr} {fp1 fp2 : List Addr} {n1 n2 n : Nat} {P1 P2 : Nat → Value → Prop} {St1 St2 : Nat → Heap → Prop}
theorem SJ.keep {N0 i : Nat} {L : List (Addr × Value × Value)} {h h' : Heap} (x : SJ P1 P2 N0 L i h) {ch : List Addr} (lt : ∀ b ∈ ch, @LT.lt Nat instLTNat b N0) (k : ∀ b o, b ∉ ch → h.get? b = some o → h'.get? b = some o) : SJ P1 P2 N0 L i h' :=
  ⟨x.len, fun j e he => by
    obtain ⟨a, b, c, d⟩ := x.at_ j e he
    exact ⟨a, b, c, k _ _ (fun m => absurd (lt _ m) (Nat.not_lt.mpr c)) d⟩, x.asc⟩
theorem SJ.snoc {N0 i : Nat} {L : List (Addr × Value × Value)} {h : Heap} (x : SJ P1 P2 N0 L i h) {T : Addr} {x1 x2 : Value} (h1 : P1 i x1) (h2 : P2 i x2) (hT : @LE.le Nat instLENat N0 T) (hi : IsTupOf2 h T x1 x2) (lt : ∀ e ∈ L, @LT.lt Nat instLTNat e.1 T) : SJ P1 P2 N0 (L ++ [(T, x1, x2)]) (i + 1) h :=
  ⟨by rw [List.length_append, x.len]; rfl, fun j e he => by
    by_cases c : j < L.length
    · rw [List.getElem?_append_left c] at he
      exact x.at_ j e he
    · rw [List.getElem?_append_right (by omega)] at he
      have e0 : j - L.length = 0 := by
        have := (List.getElem?_eq_some_iff.mp he).1
        rw [List.length_singleton] at this
        omega
      rw [e0] at he
      cases he
      have : j = i := by rw [← x.len]; omega
      rw [this]
      exact ⟨h1, h2, hT, hi⟩, List.pairwise_append.mpr ⟨x.asc, List.pairwise_singleton _ _, fun a ha b hb => by
      rw [List.mem_singleton.mp hb]
      exact lt a ha⟩⟩
theorem aaC (S : ZipSep2 z TI TO i1 i2 fp1 fp2) (D1 : Draws prog w A.in1.in1 i1 fp1 n1 P1 St1) (D2 : Draws prog w A.in1.in1 i2 fp2 n2 P2 St2) (Sl : Addr) (hSl : Sl ∉ z :: TI :: TO :: (fp1 ++ fp2)) (res : Value) (hm : n = min n1 n2) (hn : n ≤ sizeLine) {N0 : Nat} (lt0 : ∀ b ∈ [Sl, z, TO, i1, i2], @LT.lt Nat instLTNat b N0) :
    ∀ (k i : Nat) (s : Shared) (L : List (Addr × Value × Value)) (c : Nat), n - i = k → i ≤ n → Cj z TI TO i1 i2 St1 St2 i s.heap → s.heap.get? Sl = some { cls := .type "list", dict := none, data := .seq (fO L) c, slots := #[] } → SJ P1 P2 N0 L i s.heap → N0 ≤ s.heap.objs.size →
    (∀ h' tk L' c', (∀ b o, b ∉ [Sl, z, TO, i1, i2] → s.heap.get? b = some o → h'.get? b = some o) → h'.get? Sl = some { cls := .type "list", dict := none, data := .seq (fO L') c', slots := #[] } → SJ P1 P2 N0 L' n h' → R (.ok (.ret res)) { s with heap := h', toks := tk }) →
    codeAny (model prog w) A (.builtin "list.extend.loop" ⟨[.ref Sl, .ref z, res], []⟩) R s := by
  have eS : ∀ b ∈ z :: TI :: TO :: (fp1 ++ fp2), Sl ≠ b := fun b hb e => hSl (e ▸ hb)
  intro k
  induction k with
  | zero =>
    intro i s L c hk hi zi hS hL hN hR
    have hin : i = n := by omega
    subst hin
    refine codeAny_builtin F.entry_extend_loop ?_
    rw [Around.under_plainId F.plain_extend_loop _]
    show wpAny _ A.in1 (pyNext (.ref z) >>= _) _ _ s
    refine wpAny_bind (z9 S D1 D2 zi.z zi.ti zi.to zi.s1 zi.s2 (by omega) (by omega) (by omega) fun h' tk kk => ?_)
    have hS' : h'.get? Sl = some { cls := .type "list", dict := none, data := .seq (fO L) c, slots := #[] } := kk _ _ (eS _ (by simp)) (eS _ (by simp)) (eS _ (by simp [S.mem1])) (eS _ (by simp [S.mem2])) hS
    replace kk : ∀ b o, b ∉ [Sl, z, TO, i1, i2] → s.heap.get? b = some o → h'.get? b = some o := fun b o hb q => kk b o (fun w => hb (by simp [w])) (fun w => hb (by simp [w])) (fun w => hb (by simp [w])) (fun w => hb (by simp [w])) q
    exact wpAny_pure (hR h' tk L c kk hS' (hL.keep lt0 kk))
  | succ k ih =>
    intro i s L c hk hi zi hS hL hN hR
    have hlt : i < n := by omega
    refine codeAny_builtin F.entry_extend_loop ?_
    rw [Around.under_plainId F.plain_extend_loop _]
    show wpAny _ A.in1 (pyNext (.ref z) >>= _) _ _ s
    refine wpAny_bind (QX S D1 D2 zi.z zi.ti zi.to zi.s1 zi.s2 (by omega) (by omega) fun x1 x2 h' tk y1 y2 z1 o1 t1 t2 new sz kk => ?_)
    have hS' : h'.get? Sl = some { cls := .type "list", dict := none, data := .seq (fO L) c, slots := #[] } := kk _ _ (eS _ (by simp)) (eS _ (by simp)) (eS _ (by simp [S.mem1])) (eS _ (by simp [S.mem2])) hS
    have sL : (fO L).size = i := by unfold fO; rw [List.size_toArray, List.length_map, hL.len]
    have zi' : Cj z TI TO i1 i2 St1 St2 (i + 1) h' := ⟨z1, kk _ _ S.TIz S.TITO S.TIi1 S.TIi2 zi.ti, o1, t1, t2⟩
    replace kk : ∀ b o, b ∉ [Sl, z, TO, i1, i2] → s.heap.get? b = some o → h'.get? b = some o := fun b o hb q => kk b o (fun w => hb (by simp [w])) (fun w => hb (by simp [w])) (fun w => hb (by simp [w])) (fun w => hb (by simp [w])) q
    have lS : @LT.lt Nat instLTNat Sl N0 := lt0 Sl (by simp)
    have hN1 : N0 ≤ s.heap.objs.size := hN
    have nS : Sl ≠ s.heap.objs.size := fun e => absurd lS (Nat.not_lt.mpr (by rw [e]; exact hN1))
    have hL1 : SJ P1 P2 N0 (L ++ [(s.heap.objs.size, x1, x2)]) (i + 1) h' := (hL.keep lt0 kk).snoc y1 y2 hN1 new fun e he => by
      obtain ⟨j, hj⟩ := List.getElem?_of_mem he
      exact Heap.lt_size (hL.at_ j e hj).2.2.2
    have eL : (fO L).push (.ref s.heap.objs.size) = fO (L ++ [(s.heap.objs.size, x1, x2)]) := by
      unfold fO
      rw [List.map_append, List.push_toArray]
      rfl
    show wpAny _ A.in1 (updateSeq Sl (·.push (.ref s.heap.objs.size)) >>= _) _ _ ⟨h', s.gens, s.drawn, tk, s.os⟩
    refine wpAny_bind ?_
    refine wpAny_updateSeq (s := ⟨h', s.gens, s.drawn, tk, s.os⟩) hS' rfl (wpAny_pure ⟨plainId_quiet F.plain_extend_loop _, ?_⟩) (by rw [sL]; omega) (by show ((fO L).push _).size ≤ sizeLine + 1; rw [Array.size_push, sL]; omega)
    have bu : Heap.SameBut Sl h' (h'.update Sl (Obj.mapSeq (·.push (.ref s.heap.objs.size)))) := Heap.SameBut.update ..
    obtain ⟨c2, gu⟩ : ∃ c2, (h'.update Sl (Obj.mapSeq (·.push (.ref s.heap.objs.size)))).get? Sl = some { cls := .type "list", dict := none, data := .seq (fO (L ++ [(s.heap.objs.size, x1, x2)])) c2, slots := #[] } := by
      rw [← eL]
      exact ⟨_, Heap.get?_update_self (Obj.mapSeq (·.push (.ref s.heap.objs.size))) hS' rfl⟩
    generalize h'.update Sl (Obj.mapSeq (·.push (.ref s.heap.objs.size))) = g at bu gu
    have ku : ∀ b o, b ∉ [Sl, z, TO, i1, i2] → h'.get? b = some o → g.get? b = some o := fun b o hb q => bu.extBut _ _ (fun w => hb (by simp [w])) q
    refine ih (i + 1) ⟨g, s.gens, s.drawn, tk, s.os⟩ (L ++ [(s.heap.objs.size, x1, x2)]) c2 (by omega) hlt (zi'.but D1 D2 bu hSl) gu (hL1.keep lt0 ku) (by show N0 ≤ g.objs.size; rw [bu.1, sz]; omega) fun h'' tk' L' c' k2 g2 l2 => ?_
    exact hR h'' tk' L' c' (fun b o hb q => k2 b o hb (ku b o hb (kk b o hb q))) g2 l2
theorem Jm {Q : List Value → Shared → Prop} (S : ZipSep2 z TI TO i1 i2 fp1 fp2) (D1 : Draws prog w A.in1.in1 i1 fp1 n1 P1 St1) (D2 : Draws prog w A.in1.in1 i2 fp2 n2 P2 St2) (zi : Cj z TI TO i1 i2 St1 St2 0 s.heap) (hfp : ∀ b ∈ z :: TI :: TO :: (fp1 ++ fp2), @LT.lt Nat instLTNat b s.heap.objs.size) (hm : n = min n1 n2) (hn : n ≤ sizeLine)
    (hQ : ∀ h' tk L, (∀ b o, b ∉ [z, TO, i1, i2] → s.heap.get? b = some o → h'.get? b = some o) → SJ P1 P2 (s.heap.objs.size + 1) L n h' → @LT.lt Nat instLTNat s.heap.objs.size h'.objs.size → Q (fO L).toList { s with heap := h', toks := tk }) : wpAny (model prog w) A (collect (.ref z)) Q E s := by
  have hSf : s.heap.objs.size ∉ z :: TI :: TO :: (fp1 ++ fp2) := fun hm => Nat.lt_irrefl _ (hfp _ hm)
  have hSI : s.heap.objs.size ≠ z := fun e => hSf (by simp [e])
  have hT : ∀ h : Heap, qU h z TI TO → ∀ tk, Shared.TypeIs ⟨h, s.gens, s.drawn, tk, s.os⟩ (.ref z) "zip" := fun h x tk => by obtain ⟨f0, f1, _, e⟩ := x; exact ⟨_, e, rfl⟩
  unfold collect
  refine wpAny_bind (wpAny_runValue (codeAny_builtin F.entry_proto_collect ?_))
  rw [Around.under_plainId F.plain_proto_collect _]
  show wpAny _ A.in1 (newList [] >>= fun l => again (.builtin "list.__iadd__" ⟨[l, .ref z], []⟩)) _ _ s
  refine wpAny_bind (wpAny_newObj_type ?_)
  refine wpAny_pure ⟨plainId_quiet F.plain_list_iadd _, codeAny_builtin F.entry_list_iadd ?_⟩
  rw [Around.under_plainId F.plain_list_iadd _]
  have zi1 : Cj z TI TO i1 i2 St1 St2 0 (s.heap.push { cls := .type "list", data := .seq ([] : List Value).toArray }) := zi.move D1 D2 fun b _ o e => Heap.get?_push_of_some _ e
  show wpAny _ A.in1 (Builtin.List.listExtendWith (.ref s.heap.objs.size) (.ref z) (.ref s.heap.objs.size)) _ _ _
  unfold Builtin.List.listExtendWith
  refine wpAny_bind (wpAny_typeOf (hT _ zi1.z _) ?_)
  have h1 : Builtin.List.listSameRef (.ref s.heap.objs.size) (.ref z) = false := by simp [Builtin.List.listSameRef, hSI]
  have h2 : (Value.type "zip" == Value.type "list") = false := by decide
  have h3 : (Value.type "zip" == Value.type "tuple") = false := by decide
  simp only [h1, h2, h3, Bool.or_false, Bool.false_eq_true, if_false]
  refine wpAny_bind (yG prog w _ _ _ _ zi1.z ?_)
  refine wpAny_bind (wpAny_holding ?_)
  unfold Builtin.List.listLengthHint
  refine wpAny_bind (wpAny_specialOf (hT _ zi1.z _) F.Ms ?_)
  show wpAny _ A.in1 (specialOf (Value.ref z) (Str.ofString "__length_hint__") >>= _) _ _ _
  refine wpAny_bind (wpAny_specialOf (hT _ zi1.z _) F.Jl ?_)
  refine wpAny_pure ?_
  show wpAny _ A.in1 (rule "list.extend.makes-room" >>= fun _ => Builtin.List.listTouch (.ref s.heap.objs.size) >>= fun _ =>
    again (.builtin "list.extend.loop" ⟨[.ref s.heap.objs.size, .ref z, .ref s.heap.objs.size], []⟩)) _ _ _
  refine wpAny_bind (wpAny_rule ?_)
  have hS₁ : (s.heap.push { cls := .type "list", data := .seq ([] : List Value).toArray }).get? s.heap.objs.size = some { cls := .type "list", data := .seq ([] : List Value).toArray } := Heap.get?_push_size _ rfl
  refine wpAny_bind ?_
  show wpAny _ A.in1 (updateSeq s.heap.objs.size (·.push .none) >>= fun _ => updateSeq s.heap.objs.size (·.pop)) _ _ _
  refine wpAny_bind (wpAny_updateSeq hS₁ rfl ?_)
  have hS₂ := Heap.get?_update_self (Obj.mapSeq (·.push Value.none)) hS₁ rfl
  refine wpAny_updateSeq hS₂ rfl ?_
  have hS₃ := Heap.get?_update_self (Obj.mapSeq (·.pop)) hS₂ rfl
  have b1 : Heap.SameBut s.heap.objs.size (s.heap.push { cls := .type "list", data := .seq ([] : List Value).toArray }) ((s.heap.push { cls := .type "list", data := .seq ([] : List Value).toArray }).update s.heap.objs.size (Obj.mapSeq (·.push Value.none))) := Heap.SameBut.update ..
  have b2 : Heap.SameBut s.heap.objs.size ((s.heap.push { cls := .type "list", data := .seq ([] : List Value).toArray }).update s.heap.objs.size (Obj.mapSeq (·.push Value.none))) (((s.heap.push { cls := .type "list", data := .seq ([] : List Value).toArray }).update s.heap.objs.size (Obj.mapSeq (·.push Value.none))).update s.heap.objs.size (Obj.mapSeq (·.pop))) := Heap.SameBut.update ..
  have z1 : (s.heap.push { cls := .type "list", data := .seq ([] : List Value).toArray }).objs.size = s.heap.objs.size + 1 := Heap.size_push ..
  have oth : ∀ b o, b ≠ s.heap.objs.size → s.heap.get? b = some o → (((s.heap.push { cls := .type "list", data := .seq ([] : List Value).toArray }).update s.heap.objs.size (Obj.mapSeq (·.push Value.none))).update s.heap.objs.size (Obj.mapSeq (·.pop))).get? b = some o :=
    fun b o hb e => b2.extBut _ _ hb (b1.extBut _ _ hb (Heap.get?_push_of_some _ e))
  have zi2 := (zi1.but D1 D2 b1 hSf).but D1 D2 b2 hSf
  have sz2 := b2.1
  rw [b1.1, z1] at sz2
  obtain ⟨c3, hS₃⟩ : ∃ c, (((s.heap.push { cls := .type "list", data := .seq ([] : List Value).toArray }).update s.heap.objs.size (Obj.mapSeq (·.push Value.none))).update s.heap.objs.size (Obj.mapSeq (·.pop))).get? s.heap.objs.size = some { cls := .type "list", dict := none, data := .seq (fO []) c, slots := #[] } := ⟨_, hS₃⟩
  generalize ((s.heap.push { cls := .type "list", data := .seq ([] : List Value).toArray }).update s.heap.objs.size (Obj.mapSeq (·.push Value.none))).update s.heap.objs.size (Obj.mapSeq (·.pop)) = g at *
  refine wpAny_pure ⟨plainId_quiet F.plain_extend_loop _, aaC (n := n) S D1 D2 _ hSf _ hm hn (N0 := s.heap.objs.size + 1) (fun b hb => ?_) n 0 ⟨g, s.gens, s.drawn, s.toks, s.os⟩ [] _ rfl (Nat.zero_le _) zi2 hS₃ ⟨rfl, fun j e h => by simp at h, List.Pairwise.nil⟩ (by show s.heap.objs.size + 1 ≤ g.objs.size; omega) fun h' tk L c' kk hS' hacc => ?_⟩
  · have e' : b = s.heap.objs.size ∨ b = z ∨ b = TO ∨ b = i1 ∨ b = i2 := by simpa using hb
    rcases e' with q | q | q | q | q
    · rw [q]; exact Nat.lt_succ_self _
    · rw [q]; exact Nat.lt_succ_of_lt (hfp _ (by simp))
    · rw [q]; exact Nat.lt_succ_of_lt (hfp _ (by simp))
    · rw [q]; exact Nat.lt_succ_of_lt (hfp _ (by simp [S.mem1]))
    · rw [q]; exact Nat.lt_succ_of_lt (hfp _ (by simp [S.mem2]))
  · show wpAny _ A (load s.heap.objs.size >>= _) _ _ _
    refine wpAny_bind (wpAny_load hS' ?_)
    refine wpAny_pure (hQ h' tk L (fun b o hb q => ?_) hacc (Heap.lt_size hS'))
    have nb : b ≠ s.heap.objs.size := fun e => absurd (Heap.lt_size q) (by rw [e]; exact Nat.lt_irrefl _)
    exact kk b o (fun hh => by
      rcases List.mem_cons.mp hh with e | e
      · exact nb e
      · exact hb e) (oth b o nb q)
theorem zB {Q₁ : Value → Shared → Prop} (S : ZipSep2 z TI TO i1 i2 fp1 fp2) (D1 : Draws prog w A.in1.in1.in1 i1 fp1 n1 P1 St1) (D2 : Draws prog w A.in1.in1.in1 i2 fp2 n2 P2 St2) (zi : Cj z TI TO i1 i2 St1 St2 0 s.heap) (hfp : ∀ b ∈ z :: TI :: TO :: (fp1 ++ fp2), @LT.lt Nat instLTNat b s.heap.objs.size) (hm : n = min n1 n2) (hn : n ≤ sizeLine)
    (hQ : ∀ h' tk L, (∀ b o, b ∉ [z, TO, i1, i2] → s.heap.get? b = some o → h'.get? b = some o) → SJ P1 P2 (s.heap.objs.size + 1) L n h' → @LT.lt Nat instLTNat s.heap.objs.size h'.objs.size → Q₁ (.ref h'.objs.size) { s with heap := h'.push { cls := .type "tuple", data := .seq (fO L) }, toks := tk }) :
    codeAny (model prog w) A (.call (.builtin "tuple.__new__") ⟨[.type "tuple", .ref z], []⟩) (wants Q₁ E) s := by
  refine codeAny_of_tree ?_
  show wpAny _ A.in1 (do checkBuiltinCall "tuple.__new__" ⟨[.type "tuple", .ref z], []⟩; again (.builtin "tuple.__new__" ⟨[.type "tuple", .ref z], []⟩)) _ _ s
  refine wpAny_bind (wpAny_of_eq (F.newCall_tuple_1 _) (wpAny_pure ⟨plainId_quiet F.plain_tuple_new _, codeAny_builtin F.entry_tuple_new ?_⟩))
  rw [Around.under_plainId F.plain_tuple_new _]
  have hsub := sub_tuple_self
  have hinit := init_tuple_lookup
  have hmh := madeHere_tuple
  have hTI : s.TypeIs (.ref z) "zip" := by obtain ⟨⟨f0, f1, _, e⟩, _⟩ := zi; exact ⟨_, e, rfl⟩
  wp_walk using wpAny_typeOf hTI, Jm (n := n) S D1 D2 zi hfp hm hn
  intro h' tk L hk hL hz
  show wpAny _ _ (Builtin.Tuple.tupleExact (fO L).toList.toArray >>= fun v => ret v) _ _ _
  unfold Builtin.Tuple.tupleExact
  refine wpAny_bind (wpAny_newObj_type ?_ (by show (fO L).toList.toArray.size ≤ sizeLine; simp only [Array.toArray_toList]; unfold fO; rw [List.size_toArray, List.length_map, hL.len]; exact hn))
  refine wpAny_pure ?_
  have e : (fO L).toList.toArray = fO L := by simp
  rw [e]
  exact hQ h' tk L hk hL hz
theorem zE {Q : Value → Shared → Prop} (S : ZipSep2 z TI TO i1 i2 fp1 fp2) (D1 : Draws prog w A.in1.in1.in1.in1 i1 fp1 n1 P1 St1) (D2 : Draws prog w A.in1.in1.in1.in1 i2 fp2 n2 P2 St2) (zi : Cj z TI TO i1 i2 St1 St2 0 s.heap) (hfp : ∀ b ∈ z :: TI :: TO :: (fp1 ++ fp2), @LT.lt Nat instLTNat b s.heap.objs.size) (hm : n = min n1 n2) (hn : n ≤ sizeLine)
    (hQ : ∀ h' tk L, (∀ b o, b ∉ [z, TO, i1, i2] → s.heap.get? b = some o → h'.get? b = some o) → SJ P1 P2 (s.heap.objs.size + 1) L n h' → @LT.lt Nat instLTNat s.heap.objs.size h'.objs.size → Q (.ref h'.objs.size) { s with heap := h'.push { cls := .type "tuple", data := .seq (fO L) }, toks := tk }) :
    wpAny (model prog w) A (call (.type "tuple") [.ref z]) Q E s := by
  refine callType_codes (Q₁ := fun obj s₁ => s₁.TypeIs obj "tuple" ∧ Q obj s₁) F.called_tuple (F.typeCall_tuple_1 _) F.entry_object_init
    (zB (n := n) S D1 D2 zi hfp hm hn fun h' tk L hk hL hz => ⟨⟨_, Heap.get?_push_size _ rfl, rfl⟩, hQ h' tk L hk hL hz⟩) fun obj s₁ h₁ => ?_
  exact ⟨h₁.1, F.args_object_init_2 obj _, object_init_meets F.called_tuple.init.lookup F.called_tuple.made (by decide) prog w A.in1 _ s₁ ⟨h₁.1, rfl, h₁.2⟩⟩
end
end PySem
end
section
set_option maxHeartbeats 2000000
namespace DM
open PySem L2
theorem Jo {K : PySem.W.Frag} {H H' : Hp} {b : Bool} {a : Addr} {xs : List V} (e : H' a = H a) (h : gY b K H' a xs) : gY b K H a xs := by
  have rd : ∀ u, Rd H' a u → Rd H a u := fun u r => by
    rcases r with r | ⟨o, r⟩
    · exact .inl (e ▸ r)
    · exact .inr ⟨o, e ▸ r⟩
  cases b
  · exact h.imp (rd _) id
  · exact h.imp (rd _) id
def Mu : Hp → List (Addr × Obj × List V) → Hp
  | H, [] => H
  | H, e :: l => Mu (upd H e.1 (.frz e.2.1 (.tup e.2.2))) l
theorem Ft {c : Addr} : ∀ {l : List (Addr × Obj × List V)} {H : Hp}, (∀ e ∈ l, c ≠ e.1) → Mu H l c = H c
  | [], _, _ => rfl
  | e :: l, H, h => by
    show Mu (upd H e.1 _) l c = _
    rw [Ft fun e' he => h e' (List.mem_cons_of_mem _ he), upd_ne (h e List.mem_cons_self)]
theorem Jp {c : Addr} {v : HO} : ∀ {l : List (Addr × Obj × List V)} {H : Hp}, Mu H l c = some v → H c = some v ∨ ∃ e ∈ l, c = e.1 ∧ v = .frz e.2.1 (.tup e.2.2)
  | [], _, h => .inl h
  | e :: l, H, h => by
    rcases Jp (l := l) h with q | ⟨e', he, q⟩
    · by_cases hc : c = e.1
      · subst hc
        rw [upd_same] at q
        cases q
        exact .inr ⟨e, List.mem_cons_self, rfl, rfl⟩
      · rw [upd_ne hc] at q
        exact .inl q
    · exact .inr ⟨e', List.mem_cons_of_mem _ he, q⟩
inductive Yl (J : It) : Nat → Hp → List V → Hp → Prop
  | nil (i : Nat) (H : Hp) : Yl J i H [] H
  | cons {i : Nat} {H H1 H2 : Hp} {v : V} {vs : List V} : J.yld i H v H1 → Yl J (i + 1) H1 vs H2 → Yl J i H (v :: vs) H2
theorem X3 {K : PySem.W.Frag} {b1 b2 : Bool} {a b : Addr} {xs ys : List V} {H0 : Hp} (ux : ∀ l, gY b1 K H0 a l → l = xs) (uy : ∀ l, gY b2 K H0 b l → l = ys) : ∀ (l : List (Addr × Obj × List V)) (i : Nat) (H : Hp), H a = H0 a → H b = H0 b →
    (∀ (j : Nat) e, l[j]? = some e → Nd e.2.1 ∧ H e.1 = none ∧ a ≠ e.1 ∧ b ≠ e.1 ∧ ∃ x y, e.2.2 = [x, y] ∧ xs[i + j]? = some x ∧ ys[i + j]? = some y) → (l.Pairwise fun e e' => e'.1 ≠ e.1) → Yl (ItZ b1 b2 K a b) i H (l.map fun e => .ref e.1) (Mu H l)
  | [], i, H, _, _, _, _ => .nil i H
  | e :: l, i, H, ha, hb, h, pw => by
    obtain ⟨nd, hT, na, nb, x, y, exy, hx, hy⟩ := h 0 e rfl
    obtain ⟨p1, p2⟩ := List.pairwise_cons.mp pw
    refine .cons (H1 := upd H e.1 (.frz e.2.1 (.tup e.2.2))) ⟨e.1, e.2.1, x, y, nd, rfl, hT, by rw [exy], fun l hl => by rw [ux l (Jo ha hl)]; exact hx, fun l hl => by rw [uy l (Jo hb hl)]; exact hy⟩ ?_
    refine X3 ux uy l (i + 1) _ (by rw [upd_ne na]; exact ha) (by rw [upd_ne nb]; exact hb) (fun j e' he => ?_) p2
    obtain ⟨nd', hT', na', nb', x', y', ag8, hx', hy'⟩ := h (j + 1) e' he
    rw [show i + (j + 1) = i + 1 + j by omega] at hx' hy'
    exact ⟨nd', by rw [upd_ne (p1 e' (List.mem_of_getElem? he))]; exact hT', na', nb', x', y', ag8, hx', hy'⟩
theorem ents {xs ys : List V} {its its2 : List Value} (rv : Vals xs its) (rv2 : Vals ys its2) : ∀ (L : List (Addr × Value × Value)) (i : Nat), (∀ (j : Nat) e, L[j]? = some e → its[i + j]? = some e.2.1 ∧ its2[i + j]? = some e.2.2) →
    ∃ l : List (Addr × Obj × List V), l.map (·.1) = L.map (·.1) ∧ ∀ (j : Nat) e, l[j]? = some e → ∃ u u2 x y, L[j]? = some (e.1, u, u2) ∧ e.2.1 = eY [u, u2] ∧ e.2.2 = [x, y] ∧ xs[i + j]? = some x ∧ ys[i + j]? = some y ∧ RelV x u ∧ RelV y u2
  | [], i, _ => ⟨[], rfl, fun j e h => by simp at h⟩
  | e :: L, i, h => by
    obtain ⟨h1, h2⟩ := h 0 e rfl
    rw [Nat.add_zero] at h1 h2
    obtain ⟨l, l1, l2⟩ := ents rv rv2 L (i + 1) fun j e' he => by
      have := h (j + 1) e' he
      rw [show i + (j + 1) = i + 1 + j by omega] at this
      exact this
    have g1 : i < xs.length := by rw [rv.length]; exact (List.getElem?_eq_some_iff.mp h1).1
    have g2 : i < ys.length := by rw [rv2.length]; exact (List.getElem?_eq_some_iff.mp h2).1
    obtain ⟨u, hu, ru⟩ := rv.get (List.getElem?_eq_getElem g1)
    obtain ⟨u2, hu2, ru2⟩ := rv2.get (List.getElem?_eq_getElem g2)
    rw [h1] at hu
    rw [h2] at hu2
    cases hu
    cases hu2
    refine ⟨(e.1, eY [e.2.1, e.2.2], [xs[i], ys[i]]) :: l, by rw [List.map_cons, List.map_cons, l1], fun j e' he => ?_⟩
    cases j with
    | zero =>
      cases he
      exact ⟨_, _, _, _, rfl, rfl, rfl, List.getElem?_eq_getElem g1, List.getElem?_eq_getElem g2, ru, ru2⟩
    | succ j =>
      obtain ⟨u, u2, x, y, k1, k2, k3, k4, k5, k6, k7⟩ := l2 j e' he
      rw [show i + 1 + j = i + (j + 1) by omega] at k4 k5
      exact ⟨u, u2, x, y, k1, k2, k3, k4, k5, k6, k7⟩
def abA (K : PySem.W.Frag) (ta : TA) : TE := fun σ H Q => ta σ H fun vs H1 => ∃ b1 b2 a b xs ys, vs = [.ref a, .ref b] ∧ gY b1 K H1 a xs ∧ gY b2 K H1 b ys ∧ ∃ xs ys, gY b1 K H1 a xs ∧ gY b2 K H1 b ys ∧ min xs.length ys.length ≤ sizeLine ∧
  ∀ H2 us U o H3, Yl (ItZ b1 b2 K a b) 0 H1 us H2 → us.length = min xs.length ys.length → Nd o → H2 U = none → H3 = upd H2 U (.frz o (.tup us)) → Q (.ref U) H3
section
variable {X : Cx} {pins : List (Addr × Obj)} {σ : L2.St} {H : Hp} {s : Shared}
theorem aaD {e e2 : Expr} {ta : TA} {p p2 pos pos2 : Pos} (hgT : Gl X "tuple") (hmT : X.mg "tuple" = none) (hg : Gl X "zip") (hm : X.mg "zip" = none) (hc : X.calm = true) (ha : PA X [e, e2] ta)
    (hs : starEach [e, e2] X.env = (false, eval e X.env) :: starEach [e2] X.env) (hpl : (backTo pos (starEach [e2] X.env)).any (·.1) = false)
    (hsE : starEach [.Call (.Name "zip" p) [e, e2] [] pos] X.env = (false, eval (.Call (.Name "zip" p) [e, e2] [] pos) X.env) :: starEach [] X.env) :
    PE X (.Call (.Name "tuple" p2) [.Call (.Name "zip" p) [e, e2] [] pos] [] pos2) (abA X.K ta) := by
  refine ⟨fun pins s σ H Q I h => ?_⟩
  refine PyProof.Rows.Call_ (ld_blt I hgT hmT PyProof.Rows.boot_tuple (PyProof.Rows.callWith_type1 ?_ hsE rfl))
  refine PyProof.Rows.args_cons (Hh (R := fun b1 b2 a b H1 => ∃ xs ys, gY b1 X.K H1 a xs ∧ gY b2 X.K H1 b ys ∧ min xs.length ys.length ≤ sizeLine ∧ ∀ H2 us U o H3, Yl (ItZ b1 b2 X.K a b) 0 H1 us H2 → us.length = min xs.length ys.length → Nd o → H2 U = none → H3 = upd H2 U (.frz o (.tup us)) → Q (.ref U) H3) hg hm ha hs hpl I h fun b1 b2 a b H1 s1 s2 I1 I2 q la lb hsz hz hTI hTO g1 g2 => PyProof.Rows.args_nil ?_) hsE
  obtain ⟨xs, ys, hqx, hqy, hle, q⟩ := q
  generalize hN : s1.heap.objs.size = N at *
  obtain ⟨its, rv, p1⟩ := cY I2 hqx
  obtain ⟨its2, rv2, p2'⟩ := cY I2 hqy
  have l1 := rv.length
  have l2 := rv2.length
  have la' : @LT.lt Nat instLTNat a N := la
  have lb' : @LT.lt Nat instLTNat b N := lb
  refine zE (n := min its.toArray.size its2.toArray.size) (zip_sep2 (N := N) (fp1 := [a]) (fp2 := [b]) (fun c hc => by rw [List.mem_singleton.mp hc]; exact la) (fun c hc => by rw [List.mem_singleton.mp hc]; exact lb))
    (bU (prog := X.prog) (w := X.w) (A := X.A.in1.in1.in1.in1) (I2.ok.hd hc) b1 N a (Nat.ne_of_lt la) its.toArray) (bU (prog := X.prog) (w := X.w) (A := X.A.in1.in1.in1.in1) (I2.ok.hd hc) b2 (N + 1) b (Nat.ne_of_lt (Nat.lt_succ_of_lt lb)) its2.toArray) ⟨qU.of_zip hz, hTI, hTO, ⟨g1, p1⟩, ⟨g2, p2'⟩⟩ (fun c hc => ?_) rfl (by simp only [List.size_toArray]; omega) fun h' tk L hk hL afd => ?_
  · have e' : @Eq Nat c (N + 4) ∨ @Eq Nat c (N + 2) ∨ @Eq Nat c (N + 3) ∨ @Eq Nat c N ∨ @Eq Nat c a ∨ @Eq Nat c (N + 1) ∨ @Eq Nat c b := by simpa using hc
    rw [hsz]
    omega
  · obtain ⟨l, e1, e2⟩ := ents rv rv2 L 0 fun j e he => by
      obtain ⟨a1, a2, _⟩ := hL.at_ j e he
      rw [List.getElem?_toArray] at a1 a2
      rw [Nat.zero_add]
      exact ⟨a1, a2⟩
    have ll : l.length = L.length := by
      have := congrArg List.length e1
      rwa [List.length_map, List.length_map] at this
    have ge : ∀ (j : Nat) e, l[j]? = some e → @LE.le Nat instLENat (s2.heap.objs.size + 1) e.1 ∧ @LT.lt Nat instLTNat e.1 h'.objs.size := fun j e he => by
      obtain ⟨u, u2, x, y, k1, _⟩ := e2 j e he
      obtain ⟨_, _, a3, a4⟩ := hL.at_ j _ k1
      exact ⟨a3, Heap.lt_size a4⟩
    have gm : ∀ e ∈ l, @LE.le Nat instLENat (s2.heap.objs.size + 1) e.1 ∧ @LT.lt Nat instLTNat e.1 h'.objs.size := fun e he => by
      obtain ⟨j, hj⟩ := List.getElem?_of_mem he
      exact ge j e hj
    have fr : ∀ e ∈ l, H1 e.1 = none := fun e he => I2.hok.fresh (Nat.le_of_succ_le (gm e he).1)
    have hUn : H1 h'.objs.size = none := I2.hok.fresh (Nat.le_of_lt afd)
    have pw : l.Pairwise fun e e' => e'.1 ≠ e.1 := by
      have p1 := (List.pairwise_map (f := fun e : Addr × Value × Value => e.1) (R := fun x y : Addr => @LT.lt Nat instLTNat x y)).mpr hL.asc
      rw [← e1] at p1
      exact ((List.pairwise_map).mp p1).imp fun h e => absurd h (by rw [e]; exact Nat.lt_irrefl _)
    have hUl : ∀ e ∈ l, h'.objs.size ≠ e.1 := fun e he z => absurd (gm e he).2 (by rw [← z]; exact Nat.lt_irrefl _)
    have h2U : Mu H1 l h'.objs.size = none := by rw [Ft hUl]; exact hUn
    have el : (l.map fun e => V.ref e.1) = (l.map (·.1)).map V.ref := by rw [List.map_map]; rfl
    have vU : Vals (l.map fun e => V.ref e.1) (L.map fun e => Value.ref e.1) := by
      have : (L.map fun e => Value.ref e.1) = (l.map (·.1)).map Value.ref := by rw [e1, List.map_map]; rfl
      rw [el, this]
      generalize l.map (·.1) = as
      induction as with
      | nil => exact .nil
      | cons a as ih => exact .cons rfl ih
    have aB : ∀ e ∈ l, a ≠ e.1 ∧ b ≠ e.1 := fun e he => by
      have g := (gm e he).1
      rw [hsz] at g
      exact ⟨fun z => absurd g (Nat.not_le.mpr (by rw [← z]; exact Nat.lt_succ_of_lt (Nat.lt_of_lt_of_le la' (Nat.le_add_right _ _)))), fun z => absurd g (Nat.not_le.mpr (by rw [← z]; exact Nat.lt_succ_of_lt (Nat.lt_of_lt_of_le lb' (Nat.le_add_right _ _))))⟩
    have yl := X3 (b1 := b1) (b2 := b2) (K := X.K) (H0 := H1) (fun l h => ju I2 h hqx) (fun l h => ju I2 h hqy) l 0 H1 rfl rfl (fun j e he => by
      obtain ⟨u, u2, x, y, k1, k2, k3, k4, k5, _⟩ := e2 j e he
      have m := List.mem_of_getElem? he
      exact ⟨by rw [k2]; exact jA _, fr e m, (aB e m).1, (aB e m).2, x, y, k3, k4, k5⟩) pw
    have gU : (h'.push { cls := .type "tuple", data := .seq (fO L) }).get? h'.objs.size = some { cls := .type "tuple", data := .seq (fO L) } := Heap.get?_push_size _ rfl
    have hlen : (l.map fun e => V.ref e.1).length = min xs.length ys.length := by
      have := hL.len
      simp only [List.size_toArray] at this
      rw [List.length_map, ll, this]
      omega
    refine ⟨.ref h'.objs.size, upd (Mu H1 l) h'.objs.size (.frz (eY (L.map fun e => Value.ref e.1)) (.tup (l.map fun e => .ref e.1))), ?_, rfl, q _ _ _ _ _ yl hlen (jA _) h2U rfl⟩
    refine yH (ch := [N + 4, N + 3, N, N + 1]) I2 (fun c o hc e => Heap.get?_push_of_some _ (hk c o hc e)) (fun c hc => V9 I1 hN ?_) (fun c v e => ?_) fun c v n e => ?_
    · have e' : @Eq Nat c (N + 4) ∨ @Eq Nat c (N + 3) ∨ @Eq Nat c N ∨ @Eq Nat c (N + 1) := by simpa using hc
      show @LE.le Nat instLENat N c
      omega
    · rw [upd_ne (ne_of_none e hUn), Ft fun e' he => ne_of_none e (fr e' he)]
      exact e
    · by_cases hcU : c = h'.objs.size
      · subst hcU
        rw [upd_same] at e
        cases e
        exact ⟨Nat.le_of_lt afd, gU, by show (l.map fun e => V.ref e.1).length ≤ sizeLine; rw [hlen]; exact hle, L.map fun e => Value.ref e.1, vU, ⟨_, gU, rfl, _, rfl⟩⟩
      · rw [upd_ne hcU] at e
        rcases Jp e with e | ⟨e', he', rfl, rfl⟩
        · rw [n] at e; cases e
        · obtain ⟨j, hj⟩ := List.getElem?_of_mem he'
          obtain ⟨u, u2, x, y, k1, k2, k3, _, _, k6, k7⟩ := e2 j e' hj
          have g := (hL.at_ j _ k1).2.2.2
          have g : IsTupOf2 (h'.push { cls := .type "tuple", data := .seq (fO L) }) e'.1 u u2 := Heap.get?_push_of_some _ g
          rw [k2, k3]
          exact ⟨Nat.le_of_succ_le (gm e' he').1, g, by show 2 ≤ sizeLine; decide, [u, u2], .cons k6 (.cons k7 .nil), ⟨_, g, rfl, _, rfl⟩⟩
end
theorem aaE {K : PySem.W.Frag} {F0 : Hp} {J : It} {ds : List D} (W : YB K F0 J ds) {i : Nat} {H H2 : Hp} {vs : List V} (y : Yl J i H vs H2) : ∀ {F : Hp}, Ext F0 F → Ext F H → i + vs.length ≤ ds.length → ∃ F', Grow F H F' H2 ∧ aV K F' ((ds.drop i).take vs.length) vs := by
  induction y with
  | nil i H =>
    intro F e1 e2 _
    exact ⟨F, Grow.refl e2, by rw [List.length_nil, List.take_zero]; exact aV.nil⟩
  | @cons i H H1 H2 v vs h _ ih =>
    intro F e1 e2 hl
    rw [List.length_cons] at hl
    obtain ⟨F1, d, hd, g, q⟩ := W.yld i F H v H1 e1 e2 (by omega) h
    obtain ⟨F2, g2, q2⟩ := ih (e1.trans g.f) g.sub (by omega)
    refine ⟨F2, g.trans g2, ?_⟩
    have hi : i < ds.length := by omega
    have ed : ds.drop i = d :: ds.drop (i + 1) := by
      rw [List.drop_eq_getElem_cons hi]
      rw [List.getElem?_eq_getElem hi] at hd
      cases hd
      rfl
    rw [ed, List.length_cons, List.take_succ_cons]
    exact .cons (Dq.mono g2.f _ _ q) q2
def oY (f g : aq → R Val) (ρ : aq) : R Val := (fJ f g ρ).bind fun ds ρ1 => if ds.length ≤ sizeLine then .ok (.en (.fr (.tup ds))) ρ1 else .bad
section
variable {C : Cs} {Z : ZX}
theorem R8 {te ue : TE} {f g : aq → R Val} (h : Impl C Z te f) (h' : Impl C Z ue g) : Impl C Z (abA C.K (tCons te (tCons ue tNil))) (oY f g) := by
  intro o F H σ ρ T Q S q
  unfold oY fJ at q
  rw [aH, aH] at q
  refine eE h S (aG q (fun ds ρ1 h1 F1 H1 v e0 S1 hd => ?_) fun _ _ h => h)
  rw [aH] at h1
  refine eE h' S1 (aG h1 (fun es ρ2 h2 F2 H2 v2 e1 S2 hd2 => ?_) fun _ _ h F' H' s => h F' H' s.drop)
  obtain ⟨a, vs, b, rfl, h3, h4⟩ := S2.itemsOf (v := v) (by simp) hd
  obtain ⟨a2, ws, b2, rfl, h5, h6⟩ := S2.itemsOf (v := v2) (by simp) hd2
  have l1 := h4.length
  have l2 := h6.length
  have lp : (pairs ds es).length = min vs.length ws.length := by rw [bJ, l1, l2]
  by_cases le : (pairs ds es).length ≤ sizeLine
  · have h2 : pJ (if (pairs ds es).length ≤ sizeLine then R.ok (Val.en (.fr (.tup (pairs ds es)))) ρ2 else .bad) _ _ := h2
    rw [if_pos le] at h2
    refine ⟨b, b2, a, a2, vs, ws, rfl, aW S2.sub h3, aW S2.sub h5, vs, ws, aW S2.sub h3, aW S2.sub h5, by rw [← lp]; exact le, fun H3 us U ob H4 y hus nd hU e => ?_⟩
    obtain ⟨F3, g, q3⟩ := aaE (T7 h3 h4 h5 h6) y (Ext.refl F2) S2.sub (by rw [Nat.zero_add, hus, lp]; exact Nat.le_refl _)
    rw [List.drop_zero, hus, ← lp, List.take_length] at q3
    subst e
    have g2 := Grow.obj g.sub (o := .frz ob (.tup us)) hU
    refine h2 _ _ _ ((S2.drop.drop.grow (g.trans g2)).cV ?_)
    simp only [Dq]
    exact ⟨U, us, rfl, ⟨ob, nd, upd_same⟩, aV.mono g2.f _ _ q3⟩
  · have h2 : pJ (if (pairs ds es).length ≤ sizeLine then R.ok (Val.en (.fr (.tup (pairs ds es)))) ρ2 else .bad) _ _ := h2
    rw [if_neg le] at h2
    exact h2.elim
end
section
open PySem.Spec PyProof.Rows
variable {XR : jC} {M : Wd} {X : Cx} {C : Cs} {W : WX} {k : Nat} {N : List Str} {nm : List (Str × NameKind)} {fb : Str → Bool}
variable {e e2 : Expr} {f fa : aq → R Val} {pos p p2 pos2 : Pos}
theorem JE.aha (G : Ctx M X C W k N nm fb) (hmT : M.mg "tuple" = none) (hgT : zU nm "tuple" = true) (hm : M.mg "zip" = none) (hg : zU nm "zip" = true) (h : JE XR X C W e f) (h' : JE XR X C W e2 fa)
    (hs : starEach [e, e2] X.env = (false, eval e X.env) :: starEach [e2] X.env := by rfl) (hs2 : starEach [e2] X.env = [(false, eval e2 X.env)] := by rfl)
    (hpl : (backTo pos (starEach [e2] X.env)).any (·.1) = false := by rfl)
    (hsE : starEach [.Call (.Name "zip" p) [e, e2] [] pos] X.env = (false, eval (.Call (.Name "zip" p) [e, e2] [] pos) X.env) :: starEach [] X.env := by rfl) :
    JE XR X C W (.Call (.Name "tuple" p2) [.Call (.Name "zip" p) [e, e2] [] pos] [] pos2) (oY f fa) := by
  obtain ⟨g1, _, _⟩ := eV G hg
  obtain ⟨g2, _, _⟩ := eV G hgT
  obtain ⟨t, h1, h2⟩ := h
  obtain ⟨t', k1, k2⟩ := h'
  refine ⟨_, aaD g2 (by rw [G.hmg]; exact hmT) g1 (by rw [G.hmg]; exact hm) G.calm (pa_cons h1 (pa_cons k1 pa_nil hs2) hs) hs hpl hsE, ?_⟩
  rw [G.hK]
  exact R8 h2 k2
end
end DM
end
section
namespace DM
open PySem L2
/-! ak9: the law's own: does a state meet a wish. -/
def Jq (_cl : Nat → List En → R En) : aq → R Fl :=
  (aJ (runFor (zA (aA eZ (ao 0) (runC (.int 0))) (aA eZ (ao 0) (runC (.int 1))) (ao 1)) (bW (.t [(.t [(.n 2), (.n 3)]), (.t [(.n 4), (.n 5)])])) (bH (eG (gH (bB (aA (jL true) (ao 4) (runC .non))) (bB (aA (fW true) (ao 2) (ao 4)))) (gH (bB (aA (jL true) (ao 5) (runC .non))) (bB (aA (fW true) (ao 3) (ao 5))))) (aO [] (runC (.bl false))) (fun ρ => .ok .nx ρ)))
  (aO [] (runC (.bl true))))
def adp (run : List En → R En) : Prop := ∀ (n : Nat) (s : gj) (dw : D) (w : dO), s.1.length = n → s.2.length = n → Sq dw (lZ w) → w.length = n → Ret run [.fr (hS s), .fr dw] (.fr (.bl (oX w s)))
theorem ahb {x2 x3 x5 : Option En} {d dw x : D} {s : Int} (h : x = .non ∨ ∃ z, x = .int z) : (gH (bB (aA (jL true) (ao 4) (runC .non))) (bB (aA (fW true) (ao 2) (ao 4)))) [some (.fr d), some (.fr dw), some (.fr (.int s)), x3, some (.fr x), x5] = .ok (!rQ x s) [some (.fr d), some (.fr dw), some (.fr (.int s)), x3, some (.fr x), x5] := by
  rcases h with rfl | ⟨z, rfl⟩
  · have n1 : jL true (.fr .non) (.fr .non) = some (.fr (.bl false)) := rfl
    have e : rQ .non s = true := rfl
    rw [e]
    simp [gK, n1]
  · have n1 : jL true (.fr (.int z)) (.fr .non) = some (.fr (.bl true)) := rfl
    have e : rQ (.int z) s = decide (z = s) := rfl
    have e2 : fW true (.fr (.int s)) (.fr (.int z)) = some (.fr (.bl (!decide (z = s)))) := by
      rw [tV]
      by_cases c : z = s
      · subst c; simp
      · have c' : ¬ s = z := fun e => c e.symm
        simp [c, c']
    rw [e]
    generalize decide (z = s) = b at *
    simp [gK, n1, e2]
theorem ahc {x2 x4 : Option En} {d dw x : D} {s : Int} (h : x = .non ∨ ∃ z, x = .int z) : (gH (bB (aA (jL true) (ao 5) (runC .non))) (bB (aA (fW true) (ao 3) (ao 5)))) [some (.fr d), some (.fr dw), x2, some (.fr (.int s)), x4, some (.fr x)] = .ok (!rQ x s) [some (.fr d), some (.fr dw), x2, some (.fr (.int s)), x4, some (.fr x)] := by
  rcases h with rfl | ⟨z, rfl⟩
  · have n1 : jL true (.fr .non) (.fr .non) = some (.fr (.bl false)) := rfl
    have e : rQ .non s = true := rfl
    rw [e]
    simp [gK, n1]
  · have n1 : jL true (.fr (.int z)) (.fr .non) = some (.fr (.bl true)) := rfl
    have e : rQ (.int z) s = decide (z = s) := rfl
    have e2 : fW true (.fr (.int s)) (.fr (.int z)) = some (.fr (.bl (!decide (z = s)))) := by
      rw [tV]
      by_cases c : z = s
      · subst c; simp
      · have c' : ¬ s = z := fun e => c e.symm
        simp [c, c']
    rw [e]
    generalize decide (z = s) = b at *
    simp [gK, n1, e2]
theorem ahd {A B : aq → R Bool} {f g : aq → R Fl} {ρ : aq} {a b : Bool} (h1 : A ρ = .ok a ρ) (h2 : B ρ = .ok b ρ) : bH (eG A B) f g ρ = if (a || b) = true then f ρ else g ρ := by
  cases a with
  | true => simp [sO, pU, h1, Dh, G6, aX]
  | false => cases b <;> simp [sO, pU, h1, h2, Di, G6, Nk, aX]
def adq : D → Bool
  | .tup [.tup [.int s, .int c], .tup [x, y]] => rQ x s && rQ y c
  | _ => false
theorem X4 {f g h : aq → R Val} {ρ : aq} {ds es gs : List D} (h1 : bY f ρ = .ok ds ρ) (h2 : bY g ρ = .ok es ρ) (h3 : bY h ρ = .ok gs ρ) (hl : (pairs ds es).length ≤ gs.length) : zA f g h ρ = .ok (pairs (pairs ds es) gs) ρ := by
  unfold zA
  rw [h1, aX, h2, aX, h3, aX, if_pos hl]
theorem afe {dw : D} {s : gj} : (aA eZ (ao 0) (runC (.int 0))) [some (.fr (hS s)), some (.fr dw), none, none, none, none] = .ok (.en (.fr (.tup (nD s.1)))) [some (.fr (hS s)), some (.fr dw), none, none, none, none] := by
  have p0 : eZ (.fr (hS s)) (.fr (.int 0)) = some (.fr (.tup (nD s.1))) := rfl
  generalize hS s = d at *
  generalize nD s.1 = l at *
  simp [gK, p0]
theorem afg {dw : D} {s : gj} : (aA eZ (ao 0) (runC (.int 1))) [some (.fr (hS s)), some (.fr dw), none, none, none, none] = .ok (.en (.fr (.tup (s.2.map .int)))) [some (.fr (hS s)), some (.fr dw), none, none, none, none] := by
  have p0 : eZ (.fr (hS s)) (.fr (.int 1)) = some (.fr (.tup (s.2.map .int))) := rfl
  generalize hS s = d at *
  generalize s.2.map D.int = l at *
  simp [gK, p0]
theorem R9 {cl : Nat → List En → R En} : adp (aQ 6 (Jq cl)) := by
  intro n s dw w hq hb hw hl
  have wl : (lZ w).length = n := by unfold lZ; rw [List.length_map, hl]
  have l1 : (pairs (nD s.1) (s.2.map .int)).length = n := by rw [bJ, lF, List.length_map, hq, hb, Nat.min_self]
  have tl : (pairs (pairs (nD s.1) (s.2.map .int)) (lZ w)).length = n := by rw [bJ, l1, wl, Nat.min_self]
  have at_ : ∀ j, j < n → (pairs (pairs (nD s.1) (s.2.map .int)) (lZ w))[j]? = some (.tup [.tup [.int (s.1.getD j 0 : Nat), .int (s.2.getD j 0)], itD (w.getD j (none, none))]) := fun j jl => by
    have k1 : (nD s.1)[j]? = some (.int (s.1.getD j 0 : Nat)) := by
      unfold nD
      rw [List.getElem?_map, qY 0 (by rw [hq]; exact jl)]
      rfl
    have k2 : (s.2.map D.int)[j]? = some (.int (s.2.getD j 0)) := by
      rw [List.getElem?_map, qY 0 (by rw [hb]; exact jl)]
      rfl
    have k0 := j8 (w := w) (i := j) (by rw [hl]; exact jl)
    have k3 : (lZ w)[j]? = some (itD (w.getD j (none, none))) := by
      unfold lZ
      rw [List.getElem?_map, k0]
      rfl
    exact j5 (j5 k1 k2) k3
  have key : ∀ j, adq (.tup [.tup [.int (s.1.getD j 0 : Nat), .int (s.2.getD j 0)], itD (w.getD j (none, none))]) = ((decide ((w.getD j (none, none)).1 = none) || decide ((w.getD j (none, none)).1 = some (s.1.getD j 0))) && (decide ((w.getD j (none, none)).2 = none) || decide ((w.getD j (none, none)).2 = some (s.2.getD j 0)))) := fun j => by
    rw [← aby, ← abz]
    rfl
  have ev : (pairs (pairs (nD s.1) (s.2.map .int)) (lZ w)).all adq = oX w s := by
    rw [Bool.eq_iff_iff, List.all_eq_true]
    unfold oX
    rw [List.all_eq_true]
    constructor
    · intro h j hj
      have hj := List.mem_range.mp hj
      have := h _ (List.mem_of_getElem? (at_ j (by omega)))
      rw [key] at this
      exact this
    · intro h x hx
      obtain ⟨j, hj, e⟩ := List.getElem_of_mem hx
      have e2 := List.getElem?_eq_getElem hj
      rw [tl] at hj
      rw [at_ j hj, e] at e2
      rw [← Option.some.inj e2, key]
      exact h j (List.mem_range.mpr (by omega))
  obtain ⟨ρ', h1, h2⟩ := zm (fg := bW (.t [(.t [(.n 2), (.n 3)]), (.t [(.n 4), (.n 5)])])) (fb := (bH (eG (gH (bB (aA (jL true) (ao 4) (runC .non))) (bB (aA (fW true) (ao 2) (ao 4)))) (gH (bB (aA (jL true) (ao 5) (runC .non))) (bB (aA (fW true) (ao 3) (ao 5))))) (aO [] (runC (.bl false))) (fun ρ => .ok .nx ρ))) (P := fun ρ => ∃ x2 x3 x4 x5, ρ = [some (.fr (hS s)), some (.fr (dw)), x2, x3, x4, x5]) (e := .fr (.bl false)) adq (pairs (pairs (nD s.1) (s.2.map .int)) (lZ w)) [some (.fr (hS s)), some (.fr (dw)), none, none, none, none] ⟨none, none, none, none, rfl⟩ fun y hy ρ ⟨x2, x3, x4, x5, hρ⟩ => by
    subst hρ
    obtain ⟨j, hj, e⟩ := List.getElem_of_mem hy
    have e2 := List.getElem?_eq_getElem hj
    rw [tl] at hj
    rw [at_ j hj, e] at e2
    have e2 := Option.some.inj e2
    subst e2
    have a1 := ahb (x2 := none) (x3 := some (.fr (.int (s.2.getD j 0)))) (x5 := some (.fr (oI (w.getD j (none, none)).2))) (d := hS s) (dw := dw) (s := ((s.1.getD j 0 : Nat) : Int)) (Pj (w.getD j (none, none)).1)
    have a2 := ahc (x2 := some (.fr (.int (s.1.getD j 0 : Nat)))) (x4 := some (.fr (oN (w.getD j (none, none)).1))) (d := hS s) (dw := dw) (s := s.2.getD j 0) (Pk (w.getD j (none, none)).2)
    have st := ahd (f := aO [] (runC (.bl false))) (g := fun ρ => .ok .nx ρ) a1 a2
    have eb : (!rQ (oN (w.getD j (none, none)).1) ((s.1.getD j 0 : Nat) : Int) || !rQ (oI (w.getD j (none, none)).2) (s.2.getD j 0)) = !(rQ (oN (w.getD j (none, none)).1) ((s.1.getD j 0 : Nat) : Int) && rQ (oI (w.getD j (none, none)).2) (s.2.getD j 0)) := (Bool.not_and _ _).symm
    rw [eb] at st
    refine ⟨_, rfl, fun h => ?_, fun h => ?_⟩
    · have h : (rQ (oN (w.getD j (none, none)).1) ((s.1.getD j 0 : Nat) : Int) && rQ (oI (w.getD j (none, none)).2) (s.2.getD j 0)) = true := h
      rw [h] at st
      exact ⟨_, st, _, _, _, _, rfl⟩
    · have h : (rQ (oN (w.getD j (none, none)).1) ((s.1.getD j 0 : Nat) : Int) && rQ (oI (w.getD j (none, none)).2) (s.2.getD j 0)) = false := h
      rw [h] at st
      exact ⟨_, st⟩
  have z := X4 (h := ao 1) (cW (afe (s := s) (dw := dw)) rfl rfl) (cW (afg (s := s) (dw := dw)) rfl rfl) (hw.seq rfl) (by rw [l1, wl]; exact Nat.le_refl _)
  rw [ev] at h1 h2
  cases hm : oX w s with
  | true =>
    rw [hm] at h1
    obtain ⟨x2, x3, x4, x5, rfl⟩ := h2 hm
    exact ⟨_, oU rfl (cX (rH z h1) rfl)⟩
  | false =>
    rw [hm] at h1
    exact ⟨_, oU rfl (Ny (rH z h1))⟩
end DM
end
section
namespace SN
open PySem PySem.Spec PyProof.Rows L2 DM
def jw (cl : Nat → List En → R En) : aq → R Fl :=
  (aO [] (aN dW (aj (aA eZ (ao 0) (runC (.int 0))) ak)))
def jx (cl : Nat → List En → R En) : aq → R Fl :=
  (bH (bB (aA (fW true) (ao 0) (ao 1))) (pZ 4 (ao 1)) (fun ρ => .ok .nx ρ))
def wM (cl : Nat → List En → R En) : aq → R Fl :=
  (aJ (iJ (au 2 0 [] [0, 1] (cl 1) (aj (aM (au 1 0 [] [0] (cl 0) (aj (ao 0) ak) ak)) (aj (aN dW (aj (ao 1) ak)) ak)) ak))
  (aJ (runFor (lH (aA eZ (ao 0) (runC (.int 0))) (aA eZ (ao 0) (runC (.int 1))) (ao 1)) (bW (.t [(.n 2), (.n 3), (.t [(.n 4), (.n 5)])])) (bH (eG (bB (aA (jU true) (ao 4) (aK (aj (runC .non) (aj (ao 2) ak))))) (bB (aA (jU true) (ao 5) (aK (aj (runC .non) (aj (ao 3) ak)))))) (aO [] (runC (.bl false))) (fun ρ => .ok .nx ρ)))
  (aO [] (runC (.bl true)))))
def oZ (cl : Nat → List En → R En) : aq → R Fl :=
  (aJ (aR false 2 (bH (bB (aA gLt (ao 1) (aN dW (aj (ao 0) ak)))) (aA eZ (ao 0) (ao 1)) (runC (.int 0))))
  (aO [] (aP (aj (aA dH (aN CG (aj (ao 2) ak)) (aN sE (aj (aA gGe (aN CG (aj (ao 2) ak)) (aA lC (runC (.int 10)) (runC (.int 18)))) ak))) (aj (aA cI (aA cI (aA oR (ao 2) (runC (.int 2147483629))) (aA dH (runC (.int 7919)) (ao 1))) (runC (.int 55))) (aj (runC (.int 0)) ak))))))
def mj (cl : Nat → List En → R En) : aq → R Fl :=
  (aJ (bH (bB (aA gGt (aA eZ (ao 0) (runC (.int 0))) (runC (.int 0)))) (aJ (aR false 2 (aA oR (aA eZ (ao 0) (runC (.int 0))) (ao 1)))
  (aJ (oJ 0 (aA CQ (aA eZ (ao 0) (runC (.int 0))) (ao 1)) (runC (.int 0)))
  (aO [0] (ao 2)))) (fun ρ => .ok .nx ρ))
  (aJ (bH (bB (aA gGt (ao 1) (aA lC (runC (.int 10)) (runC (.int 7))))) (aO [0] (aA oR (aA cI (au 2 0 [0] [0, 1] (cl 4) (aj (ao 0) (aj (aA lC (runC (.int 10)) (runC (.int 7))) ak)) ak) (aA dH (aA lC (runC (.int 10)) (runC (.int 7))) (au 2 0 [0] [0, 1] (cl 4) (aj (ao 0) (aj (aA cI (aA CQ (aA gSub (ao 1) (runC (.int 1))) (aA lC (runC (.int 10)) (runC (.int 7)))) (runC (.int 1))) ak)) ak))) (ao 1))) (fun ρ => .ok .nx ρ))
  (aJ (oJ 0 (aA cI (aA eZ (ao 0) (runC (.int 2))) (runC (.int 1))) (runC (.int 2)))
  (aJ (aR false 3 (aA oR (aA lC (aA cI (aA eZ (ao 0) (runC (.int 1))) (aA dH (runC (.int 48271)) (aA eZ (ao 0) (runC (.int 2))))) (runC (.int 5))) (runC (.int 2147483647))))
  (aO [0] (aA oR (aA CQ (aA oR (aA cI (aA dH (ao 3) (aA cI (aA oR (ao 3) (runC (.int 30011))) (runC (.int 7)))) (aA dH (aA eZ (ao 0) (runC (.int 2))) (runC (.int 7919)))) (runC (.int 2147483629))) (runC (.int 64))) (ao 1)))))))
def mD (cl : Nat → List En → R En) : aq → R Fl :=
  (aO [0] (aA eZ (ao 1) (au 2 0 [0] [0, 1] (cl 4) (aj (ao 0) (aj (aN dW (aj (ao 1) ak)) ak)) ak)))
def mH (cl : Nat → List En → R En) : aq → R Fl :=
  (aJ (bH (kJ (pQ ["list", "tuple"] (ao 1))) (aJ (bH (eG (bB (aA (fW true) (fj "list" (ao 0)) (fj "list" (ao 1)))) (bB (aA (fW true) (fj "tuple" (ao 0)) (fj "tuple" (ao 1))))) (aO [] (runC (.bl false))) (fun ρ => .ok .nx ρ))
  (aO [] (dU (aA (fW false) (aN dW (aj (ao 0) ak)) (aN dW (aj (ao 1) ak))) (aN zV (aj (iz [2, 3] (fJ (ao 0) (ao 1)) (bW (.t [(.n 2), (.n 3)])) dB (aM (au 2 0 [] [0, 1] (cl 6) (aj (cJ 2) (aj (cJ 3) ak)) ak))) ak))))) (fun ρ => .ok .nx ρ))
  (aJ (bH (eG (bB (aA (jL false) (ao 1) (runC .non))) (kJ (fj "str" (ao 1)))) (aO [] (dU (aA (fW false) (ao 0) (ao 1)) (aA (fW false) (fj "str" (ao 0)) (fj "str" (ao 1))))) (fun ρ => .ok .nx ρ))
  (aO [] (dU (fj "int" (ao 0)) (dU (aA (fW false) (fj "bool" (ao 0)) (fj "bool" (ao 1))) (aA (fW false) (ao 0) (ao 1)))))))
def jy (cl : Nat → List En → R En) : aq → R Fl :=
  (aJ (jM true true 2 3 (aN Bb (aj (ao 1) ak)) (aP ak))
  (aJ (runFor (gD (aj (aN dW (aj (ao 2) ak)) ak)) (bW (.n 4)) (iJ (dI 3 dZ (aj (aM (dI 2 oK (aj (au 2 0 [0] [0, 1] (cl 4) (aj (ao 0) (aj (aN dW (aj (ao 2) ak)) ak)) ak) ak))) ak))))
  (aO [0] (ao 3))))
def jX (cl : Nat → List En → R En) : aq → R Fl :=
  (aO [] (bH (kJ (pQ ["list", "tuple"] (ao 0))) (iz [1] (bY (ao 0)) (bW (.n 1)) dB (aM (au 1 0 [] [0] (cl 8) (aj (cJ 1) ak) ak))) (ao 0)))
def fU (cl : Nat → List En → R En) : aq → R Fl :=
  (aJ (aR false 3 (au 2 0 [0] [0, 1] (cl 7) (aj (ao 0) (aj (aM (lW (ao 1))) ak)) ak))
  (aO [0] (aK (aj (aN g8 (aj (ao 3) ak)) (aj (aN g8 (aj (iz [4] (gD (aj (ao 1) ak)) (bW (.n 4)) dB (aM (au 2 0 [0] [0, 1] (cl 4) (aj (ao 0) (aj (aA cI (ao 2) (runC (.int 1))) ak)) ak))) ak)) ak)))))
def jY (cl : Nat → List En → R En) : aq → R Fl :=
  (aJ (runFor (zA (aA eZ (ao 0) (runC (.int 0))) (aA eZ (ao 0) (runC (.int 1))) (ao 1)) (bW (.t [(.t [(.n 2), (.n 3)]), (.t [(.n 4), (.n 5)])])) (bH (eG (gH (bB (aA (jL true) (ao 4) (runC .non))) (bB (aA (fW true) (ao 2) (ao 4)))) (gH (bB (aA (jL true) (ao 5) (runC .non))) (bB (aA (fW true) (ao 3) (ao 5))))) (aO [] (runC (.bl false))) (fun ρ => .ok .nx ρ)))
  (aO [] (runC (.bl true))))
def jc (cl : Nat → List En → R En) : aq → R Fl :=
  (aJ (aR false 1 (aA cI (runC (.int 2)) (au 2 0 [0] [0, 1] (cl 4) (aj (ao 0) (aj (runC (.int 11)) ak)) ak)))
  (aJ (aR false 2 (au 3 0 [0] [0, 1, 2] (cl 9) (aj (ao 0) (aj (ao 1) (aj (aM (au 2 0 [0] [0, 1] (cl 5) (aj (ao 0) (aj (aM (aP (aj (runC (.int 1)) (aj (runC (.int 9)) (aj (aA dH (runC (.int 8)) (aA lC (runC (.int 10)) (runC (.int 38)))) ak))))) ak)) ak)) ak))) ak))
  (aJ (jM false false 3 4 (aN mZ (aj (ao 2) ak)) (au 1 0 [] [0] (cl 8) (aj (ao 2) ak) ak))
  (aJ (runFor (gD (aj (runC (.int 8)) ak)) (bW (.n 5)) (aJ (aR true 6 (aP ak))
  (aJ (runFor (fJ (aA eZ (ao 2) (runC (.int 0))) (aA eZ (ao 2) (runC (.int 1)))) (bW (.t [(.n 7), (.n 8)])) (aJ (aR false 9 (aA (fW false) (au 2 0 [0] [0, 1] (cl 4) (aj (ao 0) (aj (aA dH (runC (.int 6)) (aA cI (runC (.int 1)) (ao 5))) ak)) ak) (runC (.int 0))))
  (aJ (aR false 7 (bH (dR (kJ (ao 9))) (au 2 0 [0] [0, 1] (cl 5) (aj (ao 0) (aj (aM (aP (aj (ao 7) (aj (runC .non) ak)))) ak)) ak) (au 2 0 [0] [0, 1] (cl 4) (aj (ao 0) (aj (aA cI (ao 1) (runC (.int 2))) ak)) ak)))
  (iJ (dI 6 dZ (aj (aK (aj (ao 7) (aj (aM (au 2 0 [0] [0, 1] (cl 5) (aj (ao 0) (aj (aM (aP (aj (ao 8) (aj (runC .non) (aj (aA cI (ao 8) (aN sE (aj (aA (fW false) (au 2 0 [0] [0, 1] (cl 4) (aj (ao 0) (aj (runC (.int 20)) ak)) ak) (runC (.int 0))) ak))) ak))))) ak)) ak)) ak))) ak))))))
  (aJ (jM false true 10 6 (au 2 0 [] [0, 1] (cl 10) (aj (ao 2) (aj (aM (ao 6)) ak)) ak) (aN g8 (aj (ao 6) ak)))
  (aJ (aR false 11 (aP (aj (aM (au 2 0 [] [0, 1] (cl 2) (aj (ao 2) (aj (aM (ao 6)) ak)) ak)) (aj (aM (au 0 2 [] [1, 0] (cl 2) ak (aj (aM (au 1 0 [] [0] (cl 8) (aj (aM (ao 6)) ak) ak)) (aj (ao 4) ak)))) (aj (aM (au 2 0 [] [0, 1] (cl 2) (aj (ao 4) (aj (aM (ao 6)) ak)) ak)) ak)))))
  (bH (dR (kJ (au 2 0 [] [0, 1] (cl 6) (aj (ao 11) (aj (aM (aA dH (aP (aj (ao 10) ak)) (runC (.int 3)))) ak)) ak))) (aO [0] (runC (.bl false))) (fun ρ => .ok .nx ρ)))))))
  (aJ (aR false 12 (oY (aA eZ (ao 2) (runC (.int 0))) (aA eZ (ao 2) (runC (.int 1)))))
  (aJ (aR false 11 (aP (aj (aM (au 2 0 [] [0, 1] (cl 2) (aj (ao 2) (aj (ao 12) ak)) ak)) (aj (aM (au 2 0 [] [0, 1] (cl 2) (aj (ao 2) (aj (aA dH (aK (aj (aK (aj (runC .non) (aj (runC .non) ak))) ak)) (ao 1)) ak)) ak)) ak))))
  (aO [0] (dU (au 2 0 [] [0, 1] (cl 6) (aj (ao 11) (aj (aM (aP (aj (runC (.bl true)) (aj (runC (.bl true)) ak)))) ak)) ak) (dU (aA (fW false) (aN mZ (aj (ao 2) ak)) (ao 3)) (aA (fW false) (ao 4) (au 1 0 [] [0] (cl 8) (aj (ao 2) ak) ak)))))))))))
def Pn (cl : Nat → List En → R En) : aq → R Fl :=
  (aO [] (aN zV (aj (iz [1] (gD (aj (aA cI (runC (.int 1)) (aN vI (aj (runC (.int 3)) (aj (aN dW (aj (ao 0) ak)) ak)))) ak)) (bW (.n 1)) dB (aM (au 1 0 [0] [0] (cl 11) (aj (au 2 0 [] [0, 1] (cl 3) (aj (ao 0) (aj (cJ 1) ak)) ak) ak) ak))) ak)))
def step (cl : Nat → List En → R En) : Nat → List En → R En
  | 0 => aQ 1 (jw cl)
  | 1 => aQ 2 (jx cl)
  | 2 => aQ 6 (wM cl)
  | 3 => aQ 3 (oZ cl)
  | 4 => aQ 4 (mj cl)
  | 5 => aQ 2 (mD cl)
  | 6 => aQ 4 (mH cl)
  | 7 => aQ 5 (jy cl)
  | 8 => aQ 2 (jX cl)
  | 9 => aQ 5 (fU cl)
  | 10 => aQ 6 (jY cl)
  | 11 => aQ 13 (jc cl)
  | 12 => aQ 2 (Pn cl)
  | _ => fun _ => .bad
def call : Nat → Nat → List En → R En
  | 0 => fun _ _ => .bad
  | k + 1 => step (call k)
end SN
end
section
namespace SN
open PySem PySem.Spec PyProof.Rows L2 DM
def topS (i : Nat) : Stmt := PySem.Challenge.pw_tollround_k34_wishes_that_are_met.main.body.getD i (.Pass ⟨0, 0, 0, 0⟩)
abbrev bM : Stmt := topS 3
theorem zF : FnScope ["state"] ["state"] (defScope bM) := ⟨rfl, rfl, rfl, by decide +kernel, rfl, by decide +kernel, by decide +kernel⟩
abbrev bO : Stmt := topS 4
theorem zG : FnScope ["size", "many"] ["size", "many"] (defScope bO) := ⟨rfl, rfl, rfl, by decide +kernel, rfl, by decide +kernel, by decide +kernel⟩
abbrev gQ : Stmt := topS 6
theorem X5 : FnScope ["state", "wish", "here", "has", "seat", "coins"] ["state", "wish"] (defScope gQ) := ⟨rfl, rfl, rfl, by decide +kernel, rfl, by decide +kernel, by decide +kernel⟩
abbrev dG : Stmt := topS 8
theorem Jr : FnScope ["_law_script", "_law_k", "_law_cell"] ["_law_script", "_law_k"] (defScope dG) := ⟨rfl, rfl, rfl, by decide +kernel, rfl, by decide +kernel, by decide +kernel⟩
abbrev cO : Stmt := topS 9
theorem Fv : FnScope ["_law_box_here", "_law_below", "_law_found", "_law_once"] ["_law_box_here", "_law_below"] (defScope cO) := ⟨rfl, rfl, rfl, by decide +kernel, rfl, by decide +kernel, by decide +kernel⟩
abbrev cQ : Stmt := topS 10
theorem Fw : FnScope ["_law_box_here", "_law_some"] ["_law_box_here", "_law_some"] (defScope cQ) := ⟨rfl, rfl, rfl, by decide +kernel, rfl, by decide +kernel, by decide +kernel⟩
abbrev cU : Stmt := topS 11
theorem Fx : FnScope ["_law_found", "_law_due", "_law_mine", "_law_its"] ["_law_found", "_law_due"] (defScope cU) := ⟨rfl, rfl, rfl, by decide +kernel, rfl, by decide +kernel, by decide +kernel⟩
abbrev bQ : Stmt := topS 12
theorem zH : FnScope ["_law_box_here", "_law_some", "_law_left", "_law_found", "_law_turn"] ["_law_box_here", "_law_some"] (defScope bQ) := ⟨rfl, rfl, rfl, by decide +kernel, rfl, by decide +kernel, by decide +kernel⟩
abbrev bZ : Stmt := topS 13
theorem Ae : FnScope ["_law_matter", "_law_piece"] ["_law_matter"] (defScope bZ) := ⟨rfl, rfl, rfl, by decide +kernel, rfl, by decide +kernel, by decide +kernel⟩
abbrev bh : Stmt := topS 14
theorem uw : FnScope ["_law_box_here", "_law_count", "_law_top", "_law_spots", "_law_who"] ["_law_box_here", "_law_count", "_law_top"] (defScope bh) := ⟨rfl, rfl, rfl, by decide +kernel, rfl, by decide +kernel, by decide +kernel⟩
abbrev cD : Stmt := topS 15
theorem Af : FnScope ["_law_pose", "_law_hope", "_law_spot", "_law_bag", "_law_spot_due", "_law_bag_due"] ["_law_pose", "_law_hope"] (defScope cD) := ⟨rfl, rfl, rfl, by decide +kernel, rfl, by decide +kernel, by decide +kernel⟩
abbrev cG : Stmt := topS 16
theorem Ag : FnScope ["_law_box_here", "_law_count", "_law_pose", "_law_kept", "_law_soft", "_law_turn", "_law_hope", "_law_spot", "_law_bag", "_law_odd", "_law_due", "_law_told", "_law_full"] ["_law_box_here"] (defScope cG) := ⟨rfl, rfl, rfl, by decide +kernel, rfl, by decide +kernel, by decide +kernel⟩
abbrev oA : Stmt := topS 17
theorem adt : FnScope ["_law_script", "_law_k"] ["_law_script"] (defScope oA) := ⟨rfl, rfl, rfl, by decide +kernel, rfl, by decide +kernel, by decide +kernel⟩
abbrev qN : Stmt := aeE (topS 1)
theorem X6 : FnScope ["self", Ar 4] ["self", Ar 4] (defScope qN) := ⟨rfl, rfl, rfl, by decide +kernel, rfl, by decide +kernel, by decide +kernel⟩
theorem X7 : acM qN "ValueError" (Ar 4) := ⟨rfl, ⟨_, _, _, _, _, _, _, _, _, _, rfl, fun _ => ⟨_, rfl⟩⟩, by decide +kernel, by decide +kernel, by decide +kernel, by decide +kernel, by decide +kernel⟩
structure Facts (M : Wd) (fA : Nat → Addr) (fD : Nat → FuncData) : Prop where
  f0 : Fun M.K "people_many" "people_many" bM (fA 0) (fD 0)
  m0 : M.mg "people_many" = some (.ref (fA 0))
  k0 : PySem.W.keepIn M.K (.ref (fA 0)) = true
  f1 : Fun M.K "look_people" "look_people" bO (fA 1) (fD 1)
  m1 : M.mg "look_people" = some (.ref (fA 1))
  k1 : PySem.W.keepIn M.K (.ref (fA 1)) = true
  f2 : Fun M.K "meets" "meets" gQ (fA 2) (fD 2)
  m2 : M.mg "meets" = some (.ref (fA 2))
  k2 : PySem.W.keepIn M.K (.ref (fA 2)) = true
  f3 : Fun M.K "_law_box" "_law_box" dG (fA 3) (fD 3)
  m3 : M.mg "_law_box" = some (.ref (fA 3))
  k3 : PySem.W.keepIn M.K (.ref (fA 3)) = true
  f4 : Fun M.K "_law_take" "_law_take" cO (fA 4) (fD 4)
  m4 : M.mg "_law_take" = some (.ref (fA 4))
  k4 : PySem.W.keepIn M.K (.ref (fA 4)) = true
  f5 : Fun M.K "_law_pick" "_law_pick" cQ (fA 5) (fD 5)
  m5 : M.mg "_law_pick" = some (.ref (fA 5))
  k5 : PySem.W.keepIn M.K (.ref (fA 5)) = true
  f6 : Fun M.K "_law_same" "_law_same" cU (fA 6) (fD 6)
  m6 : M.mg "_law_same" = some (.ref (fA 6))
  k6 : PySem.W.keepIn M.K (.ref (fA 6)) = true
  f7 : Fun M.K "_law_strewn" "_law_strewn" bQ (fA 7) (fD 7)
  m7 : M.mg "_law_strewn" = some (.ref (fA 7))
  k7 : PySem.W.keepIn M.K (.ref (fA 7)) = true
  f8 : Fun M.K "_law_lists" "_law_lists" bZ (fA 8) (fD 8)
  m8 : M.mg "_law_lists" = some (.ref (fA 8))
  k8 : PySem.W.keepIn M.K (.ref (fA 8)) = true
  f9 : Fun M.K "_law_some_pose" "_law_some_pose" bh (fA 9) (fD 9)
  m9 : M.mg "_law_some_pose" = some (.ref (fA 9))
  k9 : PySem.W.keepIn M.K (.ref (fA 9)) = true
  f10 : Fun M.K "_law_meets" "_law_meets" cD (fA 10) (fD 10)
  m10 : M.mg "_law_meets" = some (.ref (fA 10))
  k10 : PySem.W.keepIn M.K (.ref (fA 10)) = true
  f11 : Fun M.K "_law_right" "_law_right" cG (fA 11) (fD 11)
  m11 : M.mg "_law_right" = some (.ref (fA 11))
  k11 : PySem.W.keepIn M.K (.ref (fA 11)) = true
  f12 : Fun M.K "law" "law" oA (fA 12) (fD 12)
  m12 : M.mg "law" = some (.ref (fA 12))
  k12 : PySem.W.keepIn M.K (.ref (fA 12)) = true
  x4 : Aa M 4
  r4 : Cls M 4 "ValueError"
  jd : M.mg "ValueError" = none
  Ck : M.mg "abs" = none
  Cm : M.mg "all" = none
  vq : M.mg "bool" = none
  zJ : M.mg "int" = none
  bf : M.mg "isinstance" = none
  oE : M.mg "len" = none
  mW : M.mg "list" = none
  Jt : M.mg "min" = none
  jZ : M.mg "range" = none
  vA : M.mg "repr" = none
  zK : M.mg "str" = none
  gR : M.mg "tuple" = none
  uD : M.mg "zip" = none
theorem Facts.hk {M : Wd} {fA : Nat → Addr} {fD : Nat → FuncData} (E : Facts M fA fD) : ∀ c ∈ ([4] : List Nat), Aa M c := fun c hc => by
  simp only [List.mem_cons, List.not_mem_nil, or_false] at hc
  rcases hc with rfl
  · exact E.x4
theorem vB {K : PySem.W.Frag} {f : Addr} {fd : FuncData} (h : Fun K "look_people" "look_people" bO f fd) : dJ fd ["size", "many"] [] 2 [0, 1] := by
  obtain ⟨oc, od, kV, doc, pm, an, cdv, ct, osl, rfl, lk, hcd⟩ := h.ex
  exact ⟨fun us ws h1 h2 => match us, ws, h1, h2 with | [_, _], [], _, _ => rfl⟩
theorem vC {K : PySem.W.Frag} {f : Addr} {fd : FuncData} (h : Fun K "people_many" "people_many" bM f fd) : dJ fd ["state"] [] 1 [0] := by
  obtain ⟨oc, od, kV, doc, pm, an, cdv, ct, osl, rfl, lk, hcd⟩ := h.ex
  exact ⟨fun us ws h1 h2 => match us, ws, h1, h2 with | [_], [], _, _ => rfl⟩
theorem cH {K : PySem.W.Frag} {f : Addr} {fd : FuncData} (h : Fun K "_law_take" "_law_take" cO f fd) : dJ fd ["_law_box_here", "_law_below"] [] 2 [0, 1] := by
  obtain ⟨oc, od, kV, doc, pm, an, cdv, ct, osl, rfl, lk, hcd⟩ := h.ex
  exact ⟨fun us ws h1 h2 => match us, ws, h1, h2 with | [_, _], [], _, _ => rfl⟩
theorem lM {K : PySem.W.Frag} {f : Addr} {fd : FuncData} (h : Fun K "_law_same" "_law_same" cU f fd) : dJ fd ["_law_found", "_law_due"] [] 2 [0, 1] := by
  obtain ⟨oc, od, kV, doc, pm, an, cdv, ct, osl, rfl, lk, hcd⟩ := h.ex
  exact ⟨fun us ws h1 h2 => match us, ws, h1, h2 with | [_, _], [], _, _ => rfl⟩
theorem gW {K : PySem.W.Frag} {f : Addr} {fd : FuncData} (h : Fun K "_law_lists" "_law_lists" bZ f fd) : dJ fd ["_law_matter"] [] 1 [0] := by
  obtain ⟨oc, od, kV, doc, pm, an, cdv, ct, osl, rfl, lk, hcd⟩ := h.ex
  exact ⟨fun us ws h1 h2 => match us, ws, h1, h2 with | [_], [], _, _ => rfl⟩
theorem vD {K : PySem.W.Frag} {f : Addr} {fd : FuncData} (h : Fun K "_law_strewn" "_law_strewn" bQ f fd) : dJ fd ["_law_box_here", "_law_some"] [] 2 [0, 1] := by
  obtain ⟨oc, od, kV, doc, pm, an, cdv, ct, osl, rfl, lk, hcd⟩ := h.ex
  exact ⟨fun us ws h1 h2 => match us, ws, h1, h2 with | [_, _], [], _, _ => rfl⟩
theorem pq {K : PySem.W.Frag} {f : Addr} {fd : FuncData} (h : Fun K "meets" "meets" gQ f fd) : dJ fd ["state", "wish"] [] 2 [0, 1] := by
  obtain ⟨oc, od, kV, doc, pm, an, cdv, ct, osl, rfl, lk, hcd⟩ := h.ex
  exact ⟨fun us ws h1 h2 => match us, ws, h1, h2 with | [_, _], [], _, _ => rfl⟩
theorem pH {K : PySem.W.Frag} {f : Addr} {fd : FuncData} (h : Fun K "meets" "meets" gQ f fd) : dJ fd ["state", "wish"] ["wish", "state"] 0 [1, 0] := by
  obtain ⟨oc, od, kV, doc, pm, an, cdv, ct, osl, rfl, lk, hcd⟩ := h.ex
  exact ⟨fun us ws h1 h2 => match us, ws, h1, h2 with | [], [_, _], _, _ => rfl⟩
theorem vY {K : PySem.W.Frag} {f : Addr} {fd : FuncData} (h : Fun K "_law_meets" "_law_meets" cD f fd) : dJ fd ["_law_pose", "_law_hope"] [] 2 [0, 1] := by
  obtain ⟨oc, od, kV, doc, pm, an, cdv, ct, osl, rfl, lk, hcd⟩ := h.ex
  exact ⟨fun us ws h1 h2 => match us, ws, h1, h2 with | [_, _], [], _, _ => rfl⟩
theorem lN {K : PySem.W.Frag} {f : Addr} {fd : FuncData} (h : Fun K "_law_pick" "_law_pick" cQ f fd) : dJ fd ["_law_box_here", "_law_some"] [] 2 [0, 1] := by
  obtain ⟨oc, od, kV, doc, pm, an, cdv, ct, osl, rfl, lk, hcd⟩ := h.ex
  exact ⟨fun us ws h1 h2 => match us, ws, h1, h2 with | [_, _], [], _, _ => rfl⟩
theorem qP {K : PySem.W.Frag} {f : Addr} {fd : FuncData} (h : Fun K "_law_some_pose" "_law_some_pose" bh f fd) : dJ fd ["_law_box_here", "_law_count", "_law_top"] [] 3 [0, 1, 2] := by
  obtain ⟨oc, od, kV, doc, pm, an, cdv, ct, osl, rfl, lk, hcd⟩ := h.ex
  exact ⟨fun us ws h1 h2 => match us, ws, h1, h2 with | [_, _, _], [], _, _ => rfl⟩
theorem vZ {K : PySem.W.Frag} {f : Addr} {fd : FuncData} (h : Fun K "_law_right" "_law_right" cG f fd) : dJ fd ["_law_box_here"] [] 1 [0] := by
  obtain ⟨oc, od, kV, doc, pm, an, cdv, ct, osl, rfl, lk, hcd⟩ := h.ex
  exact ⟨fun us ws h1 h2 => match us, ws, h1, h2 with | [_], [], _, _ => rfl⟩
theorem Ah {K : PySem.W.Frag} {f : Addr} {fd : FuncData} (h : Fun K "_law_box" "_law_box" dG f fd) : dJ fd ["_law_script", "_law_k"] [] 2 [0, 1] := by
  obtain ⟨oc, od, kV, doc, pm, an, cdv, ct, osl, rfl, lk, hcd⟩ := h.ex
  exact ⟨fun us ws h1 h2 => match us, ws, h1, h2 with | [_, _], [], _, _ => rfl⟩
structure dX (M : Wd) (fA : Nat → Addr) (fD : Nat → FuncData) (k : Nat) : Prop where
  o0 : mO M.P M.w M.K M.mg M.base (k + 2) (fA 0) (fD 0) ["state"] (mX M.K 1 [] [] (fM M.K) (call k 0))
  o1 : mO M.P M.w M.K M.mg M.base (k + 2) (fA 1) (fD 1) ["size", "many"] (mX M.K 2 [] [] (fM M.K) (call k 1))
  o2 : mO M.P M.w M.K M.mg M.base (k + 2) (fA 2) (fD 2) ["state", "wish"] (mX M.K 2 [] [] (fM M.K) (call k 2))
  o3 : mO M.P M.w M.K M.mg M.base (k + 2) (fA 3) (fD 3) ["_law_script", "_law_k"] (mX M.K 2 [] [] (fM M.K) (call k 3))
  o4 : mO M.P M.w M.K M.mg M.base (k + 2) (fA 4) (fD 4) ["_law_box_here", "_law_below"] (mX M.K 2 [0] [] (fM M.K) (call k 4))
  o5 : mO M.P M.w M.K M.mg M.base (k + 2) (fA 5) (fD 5) ["_law_box_here", "_law_some"] (mX M.K 2 [0] [] (fM M.K) (call k 5))
  o6 : mO M.P M.w M.K M.mg M.base (k + 2) (fA 6) (fD 6) ["_law_found", "_law_due"] (mX M.K 2 [] [2, 3] (fM M.K) (call k 6))
  o7 : mO M.P M.w M.K M.mg M.base (k + 2) (fA 7) (fD 7) ["_law_box_here", "_law_some"] (mX M.K 2 [0] [] (fM M.K) (call k 7))
  o8 : mO M.P M.w M.K M.mg M.base (k + 2) (fA 8) (fD 8) ["_law_matter"] (mX M.K 1 [] [1] (fM M.K) (call k 8))
  o9 : mO M.P M.w M.K M.mg M.base (k + 2) (fA 9) (fD 9) ["_law_box_here", "_law_count", "_law_top"] (mX M.K 3 [0] [4] (fM M.K) (call k 9))
  o10 : mO M.P M.w M.K M.mg M.base (k + 2) (fA 10) (fD 10) ["_law_pose", "_law_hope"] (mX M.K 2 [] [] (fM M.K) (call k 10))
  o11 : mO M.P M.w M.K M.mg M.base (k + 2) (fA 11) (fD 11) ["_law_box_here"] (mX M.K 1 [0] [] (fM M.K) (call k 11))
  o12 : mO M.P M.w M.K M.mg M.base (k + 2) (fA 12) (fD 12) ["_law_script"] (mX M.K 1 [] [1] (fM M.K) (call k 12))
end SN
end
section
namespace SN
open PySem PySem.Spec PyProof.Rows L2 DM
section
variable {M : Wd} {fA : Nat → Addr} {fD : Nat → FuncData} {k : Nat}
theorem Ai (E : Facts M fA fD) (h : dX M fA fD k) (X : Cx) (W : WX) (G : Ctx M X ⟨M.K, [], []⟩ W (k + 2) ["state"] (defScope bM).names (fun _ => true)) (po : PassesOwn (model X.prog X.w) X.A X.env X.xe) (fr : Oa X) : JB (fM M.K) X ⟨M.K, [], []⟩ W (defBody bM) (jw (call k)) := by
  unfold jw
  show JB (fM M.K) X ⟨M.K, [], []⟩ W (_ :: _) _
  exact (JB.one (JS.ret (JE.fn G sJ E.oE (by decide +kernel) (JA.cons (JE.ix G (JE.var G 0 (by decide +kernel) (by decide +kernel) rfl) JE.int) JA.nil))))
theorem zM (E : Facts M fA fD) (h : dX M fA fD k) : mO M.P M.w M.K M.mg M.base (k + 3) (fA 0) (fD 0) ["state"] (mX M.K 1 [] [] (fM M.K) (call (k + 1) 0)) :=
  vf (N := ["state"]) (ps := ["state"]) (XR := fM M.K) (L := []) (cs := []) (body := jw (call k)) E.f0 zF rfl fun X W G po fr => Ai E h X W G po fr
theorem Aj (E : Facts M fA fD) (h : dX M fA fD k) (X : Cx) (W : WX) (G : Ctx M X ⟨M.K, [], []⟩ W (k + 2) ["size", "many"] (defScope bO).names (fun _ => true)) (po : PassesOwn (model X.prog X.w) X.A X.env X.xe) (fr : Oa X) : JB (fM M.K) X ⟨M.K, [], []⟩ W (defBody bO) (jx (call k)) := by
  unfold jx
  show JB (fM M.K) X ⟨M.K, [], []⟩ W (_ :: _) _
  exact (JB.one (JS.if (JT.cmp G G3 (JE.var G 0 (by decide +kernel) (by decide +kernel) rfl) (JE.var G 1 (by decide +kernel) (by decide +kernel) rfl)) (JB.one (JS.raise (jT := 4) G E.r4 rfl (by decide +kernel) (JE.var G 1 (by decide +kernel) (by decide +kernel) rfl))) JB.nil))
theorem zN (E : Facts M fA fD) (h : dX M fA fD k) : mO M.P M.w M.K M.mg M.base (k + 3) (fA 1) (fD 1) ["size", "many"] (mX M.K 2 [] [] (fM M.K) (call (k + 1) 1)) :=
  vf (N := ["size", "many"]) (ps := ["size", "many"]) (XR := fM M.K) (L := []) (cs := []) (body := jx (call k)) E.f1 zG rfl fun X W G po fr => Aj E h X W G po fr
theorem aaF (E : Facts M fA fD) (h : dX M fA fD k) (X : Cx) (W : WX) (G : Ctx M X ⟨M.K, [], []⟩ W (k + 2) ["state", "wish", "here", "has", "seat", "coins"] (defScope gQ).names (fun _ => true)) (po : PassesOwn (model X.prog X.w) X.A X.env X.xe) (fr : Oa X) : JB (fM M.K) X ⟨M.K, [], []⟩ W (defBody gQ) (wM (call k)) := by
  unfold wM
  show JB (fM M.K) X ⟨M.K, [], []⟩ W (_ :: _) _
  exact (JB.cons (JS.ex (JE.call G h.o1 E.m1 E.k1 (vB E.f1) (by decide +kernel) (by decide +kernel) (JA.cons (JE.F (JE.call G h.o0 E.m0 E.k0 (vC E.f0) (by decide +kernel) (by decide +kernel) (JA.cons (JE.var G 0 (by decide +kernel) (by decide +kernel) rfl) JA.nil))) (JA.cons (JE.fn G sJ E.oE (by decide +kernel) (JA.cons (JE.var G 1 (by decide +kernel) (by decide +kernel) rfl) JA.nil)) JA.nil))))
  (JB.cons (JS.for G po (JI.aeP G E.uD (by decide +kernel) (JE.ix G (JE.var G 0 (by decide +kernel) (by decide +kernel) rfl) JE.int) (JE.ix G (JE.var G 0 (by decide +kernel) (by decide +kernel) rfl) JE.int) (JE.var G 1 (by decide +kernel) (by decide +kernel) rfl)) (JG.t G (uF.cons (JG.n G 2 (by decide +kernel) (by decide +kernel) rfl) (uF.cons (JG.n G 3 (by decide +kernel) (by decide +kernel) rfl) (uF.cons (JG.t G (uF.cons (JG.n G 4 (by decide +kernel) (by decide +kernel) rfl) (uF.cons (JG.n G 5 (by decide +kernel) (by decide +kernel) rfl) uF.nil)) rfl) uF.nil))) rfl) (JB.one (JS.if (JW.pt (JW.or (JT.cmp G BP (JE.var G 4 (by decide +kernel) (by decide +kernel) rfl) (JE.tup (JA.cons JE.non (JA.cons (JE.var G 2 (by decide +kernel) (by decide +kernel) rfl) JA.nil)))) (JW.or1 (JT.cmp G BP (JE.var G 5 (by decide +kernel) (by decide +kernel) rfl) (JE.tup (JA.cons JE.non (JA.cons (JE.var G 3 (by decide +kernel) (by decide +kernel) rfl) JA.nil))))))) (JB.one (JS.ret JE.bl)) JB.nil)))
  (JB.one (JS.ret JE.bl))))
theorem X8 (E : Facts M fA fD) (h : dX M fA fD k) : mO M.P M.w M.K M.mg M.base (k + 3) (fA 2) (fD 2) ["state", "wish"] (mX M.K 2 [] [] (fM M.K) (call (k + 1) 2)) :=
  vf (N := ["state", "wish", "here", "has", "seat", "coins"]) (ps := ["state", "wish"]) (XR := fM M.K) (L := []) (cs := []) (body := wM (call k)) E.f2 X5 rfl fun X W G po fr => aaF E h X W G po fr
theorem Mv (E : Facts M fA fD) (h : dX M fA fD k) (X : Cx) (W : WX) (G : Ctx M X ⟨M.K, [], []⟩ W (k + 2) ["_law_script", "_law_k", "_law_cell"] (defScope dG).names (fun _ => true)) (po : PassesOwn (model X.prog X.w) X.A X.env X.xe) (fr : Oa X) : JB (fM M.K) X ⟨M.K, [], []⟩ W (defBody dG) (oZ (call k)) := by
  unfold oZ
  show JB (fM M.K) X ⟨M.K, [], []⟩ W (_ :: _) _
  exact (JB.cons (JS.asg (keep := false) G 2 (by decide +kernel) (by decide +kernel) rfl (JE.ife (JT.cmp G ael (JE.var G 1 (by decide +kernel) (by decide +kernel) rfl) (JE.fn G sJ E.oE (by decide +kernel) (JA.cons (JE.var G 0 (by decide +kernel) (by decide +kernel) rfl) JA.nil))) (JE.ix G (JE.var G 0 (by decide +kernel) (by decide +kernel) rfl) (JE.var G 1 (by decide +kernel) (by decide +kernel) rfl)) JE.int))
  (JB.one (JS.ret (JE.lst (JA.cons (JE.op G mQ (JE.fn G aa2 E.Ck (by decide +kernel) (JA.cons (JE.var G 2 (by decide +kernel) (by decide +kernel) rfl) JA.nil)) (JE.ty G aa4 E.zJ (by decide +kernel) (JA.cons (JE.cmp G aem (JE.fn G aa2 E.Ck (by decide +kernel) (JA.cons (JE.var G 2 (by decide +kernel) (by decide +kernel) rfl) JA.nil)) (JE.op G rD JE.int JE.int)) JA.nil))) (JA.cons (JE.op G iU (JE.op G iU (JE.op G rC (JE.var G 2 (by decide +kernel) (by decide +kernel) rfl) JE.int) (JE.op G mQ JE.int (JE.var G 1 (by decide +kernel) (by decide +kernel) rfl))) JE.int) (JA.cons JE.int JA.nil)))))))
theorem Ju (E : Facts M fA fD) (h : dX M fA fD k) : mO M.P M.w M.K M.mg M.base (k + 3) (fA 3) (fD 3) ["_law_script", "_law_k"] (mX M.K 2 [] [] (fM M.K) (call (k + 1) 3)) :=
  vf (N := ["_law_script", "_law_k", "_law_cell"]) (ps := ["_law_script", "_law_k"]) (XR := fM M.K) (L := []) (cs := []) (body := oZ (call k)) E.f3 Jr rfl fun X W G po fr => Mv E h X W G po fr
theorem Jv (E : Facts M fA fD) (h : dX M fA fD k) (X : Cx) (W : WX) (G : Ctx M X ⟨M.K, [0], []⟩ W (k + 2) ["_law_box_here", "_law_below", "_law_found", "_law_once"] (defScope cO).names (fun _ => true)) (po : PassesOwn (model X.prog X.w) X.A X.env X.xe) (fr : Oa X) : JB (fM M.K) X ⟨M.K, [0], []⟩ W (defBody cO) (mj (call k)) := by
  unfold mj
  show JB (fM M.K) X ⟨M.K, [0], []⟩ W (_ :: _) _
  exact (JB.cons (JS.if (JT.cmp G aa1 (JE.ix G (JE.var G 0 (by decide +kernel) (by decide +kernel) rfl) JE.int) JE.int) (JB.cons (JS.asg (keep := false) G 2 (by decide +kernel) (by decide +kernel) rfl (JE.op G rC (JE.ix G (JE.var G 0 (by decide +kernel) (by decide +kernel) rfl) JE.int) (JE.var G 1 (by decide +kernel) (by decide +kernel) rfl)))
  (JB.cons (JS.sto G 0 (by decide +kernel) (by decide +kernel) (JE.op G Kh (JE.ix G (JE.var G 0 (by decide +kernel) (by decide +kernel) rfl) JE.int) (JE.var G 1 (by decide +kernel) (by decide +kernel) rfl)) JE.int)
  (JB.one (JS.ret (JE.var G 2 (by decide +kernel) (by decide +kernel) rfl))))) JB.nil)
  (JB.cons (JS.if (JT.cmp G aa1 (JE.var G 1 (by decide +kernel) (by decide +kernel) rfl) (JE.op G rD JE.int JE.int)) (JB.one (JS.ret (JE.op G rC (JE.op G iU (JE.call G h.o4 E.m4 E.k4 (cH E.f4) (by decide +kernel) (by decide +kernel) (JA.cons (JE.var G 0 (by decide +kernel) (by decide +kernel) rfl) (JA.cons (JE.op G rD JE.int JE.int) JA.nil))) (JE.op G mQ (JE.op G rD JE.int JE.int) (JE.call G h.o4 E.m4 E.k4 (cH E.f4) (by decide +kernel) (by decide +kernel) (JA.cons (JE.var G 0 (by decide +kernel) (by decide +kernel) rfl) (JA.cons (JE.op G iU (JE.op G Kh (JE.op G ab5 (JE.var G 1 (by decide +kernel) (by decide +kernel) rfl) JE.int) (JE.op G rD JE.int JE.int)) JE.int) JA.nil))))) (JE.var G 1 (by decide +kernel) (by decide +kernel) rfl)))) JB.nil)
  (JB.cons (JS.sto G 0 (by decide +kernel) (by decide +kernel) (JE.op G iU (JE.ix G (JE.var G 0 (by decide +kernel) (by decide +kernel) rfl) JE.int) JE.int) JE.int)
  (JB.cons (JS.asg (keep := false) G 3 (by decide +kernel) (by decide +kernel) rfl (JE.op G rC (JE.op G rD (JE.op G iU (JE.ix G (JE.var G 0 (by decide +kernel) (by decide +kernel) rfl) JE.int) (JE.op G mQ JE.int (JE.ix G (JE.var G 0 (by decide +kernel) (by decide +kernel) rfl) JE.int))) JE.int) JE.int))
  (JB.one (JS.ret (JE.op G rC (JE.op G Kh (JE.op G rC (JE.op G iU (JE.op G mQ (JE.var G 3 (by decide +kernel) (by decide +kernel) rfl) (JE.op G iU (JE.op G rC (JE.var G 3 (by decide +kernel) (by decide +kernel) rfl) JE.int) JE.int)) (JE.op G mQ (JE.ix G (JE.var G 0 (by decide +kernel) (by decide +kernel) rfl) JE.int) JE.int)) JE.int) JE.int) (JE.var G 1 (by decide +kernel) (by decide +kernel) rfl))))))))
theorem Fy (E : Facts M fA fD) (h : dX M fA fD k) : mO M.P M.w M.K M.mg M.base (k + 3) (fA 4) (fD 4) ["_law_box_here", "_law_below"] (mX M.K 2 [0] [] (fM M.K) (call (k + 1) 4)) :=
  vf (N := ["_law_box_here", "_law_below", "_law_found", "_law_once"]) (ps := ["_law_box_here", "_law_below"]) (XR := fM M.K) (L := [0]) (cs := []) (body := mj (call k)) E.f4 Fv rfl fun X W G po fr => Jv E h X W G po fr
theorem Jw (E : Facts M fA fD) (h : dX M fA fD k) (X : Cx) (W : WX) (G : Ctx M X ⟨M.K, [0], []⟩ W (k + 2) ["_law_box_here", "_law_some"] (defScope cQ).names (fun _ => true)) (po : PassesOwn (model X.prog X.w) X.A X.env X.xe) (fr : Oa X) : JB (fM M.K) X ⟨M.K, [0], []⟩ W (defBody cQ) (mD (call k)) := by
  unfold mD
  show JB (fM M.K) X ⟨M.K, [0], []⟩ W (_ :: _) _
  exact (JB.one (JS.ret (JE.ix G (JE.var G 1 (by decide +kernel) (by decide +kernel) rfl) (JE.call G h.o4 E.m4 E.k4 (cH E.f4) (by decide +kernel) (by decide +kernel) (JA.cons (JE.var G 0 (by decide +kernel) (by decide +kernel) rfl) (JA.cons (JE.fn G sJ E.oE (by decide +kernel) (JA.cons (JE.var G 1 (by decide +kernel) (by decide +kernel) rfl) JA.nil)) JA.nil))))))
theorem FJ (E : Facts M fA fD) (h : dX M fA fD k) : mO M.P M.w M.K M.mg M.base (k + 3) (fA 5) (fD 5) ["_law_box_here", "_law_some"] (mX M.K 2 [0] [] (fM M.K) (call (k + 1) 5)) :=
  vf (N := ["_law_box_here", "_law_some"]) (ps := ["_law_box_here", "_law_some"]) (XR := fM M.K) (L := [0]) (cs := []) (body := mD (call k)) E.f5 Fw rfl fun X W G po fr => Jw E h X W G po fr
theorem Jx (E : Facts M fA fD) (h : dX M fA fD k) (X : Cx) (W : WX) (G : Ctx M X ⟨M.K, [], [2, 3]⟩ W (k + 2) ["_law_found", "_law_due", "_law_mine", "_law_its"] (defScope cU).names (fun _ => true)) (po : PassesOwn (model X.prog X.w) X.A X.env X.xe) (fr : Oa X) : JB (fM M.K) X ⟨M.K, [], [2, 3]⟩ W (defBody cU) (mH (call k)) := by
  unfold mH
  show JB (fM M.K) X ⟨M.K, [], [2, 3]⟩ W (_ :: _) _
  exact (JB.cons (JS.if (JT.tru G (JE.isT (Ts := ["list", "tuple"]) G E.bf (by decide +kernel) (pa_cons (xO G boot_list E.mW (by decide +kernel)) (pa_cons (xO G boot_tuple E.gR (by decide +kernel)) pa_nil)) rfl (JE.var G 1 (by decide +kernel) (by decide +kernel) rfl))) (JB.cons (JS.if (JW.pt (JW.or (JT.cmp G G3 (JE.is (T := "list") G E.bf (by decide +kernel) boot_list E.mW (by decide +kernel) (JE.var G 0 (by decide +kernel) (by decide +kernel) rfl)) (JE.is (T := "list") G E.bf (by decide +kernel) boot_list E.mW (by decide +kernel) (JE.var G 1 (by decide +kernel) (by decide +kernel) rfl))) (JW.or1 (JT.cmp G G3 (JE.is (T := "tuple") G E.bf (by decide +kernel) boot_tuple E.gR (by decide +kernel) (JE.var G 0 (by decide +kernel) (by decide +kernel) rfl)) (JE.is (T := "tuple") G E.bf (by decide +kernel) boot_tuple E.gR (by decide +kernel) (JE.var G 1 (by decide +kernel) (by decide +kernel) rfl)))))) (JB.one (JS.ret JE.bl)) JB.nil)
  (JB.one (JS.ret (JE.and (JE.cmp G sH (JE.fn G sJ E.oE (by decide +kernel) (JA.cons (JE.var G 0 (by decide +kernel) (by decide +kernel) rfl) JA.nil)) (JE.fn G sJ E.oE (by decide +kernel) (JA.cons (JE.var G 1 (by decide +kernel) (by decide +kernel) rfl) JA.nil))) (JE.Kl (JE.fn G aa3 E.Cm (by decide +kernel) (JA.cons (JE.lc G [("_law_mine", 2), ("_law_its", 3)] (by decide +kernel) rfl (JI.zip G E.uD (by decide +kernel) (JE.var G 0 (by decide +kernel) (by decide +kernel) rfl) (JE.var G 1 (by decide +kernel) (by decide +kernel) rfl)) (fun Y G => (JG.t G (uF.cons (JG.n G 2 (by decide +kernel) (by decide +kernel) rfl) (uF.cons (JG.n G 3 (by decide +kernel) (by decide +kernel) rfl) uF.nil)) rfl)) (fun Y G => (JE.F (JE.call G h.o6 E.m6 E.k6 (lM E.f6) (by decide +kernel) (by decide +kernel) (JA.cons (JE.YZ G 2 (by decide +kernel) (by decide +kernel)) (JA.cons (JE.YZ G 3 (by decide +kernel) (by decide +kernel)) JA.nil)))))) JA.nil))))))) JB.nil)
  (JB.cons (JS.if (JW.pt (JW.or (JT.cmp G ab6 (JE.var G 1 (by decide +kernel) (by decide +kernel) rfl) JE.non) (JW.or1 (JT.tru G (JE.is (T := "str") G E.bf (by decide +kernel) boot_str E.zK (by decide +kernel) (JE.var G 1 (by decide +kernel) (by decide +kernel) rfl)))))) (JB.one (JS.ret (JE.and (JE.cmp G sH (JE.var G 0 (by decide +kernel) (by decide +kernel) rfl) (JE.var G 1 (by decide +kernel) (by decide +kernel) rfl)) (JE.Kl (JE.cmp G sH (JE.is (T := "str") G E.bf (by decide +kernel) boot_str E.zK (by decide +kernel) (JE.var G 0 (by decide +kernel) (by decide +kernel) rfl)) (JE.is (T := "str") G E.bf (by decide +kernel) boot_str E.zK (by decide +kernel) (JE.var G 1 (by decide +kernel) (by decide +kernel) rfl))))))) JB.nil)
  (JB.one (JS.ret (JE.and (JE.is (T := "int") G E.bf (by decide +kernel) boot_int E.zJ (by decide +kernel) (JE.var G 0 (by decide +kernel) (by decide +kernel) rfl)) (JE.and (JE.cmp G sH (JE.is (T := "bool") G E.bf (by decide +kernel) boot_bool E.vq (by decide +kernel) (JE.var G 0 (by decide +kernel) (by decide +kernel) rfl)) (JE.is (T := "bool") G E.bf (by decide +kernel) boot_bool E.vq (by decide +kernel) (JE.var G 1 (by decide +kernel) (by decide +kernel) rfl))) (JE.Kl (JE.cmp G sH (JE.var G 0 (by decide +kernel) (by decide +kernel) rfl) (JE.var G 1 (by decide +kernel) (by decide +kernel) rfl)))))))))
theorem FQ (E : Facts M fA fD) (h : dX M fA fD k) : mO M.P M.w M.K M.mg M.base (k + 3) (fA 6) (fD 6) ["_law_found", "_law_due"] (mX M.K 2 [] [2, 3] (fM M.K) (call (k + 1) 6)) :=
  vf (N := ["_law_found", "_law_due", "_law_mine", "_law_its"]) (ps := ["_law_found", "_law_due"]) (XR := fM M.K) (L := []) (cs := [2, 3]) (body := mH (call k)) E.f6 Fx rfl fun X W G po fr => Jx E h X W G po fr
theorem Ak (E : Facts M fA fD) (h : dX M fA fD k) (X : Cx) (W : WX) (G : Ctx M X ⟨M.K, [0], []⟩ W (k + 2) ["_law_box_here", "_law_some", "_law_left", "_law_found", "_law_turn"] (defScope bQ).names (fun _ => true)) (po : PassesOwn (model X.prog X.w) X.A X.env X.xe) (fr : Oa X) : JB (fM M.K) X ⟨M.K, [0], []⟩ W (defBody bQ) (jy (call k)) := by
  unfold jy
  show JB (fM M.K) X ⟨M.K, [0], []⟩ W (_ :: _) _
  exact (JB.cons (JS.par (k1 := true) (k2 := true) G 2 3 (by decide +kernel) (by decide +kernel) (by decide +kernel) (by decide +kernel) (by decide +kernel) (by decide +kernel) rfl rfl (JE.ty G ab8 E.mW (by decide +kernel) (JA.cons (JE.var G 1 (by decide +kernel) (by decide +kernel) rfl) JA.nil)) (JE.lst JA.nil))
  (JB.cons (JS.for G po (JI.rg1 G E.jZ (by decide +kernel) (JE.fn G sJ E.oE (by decide +kernel) (JA.cons (JE.var G 2 (by decide +kernel) (by decide +kernel) rfl) JA.nil))) (JG.n G 4 (by decide +kernel) (by decide +kernel) rfl) (JB.one (JS.ex (JE.mut G 3 Bo (by decide +kernel) (by decide +kernel) (JA.cons (JE.F (JE.mut G 2 UL (by decide +kernel) (by decide +kernel) (JA.cons (JE.call G h.o4 E.m4 E.k4 (cH E.f4) (by decide +kernel) (by decide +kernel) (JA.cons (JE.var G 0 (by decide +kernel) (by decide +kernel) rfl) (JA.cons (JE.fn G sJ E.oE (by decide +kernel) (JA.cons (JE.var G 2 (by decide +kernel) (by decide +kernel) rfl) JA.nil)) JA.nil))) JA.nil))) JA.nil)))))
  (JB.one (JS.ret (JE.var G 3 (by decide +kernel) (by decide +kernel) rfl)))))
theorem zP (E : Facts M fA fD) (h : dX M fA fD k) : mO M.P M.w M.K M.mg M.base (k + 3) (fA 7) (fD 7) ["_law_box_here", "_law_some"] (mX M.K 2 [0] [] (fM M.K) (call (k + 1) 7)) :=
  vf (N := ["_law_box_here", "_law_some", "_law_left", "_law_found", "_law_turn"]) (ps := ["_law_box_here", "_law_some"]) (XR := fM M.K) (L := [0]) (cs := []) (body := jy (call k)) E.f7 zH rfl fun X W G po fr => Ak E h X W G po fr
theorem FW (E : Facts M fA fD) (h : dX M fA fD k) (X : Cx) (W : WX) (G : Ctx M X ⟨M.K, [], [1]⟩ W (k + 2) ["_law_matter", "_law_piece"] (defScope bZ).names (fun _ => true)) (po : PassesOwn (model X.prog X.w) X.A X.env X.xe) (fr : Oa X) : JB (fM M.K) X ⟨M.K, [], [1]⟩ W (defBody bZ) (jX (call k)) := by
  unfold jX
  show JB (fM M.K) X ⟨M.K, [], [1]⟩ W (_ :: _) _
  exact (JB.one (JS.ret (JE.ife (JT.tru G (JE.isT (Ts := ["list", "tuple"]) G E.bf (by decide +kernel) (pa_cons (xO G boot_list E.mW (by decide +kernel)) (pa_cons (xO G boot_tuple E.gR (by decide +kernel)) pa_nil)) rfl (JE.var G 0 (by decide +kernel) (by decide +kernel) rfl))) (JE.lc G [("_law_piece", 1)] (by decide +kernel) rfl (JI.seq G (JE.var G 0 (by decide +kernel) (by decide +kernel) rfl)) (fun Y G => (JG.n G 1 (by decide +kernel) (by decide +kernel) rfl)) (fun Y G => (JE.F (JE.call G h.o8 E.m8 E.k8 (gW E.f8) (by decide +kernel) (by decide +kernel) (JA.cons (JE.YZ G 1 (by decide +kernel) (by decide +kernel)) JA.nil))))) (JE.var G 0 (by decide +kernel) (by decide +kernel) rfl))))
theorem Am (E : Facts M fA fD) (h : dX M fA fD k) : mO M.P M.w M.K M.mg M.base (k + 3) (fA 8) (fD 8) ["_law_matter"] (mX M.K 1 [] [1] (fM M.K) (call (k + 1) 8)) :=
  vf (N := ["_law_matter", "_law_piece"]) (ps := ["_law_matter"]) (XR := fM M.K) (L := []) (cs := [1]) (body := jX (call k)) E.f8 Ae rfl fun X W G po fr => FW E h X W G po fr
theorem vG (E : Facts M fA fD) (h : dX M fA fD k) (X : Cx) (W : WX) (G : Ctx M X ⟨M.K, [0], [4]⟩ W (k + 2) ["_law_box_here", "_law_count", "_law_top", "_law_spots", "_law_who"] (defScope bh).names (fun _ => true)) (po : PassesOwn (model X.prog X.w) X.A X.env X.xe) (fr : Oa X) : JB (fM M.K) X ⟨M.K, [0], [4]⟩ W (defBody bh) (fU (call k)) := by
  unfold fU
  show JB (fM M.K) X ⟨M.K, [0], [4]⟩ W (_ :: _) _
  exact (JB.cons (JS.asg (keep := false) G 3 (by decide +kernel) (by decide +kernel) rfl (JE.call G h.o7 E.m7 E.k7 (vD E.f7) (by decide +kernel) (by decide +kernel) (JA.cons (JE.var G 0 (by decide +kernel) (by decide +kernel) rfl) (JA.cons (JE.F (JE.lrg G E.mW (by decide +kernel) E.jZ (by decide +kernel) (JE.var G 1 (by decide +kernel) (by decide +kernel) rfl))) JA.nil))))
  (JB.one (JS.ret (JE.tup (JA.cons (JE.ty G UJ E.gR (by decide +kernel) (JA.cons (JE.var G 3 (by decide +kernel) (by decide +kernel) rfl) JA.nil)) (JA.cons (JE.ty G UJ E.gR (by decide +kernel) (JA.cons (JE.lc G [("_law_who", 4)] (by decide +kernel) rfl (JI.rg1 G E.jZ (by decide +kernel) (JE.var G 1 (by decide +kernel) (by decide +kernel) rfl)) (fun Y G => (JG.n G 4 (by decide +kernel) (by decide +kernel) rfl)) (fun Y G => (JE.F (JE.call G h.o4 E.m4 E.k4 (cH E.f4) (by decide +kernel) (by decide +kernel) (JA.cons (JE.var G 0 (by decide +kernel) (by decide +kernel) rfl) (JA.cons (JE.op G iU (JE.var G 2 (by decide +kernel) (by decide +kernel) rfl) JE.int) JA.nil)))))) JA.nil)) JA.nil))))))
theorem uE (E : Facts M fA fD) (h : dX M fA fD k) : mO M.P M.w M.K M.mg M.base (k + 3) (fA 9) (fD 9) ["_law_box_here", "_law_count", "_law_top"] (mX M.K 3 [0] [4] (fM M.K) (call (k + 1) 9)) :=
  vf (N := ["_law_box_here", "_law_count", "_law_top", "_law_spots", "_law_who"]) (ps := ["_law_box_here", "_law_count", "_law_top"]) (XR := fM M.K) (L := [0]) (cs := [4]) (body := fU (call k)) E.f9 uw rfl fun X W G po fr => vG E h X W G po fr
theorem FZ (E : Facts M fA fD) (h : dX M fA fD k) (X : Cx) (W : WX) (G : Ctx M X ⟨M.K, [], []⟩ W (k + 2) ["_law_pose", "_law_hope", "_law_spot", "_law_bag", "_law_spot_due", "_law_bag_due"] (defScope cD).names (fun _ => true)) (po : PassesOwn (model X.prog X.w) X.A X.env X.xe) (fr : Oa X) : JB (fM M.K) X ⟨M.K, [], []⟩ W (defBody cD) (jY (call k)) := by
  unfold jY
  show JB (fM M.K) X ⟨M.K, [], []⟩ W (_ :: _) _
  exact (JB.cons (JS.for G po (JI.zz G E.uD (by decide +kernel) (JE.ix G (JE.var G 0 (by decide +kernel) (by decide +kernel) rfl) JE.int) (JE.ix G (JE.var G 0 (by decide +kernel) (by decide +kernel) rfl) JE.int) (JE.var G 1 (by decide +kernel) (by decide +kernel) rfl)) (JG.t G (uF.cons (JG.t G (uF.cons (JG.n G 2 (by decide +kernel) (by decide +kernel) rfl) (uF.cons (JG.n G 3 (by decide +kernel) (by decide +kernel) rfl) uF.nil)) rfl) (uF.cons (JG.t G (uF.cons (JG.n G 4 (by decide +kernel) (by decide +kernel) rfl) (uF.cons (JG.n G 5 (by decide +kernel) (by decide +kernel) rfl) uF.nil)) rfl) uF.nil)) rfl) (JB.one (JS.if (JW.pt (JW.or (JW.pt (JW.and (JT.cmp G Nh (JE.var G 4 (by decide +kernel) (by decide +kernel) rfl) JE.non) (JW.Kl (JT.cmp G G3 (JE.var G 2 (by decide +kernel) (by decide +kernel) rfl) (JE.var G 4 (by decide +kernel) (by decide +kernel) rfl))))) (JW.or1 (JW.pt (JW.and (JT.cmp G Nh (JE.var G 5 (by decide +kernel) (by decide +kernel) rfl) JE.non) (JW.Kl (JT.cmp G G3 (JE.var G 3 (by decide +kernel) (by decide +kernel) rfl) (JE.var G 5 (by decide +kernel) (by decide +kernel) rfl)))))))) (JB.one (JS.ret JE.bl)) JB.nil)))
  (JB.one (JS.ret JE.bl)))
theorem Ao (E : Facts M fA fD) (h : dX M fA fD k) : mO M.P M.w M.K M.mg M.base (k + 3) (fA 10) (fD 10) ["_law_pose", "_law_hope"] (mX M.K 2 [] [] (fM M.K) (call (k + 1) 10)) :=
  vf (N := ["_law_pose", "_law_hope", "_law_spot", "_law_bag", "_law_spot_due", "_law_bag_due"]) (ps := ["_law_pose", "_law_hope"]) (XR := fM M.K) (L := []) (cs := []) (body := jY (call k)) E.f10 Af rfl fun X W G po fr => FZ E h X W G po fr
theorem Ge (E : Facts M fA fD) (h : dX M fA fD k) (X : Cx) (W : WX) (G : Ctx M X ⟨M.K, [0], []⟩ W (k + 2) ["_law_box_here", "_law_count", "_law_pose", "_law_kept", "_law_soft", "_law_turn", "_law_hope", "_law_spot", "_law_bag", "_law_odd", "_law_due", "_law_told", "_law_full"] (defScope cG).names (fun _ => true)) (po : PassesOwn (model X.prog X.w) X.A X.env X.xe) (fr : Oa X) : JB (fM M.K) X ⟨M.K, [0], []⟩ W (defBody cG) (jc (call k)) := by
  unfold jc
  show JB (fM M.K) X ⟨M.K, [0], []⟩ W (_ :: _) _
  exact (JB.cons (JS.asg (keep := false) G 1 (by decide +kernel) (by decide +kernel) rfl (JE.op G iU JE.int (JE.call G h.o4 E.m4 E.k4 (cH E.f4) (by decide +kernel) (by decide +kernel) (JA.cons (JE.var G 0 (by decide +kernel) (by decide +kernel) rfl) (JA.cons JE.int JA.nil)))))
  (JB.cons (JS.asg (keep := false) G 2 (by decide +kernel) (by decide +kernel) rfl (JE.call G h.o9 E.m9 E.k9 (qP E.f9) (by decide +kernel) (by decide +kernel) (JA.cons (JE.var G 0 (by decide +kernel) (by decide +kernel) rfl) (JA.cons (JE.var G 1 (by decide +kernel) (by decide +kernel) rfl) (JA.cons (JE.F (JE.call G h.o5 E.m5 E.k5 (lN E.f5) (by decide +kernel) (by decide +kernel) (JA.cons (JE.var G 0 (by decide +kernel) (by decide +kernel) rfl) (JA.cons (JE.F (JE.lst (JA.cons JE.int (JA.cons JE.int (JA.cons (JE.op G mQ JE.int (JE.op G rD JE.int JE.int)) JA.nil))))) JA.nil)))) JA.nil)))))
  (JB.cons (JS.par (k1 := false) (k2 := false) G 3 4 (by decide +kernel) (by decide +kernel) (by decide +kernel) (by decide +kernel) (by decide +kernel) (by decide +kernel) rfl rfl (JE.fn G UG E.vA (by decide +kernel) (JA.cons (JE.var G 2 (by decide +kernel) (by decide +kernel) rfl) JA.nil)) (JE.call G h.o8 E.m8 E.k8 (gW E.f8) (by decide +kernel) (by decide +kernel) (JA.cons (JE.var G 2 (by decide +kernel) (by decide +kernel) rfl) JA.nil)))
  (JB.cons (JS.for G po (JI.rg1 G E.jZ (by decide +kernel) JE.int) (JG.n G 5 (by decide +kernel) (by decide +kernel) rfl) (JB.cons (JS.asg (keep := true) G 6 (by decide +kernel) (by decide +kernel) rfl (JE.lst JA.nil))
  (JB.cons (JS.for G po (JI.zip G E.uD (by decide +kernel) (JE.ix G (JE.var G 2 (by decide +kernel) (by decide +kernel) rfl) JE.int) (JE.ix G (JE.var G 2 (by decide +kernel) (by decide +kernel) rfl) JE.int)) (JG.t G (uF.cons (JG.n G 7 (by decide +kernel) (by decide +kernel) rfl) (uF.cons (JG.n G 8 (by decide +kernel) (by decide +kernel) rfl) uF.nil)) rfl) (JB.cons (JS.asg (keep := false) G 9 (by decide +kernel) (by decide +kernel) rfl (JE.cmp G sH (JE.call G h.o4 E.m4 E.k4 (cH E.f4) (by decide +kernel) (by decide +kernel) (JA.cons (JE.var G 0 (by decide +kernel) (by decide +kernel) rfl) (JA.cons (JE.op G mQ JE.int (JE.op G iU JE.int (JE.var G 5 (by decide +kernel) (by decide +kernel) rfl))) JA.nil))) JE.int))
  (JB.cons (JS.asg (keep := false) G 7 (by decide +kernel) (by decide +kernel) rfl (JE.ife (JT.not (JT.tru G (JE.var G 9 (by decide +kernel) (by decide +kernel) rfl))) (JE.call G h.o5 E.m5 E.k5 (lN E.f5) (by decide +kernel) (by decide +kernel) (JA.cons (JE.var G 0 (by decide +kernel) (by decide +kernel) rfl) (JA.cons (JE.F (JE.lst (JA.cons (JE.var G 7 (by decide +kernel) (by decide +kernel) rfl) (JA.cons JE.non JA.nil)))) JA.nil))) (JE.call G h.o4 E.m4 E.k4 (cH E.f4) (by decide +kernel) (by decide +kernel) (JA.cons (JE.var G 0 (by decide +kernel) (by decide +kernel) rfl) (JA.cons (JE.op G iU (JE.var G 1 (by decide +kernel) (by decide +kernel) rfl) JE.int) JA.nil)))))
  (JB.one (JS.ex (JE.mut G 6 Bo (by decide +kernel) (by decide +kernel) (JA.cons (JE.tup (JA.cons (JE.var G 7 (by decide +kernel) (by decide +kernel) rfl) (JA.cons (JE.F (JE.call G h.o5 E.m5 E.k5 (lN E.f5) (by decide +kernel) (by decide +kernel) (JA.cons (JE.var G 0 (by decide +kernel) (by decide +kernel) rfl) (JA.cons (JE.F (JE.lst (JA.cons (JE.var G 8 (by decide +kernel) (by decide +kernel) rfl) (JA.cons JE.non (JA.cons (JE.op G iU (JE.var G 8 (by decide +kernel) (by decide +kernel) rfl) (JE.ty G aa4 E.zJ (by decide +kernel) (JA.cons (JE.cmp G sH (JE.call G h.o4 E.m4 E.k4 (cH E.f4) (by decide +kernel) (by decide +kernel) (JA.cons (JE.var G 0 (by decide +kernel) (by decide +kernel) rfl) (JA.cons JE.int JA.nil))) JE.int) JA.nil))) JA.nil))))) JA.nil)))) JA.nil))) JA.nil)))))))
  (JB.cons (JS.par (k1 := false) (k2 := true) G 10 6 (by decide +kernel) (by decide +kernel) (by decide +kernel) (by decide +kernel) (by decide +kernel) (by decide +kernel) rfl rfl (JE.call G h.o10 E.m10 E.k10 (vY E.f10) (by decide +kernel) (by decide +kernel) (JA.cons (JE.var G 2 (by decide +kernel) (by decide +kernel) rfl) (JA.cons (JE.F (JE.var G 6 (by decide +kernel) (by decide +kernel) rfl)) JA.nil))) (JE.ty G UJ E.gR (by decide +kernel) (JA.cons (JE.var G 6 (by decide +kernel) (by decide +kernel) rfl) JA.nil)))
  (JB.cons (JS.asg (keep := false) G 11 (by decide +kernel) (by decide +kernel) rfl (JE.lst (JA.cons (JE.F (JE.call G h.o2 E.m2 E.k2 (pq E.f2) (by decide +kernel) (by decide +kernel) (JA.cons (JE.var G 2 (by decide +kernel) (by decide +kernel) rfl) (JA.cons (JE.F (JE.var G 6 (by decide +kernel) (by decide +kernel) rfl)) JA.nil)))) (JA.cons (JE.F (JE.ab9 G h.o2 E.m2 E.k2 (pH E.f2) (by decide +kernel) rfl (by decide +kernel) (JK.cons (JE.F (JE.call G h.o8 E.m8 E.k8 (gW E.f8) (by decide +kernel) (by decide +kernel) (JA.cons (JE.F (JE.var G 6 (by decide +kernel) (by decide +kernel) rfl)) JA.nil))) (JK.cons (JE.var G 4 (by decide +kernel) (by decide +kernel) rfl) JK.nil)))) (JA.cons (JE.F (JE.call G h.o2 E.m2 E.k2 (pq E.f2) (by decide +kernel) (by decide +kernel) (JA.cons (JE.var G 4 (by decide +kernel) (by decide +kernel) rfl) (JA.cons (JE.F (JE.var G 6 (by decide +kernel) (by decide +kernel) rfl)) JA.nil)))) JA.nil)))))
  (JB.one (JS.if (JT.not (JT.tru G (JE.call G h.o6 E.m6 E.k6 (lM E.f6) (by decide +kernel) (by decide +kernel) (JA.cons (JE.var G 11 (by decide +kernel) (by decide +kernel) rfl) (JA.cons (JE.F (JE.op G mQ (JE.lst (JA.cons (JE.var G 10 (by decide +kernel) (by decide +kernel) rfl) JA.nil)) JE.int)) JA.nil))))) (JB.one (JS.ret JE.bl)) JB.nil)))))))
  (JB.cons (JS.asg (keep := false) G 12 (by decide +kernel) (by decide +kernel) rfl (JE.aha G E.gR (by decide +kernel) E.uD (by decide +kernel) (JE.ix G (JE.var G 2 (by decide +kernel) (by decide +kernel) rfl) JE.int) (JE.ix G (JE.var G 2 (by decide +kernel) (by decide +kernel) rfl) JE.int)))
  (JB.cons (JS.asg (keep := false) G 11 (by decide +kernel) (by decide +kernel) rfl (JE.lst (JA.cons (JE.F (JE.call G h.o2 E.m2 E.k2 (pq E.f2) (by decide +kernel) (by decide +kernel) (JA.cons (JE.var G 2 (by decide +kernel) (by decide +kernel) rfl) (JA.cons (JE.var G 12 (by decide +kernel) (by decide +kernel) rfl) JA.nil)))) (JA.cons (JE.F (JE.call G h.o2 E.m2 E.k2 (pq E.f2) (by decide +kernel) (by decide +kernel) (JA.cons (JE.var G 2 (by decide +kernel) (by decide +kernel) rfl) (JA.cons (JE.op G mQ (JE.tup (JA.cons (JE.tup (JA.cons JE.non (JA.cons JE.non JA.nil))) JA.nil)) (JE.var G 1 (by decide +kernel) (by decide +kernel) rfl)) JA.nil)))) JA.nil))))
  (JB.one (JS.ret (JE.and (JE.call G h.o6 E.m6 E.k6 (lM E.f6) (by decide +kernel) (by decide +kernel) (JA.cons (JE.var G 11 (by decide +kernel) (by decide +kernel) rfl) (JA.cons (JE.F (JE.lst (JA.cons JE.bl (JA.cons JE.bl JA.nil)))) JA.nil))) (JE.and (JE.cmp G sH (JE.fn G UG E.vA (by decide +kernel) (JA.cons (JE.var G 2 (by decide +kernel) (by decide +kernel) rfl) JA.nil)) (JE.var G 3 (by decide +kernel) (by decide +kernel) rfl)) (JE.Kl (JE.cmp G sH (JE.var G 4 (by decide +kernel) (by decide +kernel) rfl) (JE.call G h.o8 E.m8 E.k8 (gW E.f8) (by decide +kernel) (by decide +kernel) (JA.cons (JE.var G 2 (by decide +kernel) (by decide +kernel) rfl) JA.nil))))))))))))))
theorem Aq (E : Facts M fA fD) (h : dX M fA fD k) : mO M.P M.w M.K M.mg M.base (k + 3) (fA 11) (fD 11) ["_law_box_here"] (mX M.K 1 [0] [] (fM M.K) (call (k + 1) 11)) :=
  vf (N := ["_law_box_here", "_law_count", "_law_pose", "_law_kept", "_law_soft", "_law_turn", "_law_hope", "_law_spot", "_law_bag", "_law_odd", "_law_due", "_law_told", "_law_full"]) (ps := ["_law_box_here"]) (XR := fM M.K) (L := [0]) (cs := []) (body := jc (call k)) E.f11 Ag rfl fun X W G po fr => Ge E h X W G po fr
theorem t_law (E : Facts M fA fD) (h : dX M fA fD k) (X : Cx) (W : WX) (G : Ctx M X ⟨M.K, [], [1]⟩ W (k + 2) ["_law_script", "_law_k"] (defScope oA).names (fun _ => true)) (po : PassesOwn (model X.prog X.w) X.A X.env X.xe) (fr : Oa X) : JB (fM M.K) X ⟨M.K, [], [1]⟩ W (defBody oA) (Pn (call k)) := by
  unfold Pn
  show JB (fM M.K) X ⟨M.K, [], [1]⟩ W (_ :: _) _
  exact (JB.one (JS.ret (JE.fn G aa3 E.Cm (by decide +kernel) (JA.cons (JE.lc G [("_law_k", 1)] (by decide +kernel) rfl (JI.rg1 G E.jZ (by decide +kernel) (JE.op G iU JE.int (JE.fn G ab7 E.Jt (by decide +kernel) (JA.cons JE.int (JA.cons (JE.fn G sJ E.oE (by decide +kernel) (JA.cons (JE.var G 0 (by decide +kernel) (by decide +kernel) rfl) JA.nil)) JA.nil))))) (fun Y G => (JG.n G 1 (by decide +kernel) (by decide +kernel) rfl)) (fun Y G => (JE.F (JE.call G h.o11 E.m11 E.k11 (vZ E.f11) (by decide +kernel) (by decide +kernel) (JA.cons (JE.call G h.o3 E.m3 E.k3 (Ah E.f3) (by decide +kernel) (by decide +kernel) (JA.cons (JE.var G 0 (by decide +kernel) (by decide +kernel) rfl) (JA.cons (JE.YZ G 1 (by decide +kernel) (by decide +kernel)) JA.nil))) JA.nil))))) JA.nil))))
theorem ok_law (E : Facts M fA fD) (h : dX M fA fD k) : mO M.P M.w M.K M.mg M.base (k + 3) (fA 12) (fD 12) ["_law_script"] (mX M.K 1 [] [1] (fM M.K) (call (k + 1) 12)) :=
  vf (N := ["_law_script", "_law_k"]) (ps := ["_law_script"]) (XR := fM M.K) (L := []) (cs := [1]) (body := Pn (call k)) E.f12 adt rfl fun X W G po fr => t_law E h X W G po fr
theorem je (E : Facts M fA fD) : ∀ k, dX M fA fD k
  | 0 => ⟨jt rfl, jt rfl, jt rfl, jt rfl, jt rfl, jt rfl, jt rfl, jt rfl, jt rfl, jt rfl, jt rfl, jt rfl, jt rfl⟩
  | k + 1 => ⟨zM E (je E k), zN E (je E k), X8 E (je E k), Ju E (je E k), Fy E (je E k), FJ E (je E k), FQ E (je E k), zP E (je E k), Am E (je E k), uE E (je E k), Ao E (je E k), Aq E (je E k), ok_law E (je E k)⟩
end
theorem all_mk {P : Program} {w : World} {K : PySem.W.Frag} {hp : Heap} {mg : Str → Option Value} {fa f0 f1 f2 f3 f4 f5 f6 f7 f8 f9 f10 f11 f12 : Addr} (X : K.In hp) (G : hp.Ns mainGlobals mg) (hfa : mg "law" = some (.ref fa))
    {od0 an0 od1 an1 od2 an2 od3 an3 od4 an4 od5 an5 od6 an6 od7 an7 od8 an8 od9 an9 ahe afi ahf afj ahg adu : Option Addr} {sl0 sl1 sl2 sl3 sl4 sl5 sl6 sl7 sl8 sl9 ahh ahi ahj : Array (Option Value)} {oc0 kV0 dc0 pm0 cd0 ct0 oc1 kV1 dc1 pm1 cd1 ct1 oc2 kV2 dc2 pm2 cd2 ct2 oc3 kV3 dc3 pm3 cd3 ct3 oc4 kV4 dc4 pm4 cd4 ct4 oc5 kV5 dc5 pm5 cd5 ct5 oc6 kV6 dc6 pm6 cd6 ct6 oc7 kV7 dc7 pm7 cd7 ct7 oc8 kV8 dc8 pm8 cd8 ct8 oc9 kV9 dc9 pm9 cd9 ct9 ahp afk afl afm adw afn ahq afo afp afq adx afr ahr ady adz adA aaG adB : Value}
    {C4 I4 N4 : Addr} {q4 : Str} {bs4 : List Value} {sn4 : List Str} {sb4 : List Value} {ab4 : Bool} {co4 : Option Bool} {de4 : Option Addr} {m04 m14 m24 m34 m54 : Option Value}
    {ahs aht : Option Addr} {ahu : Array (Option Value)} {ahv ahw ahx ahy afs ahz : Value}
    (a0 : PySem.W.nsIn K mainGlobals "people_many" = some (some (.ref f0))) (l0 : K.lookup f0 = some ⟨oc0, od0, .func (PySem.W.fnOf "people_many" "people_many" (defArgs bM) (defBody bM) (defScope bM) .none kV0 dc0 pm0 an0 cd0 ct0), sl0⟩) (c0 : PySem.W.codeIn K cd0 "people_many" = true) (k0 : PySem.W.keepIn K (.ref f0) = true)
    (a1 : PySem.W.nsIn K mainGlobals "look_people" = some (some (.ref f1))) (l1 : K.lookup f1 = some ⟨oc1, od1, .func (PySem.W.fnOf "look_people" "look_people" (defArgs bO) (defBody bO) (defScope bO) .none kV1 dc1 pm1 an1 cd1 ct1), sl1⟩) (c1 : PySem.W.codeIn K cd1 "look_people" = true) (k1 : PySem.W.keepIn K (.ref f1) = true)
    (a2 : PySem.W.nsIn K mainGlobals "meets" = some (some (.ref f2))) (l2 : K.lookup f2 = some ⟨oc2, od2, .func (PySem.W.fnOf "meets" "meets" (defArgs gQ) (defBody gQ) (defScope gQ) .none kV2 dc2 pm2 an2 cd2 ct2), sl2⟩) (c2 : PySem.W.codeIn K cd2 "meets" = true) (k2 : PySem.W.keepIn K (.ref f2) = true)
    (a3 : PySem.W.nsIn K mainGlobals "_law_box" = some (some (.ref f3))) (l3 : K.lookup f3 = some ⟨oc3, od3, .func (PySem.W.fnOf "_law_box" "_law_box" (defArgs dG) (defBody dG) (defScope dG) .none kV3 dc3 pm3 an3 cd3 ct3), sl3⟩) (c3 : PySem.W.codeIn K cd3 "_law_box" = true) (k3 : PySem.W.keepIn K (.ref f3) = true)
    (a4 : PySem.W.nsIn K mainGlobals "_law_take" = some (some (.ref f4))) (l4 : K.lookup f4 = some ⟨oc4, od4, .func (PySem.W.fnOf "_law_take" "_law_take" (defArgs cO) (defBody cO) (defScope cO) .none kV4 dc4 pm4 an4 cd4 ct4), sl4⟩) (c4 : PySem.W.codeIn K cd4 "_law_take" = true) (k4 : PySem.W.keepIn K (.ref f4) = true)
    (a5 : PySem.W.nsIn K mainGlobals "_law_pick" = some (some (.ref f5))) (l5 : K.lookup f5 = some ⟨oc5, od5, .func (PySem.W.fnOf "_law_pick" "_law_pick" (defArgs cQ) (defBody cQ) (defScope cQ) .none kV5 dc5 pm5 an5 cd5 ct5), sl5⟩) (c5 : PySem.W.codeIn K cd5 "_law_pick" = true) (k5 : PySem.W.keepIn K (.ref f5) = true)
    (a6 : PySem.W.nsIn K mainGlobals "_law_same" = some (some (.ref f6))) (l6 : K.lookup f6 = some ⟨oc6, od6, .func (PySem.W.fnOf "_law_same" "_law_same" (defArgs cU) (defBody cU) (defScope cU) .none kV6 dc6 pm6 an6 cd6 ct6), sl6⟩) (c6 : PySem.W.codeIn K cd6 "_law_same" = true) (k6 : PySem.W.keepIn K (.ref f6) = true)
    (a7 : PySem.W.nsIn K mainGlobals "_law_strewn" = some (some (.ref f7))) (l7 : K.lookup f7 = some ⟨oc7, od7, .func (PySem.W.fnOf "_law_strewn" "_law_strewn" (defArgs bQ) (defBody bQ) (defScope bQ) .none kV7 dc7 pm7 an7 cd7 ct7), sl7⟩) (c7 : PySem.W.codeIn K cd7 "_law_strewn" = true) (k7 : PySem.W.keepIn K (.ref f7) = true)
    (a8 : PySem.W.nsIn K mainGlobals "_law_lists" = some (some (.ref f8))) (l8 : K.lookup f8 = some ⟨oc8, od8, .func (PySem.W.fnOf "_law_lists" "_law_lists" (defArgs bZ) (defBody bZ) (defScope bZ) .none kV8 dc8 pm8 an8 cd8 ct8), sl8⟩) (c8 : PySem.W.codeIn K cd8 "_law_lists" = true) (k8 : PySem.W.keepIn K (.ref f8) = true)
    (a9 : PySem.W.nsIn K mainGlobals "_law_some_pose" = some (some (.ref f9))) (l9 : K.lookup f9 = some ⟨oc9, od9, .func (PySem.W.fnOf "_law_some_pose" "_law_some_pose" (defArgs bh) (defBody bh) (defScope bh) .none kV9 dc9 pm9 an9 cd9 ct9), sl9⟩) (c9 : PySem.W.codeIn K cd9 "_law_some_pose" = true) (k9 : PySem.W.keepIn K (.ref f9) = true)
    (a10 : PySem.W.nsIn K mainGlobals "_law_meets" = some (some (.ref f10))) (l10 : K.lookup f10 = some ⟨ahp, ahe, .func (PySem.W.fnOf "_law_meets" "_law_meets" (defArgs cD) (defBody cD) (defScope cD) .none afk afl afm afi adw afn), ahh⟩) (c10 : PySem.W.codeIn K adw "_law_meets" = true) (k10 : PySem.W.keepIn K (.ref f10) = true)
    (a11 : PySem.W.nsIn K mainGlobals "_law_right" = some (some (.ref f11))) (l11 : K.lookup f11 = some ⟨ahq, ahf, .func (PySem.W.fnOf "_law_right" "_law_right" (defArgs cG) (defBody cG) (defScope cG) .none afo afp afq afj adx afr), ahi⟩) (c11 : PySem.W.codeIn K adx "_law_right" = true) (k11 : PySem.W.keepIn K (.ref f11) = true)
    (a12 : PySem.W.nsIn K mainGlobals "law" = some (some (.ref f12))) (l12 : K.lookup f12 = some ⟨ahr, ahg, .func (PySem.W.fnOf "law" "law" (defArgs oA) (defBody oA) (defScope oA) .none ady adz adA adu aaG adB), ahj⟩) (c12 : PySem.W.codeIn K aaG "law" = true) (k12 : PySem.W.keepIn K (.ref f12) = true)
    (xa4 : PySem.W.nsIn K mainGlobals "OtherPeople" = some (some (.ref C4))) (xl4 : K.lookup C4 = some (excClassObj "OtherPeople" q4 C4 N4 bs4 [.type "ValueError", .type "Exception", .type "BaseException", .type "object"] true sn4 sb4 ab4 co4 de4 m04 m14 m24 m34 m54 "ValueError.__new__")) (xs4 : PySem.W.findIn K (.ref C4) "__setattr__" = some (some (.builtin "object.__setattr__"))) (xg4 : PySem.W.findIn K (.ref C4) "__getattribute__" = some (some (.builtin "BaseException.__getattribute__"))) (xh4 : PySem.W.findIn K (.ref C4) "__getattr__" = some none) (xf4 : PySem.W.findIn K (.ref C4) "many" = some none) (xi4 : PySem.W.findIn K (.ref C4) "__init__" = some (some (.ref I4))) (xt4 : PySem.W.typeIn K (.ref I4) = some (.type "function")) (xk4 : PySem.W.keepIn K (.ref C4) = true) (xc4 : PySem.W.findIn K (.ref C4) "__class__" = some (some (.builtin "object.__class__")))
    (yl4 : K.lookup I4 = some ⟨ahv, ahs, .func (PySem.W.fnOf "__init__" "OtherPeople.__init__" (defArgs qN) (defBody qN) (defScope qN) .none ahw ahx ahy aht afs ahz), ahu⟩) (yc4 : PySem.W.codeIn K afs "OtherPeople.__init__" = true) (yk4 : PySem.W.keepIn K (.ref I4) = true)
    (jd : PySem.W.nsIn K mainGlobals "ValueError" = some none)
    (Ck : PySem.W.nsIn K mainGlobals "abs" = some none)
    (Cm : PySem.W.nsIn K mainGlobals "all" = some none)
    (vq : PySem.W.nsIn K mainGlobals "bool" = some none)
    (zJ : PySem.W.nsIn K mainGlobals "int" = some none)
    (bf : PySem.W.nsIn K mainGlobals "isinstance" = some none)
    (oE : PySem.W.nsIn K mainGlobals "len" = some none)
    (mW : PySem.W.nsIn K mainGlobals "list" = some none)
    (Jt : PySem.W.nsIn K mainGlobals "min" = some none)
    (jZ : PySem.W.nsIn K mainGlobals "range" = some none)
    (vA : PySem.W.nsIn K mainGlobals "repr" = some none)
    (zK : PySem.W.nsIn K mainGlobals "str" = some none)
    (gR : PySem.W.nsIn K mainGlobals "tuple" = some none)
    (uD : PySem.W.nsIn K mainGlobals "zip" = some none)
    (k : Nat) : ∃ fd : FuncData, (∀ (s : Shared) (v : Value), BindsTo s fd ⟨[v], []⟩ [("_law_script", v)]) ∧ ∀ base : Heap, K.In base → base.Ns mainGlobals mg → mO P w K mg base (k + 2) fa fd ["_law_script"] (mX K 1 [] [1] (fM K) (call k 12)) := by
  have e := hfa.symm.trans (PySem.W.mg_of X G a12)
  cases e
  let fA : Nat → Addr := fun i => match i with | 0 => f0 | 1 => f1 | 2 => f2 | 3 => f3 | 4 => f4 | 5 => f5 | 6 => f6 | 7 => f7 | 8 => f8 | 9 => f9 | 10 => f10 | 11 => f11 | _ => fa
  let fD : Nat → FuncData := fun i => match i with | 0 => (PySem.W.fnOf "people_many" "people_many" (defArgs bM) (defBody bM) (defScope bM) .none kV0 dc0 pm0 an0 cd0 ct0) | 1 => (PySem.W.fnOf "look_people" "look_people" (defArgs bO) (defBody bO) (defScope bO) .none kV1 dc1 pm1 an1 cd1 ct1) | 2 => (PySem.W.fnOf "meets" "meets" (defArgs gQ) (defBody gQ) (defScope gQ) .none kV2 dc2 pm2 an2 cd2 ct2) | 3 => (PySem.W.fnOf "_law_box" "_law_box" (defArgs dG) (defBody dG) (defScope dG) .none kV3 dc3 pm3 an3 cd3 ct3) | 4 => (PySem.W.fnOf "_law_take" "_law_take" (defArgs cO) (defBody cO) (defScope cO) .none kV4 dc4 pm4 an4 cd4 ct4) | 5 => (PySem.W.fnOf "_law_pick" "_law_pick" (defArgs cQ) (defBody cQ) (defScope cQ) .none kV5 dc5 pm5 an5 cd5 ct5) | 6 => (PySem.W.fnOf "_law_same" "_law_same" (defArgs cU) (defBody cU) (defScope cU) .none kV6 dc6 pm6 an6 cd6 ct6) | 7 => (PySem.W.fnOf "_law_strewn" "_law_strewn" (defArgs bQ) (defBody bQ) (defScope bQ) .none kV7 dc7 pm7 an7 cd7 ct7) | 8 => (PySem.W.fnOf "_law_lists" "_law_lists" (defArgs bZ) (defBody bZ) (defScope bZ) .none kV8 dc8 pm8 an8 cd8 ct8) | 9 => (PySem.W.fnOf "_law_some_pose" "_law_some_pose" (defArgs bh) (defBody bh) (defScope bh) .none kV9 dc9 pm9 an9 cd9 ct9) | 10 => (PySem.W.fnOf "_law_meets" "_law_meets" (defArgs cD) (defBody cD) (defScope cD) .none afk afl afm afi adw afn) | 11 => (PySem.W.fnOf "_law_right" "_law_right" (defArgs cG) (defBody cG) (defScope cG) .none afo afp afq afj adx afr) | _ => (PySem.W.fnOf "law" "law" (defArgs oA) (defBody oA) (defScope oA) .none ady adz adA adu aaG adB)
  refine ⟨(PySem.W.fnOf "law" "law" (defArgs oA) (defBody oA) (defScope oA) .none ady adz adA adu aaG adB), fun s v => .of_eq rfl, fun base _ _ => ?_⟩
  have ow4 : Own K C4 I4 (Ar 4) (Mz 4) "ValueError" "ValueError.__new__" "ValueError.__init__" _ := acS xl4 (by decide +kernel) xs4 xg4 xh4 xf4 xi4 xt4 xk4 xc4 (acR K)
  have fu4 : Fun K "__init__" "OtherPeople.__init__" qN I4 _ := fun_mk yl4 yc4 yk4
  have bi4 := fu4.binds (ps := ["self", Ar 4]) fun _ _ _ _ _ _ us hl => match us, hl with | [_, _], _ => rfl
  have E : Facts ⟨P, w, K, mg, base⟩ fA fD := ⟨fun_mk l0 c0 k0, PySem.W.mg_of X G a0, k0, fun_mk l1 c1 k1, PySem.W.mg_of X G a1, k1, fun_mk l2 c2 k2, PySem.W.mg_of X G a2, k2, fun_mk l3 c3 k3, PySem.W.mg_of X G a3, k3, fun_mk l4 c4 k4, PySem.W.mg_of X G a4, k4, fun_mk l5 c5 k5, PySem.W.mg_of X G a5, k5, fun_mk l6 c6 k6, PySem.W.mg_of X G a6, k6, fun_mk l7 c7 k7, PySem.W.mg_of X G a7, k7, fun_mk l8 c8 k8, PySem.W.mg_of X G a8, k8, fun_mk l9 c9 k9, PySem.W.mg_of X G a9, k9, fun_mk l10 c10 k10, PySem.W.mg_of X G a10, k10, fun_mk l11 c11 k11, PySem.W.mg_of X G a11, k11, fun_mk l12 c12 k12, PySem.W.mg_of X G a12, k12, ⟨_, _, _, _, _, _, PySem.W.mg_of X G xa4, Wu xa4, ow4, by decide +kernel, by decide +kernel⟩, ⟨_, _, _, _, _, _, _, _, _, PySem.W.mg_of X G xa4, Wu xa4, aeC, ow4, fu4, X6, X7, PySem.W.mg_none_of X G jd, bi4⟩, PySem.W.mg_none_of X G jd, PySem.W.mg_none_of X G Ck, PySem.W.mg_none_of X G Cm, PySem.W.mg_none_of X G vq, PySem.W.mg_none_of X G zJ, PySem.W.mg_none_of X G bf, PySem.W.mg_none_of X G oE, PySem.W.mg_none_of X G mW, PySem.W.mg_none_of X G Jt, PySem.W.mg_none_of X G jZ, PySem.W.mg_none_of X G vA, PySem.W.mg_none_of X G zK, PySem.W.mg_none_of X G gR, PySem.W.mg_none_of X G uD⟩
  exact (je E k).o12
end SN
end
section
set_option exponentiation.threshold 10000
namespace SN
open PySem L2 DM
section
variable {cl : Nat → List En → R En}
theorem aft {n : Nat} {y : Int} {cl : Nat → List En → R En} {a0 b0 c0 a1 b1 c1 : Int} {r1 : aq} (g1 : cl 4 [aY a0 b0 c0, .fr (.int 11)] = .ok (.fr (.int y)) (some (aY a1 b1 c1) :: r1)) (hn : 2 + y = (n : Nat)) : (aR false 1 (aA cI (runC (.int 2)) (au 2 0 [0] [0, 1] (cl 4) (aj (ao 0) (aj (runC (.int 11)) ak)) ak))) [some (.ol [.int a0, .int b0, .int c0]), none, none, none, none, none, none, none, none, none, none, none, none] = DM.R.ok Fl.nx [some (.ol [.int a1, .int b1, .int c1]), some (.fr (.int (n : Nat))), none, none, none, none, none, none, none, none, none, none, none] := by
  have k1 := fun (ρ : aq) hu => iV (ρ := ρ) (i := 0) hu g1
  unfold aY at *
  simp [gK, k1, hn]
theorem ahQ {n : Nat} {a1 b1 c1 : Int} : (aM (aP (aj (runC (.int 1)) (aj (runC (.int 9)) (aj (aA dH (runC (.int 8)) (aA lC (runC (.int 10)) (runC (.int 38)))) ak))))) [some (.ol [.int a1, .int b1, .int c1]), some (.fr (.int (n : Nat))), none, none, none, none, none, none, none, none, none, none, none] = .ok (.en (.fr (.lst [.int 1, .int 9, .int 800000000000000000000000000000000000000]))) [some (.ol [.int a1, .int b1, .int c1]), some (.fr (.int (n : Nat))), none, none, none, none, none, none, none, none, none, none, none] := by
  have e : lC (.fr (.int 10)) (.fr (.int 38)) = some (.fr (.int 100000000000000000000000000000000000000)) := by
    rw [DY (by decide)]
    rfl
  have e2 : dH (.fr (.int 8)) (.fr (.int 100000000000000000000000000000000000000)) = some (.fr (.int 800000000000000000000000000000000000000)) := Wn (by decide) (by decide)
  simp [gK, e, e2]
theorem afu {n : Nat} {hd d0 : D} {tp : Int} {X : aq → R Val} {cl : Nat → List En → R En} {a1 b1 c1 a2 b2 c2 a3 b3 c3 : Int} {r1 r2 : aq} (g1 : cl 5 [aY a1 b1 c1, .fr d0] = .ok (.fr (.int tp)) (some (aY a2 b2 c2) :: r1)) (g2 : cl 9 [aY a2 b2 c2, .fr (.int (n : Nat)), .fr (.int tp)] = .ok (.fr hd) (some (aY a3 b3 c3) :: r2)) (h0 : X [some (.ol [.int a1, .int b1, .int c1]), some (.fr (.int (n : Nat))), none, none, none, none, none, none, none, none, none, none, none] = .ok (.en (.fr d0)) [some (.ol [.int a1, .int b1, .int c1]), some (.fr (.int (n : Nat))), none, none, none, none, none, none, none, none, none, none, none]) : (aR false 2 (au 3 0 [0] [0, 1, 2] (cl 9) (aj (ao 0) (aj (ao 1) (aj (aM (au 2 0 [0] [0, 1] (cl 5) (aj (ao 0) (aj X ak)) ak)) ak))) ak)) [some (.ol [.int a1, .int b1, .int c1]), some (.fr (.int (n : Nat))), none, none, none, none, none, none, none, none, none, none, none] = DM.R.ok Fl.nx [some (.ol [.int a3, .int b3, .int c3]), some (.fr (.int (n : Nat))), some (.fr (hd)), none, none, none, none, none, none, none, none, none, none] := by
  have k1 := fun (ρ : aq) hu => iV (ρ := ρ) (i := 0) hu g1
  have k2 := fun (ρ : aq) hu => acp (ρ := ρ) (i := 0) hu g2
  unfold aY at *
  simp [gK, k1, k2, h0]
theorem afv {n : Nat} {hd sf : D} {rp : D} {e0 : En} {cl : Nat → List En → R En} {a3 b3 c3 : Int} {r1 : aq} (g1 : cl 8 [.fr hd] = .ok (e0) r1) (gr : mZ [.fr hd] = some (.fr rp)) (hz : e0.fz = .fr sf) : (jM false false 3 4 (aN mZ (aj (ao 2) ak)) (au 1 0 [] [0] (cl 8) (aj (ao 2) ak) ak)) [some (.ol [.int a3, .int b3, .int c3]), some (.fr (.int (n : Nat))), some (.fr (hd)), none, none, none, none, none, none, none, none, none, none] = DM.R.ok Fl.nx [some (.ol [.int a3, .int b3, .int c3]), some (.fr (.int (n : Nat))), some (.fr (hd)), some (.fr (rp)), some (.fr (sf)), none, none, none, none, none, none, none, none] := by
  have k1 := fun (ρ : aq) => uZ (L := []) (ρ := ρ) g1
  have hk : ∀ ρ, kK false (.en e0) ρ = .ok (.fr sf) ρ := fun ρ => by
    show runK.YH (some (e0.fz, ρ)) = _
    rw [hz]
    rfl
  have hk2 : ∀ ρ, kFr (.en e0) ρ = .ok (.en (.fr sf)) ρ := fun ρ => by
    show R.ok (Val.en e0.fz) ρ = _
    rw [hz]
  simp [gK, k1, gr, hk, hk2]
theorem afw {n : Nat} {hd sf : D} {t : Int} {rp : D} {a4 b4 c4 : Int} {x6 x7 x8 x9 x10 x11 : Option En} : (aR true 6 (aP ak)) [some (.ol [.int a4, .int b4, .int c4]), some (.fr (.int (n : Nat))), some (.fr (hd)), some (.fr (rp)), some (.fr (sf)), some (.fr (.int (t))), x6, x7, x8, x9, x10, x11, none] = DM.R.ok Fl.nx [some (.ol [.int a4, .int b4, .int c4]), some (.fr (.int (n : Nat))), some (.fr (hd)), some (.fr (rp)), some (.fr (sf)), some (.fr (.int (t))), some (.ol ([])), x7, x8, x9, x10, x11, none] := by
  simp [gK]
theorem afx {n : Nat} {hd sf d0 : D} {t : Int} {rp : D} {a4 b4 c4 : Int} {x7 x8 x9 x10 x11 : Option En} (p0 : eZ (.fr hd) (.fr (.int 0)) = some (.fr d0)) : (aA eZ (ao 2) (runC (.int 0))) [some (.ol [.int a4, .int b4, .int c4]), some (.fr (.int (n : Nat))), some (.fr (hd)), some (.fr (rp)), some (.fr (sf)), some (.fr (.int (t))), some (.ol ([])), x7, x8, x9, x10, x11, none] = .ok (.en (.fr d0)) [some (.ol [.int a4, .int b4, .int c4]), some (.fr (.int (n : Nat))), some (.fr (hd)), some (.fr (rp)), some (.fr (sf)), some (.fr (.int (t))), some (.ol ([])), x7, x8, x9, x10, x11, none] := by
  simp [gK, p0]
theorem afy {n : Nat} {hd sf d0 : D} {t : Int} {rp : D} {a4 b4 c4 : Int} {x7 x8 x9 x10 x11 : Option En} (p1 : eZ (.fr hd) (.fr (.int 1)) = some (.fr d0)) : (aA eZ (ao 2) (runC (.int 1))) [some (.ol [.int a4, .int b4, .int c4]), some (.fr (.int (n : Nat))), some (.fr (hd)), some (.fr (rp)), some (.fr (sf)), some (.fr (.int (t))), some (.ol ([])), x7, x8, x9, x10, x11, none] = .ok (.en (.fr d0)) [some (.ol [.int a4, .int b4, .int c4]), some (.fr (.int (n : Nat))), some (.fr (hd)), some (.fr (rp)), some (.fr (sf)), some (.fr (.int (t))), some (.ol ([])), x7, x8, x9, x10, x11, none] := by
  simp [gK, p1]
theorem abo {n : Nat} {hd sf d0 : D} {ws : List D} {y z t mm : Int} {rp : D} {bo : Bool} {cl : Nat → List En → R En} {a5 b5 c5 a6 b6 c6 : Int} {x9 x10 x11 : Option En} {r1 : aq} (g1 : cl 4 [aY a5 b5 c5, .fr (.int mm)] = .ok (.fr (.int z)) (some (aY a6 b6 c6) :: r1)) (gm : dH (.fr (.int 6)) (.fr (.int (1 + t))) = some (.fr (.int mm))) (e : fW false (.fr (.int z)) (.fr (.int 0)) = some (.fr (.bl bo))) : (aR false 9 (aA (fW false) (au 2 0 [0] [0, 1] (cl 4) (aj (ao 0) (aj (aA dH (runC (.int 6)) (aA cI (runC (.int 1)) (ao 5))) ak)) ak) (runC (.int 0)))) [some (.ol [.int a5, .int b5, .int c5]), some (.fr (.int (n : Nat))), some (.fr (hd)), some (.fr (rp)), some (.fr (sf)), some (.fr (.int (t))), some (.ol (ws)), some (.fr (d0)), some (.fr (.int (y))), x9, x10, x11, none] = DM.R.ok Fl.nx [some (.ol [.int a6, .int b6, .int c6]), some (.fr (.int (n : Nat))), some (.fr (hd)), some (.fr (rp)), some (.fr (sf)), some (.fr (.int (t))), some (.ol (ws)), some (.fr (d0)), some (.fr (.int (y))), some (.fr (.bl bo)), x10, x11, none] := by
  have k1 := fun (ρ : aq) hu => iV (ρ := ρ) (i := 0) hu g1
  unfold aY at *
  simp [gK, k1, gm, e]
theorem ahR {n : Nat} {hd sf d0 d1 : D} {ws : List D} {y t : Int} {rp : D} {cl : Nat → List En → R En} {a6 b6 c6 a7 b7 c7 : Int} {x10 x11 : Option En} {r1 : aq} (g1 : cl 5 [aY a6 b6 c6, .fr (.lst [d0, .non])] = .ok (.fr d1) (some (aY a7 b7 c7) :: r1)) : (aR false 7 (bH (dR (kJ (ao 9))) (au 2 0 [0] [0, 1] (cl 5) (aj (ao 0) (aj (aM (aP (aj (ao 7) (aj (runC .non) ak)))) ak)) ak) (au 2 0 [0] [0, 1] (cl 4) (aj (ao 0) (aj (aA cI (ao 1) (runC (.int 2))) ak)) ak))) [some (.ol [.int a6, .int b6, .int c6]), some (.fr (.int (n : Nat))), some (.fr (hd)), some (.fr (rp)), some (.fr (sf)), some (.fr (.int (t))), some (.ol (ws)), some (.fr (d0)), some (.fr (.int (y))), some (.fr (.bl false)), x10, x11, none] = DM.R.ok Fl.nx [some (.ol [.int a7, .int b7, .int c7]), some (.fr (.int (n : Nat))), some (.fr (hd)), some (.fr (rp)), some (.fr (sf)), some (.fr (.int (t))), some (.ol (ws)), some (.fr (d1)), some (.fr (.int (y))), some (.fr (.bl false)), x10, x11, none] := by
  have k1 := fun (ρ : aq) hu => iV (ρ := ρ) (i := 0) hu g1
  unfold aY at *
  simp [gK, k1]
theorem ahS {n : Nat} {hd sf d0 : D} {ws : List D} {y z t : Int} {rp : D} {cl : Nat → List En → R En} {a6 b6 c6 a7 b7 c7 : Int} {x10 x11 : Option En} {r1 : aq} (g1 : cl 4 [aY a6 b6 c6, .fr (.int ((n : Nat) + 2))] = .ok (.fr (.int z)) (some (aY a7 b7 c7) :: r1)) : (aR false 7 (bH (dR (kJ (ao 9))) (au 2 0 [0] [0, 1] (cl 5) (aj (ao 0) (aj (aM (aP (aj (ao 7) (aj (runC .non) ak)))) ak)) ak) (au 2 0 [0] [0, 1] (cl 4) (aj (ao 0) (aj (aA cI (ao 1) (runC (.int 2))) ak)) ak))) [some (.ol [.int a6, .int b6, .int c6]), some (.fr (.int (n : Nat))), some (.fr (hd)), some (.fr (rp)), some (.fr (sf)), some (.fr (.int (t))), some (.ol (ws)), some (.fr (d0)), some (.fr (.int (y))), some (.fr (.bl true)), x10, x11, none] = DM.R.ok Fl.nx [some (.ol [.int a7, .int b7, .int c7]), some (.fr (.int (n : Nat))), some (.fr (hd)), some (.fr (rp)), some (.fr (sf)), some (.fr (.int (t))), some (.ol (ws)), some (.fr (.int (z))), some (.fr (.int (y))), some (.fr (.bl true)), x10, x11, none] := by
  have k1 := fun (ρ : aq) hu => iV (ρ := ρ) (i := 0) hu g1
  unfold aY at *
  simp [gK, k1]
theorem afz {cl : Nat → List En → R En} {n : Nat} {hd sf d1 d2 : D} {ws : List D} {y z t k : Int} {rp : D} {bo bu : Bool} {a7 b7 c7 a8 b8 c8 a9 b9 c9 : Int} {x10 x11 : Option En} {r1 r2 : aq} (g1 : cl 4 [aY a7 b7 c7, .fr (.int 20)] = .ok (.fr (.int z)) (some (aY a8 b8 c8) :: r1)) (e : fW false (.fr (.int z)) (.fr (.int 0)) = some (.fr (.bl bu))) (gi : sE [.fr (.bl bu)] = some (.fr (.int k))) (g2 : cl 5 [aY a8 b8 c8, .fr (.lst [.int y, .non, .int (y + k)])] = .ok (.fr d2) (some (aY a9 b9 c9) :: r2)) (hl : ws.length ≤ 100) : (iJ (dI 6 dZ (aj (aK (aj (ao 7) (aj (aM (au 2 0 [0] [0, 1] (cl 5) (aj (ao 0) (aj (aM (aP (aj (ao 8) (aj (runC .non) (aj (aA cI (ao 8) (aN sE (aj (aA (fW false) (au 2 0 [0] [0, 1] (cl 4) (aj (ao 0) (aj (runC (.int 20)) ak)) ak) (runC (.int 0))) ak))) ak))))) ak)) ak)) ak))) ak))) [some (.ol [.int a7, .int b7, .int c7]), some (.fr (.int (n : Nat))), some (.fr (hd)), some (.fr (rp)), some (.fr (sf)), some (.fr (.int (t))), some (.ol (ws)), some (.fr (d1)), some (.fr (.int (y))), some (.fr (.bl bo)), x10, x11, none] = .ok .nx [some (.ol [.int a9, .int b9, .int c9]), some (.fr (.int (n : Nat))), some (.fr (hd)), some (.fr (rp)), some (.fr (sf)), some (.fr (.int (t))), some (.ol (ws ++ [.tup [d1, d2]])), some (.fr (d1)), some (.fr (.int (y))), some (.fr (.bl bo)), x10, x11, none] := by
  have k1 := fun (ρ : aq) hu => iV (ρ := ρ) (i := 0) hu g1
  have k2 := fun (ρ : aq) hu => iV (ρ := ρ) (i := 0) hu g2
  have c3 := DQ (x := 6) (ρ := [some (.ol [.int a9, .int b9, .int c9]), some (.fr (.int (n : Nat))), some (.fr (hd)), some (.fr (rp)), some (.fr (sf)), some (.fr (.int (t))), some (.ol (ws)), some (.fr (d1)), some (.fr (.int (y))), some (.fr (.bl bo)), x10, x11, none]) (yx (xs := ws) (d := .tup [d1, d2]) (by omega))
  rw [sY, yu (xs := ws) rfl]
  unfold aY at *
  generalize ws ++ [D.tup [d1, d2]] = zs at *
  simp [gK, Nq, k1, k2, c3, e, gi]
theorem afA {n : Nat} {hd sf : D} {ws : List D} {t : Int} {rp : D} {bu : Bool} {cl : Nat → List En → R En} {a4 b4 c4 : Int} {x7 x8 x9 x10 x11 : Option En} {r1 : aq} (g1 : cl 10 [.fr hd, .fr (.lst ws)] = .ok (.fr (.bl bu)) r1) : (jM false true 10 6 (au 2 0 [] [0, 1] (cl 10) (aj (ao 2) (aj (aM (ao 6)) ak)) ak) (aN g8 (aj (ao 6) ak))) [some (.ol [.int a4, .int b4, .int c4]), some (.fr (.int (n : Nat))), some (.fr (hd)), some (.fr (rp)), some (.fr (sf)), some (.fr (.int (t))), some (.ol (ws)), x7, x8, x9, x10, x11, none] = DM.R.ok Fl.nx [some (.ol [.int a4, .int b4, .int c4]), some (.fr (.int (n : Nat))), some (.fr (hd)), some (.fr (rp)), some (.fr (sf)), some (.fr (.int (t))), some (.fr (.tup ws)), x7, x8, x9, some (.fr (.bl bu)), x11, none] := by
  have k1 := fun (ρ : aq) => lD (L := []) (ρ := ρ) g1
  have t1 : g8 [.fr (.lst ws)] = some (.fr (.tup ws)) := rfl
  simp [gK, k1, t1]
theorem afB {n : Nat} {hd sf sw d1 : D} {t : Int} {rp : D} {bu : Bool} {e0 : En} {cl : Nat → List En → R En} {a4 b4 c4 : Int} {x7 x8 x9 x11 : Option En} {r1 r2 r3 r4 : aq} (g1 : cl 2 [.fr hd, .fr d1] = .ok (.fr (.bl bu)) r1) (g2 : cl 8 [.fr d1] = .ok (e0) r2) (g3 : cl 2 [.fr sf, .fr sw] = .ok (.fr (.bl bu)) r3) (g4 : cl 2 [.fr sf, .fr d1] = .ok (.fr (.bl bu)) r4) (hz : e0.fz = .fr sw) : (aR false 11 (aP (aj (aM (au 2 0 [] [0, 1] (cl 2) (aj (ao 2) (aj (aM (ao 6)) ak)) ak)) (aj (aM (au 0 2 [] [1, 0] (cl 2) ak (aj (aM (au 1 0 [] [0] (cl 8) (aj (aM (ao 6)) ak) ak)) (aj (ao 4) ak)))) (aj (aM (au 2 0 [] [0, 1] (cl 2) (aj (ao 4) (aj (aM (ao 6)) ak)) ak)) ak))))) [some (.ol [.int a4, .int b4, .int c4]), some (.fr (.int (n : Nat))), some (.fr (hd)), some (.fr (rp)), some (.fr (sf)), some (.fr (.int (t))), some (.fr (d1)), x7, x8, x9, some (.fr (.bl bu)), x11, none] = DM.R.ok Fl.nx [some (.ol [.int a4, .int b4, .int c4]), some (.fr (.int (n : Nat))), some (.fr (hd)), some (.fr (rp)), some (.fr (sf)), some (.fr (.int (t))), some (.fr (d1)), x7, x8, x9, some (.fr (.bl bu)), some (.fr (.lst [.bl bu, .bl bu, .bl bu])), none] := by
  have k1 := fun (ρ : aq) => lD (L := []) (ρ := ρ) g1
  have k2 := fun (ρ : aq) => uZ (L := []) (ρ := ρ) g2
  have k3 := fun (ρ : aq) => lD (L := []) (ρ := ρ) g3
  have k4 := fun (ρ : aq) => lD (L := []) (ρ := ρ) g4
  have hk : ∀ ρ, kK false (.en e0) ρ = .ok (.fr sw) ρ := fun ρ => by
    show runK.YH (some (e0.fz, ρ)) = _
    rw [hz]
    rfl
  have hk2 : ∀ ρ, kFr (.en e0) ρ = .ok (.en (.fr sw)) ρ := fun ρ => by
    show R.ok (Val.en e0.fz) ρ = _
    rw [hz]
  simp [gK, k1, k2, k3, k4, hk, hk2]
theorem afC {n : Nat} {hd sf d1 : D} {t : Int} {rp : D} {bu : Bool} {cl : Nat → List En → R En} {a4 b4 c4 : Int} {x7 x8 x9 : Option En} {r1 : aq} (g1 : cl 6 [.fr (.lst [.bl bu, .bl bu, .bl bu]), .fr (.lst [.bl bu, .bl bu, .bl bu])] = .ok (.fr (.bl true)) r1) (gm : dH (.ol [.bl bu]) (.fr (.int 3)) = some (.ol [.bl bu, .bl bu, .bl bu])) : (bH (dR (kJ (au 2 0 [] [0, 1] (cl 6) (aj (ao 11) (aj (aM (aA dH (aP (aj (ao 10) ak)) (runC (.int 3)))) ak)) ak))) (aO [0] (runC (.bl false))) (fun ρ => .ok .nx ρ)) [some (.ol [.int a4, .int b4, .int c4]), some (.fr (.int (n : Nat))), some (.fr (hd)), some (.fr (rp)), some (.fr (sf)), some (.fr (.int (t))), some (.fr (d1)), x7, x8, x9, some (.fr (.bl bu)), some (.fr (.lst [.bl bu, .bl bu, .bl bu])), none] = DM.R.ok Fl.nx [some (.ol [.int a4, .int b4, .int c4]), some (.fr (.int (n : Nat))), some (.fr (hd)), some (.fr (rp)), some (.fr (sf)), some (.fr (.int (t))), some (.fr (d1)), x7, x8, x9, some (.fr (.bl bu)), some (.fr (.lst [.bl bu, .bl bu, .bl bu])), none] := by
  have k1 := fun (ρ : aq) => lD (L := []) (ρ := ρ) g1
  simp [gK, k1, gm]
theorem afD {n : Nat} {hd sf d0 : D} {rp : D} {a4 b4 c4 : Int} {x5 x6 x7 x8 x9 x10 x11 : Option En} (p0 : eZ (.fr hd) (.fr (.int 0)) = some (.fr d0)) : (aA eZ (ao 2) (runC (.int 0))) [some (.ol [.int a4, .int b4, .int c4]), some (.fr (.int (n : Nat))), some (.fr (hd)), some (.fr (rp)), some (.fr (sf)), x5, x6, x7, x8, x9, x10, x11, none] = .ok (.en (.fr d0)) [some (.ol [.int a4, .int b4, .int c4]), some (.fr (.int (n : Nat))), some (.fr (hd)), some (.fr (rp)), some (.fr (sf)), x5, x6, x7, x8, x9, x10, x11, none] := by
  simp [gK, p0]
theorem afE {n : Nat} {hd sf d0 : D} {rp : D} {a4 b4 c4 : Int} {x5 x6 x7 x8 x9 x10 x11 : Option En} (p1 : eZ (.fr hd) (.fr (.int 1)) = some (.fr d0)) : (aA eZ (ao 2) (runC (.int 1))) [some (.ol [.int a4, .int b4, .int c4]), some (.fr (.int (n : Nat))), some (.fr (hd)), some (.fr (rp)), some (.fr (sf)), x5, x6, x7, x8, x9, x10, x11, none] = .ok (.en (.fr d0)) [some (.ol [.int a4, .int b4, .int c4]), some (.fr (.int (n : Nat))), some (.fr (hd)), some (.fr (rp)), some (.fr (sf)), x5, x6, x7, x8, x9, x10, x11, none] := by
  simp [gK, p1]
theorem afF {n : Nat} {hd sf d1 : D} {rp : D} {X : aq → R Val} {a4 b4 c4 : Int} {x5 x6 x7 x8 x9 x10 x11 : Option En} (h0 : X [some (.ol [.int a4, .int b4, .int c4]), some (.fr (.int (n : Nat))), some (.fr (hd)), some (.fr (rp)), some (.fr (sf)), x5, x6, x7, x8, x9, x10, x11, none] = .ok (.en (.fr d1)) [some (.ol [.int a4, .int b4, .int c4]), some (.fr (.int (n : Nat))), some (.fr (hd)), some (.fr (rp)), some (.fr (sf)), x5, x6, x7, x8, x9, x10, x11, none]) : (aR false 12 X) [some (.ol [.int a4, .int b4, .int c4]), some (.fr (.int (n : Nat))), some (.fr (hd)), some (.fr (rp)), some (.fr (sf)), x5, x6, x7, x8, x9, x10, x11, none] = DM.R.ok Fl.nx [some (.ol [.int a4, .int b4, .int c4]), some (.fr (.int (n : Nat))), some (.fr (hd)), some (.fr (rp)), some (.fr (sf)), x5, x6, x7, x8, x9, x10, x11, some (.fr (d1))] := by
  simp [gK, h0]
theorem afG {n : Nat} {hd sf d1 : D} {ws : List D} {rp : D} {cl : Nat → List En → R En} {a4 b4 c4 : Int} {x5 x6 x7 x8 x9 x10 x11 : Option En} {r1 r2 : aq} (g1 : cl 2 [.fr hd, .fr d1] = .ok (.fr (.bl true)) r1) (g2 : cl 2 [.fr hd, .fr (.tup ws)] = .ok (.fr (.bl true)) r2) (gm : dH (.fr (.tup [.tup [.non, .non]])) (.fr (.int (n : Nat))) = some (.fr (.tup ws))) : (aR false 11 (aP (aj (aM (au 2 0 [] [0, 1] (cl 2) (aj (ao 2) (aj (ao 12) ak)) ak)) (aj (aM (au 2 0 [] [0, 1] (cl 2) (aj (ao 2) (aj (aA dH (aK (aj (aK (aj (runC .non) (aj (runC .non) ak))) ak)) (ao 1)) ak)) ak)) ak)))) [some (.ol [.int a4, .int b4, .int c4]), some (.fr (.int (n : Nat))), some (.fr (hd)), some (.fr (rp)), some (.fr (sf)), x5, x6, x7, x8, x9, x10, x11, some (.fr (d1))] = DM.R.ok Fl.nx [some (.ol [.int a4, .int b4, .int c4]), some (.fr (.int (n : Nat))), some (.fr (hd)), some (.fr (rp)), some (.fr (sf)), x5, x6, x7, x8, x9, x10, some (.fr (.lst [.bl true, .bl true])), some (.fr (d1))] := by
  have k1 := fun (ρ : aq) => lD (L := []) (ρ := ρ) g1
  have k2 := fun (ρ : aq) => lD (L := []) (ρ := ρ) g2
  have t1 : ∀ ρ, kTup [.en (.fr (.tup [.non, .non]))] ρ = .ok (.en (.fr (.tup [.tup [.non, .non]]))) ρ := fun ρ => KC ρ rfl (by simp)
  simp [gK, k1, k2, gm, t1]
theorem afH {n : Nat} {hd sf d1 : D} {rp : D} {e0 : En} {cl : Nat → List En → R En} {a4 b4 c4 : Int} {x5 x6 x7 x8 x9 x10 : Option En} {r1 r2 : aq} (g1 : cl 6 [.fr (.lst [.bl true, .bl true]), .fr (.lst [.bl true, .bl true])] = .ok (.fr (.bl true)) r1) (g2 : cl 8 [.fr hd] = .ok (e0) r2) (gr : mZ [.fr hd] = some (.fr rp)) (er : fW false (.fr rp) (.fr rp) = some (.fr (.bl true))) (es : fW false (.fr sf) e0 = some (.fr (.bl true))) : (aO [0] (dU (au 2 0 [] [0, 1] (cl 6) (aj (ao 11) (aj (aM (aP (aj (runC (.bl true)) (aj (runC (.bl true)) ak)))) ak)) ak) (dU (aA (fW false) (aN mZ (aj (ao 2) ak)) (ao 3)) (aA (fW false) (ao 4) (au 1 0 [] [0] (cl 8) (aj (ao 2) ak) ak))))) [some (.ol [.int a4, .int b4, .int c4]), some (.fr (.int (n : Nat))), some (.fr (hd)), some (.fr (rp)), some (.fr (sf)), x5, x6, x7, x8, x9, x10, some (.fr (.lst [.bl true, .bl true])), some (.fr (d1))] = .ok (Fl.rt (.fr (.bl true))) [some (.ol [.int a4, .int b4, .int c4]), some (.fr (.int (n : Nat))), some (.fr (hd)), some (.fr (rp)), some (.fr (sf)), x5, x6, x7, x8, x9, x10, some (.fr (.lst [.bl true, .bl true])), some (.fr (d1))] := by
  have k1 := fun (ρ : aq) => lD (L := []) (ρ := ρ) g1
  have k2 := fun (ρ : aq) => uZ (L := []) (ρ := ρ) g2
  simp [gK, k1, k2, gr, er, es]
end
end SN
end
section
set_option exponentiation.threshold 10000
namespace SN
open PySem L2 DM
structure Yb (cl : Nat → List En → R En) : Prop where
  take : jm (cl 4) 0
  pick : EY (cl 5)
  adC : Fb 5 (cl 9)
  same : V6 2 (cl 6)
  lists : LsOk 3 (cl 8)
  mt : MtG (cl 2)
  lm : adp (cl 10)
/-! wishes as lists -/
theorem afI (x : Option Nat × Option Int) : rG (itD x) = itH false x := by
  obtain ⟨s, c⟩ := x
  cases s <;> cases c <;> simp [itD, itH, rG, QM, oN, oI]
theorem aaH (w : dO) : rG (.tup (lZ w)) = .lst (Jd false w) := by
  rw [rG, jG]
  unfold lZ Jd
  rw [List.map_map]
  congr 1
  exact List.map_congr_left fun x _ => afI x
theorem aaI {k : Nat} (x : Option Nat × Option Int) : jH (k + 1) (itD x) := tR (by simp) fun y hy => by
  obtain ⟨s, c⟩ := x
  simp only [List.mem_cons, List.not_mem_nil, or_false] at hy
  rcases hy with rfl | rfl
  · cases s with
    | none => exact yE
    | some s => exact pX _
  · cases c with
    | none => exact yE
    | some c => exact pX _
theorem Sd {k : Nat} {d : D} {w : dO} (h : Sq d (lZ w)) (hl : w.length ≤ 1000) : jH (k + 2) d := wF h (by unfold lZ; rw [List.length_map]; omega) fun x hx => by
  obtain ⟨y, _, rfl⟩ := List.mem_map.mp hx
  exact aaI y
def qC (q : List Nat) (b : List Int) : dO := List.zipWith (fun s c => (some s, some c)) q b
theorem zQ : ∀ (q : List Nat) (b : List Int), pairs (nD q) (b.map .int) = lZ (qC q b)
  | [], _ => by
    unfold pairs qC nD lZ
    simp
  | _ :: _, [] => by
    unfold pairs qC nD lZ
    simp
  | s :: q, c :: b => by
    have ih := zQ q b
    show D.tup [.int (s : Nat), .int c] :: pairs (nD q) (b.map .int) = itD (some s, some c) :: lZ (qC q b)
    rw [ih]
    rfl
theorem qj {n : Nat} {q : List Nat} {b : List Int} (h1 : q.length = n) (h2 : b.length = n) : (qC q b).length = n := by
  unfold qC
  rw [List.length_zipWith, h1, h2, Nat.min_self]
theorem Yc (q : List Nat) (b : List Int) : oX (qC q b) (q, b) = true := Jk.mpr fun i x hi => by
  unfold qC at hi
  rw [List.getElem?_zipWith] at hi
  cases h1 : q[i]? with
  | none => rw [h1] at hi; simp at hi
  | some s =>
    cases h2 : b[i]? with
    | none => rw [h1, h2] at hi; simp at hi
    | some c =>
      rw [h1, h2] at hi
      cases hi
      have e1 : q.getD i 0 = s := by rw [List.getD_eq_getElem?_getD, h1]; rfl
      have e2 : b.getD i 0 = c := by rw [List.getD_eq_getElem?_getD, h2]; rfl
      unfold Mj
      rw [e1, e2]
      simp
theorem Yd (n : Nat) (s : gj) : oX (vQ n) s = true := Jk.mpr fun i x hi => by
  unfold vQ at hi
  rw [List.getElem?_replicate] at hi
  split at hi
  · cases hi
    unfold Mj
    simp
  · cases hi
theorem Ss {n : Nat} (h2 : 2 ≤ n) (h : n ≤ 1000) : dH (.fr (.tup [.tup [.non, .non]])) (.fr (.int (n : Nat))) = some (.fr (.tup (lZ (vQ n)))) := by
  have e : lZ (vQ n) = List.replicate n (.tup [.non, .non]) := by
    unfold lZ vQ
    rw [List.map_replicate]
    rfl
  have n1 : ∀ m : Nat, (List.replicate m [D.tup [.non, .non]]).flatten = List.replicate m (.tup [.non, .non]) := fun m => by
    induction m with
    | zero => rfl
    | succ m ih => rw [List.replicate_succ, List.flatten_cons, ih]; rfl
  have r : dH (.fr (.tup [.tup [.non, .non]])) (.fr (.int (n : Nat))) = M4 (.fr (.tup [.tup [.non, .non]])) (.fr (.int (n : Nat))) := rfl
  rw [e, r]
  show (if ((n : Nat) : Int) = 1 then some (En.fr (.tup [.tup [.non, .non]])) else if _ ∧ 2 ≤ ((n : Nat) : Int) ∧ ((n : Nat) : Int) ≤ 1000 ∧ _ then some (En.fr (.tup (List.replicate ((n : Nat) : Int).toNat [D.tup [.non, .non]]).flatten)) else none) = _
  rw [if_neg (by omega), if_pos ⟨by simp, by omega, by omega, by simp⟩, Int.toNat_natCast, n1]
theorem Mw {f g : aq → R Val} {ρ : aq} {ds : List D} (h : fJ f g ρ = .ok ds ρ) (hl : ds.length ≤ 1000) : oY f g ρ = .ok (.en (.fr (.tup ds))) ρ := by
  unfold oY
  rw [h, aX, if_pos (by rw [sizeLine_eq]; omega)]
section
variable {cl : Nat → List En → R En}
theorem Jy (H : Yb cl) {x : D} (h : jH 3 x) : ∃ e rest, cl 8 [.fr x] = .ok e rest ∧ e.fz = .fr (rG x) ∧ asD e = some (rG x) := H.lists x h
theorem Pq (H : Yb cl) {x : D} (h : jH 2 x) : ∃ rest, cl 6 [.fr x, .fr x] = .ok (.fr (.bl true)) rest := H.same x h
theorem Jz {k : Nat} (l : List Bool) (hl : l.length ≤ 100) : jH (k + 1) (.lst (l.map .bl)) := V5 (by rw [List.length_map]; omega) fun y hy => by
  obtain ⟨z, _, rfl⟩ := List.mem_map.mp hy
  exact Nz _
theorem aaJ (H : Yb cl) {n : Nat} {q : List Nat} {b : List Int} (g : Gd n q b) (h2 : 2 ≤ n) (h12 : n ≤ 12) {t : Int} (t0 : 0 ≤ t) (t8 : t < 8) {e : En} {K : Int} (hK : 0 ≤ K) (hb : dD (K + 4 * 12) e) {x7 x8 x9 x10 x11 : Option En} :
    ∃ (w : dO) (e' : En) (y7 y8 y9 : Option En), pD (bW (.t [(.n 7), (.n 8)])) (aJ (aR false 9 (aA (fW false) (au 2 0 [0] [0, 1] (cl 4) (aj (ao 0) (aj (aA dH (runC (.int 6)) (aA cI (runC (.int 1)) (ao 5))) ak)) ak) (runC (.int 0))))
  (aJ (aR false 7 (bH (dR (kJ (ao 9))) (au 2 0 [0] [0, 1] (cl 5) (aj (ao 0) (aj (aM (aP (aj (ao 7) (aj (runC .non) ak)))) ak)) ak) (au 2 0 [0] [0, 1] (cl 4) (aj (ao 0) (aj (aA cI (ao 1) (runC (.int 2))) ak)) ak)))
  (iJ (dI 6 dZ (aj (aK (aj (ao 7) (aj (aM (au 2 0 [0] [0, 1] (cl 5) (aj (ao 0) (aj (aM (aP (aj (ao 8) (aj (runC .non) (aj (aA cI (ao 8) (aN sE (aj (aA (fW false) (au 2 0 [0] [0, 1] (cl 4) (aj (ao 0) (aj (runC (.int 20)) ak)) ak) (runC (.int 0))) ak))) ak))))) ak)) ak)) ak))) ak))))) (pairs (nD q) (b.map .int)) [some e, some (.fr (.int (n : Nat))), some (.fr ((hS (q, b)))), some (.fr ((qO (hS (q, b))))), some (.fr ((dM q b))), some (.fr (.int (t))), some (.ol []), x7, x8, x9, x10, x11, none] = .ok .nx [some e', some (.fr (.int (n : Nat))), some (.fr ((hS (q, b)))), some (.fr ((qO (hS (q, b))))), some (.fr ((dM q b))), some (.fr (.int (t))), some (.ol (lZ w)), y7, y8, y9, x10, x11, none] ∧ w.length = n ∧ dD K e' := by
  have hlen : (pairs (nD q) (b.map .int)).length = n := by
    rw [bJ, lF, List.length_map, g.d7, g.len, Nat.min_self]
  obtain ⟨ρ', lp, w, e6, y7, y8, y9, rfl, wl, bx6⟩ := yX (fg := bW (.t [(.n 7), (.n 8)])) (fb := (aJ (aR false 9 (aA (fW false) (au 2 0 [0] [0, 1] (cl 4) (aj (ao 0) (aj (aA dH (runC (.int 6)) (aA cI (runC (.int 1)) (ao 5))) ak)) ak) (runC (.int 0))))
  (aJ (aR false 7 (bH (dR (kJ (ao 9))) (au 2 0 [0] [0, 1] (cl 5) (aj (ao 0) (aj (aM (aP (aj (ao 7) (aj (runC .non) ak)))) ak)) ak) (au 2 0 [0] [0, 1] (cl 4) (aj (ao 0) (aj (aA cI (ao 1) (runC (.int 2))) ak)) ak)))
  (iJ (dI 6 dZ (aj (aK (aj (ao 7) (aj (aM (au 2 0 [0] [0, 1] (cl 5) (aj (ao 0) (aj (aM (aP (aj (ao 8) (aj (runC .non) (aj (aA cI (ao 8) (aN sE (aj (aA (fW false) (au 2 0 [0] [0, 1] (cl 4) (aj (ao 0) (aj (runC (.int 20)) ak)) ak) (runC (.int 0))) ak))) ak))))) ak)) ak)) ak))) ak)))))) (P := fun j ρ => ∃ (w : dO) (e : En) (x7 x8 x9 : Option En), ρ = [some e, some (.fr (.int (n : Nat))), some (.fr ((hS (q, b)))), some (.fr ((qO (hS (q, b))))), some (.fr ((dM q b))), some (.fr (.int (t))), some (.ol (lZ w)), x7, x8, x9, x10, x11, none] ∧ w.length = j ∧ dD (K + 4 * ((12 : Int) - (j : Nat))) e) (pairs (nD q) (b.map .int)) 0 [some e, some (.fr (.int (n : Nat))), some (.fr ((hS (q, b)))), some (.fr ((qO (hS (q, b))))), some (.fr ((dM q b))), some (.fr (.int (t))), some (.ol []), x7, x8, x9, x10, x11, none] ⟨[], e, x7, x8, x9, rfl, rfl, hb.mono (by omega)⟩ fun j d ρ hj ⟨w, e, x7, x8, x9, hρ, hwl, hbx⟩ => by
    subst hρ
    have jn := (List.getElem?_eq_some_iff.mp hj).1
    rw [hlen] at jn
    obtain ⟨_, _, rfl⟩ := R4 hj
    rw [Nat.zero_add] at hwl hbx ⊢
    generalize hs : q.getD j 0 = s at *
    generalize hc : b.getD j 0 = c at *
    have gm : dH (.fr (.int 6)) (.fr (.int (1 + t))) = some (.fr (.int (6 * (1 + t)))) := Wn (by decide) (by
      have : (1 + t).natAbs < 100 := by omega
      exact Nat.lt_trans this (by decide))
    obtain ⟨z, e5, _, f1, f2, f3, f4⟩ := H.take (K + 4 * ((12 : Int) - (j : Nat)) - 1) e (6 * (1 + t)) (by omega) (by rw [show (10 : Int) ^ (7 * (0 + 1)) = 10000000 by decide]; omega) (by omega) (hbx.mono (by omega))
    have key : ∀ bo : Bool, fW false (.fr (.int z)) (.fr (.int 0)) = some (.fr (.bl bo)) → ∃ ρ2, (aJ (aR false 9 (aA (fW false) (au 2 0 [0] [0, 1] (cl 4) (aj (ao 0) (aj (aA dH (runC (.int 6)) (aA cI (runC (.int 1)) (ao 5))) ak)) ak) (runC (.int 0))))
  (aJ (aR false 7 (bH (dR (kJ (ao 9))) (au 2 0 [0] [0, 1] (cl 5) (aj (ao 0) (aj (aM (aP (aj (ao 7) (aj (runC .non) ak)))) ak)) ak) (au 2 0 [0] [0, 1] (cl 4) (aj (ao 0) (aj (aA cI (ao 1) (runC (.int 2))) ak)) ak)))
  (iJ (dI 6 dZ (aj (aK (aj (ao 7) (aj (aM (au 2 0 [0] [0, 1] (cl 5) (aj (ao 0) (aj (aM (aP (aj (ao 8) (aj (runC .non) (aj (aA cI (ao 8) (aN sE (aj (aA (fW false) (au 2 0 [0] [0, 1] (cl 4) (aj (ao 0) (aj (runC (.int 20)) ak)) ak) (runC (.int 0))) ak))) ak))))) ak)) ak)) ak))) ak))))) [some e, some (.fr (.int (n : Nat))), some (.fr ((hS (q, b)))), some (.fr ((qO (hS (q, b))))), some (.fr ((dM q b))), some (.fr (.int (t))), some (.ol (lZ w)), some (.fr (.int (s : Nat))), some (.fr (.int c)), x9, x10, x11, none] = .ok .nx ρ2 ∧ ∃ (w' : dO) (e' : En) (x7 x8 x9 : Option En), ρ2 = [some e', some (.fr (.int (n : Nat))), some (.fr ((hS (q, b)))), some (.fr ((qO (hS (q, b))))), some (.fr ((dM q b))), some (.fr (.int (t))), some (.ol (lZ w')), x7, x8, x9, x10, x11, none] ∧ w'.length = j + 1 ∧ dD (K + 4 * ((12 : Int) - ((j + 1 : Nat) : Int))) e' := fun bo eb => by
      obtain ⟨a5, b5, c5, rfl⟩ := hbx.en
      obtain ⟨a6, b6, c6, rfl⟩ := f4.en
      have s0 := abo (n := n) (hd := (hS (q, b))) (sf := (dM q b)) (rp := qO (hS (q, b))) (ws := lZ w) (d0 := .int (s : Nat)) (y := c) (x9 := x9) (x10 := x10) (x11 := x11) f1 gm eb
      have fin : ∀ (x : Option Nat) (e7 : En), dD (K + 4 * ((12 : Int) - (j : Nat)) - 2) e7 → (aR false 7 (bH (dR (kJ (ao 9))) (au 2 0 [0] [0, 1] (cl 5) (aj (ao 0) (aj (aM (aP (aj (ao 7) (aj (runC .non) ak)))) ak)) ak) (au 2 0 [0] [0, 1] (cl 4) (aj (ao 0) (aj (aA cI (ao 1) (runC (.int 2))) ak)) ak))) [some (aY a6 b6 c6), some (.fr (.int (n : Nat))), some (.fr ((hS (q, b)))), some (.fr ((qO (hS (q, b))))), some (.fr ((dM q b))), some (.fr (.int (t))), some (.ol ((lZ w))), some (.fr ((.int (s : Nat)))), some (.fr (.int (c))), some (.fr (.bl bo)), x10, x11, none] = .ok .nx [some e7, some (.fr (.int (n : Nat))), some (.fr ((hS (q, b)))), some (.fr ((qO (hS (q, b))))), some (.fr ((dM q b))), some (.fr (.int (t))), some (.ol ((lZ w))), some (.fr ((oN x))), some (.fr (.int (c))), some (.fr (.bl bo)), x10, x11, none] → ∃ ρ2, (aJ (aR false 9 (aA (fW false) (au 2 0 [0] [0, 1] (cl 4) (aj (ao 0) (aj (aA dH (runC (.int 6)) (aA cI (runC (.int 1)) (ao 5))) ak)) ak) (runC (.int 0))))
  (aJ (aR false 7 (bH (dR (kJ (ao 9))) (au 2 0 [0] [0, 1] (cl 5) (aj (ao 0) (aj (aM (aP (aj (ao 7) (aj (runC .non) ak)))) ak)) ak) (au 2 0 [0] [0, 1] (cl 4) (aj (ao 0) (aj (aA cI (ao 1) (runC (.int 2))) ak)) ak)))
  (iJ (dI 6 dZ (aj (aK (aj (ao 7) (aj (aM (au 2 0 [0] [0, 1] (cl 5) (aj (ao 0) (aj (aM (aP (aj (ao 8) (aj (runC .non) (aj (aA cI (ao 8) (aN sE (aj (aA (fW false) (au 2 0 [0] [0, 1] (cl 4) (aj (ao 0) (aj (runC (.int 20)) ak)) ak) (runC (.int 0))) ak))) ak))))) ak)) ak)) ak))) ak))))) [some (aY a5 b5 c5), some (.fr (.int (n : Nat))), some (.fr ((hS (q, b)))), some (.fr ((qO (hS (q, b))))), some (.fr ((dM q b))), some (.fr (.int (t))), some (.ol ((lZ w))), some (.fr ((.int (s : Nat)))), some (.fr (.int (c))), x9, x10, x11, none] = .ok .nx ρ2 ∧ ∃ (w' : dO) (e' : En) (x7 x8 x9 : Option En), ρ2 = [some e', some (.fr (.int (n : Nat))), some (.fr ((hS (q, b)))), some (.fr ((qO (hS (q, b))))), some (.fr ((dM q b))), some (.fr (.int (t))), some (.ol (lZ w')), x7, x8, x9, x10, x11, none] ∧ w'.length = j + 1 ∧ dD (K + 4 * ((12 : Int) - ((j + 1 : Nat) : Int))) e' := fun x e7 bx7 s1 => by
        obtain ⟨z2, e8, _, h1, h2', h3, h4⟩ := H.take (K + 4 * ((12 : Int) - (j : Nat)) - 3) e7 20 (by omega) (by decide) (by omega) (bx7.mono (by omega))
        obtain ⟨b2, eb2⟩ : ∃ b2, fW false (.fr (.int z2)) (.fr (.int 0)) = some (.fr (.bl b2)) := ⟨_, tV _ _ _⟩
        obtain ⟨d2, e9, _, m1, m2, m3⟩ := H.pick (K + 4 * ((12 : Int) - ((j + 1 : Nat) : Int))) e8 (.lst [.int c, .non, .int (c + Yj b2)]) [.int c, .non, .int (c + Yj b2)] (.inr rfl) (by omega) (by simp) (by simp) (h4.mono (by omega))
        obtain ⟨y, rfl⟩ : ∃ y : Option Int, d2 = oI y := by
          simp only [List.mem_cons, List.not_mem_nil, or_false] at m2
          rcases m2 with rfl | rfl | rfl
          · exact ⟨some c, rfl⟩
          · exact ⟨none, rfl⟩
          · exact ⟨some _, rfl⟩
        obtain ⟨a7, b7, c7, rfl⟩ := bx7.en
        obtain ⟨a8, b8, c8, rfl⟩ := h4.en
        obtain ⟨a9, b9, c9, rfl⟩ := m3.en
        have s2 := afz (n := n) (hd := (hS (q, b))) (sf := (dM q b)) (rp := qO (hS (q, b))) (t := t) (ws := lZ w) (d1 := oN x) (y := c) (bo := bo) (x10 := x10) (x11 := x11) h1 eb2 (VN b2) m1 (by unfold lZ; rw [List.length_map]; omega)
        rw [aax] at s2
        exact ⟨_, cX s0 (cX s1 s2), w ++ [(x, y)], _, _, _, _, rfl, by rw [List.length_append, hwl]; rfl, m3⟩
      cases bo with
      | false =>
        obtain ⟨d1, e7, _, h1, h2', h3⟩ := XQ H.pick (K + 4 * ((12 : Int) - (j : Nat)) - 2) (aY a6 b6 c6) (.int (s : Nat)) 1 (by decide) (by omega) (f4.mono (by omega))
        obtain ⟨x, rfl, _⟩ := adh h2'
        obtain ⟨a7, b7, c7, rfl⟩ := h3.en
        exact fin x _ h3 (ahR h1)
      | true =>
        obtain ⟨z1, e7, _, h1, h2', h3, h4⟩ := H.take (K + 4 * ((12 : Int) - (j : Nat)) - 2) (aY a6 b6 c6) ((n : Nat) + 2) (by omega) (by rw [show (10 : Int) ^ (7 * (0 + 1)) = 10000000 by decide]; omega) (by omega) (f4.mono (by omega))
        obtain ⟨a7, b7, c7, rfl⟩ := h4.en
        obtain ⟨x, rfl⟩ : ∃ x : Nat, z1 = (x : Nat) := ⟨z1.toNat, by omega⟩
        exact fin (some x) _ h4 (ahS h1)
    obtain ⟨ρ2, k1, k2⟩ := key _ (tV _ _ _)
    exact ⟨_, ρ2, rfl, k1, k2⟩
  rw [Nat.zero_add, hlen] at wl bx6
  exact ⟨w, e6, y7, y8, y9, lp, wl, bx6.mono (by omega)⟩
theorem Ye (H : Yb cl) : Fd (aQ 13 (jc cl)) := by
  intro e hb
  have ajb : (3000 : Int) ≤ 2 ^ 39 := by decide
  have ten : (10 : Int) ^ (7 * (0 + 1)) = 10000000 := by decide
  obtain ⟨y, e1, _, g1, g2, g3, bx1⟩ := H.take 2000 e 11 (by decide) (by rw [ten]; decide) (by decide) (hb.mono (by omega))
  obtain ⟨n, hn⟩ : ∃ n : Nat, 2 + y = (n : Nat) := ⟨(2 + y).toNat, by omega⟩
  obtain ⟨tpd, e2, _, k1, k2, bx2⟩ := H.pick 1900 e1 (.lst [.int 1, .int 9, .int 800000000000000000000000000000000000000]) [.int 1, .int 9, .int 800000000000000000000000000000000000000] (.inr rfl) (by decide) (by simp) (by simp) (bx1.mono (by decide))
  obtain ⟨tp, rfl, tp0, tp1⟩ : ∃ i : Int, tpd = .int i ∧ 0 ≤ i ∧ i ≤ 800000000000000000000000000000000000000 := by
    simp only [List.mem_cons, List.not_mem_nil, or_false] at k2
    rcases k2 with rfl | rfl | rfl
    · exact ⟨_, rfl, by decide, by decide⟩
    · exact ⟨_, rfl, by decide, by decide⟩
    · exact ⟨_, rfl, by decide, by decide⟩
  obtain ⟨q, b, e3, _, l1, g, l3, bx3⟩ := H.adC 1500 e2 n tp (by decide) (by omega) tp0 (by
    have : (10 : Int) ^ (7 * (5 + 1)) = 1000000000000000000000000000000000000000000 := by decide
    rw [this]
    omega) (bx2.mono (by omega))
  have h2 : 2 ≤ n := by omega
  have h12 : n ≤ 12 := by omega
  have l1 : cl 9 [e2, .fr (.int (n : Nat)), .fr (.int tp)] = .ok (.fr (hS (q, b))) (some e3 :: _) := l1
  have hsum : b.sum ≤ 10 ^ 45 := by
    have := NT b tp l3
    rw [g.len] at this
    have h := Int.mul_le_mul tp1 (show ((n : Nat) : Int) ≤ 12 by omega) (by omega) (by decide)
    exact Int.le_trans this (Int.le_trans h (by decide))
  have gs : Gs n q b := ⟨g, hsum⟩
  have gr := Rf gs (by omega)
  have gr : mZ [.fr (hS (q, b))] = some (.fr (qO (hS (q, b)))) := gr
  obtain ⟨es, _, m1, m2, m3⟩ := Jy H (gs.nest (k := 1) (by omega))
  rw [Zr] at m2 m3
  have m1 : cl 8 [.fr (hS (q, b))] = .ok es _ := m1
  obtain ⟨a0, b0, c0, rfl⟩ := hb.en
  obtain ⟨a1, b1, c1, rfl⟩ := bx1.en
  obtain ⟨a2, b2, c2, rfl⟩ := bx2.en
  obtain ⟨a3, b3, c3, rfl⟩ := bx3.en
  have p0 : eZ (.fr (hS (q, b))) (.fr (.int 0)) = some (.fr (.tup (nD q))) := rfl
  have p1 : eZ (.fr (hS (q, b))) (.fr (.int 1)) = some (.fr (.tup (b.map .int))) := rfl
  obtain ⟨ρ', lp, e4, x5, x6, x7, x8, x9, x10, x11, rfl, bx4⟩ := yX (fg := bW (.n 5)) (fb := (aJ (aR true 6 (aP ak))
  (aJ (runFor (fJ (aA eZ (ao 2) (runC (.int 0))) (aA eZ (ao 2) (runC (.int 1)))) (bW (.t [(.n 7), (.n 8)])) (aJ (aR false 9 (aA (fW false) (au 2 0 [0] [0, 1] (cl 4) (aj (ao 0) (aj (aA dH (runC (.int 6)) (aA cI (runC (.int 1)) (ao 5))) ak)) ak) (runC (.int 0))))
  (aJ (aR false 7 (bH (dR (kJ (ao 9))) (au 2 0 [0] [0, 1] (cl 5) (aj (ao 0) (aj (aM (aP (aj (ao 7) (aj (runC .non) ak)))) ak)) ak) (au 2 0 [0] [0, 1] (cl 4) (aj (ao 0) (aj (aA cI (ao 1) (runC (.int 2))) ak)) ak)))
  (iJ (dI 6 dZ (aj (aK (aj (ao 7) (aj (aM (au 2 0 [0] [0, 1] (cl 5) (aj (ao 0) (aj (aM (aP (aj (ao 8) (aj (runC .non) (aj (aA cI (ao 8) (aN sE (aj (aA (fW false) (au 2 0 [0] [0, 1] (cl 4) (aj (ao 0) (aj (runC (.int 20)) ak)) ak) (runC (.int 0))) ak))) ak))))) ak)) ak)) ak))) ak))))))
  (aJ (jM false true 10 6 (au 2 0 [] [0, 1] (cl 10) (aj (ao 2) (aj (aM (ao 6)) ak)) ak) (aN g8 (aj (ao 6) ak)))
  (aJ (aR false 11 (aP (aj (aM (au 2 0 [] [0, 1] (cl 2) (aj (ao 2) (aj (aM (ao 6)) ak)) ak)) (aj (aM (au 0 2 [] [1, 0] (cl 2) ak (aj (aM (au 1 0 [] [0] (cl 8) (aj (aM (ao 6)) ak) ak)) (aj (ao 4) ak)))) (aj (aM (au 2 0 [] [0, 1] (cl 2) (aj (ao 4) (aj (aM (ao 6)) ak)) ak)) ak)))))
  (bH (dR (kJ (au 2 0 [] [0, 1] (cl 6) (aj (ao 11) (aj (aM (aA dH (aP (aj (ao 10) ak)) (runC (.int 3)))) ak)) ak))) (aO [0] (runC (.bl false))) (fun ρ => .ok .nx ρ))))))) (P := fun j ρ => ∃ (e : En) (x5 x6 x7 x8 x9 x10 x11 : Option En), ρ = [some e, some (.fr (.int (n : Nat))), some (.fr ((hS (q, b)))), some (.fr ((qO (hS (q, b))))), some (.fr ((dM q b))), x5, x6, x7, x8, x9, x10, x11, none] ∧ dD (100 + 50 * ((8 : Int) - (j : Nat))) e) (bV 0 8) 0 [some (aY a3 b3 c3), some (.fr (.int (n : Nat))), some (.fr ((hS (q, b)))), some (.fr ((qO (hS (q, b))))), some (.fr ((dM q b))), none, none, none, none, none, none, none, none] ⟨aY a3 b3 c3, none, none, none, none, none, none, none, rfl, bx3.mono (by decide)⟩ fun j dk ρ hk ⟨e, x5, x6, x7, x8, x9, x10, x11, hρ, hbx⟩ => by
    subst hρ
    have hkl := (List.getElem?_eq_some_iff.mp hk).1
    rw [bD] at hkl
    rw [wZ hkl, Int.zero_add] at hk
    cases hk
    rw [Nat.zero_add] at hbx ⊢
    obtain ⟨w, e', y7, y8, y9, hp, wl, bx⟩ := aaJ H g h2 h12 (t := ((j : Nat) : Int)) (by omega) (by omega) (K := 100 + 50 * ((8 : Int) - (j : Nat)) - 50) (by omega) (hbx.mono (by omega)) (x7 := x7) (x8 := x8) (x9 := x9) (x10 := x10) (x11 := x11)
    obtain ⟨a4, b4, c4, rfl⟩ := hbx.en
    obtain ⟨a5, b5, c5, rfl⟩ := bx.en
    obtain ⟨_, o1⟩ := H.lm n (q, b) (.lst (lZ w)) w g.d7 g.len (.inr rfl) wl
    have sw : SqW (.tup (lZ w)) w := .of (.inl rfl)
    obtain ⟨_, o2⟩ := H.mt n (hS (q, b)) (.tup (lZ w)) q b w St.hard g.d7 g.len sw wl (by omega)
    obtain ⟨ew, _, o3, o4, _⟩ := Jy H (Sd (k := 1) (d := .tup (lZ w)) (w := w) (.inl rfl) (by omega))
    rw [aaH] at o4
    obtain ⟨_, o5⟩ := H.mt n (dM q b) (.lst (Jd false w)) q b w St.soft g.d7 g.len (.soft (.inr rfl)) wl (by omega)
    obtain ⟨_, o6⟩ := H.mt n (dM q b) (.tup (lZ w)) q b w St.soft g.d7 g.len sw wl (by omega)
    obtain ⟨_, o7⟩ := Pq H (Jz (k := 1) [oX w (q, b), oX w (q, b), oX w (q, b)] (by simp))
    have gm : dH (.ol [.bl (oX w (q, b))]) (.fr (.int 3)) = some (.ol [.bl (oX w (q, b)), .bl (oX w (q, b)), .bl (oX w (q, b))]) := rfl
    have zz : (fJ (aA eZ (ao 2) (runC (.int 0))) (aA eZ (ao 2) (runC (.int 1)))) [some (aY a4 b4 c4), some (.fr (.int (n : Nat))), some (.fr ((hS (q, b)))), some (.fr ((qO (hS (q, b))))), some (.fr ((dM q b))), some (.fr (.int (((j : Nat) : Int)))), some (.ol []), x7, x8, x9, x10, x11, none] = .ok (pairs (nD q) (b.map .int)) [some (aY a4 b4 c4), some (.fr (.int (n : Nat))), some (.fr ((hS (q, b)))), some (.fr ((qO (hS (q, b))))), some (.fr ((dM q b))), some (.fr (.int (((j : Nat) : Int)))), some (.ol []), x7, x8, x9, x10, x11, none] := qI (cW (afx p0) rfl rfl) (cW (afy p1) rfl rfl)
    have s0 := afw (n := n) (hd := (hS (q, b))) (sf := (dM q b)) (rp := qO (hS (q, b))) (t := ((j : Nat) : Int)) (x6 := x6) (x7 := x7) (x8 := x8) (x9 := x9) (x10 := x10) (x11 := x11) (a4 := a4) (b4 := b4) (c4 := c4)
    have s2 := afA (n := n) (sf := (dM q b)) (rp := qO (hS (q, b))) (t := ((j : Nat) : Int)) (x7 := y7) (x8 := y8) (x9 := y9) (x10 := x10) (x11 := x11) (a4 := a5) (b4 := b5) (c4 := c5) o1
    have s3 := afB (n := n) (rp := qO (hS (q, b))) (t := ((j : Nat) : Int)) (x7 := y7) (x8 := y8) (x9 := y9) (x11 := x11) (a4 := a5) (b4 := b5) (c4 := c5) o2 o3 o5 o6 o4
    have s4 := afC (n := n) (hd := (hS (q, b))) (sf := (dM q b)) (rp := qO (hS (q, b))) (t := ((j : Nat) : Int)) (d1 := .tup (lZ w)) (x7 := y7) (x8 := y8) (x9 := y9) (a4 := a5) (b4 := b5) (c4 := c5) o7 gm
    exact ⟨_, _, rfl, cX s0 (cX (rH zz hp) (cX s2 (cX s3 s4))), aY a5 b5 c5, _, _, _, _, _, _, _, rfl, bx.mono (by omega)⟩
  rw [Nat.zero_add, bD] at bx4
  obtain ⟨a4, b4, c4, rfl⟩ := bx4.en
  obtain ⟨_, o1⟩ := H.mt n (hS (q, b)) (.tup (lZ (qC q b))) q b (qC q b) St.hard g.d7 g.len (.of (.inl rfl)) (qj g.d7 g.len) (by omega)
  rw [Yc] at o1
  obtain ⟨_, o2⟩ := H.mt n (hS (q, b)) (.tup (lZ (vQ n))) q b (vQ n) St.hard g.d7 g.len (.of (.inl rfl)) (Xw n) (by omega)
  rw [Yd] at o2
  obtain ⟨_, o3⟩ := Pq H (Jz (k := 1) [true, true] (by simp))
  have hlen : (pairs (nD q) (b.map .int)).length = n := by
    rw [bJ, lF, List.length_map, g.d7, g.len, Nat.min_self]
  have RXz : (oY (aA eZ (ao 2) (runC (.int 0))) (aA eZ (ao 2) (runC (.int 1)))) [some (aY a4 b4 c4), some (.fr (.int (n : Nat))), some (.fr ((hS (q, b)))), some (.fr ((qO (hS (q, b))))), some (.fr ((dM q b))), x5, x6, x7, x8, x9, x10, x11, none] = .ok (.en (.fr (.tup (lZ (qC q b))))) [some (aY a4 b4 c4), some (.fr (.int (n : Nat))), some (.fr ((hS (q, b)))), some (.fr ((qO (hS (q, b))))), some (.fr ((dM q b))), x5, x6, x7, x8, x9, x10, x11, none] := by
    rw [← zQ]
    exact Mw (qI (cW (afD p0) rfl rfl) (cW (afE p1) rfl rfl)) (by omega)
  have er := acB (Zu q b) false
  have eso : fW false (.fr (dM q b)) es = some (.fr (.bl true)) := jE (Rc q b) (by decide) rfl m3
  have sq : (gD (aj (runC (.int 8)) ak)) [some (aY a3 b3 c3), some (.fr (.int (n : Nat))), some (.fr ((hS (q, b)))), some (.fr ((qO (hS (q, b))))), some (.fr ((dM q b))), none, none, none, none, none, none, none, none] = .ok (bV 0 8) [some (aY a3 b3 c3), some (.fr (.int (n : Nat))), some (.fr ((hS (q, b)))), some (.fr ((qO (hS (q, b))))), some (.fr ((dM q b))), none, none, none, none, none, none, none, none] := rfl
  exact ⟨_, oU (ρ0 := [some (.ol [.int a0, .int b0, .int c0]), none, none, none, none, none, none, none, none, none, none, none, none]) rfl (cX (aft g1 hn) (cX (afu k1 l1 ahQ) (cX (afv m1 gr m2) (cX (rH sq lp) (cX (afF RXz) (cX (afG o1 o2 (Ss h2 (by omega))) (afH o3 m1 gr er eso)))))))⟩
end
theorem Yg (k n : Nat) (h : n ≤ 41) : jm (call (k + n + 1) 4) n := zf (i := 4) (call := call) (fun _ => rfl) k n h
theorem Pr (k : Nat) : jm (call (k + 1) 4) 0 := Yg k 0 (by decide)
theorem afJ (k : Nat) : ∀ n, V6 n (call (k + n + 1) 6)
  | 0 => aaj (i := 6) (cl := call k)
  | n + 1 => aak (i := 6) (cl := call (k + n + 1)) (afJ k n)
theorem afK (k : Nat) : ∀ n, LsOk n (call (k + n + 1) 8)
  | 0 => acC (i := 8) (cl := call k)
  | n + 1 => acD (i := 8) (cl := call (k + n + 1)) (afK k n)
theorem pm (k : Nat) : acA (call (k + 1) 0) := yC (cl := call k)
theorem look (k : Nat) : Ln (call (k + 1) 1) := W3 (r := pZ 4 (ao 1))
theorem mtg (k : Nat) : MtG (call (k + 2) 2) := RX (iP := 0) (iL := 1) (cl := call (k + 1)) (pm k) (look k)
theorem pick (k : Nat) : EY (call (k + 2) 5) := aad (i := 4) (cl := call (k + 1)) (Pr k)
theorem Ec (k : Nat) : vg (call (k + 2) 7) := Ma (i := 4) (cl := call (k + 1)) (Pr k)
theorem adC (k : Nat) : Fb 0 (call (k + 3) 9) := OJ (i := 4) (j := 7) (cl := call (k + 2)) (Pr (k + 1)) (Ec k)
theorem lmt (k : Nat) : adp (call (k + 1) 10) := R9 (cl := call k)
theorem afL (k : Nat) : Fb 5 (call (k + 7) 9) := OJ (i := 4) (j := 7) (cl := call (k + 6)) (Yg k 5 (by decide)) (Ec (k + 4))
theorem hyps (k : Nat) : Yb (call (k + 50)) where
  take := Pr (k + 49)
  pick := pick (k + 48)
  adC := afL (k + 43)
  same := afJ (k + 47) 2
  lists := afK (k + 46) 3
  mt := mtg (k + 48)
  lm := lmt (k + 49)
theorem right (k : Nat) : Fd (call (k + 51) 11) := Ye (cl := call (k + 50)) (hyps k)
theorem Yh : ∀ ns : List Int, ns.length ≤ 63 → (∀ z ∈ ns, Builtin.Int.intBits z ≤ 1048576) → ∃ ρ, call 60 12 [.d8 (ns.map .int)] = .ok (.fr (.bl true)) ρ := by
  intro ns h1 h2
  exact aai (cB := 3) (cR := 11) (most := 3) (cl := call 59) (aac (cl := call 58)) (right 8) (by decide) h1 h2
end SN
end
section
open PySem PySem.W PyProof.Rows
set_option maxHeartbeats 0 in
theorem PySem.Challenge.cw_tollround_k34_wishes_that_are_met_holds : PySem.Challenge.rw_tollround_k34_wishes_that_are_met.Holds := by
  w_on; o_law; k_head; (case hw => w_witness2)
  k_fill
  refine DM.Zb (l := PySem.Challenge.rw_tollround_k34_wishes_that_are_met) (n := 63) (k := 60 + 2) (x := "_law_script") (L := []) (cs := [1]) (XR := DM.fM) (run := SN.call 60 12) rfl (by decide) rfl ⟨rfl, by decide, by decide⟩ (fun w h Y => PySem.W.kIn_of Y) ?F (fun ns h1 h2 => SN.Yh ns h1 h2)
  case F =>
    intro w mg fa h KX G hmg
    refine' SN.all_mk KX G hmg ?a0 ?l0 ?c0 ?k0 ?a1 ?l1 ?c1 ?k1 ?a2 ?l2 ?c2 ?k2 ?a3 ?l3 ?c3 ?k3 ?a4 ?l4 ?c4 ?k4 ?a5 ?l5 ?c5 ?k5 ?a6 ?l6 ?c6 ?k6 ?a7 ?l7 ?c7 ?k7 ?a8 ?l8 ?c8 ?k8 ?a9 ?l9 ?c9 ?k9 ?a10 ?l10 ?c10 ?k10 ?a11 ?l11 ?c11 ?k11 ?a12 ?l12 ?c12 ?k12 ?xa4 ?xl4 ?xs4 ?xg4 ?xh4 ?xf4 ?xi4 ?xt4 ?xk4 ?xc4 ?yl4 ?yc4 ?yk4 ?jd ?Ck ?Cm ?vq ?zJ ?bf ?oE ?mW ?Jt ?jZ ?vA ?zK ?gR ?uD 60
    (case a0 => k_is); (case l0 => k_is); (case c0 => k_is); (case k0 => k_is); (case a1 => k_is); (case l1 => k_is); (case c1 => k_is); (case k1 => k_is); (case a2 => k_is); (case l2 => k_is); (case c2 => k_is); (case k2 => k_is); (case a3 => k_is); (case l3 => k_is); (case c3 => k_is); (case k3 => k_is); (case a4 => k_is); (case l4 => k_is); (case c4 => k_is); (case k4 => k_is); (case a5 => k_is); (case l5 => k_is); (case c5 => k_is); (case k5 => k_is); (case a6 => k_is); (case l6 => k_is); (case c6 => k_is); (case k6 => k_is); (case a7 => k_is); (case l7 => k_is); (case c7 => k_is); (case k7 => k_is); (case a8 => k_is); (case l8 => k_is); (case c8 => k_is); (case k8 => k_is); (case a9 => k_is); (case l9 => k_is); (case c9 => k_is); (case k9 => k_is); (case a10 => k_is); (case l10 => k_is); (case c10 => k_is); (case k10 => k_is); (case a11 => k_is); (case l11 => k_is); (case c11 => k_is); (case k11 => k_is); (case a12 => k_is); (case l12 => k_is); (case c12 => k_is); (case k12 => k_is); (case xa4 => k_is); (case xl4 => k_is); (case xs4 => k_is); (case xg4 => k_is); (case xh4 => k_is); (case xf4 => k_is); (case xi4 => k_is); (case xt4 => k_is); (case xk4 => k_is); (case xc4 => k_is); (case yl4 => k_is); (case yc4 => k_is); (case yk4 => k_is); (case jd => k_is); (case Ck => k_is); (case Cm => k_is); (case vq => k_is); (case zJ => k_is); (case bf => k_is); (case oE => k_is); (case mW => k_is); (case Jt => k_is); (case jZ => k_is); (case vA => k_is); (case zK => k_is); (case gR => k_is); (case uD => k_is)
end
